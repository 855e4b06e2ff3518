import PyProof.Rows.All
import Wide.All
import OpenK.AllK
import Wide.FinOn
import Lean
import PySem.Challenge.RW_nn0359_01
open PySem PySem.W PyProof.Rows
set_option Elab.async false
set_option linter.all false
namespace Mine
end Mine
open Mine
section
namespace Mine.hd
theorem tw10458740792067480800 : True := trivial
theorem tw9499510787657705874 : True := trivial
theorem tw15643275761693703936 : True := trivial
theorem tw5480042469492414594 : True := trivial
theorem tw14835919218567510360 : True := trivial
theorem tw2252305205657439004 : True := trivial
theorem tw2887051446865420828 : True := trivial
theorem tw8977307856219701671 : True := trivial
theorem tw12112201142124510154 : True := trivial
theorem tw5238900199007264825 : True := trivial
theorem tw1865391376527767206 : True := trivial
theorem tw4494801613693538912 : True := trivial
theorem tw3451239065008710300 : True := trivial
theorem tw16970440968685349367 : True := trivial
theorem tw13790719812936386609 : True := trivial
theorem tw7085514621470718492 : True := trivial
theorem tw15910714762333108613 : True := trivial
theorem tw8381844023166312768 : True := trivial
theorem tw9741134391959003819 : True := trivial
theorem tw8228950375871286339 : True := trivial
theorem tw10727248033764811480 : True := trivial
theorem tw15508949281206285077 : True := trivial
theorem tw2386827423013361158 : True := trivial
theorem tw5987830557187376847 : True := trivial
theorem tw6060742912462422084 : True := trivial
theorem tw10012880186880212623 : True := trivial
theorem tw2930668341846507884 : True := trivial
theorem tw15616948245753086127 : True := trivial
theorem tw10508133024638518461 : True := trivial
theorem tw5366084841770067474 : True := trivial
theorem tw16473244170626142550 : True := trivial
theorem tw9427301549700849589 : True := trivial
theorem tw15615537253650120727 : True := trivial
theorem tw1589133516308662214 : True := trivial
theorem tw14176624398918483544 : True := trivial
theorem tw7914949630228597729 : True := trivial
theorem tw15852365999677673905 : True := trivial
theorem tw11128854368766332075 : True := trivial
theorem tw395138700845864316 : True := trivial
theorem tw15220180469806662145 : True := trivial
theorem tw17562767543260142214 : True := trivial
theorem tw10246146449241189800 : True := trivial
theorem tw6082411064634330575 : True := trivial
theorem tw3789350110615891812 : True := trivial
theorem tw15967140613478806237 : True := trivial
theorem tw18343703819029505601 : True := trivial
theorem tw6291416237084387574 : True := trivial
theorem tw11251137523995926341 : True := trivial
theorem tw16299908979028503884 : True := trivial
theorem tw11709330566771433103 : True := trivial
theorem tw6438293893037913957 : True := trivial
theorem tw13483081372092288885 : True := trivial
theorem tw7510230149288206974 : True := trivial
theorem tw16011055738799735888 : True := trivial
theorem tw5608270528595127837 : True := trivial
theorem tw5373601922739893978 : True := trivial
theorem tw18293851220164018083 : True := trivial
theorem tw6804821044290156842 : True := trivial
theorem tw2167537188350426706 : True := trivial
theorem tw7891253978561527248 : True := trivial
theorem tw12647368939536790636 : True := trivial
theorem tw3309697970292668127 : True := trivial
theorem tw1452849714261714991 : True := trivial
theorem tw15665482370847157851 : True := trivial
theorem tw5343241284826551009 : True := trivial
theorem tw10949625832625181284 : True := trivial
theorem tw17177331786930743035 : True := trivial
theorem tw17447410573909459338 : True := trivial
theorem tw11465210709893060100 : True := trivial
theorem tw7270182246851987180 : True := trivial
theorem tw15642763164714097627 : True := trivial
theorem tw5978321128707920903 : True := trivial
theorem tw22551697357593593 : True := trivial
theorem tw3085183777334472315 : True := trivial
theorem tw13372043803930879067 : True := trivial
theorem tw3381375190539634487 : True := trivial
theorem tw11319097763535126812 : True := trivial
theorem tw15673258824015622330 : True := trivial
theorem tw15422856539912107476 : True := trivial
theorem tw17054507655720011243 : True := trivial
theorem tw9641152695372364146 : True := trivial
theorem tw9557236495431379559 : True := trivial
theorem tw6882427118574961969 : True := trivial
theorem tw2867327485932766208 : True := trivial
theorem tw1011335219593555734 : True := trivial
theorem tw15367242080415987702 : True := trivial
theorem tw10601615944963115059 : True := trivial
theorem tw14869541946748307009 : True := trivial
theorem tw16155205043701107222 : True := trivial
theorem tw5629675986466331604 : True := trivial
theorem tw14103535550066685397 : True := trivial
theorem tw9566141503761928105 : True := trivial
theorem tw7289634563603522867 : True := trivial
theorem tw10030107230732127627 : True := trivial
theorem tw6982297934935202809 : True := trivial
theorem tw17714235663813219645 : True := trivial
theorem tw4478166936697009375 : True := trivial
theorem tw17901334829092211166 : True := trivial
theorem tw8428860471423672150 : True := trivial
theorem tw5961118342813265553 : True := trivial
theorem tw8770205317985620760 : True := trivial
theorem tw14400467628812073631 : True := trivial
theorem tw10743916045514856203 : True := trivial
theorem tw3915529967508079626 : True := trivial
theorem tw14980023328507725902 : True := trivial
theorem tw2101469004524951375 : True := trivial
theorem tw13368278939475635651 : True := trivial
theorem tw5148922909946612681 : True := trivial
theorem tw8684328023851190084 : True := trivial
theorem tw17903497710992402801 : True := trivial
theorem tw6924109203229866365 : True := trivial
theorem tw12631932088317031055 : True := trivial
theorem tw3229955645248102723 : True := trivial
theorem tw10792051664901133789 : True := trivial
theorem tw16713699803418581334 : True := trivial
theorem tw14553816603554493358 : True := trivial
theorem tw8004679753235328684 : True := trivial
theorem tw7754304195085646258 : True := trivial
theorem tw6038821095411175016 : True := trivial
theorem tw4297731678662094536 : True := trivial
theorem tw4014540891139286612 : True := trivial
theorem tw16064382804478563927 : True := trivial
theorem tw2315301623876862497 : True := trivial
theorem tw15344866539931968096 : True := trivial
theorem tw4272726840584523970 : True := trivial
theorem tw2114630138375439770 : True := trivial
theorem tw10424393626065333798 : True := trivial
theorem tw4172343393113369950 : True := trivial
theorem tw13315533130655954831 : True := trivial
theorem tw11893437276241958245 : True := trivial
theorem tw16157073509204512506 : True := trivial
theorem tw14708807125848044605 : True := trivial
theorem tw3480954088277226078 : True := trivial
theorem tw7610815399733428385 : True := trivial
theorem tw2329189449893159454 : True := trivial
theorem tw2442259710966052079 : True := trivial
theorem tw3259873300814134281 : True := trivial
theorem tw17739348878880393726 : True := trivial
theorem tw190519026028168232 : True := trivial
theorem tw7746578258024575070 : True := trivial
theorem tw189712035060473897 : True := trivial
theorem tw8545014587354053640 : True := trivial
theorem tw9386895884608548742 : True := trivial
theorem tw402640490398009360 : True := trivial
theorem tw9244321171653502345 : True := trivial
theorem tw6123773746684550334 : True := trivial
theorem tw5635641802508607975 : True := trivial
theorem tw13267510147771200024 : True := trivial
theorem tw10583446816852156582 : True := trivial
theorem tw11054480109507316185 : True := trivial
theorem tw6264232113106981867 : True := trivial
theorem tw2708950531961675432 : True := trivial
theorem tw3973766799837268725 : True := trivial
theorem tw7579377964693751086 : True := trivial
theorem tw10024716035694756283 : True := trivial
theorem tw5292301768408028288 : True := trivial
theorem tw14560493823538711346 : True := trivial
theorem tw8934143017859847078 : True := trivial
theorem tw6442067068224118133 : True := trivial
theorem tw541196102884509978 : True := trivial
theorem tw15103106377680225435 : True := trivial
theorem tw9719896912496429819 : True := trivial
theorem tw2274498078352570744 : True := trivial
theorem tw6838551448383532254 : True := trivial
theorem tw11660266114150955751 : True := trivial
theorem tw17213754286329925777 : True := trivial
theorem tw12614811148066621264 : True := trivial
theorem tw17311223219408574766 : True := trivial
theorem tw7355570028127101125 : True := trivial
theorem tw16904818350239718627 : True := trivial
theorem tw4993660671451451078 : True := trivial
theorem tw8025032847418708242 : True := trivial
theorem tw17606422857730326317 : True := trivial
theorem tw525622484199402719 : True := trivial
theorem tw10899047295999791774 : True := trivial
theorem tw307737655149646647 : True := trivial
theorem tw4851647983119433812 : True := trivial
theorem tw5902613922787404954 : True := trivial
theorem tw9702936160620672325 : True := trivial
theorem tw5781342201191254626 : True := trivial
theorem tw11319892378374348655 : True := trivial
theorem tw12271959270614036898 : True := trivial
theorem tw13047593935725612058 : True := trivial
theorem tw12602439190401603521 : True := trivial
theorem tw10111801491309104144 : True := trivial
theorem tw6411954120941647267 : True := trivial
theorem tw10525666975642140466 : True := trivial
theorem tw16828841361933241965 : True := trivial
theorem tw15089522573102190283 : True := trivial
theorem tw11213053971927718326 : True := trivial
theorem tw16722109127936396110 : True := trivial
theorem tw11032806212648032379 : True := trivial
theorem tw17047115858639842297 : True := trivial
theorem tw3452082135128663414 : True := trivial
theorem tw9430268157657104642 : True := trivial
theorem tw13285133528070534704 : True := trivial
theorem tw12070051907170230399 : True := trivial
theorem tw16091413853298234908 : True := trivial
theorem tw17950676927832955104 : True := trivial
theorem tw1241404454085649124 : True := trivial
theorem tw4823875265637086484 : True := trivial
theorem tw9421340871869096474 : True := trivial
theorem tw10216474801634566288 : True := trivial
theorem tw3442329435671937591 : True := trivial
theorem tw17183224562656869120 : True := trivial
theorem tw1382963296337349011 : True := trivial
theorem tw991583007596301734 : True := trivial
theorem tw464777395874653626 : True := trivial
theorem tw4402725079659364252 : True := trivial
theorem tw12173100003817136821 : True := trivial
theorem tw5036846961687405229 : True := trivial
theorem tw3008623586974134963 : True := trivial
theorem tw14620637471214046174 : True := trivial
theorem tw18093812233618175256 : True := trivial
theorem tw728884934406724761 : True := trivial
theorem tw4115565904173853331 : True := trivial
theorem tw5190246844813560578 : True := trivial
theorem tw4971549296188076032 : True := trivial
theorem tw8047900516022102942 : True := trivial
theorem tw13866372431405929976 : True := trivial
theorem tw5245234834050458271 : True := trivial
theorem tw7296583596125217682 : True := trivial
theorem tw14194692369981509116 : True := trivial
theorem tw13431754692932380062 : True := trivial
theorem tw17001982702790524580 : True := trivial
theorem tw26425463804135960 : True := trivial
theorem tw3219085151875037572 : True := trivial
theorem tw17420951861521290806 : True := trivial
theorem tw11631869004601391166 : True := trivial
theorem tw13225837485096350037 : True := trivial
theorem tw4856431653887292112 : True := trivial
theorem tw9345929723534960622 : True := trivial
theorem tw16649331688326792143 : True := trivial
theorem tw12292276401802421502 : True := trivial
theorem tw5363564295841288755 : True := trivial
theorem tw8990313861142287110 : True := trivial
theorem tw15527848837575444561 : True := trivial
theorem tw11953376511379268794 : True := trivial
theorem tw18103342009636024947 : True := trivial
theorem tw16007149819294483003 : True := trivial
theorem tw13181700845877081190 : True := trivial
theorem tw1013155817946168525 : True := trivial
theorem tw16477043939570097188 : True := trivial
theorem tw3109861748172591687 : True := trivial
theorem tw4225703048834024713 : True := trivial
theorem tw10170382586518783626 : True := trivial
theorem tw3429492842335990350 : True := trivial
theorem tw5416991563250132298 : True := trivial
theorem tw9763420282994701918 : True := trivial
theorem tw8356816923877370021 : True := trivial
theorem tw3919010098100093602 : True := trivial
theorem tw13770079208771991547 : True := trivial
theorem tw9277588360372424766 : True := trivial
theorem tw8117029840178788049 : True := trivial
theorem tw15416985209724490359 : True := trivial
theorem tw15166520500009309586 : True := trivial
theorem tw15837987909243819085 : True := trivial
theorem tw13289513938125300765 : True := trivial
theorem tw15759970867653108152 : True := trivial
theorem tw16154546982801380032 : True := trivial
theorem tw10603584201595350602 : True := trivial
theorem tw17711083657039698284 : True := trivial
theorem tw2323474266016966308 : True := trivial
theorem tw6759412095888398321 : True := trivial
theorem tw12629568148972539762 : True := trivial
theorem tw4015398097383911347 : True := trivial
theorem tw922143313871775805 : True := trivial
theorem tw10784824025267889561 : True := trivial
theorem tw1600037746751723098 : True := trivial
theorem tw5732804406350252772 : True := trivial
theorem tw10752148897807903841 : True := trivial
theorem tw18185175575083235020 : True := trivial
theorem tw17673860158736603733 : True := trivial
theorem tw12399718760709695909 : True := trivial
theorem tw12092154237167983948 : True := trivial
theorem tw9345676750909349944 : True := trivial
theorem tw6528754448969337418 : True := trivial
theorem tw2999033326186475339 : True := trivial
theorem tw8134915037123179040 : True := trivial
theorem tw6394381022753523788 : True := trivial
theorem tw14705683404202351889 : True := trivial
theorem tw15615420239508185596 : True := trivial
theorem tw12487502673411948298 : True := trivial
theorem tw6293948785866598258 : True := trivial
theorem tw8671608845466749128 : True := trivial
theorem tw212345690472687942 : True := trivial
theorem tw4478964076566166474 : True := trivial
theorem tw383508010279920811 : True := trivial
theorem tw16211521421427940678 : True := trivial
theorem tw18245042118932799458 : True := trivial
theorem tw6998783941825042932 : True := trivial
theorem tw1439246655266547700 : True := trivial
theorem tw17062030032774818151 : True := trivial
theorem tw10258999931320997221 : True := trivial
theorem tw11513968764499736323 : True := trivial
theorem tw1409312971732116557 : True := trivial
theorem tw432457690288141553 : True := trivial
theorem tw461538923250603899 : True := trivial
theorem tw12023040214023829324 : True := trivial
theorem tw6196171512934965099 : True := trivial
theorem tw6819123309680001836 : True := trivial
theorem tw5278057926702712004 : True := trivial
theorem tw16868993833207775613 : True := trivial
theorem tw8735263284916673568 : True := trivial
theorem tw16945582573551092051 : True := trivial
theorem tw13783031573616600631 : True := trivial
theorem tw17893044597097874663 : True := trivial
theorem tw10883786394301105576 : True := trivial
theorem tw1882180444382439491 : True := trivial
theorem tw14955159897011116063 : True := trivial
theorem tw12901994302517312135 : True := trivial
theorem tw16345102440705955213 : True := trivial
theorem tw5716766192118558609 : True := trivial
theorem tw3828038474966422129 : True := trivial
theorem tw17087091549796120035 : True := trivial
theorem tw16171809288044610508 : True := trivial
theorem tw7752767780024739350 : True := trivial
theorem tw16302227732802510677 : True := trivial
theorem tw11754176132448286083 : True := trivial
theorem tw9960721518486171458 : True := trivial
theorem tw758273949599710562 : True := trivial
theorem tw5054737718236178183 : True := trivial
theorem tw1129884963351977449 : True := trivial
theorem tw8959176491354863721 : True := trivial
theorem tw13609717118414637909 : True := trivial
theorem tw16794629799341752650 : True := trivial
theorem tw5562173858411828344 : True := trivial
theorem tw11917015161858427179 : True := trivial
theorem tw8716120427605611371 : True := trivial
theorem tw17975533764899295144 : True := trivial
theorem tw14457593812595234344 : True := trivial
theorem tw1222794163293265305 : True := trivial
theorem tw18291419657060728153 : True := trivial
theorem tw15279998641719260112 : True := trivial
theorem tw3953601041324332601 : True := trivial
theorem tw3350844169311001129 : True := trivial
theorem tw7120233287515763914 : True := trivial
theorem tw14598272352848978880 : True := trivial
theorem tw12113243949977362033 : True := trivial
theorem tw4706079058837389440 : True := trivial
theorem tw12050417470231563642 : True := trivial
theorem tw10678649693572172417 : True := trivial
theorem tw8112040973832200146 : True := trivial
theorem tw16240987189780228909 : True := trivial
theorem tw7628703163842673926 : True := trivial
theorem tw9673543361469618366 : True := trivial
theorem tw11210553801493137410 : True := trivial
theorem tw2845679848157327705 : True := trivial
theorem tw8960069828448710407 : True := trivial
theorem tw15411387601460861337 : True := trivial
theorem tw7028611270464810887 : True := trivial
theorem tw1836080755315867724 : True := trivial
theorem tw15368132723985388332 : True := trivial
theorem tw17907119631360928549 : True := trivial
theorem tw14353793391729792155 : True := trivial
theorem tw13518370688599389936 : True := trivial
theorem tw1580110805410547442 : True := trivial
theorem tw5130813555471234732 : True := trivial
theorem tw17574625026820762457 : True := trivial
theorem tw8268277133935991078 : True := trivial
theorem tw701787995468756871 : True := trivial
theorem tw8458067239894703972 : True := trivial
theorem tw6276725880618359904 : True := trivial
theorem tw7366208706002141716 : True := trivial
theorem tw15683763237869141255 : True := trivial
theorem tw13855946660403688772 : True := trivial
theorem tw13220430256171166289 : True := trivial
theorem tw9657781627882305391 : True := trivial
theorem tw1627912709990685506 : True := trivial
theorem tw3694398316872202419 : True := trivial
theorem tw18219297243305740317 : True := trivial
theorem tw9449090799628755676 : True := trivial
theorem tw13321331477185743149 : True := trivial
theorem tw16056359734778111409 : True := trivial
theorem tw7494724483528729301 : True := trivial
theorem tw12949589719889679912 : True := trivial
theorem tw1800889605409440832 : True := trivial
theorem tw17169525291218050308 : True := trivial
theorem tw12936449754285732098 : True := trivial
theorem tw8609351116199087170 : True := trivial
theorem tw13277076834127875243 : True := trivial
theorem tw17330945745186091897 : True := trivial
theorem tw4360684699965382250 : True := trivial
theorem tw1878737405954674963 : True := trivial
theorem tw6545403380812914513 : True := trivial
theorem tw3759623122121258479 : True := trivial
theorem tw17542962492245011380 : True := trivial
theorem tw8727321023445011275 : True := trivial
theorem tw14906377314874228009 : True := trivial
theorem tw2195365466389143174 : True := trivial
theorem tw16037735763661986305 : True := trivial
theorem tw11889364065154245265 : True := trivial
theorem tw3443669649825651883 : True := trivial
theorem tw1097998534492414930 : True := trivial
theorem tw17258206423299326598 : True := trivial
theorem tw3493717111155160527 : True := trivial
theorem tw15083628210047938546 : True := trivial
theorem tw4702841417184801058 : True := trivial
theorem tw18241275227582772068 : True := trivial
theorem tw14892549342360969540 : True := trivial
theorem tw15529170255622000948 : True := trivial
theorem tw7540655947842036084 : True := trivial
theorem tw6931407450589930559 : True := trivial
theorem tw6555240042291301478 : True := trivial
theorem tw6830512106363814048 : True := trivial
theorem tw15833661619300960221 : True := trivial
theorem tw6184460063843016694 : True := trivial
theorem tw18264374347568628810 : True := trivial
theorem tw11389486352061984695 : True := trivial
theorem tw17681399029576232318 : True := trivial
theorem tw5657824000916062451 : True := trivial
theorem tw11162318198679636149 : True := trivial
theorem tw7023726343779634624 : True := trivial
theorem tw7082855905992002993 : True := trivial
theorem tw1610171440888473627 : True := trivial
theorem tw3571134770919094901 : True := trivial
theorem tw1197925565968671727 : True := trivial
theorem tw5174551420813472067 : True := trivial
theorem tw13638418597567726942 : True := trivial
theorem tw2391449824757734642 : True := trivial
theorem tw13330244855972007585 : True := trivial
theorem tw226724450230711188 : True := trivial
theorem tw7512474625130614241 : True := trivial
theorem tw16029623286316568529 : True := trivial
end Mine.hd
namespace Mine
section
local macro_rules | `(tactic| refine $f:ident $args*) => do
    if ["holds_open", "holds_openC", "holds_openN", "holds_openCN"].contains (match f.getId.eraseMacroScopes with | .str _ s => s | _ => "") then `(tactic| (refine ($f $args*); (case hc => assumption))) else Lean.Macro.throwUnsupported
set_option Elab.async true in
set_option maxRecDepth 100000 in
set_option maxHeartbeats 8000000 in
theorem hd : True :=
  let rec run := fun h => (by (w_on; o_law; k_head; (case hw => w_witness2)) : PySem.Challenge.rw_nn0359_01.Holds)
  trivial
end
end Mine
end
section
namespace Mine
theorem rm0 {d N M : Nat} (h : d + N < M) : d < M := Nat.lt_of_le_of_lt (Nat.le_add_right d N) h
theorem rm1 {d b N M : Nat} (h : d + N < M) (l : Nat.ble b N = true) : d + b < M :=
  Nat.lt_of_le_of_lt (Nat.add_le_add_left (Nat.le_of_ble_eq_true l) d) h
noncomputable def kk (cs : Scope) (x : PySem.Str) : Option NameKind := (envX ⟨#[]⟩ cs 0 0 .none []).kindOf x
section
variable {cs : Scope} {x : PySem.Str}
theorem nmL (hk : cs.kind = .function) (hx : kk cs x = some .local) (hd : (x == ("__debug__" : PySem.Str)) = false) {cn : PySem.Str} {a : Addr} {ccd : Value} {pos : Pos} {cl : List (PySem.Str × Addr)}
    {M : Model} {A : Around} {E : Value → Shared → Prop} {s : Shared} {h₀ : Heap} {L : Addr} {m : PySem.Str → Option Value} {v : Value} {Q : Value → Shared → Prop}
    (F : Fr h₀ L s.heap m) (hv : m x = some v) (h : Q v s) : wpAny M A (eval (.Name x pos) (envX cn cs L a ccd cl)) Q E s := nameX_L F hv h hk hx hd
theorem stL (hk : cs.kind = .function) (hx : kk cs x = some .local) {cn : PySem.Str} {a : Addr} {ccd : Value} {cl : List (PySem.Str × Addr)}
    {M : Model} {A : Around} {E : Value → Shared → Prop} {s : Shared} {h₀ : Heap} {L : Addr} {m : PySem.Str → Option Value} {v : Value} {Q : Unit → Shared → Prop} {news : List (Addr × Obj)}
    (F : Fr h₀ L s.heap m) (N : News h₀ L s.heap news)
    (h : ∀ h', let m' := fun y => if y = x then some v else m y; Fr h₀ L h' m' → News h₀ L h' news → Q () { s with heap := h', toks := s.toks + 1 }) :
    wpAny M A (storeName (envX cn cs L a ccd cl) x v) Q E s := storeX_L F N h hk hx
end
theorem o_s1 {L n k : Nat} (h : (n : Int) < (L : Int)) (hk : 1 ≤ k) : L - (n + k) < L - n := Nat.sub_lt_sub_left (Int.ofNat_lt.mp h) (Nat.lt_add_of_pos_right hk)
theorem o_s2 {L n : Nat} (h : (n : Int) < (L : Int)) : L - (n + 1) < L - n := Nat.sub_lt_sub_left (Int.ofNat_lt.mp h) (Nat.lt_succ_self n)
theorem o_s3 {L n k : Nat} (h : (n : Int) < (L : Int)) (hk : 3 ≤ k) : L - (n + k) < L - n := o_s1 h (Nat.le_trans (by decide) hk)
theorem o_mt {a n : Int} (h : a < n) : (n - (a + 1)).toNat < (n - a).toNat := (Int.toNat_lt_toNat (Int.sub_pos_of_lt h)).mpr (Int.sub_lt_sub_left (Int.lt_succ a) n)
theorem o_s4 {L n : Nat} (h : (n : Int) < (L : Int)) : ((L : Int) - ((n : Int) + 1)).toNat < ((L : Int) - (n : Int)).toNat := o_mt h
theorem o_63 {n M : Nat} (h2 : (n : Int) ≥ 2 ^ 63) (h : n ≤ M) (hM : Nat.ble M 1000000000 = true) : False := absurd h2 (Int.not_le.mpr (Int.lt_of_le_of_lt (Int.ofNat_le.mpr (Nat.le_trans h (Nat.le_of_ble_eq_true hM))) (by decide)))
theorem o_lt {n L : Nat} (h : (n : Int) < (L : Int)) : n + 1 ≤ L := Int.ofNat_lt.mp h
theorem o_nlt {n L : Nat} (h : ¬ (n : Int) < (L : Int)) : L ≤ n := Nat.le_of_not_lt fun q => h (Int.ofNat_lt.mpr q)
theorem o_tr {a b c M : Nat} (h1 : a ≤ b) (h2 : b ≤ c) (h : c ≤ M) : a ≤ M := Nat.le_trans h1 (Nat.le_trans h2 h)
theorem o_big {a b M K : Nat} (h1 : a ≤ b) (h : b ≤ M) (hM : Nat.ble M K = true) : a ≤ K := Nat.le_trans h1 (Nat.le_trans h (Nat.le_of_ble_eq_true hM))
theorem o_big1 {a M K : Nat} (h : a ≤ M) (hM : Nat.ble M K = true) : a ≤ K := Nat.le_trans h (Nat.le_of_ble_eq_true hM)
theorem o_ltM {a b M : Nat} (h1 : a < b) (h : b ≤ M) : a ≤ M := Nat.le_trans (Nat.le_of_lt h1) h
theorem o_sub {a b K : Nat} (h : a ≤ K) : a - b ≤ K := Nat.le_trans (Nat.sub_le a b) h
theorem o_mm {i L : Nat} (h : i ≤ L) : max 0 (min (i : Int) (L : Int)) = (i : Int) := by rw [Int.min_eq_left (Int.ofNat_le.mpr h), Int.max_eq_right (Int.natCast_nonneg i)]
theorem o_mm2 {i j L : Nat} (h1 : i ≤ j) (h2 : j ≤ L) : max 0 (min (i : Int) (L : Int)) = (i : Int) := o_mm (Nat.le_trans h1 h2)
theorem o_mn {i L : Nat} : max 0 (min (i : Int) (L : Int)) = ((min i L : Nat) : Int) := by
  rcases Nat.le_total i L with h | h
  · rw [Nat.min_eq_left h]; exact o_mm h
  · rw [Nat.min_eq_right h, Int.min_eq_right (Int.ofNat_le.mpr h), Int.max_eq_right (Int.natCast_nonneg L)]
theorem o_ml {j X T : Nat} (e : X = T) (h : j ≤ T) : min j X = j := Nat.min_eq_left (e ▸ h)
theorem o_f1 {a f : Nat} (h : a < f) : f - 1 < f := Nat.sub_lt (Nat.lt_of_le_of_lt (Nat.zero_le _) h) (by decide)
theorem o_and {x : Nat} (h : x < 128 ∧ x ≠ 10) : x < 512 ∧ x ≠ 10 := ⟨Nat.lt_of_lt_of_le h.1 (Nat.le_of_ble_eq_true rfl), h.2⟩
noncomputable def Sn (names : List PySem.Str) (m₁ m : PySem.Str → Option Value) : Prop := ∀ z, names.contains z = false → m₁ z = m z
theorem sn_refl {names : List PySem.Str} {m : PySem.Str → Option Value} : Sn names m m := fun _ _ => rfl
theorem sn_upd {names : List PySem.Str} {m₁ m : PySem.Str → Option Value} {x : PySem.Str} {v : Value} (h : Sn names m₁ m) (hx : names.contains x = true) : Sn names (fun y => if y = x then some v else m₁ y) m := fun z hz => by
  show (if z = x then some v else m₁ z) = m z
  rw [if_neg (fun e => by rw [e, hx] at hz; cases hz)]; exact h z hz
theorem sn_in {names st : List PySem.Str} {m₁ m u : PySem.Str → Option Value} {ps : List (PySem.Str × Value)} (h : Sn names m₁ m) (hp : ps.all (fun p => names.contains p.1) = true) (hs : st.all (fun x => names.contains x) = true) :
    Sn names (kstB (fun z => if st.contains z = true then u z else m₁ z) ps) m := by
  intro z hz
  induction ps with
  | nil =>
    show (if st.contains z = true then u z else m₁ z) = m z
    rw [if_neg (fun e => by rw [List.all_eq_true.mp hs z (List.contains_iff_mem.mp e)] at hz; cases hz)]; exact h z hz
  | cons p r ih =>
    rw [List.all_cons, Bool.and_eq_true] at hp
    show (if z = p.1 then some p.2 else kstB _ r z) = m z
    rw [if_neg (fun e => by rw [e, hp.1] at hz; cases hz)]; exact ih hp.2
theorem sn_end {m₁ m : PySem.Str → Option Value} {ps : List (PySem.Str × Value)} {st : List PySem.Str} (h : Sn (ps.map Prod.fst ++ st) m₁ m) : ∀ z, (∀ p ∈ ps, z ≠ p.1) → st.contains z = false → m₁ z = m z := fun z h2 h3 => by
  refine h z ?_
  rw [List.contains_eq_mem, decide_eq_false_iff_not, List.mem_append]
  rintro (hm | hm)
  · obtain ⟨p, hp, e⟩ := List.mem_map.mp hm
    exact h2 p hp e.symm
  · rw [List.contains_eq_mem, decide_eq_false_iff_not] at h3; exact h3 hm
theorem sn_end3 {m₁ m : PySem.Str → Option Value} {x : PySem.Str} {ps : List (PySem.Str × Value)} {st : List PySem.Str} (h : Sn (x :: (ps.map Prod.fst ++ st)) m₁ m) : ∀ z, z ≠ x → (∀ p ∈ ps, z ≠ p.1) → st.contains z = false → m₁ z = m z := fun z h1 h2 h3 => by
  refine h z ?_
  rw [List.contains_eq_mem, decide_eq_false_iff_not, List.mem_cons, List.mem_append]
  rintro (hm | hm | hm)
  · exact h1 hm
  · obtain ⟨p, hp, e⟩ := List.mem_map.mp hm
    exact h2 p hp e.symm
  · rw [List.contains_eq_mem, decide_eq_false_iff_not] at h3; exact h3 hm
theorem frk {h₀ h : Heap} {L : Addr} {M : PySem.Str → Option Value} {G : Prop} (F : Fr h₀ L h M) (k : let m' := M; Fr h₀ L h m' → G) : G := k F
theorem unt2 {A B : Type} {P : A × B → Prop} (h : ∀ a b, P (a, b)) : ∀ q, P q := fun q => h q.1 q.2
theorem unt3 {A B C : Type} {P : A × B × C → Prop} (h : ∀ a b c, P (a, b, c)) : ∀ q, P q := fun q => h q.1 q.2.1 q.2.2
theorem unt4 {A B C D : Type} {P : A × B × C × D → Prop} (h : ∀ a b c d, P (a, b, c, d)) : ∀ q, P q := fun q => h q.1 q.2.1 q.2.2.1 q.2.2.2
theorem unt5 {A B C D E : Type} {P : A × B × C × D × E → Prop} (h : ∀ a b c d e, P (a, b, c, d, e)) : ∀ q, P q := fun q => h q.1 q.2.1 q.2.2.1 q.2.2.2.1 q.2.2.2.2
theorem unt6 {A B C D E H : Type} {P : A × B × C × D × E × H → Prop} (h : ∀ a b c d e f, P (a, b, c, d, e, f)) : ∀ q, P q := fun q => h q.1 q.2.1 q.2.2.1 q.2.2.2.1 q.2.2.2.2.1 q.2.2.2.2.2
theorem unt7 {A B C D E H I : Type} {P : A × B × C × D × E × H × I → Prop} (h : ∀ a b c d e f g, P (a, b, c, d, e, f, g)) : ∀ q, P q := fun q => h q.1 q.2.1 q.2.2.1 q.2.2.2.1 q.2.2.2.2.1 q.2.2.2.2.2.1 q.2.2.2.2.2.2
theorem unt8 {A B C D E H I J : Type} {P : A × B × C × D × E × H × I × J → Prop} (h : ∀ a b c d e f g h, P (a, b, c, d, e, f, g, h)) : ∀ q, P q := fun q => h q.1 q.2.1 q.2.2.1 q.2.2.2.1 q.2.2.2.2.1 q.2.2.2.2.2.1 q.2.2.2.2.2.2.1 q.2.2.2.2.2.2.2
end Mine
end
local macro_rules | `(tactic| omega) => `(tactic| k_extra "om")
theorem Mine.om_Slim : True := by
  k_with "om" => with_reducible first | assumption | exact Nat.add_sub_cancel_left _ _ | exact Int.ofNat_lt.mpr (by assumption) | exact Int.ofNat_le.mpr (by assumption) | exact Int.ofNat_lt.mp (by assumption) | exact Int.ofNat_le.mp (by assumption) | exact o_lt (by assumption) | exact o_nlt (by assumption) | exact o_63 (by assumption) (by assumption) (by with_unfolding_all exact rfl) | exact o_s2 (by assumption) | exact o_s1 (by assumption) (by assumption) | exact o_s3 (by assumption) (by assumption) | exact o_mt (by assumption) | exact o_f1 (by assumption) | exact Nat.le_of_lt (by assumption) | exact Nat.not_le.mp (by assumption) | exact o_sub (by assumption) | exact o_big1 (by assumption) (by with_unfolding_all exact rfl) | exact Nat.le_trans (Nat.le_add_right _ _) (by assumption) | exact Int.natCast_nonneg _ | exact Nat.le_trans (by assumption) (by assumption) | exact o_big (by assumption) (by assumption) (by with_unfolding_all exact rfl) | exact o_ltM (by assumption) (by assumption) | exact o_tr (by assumption) (by assumption) (by assumption) | exact Nat.lt_of_lt_of_le (by assumption) (by assumption) | exact Nat.lt_of_le_of_lt (by assumption) (by assumption) | exact Nat.ne_of_lt (by assumption) | exact Nat.ne_of_gt (by assumption) | exact o_mm (by assumption) | exact o_mm2 (by assumption) (by assumption) | exact o_mn | exact o_ml (by assumption) (by assumption) | exact o_and (by assumption) | rfl
  trivial
section
namespace Mine
theorem rm2 {d b c N M : Nat} (h : d + N < M) (l : Nat.ble (b + c) N = true) : d + b + c < M :=
  Nat.lt_of_le_of_lt (by rw [Nat.add_assoc]; exact Nat.add_le_add_left (Nat.le_of_ble_eq_true l) d) h
section
variable {cs : Scope} {x c v : PySem.Str} {k : Nat} {p2 : Pos}
theorem tst_eq (hk : cs.kind = .function) (hx : kk cs x = some .local) (hd : (x == ("__debug__" : PySem.Str)) = false) {whole} {p1 pos : Pos}
    (hm : behindInMarks .Eq (.Constant (.str c) k p2) = false) {cn : PySem.Str} {a : Addr} {ccd : Value} {cl : List (PySem.Str × Addr)}
    {prog : Program} {w : World} {A : Around} {E : Value → Shared → Prop} {s : Shared} {h₀ : Heap} {L : Addr} {m : PySem.Str → Option Value} {t : Tok} {Q : Bool → Shared → Prop}
    (F : Fr h₀ L s.heap m) (hv : m x = some (.str v t)) (h : wpAny (model prog w) A (truthy (.bool (v == c))) Q E { s with toks := s.toks + 1 }) :
    wpAny (model prog w) A (isTrue (.Compare (.Name x p1) [.Eq] [.Constant (.str c) k p2] pos) (envX cn cs L a ccd cl) whole) Q E s :=
  wpAny_isTrue_Compare1 (nameX_L F hv (Calls.Constant_str (eq_str h)) hk hx hd) hm
theorem tst_ne (hk : cs.kind = .function) (hx : kk cs x = some .local) (hd : (x == ("__debug__" : PySem.Str)) = false) {whole} {p1 pos : Pos}
    (hm : behindInMarks .NotEq (.Constant (.str c) k p2) = false) {cn : PySem.Str} {a : Addr} {ccd : Value} {cl : List (PySem.Str × Addr)}
    {prog : Program} {w : World} {A : Around} {E : Value → Shared → Prop} {s : Shared} {h₀ : Heap} {L : Addr} {m : PySem.Str → Option Value} {t : Tok} {Q : Bool → Shared → Prop}
    (F : Fr h₀ L s.heap m) (hv : m x = some (.str v t)) (h : wpAny (model prog w) A (truthy (.bool (v != c))) Q E { s with toks := s.toks + 1 }) :
    wpAny (model prog w) A (isTrue (.Compare (.Name x p1) [.NotEq] [.Constant (.str c) k p2] pos) (envX cn cs L a ccd cl) whole) Q E s :=
  wpAny_isTrue_Compare1 (nameX_L F hv (Calls.Constant_str (ne_str h)) hk hx hd) hm
theorem add_nc (hk : cs.kind = .function) (hx : kk cs x = some .local) (hd : (x == ("__debug__" : PySem.Str)) = false) {j : Int} {p1 pos : Pos} {cn : PySem.Str} {a : Addr} {ccd : Value} {cl : List (PySem.Str × Addr)}
    {prog : Program} {w : World} {A : Around} {E : Value → Shared → Prop} {s : Shared} {h₀ : Heap} {L : Addr} {m : PySem.Str → Option Value} {t : Tok} {i : Int} {Q : Value → Shared → Prop}
    (F : Fr h₀ L s.heap m) (hv : m x = some (.int i t)) (h : Q (.int (i + j) (s.toks + 1)) { s with toks := s.toks + 1 + 1 }) :
    wpAny (model prog w) A (eval (.BinOp (.Name x p1) .Add (.Constant (.int j) k p2) pos) (envX cn cs L a ccd cl)) Q E s :=
  wpAny_BinOp (nameX_L F hv (wpAny_Constant_int (add_int h)) hk hx hd)
end
end Mine
end
namespace Mine
theorem fill0 : Mine.hd.heap_1_39 = Mine.hd.heap_1_39 ∧ PySem.Challenge.rw_nn0359_01 = PySem.Challenge.rw_nn0359_01 := by
  k_fill
  exact ⟨rfl, rfl⟩
end Mine
set_option maxRecDepth 100000
local macro_rules | `(tactic| k_all) => `(tactic| first | assumption | exact fun p hp => Nat.ne_of_lt (ktn_ltOf (by assumption) p hp))
local macro_rules | `(tactic| k_in) => `(tactic| first | with_reducible assumption | (refine' Frag.In.keeps ?kiX (Fr.keep ?kiF); (case kiF => with_reducible assumption); (case kiX => with_reducible assumption)))
local macro_rules | `(tactic| kst_same) => `(tactic| k_extra "kst")
local macro_rules | `(tactic| ksw_same) => `(tactic| k_extra "ksw")
local macro_rules | `(tactic| walk_at $s:str) => `(tactic| k_extra $s)
section
namespace Mine
set_option maxRecDepth 100000

/-- the loose names of the head -/
noncomputable abbrev lo : List PySem.Str := looseW Mine.hd.view_1_40 [PySem.Str.ofString "LETTERS", PySem.Str.ofString "NAME_SIGNS", PySem.Str.ofString "HEX_SIGNS", PySem.Str.ofString "PLAIN_ESCAPES", PySem.Str.ofString "ToolError", PySem.Str.ofString "STEP_WORTHS"]

/-- a cursor's dict -/
noncomputable abbrev curD (h1 h2 : Int) (t1 t2 t3 : Tok) (T : PySem.Str) (k : Int) (t4 : Tok) : Obj :=
  dictOf [⟨h1, .str "text" t1, .str T t2⟩, ⟨h2, .str "at" t3, .int k t4⟩] 2

/-- what a call's ledger becomes when one object of it has turned -/
theorem news_turn {d : Addr} {o : Obj} {news : List (Addr × Obj)} {gg : Obj → List (Addr × Obj)}
    (U : UpdF d o news gg) :
    ∃ rest : List (Addr × Obj), (∀ p ∈ rest, p.1 ≠ d) ∧ (∀ p : Addr × Obj, p ∈ news ↔ p = (d, o) ∨ p ∈ rest) ∧ ∀ (o' : Obj) (p : Addr × Obj), p ∈ gg o' ↔ p = (d, o') ∨ p ∈ rest := by
  obtain ⟨own, rest, rfl, hg, h1, h2⟩ := U.split
  refine ⟨own ++ rest, fun p hp => (List.mem_append.mp hp).elim (h1 p) (h2 p), fun p => ?_, fun o' p => ?_⟩
  · simp only [List.mem_append, List.mem_cons]; constructor <;> (rintro (h | h | h) <;> simp_all) 
  · rw [hg o']; simp only [List.mem_append, List.mem_cons]; constructor <;> (rintro (h | h | h) <;> simp_all)
end Mine
end
section
namespace Mine
open PySem.Builtin.Str

/-- a text's signs -/
noncomputable abbrev tl (x : PySem.Str) : List Nat := x.cps.toList
/-- a text out of its signs -/
noncomputable abbrev tx (l : List Nat) : PySem.Str := ⟨l.toArray⟩
theorem tx_tl (x : PySem.Str) : tx (tl x) = x := by cases x; simp [tx, tl]
theorem tl_tx (l : List Nat) : tl (tx l) = l := by simp [tx, tl]
theorem tl_inj {x y : PySem.Str} (h : tl x = tl y) : x = y := by rw [← tx_tl x, h, tx_tl]
theorem len_tl (x : PySem.Str) : x.length = (tl x).length := by simp [PySem.Str.length, tl]

theorem drop_cons_lt {l : List Nat} {n x : Nat} {r : List Nat} (h : l.drop n = x :: r) : n < l.length := by
  apply Decidable.byContradiction
  intro hn
  rw [List.drop_eq_nil_of_le (by omega)] at h
  cases h
theorem drop_cons_get {l : List Nat} {n x : Nat} {r : List Nat} (h : l.drop n = x :: r) : l[n]? = some x ∧ l.drop (n + 1) = r := by
  have hn := drop_cons_lt h
  rw [List.drop_eq_getElem_cons hn] at h
  injection h with h1 h2
  exact ⟨by rw [List.getElem?_eq_getElem hn, h1], h2⟩
theorem drop_of_lt {l : List Nat} {n : Nat} (h : n < l.length) : ∃ x, l.drop n = x :: l.drop (n + 1) ∧ l[n]? = some x :=
  ⟨l[n], List.drop_eq_getElem_cons h, List.getElem?_eq_getElem h⟩

theorem item_nat (X : PySem.Str) {n x : Nat} (h : (tl X)[n]? = some x) : Txt.item X (n : Int) = ⟨#[x]⟩ := by
  have hn : n < X.length := by
    rw [len_tl]
    exact (List.getElem?_eq_some_iff.mp h).1
  unfold Txt.item Txt.charAt seqIndex?
  have h0 : ¬ ((n : Int) < 0) := by omega
  simp only [h0, if_false]
  have h1 : (0 ≤ (n : Int)) := by omega
  have h2 : ((n : Int) < (X.length : Int)) := by omega
  simp only [h1, h2, decide_true, Bool.and_self, if_true, Option.bind_some, Int.toNat_natCast]
  have : X.cps[n]? = some x := by rw [← h]; simp [tl]
  rw [this]; rfl
theorem item_drop (X : PySem.Str) {n x : Nat} {r : List Nat} (h : (tl X).drop n = x :: r) : Txt.item X (n : Int) = ⟨#[x]⟩ := item_nat X (drop_cons_get h).1

/-- a sign of a set of signs -/
noncomputable def inS (wd : PySem.Str) (c : Nat) : Bool := (tl wd).contains c
theorem occ_one (wd : PySem.Str) (c : Nat) : (occurrences wd ⟨#[c]⟩ 0 wd.length 1).isEmpty = !(inS wd c) := by
  have h := StrLaws.found_one wd c
  have h2 : decide (c ∈ wd.cps.toList) = inS wd c := by
    unfold inS tl
    rw [Bool.eq_iff_iff, decide_eq_true_eq, List.contains_iff_mem]
  rw [h2] at h
  rw [← h, Bool.not_not]

theorem sliceRange_one (i j : Int) (hi : 0 ≤ i) : sliceRange i j 1 = (List.range (j - i).toNat).map fun k => i.toNat + k := by
  unfold sliceRange
  simp only [show (1 : Int) > 0 by decide, if_true]
  have e : (if i < j then (j - i + 1 - 1) / 1 else 0 : Int).toNat = (j - i).toNat := by
    split
    · congr 1; rw [Int.add_sub_cancel, Int.ediv_one]
    · rename_i h; exact (Int.toNat_of_nonpos (Int.sub_nonpos_of_le (Int.not_lt.mp h))).symm
  rw [e]
  apply List.map_congr_left
  intro k _
  rw [Int.one_mul, Int.toNat_add_nat hi]
theorem filterMap_range (l : List Nat) (i : Nat) : ∀ n, i + n ≤ l.length → ((List.range n).map fun k => i + k).filterMap (l[·]?) = (l.drop i).take n := by
  intro n
  induction n with
  | zero => intro _; simp
  | succ n ih =>
    intro h
    rw [List.range_succ, List.map_append, List.filterMap_append, ih (by omega), List.take_add_one]
    congr 1
    have : i + n < l.length := by omega
    simp [List.getElem?_drop, this]
theorem slice_core (X : PySem.Str) (i j : Nat) (hij : i ≤ j) (hj : j ≤ X.length) (lo hi : Option Int)
    (e : strSliceIndices lo hi 1 X.length = sliceRange (i : Int) (j : Int) 1) : tl (Txt.slice X lo hi) = ((tl X).drop i).take (j - i) := by
  unfold Txt.slice
  rw [e, sliceRange_one _ _ (by omega)]
  have hl : ((j : Int) - (i : Int)).toNat = j - i := Int.toNat_sub j i
  rw [hl, Int.toNat_natCast]
  rw [len_tl] at hj
  split
  · rename_i h
    simp only [List.length_map, List.length_range, Bool.and_eq_true, beq_iff_eq] at h
    have h2 := h.2
    rw [len_tl] at h2
    have hi0 : i = 0 := by omega
    subst hi0
    rw [List.drop_zero, List.take_of_length_le (by omega)]
  · show (List.filterMap _ _).toArray.toList = _
    have h3 : ∀ k : Nat, X.cps[k]? = (tl X)[k]? := fun k => by simp [tl]
    simp only [h3]
    exact filterMap_range (tl X) i (j - i) (by omega)
theorem slice_ss (X : PySem.Str) (i j : Nat) (hij : i ≤ j) (hj : j ≤ X.length) : tl (Txt.slice X (some (i : Int)) (some (j : Int))) = ((tl X).drop i).take (j - i) := by
  apply slice_core X i j hij hj
  unfold strSliceIndices
  simp only [show (1 : Int) > 0 by decide, if_true]
  have h1 : ¬ ((i : Int) < 0) := Int.not_lt.mpr (Int.natCast_nonneg i)
  have h2 : ¬ ((j : Int) < 0) := Int.not_lt.mpr (Int.natCast_nonneg j)
  simp only [h1, h2, if_false]
  congr 1 <;> omega
theorem slice_sn (X : PySem.Str) (i : Nat) (hi : i ≤ X.length) : tl (Txt.slice X (some (i : Int)) none) = (tl X).drop i := by
  have h := slice_core X i X.length hi (Nat.le_refl _) (some (i : Int)) none (by
    unfold strSliceIndices
    simp only [show (1 : Int) > 0 by decide, if_true]
    have h1 : ¬ ((i : Int) < 0) := Int.not_lt.mpr (Int.natCast_nonneg i)
    simp only [h1, if_false]
    congr 1; omega)
  rw [h, List.take_of_length_le]
  rw [List.length_drop, len_tl]; omega
theorem slice_ns (X : PySem.Str) (j : Nat) (hj : j ≤ X.length) : tl (Txt.slice X none (some (j : Int))) = (tl X).take j := by
  have h := slice_core X 0 j (by omega) hj none (some (j : Int)) (by
    unfold strSliceIndices
    simp only [show (1 : Int) > 0 by decide, if_true]
    have h1 : ¬ ((j : Int) < 0) := by omega
    simp only [h1, if_false]
    congr 1; omega)
  rw [h, List.drop_zero, Nat.sub_zero]
/-- a cut whose end may lie beyond the text -/
theorem slice_ss' (X : PySem.Str) (i j : Nat) : tl (Txt.slice X (some (i : Int)) (some (j : Int))) = ((tl X).drop i).take (j - i) := by
  unfold Txt.slice
  have e : strSliceIndices (some (i : Int)) (some (j : Int)) 1 X.length = sliceRange ((min i X.length : Nat) : Int) ((min j X.length : Nat) : Int) 1 := by
    unfold strSliceIndices
    simp only [show (1 : Int) > 0 by decide, if_true]
    have h1 : ¬ ((i : Int) < 0) := Int.not_lt.mpr (Int.natCast_nonneg i)
    have h2 : ¬ ((j : Int) < 0) := Int.not_lt.mpr (Int.natCast_nonneg j)
    simp only [h1, h2, if_false]
    congr 1 <;> exact o_mn
  by_cases hij : min i X.length ≤ min j X.length
  · have h := slice_core X (min i X.length) (min j X.length) hij (Nat.min_le_right _ _) _ _ e
    unfold Txt.slice at h
    rw [h]
    have hl := len_tl X
    generalize hT : tl X = T at hl ⊢
    by_cases hi : i ≤ T.length
    · rw [show min i X.length = i by omega]
      by_cases hj : j ≤ T.length
      · rw [show min j X.length = j by omega]
      · have hj' := Nat.le_of_not_le hj
        rw [List.take_of_length_le (by rw [List.length_drop, Nat.min_eq_right (by rw [hl]; exact hj'), hl]; exact Nat.le_refl _), List.take_of_length_le (by rw [List.length_drop]; exact Nat.sub_le_sub_right hj' i)]
    · have hi' := Nat.le_of_not_le hi
      rw [List.drop_eq_nil_of_le hi', List.drop_eq_nil_of_le (show T.length ≤ min i X.length by rw [Nat.min_eq_right (by rw [hl]; exact hi'), hl]; exact Nat.le_refl _), List.take_nil, List.take_nil]
  · have hlt := Nat.not_le.mp hij
    rw [e, sliceRange_one _ _ (Int.natCast_nonneg _)]
    have hz : (((min j X.length : Nat) : Int) - ((min i X.length : Nat) : Int)).toNat = 0 := Int.toNat_of_nonpos (Int.sub_nonpos_of_le (Int.ofNat_le.mpr (Nat.le_of_lt hlt)))
    rw [hz]
    have hne : ¬ (X.length = 0) := fun e => by rw [e, Nat.min_zero, Nat.min_zero] at hlt; exact Nat.lt_irrefl _ hlt
    split
    · rename_i h
      simp at h
      exact absurd h.symm hne
    · have : j - i = 0 := Nat.sub_eq_zero_of_le (Nat.le_of_lt (Nat.lt_of_not_le fun h => hij (Nat.le_min.mpr ⟨Nat.le_trans (Nat.min_le_left _ _) h, Nat.min_le_right _ _⟩)))
      simp [this]

/-- how far a run goes -/
noncomputable abbrev run (p : Nat → Bool) (l : List Nat) : Nat := (l.takeWhile p).length
theorem run_le (p : Nat → Bool) (l : List Nat) : run p l ≤ l.length := (List.takeWhile_prefix p).length_le
theorem take_run (p : Nat → Bool) : ∀ l : List Nat, l.take (run p l) = l.takeWhile p
  | [] => rfl
  | x :: r => by
    unfold run
    rw [List.takeWhile_cons]
    split
    · rw [List.length_cons, List.take_succ_cons]; congr 1; exact take_run p r
    · rfl
theorem drop_run (p : Nat → Bool) : ∀ l : List Nat, l.drop (run p l) = l.dropWhile p
  | [] => rfl
  | x :: r => by
    unfold run
    rw [List.takeWhile_cons, List.dropWhile_cons]
    split
    · rw [List.length_cons, List.drop_succ_cons]; exact drop_run p r
    · rfl
theorem run_cons_pos {p : Nat → Bool} {x : Nat} {r : List Nat} (h : p x = true) : run p (x :: r) = run p r + 1 := by
  unfold run; rw [List.takeWhile_cons, if_pos h]; rfl
theorem run_cons_neg {p : Nat → Bool} {x : Nat} {r : List Nat} (h : p x = false) : run p (x :: r) = 0 := by
  unfold run; rw [List.takeWhile_cons, if_neg (by rw [h]; exact Bool.false_ne_true)]; rfl
theorem run_nil {p : Nat → Bool} : run p [] = 0 := rfl
end Mine
namespace Mine
/-- the cursor's ledger, its dict in front -/
theorem cur_news {h₀ h : Heap} {L c d : Addr} {oc o : Obj} {news rest : List (Addr × Obj)} (N : News h₀ L h news) (hc : (c, oc) ∈ news)
    (hr2 : ∀ p : Addr × Obj, p ∈ news ↔ p = (d, o) ∨ p ∈ rest) : News h₀ L h ((c, oc) :: (d, o) :: rest) := fun p hp => by
  rcases List.mem_cons.mp hp with rfl | hp
  · exact N _ hc
  · rcases List.mem_cons.mp hp with rfl | hp
    · exact N _ ((hr2 _).mpr (.inl rfl))
    · exact N _ ((hr2 _).mpr (.inr hp))
theorem cur_back {h₀ h : Heap} {L c d : Addr} {oc o : Obj} {rest : List (Addr × Obj)} {gg : Obj → List (Addr × Obj)}
    (hr3 : ∀ (o' : Obj) (p : Addr × Obj), p ∈ gg o' ↔ p = (d, o') ∨ p ∈ rest) (N : News h₀ L h ((c, oc) :: (d, o) :: rest)) : News h₀ L h (gg o) := fun p hp => by
  rcases (hr3 o p).mp hp with rfl | hp
  · exact N _ (.tail _ (.head _))
  · exact N _ (.tail _ (.tail _ hp))
theorem cur_ne {h₀ h : Heap} {L c d : Addr} {h1 h2 : Int} {t1 t2 t3 t4 : Tok} {TX : PySem.Str} {k : Int} {news : List (Addr × Obj)} (N : News h₀ L h news)
    (hc : (c, instObj 222 d) ∈ news) (hd : (d, curD h1 h2 t1 t2 t3 TX k t4) ∈ news) : c ≠ d := fun e => by
  have a := (N _ hc).1
  have b := (N _ hd).1
  simp only at a b
  rw [e, b] at a
  have e2 := Option.some.inj a
  have e3 := congrArg Obj.cls e2
  simp [instObj, curD, dictOf] at e3
theorem upd_mem {d : Addr} {o : Obj} {news : List (Addr × Obj)} {gg : Obj → List (Addr × Obj)} (U : UpdF d o news gg) : (d, o) ∈ news := by
  obtain ⟨pre, post, rfl, _⟩ := U.split
  exact List.mem_append_right _ (.head _)
theorem pos_le {TX : PySem.Str} {n : Nat} {x : Nat} {r : List Nat} (h : (tl TX).drop n = x :: r) : (n : Int) < (TX.length : Int) := by
  have := drop_cons_lt h
  rw [len_tl]; omega
theorem pos_ge {TX : PySem.Str} {n : Nat} (h : (tl TX).drop n = []) : (TX.length : Int) ≤ (n : Int) := by
  have := List.drop_eq_nil_iff.mp h
  rw [len_tl]; omega
end Mine
namespace Mine
theorem done_is {TX : PySem.Str} {n : Nat} {R : List Nat} (h : (tl TX).drop n = R) : decide ((TX.length : Int) ≤ (n : Int)) = R.isEmpty := by
  subst h
  rw [len_tl, Bool.eq_iff_iff, decide_eq_true_eq, List.isEmpty_iff, List.drop_eq_nil_iff]
  omega
theorem done_is2 {TX : PySem.Str} {n : Nat} {R : List Nat} (h : (tl TX).drop n = R) : decide ((n : Int) ≥ (TX.length : Int)) = R.isEmpty := done_is h
theorem drop_add {l : List Nat} {n j : Nat} {R : List Nat} (h : l.drop n = R) : l.drop (n + j) = R.drop j := by rw [← h, List.drop_drop]
theorem drop_run_at {l : List Nat} {n : Nat} {R : List Nat} (p : Nat → Bool) (h : l.drop n = R) : l.drop (n + run p R) = R.dropWhile p := by rw [drop_add h, drop_run]
theorem ge_nil {TX : PySem.Str} {n : Nat} (h : (TX.length : Int) ≤ (n : Int)) : (tl TX).drop n = [] := by
  rw [List.drop_eq_nil_iff]; rw [len_tl] at h; omega
theorem lt_cons {TX : PySem.Str} {n : Nat} (h : (n : Int) < (TX.length : Int)) : ∃ x, (tl TX).drop n = x :: (tl TX).drop (n + 1) ∧ Txt.item TX (n : Int) = ⟨#[x]⟩ := by
  obtain ⟨x, h1, h2⟩ := drop_of_lt (l := tl TX) (n := n) (by rw [len_tl] at h; omega)
  exact ⟨x, h1, item_nat TX h2⟩
/-- the loop of take_while: what stays true -/
noncomputable def TwInv (TX wd : PySem.Str) (n : Nat) (k : Int) : Prop :=
  ∃ i : Nat, k = (i : Int) ∧ n ≤ i ∧ i ≤ TX.length ∧ i + run (inS wd) ((tl TX).drop i) = n + run (inS wd) ((tl TX).drop n)
theorem TwInv.start {TX wd : PySem.Str} {n : Nat} (h : n ≤ TX.length) : TwInv TX wd n (n : Int) := ⟨n, rfl, Nat.le_refl _, h, rfl⟩
theorem TwInv.step {TX wd : PySem.Str} {n : Nat} {k : Int} (h : TwInv TX wd n k) (hl : k < (TX.length : Int))
    (hc : (Builtin.Str.occurrences wd (Txt.item TX k) 0 wd.length 1).isEmpty = false) : TwInv TX wd n (k + 1) := by
  obtain ⟨i, rfl, h1, h2, h3⟩ := h
  obtain ⟨x, hx, hi⟩ := lt_cons hl
  rw [hi, occ_one] at hc
  refine ⟨i + 1, by omega, by omega, by omega, ?_⟩
  rw [hx, run_cons_pos (by simpa using hc)] at h3
  omega
theorem TwInv.stop {TX wd : PySem.Str} {n : Nat} {k : Int} {R : List Nat} (hR : (tl TX).drop n = R) (h : TwInv TX wd n k)
    (hc : ¬ k < (TX.length : Int) ∨ (k < (TX.length : Int) ∧ (Builtin.Str.occurrences wd (Txt.item TX k) 0 wd.length 1).isEmpty = true)) :
    k = ((n + run (inS wd) R : Nat) : Int) ∧ Txt.slice TX (some (n : Int)) (some k) = tx (R.takeWhile (inS wd)) := by
  obtain ⟨i, rfl, h1, h2, h3⟩ := h
  have hz : run (inS wd) ((tl TX).drop i) = 0 := by
    rcases hc with hc | ⟨hl, hc⟩
    · rw [ge_nil (by omega)]; rfl
    · obtain ⟨x, hx, hi⟩ := lt_cons hl
      rw [hi, occ_one] at hc
      rw [hx]
      exact run_cons_neg (by simpa using hc)
  rw [hz, hR] at h3
  refine ⟨by omega, tl_inj ?_⟩
  rw [tl_tx]
  refine (slice_ss TX n i h1 h2).trans ?_
  rw [hR, ← take_run]
  congr 1; omega
end Mine
namespace Mine
theorem skip_at {TX wd : PySem.Str} {n q : Nat} {R : List Nat} (hR : (tl TX).drop n = R) (hw : tl wd = [q]) :
    (Txt.slice TX (some (n : Int)) (some ((n : Int) + (wd.length : Int))) == wd) = decide (R.head? = some q) := by
  have hl : wd.length = 1 := by rw [len_tl, hw]; rfl
  have e : tl (Txt.slice TX (some (n : Int)) (some ((n : Int) + (wd.length : Int)))) = R.take 1 := by
    rw [hl, show (n : Int) + ((1 : Nat) : Int) = ((n + 1 : Nat) : Int) by omega]
    refine (slice_ss' TX n (n + 1)).trans ?_
    rw [hR]; congr 1; omega
  generalize Txt.slice TX (some (n : Int)) (some ((n : Int) + (wd.length : Int))) = Y at e
  rw [Bool.eq_iff_iff, beq_iff_eq, decide_eq_true_eq]
  constructor
  · rintro rfl
    rw [hw] at e
    cases R with
    | nil => cases e
    | cons x r => injection e with e; rw [e]; rfl
  · intro h
    apply tl_inj
    rw [e, hw]
    cases R with
    | nil => cases h
    | cons x r => injection h with h; rw [h]; rfl
end Mine
namespace Mine
theorem occ_t {wd : PySem.Str} {c : Nat} (h : inS wd c = true) : (Builtin.Str.occurrences wd ⟨#[c]⟩ 0 wd.length 1).isEmpty = false := by rw [occ_one, h]; rfl
theorem occ_f {wd : PySem.Str} {c : Nat} (h : inS wd c = false) : (Builtin.Str.occurrences wd ⟨#[c]⟩ 0 wd.length 1).isEmpty = true := by rw [occ_one, h]; rfl
theorem one_ne_empty (x : Nat) : (({ cps := #[x] } : PySem.Str) == PySem.Str.ofString "") = false := by
  rw [show PySem.Str.ofString "" = (⟨#[]⟩ : PySem.Str) from by decide +kernel]
  apply beq_false_of_ne
  intro h
  have := congrArg (fun s : PySem.Str => s.cps.size) h
  simp at this
theorem one_beq (x y : Nat) : (({ cps := #[x] } : PySem.Str) == { cps := #[y] }) = decide (x = y) := by
  rw [Bool.eq_iff_iff, beq_iff_eq, decide_eq_true_eq]
  constructor
  · intro h; injection h with h; simpa using h
  · rintro rfl; rfl
theorem one_lit {z : String} {y : Nat} (hz : PySem.Str.ofString z = ⟨#[y]⟩) (x : Nat) : (({ cps := #[x] } : PySem.Str) == PySem.Str.ofString z) = decide (x = y) := by rw [hz, one_beq]

noncomputable abbrev NMS : PySem.Str := PySem.Str.ofString "abcdefghijklmnopqrstuvwxyzABCDEFGHIJKLMNOPQRSTUVWXYZ_0123456789"
noncomputable abbrev DGS : PySem.Str := PySem.Str.ofString "0123456789"
/-- a blank; a name's sign; a figure -/
noncomputable abbrev isBl (x : Nat) : Bool := inS (PySem.Str.ofString " \t") x
noncomputable abbrev isNm (x : Nat) : Bool := inS NMS x
noncomputable abbrev isDg (x : Nat) : Bool := inS DGS x
theorem isBl_iff (x : Nat) : isBl x = (x == 32 || x == 9) := by
  show (tl _).contains x = _
  rw [show tl (PySem.Str.ofString " \t") = [32, 9] from by decide +kernel]
  rw [Bool.eq_iff_iff]
  simp [List.contains_iff_mem]
theorem all_of {P : Nat → Prop} [DecidablePred P] {l : List Nat} (h : l.all (fun x => decide (P x)) = true) : ∀ x ∈ l, P x := fun x hx => of_decide_eq_true (List.all_eq_true.mp h x hx)
theorem sign_iff {l : List Nat} {q : Nat → Prop} [DecidablePred q] (N : Nat) (hq : ∀ x, q x → x < N)
    (h1 : l.all (fun x => decide (q x)) = true) (h2 : (List.range N).all (fun x => decide (q x → l.contains x = true)) = true) (x : Nat) : l.contains x = true ↔ q x :=
  ⟨fun h => all_of h1 x (List.contains_iff_mem.mp h), fun h => all_of h2 x (List.mem_range.mpr (hq x h)) h⟩
theorem isDg_iff (x : Nat) : isDg x = true ↔ 48 ≤ x ∧ x ≤ 57 := by
  show (tl _).contains x = true ↔ _
  rw [show tl DGS = [48,49,50,51,52,53,54,55,56,57] from by decide +kernel]
  exact sign_iff (q := fun x => 48 ≤ x ∧ x ≤ 57) 58 (fun x h => Nat.lt_succ_of_le h.2) (by decide +kernel) (by decide +kernel) x
theorem isNm_iff (x : Nat) : isNm x = true ↔ (48 ≤ x ∧ x ≤ 57) ∨ (65 ≤ x ∧ x ≤ 90) ∨ x = 95 ∨ (97 ≤ x ∧ x ≤ 122) := by
  show (tl _).contains x = true ↔ _
  rw [show tl NMS = [97,98,99,100,101,102,103,104,105,106,107,108,109,110,111,112,113,114,115,116,117,118,119,120,121,122,65,66,67,68,69,70,71,72,73,74,75,76,77,78,79,80,81,82,83,84,85,86,87,88,89,90,95,48,49,50,51,52,53,54,55,56,57] from by decide +kernel]
  exact sign_iff (q := fun x => (48 ≤ x ∧ x ≤ 57) ∨ (65 ≤ x ∧ x ≤ 90) ∨ x = 95 ∨ (97 ≤ x ∧ x ≤ 122)) 123 (fun x h => by rcases h with h | h | h | h <;> omega) (by decide +kernel) (by decide +kernel) x
/-- what name() takes of a rest -/
noncomputable def nameR : List Nat → List Nat
  | [] => []
  | x :: r => if isNm x = true ∧ isDg x = false then (x :: r).takeWhile isNm else []
theorem empty_tx : PySem.Str.ofString "" = tx [] := by decide +kernel
end Mine
end
section
namespace Mine
open PySem.Calls
/-- a hex figure's worth -/
noncomputable def hexv (c : Nat) : Nat := if c ≤ 57 then c - 48 else if 97 ≤ c then c - 87 else c - 55
noncomputable abbrev hexL : List Nat := [48,49,50,51,52,53,54,55,56,57,97,98,99,100,101,102,65,66,67,68,69,70]
noncomputable abbrev HXS : PySem.Str := PySem.Str.ofString "0123456789abcdefABCDEF"
noncomputable abbrev OCS : PySem.Str := PySem.Str.ofString "01234567"
noncomputable abbrev isHx (x : Nat) : Bool := inS HXS x
noncomputable abbrev isOc (x : Nat) : Bool := inS OCS x
theorem isHx_mem {x : Nat} (h : isHx x = true) : x ∈ hexL := by
  have : (tl HXS).contains x = true := h
  rw [show tl HXS = hexL from by decide +kernel, List.contains_iff_mem] at this
  exact this
theorem isOc_iff (x : Nat) : isOc x = true ↔ 48 ≤ x ∧ x ≤ 55 := by
  show (tl _).contains x = true ↔ _
  rw [show tl OCS = [48,49,50,51,52,53,54,55] from by decide +kernel]
  exact sign_iff (q := fun x => 48 ≤ x ∧ x ≤ 55) 56 (fun x h => Nat.lt_succ_of_le h.2) (by decide +kernel) (by decide +kernel) x
theorem isOc_isHx {x : Nat} (h : isOc x = true) : x ∈ hexL := by
  have := (isOc_iff x).mp h
  exact all_of (P := fun x => 48 ≤ x ∧ x ≤ 55 → x ∈ hexL) (l := List.range 56) (by decide +kernel) x (List.mem_range.mpr (Nat.lt_succ_of_le this.2)) this
theorem read16 : ∀ c ∈ hexL, (int_private% "readNumeral") 0 16 [c] = (int_private% "Numeral.value") (hexv c : Int) := by
  simp only [hexL, List.forall_mem_cons, List.not_mem_nil, false_implies, implies_true, and_true]
  refine ⟨?_, ?_, ?_, ?_, ?_, ?_, ?_, ?_, ?_, ?_, ?_, ?_, ?_, ?_, ?_, ?_, ?_, ?_, ?_, ?_, ?_, ?_⟩ <;> rfl
theorem num_one {c : Nat} (hc : c ∈ hexL) : (if (({ cps := #[c] } : PySem.Str).cps.all (· < 128)) = true then ({ cps := #[c] } : PySem.Str).cps.toList else Unicode.numberText ({ cps := #[c] } : PySem.Str).cps.toList) = [c] := by
  have h : c < 128 := all_of (P := fun x => x < 128) (by decide +kernel) c hc
  rw [if_pos (by simp [h])]
theorem wp_text16 {M : Model} {A : Around} {E : Value → Shared → Prop} {s : Shared} {Q : Value → Shared → Prop} {v : Value} {c : Nat} (hc : c ∈ hexL) {text : List Nat} {b : Nat} (et : text = [c]) (eb : b = 16)
    (h : Q (.int (hexv c : Int) s.toks) { s with toks := s.toks + 1 }) :
    wpAny M A ((int_private% "intFromText") v text b) Q E s := by
  subst et eb
  obtain ⟨hp, g, d, tk, os⟩ := s
  have h0 : (c != 0) = true := all_of (P := fun x => (x != 0) = true) (by decide +kernel) c hc
  have ht : [c].takeWhile (· != 0) = [c] := by simp [List.takeWhile_cons, h0]
  have hs : ([c].takeWhile (· != 0)).length ≤ 640 := by rw [ht]; exact Nat.le_of_ble_eq_true rfl
  have hr := read16 c hc
  rw [← ht] at hr
  have ha : (([c].takeWhile (· != 0)).length == [c].length) = true := by rw [ht]; rfl
  repeat (any_goals (first
    | assumption
    | (with_reducible refine wpAny_ite_true (decide_eq_true hs) ?_)
    | (with_reducible refine wpAny_ite_true (decide_eq_true ha) ?_)
    | wp_step))
  all_goals (try rw [hr])
  all_goals (try dsimp only)
  repeat (any_goals (first
    | assumption
    | (with_reducible refine wpAny_ite_true (decide_eq_true hs) ?_)
    | (with_reducible refine wpAny_ite_true (decide_eq_true ha) ?_)
    | wp_step))
set_option maxHeartbeats 4000000 in
theorem gives_int16 {c : Nat} {u t : Tok} (hc : c ∈ hexL) : Gives (Builtin.«int.__new__» ⟨[.type "int", .str ⟨#[c]⟩ u, .int 16 t], []⟩) (.int (hexv c : Int)) :=
  .of_wp fun M A E s Q h => by
    obtain ⟨hp, g, d, tk, os⟩ := s
    have f1 := F.conv_sub_int
    have f2 := F.madeHere_int
    have f6 : typeOf (.str ⟨#[c]⟩ u) = pure (.type "str") := rfl
    repeat (any_goals (first
      | assumption
      | ((with_reducible show wpAny _ _ ((int_private% "intFromText") _ _ _) _ _ _); refine wp_text16 hc (num_one hc) rfl ?_)
      | wp_step))
    all_goals first | exact ⟨_, rfl, h⟩ | skip

theorem typeCall_int_2 (a b : Value) : checkTypeCall "int" ⟨[a, b], []⟩ = pure () := by kernel_rfl
theorem newCall_int_2 (a b : Value) : checkBuiltinCall "int.__new__" ⟨[.type "int", a, b], []⟩ = pure () := by kernel_rfl
theorem objInit_3 (a b c : Value) : argsOk "object.__init__" ⟨[a, b, c], []⟩ := by unfold argsOk; kernel_rfl
theorem call_int16 {prog : Program} {w : World} {A : Around} {E : Value → Shared → Prop} {s : Shared} {Q : Value → Shared → Prop} {c : Nat} {u t : Tok} (hc : c ∈ hexL)
    (h : Q (.int (hexv c : Int) s.toks) { s with toks := s.toks + 1 }) :
    wpAny (model prog w) A (call (.type "int") [.str ⟨#[c]⟩ u, .int 16 t]) Q E s :=
  callType_new F.called_int F.newNe_int (typeCall_int_2 _ _) (newCall_int_2 _ _) (fun obj => objInit_3 obj _ _) F.entry_int_new (gives_int16 hc).meets (show (Made.int (hexv c : Int)).post _ s from ⟨rfl, h⟩)
end Mine
end
section
namespace Mine
/-- what coded() reads: the code and how many signs -/
noncomputable def codeGo (wd : PySem.Str) (base : Nat) : Nat → List Nat → Nat → Nat × Nat
  | 0, _, a => (a, 0)
  | _ + 1, [], a => (a, 0)
  | f + 1, x :: r, a => if inS wd x = true then ((codeGo wd base f r (a * base + hexv x)).1, (codeGo wd base f r (a * base + hexv x)).2 + 1) else (a, 0)
/-- the loop of coded(): what stays true -/
structure CoInv (wd : PySem.Str) (base most n : Nat) (R : List Nat) (i : Nat) (code taken : Int) (j cd k : Nat) : Prop where
  pos : i = n + j
  tk : taken = (j : Int)
  co : code = (cd : Int)
  le : j ≤ most
  bd : cd < base ^ j
  go : codeGo wd base (most - j) (R.drop j) cd = ((codeGo wd base most R 0).1, k)
  k : k + j = (codeGo wd base most R 0).2
theorem CoInv.start {wd : PySem.Str} {base most n : Nat} {R : List Nat} : CoInv wd base most n R n 0 0 0 0 (codeGo wd base most R 0).2 :=
  ⟨rfl, rfl, rfl, Nat.zero_le _, by simp, by simp, by simp⟩
theorem CoInv.step {wd : PySem.Str} {base most n : Nat} {R r : List Nat} {i : Nat} {code taken : Int} {j cd k x : Nat} (h : CoInv wd base most n R i code taken j cd k)
    (hr : R.drop j = x :: r) (hx : inS wd x = true) (hlt : (j : Int) < (most : Int)) (hv : hexv x < base) :
    CoInv wd base most n R (i + 1) (code * (base : Int) + (hexv x : Int)) (taken + 1) (j + 1) (cd * base + hexv x) (k - 1) := by
  have hm : most - j = (most - (j + 1)) + 1 := (Nat.succ_pred_eq_of_pos (Nat.sub_pos_of_lt (Int.ofNat_lt.mp hlt))).symm
  have hg := h.go
  rw [hr, hm] at hg
  simp only [codeGo, hx, if_true] at hg
  injection hg with hg1 hg2
  have hd : R.drop (j + 1) = r := by rw [← List.drop_drop, hr]; rfl
  refine ⟨by have := h.pos; omega, by rw [h.tk]; rfl, ?_, Int.ofNat_lt.mp hlt, ?_, ?_, ?_⟩
  · rw [h.co]; simp
  · have := h.bd
    rw [Nat.pow_succ]
    calc cd * base + hexv x < cd * base + base := Nat.add_lt_add_left hv _
      _ = (cd + 1) * base := by rw [Nat.add_mul, Nat.one_mul]
      _ ≤ base ^ j * base := Nat.mul_le_mul_right _ this
  · rw [hd]
    refine Prod.ext hg1 ?_
    show _ = k - 1
    rw [← hg2]; rfl
  · have := h.k; omega
theorem CoInv.stop {wd : PySem.Str} {base most n : Nat} {R : List Nat} {i : Nat} {code taken : Int} {j cd k : Nat} (h : CoInv wd base most n R i code taken j cd k)
    (hs : ¬ (j : Int) < (most : Int) ∨ R.drop j = [] ∨ ∃ x r, R.drop j = x :: r ∧ inS wd x = false) :
    cd = (codeGo wd base most R 0).1 ∧ i = n + (codeGo wd base most R 0).2 := by
  have hg : codeGo wd base (most - j) (R.drop j) cd = (cd, 0) := by
    rcases hs with hs | hs | ⟨x, r, hs, hx⟩
    · rw [show most - j = 0 by have := h.le; omega]; rfl
    · rw [hs]; cases most - j <;> rfl
    · rw [hs]
      cases most - j with
      | zero => rfl
      | succ f => simp [codeGo, hx]
  rw [h.go] at hg
  injection hg with h1 h2
  exact ⟨h1.symm, by have := h.pos; have := h.k; omega⟩
theorem hexv_oc {x : Nat} (h : isOc x = true) : hexv x < 8 := by
  have := (isOc_iff x).mp h
  unfold hexv; split <;> omega
theorem hexv_hx {x : Nat} (h : isHx x = true) : hexv x < 16 := by
  exact all_of (P := fun x => hexv x < 16) (by decide +kernel) x (isHx_mem h)
theorem one_ne_empty' (x : Nat) : (({ cps := #[x] } : PySem.Str) != PySem.Str.ofString "") = true := by
  show (!(_ == _)) = true
  rw [one_ne_empty]; rfl
end Mine
namespace Mine
theorem CoInv.le8 {wd : PySem.Str} {n : Nat} {R : List Nat} {i : Nat} {code taken : Int} {j cd k : Nat} (h : CoInv wd 8 3 n R i code taken j cd k) : 0 ≤ code ∧ code ≤ 511 := by
  rw [h.co]
  exact ⟨Int.natCast_nonneg _, Int.ofNat_le.mpr (Nat.le_of_lt_succ (Nat.lt_of_lt_of_le h.bd (Nat.pow_le_pow_right (by decide) h.le)))⟩
theorem CoInv.le16 {wd : PySem.Str} {n : Nat} {R : List Nat} {i : Nat} {code taken : Int} {j cd k : Nat} (h : CoInv wd 16 2 n R i code taken j cd k) : 0 ≤ code ∧ code ≤ 255 := by
  rw [h.co]
  exact ⟨Int.natCast_nonneg _, Int.ofNat_le.mpr (Nat.le_of_lt_succ (Nat.lt_of_lt_of_le h.bd (Nat.pow_le_pow_right (by decide) h.le)))⟩
end Mine
end
section
set_option maxRecDepth 100000
namespace Mine
/-- the seven plain escapes -/
noncomputable def plainE (x : Nat) : Option Nat :=
  if x = 110 then some 10 else if x = 116 then some 9 else if x = 114 then some 13 else if x = 102 then some 12 else if x = 118 then some 11 else if x = 97 then some 7 else if x = 98 then some 8 else none
/-- what escape() reads behind a backslash: the sign, and how far -/
noncomputable def escR : List Nat → Nat × Nat
  | [] => (0, 0)
  | x :: r => match plainE x with
    | some v => (v, 1)
    | none => if isOc x = true then codeGo OCS 8 3 (x :: r) 0 else
      if x = 120 ∧ (r.head?.any isHx) = true then ((codeGo HXS 16 2 r 0).1, (codeGo HXS 16 2 r 0).2 + 1) else (x, 1)
theorem str1 (z : String) (y : Nat) (x : Nat) (h : PySem.Str.ofString z = ⟨#[y]⟩) (t : Tok) : (Value.str (PySem.Str.ofString z) t).isStr ⟨#[x]⟩ = decide (x = y) := by
  show (PySem.Str.ofString z == ⟨#[x]⟩) = _
  rw [h, one_beq]
  rw [Bool.eq_iff_iff, decide_eq_true_eq, decide_eq_true_eq]
  exact eq_comm
/-- an entry of a written dict -/
noncomputable abbrev ent (P : Params) (z : String) (t : Tok) (v : Value) : DictEntry := ⟨PyData.keyHash P (PySem.Str.ofString z), .str (PySem.Str.ofString z) t, v⟩
theorem look22 (w : World) : (Mine.hd.heap_1_39 w.params).lookup 22 = some ⟨.type "dict", none, .dict #[ent w.params "n" 214 (.int 10 215), ent w.params "t" 216 (.int 9 217), ent w.params "r" 218 (.int 13 219), ent w.params "f" 220 (.int 12 221), ent w.params "v" 222 (.int 11 223), ent w.params "a" 224 (.int 7 225), ent w.params "b" 226 (.int 8 227)] 7, #[]⟩ := by k_is
noncomputable def PAt (x : Nat) (es : List DictEntry) (o : Option Nat) : Prop :=
  (o = none ∧ es.find? (·.key.isStr ⟨#[x]⟩) = none) ∨ ∃ (v : Nat) (t : Tok) (e : DictEntry), o = some v ∧ v < 128 ∧ es.find? (·.key.isStr ⟨#[x]⟩) = some e ∧ e.val = .int (v : Int) t
theorem PAt.step {x : Nat} {es : List DictEntry} {o : Option Nat} {e : DictEntry} (z : String) (c v : Nat) {t1 t : Tok} (hz : PySem.Str.ofString z = ⟨#[c]⟩) (hv8 : v < 128) (hk : e.key = .str (PySem.Str.ofString z) t1) (hv : e.val = .int (v : Int) t) (h : PAt x es o) :
    PAt x (e :: es) (if x = c then some v else o) := by
  have hs : e.key.isStr ⟨#[x]⟩ = decide (x = c) := by rw [hk]; exact str1 z c x hz t1
  by_cases hw : x = c
  · rw [if_pos hw]; exact .inr ⟨v, t, e, rfl, hv8, by rw [List.find?_cons_of_pos (by rw [hs]; exact decide_eq_true hw)], hv⟩
  · rw [if_neg hw]; unfold PAt; rw [List.find?_cons_of_neg (by rw [hs, decide_eq_false hw]; decide)]; exact h
theorem plain_at (w : World) (x : Nat) : (plainE x = none ∧ nsIn (Mine.hd.heap_1_39 w.params) 22 ⟨#[x]⟩ = some none) ∨ ∃ v : Nat, ∃ t : Tok, plainE x = some v ∧ v < 128 ∧ nsIn (Mine.hd.heap_1_39 w.params) 22 ⟨#[x]⟩ = some (some (.int (v : Int) t)) := by
  have k := (PAt.step "n" 110 10 (t1 := 214) (t := 215) (e := ent w.params "n" 214 (.int 10 215)) (by decide +kernel) (by decide) rfl rfl (PAt.step "t" 116 9 (t1 := 216) (t := 217) (e := ent w.params "t" 216 (.int 9 217)) (by decide +kernel) (by decide) rfl rfl (PAt.step "r" 114 13 (t1 := 218) (t := 219) (e := ent w.params "r" 218 (.int 13 219)) (by decide +kernel) (by decide) rfl rfl (PAt.step "f" 102 12 (t1 := 220) (t := 221) (e := ent w.params "f" 220 (.int 12 221)) (by decide +kernel) (by decide) rfl rfl (PAt.step "v" 118 11 (t1 := 222) (t := 223) (e := ent w.params "v" 222 (.int 11 223)) (by decide +kernel) (by decide) rfl rfl (PAt.step "a" 97 7 (t1 := 224) (t := 225) (e := ent w.params "a" 224 (.int 7 225)) (by decide +kernel) (by decide) rfl rfl (PAt.step "b" 98 8 (t1 := 226) (t := 227) (e := ent w.params "b" 226 (.int 8 227)) (by decide +kernel) (by decide) rfl rfl (show PAt x [] none from .inl ⟨rfl, rfl⟩))))))))
  unfold nsIn
  rw [look22 w]
  rcases k with ⟨h1, h2⟩ | ⟨v, t, e, h1, h8, h2, h3⟩
  · exact .inl ⟨h1, by dsimp only; rw [h2]; rfl⟩
  · exact .inr ⟨v, t, h1, h8, by dsimp only; rw [h2, ← h3]⟩
theorem plainE_oc {x : Nat} (h : isOc x = true) : plainE x = none := by
  have := (isOc_iff x).mp h
  unfold plainE
  repeat' (rw [if_neg (by omega)])
theorem E_p {y v : Nat} {r : List Nat} (hp : plainE y = some v) : escR (y :: r) = (v, 1) := by simp only [escR, hp]
theorem E_y {y : Nat} {r : List Nat} (hp : plainE y = none) (ho : isOc y = false) (hx : y ≠ 120) : escR (y :: r) = (y, 1) := by
  simp only [escR, hp]; rw [if_neg (show ¬ isOc y = true by rw [ho]; decide), if_neg (fun h => hx h.1)]
theorem E_n {y : Nat} (hp : plainE y = none) (ho : isOc y = false) : escR (y :: []) = (y, 1) := by simp [escR, hp, ho]
theorem E_0 {y z : Nat} {r : List Nat} (hp : plainE y = none) (ho : isOc y = false) (hz : isHx z = false) : escR (y :: z :: r) = (y, 1) := by simp [escR, hp, ho, hz]
theorem E_1 {y z : Nat} {r : List Nat} (hp : plainE y = none) (ho : isOc y = false) (hx : y = 120) (hz : isHx z = true) : escR (y :: z :: r) = ((codeGo HXS 16 2 (z :: r) 0).1, (codeGo HXS 16 2 (z :: r) 0).2 + 1) := by subst hx; simp [escR, hp, ho, hz]
theorem E_o {y : Nat} {r : List Nat} (hp : plainE y = none) (ho : isOc y = true) : escR (y :: r) = codeGo OCS 8 3 (y :: r) 0 := by simp [escR, hp, ho]
theorem E_xx {x : Nat} (hx : x = 120) : (({ cps := #[x] } : PySem.Str) == PySem.Str.ofString "x") = true := by rw [one_lit (y := 120) (by decide +kernel), hx]; rfl
theorem E_xf {x : Nat} (hx : ¬ x = 120) : (({ cps := #[x] } : PySem.Str) == PySem.Str.ofString "x") = false := by rw [one_lit (y := 120) (by decide +kernel)]; exact decide_eq_false hx
theorem E_n1 {n a b : Nat} : n + (a, b + 1).2 = n + 1 + b := by show n + (b + 1) = n + 1 + b; rw [Nat.add_assoc, Nat.add_comm 1 b]
end Mine
end
section
namespace Mine
/-- what quoted("'") reads: the signs and the end's place -/
noncomputable def qGo : Nat → List Nat → List Nat → Nat → Option (List Nat × Nat)
  | 0, _, _, _ => none
  | _ + 1, _, [], _ => none
  | f + 1, acc, x :: r, n =>
    if x = 39 then some (acc, n + 1)
    else if x = 92 then
      match r with
      | [] => none
      | y :: r' => qGo f (acc ++ [(escR (y :: r')).1]) ((y :: r').drop (escR (y :: r')).2) (n + 1 + (escR (y :: r')).2)
    else qGo f (acc ++ [x]) r (n + 1)
noncomputable def quoR (R : List Nat) (n : Nat) : Option (List Nat × Nat) := qGo (R.length + 1) [] R n
structure QInv (TX : PySem.Str) (K : Option (List Nat × Nat)) (vs : List Value) (acc : List Nat) (i f : Nat) : Prop where
  vs : StrsAre vs (acc.map fun c => (⟨#[c]⟩ : PySem.Str))
  le : acc.length ≤ i
  go : qGo f acc ((tl TX).drop i) i = K
  fu : ((tl TX).drop i).length < f
theorem QInv.start {TX : PySem.Str} {n : Nat} {R : List Nat} (hR : (tl TX).drop n = R) : QInv TX (quoR R n) [] [] n (R.length + 1) :=
  ⟨.nil, Nat.zero_le _, by rw [hR]; rfl, by rw [hR]; omega⟩
theorem escR_pos (x : Nat) (r : List Nat) : 1 ≤ (escR (x :: r)).2 := by
  simp only [escR]
  rcases plainE x with _ | v
  · simp only
    by_cases h : isOc x = true
    · rw [if_pos h]
      have : inS OCS x = true := h
      simp [codeGo, this]
    · rw [if_neg h]
      split <;> simp
  · exact Nat.le_refl _
theorem QInv.nil {TX : PySem.Str} {K : Option (List Nat × Nat)} {vs : List Value} {acc : List Nat} {i f : Nat} (h : QInv TX K vs acc i f) (hR : (tl TX).drop i = []) : K = none := by
  have := h.go; have hf := h.fu
  rw [hR] at this hf
  cases f with
  | zero => simp at hf
  | succ f => rw [← this]; rfl
theorem QInv.stop {TX : PySem.Str} {K : Option (List Nat × Nat)} {vs : List Value} {acc : List Nat} {i f x : Nat} {r : List Nat} (h : QInv TX K vs acc i f) (hR : (tl TX).drop i = x :: r) (hx : x = 39) : K = some (acc, i + 1) := by
  have := h.go; have hf := h.fu
  rw [hR] at this hf
  cases f with
  | zero => simp at hf
  | succ f => rw [← this]; simp [qGo, hx]
theorem QInv.cut {TX : PySem.Str} {K : Option (List Nat × Nat)} {vs : List Value} {acc : List Nat} {i f x : Nat} (h : QInv TX K vs acc i f) (hR : (tl TX).drop i = [x]) (hx : x = 92) : K = none := by
  have := h.go; have hf := h.fu
  rw [hR] at this hf
  cases f with
  | zero => simp at hf
  | succ f => rw [← this]; subst hx; simp [qGo]
theorem strs_snoc {y : PySem.Str} {t : Tok} : ∀ {vs : List Value} {ys : List PySem.Str}, StrsAre vs ys → StrsAre (vs ++ [.str y t]) (ys ++ [y])
  | _, _, .nil => .cons y t .nil
  | _, _, .cons z u r => .cons z u (strs_snoc r)
theorem QInv.plain {TX : PySem.Str} {K : Option (List Nat × Nat)} {vs : List Value} {acc : List Nat} {i f x : Nat} {r : List Nat} {t : Tok} (h : QInv TX K vs acc i f) (hR : (tl TX).drop i = x :: r) (hx : ¬ x = 39) (hy : ¬ x = 92) :
    QInv TX K (vs ++ [.str ⟨#[x]⟩ t]) (acc ++ [x]) (i + 1) (f - 1) := by
  have hg := h.go; have hf := h.fu
  have hd := (drop_cons_get hR).2
  rw [hR] at hg hf
  cases f with
  | zero => simp at hf
  | succ f =>
    refine ⟨by rw [List.map_append]; exact strs_snoc h.vs, by have := h.le; simp; omega, ?_, ?_⟩
    · rw [hd, ← hg]; simp [qGo, hx, hy]
    · rw [hd]; simp at hf ⊢; omega
theorem QInv.esc {TX : PySem.Str} {K : Option (List Nat × Nat)} {vs : List Value} {acc : List Nat} {i f x y : Nat} {r : List Nat} {t : Tok} (h : QInv TX K vs acc i f) (hR : (tl TX).drop i = x :: y :: r) (hx : x = 92) :
    QInv TX K (vs ++ [.str ⟨#[(escR (y :: r)).1]⟩ t]) (acc ++ [(escR (y :: r)).1]) (i + 1 + (escR (y :: r)).2) (f - 1) := by
  have hg := h.go; have hf := h.fu
  have hd := (drop_cons_get hR).2
  have hd2 : (tl TX).drop (i + 1 + (escR (y :: r)).2) = (y :: r).drop (escR (y :: r)).2 := drop_add hd
  rw [hR] at hg hf
  subst hx
  cases f with
  | zero => simp at hf
  | succ f =>
    refine ⟨by rw [List.map_append]; exact strs_snoc h.vs, by have := h.le; simp; omega, ?_, ?_⟩
    · rw [hd2, ← hg]; simp [qGo]
    · rw [hd2, List.length_drop]; simp at hf ⊢; omega
theorem QInv.len {TX : PySem.Str} {K : Option (List Nat × Nat)} {vs : List Value} {acc : List Nat} {i f : Nat} (h : QInv TX K vs acc i f) : vs.length = acc.length := by
  have := h.vs.length
  simpa using this
end Mine
namespace Mine
theorem codeGo_le (wd : PySem.Str) (base : Nat) : ∀ (f : Nat) (R : List Nat) (a : Nat), (codeGo wd base f R a).2 ≤ R.length
  | 0, _, _ => Nat.zero_le _
  | _ + 1, [], _ => Nat.zero_le _
  | f + 1, x :: r, a => by
    simp only [codeGo]
    split
    · exact Nat.succ_le_succ (codeGo_le wd base f r _)
    · exact Nat.zero_le _
theorem escR_le (x : Nat) (r : List Nat) : (escR (x :: r)).2 ≤ (x :: r).length := by
  simp only [escR]
  rcases plainE x with _ | v
  · simp only
    by_cases h : isOc x = true
    · rw [if_pos h]; exact codeGo_le _ _ _ _ _
    · rw [if_neg h]
      split
      · exact Nat.succ_le_succ (codeGo_le _ _ _ _ _)
      · simp
  · simp
theorem drop_len {TX : PySem.Str} {n : Nat} {R : List Nat} (h : (tl TX).drop n = R) (hn : n ≤ TX.length) : n + R.length = TX.length := by
  rw [← h, List.length_drop]; rw [len_tl] at hn ⊢; omega
end Mine
namespace Mine
noncomputable abbrev QT : PySem.Str := PySem.Str.ofString "'"
noncomputable abbrev BS : PySem.Str := PySem.Str.ofString "\\"
theorem q_cases (TX : PySem.Str) (i : Nat) (hi : i ≤ TX.length) :
    (tl TX).drop i = [] ∨
    (∃ x r, (tl TX).drop i = x :: r ∧ (i : Int) < TX.length ∧ x = 39 ∧ ((⟨#[x]⟩ : PySem.Str) == QT) = true) ∨
    (∃ x r, (tl TX).drop i = x :: r ∧ (tl TX).drop (i + 1) = r ∧ (i : Int) < TX.length ∧ (¬ x = 39) ∧ ((⟨#[x]⟩ : PySem.Str) == QT) = false ∧ (¬ x = 92) ∧ ((⟨#[x]⟩ : PySem.Str) == BS) = false) ∨
    (∃ x, (tl TX).drop i = [x] ∧ (tl TX).drop (i + 1) = [] ∧ (i : Int) < TX.length ∧ (¬ x = 39) ∧ ((⟨#[x]⟩ : PySem.Str) == QT) = false ∧ x = 92 ∧ ((⟨#[x]⟩ : PySem.Str) == BS) = true) ∨
    (∃ x y r, (tl TX).drop i = x :: y :: r ∧ (tl TX).drop (i + 1) = y :: r ∧ i + 1 + (escR (y :: r)).2 ≤ TX.length ∧ (¬ x = 39) ∧ ((⟨#[x]⟩ : PySem.Str) == QT) = false ∧ x = 92 ∧ ((⟨#[x]⟩ : PySem.Str) == BS) = true ∧ ((⟨#[(escR (y :: r)).1]⟩ : PySem.Str) == PySem.Str.ofString "") = false) := by
  rcases hR : (tl TX).drop i with _ | ⟨x, r⟩
  · exact .inl rfl
  · right
    have hlt := pos_le hR
    have hR1 := (drop_cons_get hR).2
    have hq := one_lit (z := "'") (y := 39) (by decide +kernel) x
    have hb := one_lit (z := "\\") (y := 92) (by decide +kernel) x
    by_cases h39 : x = 39
    · rw [decide_eq_true h39] at hq
      exact .inl ⟨x, r, rfl, hlt, h39, hq⟩
    · rw [decide_eq_false h39] at hq
      right
      by_cases h92 : x = 92
      · rw [decide_eq_true h92] at hb
        right
        rcases r with _ | ⟨y, r⟩
        · exact .inl ⟨x, rfl, hR1, hlt, h39, hq, h92, hb⟩
        · have hel := escR_le y r
          have hel2 := drop_len hR1 (by omega)
          exact .inr ⟨x, y, r, rfl, hR1, by omega, h39, hq, h92, hb, one_ne_empty _⟩
      · rw [decide_eq_false h92] at hb
        exact .inl ⟨x, r, rfl, hR1, hlt, h39, hq, h92, hb⟩
end Mine
namespace Mine
theorem tl_append (x y : PySem.Str) : tl (x ++ y) = tl x ++ tl y := by
  show (x ++ y).cps.toList = _
  rw [PySem.Str.cps_append, Array.toList_append]
theorem join_ones : ∀ acc : List Nat, tl (PySem.Str.join (PySem.Str.ofString "") (acc.map fun c => (⟨#[c]⟩ : PySem.Str))) = acc
  | [] => rfl
  | [x] => rfl
  | x :: y :: r => by
    have ih := join_ones (y :: r)
    simp only [List.map_cons] at ih ⊢
    show tl ((⟨#[x]⟩ : PySem.Str) ++ PySem.Str.ofString "" ++ _) = _
    rw [tl_append, tl_append, ih, empty_tx]
    rfl
theorem sum_ones : ∀ acc : List Nat, ((acc.map fun c => (⟨#[c]⟩ : PySem.Str)).map (·.length)).sum = acc.length
  | [] => rfl
  | x :: r => by
    have ih := sum_ones r
    simp only [List.map_cons, List.sum_cons, List.length_cons, ih]
    show 1 + _ = _
    omega
theorem join_signs {prog : Program} {w : World} {A : Around} {E : Value → Shared → Prop} {s : Shared} {h₀ : Heap} {L l : Addr} {news : List (Addr × Obj)} {vs : List Value} {acc : List Nat} {nn : Nat} {t : Tok} {Q : Value → Shared → Prop}
    (N : News h₀ L s.heap news) (hm : (l, listOf vs.toArray nn) ∈ news) (hv : StrsAre vs (acc.map fun c => (⟨#[c]⟩ : PySem.Str))) (hb : acc.length ≤ 100000)
    (h : ∀ t' k, Q (.str (tx acc) t') { s with toks := k }) : wpAny (model prog w) A (call (.builtin "str.join") [.str (PySem.Str.ofString "") t, .ref l]) Q E s := by
  refine join_list (items := vs.toArray) ⟨_, (N _ hm).1, rfl, _, rfl⟩ hv ?_ ?_
  · rw [sum_ones]; simp only [List.length_map]
    rw [show (PySem.Str.ofString "").length = 0 from by decide +kernel]; omega
  · have e : Txt.join (PySem.Str.ofString "") (acc.map fun c => (⟨#[c]⟩ : PySem.Str)) = tx acc := by
      rw [eq_of_beq (join_closes (sep := PySem.Str.ofString "") rfl)]
      apply tl_inj
      rw [join_ones, tl_tx]
    rw [e]; exact h
end Mine
namespace Mine
theorem news_tl {h₀ h : Heap} {L : Addr} {p : Addr × Obj} {l : List (Addr × Obj)} (N : News h₀ L h (p :: l)) : News h₀ L h l := fun q hq => N q (.tail _ hq)
end Mine
end
section
set_option maxRecDepth 100000
namespace Mine
/-- texts joined by a text -/
noncomputable def glue (sp : List Nat) : List (List Nat) → List Nat
  | [] => []
  | [x] => x
  | x :: y :: r => x ++ sp ++ glue sp (y :: r)
theorem tl_join (sep : PySem.Str) : ∀ ls : List (List Nat), tl (PySem.Str.join sep (ls.map tx)) = glue (tl sep) ls
  | [] => rfl
  | [x] => rfl
  | x :: y :: r => by
    have ih := tl_join sep (y :: r)
    simp only [List.map_cons] at ih ⊢
    show tl (tx x ++ sep ++ _) = _
    rw [tl_append, tl_append, ih]
    rfl
theorem join_tx {prog : Program} {w : World} {A : Around} {E : Value → Shared → Prop} {s : Shared} {h₀ : Heap} {L l : Addr} {news : List (Addr × Obj)} {vs : List Value} {ls : List (List Nat)} {sep : PySem.Str} {nn : Nat} {t : Tok} {Q : Value → Shared → Prop}
    (N : News h₀ L s.heap news) (hm : (l, listOf vs.toArray nn) ∈ news) (hv : StrsAre vs (ls.map tx)) (hsep : sep.length ≤ 16) (hb : ((ls.map tx).map (·.length)).sum + ls.length ≤ 1048576)
    (h : ∀ t' k, Q (.str (tx (glue (tl sep) ls)) t') { s with toks := k }) : wpAny (model prog w) A (call (.builtin "str.join") [.str sep t, .ref l]) Q E s := by
  refine join_listW (items := vs.toArray) ⟨_, (N _ hm).1, rfl, _, rfl⟩ hv hsep (by rw [List.length_map]; exact hb) ?_
  have e : Txt.join sep (ls.map tx) = tx (glue (tl sep) ls) := by
    rw [eq_of_beq (join_closes (sep := sep) rfl)]
    apply tl_inj
    rw [tl_join, tl_tx]
  rw [e]; exact h
theorem join_lst {prog : Program} {w : World} {A : Around} {E : Value → Shared → Prop} {s : Shared} {h₀ : Heap} {L l : Addr} {news : List (Addr × Obj)} {vs : List Value} {ls : List (List Nat)} {sep : PySem.Str} {t : Tok} {Q : Value → Shared → Prop}
    (N : News h₀ L s.heap news) (hm : (l, LCg.lst vs) ∈ news) (hv : StrsAre vs (ls.map tx)) (hsep : sep.length ≤ 16) (hb : ((ls.map tx).map (·.length)).sum + ls.length ≤ 1048576)
    (h : ∀ t' k, Q (.str (tx (glue (tl sep) ls)) t') { s with toks := k }) : wpAny (model prog w) A (call (.builtin "str.join") [.str sep t, .ref l]) Q E s :=
  join_tx (nn := vs.length) N hm hv hsep hb h
end Mine
end
section
theorem Mine.wr_Hexe : True := by
  k_with_none
  k_with "call ref" => k_extra "call ref last"
  k_with "om" => with_reducible first | assumption | exact Nat.add_sub_cancel_left _ _ | exact Int.ofNat_lt.mpr (by assumption) | exact Int.ofNat_le.mpr (by assumption) | exact Int.ofNat_lt.mp (by assumption) | exact Int.ofNat_le.mp (by assumption) | exact o_lt (by assumption) | exact o_nlt (by assumption) | exact o_63 (by assumption) (by assumption) (by with_unfolding_all exact rfl) | exact o_s2 (by assumption) | exact o_s1 (by assumption) (by assumption) | exact o_s3 (by assumption) (by assumption) | exact o_mt (by assumption) | exact o_f1 (by assumption) | exact Nat.le_of_lt (by assumption) | exact Nat.not_le.mp (by assumption) | exact o_sub (by assumption) | exact o_big1 (by assumption) (by with_unfolding_all exact rfl) | exact Nat.le_trans (Nat.le_add_right _ _) (by assumption) | exact Int.natCast_nonneg _ | exact Nat.le_trans (by assumption) (by assumption) | exact o_big (by assumption) (by assumption) (by with_unfolding_all exact rfl) | exact o_ltM (by assumption) (by assumption) | exact o_tr (by assumption) (by assumption) (by assumption) | exact Nat.lt_of_lt_of_le (by assumption) (by assumption) | exact Nat.lt_of_le_of_lt (by assumption) (by assumption) | exact Nat.ne_of_lt (by assumption) | exact Nat.ne_of_gt (by assumption) | exact o_mm (by assumption) | exact o_mm2 (by assumption) (by assumption) | exact o_mn | exact o_ml (by assumption) (by assumption) | exact o_and (by assumption) | rfl
  k_with "kst" => k_extra "mine kst"
  k_with "kst" => k_extra "mine same3"
  k_with "ksw" => k_extra "mine ksw"
  k_with "ksw" => k_extra "mine same"
  k_with "mine enter" => (refine' code_def ?k1q20 ?k2q20 ?k3q20 ?k4q20 ?k5q20 ?kAq20 ?kFq20 ?kKq20 ?k6q20 ?k7q20 ?k8q20 ?k9q20 ?kBq20 ?_ ?c2q20 ?c3q20 ?c4q20 ?c5q20; (case kAq20 => exact rfl); (case kFq20 => exact rfl); (case kKq20 => first | exact rfl | assumption); (case k1q20 => k_asm); (case k2q20 => k_asm); (case k3q20 => k_asm); (case k4q20 => k_asm); (case k5q20 => k_asm); (case k6q20 => k_is); (case k7q20 => k_is); (case k8q20 => first | (refine' rm0 ?rhq20; (case rhq20 => assumption)) | (refine' rm1 ?rhq20 ?rlq20; (case rhq20 => assumption); (case rlq20 => exact rfl)) | (refine' rm2 ?rhq20 ?rlq20; (case rhq20 => assumption); (case rlq20 => exact rfl)) | ktr_room); (case k9q20 => first | exact BindsTo.of_eq rfl | exact binds_K (by k_in) rfl (by k_is) rfl rfl rfl); (case c5q20 => decide); (case kBq20 => exact locs rfl); (case c2q20 => exact rfl); (case c3q20 => exact rfl); (case c4q20 => exact rfl); k_whole; intro g' L' h' FG'; (refine (?_ : let mk := _; Fr _ _ _ mk → _)); intro mk F' N' B' X' T'; (refine (?_ : let nk := _; let ak := _; let qk := _; let ek := _; let sk := _; wpAny _ ak (execs _ nk) qk ek sk)); intro nk ak qk ek sk)
  k_with "subscriptTail Name Attribute str int" => ((with_reducible show wpAny _ _ (subscriptTail _ _ (Value.str _ _) (Value.int _ _)) _ _ _); refine item_str (fitsSsize_of (N := 9223372036854775808) (by omega) (by omega) (Int.le_refl _)) (by omega) (by omega) ?_; intro _)
  k_with "mine inline" => (k_dflt (first | (refine' call_cls ?k1q22 ?k2q22 ?k3q22 ?k4q22 ?k5q22 ?k6q22 ?_; (case k1q22 => k_asm); (case k2q22 => k_asm); (case k3q22 => k_asm); (case k4q22 => k_is); (case k5q22 => k_is); (case k6q22 => k_is); k_whole; intro x' d' h' F' N' l1 l2; (try k_lt l1); (try k_lt2 l2); (try k_sweep); walk_at "mine enter") | (refine wpAny_call ?_; walk_at "mine enter")))
  k_with "ite" => first | with_reducible refine ite_tt ?_ | with_reducible refine ite_ff ?_
  k_with "mine room" => first | (refine' rm2 ?rhq24 ?rlq24; (case rhq24 => assumption); (case rlq24 => exact rfl)) | decide +kernel | omega | (simp only [depth_deeper, units_deeper]; omega) | (dsimp only [ktrTop]; omega) | (dsimp only [Around.deeper, ktrTop]; omega) | ktr_room | ktr_units
  k_with "mine tail" => ((case zzB => k_asm); (case zzF => k_asm); (case zzX => k_asm); (case zzT => k_asm); (case zzN => k_asm); (case zzk => first | exact rfl | assumption); (case zzp => walk_at "mine room"); (case zzu => walk_at "mine room"))
  k_with "isTrue Compare" => (k_here; first | ((with_reducible show wpAny _ _ (isTrue (PySem.Expr.Compare (PySem.Expr.Name _ _) [PySem.CmpOp.Eq] [PySem.Expr.Constant (PySem.Const.str _) _ _] _) _ _) _ _ _); k_dflt (refine' tst_eq ?zaq26 ?zbq26 ?zcq26 ?zmq26 ?zFq26 ?zvq26 ?_; (case zFq26 => k_asm); (case zaq26 => rfl); (case zbq26 => rfl); (case zcq26 => decide); (case zvq26 => rfl); (case zmq26 => with_unfolding_all rfl); k_whole)) | ((with_reducible show wpAny _ _ (isTrue (PySem.Expr.Compare (PySem.Expr.Name _ _) [PySem.CmpOp.NotEq] [PySem.Expr.Constant (PySem.Const.str _) _ _] _) _ _) _ _ _); k_dflt (refine' tst_ne ?zaq26 ?zbq26 ?zcq26 ?zmq26 ?zFq26 ?zvq26 ?_; (case zFq26 => k_asm); (case zaq26 => rfl); (case zbq26 => rfl); (case zcq26 => decide); (case zvq26 => rfl); (case zmq26 => with_unfolding_all rfl); k_whole)))
  k_with "eval BinOp" => (k_here; (with_reducible show wpAny _ _ (eval (PySem.Expr.BinOp (PySem.Expr.Name _ _) PySem.Operator.Add (PySem.Expr.Constant (PySem.Const.int _) _ _) _) _) _ _ _); k_dflt (refine' add_nc ?zaq27 ?zbq27 ?zcq27 ?zFq27 ?zvq27 ?_; (case zFq27 => k_asm); (case zaq27 => rfl); (case zbq27 => rfl); (case zcq27 => decide); (case zvq27 => rfl); k_whole))
  k_with "mine steps" => repeat' (first | ((first | (fail_if_success (fail_if_success k_unfold)) | (fail_if_success (fail_if_success k_fold))); (refine (?_ : let qk := _; let sk := _; wpAny _ _ _ qk _ sk)); intro qk sk) | ((fail_if_success (fail_if_success k_unfold)); (refine (?_ : let sk := _; LeaveK _ _ _ _ _ _ sk)); intro sk) | (k_unfold; (try dsimp only)) | walk1 | (k_end; wrow_close) | (dsimp only [List.nil_append, List.cons_append]; walk1) | (leave1; (try dsimp only)) | fail "no step")
  k_with "execs cons" => (with_reducible refine wpAny_execs_cons ?_)
  k_with "eval Name" => (k_dflt (refine' nmL ?zaq30 ?zbq30 ?zdq30 ?zFq30 ?zvq30 ?_; (case zFq30 => k_asm); (case zaq30 => rfl); (case zbq30 => rfl); (case zvq30 => rfl); (case zdq30 => decide); k_whole))
  k_with "storeName" => (k_dflt (refine' stL ?zaq31 ?zbq31 ?zFq31 ?zNq31 ?_; (case zFq31 => k_asm); (case zNq31 => k_asm); (case zaq31 => rfl); (case zbq31 => rfl); k_whole; intro h' mk F' N'; (try k_sweep)))
  k_with "LeaveK" => (k_dflt (refine' leaveK_ ?k1q32 ?k2q32 ?_; (case k1q32 => k_asm); (case k2q32 => k_asm); k_whole); intro kF kN; (try dsimp only [InitBack]); (try refine ⟨rfl, ?_⟩))
  k_with "mine kst" => (intro z h1 h2 h3; (try dsimp +zetaDelta only [kstB]); (try simp only [List.forall_mem_cons, List.not_mem_nil, false_implies, implies_true, and_true, ne_eq] at h2); first | rfl | (simp [h1]; done) | (simp [h1, h2]; done) | ((try simp only [List.contains_cons, List.contains_nil, Bool.or_false, Bool.or_eq_false_iff, beq_eq_false_iff_ne, ne_eq] at h3); first | (simp [h1, h3]; done) | (simp [h1, h2, h3]; done)))
  k_with "mine same3" => (k_dflt (refine sn_end3 ?_; (repeat (first | (with_reducible exact sn_refl) | (refine' sn_in ?_ ?hpq34 ?hsq34; (case hpq34 => exact rfl); (case hsq34 => exact rfl)) | (refine' sn_upd ?_ ?hxq34; (case hxq34 => exact rfl)))); done))
  k_with "mine ksw" => (intro z h2 h3; (try dsimp +zetaDelta only [kstB]); (try simp only [List.forall_mem_cons, List.not_mem_nil, false_implies, implies_true, and_true, ne_eq] at h2); (try simp only [List.contains_cons, List.contains_nil, Bool.or_false, Bool.or_eq_false_iff, beq_eq_false_iff_ne, ne_eq] at h3); first | rfl | (simp [h2]; done) | (simp [h3]; done) | (simp [h2, h3]; done))
  k_with "mine same" => (k_dflt (refine sn_end ?_; (repeat (first | (with_reducible exact sn_refl) | (refine' sn_in ?_ ?hpq36 ?hsq36; (case hpq36 => exact rfl); (case hsq36 => exact rfl)) | (refine' sn_upd ?_ ?hxq36; (case hxq36 => exact rfl)))); done))
  w_top off
  trivial
namespace Mine
noncomputable def hexd (i : Nat) : Nat := if i < 10 then 48 + i else 87 + i
/-- a sign as it is written between two quotes -/
noncomputable def escS (x : Nat) : List Nat := if x = 10 then [92, 110] else if x = 9 then [92, 116] else if x = 39 ∨ x = 92 then [92, x] else if (x < 32 ∨ 126 < x) ∧ x < 256 then [92, 120, hexd (x / 16), hexd (x % 16)] else [x]
set_option maxRecDepth 100000 in
theorem hex_text : ∀ x, x < 256 → PySem.Str.ofString "\\x" ++ Txt.item (PySem.Str.ofString "0123456789abcdef") (((x : Nat) : Int).fdiv 16) ++ Txt.item (PySem.Str.ofString "0123456789abcdef") (((x : Nat) : Int).fmod 16) = tx [92, 120, hexd (x / 16), hexd (x % 16)] := by decide +kernel
theorem bs_one (x : Nat) : PySem.Str.ofString "\\" ++ (⟨#[x]⟩ : PySem.Str) = tx [92, x] := by
  rw [show PySem.Str.ofString "\\" = (⟨#[92]⟩ : PySem.Str) from by decide +kernel]; rfl
theorem escS_len (x : Nat) : (escS x).length ≤ 4 := by
  unfold escS; repeat' split
  all_goals simp
set_option maxHeartbeats 8000000 in
theorem hex_escape_ok {w : World} {mean : ExcName → Option Value} {mg mb : PySem.Str → Option Value} {dp un : Nat} {gd : Option (List Code)} {cn : PySem.Str} {cs : Scope} {a : Addr} {ccd : Value} {cl : List (PySem.Str × Addr)} {outer : List Env} {A₀ : Around} {base h₀ : Heap} {L : Addr} {m : PySem.Str → Option Value} {s : Shared} {Q E : Value → Shared → Prop} {news : List (Addr × Obj)} (B : Below A₀ base outer h₀) (F : Fr h₀ L s.heap m) (X : (Mine.hd.heap_1_39 w.params).In h₀) (T : Top Mine.hd.view_1_40 lo mean mg mb h₀) (hk : cs.kind = .function) (hdp : dp + 5 < recursionLimit) (hun : un + 50 < cLine) (N : News h₀ L s.heap news) {x : Nat} {u1 : Tok} (hx : x < 256)
  (ret : ∀ (t : Tok) (h' : Heap) (tk' : Nat), Fr h₀ L h' m → News h₀ L h' news → Q (.str (tx [92, 120, hexd (x / 16), hexd (x % 16)]) t) { s with heap := h', toks := tk' }) : wpAny (model PySem.Challenge.rw_nn0359_01.row.prog w) (ktrTop dp un gd cn cs L a ccd cl outer) (call (.ref 233) [.int (x : Int) u1]) Q E s := by
  refine wpAny_call ?_
  k_dflt walk_at "mine enter"
  walk_at "mine steps"
  rw [hex_text x hx]
  exact ret _ _ _ (by assumption) (by assumption)
end Mine
theorem Mine.kw_Hexe_1 : True := by
  k_with "call ref" => (k_dflt (show wpAny _ _ (call (Value.ref 233) [_]) _ _ _); k_dflt (refine' hex_escape_ok ?zzB ?zzF ?zzX ?zzT ?zzk ?zzp ?zzu ?zzN ?zzhx ?_; walk_at "mine tail"; (case zzhx => omega)); intro _ h' tk' F' N')
  trivial
namespace Mine
theorem escS_hex {x : Nat} (h1 : ¬ x = 10) (h2 : ¬ x = 9) (h3 : ¬ x = 39) (h4 : ¬ x = 92) (h5 : (x < 32 ∨ 126 < x) ∧ x < 256) : escS x = [92, 120, hexd (x / 16), hexd (x % 16)] := by unfold escS; rw [if_neg h1, if_neg h2, if_neg (fun h => h.elim h3 h4), if_pos h5]
theorem escS_self {x : Nat} (h1 : ¬ x = 10) (h2 : ¬ x = 9) (h3 : ¬ x = 39) (h4 : ¬ x = 92) (h5 : ¬ ((x < 32 ∨ 126 < x) ∧ x < 256)) : escS x = [x] := by unfold escS; rw [if_neg h1, if_neg h2, if_neg (fun h => h.elim h3 h4), if_neg h5]
theorem in39_f {x : Nat} (h3 : ¬ x = 39) : (PySem.Builtin.Str.occurrences (PySem.Str.ofString "'") ⟨#[x]⟩ 0 (PySem.Str.ofString "'").length 1).isEmpty = true := occ_f (wd := PySem.Str.ofString "'") (c := x) (by
    unfold inS; rw [show tl (PySem.Str.ofString "'") = [39] from by decide +kernel]; simp [h3])
set_option maxHeartbeats 8000000 in
theorem escaped_sign_ok {w : World} {mean : ExcName → Option Value} {mg mb : PySem.Str → Option Value} {dp un : Nat} {gd : Option (List Code)} {cn : PySem.Str} {cs : Scope} {a : Addr} {ccd : Value} {cl : List (PySem.Str × Addr)} {outer : List Env} {A₀ : Around} {base h₀ : Heap} {L : Addr} {m : PySem.Str → Option Value} {s : Shared} {Q E : Value → Shared → Prop} {news : List (Addr × Obj)} (B : Below A₀ base outer h₀) (F : Fr h₀ L s.heap m) (X : (Mine.hd.heap_1_39 w.params).In h₀) (T : Top Mine.hd.view_1_40 lo mean mg mb h₀) (hk : cs.kind = .function) (hdp : dp + 10 < recursionLimit) (hun : un + 100 < cLine) (N : News h₀ L s.heap news) {x : Nat} {u1 u2 : Tok} (hx : x < 1000)
  (ret : ∀ (t : Tok) (h' : Heap) (tk' : Nat), Fr h₀ L h' m → News h₀ L h' news → Q (.str (tx (escS x)) t) { s with heap := h', toks := tk' }) : wpAny (model PySem.Challenge.rw_nn0359_01.row.prog w) (ktrTop dp un gd cn cs L a ccd cl outer) (call (.ref 240) [.str ⟨#[x]⟩ u1, .str (PySem.Str.ofString "'") u2]) Q E s := by
  (k_with "truthy bool" => ((with_reducible show wpAny _ _ (truthy (Value.bool (_ == PySem.Str.ofString "\n"))) _ _ _); (fail_if_success (have := e1)); (refine (?_ : let gk := _; gk)); (intro gk); (by_cases h1 : x = 10); (have e1 := (one_lit (z := "\n") (y := 10) (by decide +kernel) x).trans (decide_eq_true h1)); rotate_left; (have e1 := (one_lit (z := "\n") (y := 10) (by decide +kernel) x).trans (decide_eq_false h1)); rotate_left; (all_goals ((refine (?_ : gk)); k_unfold))))
  (k_with "truthy bool" => ((with_reducible show wpAny _ _ (truthy (Value.bool (_ == PySem.Str.ofString "\t"))) _ _ _); (fail_if_success (have := e2)); (refine (?_ : let gk := _; gk)); (intro gk); (by_cases h2 : x = 9); (have e2 := (one_lit (z := "\t") (y := 9) (by decide +kernel) x).trans (decide_eq_true h2)); rotate_left; (have e2 := (one_lit (z := "\t") (y := 9) (by decide +kernel) x).trans (decide_eq_false h2)); rotate_left; (all_goals ((refine (?_ : gk)); k_unfold))))
  (k_with "compareOp In str str" => k_dflt ((fail_if_success (have := e3)); (refine (?_ : let gk := _; gk)); (intro gk); (by_cases h3 : x = 39); (have e3 := occ_t (wd := PySem.Str.ofString "'") (c := x) (by rw [h3]; decide +kernel)); rotate_left; (have e3 := in39_f h3); rotate_left; (all_goals ((refine (?_ : gk)); k_unfold))))
  (k_with "truthy bool" => ((with_reducible show wpAny _ _ (truthy (Value.bool (_ == PySem.Str.ofString "\\"))) _ _ _); (fail_if_success (have := e4)); (refine (?_ : let gk := _; gk)); (intro gk); (by_cases h4 : x = 92); (have e4 := (one_lit (z := "\\") (y := 92) (by decide +kernel) x).trans (decide_eq_true h4)); rotate_left; (have e4 := (one_lit (z := "\\") (y := 92) (by decide +kernel) x).trans (decide_eq_false h4)); rotate_left; (all_goals ((refine (?_ : gk)); k_unfold))))
  refine wpAny_call ?_
  k_dflt walk_at "mine enter"
  walk_at "mine steps"
  all_goals first
    | (rw [show PySem.Str.ofString "\\n" = tx (escS x) from by rw [h1]; decide +kernel]; exact ret _ _ _ (by assumption) (by assumption))
    | (rw [show PySem.Str.ofString "\\t" = tx (escS x) from by rw [h2]; decide +kernel]; exact ret _ _ _ (by assumption) (by assumption))
    | (rw [bs_one, show [92, x] = escS x from by rw [h3]; decide +kernel]; exact ret _ _ _ (by assumption) (by assumption))
    | (rw [bs_one, show [92, x] = escS x from by rw [h4]; decide +kernel]; exact ret _ _ _ (by assumption) (by assumption))
    | (rw [← escS_hex h1 h2 h3 h4 (by omega)]; exact ret _ _ _ (by assumption) (by assumption))
    | ((have he := escS_self h1 h2 h3 h4 (by omega)); rw [he] at ret; exact ret _ _ _ (by assumption) (by assumption))
end Mine
theorem Mine.kw_Hexe_2 : True := by
  k_with "call ref" => (k_dflt (show wpAny _ _ (call (Value.ref 240) [_, _]) _ _ _); k_dflt (refine' escaped_sign_ok ?zzB ?zzF ?zzX ?zzT ?zzk ?zzp ?zzu ?zzN ?zzhx ?_; walk_at "mine tail"; (case zzhx => omega)); intro _ h' tk' F' N')
  trivial
end
section
set_option maxRecDepth 100000
namespace Mine
theorem codeGo_lt {wd : PySem.Str} {base : Nat} (hb : ∀ x, inS wd x = true → hexv x < base) : ∀ (f : Nat) (R : List Nat) (a B : Nat), 0 < base → a < B → (codeGo wd base f R a).1 < B * base ^ f
  | 0, _, a, B, _, h => by simpa [codeGo] using h
  | f + 1, [], a, B, h0, h => by
    show a < B * base ^ (f + 1)
    exact Nat.lt_of_lt_of_le h (Nat.le_mul_of_pos_right _ (Nat.pow_pos h0))
  | f + 1, x :: r, a, B, h0, h => by
    simp only [codeGo]
    split
    · rename_i hx
      have h1 := hb x hx
      have h2 : a * base + hexv x < B * base := by
        calc a * base + hexv x < a * base + base := by omega
          _ = (a + 1) * base := by rw [Nat.add_mul, Nat.one_mul]
          _ ≤ B * base := Nat.mul_le_mul_right _ h
      have h3 := codeGo_lt hb f r (a * base + hexv x) (B * base) h0 h2
      rw [Nat.pow_succ, Nat.mul_comm (base ^ f), ← Nat.mul_assoc]
      exact h3
    · exact Nat.lt_of_lt_of_le h (Nat.le_mul_of_pos_right _ (Nat.pow_pos h0))
theorem escR_lt {x : Nat} {r : List Nat} (hx : x < 512) : (escR (x :: r)).1 < 512 := by
  simp only [escR]
  rcases h : plainE x with _ | v
  · simp only
    by_cases ho : isOc x = true
    · rw [if_pos ho]
      have := codeGo_lt (wd := OCS) (base := 8) (fun y hy => hexv_oc hy) 3 (x :: r) 0 1 (by decide) (by decide)
      omega
    · rw [if_neg ho]
      split
      · have := codeGo_lt (wd := HXS) (base := 16) (fun y hy => hexv_hx hy) 2 r 0 1 (by decide) (by decide)
        simp only; omega
      · exact hx
  · simp only
    unfold plainE at h
    repeat' split at h
    all_goals first | (injection h with h; omega) | (cases h)
theorem qGo_ok : ∀ (f : Nat) (acc R : List Nat) (n : Nat) (acc' : List Nat) (e : Nat), (∀ c ∈ acc, c < 512) → (∀ c ∈ R, c < 512) → qGo f acc R n = some (acc', e) → (∀ c ∈ acc', c < 512) ∧ n < e ∧ e ≤ n + R.length
  | 0, _, _, _, _, _, _, _, h => by simp [qGo] at h
  | _ + 1, _, [], _, _, _, _, _, h => by simp [qGo] at h
  | f + 1, acc, x :: r, n, acc', e, ha, hr, h => by
    have hx := hr x (.head _)
    have hr' : ∀ c ∈ r, c < 512 := fun c hc => hr c (.tail _ hc)
    simp only [qGo] at h
    by_cases h39 : x = 39
    · rw [if_pos h39] at h
      injection h with h; injection h with h1 h2
      subst h1; subst h2
      exact ⟨ha, by omega, by simp⟩
    rw [if_neg h39] at h
    by_cases h92 : x = 92
    · rw [if_pos h92] at h
      cases r with
      | nil => simp at h
      | cons y r =>
        simp only at h
        have hy := hr' y (.head _)
        have hle := escR_le y r
        have := qGo_ok f _ _ _ _ _ (fun c hc => by
          rcases List.mem_append.mp hc with hc | hc
          · exact ha c hc
          · rw [List.mem_singleton.mp hc]; exact escR_lt hy) (fun c hc => hr' c (List.mem_of_mem_drop hc)) h
        obtain ⟨h1, h2, h3⟩ := this
        rw [List.length_drop] at h3
        refine ⟨h1, by omega, ?_⟩
        simp only [List.length_cons] at h3 hle ⊢
        omega
    · rw [if_neg h92] at h
      have := qGo_ok f _ _ _ _ _ (fun c hc => by
          rcases List.mem_append.mp hc with hc | hc
          · exact ha c hc
          · rw [List.mem_singleton.mp hc]; exact hx) hr' h
      obtain ⟨h1, h2, h3⟩ := this
      refine ⟨h1, by omega, ?_⟩
      simp only [List.length_cons]; omega
theorem quoR_ok {R : List Nat} {n : Nat} {acc : List Nat} {e : Nat} (hR : ∀ c ∈ R, c < 512) (h : quoR R n = some (acc, e)) : (∀ c ∈ acc, c < 512) ∧ n < e ∧ e ≤ n + R.length :=
  qGo_ok _ _ _ _ _ _ (fun c hc => by cases hc) hR h
end Mine
end
section
set_option maxRecDepth 100000
namespace Mine
/-- what stands behind a step's word -/
inductive Wth
  | no
  | txt (l : List Nat)
  | num (k : Nat)
/-- what a word wants behind it -/
inductive Want
  | kind
  | no
  | cond
  | num
noncomputable abbrev wd (z : String) : List Nat := tl (PySem.Str.ofString z)
noncomputable def Want.txt : Want → String
  | .kind => "kind"
  | .no => ""
  | .cond => "condition"
  | .num => "number"
noncomputable def wantR (word : List Nat) : Option Want :=
  if word = wd "return" then some .kind else if word = wd "skip" then some .no else if word = wd "begin" then some .cond
  else if word = wd "push" then some .cond else if word = wd "pop" then some .no else if word = wd "more" then some .no
  else if word = wd "less" then some .num else if word = wd "reject" then some .no else if word = wd "echo" then some .no else none
theorem strW (z : String) (word : List Nat) (t : Tok) : (Value.str (PySem.Str.ofString z) t).isStr (tx word) = decide (word = wd z) := by
  show (PySem.Str.ofString z == tx word) = _
  rw [Bool.eq_iff_iff, beq_iff_eq, decide_eq_true_eq]
  constructor
  · intro h; rw [← tl_tx word, ← h]
  · intro h; rw [h, tx_tl]
theorem look246 (w : World) : (Mine.hd.heap_1_39 w.params).lookup 246 = some ⟨.type "dict", none, .dict #[ent w.params "return" 529 (.str (PySem.Str.ofString "kind") 530), ent w.params "skip" 531 (.str (PySem.Str.ofString "") 532), ent w.params "begin" 533 (.str (PySem.Str.ofString "condition") 534), ent w.params "push" 535 (.str (PySem.Str.ofString "condition") 536), ent w.params "pop" 537 (.str (PySem.Str.ofString "") 538), ent w.params "more" 539 (.str (PySem.Str.ofString "") 540), ent w.params "less" 541 (.str (PySem.Str.ofString "number") 542), ent w.params "reject" 543 (.str (PySem.Str.ofString "") 544), ent w.params "echo" 545 (.str (PySem.Str.ofString "") 546)] 9, #[]⟩ := by k_is
noncomputable def WAt (word : List Nat) (es : List DictEntry) (o : Option Want) : Prop :=
  (o = none ∧ es.find? (·.key.isStr (tx word)) = none) ∨ ∃ (wa : Want) (t : Tok) (e : DictEntry), o = some wa ∧ es.find? (·.key.isStr (tx word)) = some e ∧ e.val = .str (PySem.Str.ofString wa.txt) t
theorem WAt.step {word : List Nat} {es : List DictEntry} {o : Option Want} {e : DictEntry} (z : String) (wa : Want) {t1 t : Tok} (hk : e.key = .str (PySem.Str.ofString z) t1) (hv : e.val = .str (PySem.Str.ofString wa.txt) t) (h : WAt word es o) :
    WAt word (e :: es) (if word = wd z then some wa else o) := by
  have hs : e.key.isStr (tx word) = decide (word = wd z) := by rw [hk]; exact strW z word t1
  by_cases hw : word = wd z
  · rw [if_pos hw]; exact .inr ⟨wa, t, e, rfl, by rw [List.find?_cons_of_pos (by rw [hs]; exact decide_eq_true hw)], hv⟩
  · rw [if_neg hw]; unfold WAt; rw [List.find?_cons_of_neg (by rw [hs, decide_eq_false hw]; decide)]; exact h
theorem want_at (w : World) (word : List Nat) : (wantR word = none ∧ nsIn (Mine.hd.heap_1_39 w.params) 246 (tx word) = some none) ∨ ∃ (wa : Want) (t : Tok), wantR word = some wa ∧ nsIn (Mine.hd.heap_1_39 w.params) 246 (tx word) = some (some (.str (PySem.Str.ofString wa.txt) t)) := by
  have k := fun es (e : es = ([] : List DictEntry)) => WAt.step (word := word) "return" .kind (t1 := 529) (t := 530) (e := ent w.params "return" 529 (.str (PySem.Str.ofString "kind") 530)) rfl rfl (WAt.step "skip" .no (t1 := 531) (t := 532) (e := ent w.params "skip" 531 (.str (PySem.Str.ofString "") 532)) rfl rfl (WAt.step "begin" .cond (t1 := 533) (t := 534) (e := ent w.params "begin" 533 (.str (PySem.Str.ofString "condition") 534)) rfl rfl (WAt.step "push" .cond (t1 := 535) (t := 536) (e := ent w.params "push" 535 (.str (PySem.Str.ofString "condition") 536)) rfl rfl (WAt.step "pop" .no (t1 := 537) (t := 538) (e := ent w.params "pop" 537 (.str (PySem.Str.ofString "") 538)) rfl rfl (WAt.step "more" .no (t1 := 539) (t := 540) (e := ent w.params "more" 539 (.str (PySem.Str.ofString "") 540)) rfl rfl (WAt.step "less" .num (t1 := 541) (t := 542) (e := ent w.params "less" 541 (.str (PySem.Str.ofString "number") 542)) rfl rfl (WAt.step "reject" .no (t1 := 543) (t := 544) (e := ent w.params "reject" 543 (.str (PySem.Str.ofString "") 544)) rfl rfl (WAt.step "echo" .no (t1 := 545) (t := 546) (e := ent w.params "echo" 545 (.str (PySem.Str.ofString "") 546)) rfl rfl (show WAt word es none from .inl ⟨rfl, by rw [e]; rfl⟩)))))))))
  unfold nsIn
  rw [look246 w]
  rcases k [] rfl with ⟨h1, h2⟩ | ⟨wa, t, e, h1, h2, h3⟩
  · exact .inl ⟨h1, by dsimp only; rw [h2]; rfl⟩
  · exact .inr ⟨wa, t, h1, by dsimp only; rw [h2, ← h3]⟩
/-- the names of the conditions -/
noncomputable def nmsL : List (List Nat) := [wd "INITIAL", wd "A", wd "B_2"]
noncomputable abbrev decN (l : List Nat) : Nat := NumText.digitsVal l
/-- a name behind a word -/
noncomputable def nameStep (word : List Nat) (cond : Bool) (R2 : List Nat) (n2 : Nat) : Except Nat ((List Nat × Wth) × Nat) :=
  if nameR R2 = [] then .error n2
  else if cond = true ∧ (nmsL.contains (nameR R2)) = false then .error n2
  else .ok ((word, .txt (nameR R2)), n2 + (nameR R2).length)
noncomputable def quoStep (word : List Nat) (n2 : Nat) : Option (List Nat × Nat) → Except Nat ((List Nat × Wth) × Nat)
  | some ([c], e) => .ok ((word, .txt (39 :: escS c ++ [39])), e)
  | _ => .error n2
/-- what stands behind a word that wants something -/
noncomputable def worthR (word : List Nat) : Want → List Nat → Nat → Except Nat ((List Nat × Wth) × Nat)
  | .no, _, n => .ok ((word, .no), n)
  | .num, R2, n2 => if R2.takeWhile isDg = [] ∨ 6 < (R2.takeWhile isDg).length then .error n2 else .ok ((word, .num (decN (R2.takeWhile isDg))), n2 + run isDg R2)
  | .kind, R2, n2 => if R2.head? = some 39 then quoStep word n2 (quoR (R2.drop 1) (n2 + 1)) else nameStep word false R2 n2
  | .cond, R2, n2 => nameStep word true R2 n2
/-- what step_at reads: the step and the place behind it, or the place of the fault -/
noncomputable def stepR (R : List Nat) (n : Nat) : Except Nat ((List Nat × Wth) × Nat) :=
  match wantR (nameR R) with
  | none => .error n
  | some .no => .ok ((nameR R, .no), n + (nameR R).length)
  | some wa => worthR (nameR R) wa ((R.drop (nameR R).length).dropWhile isBl) (n + (nameR R).length + run isBl (R.drop (nameR R).length))
end Mine
end
section
set_option maxRecDepth 100000
namespace Mine
/-- a worth's value -/
noncomputable def Wth.is : Wth → Value → Prop
  | .no, v => v = .none
  | .txt l, v => ∃ t, v = .str (tx l) t
  | .num k, v => ∃ t, v = .int (k : Int) t
/-- a LexStep's dict -/
noncomputable abbrev stepD (h1 h2 : Int) (t1 t2 t3 : Tok) (word : List Nat) (wv : Value) : Obj :=
  dictOf [⟨h1, .str "word" t1, .str (tx word) t2⟩, ⟨h2, .str "worth" t3, wv⟩] 2
noncomputable abbrev nmsO (nq : Nat) (t1 t2 t3 : Tok) : Obj := listOf #[.str (PySem.Str.ofString "INITIAL") t1, .str (PySem.Str.ofString "A") t2, .str (PySem.Str.ofString "B_2") t3] nq
theorem nm_ne {h₀ h : Heap} {L ln d : Addr} {nq : Nat} {t1 t2 t3 : Tok} {es : List DictEntry} {n : Nat} {news : List (Addr × Obj)} (N : News h₀ L h news) (hl : (ln, nmsO nq t1 t2 t3) ∈ news) (hd : (d, dictOf es n) ∈ news) : ln ≠ d := fun e => by
  have a := (N _ hl).1
  have b := (N _ hd).1
  simp only at a b
  rw [e, b] at a
  have e3 := congrArg Obj.cls (Option.some.inj a)
  simp [dictOf, W.listOf] at e3
theorem nm_news {h₀ h : Heap} {L ln : Addr} {o : Obj} {l news : List (Addr × Obj)} (N : News h₀ L h news) (hl : (ln, o) ∈ news) (N2 : News h₀ L h l) : News h₀ L h ((ln, o) :: l) := fun p hp => by
  rcases List.mem_cons.mp hp with rfl | hp
  · exact N _ hl
  · exact N2 p hp
theorem news_two {h₀ h : Heap} {L : Addr} {p q : Addr × Obj} {l l' : List (Addr × Obj)} (N : News h₀ L h (p :: q :: l)) (h2 : News h₀ L h l → News h₀ L h l') : News h₀ L h (p :: q :: l') := fun r hr => by
  rcases List.mem_cons.mp hr with rfl | hr
  · exact N _ (.head _)
  · rcases List.mem_cons.mp hr with rfl | hr
    · exact N _ (.tail _ (.head _))
    · exact h2 (fun r hr => N r (.tail _ (.tail _ hr))) r hr
theorem nameR_pre (R : List Nat) : ∃ r, R = nameR R ++ r := by
  cases R with
  | nil => exact ⟨[], rfl⟩
  | cons x r =>
    by_cases h : isNm x = true ∧ isDg x = false
    · refine ⟨(x :: r).dropWhile isNm, ?_⟩
      rw [show nameR (x :: r) = (x :: r).takeWhile isNm by simp only [nameR, if_pos h]]
      exact (List.takeWhile_append_dropWhile).symm
    · refine ⟨x :: r, ?_⟩
      rw [show nameR (x :: r) = [] by simp only [nameR, if_neg h]]
      rfl
theorem nameR_len (R : List Nat) : (nameR R).length ≤ R.length := by
  obtain ⟨r, h⟩ := nameR_pre R
  have := congrArg List.length h
  simp at this; omega
theorem tx_ne_empty {l : List Nat} (h : l ≠ []) : (tx l == PySem.Str.ofString "") = false := by
  apply beq_false_of_ne
  intro e
  rw [empty_tx] at e
  have := congrArg tl e
  rw [tl_tx, tl_tx] at this
  exact h this
theorem tx_is_empty {l : List Nat} (h : l = []) : (tx l == PySem.Str.ofString "") = true := by
  rw [h, empty_tx]; exact beq_self_eq_true _
theorem tx_len (l : List Nat) : (tx l).length = l.length := by rw [len_tl, tl_tx]
theorem all_figs (R : List Nat) : NumText.AllDigits (R.takeWhile isDg) := fun c hc => (isDg_iff c).mp (List.all_eq_true.mp (List.all_takeWhile (p := isDg) (l := R)) c hc)
theorem int_figs (R : List Nat) (h : ¬ R.takeWhile (inS (PySem.Str.ofString "0123456789")) = []) (hl : (tx (R.takeWhile (inS (PySem.Str.ofString "0123456789")))).length ≤ 640) :
    PySem.intText? (tx (R.takeWhile (inS (PySem.Str.ofString "0123456789")))) = some ((decN (R.takeWhile (inS (PySem.Str.ofString "0123456789"))) : Nat) : Int) := by
  have := intText_digits (x := tx (R.takeWhile (inS (PySem.Str.ofString "0123456789")))) (by rw [show (tx (R.takeWhile (inS (PySem.Str.ofString "0123456789")))).cps.toList = R.takeWhile isDg from tl_tx _]; exact all_figs R) (by rw [show (tx (R.takeWhile (inS (PySem.Str.ofString "0123456789")))).cps.toList = R.takeWhile (inS (PySem.Str.ofString "0123456789")) from tl_tx _]; exact h) (by omega)
  rw [this]
theorem tx_beq (x : PySem.Str) (l : List Nat) : (x == tx l) = (l == tl x) := by
  rw [Bool.eq_iff_iff, beq_iff_eq, beq_iff_eq]
  constructor
  · intro h; rw [h, tl_tx]
  · intro h; rw [h, tx_tl]
theorem nms_any (l : List Nat) : ([PySem.Str.ofString "INITIAL", PySem.Str.ofString "A", PySem.Str.ofString "B_2"].any fun x => x == tx l) = nmsL.contains l := by
  unfold nmsL
  simp only [List.any_cons, List.any_nil, tx_beq, List.contains_cons, List.contains_nil]
end Mine
end
section
set_option maxRecDepth 100000
namespace Mine
/-- a LexStep as it lies in the heap -/
structure SR where
  x : Addr
  dx : Addr
  k1 : Int
  k2 : Int
  v1 : Tok
  v2 : Tok
  v3 : Tok
  wo : List Nat
  wt : Wth
  wv : Value
noncomputable abbrev SR.st (r : SR) : List Nat × Wth := (r.wo, r.wt)
noncomputable def srL : List SR → List (Addr × Obj)
  | [] => []
  | r :: rs => (r.x, instObj 279 r.dx) :: (r.dx, stepD r.k1 r.k2 r.v1 r.v2 r.v3 r.wo r.wv) :: srL rs
noncomputable abbrev srRefs (rs : List SR) : List Value := rs.reverse.map fun r => Value.ref r.x
/-- whether the last step read ends a rule -/
noncomputable def endsR : List (List Nat × Wth) → Bool
  | [] => false
  | (wo, _) :: _ => wo == wd "return" || wo == wd "reject"
/-- what steps_at reads (the steps read so far, the last one first) -/
noncomputable def stepsGo (T : List Nat) : Nat → List (List Nat × Wth) → Nat → Except Nat (List (List Nat × Wth))
  | 0, _, n => .error n
  | f + 1, acc, n =>
    if T.drop (n + run isBl (T.drop n)) = [] then (if acc = [] then .error (n + run isBl (T.drop n)) else .ok acc.reverse)
    else if endsR acc = true then .error (n + run isBl (T.drop n))
    else match stepR (T.drop (n + run isBl (T.drop n))) (n + run isBl (T.drop n)) with
      | .error j => .error j
      | .ok (st, e) =>
        if T.drop (e + run isBl (T.drop e)) = [] then stepsGo T f (st :: acc) (e + run isBl (T.drop e))
        else if (T.drop (e + run isBl (T.drop e))).head? = some 59 then stepsGo T f (st :: acc) (e + run isBl (T.drop e) + 1)
        else .error (e + run isBl (T.drop e))
noncomputable def stepsR (T : List Nat) (n : Nat) : Except Nat (List (List Nat × Wth)) := stepsGo T (T.length + 2) [] n
theorem wantR_ne {wo : List Nat} {wa : Want} (h : wantR wo = some wa) : wo ≠ [] := by
  rintro rfl
  have : wantR [] = none := by decide +kernel
  rw [this] at h; cases h
theorem run_drop_le (p : Nat → Bool) (R : List Nat) : run p R ≤ R.length := run_le p R
theorem dropWhile_len (p : Nat → Bool) (R : List Nat) : (R.dropWhile p).length + run p R = R.length := by
  rw [← drop_run, List.length_drop]; have := run_le p R; omega
theorem stepR_pos {R : List Nat} {n : Nat} {st : List Nat × Wth} {e : Nat} (hR : ∀ c ∈ R, c < 512) (h : stepR R n = .ok (st, e)) : n < e ∧ e ≤ n + R.length := by
  unfold stepR at h
  rcases hw : wantR (nameR R) with _ | wa
  · rw [hw] at h; cases h
  have hne := wantR_ne hw
  have hpos : 0 < (nameR R).length := List.length_pos_iff.mpr hne
  have hle := nameR_len R
  have hd : (R.drop (nameR R).length).length = R.length - (nameR R).length := List.length_drop
  have hd2 := dropWhile_len isBl (R.drop (nameR R).length)
  have hw2 : ∀ R2 n2, worthR (nameR R) wa R2 n2 = .ok (st, e) → (∀ c ∈ R2, c < 512) → n2 ≤ e ∧ e ≤ n2 + R2.length := by
    intro R2 n2 h hR2
    have hnm : ∀ b, nameStep (nameR R) b R2 n2 = .ok (st, e) → n2 ≤ e ∧ e ≤ n2 + R2.length := by
      intro b h
      unfold nameStep at h
      split at h
      · cases h
      · split at h
        · cases h
        · injection h with h; injection h with h1 h2
          have := nameR_len R2
          omega
    cases wa with
    | no => injection h with h; injection h with h1 h2; omega
    | cond => exact hnm true h
    | num =>
      simp only [worthR] at h
      split at h
      · cases h
      · injection h with h; injection h with h1 h2
        have := run_le isDg R2
        omega
    | kind =>
      simp only [worthR] at h
      split at h
      · rename_i hq
        rcases hq2 : quoR (R2.drop 1) (n2 + 1) with _ | ⟨_ | ⟨c1, _ | ⟨c2, l⟩⟩, e'⟩ <;> rw [hq2] at h <;> simp only [quoStep] at h
        · cases h
        · cases h
        · injection h with h; injection h with h1 h2
          have := (quoR_ok (fun c hc => hR2 c (List.mem_of_mem_drop hc)) hq2).2
          have hl : (R2.drop 1).length = R2.length - 1 := List.length_drop
          have : R2.length ≠ 0 := by
            intro z; rw [List.length_eq_zero_iff.mp z] at hq; cases hq
          omega
        · cases h
      · exact hnm false h
  rw [hw] at h
  have hR2 : ∀ c ∈ (R.drop (nameR R).length).dropWhile isBl, c < 512 := fun c hc => hR c (List.mem_of_mem_drop ((List.dropWhile_sublist isBl).subset hc))
  by_cases hno : wa = .no
  · subst hno
    injection h with h; injection h with h1 h2
    omega
  · have h' : worthR (nameR R) wa ((R.drop (nameR R).length).dropWhile isBl) (n + (nameR R).length + run isBl (R.drop (nameR R).length)) = .ok (st, e) := by
      cases wa <;> first | exact h | exact absurd rfl hno
    have := hw2 _ _ h' hR2
    omega
theorem stepR_wo {R : List Nat} {n : Nat} {wo : List Nat} {wt : Wth} {e : Nat} (h : stepR R n = .ok ((wo, wt), e)) : wo = nameR R := by
  have hnm : ∀ b R2 n2, nameStep (nameR R) b R2 n2 = .ok ((wo, wt), e) → wo = nameR R := by
    intro b R2 n2 h
    unfold nameStep at h
    split at h
    · cases h
    · split at h
      · cases h
      · injection h with h; injection h with h1 h2; injection h1 with h1; exact h1.symm
  unfold stepR at h
  rcases hw : wantR (nameR R) with _ | wa
  · rw [hw] at h; cases h
  rw [hw] at h
  cases wa with
  | no => injection h with h; injection h with h1 h2; injection h1 with h1; exact h1.symm
  | cond => exact hnm _ _ _ h
  | num =>
    simp only [worthR] at h
    split at h
    · cases h
    · injection h with h; injection h with h1 h2; injection h1 with h1; exact h1.symm
  | kind =>
    simp only [worthR] at h
    split at h
    · unfold quoStep at h
      split at h
      · injection h with h; injection h with h1 h2; injection h1 with h1; exact h1.symm
      · cases h
    · exact hnm _ _ _ h
/-- what stays true at each turn of steps_at -/
structure SInv (T : List Nat) (K : Except Nat (List (List Nat × Wth))) (ls : Addr) (rs : List SR) (n f : Nat) : Prop where
  le : n ≤ T.length
  fu : T.length < n + f
  go : stepsGo T f (rs.map SR.st) n = K
  is : ∀ r ∈ rs, r.wt.is r.wv
  ad : ∀ p ∈ srL rs, ls < p.1
  cnt : rs.length ≤ n
  wl : ∀ r ∈ rs, r.wo.length ≤ T.length
theorem run_drop_end (T : List Nat) (p : Nat → Bool) (n : Nat) (hn : n ≤ T.length) : n + run p (T.drop n) ≤ T.length := by
  have := run_le p (T.drop n)
  rw [List.length_drop] at this; omega
/-- what a step's reading comes to, and what follows -/
theorem turn_cases {TX : PySem.Str} {K : Except Nat (List (List Nat × Wth))} {rs : List SR} {n1 f : Nat} {x : Nat} {r1 : List Nat} (has : ∀ x ∈ tl TX, x < 512) (hn1 : n1 ≤ TX.length) (hR1 : (tl TX).drop n1 = x :: r1)
    (h : (match stepR (x :: r1) n1 with
      | .error j => .error j
      | .ok (st, e) =>
        if (tl TX).drop (e + run isBl ((tl TX).drop e)) = [] then stepsGo (tl TX) f (st :: rs.map SR.st) (e + run isBl ((tl TX).drop e))
        else if ((tl TX).drop (e + run isBl ((tl TX).drop e))).head? = some 59 then stepsGo (tl TX) f (st :: rs.map SR.st) (e + run isBl ((tl TX).drop e) + 1)
        else .error (e + run isBl ((tl TX).drop e))) = K) :
    (∃ j, stepR (x :: r1) n1 = .error j ∧ K = .error j) ∨
    ∃ wo wt e Re, stepR (x :: r1) n1 = .ok ((wo, wt), e) ∧ n1 < e ∧ e ≤ TX.length ∧ wo.length ≤ TX.length ∧ (tl TX).drop e = Re ∧ e + run isBl Re ≤ TX.length ∧
      (((tl TX).drop (e + run isBl Re) = [] ∧ stepsGo (tl TX) f ((wo, wt) :: rs.map SR.st) (e + run isBl Re) = K) ∨
       (∃ r3, (tl TX).drop (e + run isBl Re) = 59 :: r3 ∧ e + run isBl Re + 1 ≤ TX.length ∧ stepsGo (tl TX) f ((wo, wt) :: rs.map SR.st) (e + run isBl Re + 1) = K) ∨
       ∃ y r3, (tl TX).drop (e + run isBl Re) = y :: r3 ∧ (¬ (y :: r3).head? = some 59) ∧ K = .error (e + run isBl Re)) := by
  rcases hs : stepR (x :: r1) n1 with j | ⟨⟨wo, wt⟩, e⟩
  · rw [hs] at h; exact .inl ⟨j, rfl, h.symm⟩
  · rw [hs] at h
    simp only at h
    have hp := stepR_pos (R := x :: r1) (fun c hc => by have := has c (List.mem_of_mem_drop (hR1 ▸ hc)); omega) hs
    have hdl := drop_len hR1 hn1
    have he : e ≤ TX.length := by omega
    have he3 := run_drop_end (tl TX) isBl e (by rw [← len_tl]; exact he)
    rw [← len_tl] at he3
    have hwo := stepR_wo hs
    refine .inr ⟨wo, wt, e, _, rfl, hp.1, he, by have := nameR_len (x :: r1); rw [hwo]; omega, rfl, he3, ?_⟩
    rcases hR3 : (tl TX).drop (e + run isBl ((tl TX).drop e)) with _ | ⟨y, r3⟩
    · rw [hR3, if_pos rfl] at h
      exact .inl ⟨rfl, h⟩
    · rw [hR3, if_neg (by simp)] at h
      by_cases hy : y = 59
      · subst hy
        rw [if_pos (show (59 :: r3).head? = some 59 from rfl)] at h
        have := pos_le hR3
        exact .inr (.inl ⟨r3, rfl, by omega, h⟩)
      · rw [if_neg (by simpa using hy)] at h
        exact .inr (.inr ⟨y, r3, rfl, by simpa using hy, h.symm⟩)
/-- the turns of steps_at -/
theorem steps_le {T : List Nat} {K : Except Nat (List (List Nat × Wth))} {ls : Addr} {rs : List SR} {i f : Nat} (h : SInv T K ls rs i f) {n : Nat} (e : n = T.length) : i ≤ n := e ▸ h.le
theorem steps_cps {TX : PySem.Str} {K : Except Nat (List (List Nat × Wth))} {ls : Addr} {rs : List SR} {i f : Nat} {G : Prop} (has : ∀ x ∈ tl TX, x < 512) (h : SInv (tl TX) K ls rs i f)
    (k1 : ∀ R0, (tl TX).drop i = R0 → i + run isBl R0 ≤ TX.length → (tl TX).drop (i + run isBl R0) = [] → rs = [] → K = .error (i + run isBl R0) → G)
    (k2 : ∀ R0, (tl TX).drop i = R0 → i + run isBl R0 ≤ TX.length → (tl TX).drop (i + run isBl R0) = [] → rs ≠ [] → K = .ok (rs.map SR.st).reverse → G)
    (k3 : ∀ R0, (tl TX).drop i = R0 → i + run isBl R0 ≤ TX.length → ∀ x r1, (tl TX).drop (i + run isBl R0) = x :: r1 → endsR (rs.map SR.st) = true → K = .error (i + run isBl R0) → G)
    (k4 : ∀ R0, (tl TX).drop i = R0 → i + run isBl R0 ≤ TX.length → ∀ x r1, (tl TX).drop (i + run isBl R0) = x :: r1 → endsR (rs.map SR.st) = false → ∀ j, stepR (x :: r1) (i + run isBl R0) = .error j → K = .error j → G)
    (k5 : ∀ R0, (tl TX).drop i = R0 → i + run isBl R0 ≤ TX.length → ∀ x r1, (tl TX).drop (i + run isBl R0) = x :: r1 → endsR (rs.map SR.st) = false → ∀ wo wt e Re, stepR (x :: r1) (i + run isBl R0) = .ok ((wo, wt), e) → i + run isBl R0 < e → e ≤ TX.length → wo.length ≤ TX.length → (tl TX).drop e = Re → e + run isBl Re ≤ TX.length →
      (tl TX).drop (e + run isBl Re) = [] → stepsGo (tl TX) (f - 1) ((wo, wt) :: rs.map SR.st) (e + run isBl Re) = K → G)
    (k6 : ∀ R0, (tl TX).drop i = R0 → i + run isBl R0 ≤ TX.length → ∀ x r1, (tl TX).drop (i + run isBl R0) = x :: r1 → endsR (rs.map SR.st) = false → ∀ wo wt e Re, stepR (x :: r1) (i + run isBl R0) = .ok ((wo, wt), e) → i + run isBl R0 < e → e ≤ TX.length → wo.length ≤ TX.length → (tl TX).drop e = Re → e + run isBl Re ≤ TX.length →
      ∀ r3, (tl TX).drop (e + run isBl Re) = 59 :: r3 → e + run isBl Re + 1 ≤ TX.length → stepsGo (tl TX) (f - 1) ((wo, wt) :: rs.map SR.st) (e + run isBl Re + 1) = K → G)
    (k7 : ∀ R0, (tl TX).drop i = R0 → i + run isBl R0 ≤ TX.length → ∀ x r1, (tl TX).drop (i + run isBl R0) = x :: r1 → endsR (rs.map SR.st) = false → ∀ wo wt e Re, stepR (x :: r1) (i + run isBl R0) = .ok ((wo, wt), e) → i + run isBl R0 < e → e ≤ TX.length → wo.length ≤ TX.length → (tl TX).drop e = Re → e + run isBl Re ≤ TX.length →
      ∀ y r3, (tl TX).drop (e + run isBl Re) = y :: r3 → (¬ (y :: r3).head? = some 59) → K = .error (e + run isBl Re) → G) : G := by
  have hle := h.le
  have hgo := h.go
  have hfu := h.fu
  have hn1 := run_drop_end (tl TX) isBl i hle
  rw [← len_tl] at hle hn1
  obtain ⟨f, rfl⟩ : ∃ g, f = g + 1 := ⟨f - 1, by rw [← len_tl] at hfu; omega⟩
  simp only [stepsGo] at hgo
  rcases hR1 : (tl TX).drop (i + run isBl ((tl TX).drop i)) with _ | ⟨x, r1⟩
  · rw [hR1, if_pos rfl] at hgo
    by_cases hr : rs = []
    · rw [if_pos (by rw [hr]; rfl)] at hgo
      exact k1 _ rfl hn1 hR1 hr hgo.symm
    · rw [if_neg (by simpa using hr)] at hgo
      exact k2 _ rfl hn1 hR1 hr hgo.symm
  · rw [hR1, if_neg (by simp)] at hgo
    rcases he : endsR (rs.map SR.st) with _ | _
    · rw [he, if_neg (by decide)] at hgo
      rcases turn_cases has hn1 hR1 hgo with ⟨j, hst, hKe⟩ | ⟨wo, wt, e, Re, hst, hie, hee, hwol, hRe, he3, ⟨hR3, hgo⟩ | ⟨r3, hR3, he4, hgo⟩ | ⟨y, r3, hR3, hy, hKe⟩⟩
      · exact k4 _ rfl hn1 x r1 hR1 he j hst hKe
      · exact k5 _ rfl hn1 x r1 hR1 he wo wt e Re hst hie hee hwol hRe he3 hR3 hgo
      · exact k6 _ rfl hn1 x r1 hR1 he wo wt e Re hst hie hee hwol hRe he3 r3 hR3 he4 hgo
      · exact k7 _ rfl hn1 x r1 hR1 he wo wt e Re hst hie hee hwol hRe he3 y r3 hR3 hy hKe
    · rw [he, if_pos rfl] at hgo
      exact k3 _ rfl hn1 x r1 hR1 he hgo.symm
theorem srRefs_nil : srRefs [] = [] := rfl
theorem srRefs_cons (r : SR) (rs : List SR) : srRefs (r :: rs) = srRefs rs ++ [.ref r.x] := by simp [srRefs]
theorem srL_nil : srL [] = [] := rfl
theorem srL_cons (r : SR) (rs : List SR) : srL (r :: rs) = (r.x, instObj 279 r.dx) :: (r.dx, stepD r.k1 r.k2 r.v1 r.v2 r.v3 r.wo r.wv) :: srL rs := rfl
theorem sr_cons {ls : Addr} {r : SR} {rs : List SR} (h : ∀ p ∈ srL (r :: rs), ls < p.1) : @LT.lt Nat _ ls r.x ∧ @LT.lt Nat _ ls r.dx ∧ ∀ p ∈ srL rs, ls < p.1 :=
  ⟨h _ (.head _), h _ (.tail _ (.head _)), fun p hp => h p (.tail _ (.tail _ hp))⟩
theorem sr_off {ls ln c d : Addr} {rs : List SR} {rest : List (Addr × Obj)} (h : ∀ p ∈ srL rs, ls < p.1) (l : ln < ls ∧ c < ls ∧ d < ls ∧ AllLt ls rest) (hr : ∀ p ∈ rest, p.1 ≠ d) :
    (∀ p ∈ srL rs ++ rest, p.1 ≠ d) ∧ ∀ p ∈ srL rs ++ rest, p.1 ≠ ls := by
  constructor <;> intro p hp <;> rcases List.mem_append.mp hp with hp | hp
  · exact Nat.ne_of_gt (Nat.lt_trans l.2.2.1 (h p hp))
  · exact hr p hp
  · exact Nat.ne_of_gt (h p hp)
  · exact Nat.ne_of_lt (ktn_ltOf l.2.2.2 p hp)
theorem srRefs_len (rs : List SR) : (srRefs rs).length = rs.length := by simp [srRefs]
noncomputable abbrev adOf {ln ls c d : Addr} {rest : List (Addr × Obj)} (_ : ln < ls ∧ c < ls ∧ d < ls ∧ AllLt ls rest) : Addr := ls
theorem last_any (l : List Nat) : ([PySem.Str.ofString "return", PySem.Str.ofString "reject"].any fun x => x == tx l) = (l == wd "return" || l == wd "reject") := by
  simp only [List.any_cons, List.any_nil, tx_beq, Bool.or_false]
theorem ends_nil : endsR ([].map SR.st) = false := rfl
theorem ends_cons {b : Bool} {r : SR} {rs : List SR} (h : endsR ((r :: rs).map SR.st) = b) : ([PySem.Str.ofString "return", PySem.Str.ofString "reject"].any fun x => x == tx r.wo) = b := by
  rw [last_any]; exact h
theorem sr_len1 {r : SR} {rs : List SR} {i M : Nat} (h : (r :: rs).length ≤ i) (hi : i ≤ M) (hM : M ≤ 100000) : (srRefs rs ++ [Value.ref r.x]).length ≤ 100000 := by
  rw [List.length_append, srRefs_len]; rw [List.length_cons] at h; simp only [List.length_singleton]; omega
theorem sr_wl {r : SR} {rs : List SR} {TX : PySem.Str} (h : ∀ q ∈ r :: rs, q.wo.length ≤ (tl TX).length) (hM : TX.length ≤ 100000) : (tx r.wo).length ≤ 100000 := by
  have := h r (.head _)
  rw [tx_len]; rw [len_tl] at hM; omega
theorem sr_len {r : SR} {rs : List SR} {i M : Nat} (h : (r :: rs).length ≤ i) (hi : i ≤ M) (hM : M ≤ 100000) : (srRefs rs).length ≤ 100000 := by
  rw [srRefs_len]; rw [List.length_cons] at h; omega
theorem SInv.next {T : List Nat} {K : Except Nat (List (List Nat × Wth))} {ls : Addr} {rs : List SR} {i f : Nat} (h : SInv T K ls rs i f) {q : SR} {n' : Nat} (hgo : stepsGo T (f - 1) ((q.wo, q.wt) :: rs.map SR.st) n' = K) (hn : i < n') (hle : n' ≤ T.length)
    (his : q.wt.is q.wv) (ha : @LT.lt Nat _ ls q.dx) (hb : @LT.lt Nat _ q.dx q.x) (hwl : q.wo.length ≤ T.length) : SInv T K ls (q :: rs) n' (f - 1) where
  le := hle
  fu := by have := h.fu; have := h.le; omega
  go := hgo
  is := fun r hr => by
    rcases List.mem_cons.mp hr with rfl | hr
    · exact his
    · exact h.is r hr
  ad := fun p hp => by
    rcases List.mem_cons.mp hp with rfl | hp
    · exact Nat.lt_trans ha hb
    · rcases List.mem_cons.mp hp with rfl | hp
      · exact ha
      · exact h.ad p hp
  cnt := by have := h.cnt; rw [List.length_cons]; omega
  wl := fun r hr => by
    rcases List.mem_cons.mp hr with rfl | hr
    · exact hwl
    · exact h.wl r hr
theorem led_perm {a x1 x2 b c d : Addr × Obj} {l : List (Addr × Obj)} : ∀ p ∈ a :: b :: c :: d :: x1 :: x2 :: l, p ∈ x1 :: x2 :: a :: b :: c :: d :: l := fun p hp => by
  simp only [List.mem_cons] at hp ⊢
  rcases hp with h | h | h | h | h | h | h <;> simp [h]
theorem steps_end {h₀ h : Heap} {L x dx ls : Addr} {k1 k2 : Int} {v1 v2 v3 : Tok} {wo : List Nat} {wt : Wth} {wv : Value} {rs : List SR} {A : Array Value} {nn : Nat} {b c d : Addr × Obj} {rest : List (Addr × Obj)}
    (N : News h₀ L h ((x, instObj 279 dx) :: (dx, stepD k1 k2 v1 v2 v3 wo wv) :: (ls, W.listOf (A.push (.ref x)) (nn + 1)) :: b :: c :: d :: (srL rs ++ rest))) (hA : A = (srRefs rs).toArray) (hw : wt.is wv) (ha : @LT.lt Nat _ ls dx) (hb : @LT.lt Nat _ dx x) :
    ∃ q : SR, q.wo = wo ∧ q.wt = wt ∧ q.wt.is q.wv ∧ @LT.lt Nat _ ls q.dx ∧ @LT.lt Nat _ q.dx q.x ∧ News h₀ L h ((ls, W.listOf (srRefs (q :: rs)).toArray (nn + 1)) :: b :: c :: d :: (srL (q :: rs) ++ rest)) := by
  refine ⟨⟨x, dx, k1, k2, v1, v2, v3, wo, wt, wv⟩, rfl, rfl, hw, ha, hb, ?_⟩
  rw [srRefs_cons, ← List.push_toArray, ← hA, srL_cons]
  exact fun p hp => N p (led_perm p hp)
theorem steps_end2 {h₀ h : Heap} {L x dx ls : Addr} {k1 k2 : Int} {v1 v2 v3 : Tok} {wo : List Nat} {wt : Wth} {wv : Value} {rs : List SR} {A : Array Value} {nn : Nat} {b c d : Addr × Obj} {rest : List (Addr × Obj)}
    (N : News h₀ L h ((x, instObj 279 dx) :: (dx, stepD k1 k2 v1 v2 v3 wo wv) :: (ls, W.listOf (A.push (.ref x)) (nn + 1)) :: b :: c :: d :: (srL rs ++ rest))) (hA : A = (srRefs rs).toArray) :
    News h₀ L h ((ls, W.listOf (srRefs (⟨x, dx, k1, k2, v1, v2, v3, wo, wt, wv⟩ :: rs)).toArray (nn + 1)) :: b :: c :: d :: (srL (⟨x, dx, k1, k2, v1, v2, v3, wo, wt, wv⟩ :: rs) ++ rest)) := by
  rw [srRefs_cons, ← List.push_toArray, ← hA, srL_cons]
  exact fun p hp => N p (led_perm p hp)
theorem steps_ret {h₀ h : Heap} {L ls d : Addr} {r : SR} {rs : List SR} {nn : Nat} {b c : Addr × Obj} {o : Obj} {rest : List (Addr × Obj)} {gg : Obj → List (Addr × Obj)} (hr3 : ∀ (o' : Obj) (p : Addr × Obj), p ∈ gg o' ↔ p = (d, o') ∨ p ∈ rest)
    (N : News h₀ L h ((ls, W.listOf (srRefs rs ++ [Value.ref r.x]).toArray nn) :: b :: c :: (d, o) :: (r.x, instObj 279 r.dx) :: (r.dx, stepD r.k1 r.k2 r.v1 r.v2 r.v3 r.wo r.wv) :: (srL rs ++ rest))) :
    News h₀ L h ((ls, W.listOf (srRefs (r :: rs)).toArray nn) :: (srL (r :: rs) ++ gg o)) := by
  rw [srRefs_cons, srL_cons]
  intro p hp
  apply N p
  simp only [List.mem_cons, List.cons_append, List.mem_append, hr3] at hp ⊢
  rcases hp with h | h | h | h | h | h <;> simp [h]
end Mine
end
section
set_option maxRecDepth 100000
namespace Mine
/-- a number's text -/
noncomputable def numL (k : Nat) : List Nat := tl (PySem.Str.ofString (toString ((k : Nat) : Int)))
/-- a step's text -/
noncomputable def showS : List Nat × Wth → List Nat
  | (wo, .no) => wo
  | (wo, .txt l) => wo ++ 32 :: l
  | (wo, .num k) => wo ++ 32 :: numL k
/-- a bound of a step -/
noncomputable def Wth.small : Wth → Prop
  | .no => True
  | .txt l => l.length ≤ 100000
  | .num k => k < 1000000
theorem show_txt (wo l : List Nat) : tx wo ++ PySem.Str.ofString " " ++ tx l = tx (wo ++ 32 :: l) := by
  rw [show PySem.Str.ofString " " = tx [32] from by decide +kernel]
  apply tl_inj
  rw [tl_append, tl_append, tl_tx, tl_tx, tl_tx, tl_tx]
  simp
theorem show_num (wo : List Nat) (k : Nat) : tx wo ++ PySem.Str.ofString " " ++ PySem.Str.ofString (toString ((k : Nat) : Int)) = tx (wo ++ 32 :: numL k) := by
  rw [← show_txt, show tx (numL k) = PySem.Str.ofString (toString ((k : Nat) : Int)) from tx_tl _]
end Mine
end
section
set_option maxRecDepth 100000
namespace Mine
/-- what _law_literal reads behind a quote: the sign, and how far from the quote -/
noncomputable def lawLit : List Nat → Option (Nat × Nat)
  | [] => none
  | c :: r =>
    if c = 39 then none
    else if c = 92 then
      match r with
      | [] => none
      | y :: r' => if ((y :: r').drop (escR (y :: r')).2).head? = some 39 then some ((escR (y :: r')).1, (escR (y :: r')).2 + 3) else none
    else if r.head? = some 39 then some (c, 3) else none
theorem qGo_long : ∀ (f : Nat) (acc R : List Nat) (n : Nat) (acc' : List Nat) (e : Nat), qGo f acc R n = some (acc', e) → acc.length ≤ acc'.length
  | 0, _, _, _, _, _, h => by cases h
  | f + 1, acc, [], n, _, _, h => by cases h
  | f + 1, acc, x :: r, n, acc', e, h => by
    simp only [qGo] at h
    split at h
    · injection h with h; injection h with h1 h2; rw [h1]; exact Nat.le_refl _
    · split at h
      · rcases r with _ | ⟨y, r'⟩
        · cases h
        · have := qGo_long f _ _ _ _ _ h
          simp at this; omega
      · have := qGo_long f _ _ _ _ _ h
        simp at this; omega
theorem quoStep_long (wo : List Nat) (n2 : Nat) (f : Nat) (acc R : List Nat) (n : Nat) (h : 2 ≤ acc.length) : quoStep wo n2 (qGo f acc R n) = .error n2 := by
  rcases hq : qGo f acc R n with _ | ⟨acc', e⟩
  · rfl
  · have := qGo_long _ _ _ _ _ _ hq
    rcases acc' with _ | ⟨a, _ | ⟨b, l⟩⟩
    · rfl
    · simp at this; omega
    · rfl
theorem quoStep_one (wo : List Nat) (n2 : Nat) (f x : Nat) (R : List Nat) (n : Nat) (h : R.length < f) :
    quoStep wo n2 (qGo f [x] R n) = if R.head? = some 39 then .ok ((wo, .txt (39 :: escS x ++ [39])), n + 1) else .error n2 := by
  rcases R with _ | ⟨c, r⟩
  · cases f <;> rfl
  · rcases f with _ | f
    · simp at h
    · simp only [qGo, List.head?_cons, Option.some.injEq]
      by_cases hc : c = 39
      · rw [if_pos hc, if_pos hc]; rfl
      · rw [if_neg hc, if_neg hc]
        split
        · rcases r with _ | ⟨y, r'⟩
          · rfl
          · exact quoStep_long _ _ _ _ _ _ (by simp)
        · exact quoStep_long _ _ _ _ _ _ (by simp)
theorem quo_lit (wo : List Nat) (n2 : Nat) (R : List Nat) :
    quoStep wo n2 (quoR R (n2 + 1)) = match lawLit R with | some (x, k) => .ok ((wo, .txt (39 :: escS x ++ [39])), n2 + k) | none => .error n2 := by
  unfold quoR
  rcases R with _ | ⟨c, r⟩
  · rfl
  · simp only [qGo, lawLit, List.length_cons]
    by_cases hc : c = 39
    · rw [if_pos hc, if_pos hc]; rfl
    · rw [if_neg hc, if_neg hc]
      by_cases hb : c = 92
      · rw [if_pos hb, if_pos hb]
        rcases r with _ | ⟨y, r'⟩
        · rfl
        · simp only [List.nil_append]
          have hp := escR_pos y r'
          rw [quoStep_one _ _ _ _ _ _ (by rw [List.length_drop]; simp; omega)]
          split
          · simp only; congr 2; omega
          · rfl
      · rw [if_neg hb, if_neg hb]
        simp only [List.nil_append]
        rw [quoStep_one _ _ _ _ _ _ (by simp)]
        split
        · rfl
        · rfl
theorem lawLit_pos {R : List Nat} {x k : Nat} (h : lawLit R = some (x, k)) : 3 ≤ k := by
  unfold lawLit at h
  repeat' split at h
  all_goals first | (cases h; done) | (injection h with h; injection h with h1 h2; omega)
noncomputable abbrev Pc := Nat × List Nat × List Nat
/-- the first piece: how long, and its kind -/
noncomputable def pieceK : List Nat → Nat × List Nat
  | [] => (1, [])
  | c :: r =>
    if isDg c = true then (run isDg (c :: r), wd "figures")
    else if isNm c = true then (run isNm (c :: r), wd "name")
    else if c = 39 then (match lawLit r with | some (_, k) => (k, wd "literal") | none => (1, [39]))
    else (1, [c])
theorem pieceK_pos (R : List Nat) : 1 ≤ (pieceK R).1 := by
  unfold pieceK
  repeat' split
  all_goals first | exact Nat.le_refl _ | skip
  · rename_i h; rw [run_cons_pos h]; omega
  · rename_i h; rw [run_cons_pos h]; omega
  · rename_i h; have := lawLit_pos h; dsimp only; omega
/-- _law_pieces from a place on -/
noncomputable def piecesGo : Nat → List Nat → Nat → List Pc
  | 0, _, _ => []
  | _ + 1, [], _ => []
  | f + 1, c :: r, n =>
    if isBl c = true then piecesGo f r (n + 1)
    else (n, (pieceK (c :: r)).2, (c :: r).take (pieceK (c :: r)).1) :: piecesGo f ((c :: r).drop (pieceK (c :: r)).1) (n + (pieceK (c :: r)).1)
noncomputable def piecesOf (R : List Nat) (n : Nat) : List Pc := piecesGo (R.length + 1) R n
theorem pieces_fuel : ∀ (f g : Nat) (R : List Nat) (n : Nat), R.length < f → R.length < g → piecesGo f R n = piecesGo g R n
  | 0, _, _, _, h, _ => absurd h (Nat.not_lt_zero _)
  | _ + 1, 0, _, _, _, h => absurd h (Nat.not_lt_zero _)
  | f + 1, g + 1, [], n, _, _ => rfl
  | f + 1, g + 1, c :: r, n, h1, h2 => by
    simp only [piecesGo]
    simp only [List.length_cons] at h1 h2
    have hp := pieceK_pos (c :: r)
    rw [pieces_fuel f g r (n + 1) (by omega) (by omega), pieces_fuel f g ((c :: r).drop (pieceK (c :: r)).1) (n + (pieceK (c :: r)).1) (by rw [List.length_drop, List.length_cons]; omega) (by rw [List.length_drop, List.length_cons]; omega)]
theorem pieces_nil (n : Nat) : piecesOf [] n = [] := rfl
theorem pieces_bl1 {c : Nat} (r : List Nat) (n : Nat) (h : isBl c = true) : piecesOf (c :: r) n = piecesOf r (n + 1) := by
  show piecesGo _ _ _ = _
  simp only [List.length_cons, piecesGo, if_pos h]
  rfl
theorem pieces_cons {c : Nat} (r : List Nat) (n : Nat) (h : isBl c = false) :
    piecesOf (c :: r) n = (n, (pieceK (c :: r)).2, (c :: r).take (pieceK (c :: r)).1) :: piecesOf ((c :: r).drop (pieceK (c :: r)).1) (n + (pieceK (c :: r)).1) := by
  show piecesGo _ _ _ = _
  have hp := pieceK_pos (c :: r)
  simp only [List.length_cons, piecesGo, h, Bool.false_eq_true, if_false]
  rw [piecesOf, pieces_fuel _ _ _ _ _ (Nat.lt_succ_self _)]
  rw [List.length_drop, List.length_cons]; omega
theorem pieces_bl : ∀ (R : List Nat) (n : Nat), piecesOf R n = piecesOf (R.dropWhile isBl) (n + run isBl R)
  | [], n => rfl
  | c :: r, n => by
    by_cases h : isBl c = true
    · rw [pieces_bl1 r n h, pieces_bl r (n + 1), run_cons_pos h, List.dropWhile_cons_of_pos h]
      congr 1; omega
    · have h' : isBl c = false := by simpa using h
      rw [run_cons_neg h', List.dropWhile_cons_of_neg h]; rfl
/-- what the law does behind a step's pieces -/
noncomputable def lawAfter (go : List Pc → List (List Nat × Wth) → Except Nat (List (List Nat × Wth))) (acc : List (List Nat × Wth)) (ps : List Pc) (st : List Nat × Wth) : Except Nat (List (List Nat × Wth)) :=
  match ps with
  | [] => go [] (st :: acc)
  | (p', k', _) :: ps' => if k' = [59] then go ps' (st :: acc) else .error p'
/-- the worth that the law reads: the worth, and the pieces behind it, or the place of the fault -/
noncomputable def lawWorth (T : List Nat) : Want → List Pc → Except Nat (Wth × List Pc)
  | .no, ps => .ok (.no, ps)
  | _, [] => .error T.length
  | .num, (p2, k2, w2) :: ps2 => if k2 ≠ wd "figures" ∨ 6 < w2.length then .error p2 else .ok (.num (decN w2), ps2)
  | .kind, (p2, k2, w2) :: ps2 =>
    if k2 = wd "literal" then (match lawLit (T.drop (p2 + 1)) with | some (x, _) => .ok (.txt (39 :: escS x ++ [39]), ps2) | none => .error p2)
    else if k2 ≠ wd "name" then .error p2 else .ok (.txt w2, ps2)
  | .cond, (p2, k2, w2) :: ps2 => if k2 ≠ wd "name" ∨ nmsL.contains w2 = false then .error p2 else .ok (.txt w2, ps2)
/-- the law's reading of the pieces; [] stands for 'over' -/
noncomputable def lawGo (T : List Nat) : Nat → List Pc → List (List Nat × Wth) → Except Nat (List (List Nat × Wth))
  | 0, _, _ => .error 0
  | _ + 1, [], acc => if acc = [] then .error T.length else .ok acc.reverse
  | f + 1, (p, k, wo) :: ps, acc =>
    if endsR acc = true then .error p
    else if k ≠ wd "name" then .error p
    else match wantR wo with
      | none => .error p
      | some wa => match lawWorth T wa ps with
        | .error j => .error j
        | .ok (wt, ps2) => lawAfter (lawGo T f) acc ps2 (wo, wt)
end Mine
end
section
set_option maxRecDepth 100000
namespace Mine
theorem dg_nm {c : Nat} (h : isDg c = true) : isNm c = true := by
  rw [isNm_iff]; exact .inl ((isDg_iff c).mp h)
theorem nm_bl {c : Nat} (h : isNm c = true) : isBl c = false := by
  rcases hb : isBl c with _ | _
  · rfl
  · rw [isBl_iff] at hb
    rcases (Bool.or_eq_true _ _).mp hb with q | q <;> (rw [eq_of_beq q] at h; exact absurd h (by decide +kernel))
theorem dg_bl {c : Nat} (h : isDg c = true) : isBl c = false := nm_bl (dg_nm h)
theorem nm_39 : isNm 39 = false := by decide +kernel
theorem nm_59 : isNm 59 = false := by decide +kernel
theorem not_dg_of {c : Nat} (h : isNm c = false) : isDg c = false := by
  rcases hd : isDg c with _ | _
  · rfl
  · rw [dg_nm hd] at h; cases h
theorem wd_len {z : String} {n : Nat} {l : List Nat} (h : (wd z).length = n) (hl : l.length ≠ n) : l ≠ wd z := fun e => hl (by rw [e, h])
theorem fig_name : wd "figures" ≠ wd "name" := by decide +kernel
theorem lit_name : wd "literal" ≠ wd "name" := by decide +kernel
theorem name_fig : wd "name" ≠ wd "figures" := by decide +kernel
theorem name_lit : wd "name" ≠ wd "literal" := by decide +kernel
theorem fig_lit : wd "figures" ≠ wd "literal" := by decide +kernel
theorem lit_fig : wd "literal" ≠ wd "figures" := by decide +kernel
theorem one_name (c : Nat) : [c] ≠ wd "name" := fun e => absurd (congrArg List.length e) (show ¬ 1 = (wd "name").length by decide +kernel)
theorem one_fig (c : Nat) : [c] ≠ wd "figures" := fun e => absurd (congrArg List.length e) (show ¬ 1 = (wd "figures").length by decide +kernel)
theorem one_litk (c : Nat) : [c] ≠ wd "literal" := fun e => absurd (congrArg List.length e) (show ¬ 1 = (wd "literal").length by decide +kernel)
theorem fig_59 : wd "figures" ≠ [59] := by decide +kernel
theorem name_59 : wd "name" ≠ [59] := by decide +kernel
theorem lit_59 : wd "literal" ≠ [59] := by decide +kernel
/-- the four sorts of a first piece -/
theorem piece_cases (c : Nat) (r : List Nat) :
    (isDg c = true ∧ pieceK (c :: r) = (run isDg (c :: r), wd "figures")) ∨
    (isDg c = false ∧ isNm c = true ∧ pieceK (c :: r) = (run isNm (c :: r), wd "name")) ∨
    (isNm c = false ∧ c = 39 ∧ ∃ x k, lawLit r = some (x, k) ∧ pieceK (c :: r) = (k, wd "literal")) ∨
    (isNm c = false ∧ (c = 39 → lawLit r = none) ∧ pieceK (c :: r) = (1, [c])) := by
  rcases hd : isDg c with _ | _
  · rcases hn : isNm c with _ | _
    · by_cases hc : c = 39
      · subst hc
        rcases hl : lawLit r with _ | ⟨x, k⟩
        · exact .inr (.inr (.inr ⟨rfl, fun _ => rfl, by simp only [pieceK, hd, hn, hl, Bool.false_eq_true, if_false, if_true]⟩))
        · exact .inr (.inr (.inl ⟨rfl, rfl, x, k, rfl, by simp only [pieceK, hd, hn, hl, Bool.false_eq_true, if_false, if_true]⟩))
      · exact .inr (.inr (.inr ⟨rfl, fun e => absurd e hc, by simp only [pieceK, hd, hn, hc, Bool.false_eq_true, if_false]⟩))
    · exact .inr (.inl ⟨rfl, rfl, by simp only [pieceK, hd, hn, Bool.false_eq_true, if_false, if_true]⟩)
  · exact .inl ⟨rfl, by simp only [pieceK, hd, if_true]⟩
/-- a name's piece is what name() takes -/
theorem name_piece {c : Nat} {r : List Nat} (hd : isDg c = false) (hn : isNm c = true) : nameR (c :: r) = (c :: r).takeWhile isNm := by
  simp only [nameR, hd, hn, and_self, if_true]
theorem no_name {c : Nat} {r : List Nat} (h : isDg c = true ∨ isNm c = false) : nameR (c :: r) = [] := by
  simp only [nameR]
  rw [if_neg]
  rintro ⟨h1, h2⟩
  rcases h with h | h
  · rw [h] at h2; cases h2
  · rw [h] at h1; cases h1
end Mine
end
section
set_option maxRecDepth 100000
namespace Mine
theorem dw_head {p : Nat → Bool} {R : List Nat} {c : Nat} {r : List Nat} (h : R.dropWhile p = c :: r) : p c = false := by
  induction R with
  | nil => cases h
  | cons x R ih =>
    by_cases hx : p x = true
    · rw [List.dropWhile_cons_of_pos hx] at h; exact ih h
    · rw [List.dropWhile_cons_of_neg hx] at h
      injection h with h1 h2
      rw [← h1]; simpa using hx
/-- the pieces from a place on: what stands there behind blanks -/
theorem pieces_at (T : List Nat) (n : Nat) (hn : n ≤ T.length) :
    n + run isBl (T.drop n) ≤ T.length ∧ piecesOf (T.drop n) n = piecesOf (T.drop (n + run isBl (T.drop n))) (n + run isBl (T.drop n)) ∧
    (T.drop (n + run isBl (T.drop n)) = [] ∧ n + run isBl (T.drop n) = T.length ∨ ∃ c r, T.drop (n + run isBl (T.drop n)) = c :: r ∧ isBl c = false) := by
  have hd : T.drop (n + run isBl (T.drop n)) = (T.drop n).dropWhile isBl := drop_run_at isBl rfl
  have hle := run_le isBl (T.drop n)
  rw [List.length_drop] at hle
  refine ⟨by omega, by rw [pieces_bl, hd], ?_⟩
  rcases hR : (T.drop n).dropWhile isBl with _ | ⟨c, r⟩
  · left
    refine ⟨by rw [hd, hR], ?_⟩
    have := congrArg List.length (hd.trans hR)
    rw [List.length_drop, List.length_nil] at this
    omega
  · exact .inr ⟨c, r, by rw [hd, hR], dw_head hR⟩
theorem take_kind {c : Nat} {r : List Nat} (n : Nat) : (c :: r).drop 1 = r := rfl
/-- what the law's reading of a worth is -/
theorem lw_num {T : List Nat} {p2 : Nat} {k2 w2 : List Nat} {ps2 : List Pc} : lawWorth T .num ((p2, k2, w2) :: ps2) = if k2 ≠ wd "figures" ∨ 6 < w2.length then .error p2 else .ok (.num (decN w2), ps2) := by rw [lawWorth]
theorem lw_kind {T : List Nat} {p2 : Nat} {k2 w2 : List Nat} {ps2 : List Pc} : lawWorth T .kind ((p2, k2, w2) :: ps2) = if k2 = wd "literal" then (match lawLit (T.drop (p2 + 1)) with | some (x, _) => .ok (.txt (39 :: escS x ++ [39]), ps2) | none => .error p2)
    else if k2 ≠ wd "name" then .error p2 else .ok (.txt w2, ps2) := by rw [lawWorth]; try rfl
theorem lw_cond {T : List Nat} {p2 : Nat} {k2 w2 : List Nat} {ps2 : List Pc} : lawWorth T .cond ((p2, k2, w2) :: ps2) = if k2 ≠ wd "name" ∨ nmsL.contains w2 = false then .error p2 else .ok (.txt w2, ps2) := by rw [lawWorth]
theorem nameStep_ok {word R w : List Nat} {cond : Bool} {n : Nat} (h : nameR R = w) (hw : ¬ w = []) (hc : ¬ (cond = true ∧ nmsL.contains w = false)) : nameStep word cond R n = .ok ((word, .txt w), n + w.length) := by
  subst h; exact (if_neg hw).trans (if_neg hc)
theorem nameStep_nil {word R : List Nat} {cond : Bool} {n : Nat} (h : nameR R = []) : nameStep word cond R n = .error n := if_pos h
theorem nameStep_bad {word R w : List Nat} {n : Nat} (h : nameR R = w) (hw : ¬ w = []) (hc : nmsL.contains w = false) : nameStep word true R n = .error n := by
  subst h; exact (if_neg hw).trans (if_pos ⟨rfl, hc⟩)
theorem we_ok {T wo : List Nat} {wt : Wth} {a : Except Nat ((List Nat × Wth) × Nat)} {b : Except Nat (Wth × List Pc)} {e : Nat} (ha : a = .ok ((wo, wt), e)) (hb : b = .ok (wt, piecesOf (T.drop e) e)) :
    (match (generalizing := false) a with | .error j => b = .error j | .ok (st, e) => ∃ wt, st = (wo, wt) ∧ b = .ok (wt, piecesOf (T.drop e) e)) := by rw [ha]; exact ⟨wt, rfl, hb⟩
theorem we_er {T wo : List Nat} {a : Except Nat ((List Nat × Wth) × Nat)} {b : Except Nat (Wth × List Pc)} {j : Nat} (ha : a = .error j) (hb : b = .error j) :
    (match (generalizing := false) a with | .error j => b = .error j | .ok (st, e) => ∃ wt, st = (wo, wt) ∧ b = .ok (wt, piecesOf (T.drop e) e)) := by rw [ha]; exact hb
theorem worth_eq {T : List Nat} {wo : List Nat} {wa : Want} (m : Nat) (hm : m ≤ T.length) (hno : wa ≠ .no) :
    ∀ (go : List Pc → List (List Nat × Wth) → Except Nat (List (List Nat × Wth))) (acc : List (List Nat × Wth)),
    (match worthR wo wa (T.drop (m + run isBl (T.drop m))) (m + run isBl (T.drop m)) with
      | .error j => lawWorth T wa (piecesOf (T.drop m) m) = .error j
      | .ok (st, e) => ∃ wt, st = (wo, wt) ∧ lawWorth T wa (piecesOf (T.drop m) m) = .ok (wt, piecesOf (T.drop e) e)) := by
  intro _ _
  obtain ⟨hm2, hp, ⟨hR, hme⟩ | ⟨c, r, hR, hbl⟩⟩ := pieces_at T m hm
  · rw [hp]
    generalize m + run isBl (T.drop m) = m2 at *
    rw [hR, hme]
    cases wa <;> first | exact absurd rfl hno | rfl
  · rw [hp]
    generalize m + run isBl (T.drop m) = m2 at *
    have hadd : ∀ j, T.drop (m2 + j) = (c :: r).drop j := fun j => drop_add hR
    have hr1 : T.drop (m2 + 1) = r := hadd 1
    rw [hR, pieces_cons r m2 hbl, ← hadd]
    have htk : ∀ p : Nat → Bool, (c :: r).take (run p (c :: r)) = (c :: r).takeWhile p := fun p => take_run p _
    rcases piece_cases c r with ⟨hd, hk⟩ | ⟨hd, hn, hk⟩ | ⟨hn, h39, x, k, hl, hk⟩ | ⟨hn, h39, hk⟩
    · -- figures
      have h39 : c ≠ 39 := by rintro rfl; exact absurd hd (by decide +kernel)
      have hnn := no_name (r := r) (.inl hd)
      have hne : (c :: r).takeWhile isDg ≠ [] := by rw [List.takeWhile_cons_of_pos hd]; exact List.cons_ne_nil _ _
      rw [hk]; dsimp only; rw [htk]
      cases wa with
      | no => exact absurd rfl hno
      | num =>
        by_cases h6 : 6 < ((c :: r).takeWhile isDg).length
        · (refine we_er (j := m2) ?_ ?_; (exact if_pos (.inr h6)); (exact lw_num.trans (if_pos (.inr h6))))
        · (refine we_ok (wt := .num (decN ((c :: r).takeWhile isDg))) (e := m2 + run isDg (c :: r)) ?_ ?_; (exact if_neg (fun h => h.elim hne h6)); (exact lw_num.trans (if_neg (fun h => h.elim (fun h => h rfl) h6))))
      | kind => (refine we_er (j := m2) ?_ ?_; (exact (if_neg (fun h => h39 (Option.some.inj h))).trans (nameStep_nil hnn)); (exact lw_kind.trans ((if_neg fig_lit).trans (if_pos fig_name))))
      | cond => (refine we_er (j := m2) ?_ ?_; (exact nameStep_nil hnn); (exact lw_cond.trans (if_pos (.inl fig_name))))
    · -- a name
      have h39 : c ≠ 39 := by rintro rfl; exact absurd hn (by decide +kernel)
      have hnn := name_piece (r := r) hd hn
      have hne : (c :: r).takeWhile isNm ≠ [] := by rw [List.takeWhile_cons_of_pos hn]; exact List.cons_ne_nil _ _
      rw [hk]; dsimp only; rw [htk]
      cases wa with
      | no => exact absurd rfl hno
      | num => (refine we_er (j := m2) ?_ ?_; (exact if_pos (.inl (List.takeWhile_cons_of_neg (by rw [hd]; decide)))); (exact lw_num.trans (if_pos (.inl name_fig))))
      | kind => (refine we_ok (wt := .txt ((c :: r).takeWhile isNm)) (e := m2 + run isNm (c :: r)) ?_ ?_; (exact (if_neg (fun h => h39 (Option.some.inj h))).trans (nameStep_ok hnn hne (fun h => absurd h.1 (by decide)))); (exact lw_kind.trans ((if_neg name_lit).trans (if_neg (fun h => h rfl)))))
      | cond =>
        rcases hc : nmsL.contains ((c :: r).takeWhile isNm) with _ | _
        · (refine we_er (j := m2) ?_ ?_; (exact nameStep_bad hnn hne hc); (exact lw_cond.trans (if_pos (.inr hc))))
        · (refine we_ok (wt := .txt ((c :: r).takeWhile isNm)) (e := m2 + run isNm (c :: r)) ?_ ?_; (exact nameStep_ok hnn hne (fun h => by rw [hc] at h; exact Bool.noConfusion h.2)); (exact lw_cond.trans (if_neg (fun h => h.elim (fun h => h rfl) (fun h => by rw [hc] at h; exact Bool.noConfusion h)))))
    · -- a literal
      have hnn := no_name (r := r) (.inr hn)
      rw [hk]; dsimp only
      cases wa with
      | no => exact absurd rfl hno
      | num => (refine we_er (j := m2) ?_ ?_; (exact if_pos (.inl (List.takeWhile_cons_of_neg (by rw [not_dg_of hn]; decide)))); (exact lw_num.trans (if_pos (.inl lit_fig))))
      | kind =>
        refine we_ok (wt := .txt (39 :: escS x ++ [39])) (e := m2 + k) ?_ ?_
        · refine (if_pos (congrArg some h39)).trans ?_
          show quoStep wo m2 (quoR r (m2 + 1)) = _
          rw [quo_lit, hl]
        · refine lw_kind.trans ((if_pos rfl).trans ?_)
          rw [hr1, hl]
      | cond => (refine we_er (j := m2) ?_ ?_; (exact nameStep_nil hnn); (exact lw_cond.trans (if_pos (.inl lit_name))))
    · -- a sign
      have hnn := no_name (r := r) (.inr hn)
      rw [hk]; dsimp only
      cases wa with
      | no => exact absurd rfl hno
      | num => (refine we_er (j := m2) ?_ ?_; (exact if_pos (.inl (List.takeWhile_cons_of_neg (by rw [not_dg_of hn]; decide)))); (exact lw_num.trans (if_pos (.inl (one_fig c)))))
      | kind =>
        refine we_er (j := m2) ?_ ?_
        rotate_left
        · exact lw_kind.trans ((if_neg (one_litk c)).trans (if_pos (one_name c)))
        by_cases h : c = 39
        · refine (if_pos (congrArg some h)).trans ?_
          show quoStep wo m2 (quoR r (m2 + 1)) = _
          rw [quo_lit, h39 h]
        · exact (if_neg (fun e => h (Option.some.inj e))).trans (nameStep_nil hnn)
      | cond => (refine we_er (j := m2) ?_ ?_; (exact nameStep_nil hnn); (exact lw_cond.trans (if_pos (.inl (one_name c)))))
end Mine
end
section
set_option maxRecDepth 100000
namespace Mine
noncomputable def nameOk (l : List Nat) : Prop := l ≠ [] ∧ (∀ c ∈ l, isNm c = true) ∧ ∀ c, l.head? = some c → isDg c = false
theorem tw_app {p : Nat → Bool} {l t : List Nat} (h : ∀ c ∈ l, p c = true) (ht : ∀ c r, t = c :: r → p c = false) : (l ++ t).takeWhile p = l := by
  induction l with
  | nil =>
    rcases t with _ | ⟨c, r⟩
    · rfl
    · exact List.takeWhile_cons_of_neg (by rw [ht c r rfl]; decide)
  | cons x l ih =>
    rw [List.cons_append, List.takeWhile_cons_of_pos (h x (.head _)), ih fun c hc => h c (.tail _ hc)]
theorem name_back {l t : List Nat} (h : nameOk l) (ht : ∀ c r, t = c :: r → isNm c = false) : nameR (l ++ t) = l := by
  obtain ⟨h1, h2, h3⟩ := h
  rcases l with _ | ⟨x, l⟩
  · exact absurd rfl h1
  · show (if isNm x = true ∧ isDg x = false then ((x :: l) ++ t).takeWhile isNm else []) = _
    rw [if_pos ⟨h2 x (.head _), h3 x rfl⟩, tw_app h2 ht]
theorem nameR_ok {R : List Nat} (h : nameR R ≠ []) : nameOk (nameR R) := by
  rcases R with _ | ⟨x, r⟩
  · exact absurd rfl h
  · simp only [nameR] at h ⊢
    split at h
    · rename_i hx
      rw [if_pos hx]
      refine ⟨h, fun c hc => List.all_eq_true.mp (List.all_takeWhile (p := isNm) (l := x :: r)) c hc, fun c hc => ?_⟩
      rw [List.takeWhile_cons_of_pos hx.1] at hc
      injection hc with hc; rw [← hc]; exact hx.2
    · exact absurd rfl h
noncomputable def words9 : List (List Nat) := [wd "return", wd "skip", wd "begin", wd "push", wd "pop", wd "more", wd "less", wd "reject", wd "echo"]
theorem want_mem {wo : List Nat} {wa : Want} (h : wantR wo = some wa) : wo ∈ words9 := by
  unfold wantR at h
  simp only [words9, List.mem_cons, List.not_mem_nil, or_false]
  repeat' split at h
  all_goals first | (rename_i e; simp only [e, true_or, or_true]; done) | (cases h; done)
theorem words_all : words9.all (fun l => l.length ≤ 6 && l.all (fun c => isNm c && decide (c < 128) && decide (c ≠ 10)) && l.head?.any (fun c => !isDg c)) = true := by decide +kernel
theorem word_name {wo : List Nat} {wa : Want} (h : wantR wo = some wa) : nameOk wo ∧ wo.length ≤ 6 := by
  have := List.all_eq_true.mp words_all wo (want_mem h)
  simp only [Bool.and_eq_true, decide_eq_true_eq, List.all_eq_true] at this
  obtain ⟨⟨h1, h2⟩, h3⟩ := this
  refine ⟨⟨wantR_ne h, fun c hc => (h2 c hc).1.1, fun c hc => ?_⟩, h1⟩
  rw [hc] at h3; simpa using h3
theorem nm_lt {c : Nat} (h : isNm c = true) : c < 128 ∧ c ≠ 10 := ⟨((isNm_iff c).mp h).elim (fun h => Nat.lt_of_le_of_lt h.2 (by decide)) fun h => h.elim (fun h => Nat.lt_of_le_of_lt h.2 (by decide)) fun h => h.elim (fun h => h ▸ by decide) fun h => Nat.lt_of_le_of_lt h.2 (by decide), fun e => absurd (e ▸ h) (by decide +kernel)⟩
theorem nameOk_lt {l : List Nat} (h : nameOk l) : ∀ c ∈ l, c < 512 ∧ c ≠ 10 := fun c hc => o_and (nm_lt (h.2.1 c hc))
/-- what a worth is that was read -/
noncomputable def WthOk : Want → Wth → Prop
  | .no, .no => True
  | .num, .num k => k < 1000000
  | .kind, .txt l => nameOk l ∨ ∃ c, c < 512 ∧ l = 39 :: escS c ++ [39]
  | .cond, .txt l => nameOk l ∧ nmsL.contains l = true
  | _, _ => False
noncomputable def Wth.len : Wth → Nat
  | .txt l => l.length
  | _ => 0
noncomputable def StepOk (b : Nat) (st : List Nat × Wth) : Prop := ∃ wa, wantR st.1 = some wa ∧ WthOk wa st.2 ∧ st.2.len ≤ b
theorem hexd_all : ∀ i, i < 16 → isHx (hexd i) = true ∧ hexv (hexd i) = i ∧ hexd i < 512 ∧ hexd i ≠ 10 := by decide +kernel
theorem escS_cases (c : Nat) : (c = 10 ∧ escS c = [92, 110]) ∨ (c = 9 ∧ escS c = [92, 116]) ∨ ((c = 39 ∨ c = 92) ∧ escS c = [92, c]) ∨ (c < 256 ∧ escS c = [92, 120, hexd (c / 16), hexd (c % 16)]) ∨ (c ≠ 39 ∧ c ≠ 92 ∧ c ≠ 10 ∧ escS c = [c]) := by
  unfold escS
  by_cases h1 : c = 10
  · exact .inl ⟨h1, if_pos h1⟩
  · rw [if_neg h1]
    by_cases h2 : c = 9
    · exact .inr (.inl ⟨h2, if_pos h2⟩)
    · rw [if_neg h2]
      by_cases h3 : c = 39 ∨ c = 92
      · exact .inr (.inr (.inl ⟨h3, if_pos h3⟩))
      · rw [if_neg h3]
        by_cases h4 : (c < 32 ∨ 126 < c) ∧ c < 256
        · exact .inr (.inr (.inr (.inl ⟨h4.2, if_pos h4⟩)))
        · exact .inr (.inr (.inr (.inr ⟨fun e => h3 (.inl e), fun e => h3 (.inr e), h1, if_neg h4⟩)))
theorem escS_lt {c : Nat} (h : c < 512) : ∀ x ∈ escS c, x < 512 ∧ x ≠ 10 := by
  rcases escS_cases c with ⟨_, e⟩ | ⟨_, e⟩ | ⟨hc, e⟩ | ⟨hc, e⟩ | ⟨h1, h2, h3, e⟩ <;> rw [e] <;> intro x hx <;> simp only [List.mem_cons, List.not_mem_nil, or_false] at hx
  · omega
  · omega
  · omega
  · have a := hexd_all (c / 16) (by omega)
    have b := hexd_all (c % 16) (by omega)
    rcases hx with rfl | rfl | rfl | rfl
    · decide
    · decide
    · exact a.2.2
    · exact b.2.2
  · subst hx; exact ⟨h, h3⟩
theorem oc_39 : isOc 39 = false ∧ isOc 92 = false ∧ isOc 120 = false := by decide +kernel
theorem lit_back (c : Nat) (t : List Nat) : lawLit (escS c ++ 39 :: t) = some (c, (escS c).length + 2) := by
  rcases escS_cases c with ⟨rfl, e⟩ | ⟨rfl, e⟩ | ⟨rfl | rfl, e⟩ | ⟨hc, e⟩ | ⟨h1, h2, h3, e⟩ <;> rw [e]
  · rfl
  · rfl
  · have h : escR (39 :: 39 :: t) = (39, 1) := by simp only [escR, plainE]; simp [oc_39.1]
    simp only [List.cons_append, List.nil_append, lawLit, h]
    simp
  · have h : escR (92 :: 39 :: t) = (92, 1) := by simp only [escR, plainE]; simp [oc_39.2.1]
    simp only [List.cons_append, List.nil_append, lawLit, h]
    simp
  · have a := hexd_all (c / 16) (by omega)
    have b := hexd_all (c % 16) (by omega)
    have ha : inS HXS (hexd (c / 16)) = true := a.1
    have hb : inS HXS (hexd (c % 16)) = true := b.1
    have h : escR (120 :: hexd (c / 16) :: hexd (c % 16) :: 39 :: t) = (c, 3) := by
      simp only [escR, plainE]
      simp [oc_39.2.2, codeGo, ha, hb, a.2.1, b.2.1]
      omega
    simp only [List.cons_append, List.nil_append, lawLit, h]
    simp
  · simp [lawLit, h1, h2]
end Mine
end
section
set_option maxRecDepth 100000
namespace Mine
open PySem.Builtin PySem.Builtin.Str
theorem slc_ss {X : PySem.Str} {i j : Int} (a b : Nat) (hi : i = (a : Int)) (hj : j = (b : Int)) : Txt.slice X (some i) (some j) = tx (((tl X).drop a).take (b - a)) := by
  subst hi hj
  apply tl_inj
  rw [slice_ss', tl_tx]
theorem slc_ns {X : PySem.Str} {j : Int} (b : Nat) (hj : j = (b : Int)) : Txt.slice X none (some j) = tx ((tl X).take b) := by
  have e : Txt.slice X none (some j) = Txt.slice X (some ((0 : Nat) : Int)) (some j) := by
    unfold Txt.slice
    have : strSliceIndices none (some j) 1 X.length = strSliceIndices (some ((0 : Nat) : Int)) (some j) 1 X.length := by
      unfold strSliceIndices
      simp only [show (1 : Int) > 0 by decide, if_true]
      have h1 : ¬ (((0 : Nat) : Int) < 0) := by omega
      simp only [h1, if_false]
      congr 1 <;> omega
    rw [this]
  rw [e, slc_ss 0 b rfl hj, List.drop_zero, Nat.sub_zero]
theorem slc_sn {X : PySem.Str} {i : Int} (a : Nat) (hi : i = (a : Int)) : Txt.slice X (some i) none = tx ((tl X).drop a) := by
  have e : Txt.slice X (some i) none = Txt.slice X (some i) (some ((X.length : Nat) : Int)) := by
    unfold Txt.slice
    have : strSliceIndices (some i) none 1 X.length = strSliceIndices (some i) (some ((X.length : Nat) : Int)) 1 X.length := by
      unfold strSliceIndices
      simp only [show (1 : Int) > 0 by decide, if_true]
      have h1 : ¬ (((X.length : Nat) : Int) < 0) := by omega
      simp only [h1, if_false]
      congr 1 <;> omega
    rw [this]
  rw [e, slc_ss a X.length hi rfl, List.take_of_length_le]
  rw [List.length_drop, len_tl]; omega
theorem item_tx {l : List Nat} {n c : Nat} (h : l[n]? = some c) : Txt.item (tx l) (n : Int) = tx [c] := item_nat (tx l) (by rw [tl_tx]; exact h)
theorem nil_beq {z : String} {y : Nat} (hz : PySem.Str.ofString z = ⟨#[y]⟩) : (tx [] == PySem.Str.ofString z) = false := by
  rw [hz]
  rw [beq_eq_false_iff_ne]
  intro e
  have := congrArg (fun s : PySem.Str => s.cps.size) e
  simp [tx] at this
theorem low_all : ∀ c, c < 128 → Txt.lower ⟨#[c]⟩ = ⟨#[if 65 ≤ c ∧ c ≤ 90 then c + 32 else c]⟩ := by decide +kernel
theorem dig_all : ∀ c, c < 128 → Txt.isdigit ⟨#[c]⟩ = isDg c := by decide +kernel
theorem empty_low : Txt.lower (tx []) = tx [] := by decide +kernel
end Mine
end
section
set_option maxRecDepth 100000
namespace Mine
open PySem.Builtin PySem.Builtin.Str
noncomputable abbrev HEXD : PySem.Str := PySem.Str.ofString "0123456789abcdef"
noncomputable abbrev NTR : PySem.Str := PySem.Str.ofString "ntrfvab"
noncomputable abbrev NTRT : PySem.Str := PySem.Str.ofString "\n\t\r\x0c\x0b\x07\x08"
noncomputable def lw (c : Nat) : Nat := if 65 ≤ c ∧ c ≤ 90 then c + 32 else c
theorem low_one {c : Nat} (h : c < 128) : Txt.lower ⟨#[c]⟩ = ⟨#[lw c]⟩ := low_all c h
theorem hexcut8 : Txt.slice HEXD none (some 8) = OCS := by decide +kernel
theorem hexcut16 : Txt.slice HEXD none (some 16) = HEXD := by decide +kernel
theorem lw_oc : ∀ c, c < 128 → inS OCS (lw c) = isOc c := by decide +kernel
theorem lw_hx : ∀ c, c < 128 → inS HEXD (lw c) = isHx c := by decide +kernel
theorem lw_find : ∀ c, c < 128 → isHx c = true → (Txt.find HEXD ⟨#[lw c]⟩ : Int) = (hexv c : Int) ∧ (occurrences HEXD ⟨#[lw c]⟩ 0 HEXD.length 1).isEmpty = false := by decide +kernel
theorem plain_find : ∀ c, c < 128 → (plainE c = none ∧ (occurrences NTR ⟨#[c]⟩ 0 NTR.length 1).isEmpty = true) ∨ ((plainE c).isSome = true ∧ (occurrences NTR ⟨#[c]⟩ 0 NTR.length 1).isEmpty = false ∧ (0 : Int) ≤ Txt.find NTR ⟨#[c]⟩ ∧ (Txt.find NTR ⟨#[c]⟩ : Int) < 7 ∧ Txt.item NTRT (Txt.find NTR ⟨#[c]⟩) = ⟨#[(plainE c).getD 0]⟩) := by decide +kernel
theorem oc_hx : ∀ c, c < 128 → isOc c = true → isHx c = true := by decide +kernel
theorem lit_bd {wd : PySem.Str} {base most : Nat} {Fg : List Nat} {cv k : Nat} (hb : cv < base ^ k) (hk : k ≤ most) (h0 : 0 < base) (h5 : base ^ most ≤ 512) : (cv : Int) ≤ 511 ∧ (0 : Int) ≤ (cv : Int) := by
  have := Nat.pow_le_pow_right h0 hk
  omega
noncomputable def foldC (base : Nat) (l : List Nat) (a : Nat) : Nat := l.foldl (fun a c => a * base + hexv c) a
theorem codeGo_fold (wd : PySem.Str) (base : Nat) : ∀ (f : Nat) (R : List Nat) (a : Nat), codeGo wd base f R a = (foldC base ((R.take f).takeWhile (inS wd)) a, ((R.take f).takeWhile (inS wd)).length)
  | 0, R, a => by simp [codeGo, foldC]
  | f + 1, [], a => by simp [codeGo, foldC]
  | f + 1, x :: r, a => by
    simp only [codeGo, List.take_succ_cons]
    by_cases h : inS wd x = true
    · rw [if_pos h, List.takeWhile_cons_of_pos h, codeGo_fold wd base f r]
      rfl
    · rw [if_neg h, List.takeWhile_cons_of_neg h]
      rfl
/-- the loop over a literal's figures -/
structure LInv (wd : PySem.Str) (base : Nat) (Fg : List Nat) (pre : List Int) (cv k : Nat) : Prop where
  ex : ∃ l rest, Fg = l ++ rest ∧ pre = l.map (fun c : Nat => (c : Int)) ∧ k = l.length ∧ (∀ x ∈ l, inS wd x = true) ∧ cv = foldC base l 0
  bd : cv < base ^ k
theorem LInv.start {wd : PySem.Str} {base : Nat} {Fg : List Nat} : LInv wd base Fg [] 0 0 := ⟨⟨[], Fg, rfl, rfl, rfl, (fun _ h => nomatch h), rfl⟩, by simp⟩
theorem codes_tx (l : List Nat) : KStt.codes (tx l) = l.map (fun c : Nat => (c : Int)) := by unfold KStt.codes; rw [show (tx l).cps.toList = l from tl_tx l]
theorem cast_inj : ∀ {a b : List Nat}, a.map (fun c : Nat => (c : Int)) = b.map (fun c : Nat => (c : Int)) → a = b
  | [], [], _ => rfl
  | [], _ :: _, h => by cases h
  | _ :: _, [], h => by cases h
  | x :: a, y :: b, h => by
    simp only [List.map_cons, List.cons.injEq] at h
    rw [cast_inj h.2, show x = y by omega]
theorem LInv.at {wd : PySem.Str} {base : Nat} {Fg : List Nat} {pre post : List Int} {n cv k : Nat} (h : LInv wd base Fg pre cv k) (e : KStt.codes (tx Fg) = pre ++ (n : Int) :: post) :
    n ∈ Fg ∧ k < Fg.length ∧ ∃ l rest, Fg = l ++ n :: rest ∧ pre = l.map (fun c : Nat => (c : Int)) ∧ k = l.length ∧ (∀ x ∈ l, inS wd x = true) ∧ cv = foldC base l 0 := by
  obtain ⟨l, rest, h1, h2, h3, h4, h5⟩ := h.ex
  rw [codes_tx, h1, List.map_append, h2] at e
  have e2 := List.append_cancel_left e
  rcases rest with _ | ⟨y, rest⟩
  · cases e2
  · simp only [List.map_cons, List.cons.injEq] at e2
    have hy : y = n := by omega
    subst hy
    exact ⟨by rw [h1]; simp, by rw [h1, h3]; simp, l, rest, h1, h2, h3, h4, h5⟩
theorem LInv.le {wd : PySem.Str} {base most : Nat} {Fg : List Nat} {pre : List Int} {cv k : Nat} (h : LInv wd base Fg pre cv k) (hl : Fg.length ≤ most) : k ≤ most := by
  obtain ⟨l, rest, h1, h2, h3, -, -⟩ := h.ex
  rw [h1, List.length_append] at hl
  omega
theorem LInv.next {wd : PySem.Str} {base : Nat} {Fg : List Nat} {pre post : List Int} {n cv k : Nat} (h : LInv wd base Fg pre cv k) (e : KStt.codes (tx Fg) = pre ++ (n : Int) :: post) (hn : inS wd n = true) (hv : hexv n < base) :
    LInv wd base Fg (pre ++ [(n : Int)]) (cv * base + hexv n) (k + 1) := by
  obtain ⟨-, -, l, rest, h1, h2, h3, h4, h5⟩ := h.at e
  refine ⟨⟨l ++ [n], rest, by rw [h1]; simp, by rw [h2]; simp, by rw [h3]; simp, fun x hx => ?_, by rw [h5]; simp [foldC]⟩, ?_⟩
  · rcases List.mem_append.mp hx with hx | hx
    · exact h4 x hx
    · rw [List.mem_singleton.mp hx]; exact hn
  · have := h.bd
    rw [Nat.pow_succ]
    calc cv * base + hexv n < cv * base + base := by omega
      _ = (cv + 1) * base := by rw [Nat.add_mul, Nat.one_mul]
      _ ≤ base ^ k * base := Nat.mul_le_mul_right _ this
theorem LInv.brk {wd : PySem.Str} {base most : Nat} {R : List Nat} {pre post : List Int} {n cv k : Nat} (h : LInv wd base (R.take most) pre cv k) (e : KStt.codes (tx (R.take most)) = pre ++ (n : Int) :: post) (hn : inS wd n = false) :
    codeGo wd base most R 0 = (cv, k) := by
  obtain ⟨-, -, l, rest, h1, h2, h3, h4, h5⟩ := h.at e
  rw [codeGo_fold, h1, tw_app h4 (fun c r e => by injection e with e; rw [← e]; exact hn), ← h5, ← h3]
theorem LInv.done {wd : PySem.Str} {base most : Nat} {R : List Nat} {cv k : Nat} (h : LInv wd base (R.take most) (KStt.codes (tx (R.take most))) cv k) :
    codeGo wd base most R 0 = (cv, k) := by
  obtain ⟨l, rest, h1, h2, h3, h4, h5⟩ := h.ex
  rw [codes_tx] at h2
  have := cast_inj h2
  rw [codeGo_fold, this]
  have e : l.takeWhile (inS wd) = l := by
    have := tw_app (t := []) h4 (fun c r e => by cases e)
    rwa [List.append_nil] at this
  rw [e, ← h5, ← h3]
end Mine
end
section
set_option maxRecDepth 100000
namespace Mine
open PySem.Builtin PySem.Builtin.Str
section
variable {prog : Program} {w : World} {A : Around} {E : Value → Shared → Prop} {s : Shared} {h₀ : Heap} {L : Addr} {m : PySem.Str → Option Value} {news : List (Addr × Obj)} {x y : PySem.Str} {t u ui uj : Tok} {i j : Int} {value slice : PySem.Expr} {Q : Value → Shared → Prop}
theorem size_of {x : PySem.Str} (h : x.length ≤ 100000) : x.length ≤ sizeLine := by rw [sizeLine_eq]; omega
theorem cut_ss (F : Fr h₀ L s.heap m) (N : News h₀ L s.heap news) (e : Txt.slice x (some i) (some j) = y) (hz : x.length ≤ 100000) (h : ∀ h' t' k, Fr h₀ L h' m → News h₀ L h' news → Q (.str y t') { s with heap := h', toks := k })
    (hs : subscripted slice false (.str x t) (.ref s.heap.objs.size) = operate [.ref s.heap.objs.size, .str x t] (getItem (.str x t) (.ref s.heap.objs.size)) := by with_unfolding_all rfl)
    (ht : ∀ r, letTemporaryGo value (.str x t) r = pure () := by intro _; with_unfolding_all rfl) :
    wpAny (model prog w) A (subscriptTail value slice (.str x t) (.ref s.heap.objs.size)) Q E { s with heap := s.heap.push { cls := .type "slice", data := .fields #[.int i ui, .int j uj, .none] } } :=
  slice_strN_ss F N (fun h' t' k a b => by rw [e]; exact h h' t' k a b) hs ht (size_of hz)
theorem cut_sn (F : Fr h₀ L s.heap m) (N : News h₀ L s.heap news) (e : Txt.slice x (some i) none = y) (hz : x.length ≤ 100000) (h : ∀ h' t' k, Fr h₀ L h' m → News h₀ L h' news → Q (.str y t') { s with heap := h', toks := k })
    (hs : subscripted slice false (.str x t) (.ref s.heap.objs.size) = operate [.ref s.heap.objs.size, .str x t] (getItem (.str x t) (.ref s.heap.objs.size)) := by with_unfolding_all rfl)
    (ht : ∀ r, letTemporaryGo value (.str x t) r = pure () := by intro _; with_unfolding_all rfl) :
    wpAny (model prog w) A (subscriptTail value slice (.str x t) (.ref s.heap.objs.size)) Q E { s with heap := s.heap.push { cls := .type "slice", data := .fields #[.int i ui, .none, .none] } } :=
  slice_strN_sn F N (fun h' t' k a b => by rw [e]; exact h h' t' k a b) hs ht (size_of hz)
theorem cut_ns (F : Fr h₀ L s.heap m) (N : News h₀ L s.heap news) (e : Txt.slice x none (some j) = y) (hz : x.length ≤ 100000) (h : ∀ h' t' k, Fr h₀ L h' m → News h₀ L h' news → Q (.str y t') { s with heap := h', toks := k })
    (hs : subscripted slice false (.str x t) (.ref s.heap.objs.size) = operate [.ref s.heap.objs.size, .str x t] (getItem (.str x t) (.ref s.heap.objs.size)) := by with_unfolding_all rfl)
    (ht : ∀ r, letTemporaryGo value (.str x t) r = pure () := by intro _; with_unfolding_all rfl) :
    wpAny (model prog w) A (subscriptTail value slice (.str x t) (.ref s.heap.objs.size)) Q E { s with heap := s.heap.push { cls := .type "slice", data := .fields #[.none, .int j uj, .none] } } :=
  slice_strN_ns F N (fun h' t' k a b => by rw [e]; exact h h' t' k a b) hs ht (size_of hz)
theorem item_fact (e : Txt.item x i = y) (h0 : 0 ≤ i) (h1 : i < (x.length : Int)) (hz : x.length ≤ 100000) (h : ∀ t' k, Q (.str y t') { s with toks := k })
    (hs : subscripted slice false (.str x t) (.int i u) = operate [.str x t, .int i u] (getItem (.str x t) (.int i u)) := by with_unfolding_all rfl)
    (ht : ∀ r, letTemporaryGo value (.str x t) r = pure () := by intro _; with_unfolding_all rfl) :
    wpAny (model prog w) A (subscriptTail value slice (.str x t) (.int i u)) Q E s :=
  item_str (fitsSsize_of (N := 9223372036854775808) (by omega) (by omega) (Int.le_refl _)) (by omega) h1 (fun _ => by rw [e]; exact h _ _) hs ht
theorem index_fact (e : (Txt.find x y : Int) = i) (ho : (occurrences x y 0 x.length 1).isEmpty = false) (h : ∀ t' k, Q (.int i t') { s with toks := k }) : wpAny (model prog w) A (call (.builtin "str.index") [.str x t, .str y u]) Q E s := by
  cases hc : occurrences x y 0 x.length 1 with
  | nil => rw [hc] at ho; cases ho
  | cons j rest =>
    have e' : Txt.find x y = (j : Int) := by simp [Txt.find, hc]
    refine SC.index hc ?_
    have := h s.toks (s.toks + 1)
    rw [← e, e'] at this
    exact this
theorem lower_fact (e : Txt.lower x = y) (hx : x.length ≤ 5592405) (h : ∀ t' k, Q (.str y t') { s with toks := k }) : wpAny (model prog w) A (call (.builtin "str.lower") [.str x t]) Q E s := SCL.lower hx fun _ => by rw [e]; exact h _ _
end
end Mine
end
section
theorem Mine.wr_Lit : True := by
  k_with_none
  k_with "call ref" => k_extra "call ref last"
  k_with "om" => with_reducible first | assumption | exact Nat.add_sub_cancel_left _ _ | exact Int.ofNat_lt.mpr (by assumption) | exact Int.ofNat_le.mpr (by assumption) | exact Int.ofNat_lt.mp (by assumption) | exact Int.ofNat_le.mp (by assumption) | exact o_lt (by assumption) | exact o_nlt (by assumption) | exact o_63 (by assumption) (by assumption) (by with_unfolding_all exact rfl) | exact o_s2 (by assumption) | exact o_s1 (by assumption) (by assumption) | exact o_s3 (by assumption) (by assumption) | exact o_mt (by assumption) | exact o_f1 (by assumption) | exact Nat.le_of_lt (by assumption) | exact Nat.not_le.mp (by assumption) | exact o_sub (by assumption) | exact o_big1 (by assumption) (by with_unfolding_all exact rfl) | exact Nat.le_trans (Nat.le_add_right _ _) (by assumption) | exact Int.natCast_nonneg _ | exact Nat.le_trans (by assumption) (by assumption) | exact o_big (by assumption) (by assumption) (by with_unfolding_all exact rfl) | exact o_ltM (by assumption) (by assumption) | exact o_tr (by assumption) (by assumption) (by assumption) | exact Nat.lt_of_lt_of_le (by assumption) (by assumption) | exact Nat.lt_of_le_of_lt (by assumption) (by assumption) | exact Nat.ne_of_lt (by assumption) | exact Nat.ne_of_gt (by assumption) | exact o_mm (by assumption) | exact o_mm2 (by assumption) (by assumption) | exact o_mn | exact o_ml (by assumption) (by assumption) | exact o_and (by assumption) | rfl
  k_with "kst" => k_extra "mine kst"
  k_with "kst" => k_extra "mine same3"
  k_with "ksw" => k_extra "mine ksw"
  k_with "ksw" => k_extra "mine same"
  k_with "mine enter" => (refine' code_def ?k1q38 ?k2q38 ?k3q38 ?k4q38 ?k5q38 ?kAq38 ?kFq38 ?kKq38 ?k6q38 ?k7q38 ?k8q38 ?k9q38 ?kBq38 ?_ ?c2q38 ?c3q38 ?c4q38 ?c5q38; (case kAq38 => exact rfl); (case kFq38 => exact rfl); (case kKq38 => first | exact rfl | assumption); (case k1q38 => k_asm); (case k2q38 => k_asm); (case k3q38 => k_asm); (case k4q38 => k_asm); (case k5q38 => k_asm); (case k6q38 => k_is); (case k7q38 => k_is); (case k8q38 => first | (refine' rm0 ?rhq38; (case rhq38 => assumption)) | (refine' rm1 ?rhq38 ?rlq38; (case rhq38 => assumption); (case rlq38 => exact rfl)) | (refine' rm2 ?rhq38 ?rlq38; (case rhq38 => assumption); (case rlq38 => exact rfl)) | ktr_room); (case k9q38 => first | exact BindsTo.of_eq rfl | exact binds_K (by k_in) rfl (by k_is) rfl rfl rfl); (case c5q38 => decide); (case kBq38 => exact locs rfl); (case c2q38 => exact rfl); (case c3q38 => exact rfl); (case c4q38 => exact rfl); k_whole; intro g' L' h' FG'; (refine (?_ : let mk := _; Fr _ _ _ mk → _)); intro mk F' N' B' X' T'; (refine (?_ : let nk := _; let ak := _; let qk := _; let ek := _; let sk := _; wpAny _ ak (execs _ nk) qk ek sk)); intro nk ak qk ek sk)
  k_with "subscriptTail Name Attribute str int" => ((with_reducible show wpAny _ _ (subscriptTail _ _ (Value.str _ _) (Value.int _ _)) _ _ _); refine item_str (fitsSsize_of (N := 9223372036854775808) (by omega) (by omega) (Int.le_refl _)) (by omega) (by omega) ?_; intro _)
  k_with "mine inline" => (k_dflt (first | (refine' call_cls ?k1q40 ?k2q40 ?k3q40 ?k4q40 ?k5q40 ?k6q40 ?_; (case k1q40 => k_asm); (case k2q40 => k_asm); (case k3q40 => k_asm); (case k4q40 => k_is); (case k5q40 => k_is); (case k6q40 => k_is); k_whole; intro x' d' h' F' N' l1 l2; (try k_lt l1); (try k_lt2 l2); (try k_sweep); walk_at "mine enter") | (refine wpAny_call ?_; walk_at "mine enter")))
  k_with "ite" => first | with_reducible refine ite_tt ?_ | with_reducible refine ite_ff ?_
  k_with "mine room" => first | (refine' rm2 ?rhq42 ?rlq42; (case rhq42 => assumption); (case rlq42 => exact rfl)) | decide +kernel | omega | (simp only [depth_deeper, units_deeper]; omega) | (dsimp only [ktrTop]; omega) | (dsimp only [Around.deeper, ktrTop]; omega) | ktr_room | ktr_units
  k_with "mine tail" => ((case zzB => k_asm); (case zzF => k_asm); (case zzX => k_asm); (case zzT => k_asm); (case zzN => k_asm); (case zzk => first | exact rfl | assumption); (case zzp => walk_at "mine room"); (case zzu => walk_at "mine room"))
  k_with "isTrue Compare" => (k_here; first | ((with_reducible show wpAny _ _ (isTrue (PySem.Expr.Compare (PySem.Expr.Name _ _) [PySem.CmpOp.Eq] [PySem.Expr.Constant (PySem.Const.str _) _ _] _) _ _) _ _ _); k_dflt (refine' tst_eq ?zaq44 ?zbq44 ?zcq44 ?zmq44 ?zFq44 ?zvq44 ?_; (case zFq44 => k_asm); (case zaq44 => rfl); (case zbq44 => rfl); (case zcq44 => decide); (case zvq44 => rfl); (case zmq44 => with_unfolding_all rfl); k_whole)) | ((with_reducible show wpAny _ _ (isTrue (PySem.Expr.Compare (PySem.Expr.Name _ _) [PySem.CmpOp.NotEq] [PySem.Expr.Constant (PySem.Const.str _) _ _] _) _ _) _ _ _); k_dflt (refine' tst_ne ?zaq44 ?zbq44 ?zcq44 ?zmq44 ?zFq44 ?zvq44 ?_; (case zFq44 => k_asm); (case zaq44 => rfl); (case zbq44 => rfl); (case zcq44 => decide); (case zvq44 => rfl); (case zmq44 => with_unfolding_all rfl); k_whole)))
  k_with "eval BinOp" => (k_here; (with_reducible show wpAny _ _ (eval (PySem.Expr.BinOp (PySem.Expr.Name _ _) PySem.Operator.Add (PySem.Expr.Constant (PySem.Const.int _) _ _) _) _) _ _ _); k_dflt (refine' add_nc ?zaq45 ?zbq45 ?zcq45 ?zFq45 ?zvq45 ?_; (case zFq45 => k_asm); (case zaq45 => rfl); (case zbq45 => rfl); (case zcq45 => decide); (case zvq45 => rfl); k_whole))
  k_with "mine steps" => repeat' (first | ((first | (fail_if_success (fail_if_success k_unfold)) | (fail_if_success (fail_if_success k_fold))); (refine (?_ : let qk := _; let sk := _; wpAny _ _ _ qk _ sk)); intro qk sk) | ((fail_if_success (fail_if_success k_unfold)); (refine (?_ : let sk := _; LeaveK _ _ _ _ _ _ sk)); intro sk) | (k_unfold; (try dsimp only)) | walk1 | (k_end; wrow_close) | (dsimp only [List.nil_append, List.cons_append]; walk1) | (leave1; (try dsimp only)) | fail "no step")
  k_with "execs cons" => (with_reducible refine wpAny_execs_cons ?_)
  k_with "eval Name" => (k_dflt (refine' nmL ?zaq48 ?zbq48 ?zdq48 ?zFq48 ?zvq48 ?_; (case zFq48 => k_asm); (case zaq48 => rfl); (case zbq48 => rfl); (case zvq48 => rfl); (case zdq48 => decide); k_whole))
  k_with "storeName" => (k_dflt (refine' stL ?zaq49 ?zbq49 ?zFq49 ?zNq49 ?_; (case zFq49 => k_asm); (case zNq49 => k_asm); (case zaq49 => rfl); (case zbq49 => rfl); k_whole; intro h' mk F' N'; (try k_sweep)))
  k_with "LeaveK" => (k_dflt (refine' leaveK_ ?k1q50 ?k2q50 ?_; (case k1q50 => k_asm); (case k2q50 => k_asm); k_whole); intro kF kN; (try dsimp only [InitBack]); (try refine ⟨rfl, ?_⟩))
  k_with "mine kst" => (intro z h1 h2 h3; (try dsimp +zetaDelta only [kstB]); (try simp only [List.forall_mem_cons, List.not_mem_nil, false_implies, implies_true, and_true, ne_eq] at h2); first | rfl | (simp [h1]; done) | (simp [h1, h2]; done) | ((try simp only [List.contains_cons, List.contains_nil, Bool.or_false, Bool.or_eq_false_iff, beq_eq_false_iff_ne, ne_eq] at h3); first | (simp [h1, h3]; done) | (simp [h1, h2, h3]; done)))
  k_with "mine same3" => (k_dflt (refine sn_end3 ?_; (repeat (first | (with_reducible exact sn_refl) | (refine' sn_in ?_ ?hpq52 ?hsq52; (case hpq52 => exact rfl); (case hsq52 => exact rfl)) | (refine' sn_upd ?_ ?hxq52; (case hxq52 => exact rfl)))); done))
  k_with "mine ksw" => (intro z h2 h3; (try dsimp +zetaDelta only [kstB]); (try simp only [List.forall_mem_cons, List.not_mem_nil, false_implies, implies_true, and_true, ne_eq] at h2); (try simp only [List.contains_cons, List.contains_nil, Bool.or_false, Bool.or_eq_false_iff, beq_eq_false_iff_ne, ne_eq] at h3); first | rfl | (simp [h2]; done) | (simp [h3]; done) | (simp [h2, h3]; done))
  k_with "mine same" => (k_dflt (refine sn_end ?_; (repeat (first | (with_reducible exact sn_refl) | (refine' sn_in ?_ ?hpq54 ?hsq54; (case hpq54 => exact rfl); (case hsq54 => exact rfl)) | (refine' sn_upd ?_ ?hxq54; (case hxq54 => exact rfl)))); done))
  w_top off
  trivial
theorem Mine.kw_mLit_1 : True := by
  k_with "call type:int" => ((with_reducible show wpAny _ _ (call (Value.type "int") [Value.str _ _, Value.int _ _]) _ _ _); refine call_int16 (by first | assumption | exact isHx_mem (by assumption) | exact isOc_isHx (by assumption)) ?_)
  k_with "call ref" => (k_dflt (show wpAny _ _ (call (Value.ref 233) [_]) _ _ _); k_dflt (refine' hex_escape_ok ?zzB ?zzF ?zzX ?zzT ?zzk ?zzp ?zzu ?zzN ?zzhx ?_; walk_at "mine tail"; (case zzhx => omega)); intro _ h' tk' F' N')
  k_with "call ref" => (k_dflt (show wpAny _ _ (call (Value.ref 240) [_, _]) _ _ _); k_dflt (refine' escaped_sign_ok ?zzB ?zzF ?zzX ?zzT ?zzk ?zzp ?zzu ?zzN ?zzhx ?_; walk_at "mine tail"; (case zzhx => omega)); intro _ h' tk' F' N')
  k_with "subscriptTail Name Slice str ref" => ((with_reducible show wpAny _ _ (subscriptTail _ (Expr.Slice (some _) (some _) none _) _ _) _ _ _); (with_reducible rename Fr _ _ _ _ => F'); (with_reducible rename News _ _ _ _ => N'); (refine' cut_ss (s := ⟨_, _, _, _, _⟩) F' N' ?cutEq58 ?cutZq58 ?_); (case cutEq58 => with_reducible assumption); (case cutZq58 => with_reducible assumption); intro _ _ _ _ _)
  k_with "subscriptTail Name Slice str ref" => ((with_reducible show wpAny _ _ (subscriptTail _ (Expr.Slice (some _) none none _) _ _) _ _ _); (with_reducible rename Fr _ _ _ _ => F'); (with_reducible rename News _ _ _ _ => N'); (refine' cut_sn (s := ⟨_, _, _, _, _⟩) F' N' ?cutEq59 ?cutZq59 ?_); (case cutEq59 => with_reducible assumption); (case cutZq59 => with_reducible assumption); intro _ _ _ _ _)
  k_with "subscriptTail Name Slice str ref" => ((with_reducible show wpAny _ _ (subscriptTail _ (Expr.Slice none (some _) none _) _ _) _ _ _); (with_reducible rename Fr _ _ _ _ => F'); (with_reducible rename News _ _ _ _ => N'); (refine' cut_ns (s := ⟨_, _, _, _, _⟩) F' N' ?cutEq60 ?cutZq60 ?_); (case cutEq60 => with_reducible assumption); (case cutZq60 => with_reducible assumption); intro _ _ _ _ _)
  k_with "subscriptTail Name Constant str int" => ((refine' item_fact ?cutEq61 (by omega) ?cutLq61 ?cutZq61 ?_); (case cutEq61 => with_reducible assumption); (case cutLq61 => with_reducible assumption); (case cutZq61 => with_reducible assumption); intro _ _)
  k_with "subscriptTail Name Name str int" => ((refine' item_fact ?cutEq62 (by omega) ?cutLq62 ?cutZq62 ?_); (case cutEq62 => with_reducible assumption); (case cutLq62 => with_reducible assumption); (case cutZq62 => with_reducible assumption); intro _ _)
  k_with "subscriptTail Name Call str int" => ((refine' item_fact ?cutEq63 (by omega) ?cutLq63 ?cutZq63 ?_); (case cutEq63 => with_reducible assumption); (case cutLq63 => with_reducible assumption); (case cutZq63 => with_reducible assumption); intro _ _)
  k_with "compareOp In str str" => refine in_str ?_
  k_with "compareOp NotIn str str" => refine notIn_str ?_
  k_with "call builtin:str.lower" => ((refine' lower_fact ?cutEq66 ?cutZq66 ?_); (case cutEq66 => with_reducible assumption); (case cutZq66 => first | with_reducible assumption | exact Nat.le_of_ble_eq_true rfl); intro _ _)
  k_with "call builtin:str.index" => ((refine' index_fact ?cutEq67 ?cutOq67 ?_); (case cutEq67 => with_reducible assumption); (case cutOq67 => with_reducible assumption); intro _ _)
  trivial
namespace Mine
open PySem.Builtin PySem.Builtin.Str
noncomputable def LitIs (o : Option (Nat × Nat)) (n : Nat) (e : Int) (y : PySem.Str) : Prop := match o with | some (x, k) => e = (n : Int) + (k : Int) ∧ y = ⟨#[x]⟩ | none => e = -1 ∧ y = PySem.Str.ofString ""
theorem head_q (r : List Nat) : (r.head? = some 39 ∧ (tx (r.take 1) == QT) = true) ∨ (r.head? ≠ some 39 ∧ (tx (r.take 1) == QT) = false) := by
  rcases r with _ | ⟨d, r⟩
  · exact .inr ⟨by simp, nil_beq (y := 39) (by decide +kernel)⟩
  · have : (tx ((d :: r).take 1) == QT) = decide (d = 39) := one_lit (y := 39) (by decide +kernel) d
    rw [this, List.head?_cons]
    by_cases h : d = 39
    · exact .inl ⟨by rw [h], decide_eq_true h⟩
    · exact .inr ⟨fun e => h (Option.some.inj e), decide_eq_false h⟩
theorem head_t {r : List Nat} (h : (tx (r.take 1) == QT) = true) : r.head? = some 39 := by
  rcases head_q r with ⟨h1, _⟩ | ⟨_, h2⟩
  · exact h1
  · rw [h2] at h; cases h
theorem head_f {r : List Nat} (h : (tx (r.take 1) == QT) = false) : r.head? ≠ some 39 := by
  rcases head_q r with ⟨_, h2⟩ | ⟨h1, _⟩
  · rw [h2] at h; cases h
  · exact h1
theorem lt_cut {l o : List (Addr × Obj)} {t : Addr} (h : ∀ p : Addr × Obj, p ∈ l ++ o → p.1 < t) : ∀ p : Addr × Obj, p ∈ l → p.1 < t := fun p hp => h p (List.mem_append_left _ hp)
theorem news_cut {h₀ h : Heap} {L : Addr} {a : Addr × Obj} {l o : List (Addr × Obj)} (N : News h₀ L h (a :: (l ++ o))) : News h₀ L h (a :: l) := fun p hp => N p (by
  rcases List.mem_cons.mp hp with rfl | hp
  · exact .head _
  · exact .tail _ (List.mem_append_left _ hp))
structure Hid (p : Prop) : Prop where
  h : p
theorem ne_false {x y : PySem.Str} (h : (x == y) = true) : (x != y) = false := by rw [bne, h]; rfl
theorem ne_true {x y : PySem.Str} (h : (x == y) = false) : (x != y) = true := by rw [bne, h]; rfl
theorem LL_some {y v e : Nat} {r t : List Nat} (hE : escR (y :: r) = (v, e)) (h1 : t.head? = some 39) (hD : (y :: r).drop e = t) : lawLit (92 :: y :: r) = some (v, e + 3) := by
  show (if (92 : Nat) = 39 then none else if (92 : Nat) = 92 then (if ((y :: r).drop (escR (y :: r)).2).head? = some 39 then some ((escR (y :: r)).1, (escR (y :: r)).2 + 3) else none) else if (y :: r).head? = some 39 then some (92, 3) else none) = _
  rw [if_neg (by decide), if_pos rfl, hE, hD, if_pos h1]
theorem LL_none {y v e : Nat} {r t : List Nat} (hE : escR (y :: r) = (v, e)) (h1 : ¬ t.head? = some 39) (hD : (y :: r).drop e = t) : lawLit (92 :: y :: r) = none := by
  show (if (92 : Nat) = 39 then none else if (92 : Nat) = 92 then (if ((y :: r).drop (escR (y :: r)).2).head? = some 39 then some ((escR (y :: r)).1, (escR (y :: r)).2 + 3) else none) else if (y :: r).head? = some 39 then some (92, 3) else none) = _
  rw [if_neg (by decide), if_pos rfl, hE, hD, if_neg h1]
theorem LL_S1 {TX : PySem.Str} {a c : Nat} {r : List Nat} (hR : (tl TX).drop (a + 1) = c :: r) : Txt.slice TX (some ((a : Int) + 1)) (some ((a : Int) + 2)) = tx [c] :=
  (slc_ss (a + 1) (a + 2) rfl rfl).trans (by rw [hR, Nat.add_sub_add_left]; rfl)
theorem LL_S9 {TX : PySem.Str} {i : Nat} {a : Int} {R : List Nat} (hR : (tl TX).drop i = R) (ha : a = (i : Int)) : Txt.slice TX (some a) (some (a + 1)) = tx (R.take 1) := by
  subst ha; exact (slc_ss i (i + 1) rfl rfl).trans (by rw [hR, Nat.add_sub_cancel_left])
theorem LL_S9r {TX : PySem.Str} {i : Nat} {a b : Int} {R : List Nat} (hR : (tl TX).drop i = R) (ha : a = (i : Int)) (hb : b = (i : Int) + 1) : Txt.slice TX (some a) (some b) = tx (R.take 1) := by
  subst ha hb; exact LL_S9 hR rfl
theorem LL_E0 {y z : Nat} {r : List Nat} (hx : y = 120) (hz : isHx z = false) : escR (y :: z :: r) = (y, 1) := by rw [hx]; simp [escR, plainE, oc_39.2.2, hz]
theorem LL_En {y : Nat} (hx : y = 120) : escR (y :: []) = (y, 1) := by rw [hx]; simp [escR, plainE, oc_39.2.2]
theorem LL_E1 {y z cv k : Nat} {r : List Nat} (hx : y = 120) (hz : isHx z = true) (hck : codeGo HXS 16 2 (z :: r) 0 = (cv, k)) : escR (y :: z :: r) = (cv, k + 1) := by
  subst hx; simp only [escR, plainE]; simp [oc_39.2.2, hz, hck]
theorem LL_Ey {y : Nat} {r : List Nat} (hp : plainE y = none) (ho : isOc y = false) (hx : y ≠ 120) : escR (y :: r) = (y, 1) := by
  simp only [escR, hp]; rw [if_neg (show ¬ isOc y = true by rw [ho]; decide), if_neg (fun h => hx h.1)]
theorem LL_Eo {y cv k : Nat} {r : List Nat} (hp : plainE y = none) (ho : isOc y = true) (hck : codeGo OCS 8 3 (y :: r) 0 = (cv, k)) : escR (y :: r) = (cv, k + 0) := by
  simp only [escR, hp]; rw [if_pos ho]; exact hck
theorem LL_Ep {y v : Nat} {r : List Nat} (hp : plainE y = some v) : escR (y :: r) = (v, 1) := by simp only [escR, hp]
theorem LL_n120 {y v : Nat} (hp : plainE y = some v) : y ≠ 120 := by rintro rfl; cases hp
theorem LL_o120 {y : Nat} (ho : inS (PySem.Str.ofString "01234567") y = true) : y ≠ 120 := by rintro rfl; exact absurd ho (by decide +kernel)
theorem LL_xe {y : Nat} (hx : y ≠ 120) : (tx [y] == PySem.Str.ofString "x") = false := by rw [show tx [y] = ⟨#[y]⟩ from rfl, one_lit (y := 120) (by decide +kernel)]; exact decide_eq_false hx
theorem LL_eI {y : Nat} {r : List Nat} : (0 : Int) < ((tx (y :: r)).length : Int) := by rw [tx_len, List.length_cons]; omega
theorem LL_eL {TX : PySem.Str} {a : Nat} {r : List Nat} (hR : (tl TX).drop a = r) (h : TX.length ≤ 100000) : (tx r).length ≤ 100000 := by rw [tx_len, ← hR, List.length_drop]; rw [len_tl] at h; omega
theorem nil_eq : (tx [] == PySem.Str.ofString "") = true := by decide +kernel
theorem cons_ne (y : Nat) (r : List Nat) : (tx (y :: r) == PySem.Str.ofString "") = false := tx_ne_empty (List.cons_ne_nil _ _)
set_option maxHeartbeats 2000000 in
theorem lit_nil {w : World} {mean : ExcName → Option Value} {mg mb : PySem.Str → Option Value} {dp un : Nat} {gd : Option (List Code)} {cn : PySem.Str} {cs : Scope} {a : Addr} {ccd : Value} {cl : List (PySem.Str × Addr)} {outer : List Env} {A₀ : Around} {base h₀ : Heap} {L : Addr} {m : PySem.Str → Option Value} {s : Shared} {Q E : Value → Shared → Prop} {news : List (Addr × Obj)} (B : Below A₀ base outer h₀) (F : Fr h₀ L s.heap m) (X : (Mine.hd.heap_1_39 w.params).In h₀) (T : Top Mine.hd.view_1_40 lo mean mg mb h₀) (hk : cs.kind = .function) (hdp : dp + 5 < recursionLimit) (hun : un + 50 < cLine) (N : News h₀ L s.heap news) {TX : PySem.Str} {at_ : Nat} {u1 u2 : Tok}  (hlen : TX.length ≤ 100000) (has : ∀ x ∈ tl TX, x < 128) (hR : (tl TX).drop (at_ + 1) = [])
  
  (ret : ∀ (t : Addr) (ee : Int) (yy : PySem.Str) (v1 v2 : Tok) (h' : Heap) (tk' : Nat), LitIs (lawLit ([])) at_ ee yy → Fr h₀ L h' m → News h₀ L h' ((t, { cls := .type "tuple", data := .seq #[.int ee v1, .str yy v2] }) :: news) → (∀ p : Addr × Obj, p ∈ news → p.1 < t) → Q (.ref t) { s with heap := h', toks := tk' })
  : wpAny (model PySem.Challenge.rw_nn0359_01.row.prog w) (ktrTop dp un gd cn cs L a ccd cl outer) (call (.ref 343) [.str TX u1, .int (at_ : Int) u2]) Q E s := by
  have S1 : Txt.slice TX (some ((at_ : Int) + 1)) (some ((at_ : Int) + 2)) = tx [] := by rw [slc_ss (at_ + 1) (at_ + 2) (by omega) (by omega), hR, List.take_nil]
  have e1 := nil_eq
  have hL : lawLit [] = none := rfl

  refine wpAny_call ?_
  k_dflt walk_at "mine enter"
  walk_at "mine steps"
  refine ret _ _ _ _ _ _ _ ?_ (by assumption) (by assumption) (by assumption); rw [hL]; exact ⟨rfl, by first | rfl | exact hitem⟩
set_option maxHeartbeats 2000000 in
theorem lit_quo {w : World} {mean : ExcName → Option Value} {mg mb : PySem.Str → Option Value} {dp un : Nat} {gd : Option (List Code)} {cn : PySem.Str} {cs : Scope} {a : Addr} {ccd : Value} {cl : List (PySem.Str × Addr)} {outer : List Env} {A₀ : Around} {base h₀ : Heap} {L : Addr} {m : PySem.Str → Option Value} {s : Shared} {Q E : Value → Shared → Prop} {news : List (Addr × Obj)} (B : Below A₀ base outer h₀) (F : Fr h₀ L s.heap m) (X : (Mine.hd.heap_1_39 w.params).In h₀) (T : Top Mine.hd.view_1_40 lo mean mg mb h₀) (hk : cs.kind = .function) (hdp : dp + 5 < recursionLimit) (hun : un + 50 < cLine) (N : News h₀ L s.heap news) {TX : PySem.Str} {at_ : Nat} {u1 u2 : Tok} {r : List Nat} (hlen : TX.length ≤ 100000) (has : ∀ x ∈ tl TX, x < 128) (hR : (tl TX).drop (at_ + 1) = 39 :: r)
  
  (ret : ∀ (t : Addr) (ee : Int) (yy : PySem.Str) (v1 v2 : Tok) (h' : Heap) (tk' : Nat), LitIs (lawLit (39 :: r)) at_ ee yy → Fr h₀ L h' m → News h₀ L h' ((t, { cls := .type "tuple", data := .seq #[.int ee v1, .str yy v2] }) :: news) → (∀ p : Addr × Obj, p ∈ news → p.1 < t) → Q (.ref t) { s with heap := h', toks := tk' })
  : wpAny (model PySem.Challenge.rw_nn0359_01.row.prog w) (ktrTop dp un gd cn cs L a ccd cl outer) (call (.ref 343) [.str TX u1, .int (at_ : Int) u2]) Q E s := by
  have hlt := drop_cons_lt hR
  have hal : at_ + 2 ≤ TX.length := by rw [len_tl]; omega
  have S1 : Txt.slice TX (some ((at_ : Int) + 1)) (some ((at_ : Int) + 2)) = tx [39] := LL_S1 hR
  have e1 : (tx [39] == PySem.Str.ofString "") = false := one_ne_empty 39
  have e2 : (tx [39] == QT) = true := by decide +kernel
  have hL : lawLit (39 :: r) = none := by simp only [lawLit, if_true]

  refine wpAny_call ?_
  k_dflt walk_at "mine enter"
  walk_at "mine steps"
  refine ret _ _ _ _ _ _ _ ?_ (by assumption) (by assumption) (by assumption); rw [hL]; exact ⟨rfl, by first | rfl | exact hitem⟩
set_option maxHeartbeats 2000000 in
theorem lit_other {w : World} {mean : ExcName → Option Value} {mg mb : PySem.Str → Option Value} {dp un : Nat} {gd : Option (List Code)} {cn : PySem.Str} {cs : Scope} {a : Addr} {ccd : Value} {cl : List (PySem.Str × Addr)} {outer : List Env} {A₀ : Around} {base h₀ : Heap} {L : Addr} {m : PySem.Str → Option Value} {s : Shared} {Q E : Value → Shared → Prop} {news : List (Addr × Obj)} (B : Below A₀ base outer h₀) (F : Fr h₀ L s.heap m) (X : (Mine.hd.heap_1_39 w.params).In h₀) (T : Top Mine.hd.view_1_40 lo mean mg mb h₀) (hk : cs.kind = .function) (hdp : dp + 5 < recursionLimit) (hun : un + 50 < cLine) (N : News h₀ L s.heap news) {TX : PySem.Str} {at_ : Nat} {u1 u2 : Tok} {c : Nat} {r : List Nat} (hlen : TX.length ≤ 100000) (has : ∀ x ∈ tl TX, x < 128) (hR : (tl TX).drop (at_ + 1) = c :: r)
  (hc : c ≠ 39) (hb : c ≠ 92)
  (ret : ∀ (t : Addr) (ee : Int) (yy : PySem.Str) (v1 v2 : Tok) (h' : Heap) (tk' : Nat), LitIs (lawLit (c :: r)) at_ ee yy → Fr h₀ L h' m → News h₀ L h' ((t, { cls := .type "tuple", data := .seq #[.int ee v1, .str yy v2] }) :: news) → (∀ p : Addr × Obj, p ∈ news → p.1 < t) → Q (.ref t) { s with heap := h', toks := tk' })
  : wpAny (model PySem.Challenge.rw_nn0359_01.row.prog w) (ktrTop dp un gd cn cs L a ccd cl outer) (call (.ref 343) [.str TX u1, .int (at_ : Int) u2]) Q E s := by
  have hlt := drop_cons_lt hR
  have hal : at_ + 2 ≤ TX.length := by rw [len_tl]; omega
  have S1 : Txt.slice TX (some ((at_ : Int) + 1)) (some ((at_ : Int) + 2)) = tx [c] := LL_S1 hR
  have e1 : (tx [c] == PySem.Str.ofString "") = false := one_ne_empty c
  have e2 : (tx [c] == QT) = false := by rw [show tx [c] = ⟨#[c]⟩ from rfl, one_lit (y := 39) (by decide +kernel)]; exact decide_eq_false hc
  have e3 : (tx [c] == BS) = false := by rw [show tx [c] = ⟨#[c]⟩ from rfl, one_lit (y := 92) (by decide +kernel)]; exact decide_eq_false hb
  have hR2 := (drop_cons_get hR).2
  have S9 : Txt.slice TX (some ((at_ : Int) + 2)) (some ((at_ : Int) + 2 + 1)) = tx ((r).take 1) := by
    rw [slc_ss (at_ + 2) (at_ + 2 + 1) (by omega) (by omega), show at_ + 2 = at_ + 1 + 1 by omega, hR2, show at_ + 2 + 1 - (at_ + 2) = 1 by omega]

  refine wpAny_call ?_
  k_dflt walk_at "mine enter"
  walk_at "mine steps"
  · have h1 := head_t (r := r) (by assumption)
    have hL : lawLit (c :: r) = some (c, 3) := by simp only [lawLit, if_neg hc, if_neg hb, if_pos h1]
    refine ret _ _ _ _ _ _ _ ?_ (by assumption) (by assumption) (by assumption); rw [hL]; exact ⟨by omega, by first | rfl | exact hitem⟩
  · have h1 := head_f (r := r) (by assumption)
    have hL : lawLit (c :: r) = none := by simp only [lawLit, if_neg hc, if_neg hb, if_neg h1]
    refine ret _ _ _ _ _ _ _ ?_ (by assumption) (by assumption) (by assumption); rw [hL]; exact ⟨rfl, by first | rfl | exact hitem⟩
set_option maxHeartbeats 2000000 in
theorem lit_bs {w : World} {mean : ExcName → Option Value} {mg mb : PySem.Str → Option Value} {dp un : Nat} {gd : Option (List Code)} {cn : PySem.Str} {cs : Scope} {a : Addr} {ccd : Value} {cl : List (PySem.Str × Addr)} {outer : List Env} {A₀ : Around} {base h₀ : Heap} {L : Addr} {m : PySem.Str → Option Value} {s : Shared} {Q E : Value → Shared → Prop} {news : List (Addr × Obj)} (B : Below A₀ base outer h₀) (F : Fr h₀ L s.heap m) (X : (Mine.hd.heap_1_39 w.params).In h₀) (T : Top Mine.hd.view_1_40 lo mean mg mb h₀) (hk : cs.kind = .function) (hdp : dp + 5 < recursionLimit) (hun : un + 50 < cLine) (N : News h₀ L s.heap news) {TX : PySem.Str} {at_ : Nat} {u1 u2 : Tok}  (hlen : TX.length ≤ 100000) (has : ∀ x ∈ tl TX, x < 128) (hR : (tl TX).drop (at_ + 1) = [92])
  
  (ret : ∀ (t : Addr) (ee : Int) (yy : PySem.Str) (v1 v2 : Tok) (h' : Heap) (tk' : Nat), LitIs (lawLit ([92])) at_ ee yy → Fr h₀ L h' m → News h₀ L h' ((t, { cls := .type "tuple", data := .seq #[.int ee v1, .str yy v2] }) :: news) → (∀ p : Addr × Obj, p ∈ news → p.1 < t) → Q (.ref t) { s with heap := h', toks := tk' })
  : wpAny (model PySem.Challenge.rw_nn0359_01.row.prog w) (ktrTop dp un gd cn cs L a ccd cl outer) (call (.ref 343) [.str TX u1, .int (at_ : Int) u2]) Q E s := by
  have hlt := drop_cons_lt hR
  have hal : at_ + 2 ≤ TX.length := by rw [len_tl]; omega
  have S1 : Txt.slice TX (some ((at_ : Int) + 1)) (some ((at_ : Int) + 2)) = tx [92] := LL_S1 hR
  have e1 : (tx [92] == PySem.Str.ofString "") = false := one_ne_empty 92
  have e2 : (tx [92] == QT) = false := by decide +kernel
  have e3 : (tx [92] == BS) = true := by decide +kernel
  have hR2 := (drop_cons_get hR).2
  have S2 : Txt.slice TX (some ((at_ : Int) + 2)) none = tx [] := by rw [slc_sn (at_ + 2) (by omega), show at_ + 2 = at_ + 1 + 1 by omega, hR2]
  have eL : (tx []).length ≤ 100000 := Nat.le_of_ble_eq_true rfl
  have S3 : Txt.slice (tx []) none (some 1) = tx [] := (slc_ns 1 rfl).trans (by rw [tl_tx]; rfl)
  have e5 := nil_beq (z := "x") (y := 120) (by decide +kernel)
  have e6 := ne_false nil_eq
  have e7 := nil_eq
  have hL : lawLit [92] = none := rfl

  refine wpAny_call ?_
  k_dflt walk_at "mine enter"
  walk_at "mine steps"
  refine ret _ _ _ _ _ _ _ ?_ (by assumption) (by assumption) (by assumption); rw [hL]; exact ⟨rfl, by first | rfl | exact hitem⟩
set_option maxHeartbeats 2000000 in
theorem lit_plain {w : World} {mean : ExcName → Option Value} {mg mb : PySem.Str → Option Value} {dp un : Nat} {gd : Option (List Code)} {cn : PySem.Str} {cs : Scope} {a : Addr} {ccd : Value} {cl : List (PySem.Str × Addr)} {outer : List Env} {A₀ : Around} {base h₀ : Heap} {L : Addr} {m : PySem.Str → Option Value} {s : Shared} {Q E : Value → Shared → Prop} {news : List (Addr × Obj)} (B : Below A₀ base outer h₀) (F : Fr h₀ L s.heap m) (X : (Mine.hd.heap_1_39 w.params).In h₀) (T : Top Mine.hd.view_1_40 lo mean mg mb h₀) (hk : cs.kind = .function) (hdp : dp + 5 < recursionLimit) (hun : un + 50 < cLine) (N : News h₀ L s.heap news) {TX : PySem.Str} {at_ : Nat} {u1 u2 : Tok} {y v : Nat} {r : List Nat} (hlen : TX.length ≤ 100000) (has : ∀ x ∈ tl TX, x < 128) (hR : (tl TX).drop (at_ + 1) = 92 :: y :: r)
  (hp : plainE y = some v)
  (ret : ∀ (t : Addr) (ee : Int) (yy : PySem.Str) (v1 v2 : Tok) (h' : Heap) (tk' : Nat), LitIs (lawLit (92 :: y :: r)) at_ ee yy → Fr h₀ L h' m → News h₀ L h' ((t, { cls := .type "tuple", data := .seq #[.int ee v1, .str yy v2] }) :: news) → (∀ p : Addr × Obj, p ∈ news → p.1 < t) → Q (.ref t) { s with heap := h', toks := tk' })
  : wpAny (model PySem.Challenge.rw_nn0359_01.row.prog w) (ktrTop dp un gd cn cs L a ccd cl outer) (call (.ref 343) [.str TX u1, .int (at_ : Int) u2]) Q E s := by
  have hlt := drop_cons_lt hR
  have hal : at_ + 2 ≤ TX.length := by rw [len_tl]; omega
  have S1 : Txt.slice TX (some ((at_ : Int) + 1)) (some ((at_ : Int) + 2)) = tx [92] := LL_S1 hR
  have e1 : (tx [92] == PySem.Str.ofString "") = false := one_ne_empty 92
  have e2 : (tx [92] == QT) = false := by decide +kernel
  have e3 : (tx [92] == BS) = true := by decide +kernel
  have hR2 := (drop_cons_get hR).2
  have S2 : Txt.slice TX (some ((at_ : Int) + 2)) none = tx (y :: r) := by rw [slc_sn (at_ + 2) (by omega), show at_ + 2 = at_ + 1 + 1 by omega, hR2]
  have S3 : Txt.slice (tx (y :: r)) none (some 1) = tx [y] := (slc_ns 1 rfl).trans (by rw [tl_tx]; rfl)
  have hy : y < 128 := has y (List.mem_of_mem_drop (i := at_ + 1) (by rw [hR]; exact .tail _ (.head _)))
  have e7 := cons_ne y r
  have S5 : Txt.item (tx (y :: r)) 0 = tx [y] := item_tx (n := 0) rfl
  have hR3 : (tl TX).drop (at_ + 3) = r := (drop_cons_get hR2).2
  have e6 : (tx [y] != PySem.Str.ofString "") = true := one_ne_empty' y
  have eI : (0 : Int) < ((tx (y :: r)).length : Int) := LL_eI
  have eL : (tx (y :: r)).length ≤ 100000 := LL_eL hR2 hlen
  have hbl : ¬ (92 = 39) := by decide
  have hx : y ≠ 120 := LL_n120 hp
  have ho : inS (PySem.Str.ofString "01234567") y = false := by
    rcases hq : inS (PySem.Str.ofString "01234567") y with _ | _
    · rfl
    · rw [plainE_oc hq] at hp; cases hp
  have e5 : (tx [y] == PySem.Str.ofString "x") = false := LL_xe hx
  have e8 := occ_f (wd := PySem.Str.ofString "01234567") (c := y) ho
  obtain ⟨hq1, hq2⟩ | ⟨hq1, e9, f0, f7, hitem⟩ := plain_find y hy
  · rw [hp] at hq1; cases hq1
  rw [hp] at hitem
  dsimp only [Option.getD] at hitem
  have f8 : (Txt.find NTR ⟨#[y]⟩ : Int) < (NTRT.length : Int) := by rw [show NTRT.length = 7 from by decide +kernel]; exact f7
  have fz : NTRT.length ≤ 100000 := by decide +kernel
  generalize hfi : (Txt.find NTR ⟨#[y]⟩ : Int) = fi at f0 f7 f8 hitem
  have hE : escR (y :: r) = (v, 1) := LL_Ep hp
  have S9 : Txt.slice TX (some ((at_ : Int) + 3)) (some ((at_ : Int) + 3 + 1)) = tx ((r).take 1) := LL_S9 (i := at_ + 3) hR3 rfl

  refine wpAny_call ?_
  k_dflt walk_at "mine enter"
  walk_at "mine steps"
  · have h1 := head_t (r := r) (by assumption)
    have hL : lawLit (92 :: y :: r) = some (v, 1 + 3) := LL_some hE h1 (by first | rfl | exact hDr)
    refine ret _ _ _ _ _ _ _ ?_ (by assumption) (by assumption) (by assumption); rw [hL]; exact ⟨by omega, by first | rfl | exact hitem⟩
  · have h1 := head_f (r := r) (by assumption)
    have hL : lawLit (92 :: y :: r) = none := LL_none hE h1 (by first | rfl | exact hDr)
    refine ret _ _ _ _ _ _ _ ?_ (by assumption) (by assumption) (by assumption); rw [hL]; exact ⟨rfl, by first | rfl | exact hitem⟩
set_option maxHeartbeats 2000000 in
theorem lit_any {w : World} {mean : ExcName → Option Value} {mg mb : PySem.Str → Option Value} {dp un : Nat} {gd : Option (List Code)} {cn : PySem.Str} {cs : Scope} {a : Addr} {ccd : Value} {cl : List (PySem.Str × Addr)} {outer : List Env} {A₀ : Around} {base h₀ : Heap} {L : Addr} {m : PySem.Str → Option Value} {s : Shared} {Q E : Value → Shared → Prop} {news : List (Addr × Obj)} (B : Below A₀ base outer h₀) (F : Fr h₀ L s.heap m) (X : (Mine.hd.heap_1_39 w.params).In h₀) (T : Top Mine.hd.view_1_40 lo mean mg mb h₀) (hk : cs.kind = .function) (hdp : dp + 5 < recursionLimit) (hun : un + 50 < cLine) (N : News h₀ L s.heap news) {TX : PySem.Str} {at_ : Nat} {u1 u2 : Tok} {y : Nat} {r : List Nat} (hlen : TX.length ≤ 100000) (has : ∀ x ∈ tl TX, x < 128) (hR : (tl TX).drop (at_ + 1) = 92 :: y :: r)
  (hp : plainE y = none) (ho : inS (PySem.Str.ofString "01234567") y = false) (hx : y ≠ 120)
  (ret : ∀ (t : Addr) (ee : Int) (yy : PySem.Str) (v1 v2 : Tok) (h' : Heap) (tk' : Nat), LitIs (lawLit (92 :: y :: r)) at_ ee yy → Fr h₀ L h' m → News h₀ L h' ((t, { cls := .type "tuple", data := .seq #[.int ee v1, .str yy v2] }) :: news) → (∀ p : Addr × Obj, p ∈ news → p.1 < t) → Q (.ref t) { s with heap := h', toks := tk' })
  : wpAny (model PySem.Challenge.rw_nn0359_01.row.prog w) (ktrTop dp un gd cn cs L a ccd cl outer) (call (.ref 343) [.str TX u1, .int (at_ : Int) u2]) Q E s := by
  have hlt := drop_cons_lt hR
  have hal : at_ + 2 ≤ TX.length := by rw [len_tl]; omega
  have S1 : Txt.slice TX (some ((at_ : Int) + 1)) (some ((at_ : Int) + 2)) = tx [92] := LL_S1 hR
  have e1 : (tx [92] == PySem.Str.ofString "") = false := one_ne_empty 92
  have e2 : (tx [92] == QT) = false := by decide +kernel
  have e3 : (tx [92] == BS) = true := by decide +kernel
  have hR2 := (drop_cons_get hR).2
  have S2 : Txt.slice TX (some ((at_ : Int) + 2)) none = tx (y :: r) := by rw [slc_sn (at_ + 2) (by omega), show at_ + 2 = at_ + 1 + 1 by omega, hR2]
  have S3 : Txt.slice (tx (y :: r)) none (some 1) = tx [y] := (slc_ns 1 rfl).trans (by rw [tl_tx]; rfl)
  have hy : y < 128 := has y (List.mem_of_mem_drop (i := at_ + 1) (by rw [hR]; exact .tail _ (.head _)))
  have e7 := cons_ne y r
  have S5 : Txt.item (tx (y :: r)) 0 = tx [y] := item_tx (n := 0) rfl
  have hR3 : (tl TX).drop (at_ + 3) = r := (drop_cons_get hR2).2
  have e6 : (tx [y] != PySem.Str.ofString "") = true := one_ne_empty' y
  have eI : (0 : Int) < ((tx (y :: r)).length : Int) := LL_eI
  have eL : (tx (y :: r)).length ≤ 100000 := LL_eL hR2 hlen
  have hbl : ¬ (92 = 39) := by decide
  obtain ⟨hq1, e9⟩ | ⟨hq1, hq2⟩ := plain_find y hy
  rotate_left
  · rw [hp] at hq1; cases hq1
  have e8 := occ_f (wd := PySem.Str.ofString "01234567") (c := y) ho
  have e5 : (tx [y] == PySem.Str.ofString "x") = false := LL_xe hx
  have hE : escR (y :: r) = (y, 1) := LL_Ey hp ho hx
  have S9 : Txt.slice TX (some ((at_ : Int) + 3)) (some ((at_ : Int) + 3 + 1)) = tx ((r).take 1) := LL_S9 (i := at_ + 3) hR3 rfl

  refine wpAny_call ?_
  k_dflt walk_at "mine enter"
  walk_at "mine steps"
  · have h1 := head_t (r := r) (by assumption)
    have hL : lawLit (92 :: y :: r) = some (y, 1 + 3) := LL_some hE h1 (by first | rfl | exact hDr)
    refine ret _ _ _ _ _ _ _ ?_ (by assumption) (by assumption) (by assumption); rw [hL]; exact ⟨by omega, by first | rfl | exact hitem⟩
  · have h1 := head_f (r := r) (by assumption)
    have hL : lawLit (92 :: y :: r) = none := LL_none hE h1 (by first | rfl | exact hDr)
    refine ret _ _ _ _ _ _ _ ?_ (by assumption) (by assumption) (by assumption); rw [hL]; exact ⟨rfl, by first | rfl | exact hitem⟩
set_option maxHeartbeats 2000000 in
theorem lit_xnil {w : World} {mean : ExcName → Option Value} {mg mb : PySem.Str → Option Value} {dp un : Nat} {gd : Option (List Code)} {cn : PySem.Str} {cs : Scope} {a : Addr} {ccd : Value} {cl : List (PySem.Str × Addr)} {outer : List Env} {A₀ : Around} {base h₀ : Heap} {L : Addr} {m : PySem.Str → Option Value} {s : Shared} {Q E : Value → Shared → Prop} {news : List (Addr × Obj)} (B : Below A₀ base outer h₀) (F : Fr h₀ L s.heap m) (X : (Mine.hd.heap_1_39 w.params).In h₀) (T : Top Mine.hd.view_1_40 lo mean mg mb h₀) (hk : cs.kind = .function) (hdp : dp + 5 < recursionLimit) (hun : un + 50 < cLine) (N : News h₀ L s.heap news) {TX : PySem.Str} {at_ : Nat} {u1 u2 : Tok} {y : Nat} (hlen : TX.length ≤ 100000) (has : ∀ x ∈ tl TX, x < 128) (hR : (tl TX).drop (at_ + 1) = 92 :: y :: [])
  (hx : y = 120)
  (ret : ∀ (t : Addr) (ee : Int) (yy : PySem.Str) (v1 v2 : Tok) (h' : Heap) (tk' : Nat), LitIs (lawLit (92 :: y :: [])) at_ ee yy → Fr h₀ L h' m → News h₀ L h' ((t, { cls := .type "tuple", data := .seq #[.int ee v1, .str yy v2] }) :: news) → (∀ p : Addr × Obj, p ∈ news → p.1 < t) → Q (.ref t) { s with heap := h', toks := tk' })
  : wpAny (model PySem.Challenge.rw_nn0359_01.row.prog w) (ktrTop dp un gd cn cs L a ccd cl outer) (call (.ref 343) [.str TX u1, .int (at_ : Int) u2]) Q E s := by
  have hlt := drop_cons_lt hR
  have hal : at_ + 2 ≤ TX.length := by rw [len_tl]; omega
  have S1 : Txt.slice TX (some ((at_ : Int) + 1)) (some ((at_ : Int) + 2)) = tx [92] := LL_S1 hR
  have e1 : (tx [92] == PySem.Str.ofString "") = false := one_ne_empty 92
  have e2 : (tx [92] == QT) = false := by decide +kernel
  have e3 : (tx [92] == BS) = true := by decide +kernel
  have hR2 := (drop_cons_get hR).2
  have S2 : Txt.slice TX (some ((at_ : Int) + 2)) none = tx (y :: []) := by rw [slc_sn (at_ + 2) (by omega), show at_ + 2 = at_ + 1 + 1 by omega, hR2]
  have S3 : Txt.slice (tx (y :: [])) none (some 1) = tx [y] := (slc_ns 1 rfl).trans (by rw [tl_tx]; rfl)
  have hy : y < 128 := has y (List.mem_of_mem_drop (i := at_ + 1) (by rw [hR]; exact .tail _ (.head _)))
  have e7 := cons_ne y []
  have S5 : Txt.item (tx (y :: [])) 0 = tx [y] := item_tx (n := 0) rfl
  have hR3 : (tl TX).drop (at_ + 3) = [] := (drop_cons_get hR2).2
  have e6 : (tx [y] != PySem.Str.ofString "") = true := one_ne_empty' y
  have eI : (0 : Int) < ((tx (y :: [])).length : Int) := by rw [tx_len, List.length_cons]; omega
  have eL : (tx (y :: [])).length ≤ 100000 := by rw [tx_len, ← hR2, List.length_drop]; rw [len_tl] at hlen; omega
  have hbl : ¬ (92 = 39) := by decide
  obtain ⟨hq1, e9⟩ | ⟨hq1, hq2⟩ := plain_find y hy
  rotate_left
  · rw [hx] at hq1; cases hq1
  have ho : inS (PySem.Str.ofString "01234567") y = false := by rw [hx]; decide +kernel
  have e8 := occ_f (wd := PySem.Str.ofString "01234567") (c := y) ho
  have e5 : (tx [y] == PySem.Str.ofString "x") = true := by rw [hx]; decide +kernel
  have S6 : Txt.slice (tx (y :: [])) (some 1) (some 2) = tx [] := (slc_ss 1 2 rfl rfl).trans (by rw [tl_tx]; rfl)
  have eA := ne_false nil_eq
  have hL : lawLit (92 :: y :: []) = none := by
    have hE : escR (y :: []) = (y, 1) := LL_En hx
    simp only [lawLit, if_neg hbl, if_true, hE]
    rfl
  have S9 : Txt.slice TX (some ((at_ : Int) + 3)) (some ((at_ : Int) + 3 + 1)) = tx (([]).take 1) := LL_S9 (i := at_ + 3) hR3 rfl
  have e4 : (tx (([] : List Nat).take 1) == QT) = false := nil_beq (y := 39) (by decide +kernel)

  refine wpAny_call ?_
  k_dflt walk_at "mine enter"
  walk_at "mine steps"
  refine ret _ _ _ _ _ _ _ ?_ (by assumption) (by assumption) (by assumption); rw [hL]; exact ⟨rfl, by first | rfl | exact hitem⟩
set_option maxHeartbeats 2000000 in
theorem lit_xno {w : World} {mean : ExcName → Option Value} {mg mb : PySem.Str → Option Value} {dp un : Nat} {gd : Option (List Code)} {cn : PySem.Str} {cs : Scope} {a : Addr} {ccd : Value} {cl : List (PySem.Str × Addr)} {outer : List Env} {A₀ : Around} {base h₀ : Heap} {L : Addr} {m : PySem.Str → Option Value} {s : Shared} {Q E : Value → Shared → Prop} {news : List (Addr × Obj)} (B : Below A₀ base outer h₀) (F : Fr h₀ L s.heap m) (X : (Mine.hd.heap_1_39 w.params).In h₀) (T : Top Mine.hd.view_1_40 lo mean mg mb h₀) (hk : cs.kind = .function) (hdp : dp + 5 < recursionLimit) (hun : un + 50 < cLine) (N : News h₀ L s.heap news) {TX : PySem.Str} {at_ : Nat} {u1 u2 : Tok} {y z : Nat} {r : List Nat} (hlen : TX.length ≤ 100000) (has : ∀ x ∈ tl TX, x < 128) (hR : (tl TX).drop (at_ + 1) = 92 :: y :: z :: r)
  (hx : y = 120) (hzh : isHx z = false)
  (ret : ∀ (t : Addr) (ee : Int) (yy : PySem.Str) (v1 v2 : Tok) (h' : Heap) (tk' : Nat), LitIs (lawLit (92 :: y :: z :: r)) at_ ee yy → Fr h₀ L h' m → News h₀ L h' ((t, { cls := .type "tuple", data := .seq #[.int ee v1, .str yy v2] }) :: news) → (∀ p : Addr × Obj, p ∈ news → p.1 < t) → Q (.ref t) { s with heap := h', toks := tk' })
  : wpAny (model PySem.Challenge.rw_nn0359_01.row.prog w) (ktrTop dp un gd cn cs L a ccd cl outer) (call (.ref 343) [.str TX u1, .int (at_ : Int) u2]) Q E s := by
  have hlt := drop_cons_lt hR
  have hal : at_ + 2 ≤ TX.length := by rw [len_tl]; omega
  have S1 : Txt.slice TX (some ((at_ : Int) + 1)) (some ((at_ : Int) + 2)) = tx [92] := LL_S1 hR
  have e1 : (tx [92] == PySem.Str.ofString "") = false := one_ne_empty 92
  have e2 : (tx [92] == QT) = false := by decide +kernel
  have e3 : (tx [92] == BS) = true := by decide +kernel
  have hR2 := (drop_cons_get hR).2
  have S2 : Txt.slice TX (some ((at_ : Int) + 2)) none = tx (y :: z :: r) := by rw [slc_sn (at_ + 2) (by omega), show at_ + 2 = at_ + 1 + 1 by omega, hR2]
  have S3 : Txt.slice (tx (y :: z :: r)) none (some 1) = tx [y] := (slc_ns 1 rfl).trans (by rw [tl_tx]; rfl)
  have hy : y < 128 := has y (List.mem_of_mem_drop (i := at_ + 1) (by rw [hR]; exact .tail _ (.head _)))
  have e7 := cons_ne y (z :: r)
  have S5 : Txt.item (tx (y :: z :: r)) 0 = tx [y] := item_tx (n := 0) rfl
  have hR3 : (tl TX).drop (at_ + 3) = z :: r := (drop_cons_get hR2).2
  have e6 : (tx [y] != PySem.Str.ofString "") = true := one_ne_empty' y
  have eI : (0 : Int) < ((tx (y :: z :: r)).length : Int) := by rw [tx_len, List.length_cons]; omega
  have eL : (tx (y :: z :: r)).length ≤ 100000 := by rw [tx_len, ← hR2, List.length_drop]; rw [len_tl] at hlen; omega
  have hbl : ¬ (92 = 39) := by decide
  obtain ⟨hq1, e9⟩ | ⟨hq1, hq2⟩ := plain_find y hy
  rotate_left
  · rw [hx] at hq1; cases hq1
  have ho : inS (PySem.Str.ofString "01234567") y = false := by rw [hx]; decide +kernel
  have e8 := occ_f (wd := PySem.Str.ofString "01234567") (c := y) ho
  have e5 : (tx [y] == PySem.Str.ofString "x") = true := by rw [hx]; decide +kernel
  have hz : z < 128 := has z (List.mem_of_mem_drop (i := at_ + 1) (by rw [hR]; exact .tail _ (.tail _ (.head _))))
  have S6 : Txt.slice (tx (y :: z :: r)) (some 1) (some 2) = tx [z] := (slc_ss 1 2 rfl rfl).trans (by rw [tl_tx]; rfl)
  have eA : (tx [z] != PySem.Str.ofString "") = true := one_ne_empty' z
  have eB : Txt.lower (tx [z]) = ⟨#[lw z]⟩ := low_one hz
  have eD := occ_f (wd := PySem.Str.ofString "0123456789abcdef") (c := lw z) (by rw [lw_hx z hz, hzh])
  generalize lw z = lz at eB eD
  have hE : escR (y :: z :: r) = (y, 1) := LL_E0 hx hzh
  have S9 : Txt.slice TX (some ((at_ : Int) + 3)) (some ((at_ : Int) + 3 + 1)) = tx ((z :: r).take 1) := LL_S9 (i := at_ + 3) hR3 rfl

  refine wpAny_call ?_
  k_dflt walk_at "mine enter"
  walk_at "mine steps"
  · have h1 := head_t (r := z :: r) (by assumption)
    have hL : lawLit (92 :: y :: z :: r) = some (y, 1 + 3) := LL_some hE h1 (by first | rfl | exact hDr)
    refine ret _ _ _ _ _ _ _ ?_ (by assumption) (by assumption) (by assumption); rw [hL]; exact ⟨by omega, by first | rfl | exact hitem⟩
  · have h1 := head_f (r := z :: r) (by assumption)
    have hL : lawLit (92 :: y :: z :: r) = none := LL_none hE h1 (by first | rfl | exact hDr)
    refine ret _ _ _ _ _ _ _ ?_ (by assumption) (by assumption) (by assumption); rw [hL]; exact ⟨rfl, by first | rfl | exact hitem⟩
set_option maxHeartbeats 2000000 in
theorem lit_oct {w : World} {mean : ExcName → Option Value} {mg mb : PySem.Str → Option Value} {dp un : Nat} {gd : Option (List Code)} {cn : PySem.Str} {cs : Scope} {a : Addr} {ccd : Value} {cl : List (PySem.Str × Addr)} {outer : List Env} {A₀ : Around} {base h₀ : Heap} {L : Addr} {m : PySem.Str → Option Value} {s : Shared} {Q E : Value → Shared → Prop} {news : List (Addr × Obj)} (B : Below A₀ base outer h₀) (F : Fr h₀ L s.heap m) (X : (Mine.hd.heap_1_39 w.params).In h₀) (T : Top Mine.hd.view_1_40 lo mean mg mb h₀) (hk : cs.kind = .function) (hdp : dp + 5 < recursionLimit) (hun : un + 50 < cLine) (N : News h₀ L s.heap news) {TX : PySem.Str} {at_ : Nat} {u1 u2 : Tok} {y : Nat} {r : List Nat} (hlen : TX.length ≤ 100000) (has : ∀ x ∈ tl TX, x < 128) (hR : (tl TX).drop (at_ + 1) = 92 :: y :: r)
  (ho : isOc y = true)
  (ret : ∀ (t : Addr) (ee : Int) (yy : PySem.Str) (v1 v2 : Tok) (h' : Heap) (tk' : Nat), LitIs (lawLit (92 :: y :: r)) at_ ee yy → Fr h₀ L h' m → News h₀ L h' ((t, { cls := .type "tuple", data := .seq #[.int ee v1, .str yy v2] }) :: news) → (∀ p : Addr × Obj, p ∈ news → p.1 < t) → Q (.ref t) { s with heap := h', toks := tk' })
  : wpAny (model PySem.Challenge.rw_nn0359_01.row.prog w) (ktrTop dp un gd cn cs L a ccd cl outer) (call (.ref 343) [.str TX u1, .int (at_ : Int) u2]) Q E s := by
  have hlt := drop_cons_lt hR
  have hal : at_ + 2 ≤ TX.length := by rw [len_tl]; omega
  have S1 : Txt.slice TX (some ((at_ : Int) + 1)) (some ((at_ : Int) + 2)) = tx [92] := LL_S1 hR
  have e1 : (tx [92] == PySem.Str.ofString "") = false := one_ne_empty 92
  have e2 : (tx [92] == QT) = false := by decide +kernel
  have e3 : (tx [92] == BS) = true := by decide +kernel
  have hR2 := (drop_cons_get hR).2
  have S2 : Txt.slice TX (some ((at_ : Int) + 2)) none = tx (y :: r) := by rw [slc_sn (at_ + 2) (by omega), show at_ + 2 = at_ + 1 + 1 by omega, hR2]
  have S3 : Txt.slice (tx (y :: r)) none (some 1) = tx [y] := (slc_ns 1 rfl).trans (by rw [tl_tx]; rfl)
  have hy : y < 128 := has y (List.mem_of_mem_drop (i := at_ + 1) (by rw [hR]; exact .tail _ (.head _)))
  have e7 := cons_ne y r
  have S5 : Txt.item (tx (y :: r)) 0 = tx [y] := item_tx (n := 0) rfl
  have hR3 : (tl TX).drop (at_ + 3) = r := (drop_cons_get hR2).2
  have e6 : (tx [y] != PySem.Str.ofString "") = true := one_ne_empty' y
  have eI : (0 : Int) < ((tx (y :: r)).length : Int) := LL_eI
  have eL : (tx (y :: r)).length ≤ 100000 := LL_eL hR2 hlen
  have hbl : ¬ (92 = 39) := by decide
  have hx : y ≠ 120 := LL_o120 ho
  have hp := plainE_oc ho
  have e8 := occ_t (wd := PySem.Str.ofString "01234567") (c := y) ho
  have S8 : Txt.slice (tx (y :: r)) none (some 3) = tx ((y :: r).take 3) := (slc_ns 3 rfl).trans (by rw [tl_tx])
  have hR2b : (tl TX).drop (at_ + 2) = y :: r := hR2
  have hoi : Hid (isOc y = true) := ⟨ho⟩
  clear ho
  have e5 : (tx [y] == PySem.Str.ofString "x") = false := LL_xe hx

  have hHL : (PySem.Str.ofString "0123456789abcdef").length ≤ 100000 := by decide +kernel
  have hcut : Txt.slice (PySem.Str.ofString "0123456789abcdef") none (some 8) = PySem.Str.ofString "01234567" := hexcut8
  have hFl : ((y :: r).take 3).length ≤ 3 := List.length_take_le _ _
  have hFg : ∀ x ∈ (y :: r).take 3, x < 128 := fun x hx => has x (List.mem_of_mem_drop (i := at_ + 2) (by rw [hR2b]; exact List.mem_of_mem_take hx))
  generalize hFe : (y :: r).take 3 = Fg at S8 hFl hFg
  (k_with "pyIter str" => (k_dflt (with_unfolding_all refine KStt.kst_text (σ := Nat × Nat × Tok × Tok) (fun _ => news) (fun q => [(PySem.Str.ofString "code", Value.int (q.1 : Int) q.2.2.1), (PySem.Str.ofString "end", Value.int ((at_ : Int) + 2 + (q.2.1 : Int)) q.2.2.2)]) (fun _ => True) [] (fun pre q => LInv OCS 8 Fg pre q.1 q.2.1) (0, 0, _, _) rfl (by assumption) (by assumption) trivial (by kst_all) LInv.start (fun q9 pre post n t9 u9 h9 tk9 own hcd9 hoff9 _ hp9 F9 N9 => ?_) (fun q9 u9 h9 tk9 _ hp9 F9 N9 => ?_)); (all_goals (obtain ⟨cv, k, ta, tb⟩ := q9; dsimp only at hp9 N9; (simp only [kstB, List.contains_nil, Bool.false_eq_true, if_false] at F9))); (rotate_left; ((have hck := LInv.done (R := y :: r) (most := 3) (by rw [hFe]; exact hp9)); (have hkl : k ≤ 3 := LInv.le hp9 hFl); (obtain ⟨hb1, hb2⟩ := lit_bd (wd := OCS) (Fg := Fg) (most := 3) hp9.bd hkl (by decide) (by decide)); (have S9 : Txt.slice TX (some ((at_ : Int) + 2 + (k : Int))) (some ((at_ : Int) + 2 + (k : Int) + 1)) = tx (((y :: r).drop k).take 1) := LL_S9 (i := at_ + 2 + k) (drop_add hR2b) rfl)); rotate_left; ((obtain ⟨hnm, hkl', -⟩ := hp9.at hcd9); (have hn9 := hFg n hnm); (have hkl : k ≤ 3 := by omega); (obtain ⟨hb1, hb2⟩ := lit_bd (wd := OCS) (Fg := Fg) (most := 3) hp9.bd hkl (by decide) (by decide)); (have eB := low_one hn9); (have S9 : Txt.slice TX (some ((at_ : Int) + 2 + (k : Int))) (some ((at_ : Int) + 2 + (k : Int) + 1)) = tx (((y :: r).drop k).take 1) := LL_S9 (i := at_ + 2 + k) (drop_add hR2b) rfl); (rcases hq9 : inS OCS n with _ | _); ((have hnd := occ_f (wd := PySem.Str.ofString "01234567") (c := lw n) (by rw [lw_oc n hn9]; exact hq9)); (have hck := LInv.brk (R := y :: r) (most := 3) (by rw [hFe]; exact hp9) (by rw [hFe]; exact hcd9) hq9); (generalize lw n = ln at eB hnd); (clear hq9)); rotate_left; ((have hnd := occ_t (wd := PySem.Str.ofString "01234567") (c := lw n) (by rw [lw_oc n hn9]; exact hq9)); (have hv9 : hexv n < 8 := hexv_oc hq9); (obtain ⟨eF, eO⟩ := lw_find n hn9 (oc_hx n hn9 hq9)); (have hvx : (hexv n : Int) ≤ 15 := by omega); (have hvy : (0 : Int) ≤ (hexv n : Int) := by omega); (generalize lw n = ln at eB hnd eF eO); (have hqi : Hid (inS OCS n = true) := ⟨hq9⟩); (clear hq9)); rotate_left)); (all_goals (try k_fold))))
  (k_with "InvEndN" => (k_dflt (refine kst_end (cv * 8 + hexv n, k + 1, _, _) (by assumption) (by assumption) (fun p hp => List.mem_append_left _ hp) (fun p hp => List.mem_append_right _ hp) rfl trivial (by kst_all) (by kst_same) (hp9.next hcd9 hqi.h hv9))))
  refine wpAny_call ?_
  k_dflt walk_at "mine enter"
  walk_at "mine steps"
  all_goals (
    have hE : escR (y :: r) = (cv, k + 0) := LL_Eo hp hoi.h hck
    have hDr : (y :: r).drop (k + 0) = (y :: r).drop k := rfl
    first
    | (have h1 := head_t (r := (y :: r).drop k) (by assumption)
       have hL : lawLit (92 :: y :: r) = some (cv, k + 0 + 3) := LL_some hE h1 (by first | rfl | exact hDr)
       refine ret _ _ _ _ _ _ _ ?_ (by assumption) (by first | assumption | exact news_cut (by assumption)) (by first | assumption | exact lt_cut (by assumption)); rw [hL]; exact ⟨by omega, rfl⟩)
    | (have h1 := head_f (r := (y :: r).drop k) (by assumption)
       have hL : lawLit (92 :: y :: r) = none := LL_none hE h1 (by first | rfl | exact hDr)
       refine ret _ _ _ _ _ _ _ ?_ (by assumption) (by first | assumption | exact news_cut (by assumption)) (by first | assumption | exact lt_cut (by assumption)); rw [hL]; exact ⟨rfl, rfl⟩))

set_option maxHeartbeats 2000000 in
theorem lit_hex {w : World} {mean : ExcName → Option Value} {mg mb : PySem.Str → Option Value} {dp un : Nat} {gd : Option (List Code)} {cn : PySem.Str} {cs : Scope} {a : Addr} {ccd : Value} {cl : List (PySem.Str × Addr)} {outer : List Env} {A₀ : Around} {base h₀ : Heap} {L : Addr} {m : PySem.Str → Option Value} {s : Shared} {Q E : Value → Shared → Prop} {news : List (Addr × Obj)} (B : Below A₀ base outer h₀) (F : Fr h₀ L s.heap m) (X : (Mine.hd.heap_1_39 w.params).In h₀) (T : Top Mine.hd.view_1_40 lo mean mg mb h₀) (hk : cs.kind = .function) (hdp : dp + 5 < recursionLimit) (hun : un + 50 < cLine) (N : News h₀ L s.heap news) {TX : PySem.Str} {at_ : Nat} {u1 u2 : Tok} {y z : Nat} {r : List Nat} (hlen : TX.length ≤ 100000) (has : ∀ x ∈ tl TX, x < 128) (hR : (tl TX).drop (at_ + 1) = 92 :: y :: z :: r)
  (hx : y = 120) (hzh : isHx z = true)
  (ret : ∀ (t : Addr) (ee : Int) (yy : PySem.Str) (v1 v2 : Tok) (h' : Heap) (tk' : Nat), LitIs (lawLit (92 :: y :: z :: r)) at_ ee yy → Fr h₀ L h' m → News h₀ L h' ((t, { cls := .type "tuple", data := .seq #[.int ee v1, .str yy v2] }) :: news) → (∀ p : Addr × Obj, p ∈ news → p.1 < t) → Q (.ref t) { s with heap := h', toks := tk' })
  : wpAny (model PySem.Challenge.rw_nn0359_01.row.prog w) (ktrTop dp un gd cn cs L a ccd cl outer) (call (.ref 343) [.str TX u1, .int (at_ : Int) u2]) Q E s := by
  have hlt := drop_cons_lt hR
  have hal : at_ + 2 ≤ TX.length := by rw [len_tl]; omega
  have S1 : Txt.slice TX (some ((at_ : Int) + 1)) (some ((at_ : Int) + 2)) = tx [92] := LL_S1 hR
  have e1 : (tx [92] == PySem.Str.ofString "") = false := one_ne_empty 92
  have e2 : (tx [92] == QT) = false := by decide +kernel
  have e3 : (tx [92] == BS) = true := by decide +kernel
  have hR2 := (drop_cons_get hR).2
  have S2 : Txt.slice TX (some ((at_ : Int) + 2)) none = tx (y :: z :: r) := by rw [slc_sn (at_ + 2) (by omega), show at_ + 2 = at_ + 1 + 1 by omega, hR2]
  have S3 : Txt.slice (tx (y :: z :: r)) none (some 1) = tx [y] := (slc_ns 1 rfl).trans (by rw [tl_tx]; rfl)
  have hy : y < 128 := has y (List.mem_of_mem_drop (i := at_ + 1) (by rw [hR]; exact .tail _ (.head _)))
  have e7 := cons_ne y (z :: r)
  have S5 : Txt.item (tx (y :: z :: r)) 0 = tx [y] := item_tx (n := 0) rfl
  have hR3 : (tl TX).drop (at_ + 3) = z :: r := (drop_cons_get hR2).2
  have e6 : (tx [y] != PySem.Str.ofString "") = true := one_ne_empty' y
  have eI : (0 : Int) < ((tx (y :: z :: r)).length : Int) := by rw [tx_len, List.length_cons]; omega
  have eL : (tx (y :: z :: r)).length ≤ 100000 := by rw [tx_len, ← hR2, List.length_drop]; rw [len_tl] at hlen; omega
  have hbl : ¬ (92 = 39) := by decide
  obtain ⟨hq1, e9⟩ | ⟨hq1, hq2⟩ := plain_find y hy
  rotate_left
  · rw [hx] at hq1; cases hq1
  have ho : inS (PySem.Str.ofString "01234567") y = false := by rw [hx]; decide +kernel
  have e8 := occ_f (wd := PySem.Str.ofString "01234567") (c := y) ho
  have e5 : (tx [y] == PySem.Str.ofString "x") = true := by rw [hx]; decide +kernel
  have hz : z < 128 := has z (List.mem_of_mem_drop (i := at_ + 1) (by rw [hR]; exact .tail _ (.tail _ (.head _))))
  have S6 : Txt.slice (tx (y :: z :: r)) (some 1) (some 2) = tx [z] := (slc_ss 1 2 rfl rfl).trans (by rw [tl_tx]; rfl)
  have eA : (tx [z] != PySem.Str.ofString "") = true := one_ne_empty' z
  have eB : Txt.lower (tx [z]) = ⟨#[lw z]⟩ := low_one hz
  have eD := occ_t (wd := PySem.Str.ofString "0123456789abcdef") (c := lw z) (by rw [lw_hx z hz, hzh])
  generalize lw z = lz at eB eD
  have hzi : Hid (isHx z = true) := ⟨hzh⟩
  clear hzh
  have S8 : Txt.slice (tx (y :: z :: r)) (some 1) (some 3) = tx ((z :: r).take 2) := (slc_ss 1 3 rfl rfl).trans (by rw [tl_tx]; rfl)

  have hHL : (PySem.Str.ofString "0123456789abcdef").length ≤ 100000 := by decide +kernel
  have hcut : Txt.slice (PySem.Str.ofString "0123456789abcdef") none (some 16) = PySem.Str.ofString "0123456789abcdef" := hexcut16
  have hFl : ((z :: r).take 2).length ≤ 2 := List.length_take_le _ _
  have hFg : ∀ x ∈ (z :: r).take 2, x < 128 := fun x hx => has x (List.mem_of_mem_drop (i := at_ + 3) (by rw [hR3]; exact List.mem_of_mem_take hx))
  generalize hFe : (z :: r).take 2 = Fg at S8 hFl hFg
  (k_with "pyIter str" => (k_dflt (with_unfolding_all refine KStt.kst_text (σ := Nat × Nat × Tok × Tok) (fun _ => news) (fun q => [(PySem.Str.ofString "code", Value.int (q.1 : Int) q.2.2.1), (PySem.Str.ofString "end", Value.int ((at_ : Int) + 3 + (q.2.1 : Int)) q.2.2.2)]) (fun _ => True) [] (fun pre q => LInv HXS 16 Fg pre q.1 q.2.1) (0, 0, _, _) rfl (by assumption) (by assumption) trivial (by kst_all) LInv.start (fun q9 pre post n t9 u9 h9 tk9 own hcd9 hoff9 _ hp9 F9 N9 => ?_) (fun q9 u9 h9 tk9 _ hp9 F9 N9 => ?_)); (all_goals (obtain ⟨cv, k, ta, tb⟩ := q9; dsimp only at hp9 N9; (simp only [kstB, List.contains_nil, Bool.false_eq_true, if_false] at F9))); (rotate_left; ((have hck := LInv.done (R := z :: r) (most := 2) (by rw [hFe]; exact hp9)); (have hkl : k ≤ 2 := LInv.le hp9 hFl); (obtain ⟨hb1, hb2⟩ := lit_bd (wd := HXS) (Fg := Fg) (most := 2) hp9.bd hkl (by decide) (by decide)); (have S9 : Txt.slice TX (some ((at_ : Int) + 3 + (k : Int))) (some ((at_ : Int) + 3 + (k : Int) + 1)) = tx (((z :: r).drop k).take 1) := LL_S9 (i := at_ + 3 + k) (drop_add hR3) rfl)); rotate_left; ((obtain ⟨hnm, hkl', -⟩ := hp9.at hcd9); (have hn9 := hFg n hnm); (have hkl : k ≤ 2 := by omega); (obtain ⟨hb1, hb2⟩ := lit_bd (wd := HXS) (Fg := Fg) (most := 2) hp9.bd hkl (by decide) (by decide)); (have eB := low_one hn9); (have S9 : Txt.slice TX (some ((at_ : Int) + 3 + (k : Int))) (some ((at_ : Int) + 3 + (k : Int) + 1)) = tx (((z :: r).drop k).take 1) := LL_S9 (i := at_ + 3 + k) (drop_add hR3) rfl); (rcases hq9 : inS HXS n with _ | _); ((have hnd := occ_f (wd := PySem.Str.ofString "0123456789abcdef") (c := lw n) (by rw [lw_hx n hn9]; exact hq9)); (have hck := LInv.brk (R := z :: r) (most := 2) (by rw [hFe]; exact hp9) (by rw [hFe]; exact hcd9) hq9); (generalize lw n = ln at eB hnd); (clear hq9)); rotate_left; ((have hnd := occ_t (wd := PySem.Str.ofString "0123456789abcdef") (c := lw n) (by rw [lw_hx n hn9]; exact hq9)); (have hv9 : hexv n < 16 := hexv_hx hq9); (obtain ⟨eF, eO⟩ := lw_find n hn9 (hq9)); (have hvx : (hexv n : Int) ≤ 15 := by omega); (have hvy : (0 : Int) ≤ (hexv n : Int) := by omega); (generalize lw n = ln at eB hnd eF eO); (have hqi : Hid (inS HXS n = true) := ⟨hq9⟩); (clear hq9)); rotate_left)); (all_goals (try k_fold))))
  (k_with "InvEndN" => (k_dflt (refine kst_end (cv * 16 + hexv n, k + 1, _, _) (by assumption) (by assumption) (fun p hp => List.mem_append_left _ hp) (fun p hp => List.mem_append_right _ hp) rfl trivial (by kst_all) (by kst_same) (hp9.next hcd9 hqi.h hv9))))
  refine wpAny_call ?_
  k_dflt walk_at "mine enter"
  walk_at "mine steps"
  all_goals (
    have hE : escR (y :: z :: r) = (cv, k + 1) := LL_E1 hx hzi.h hck
    have hDr : (y :: z :: r).drop (k + 1) = (z :: r).drop k := rfl
    first
    | (have h1 := head_t (r := (z :: r).drop k) (by assumption)
       have hL : lawLit (92 :: y :: z :: r) = some (cv, k + 1 + 3) := LL_some hE h1 (by first | rfl | exact hDr)
       refine ret _ _ _ _ _ _ _ ?_ (by assumption) (by first | assumption | exact news_cut (by assumption)) (by first | assumption | exact lt_cut (by assumption)); rw [hL]; exact ⟨by omega, rfl⟩)
    | (have h1 := head_f (r := (z :: r).drop k) (by assumption)
       have hL : lawLit (92 :: y :: z :: r) = none := LL_none hE h1 (by first | rfl | exact hDr)
       refine ret _ _ _ _ _ _ _ ?_ (by assumption) (by first | assumption | exact news_cut (by assumption)) (by first | assumption | exact lt_cut (by assumption)); rw [hL]; exact ⟨rfl, rfl⟩))

theorem lit_ok {w : World} {mean : ExcName → Option Value} {mg mb : PySem.Str → Option Value} {dp un : Nat} {gd : Option (List Code)} {cn : PySem.Str} {cs : Scope} {a : Addr} {ccd : Value} {cl : List (PySem.Str × Addr)} {outer : List Env} {A₀ : Around} {base h₀ : Heap} {L : Addr} {m : PySem.Str → Option Value} {s : Shared} {Q E : Value → Shared → Prop} {news : List (Addr × Obj)} (B : Below A₀ base outer h₀) (F : Fr h₀ L s.heap m) (X : (Mine.hd.heap_1_39 w.params).In h₀) (T : Top Mine.hd.view_1_40 lo mean mg mb h₀) (hk : cs.kind = .function) (hdp : dp + 5 < recursionLimit) (hun : un + 50 < cLine) (N : News h₀ L s.heap news) {TX : PySem.Str} {at_ : Nat} {u1 u2 : Tok} {R : List Nat} (hlen : TX.length ≤ 100000) (has : ∀ x ∈ tl TX, x < 128) (hR : (tl TX).drop (at_ + 1) = R)
  (ret : ∀ (t : Addr) (ee : Int) (yy : PySem.Str) (v1 v2 : Tok) (h' : Heap) (tk' : Nat), LitIs (lawLit (R)) at_ ee yy → Fr h₀ L h' m → News h₀ L h' ((t, { cls := .type "tuple", data := .seq #[.int ee v1, .str yy v2] }) :: news) → (∀ p : Addr × Obj, p ∈ news → p.1 < t) → Q (.ref t) { s with heap := h', toks := tk' })
  : wpAny (model PySem.Challenge.rw_nn0359_01.row.prog w) (ktrTop dp un gd cn cs L a ccd cl outer) (call (.ref 343) [.str TX u1, .int (at_ : Int) u2]) Q E s := by
  rcases R with _ | ⟨c, r⟩
  · exact lit_nil B F X T hk hdp hun N hlen has hR ret
  by_cases hc : c = 39
  · subst hc; exact lit_quo B F X T hk hdp hun N hlen has hR ret
  by_cases hb : c = 92
  · subst hb
    rcases r with _ | ⟨y, r⟩
    · exact lit_bs B F X T hk hdp hun N hlen has hR ret
    rcases hp : plainE y with _ | v
    · rcases ho : isOc y with _ | _
      · by_cases hx : y = 120
        · rcases r with _ | ⟨z, r⟩
          · exact lit_xnil B F X T hk hdp hun N hlen has hR hx ret
          · rcases hz : isHx z with _ | _
            · exact lit_xno B F X T hk hdp hun N hlen has hR hx hz ret
            · exact lit_hex B F X T hk hdp hun N hlen has hR hx hz ret
        · exact lit_any B F X T hk hdp hun N hlen has hR hp ho hx ret
      · exact lit_oct B F X T hk hdp hun N hlen has hR ho ret
    · exact lit_plain B F X T hk hdp hun N hlen has hR hp ret
  · exact lit_other B F X T hk hdp hun N hlen has hR hc hb ret
end Mine
theorem Mine.kw_Lit_1 : True := by
  k_with "call ref" => (k_dflt (show wpAny _ _ (call (Value.ref 343) [_, _]) _ _ _); k_dflt (refine' lit_ok ?zzB ?zzF ?zzX ?zzT ?zzk ?zzp ?zzu ?zzN ?zzhlen ?zzhas ?zzhR ?_; walk_at "mine tail"; (case zzhlen => assumption); (case zzhas => assumption); (case zzhR => assumption)); (intro t7 e7 y7 v7 w7 h7 tk7 L7 F7 N7 l7))
  trivial
end
section
theorem Mine.wr_Written : True := by
  k_with_none
  k_with "call ref" => k_extra "call ref last"
  k_with "om" => with_reducible first | assumption | exact Nat.add_sub_cancel_left _ _ | exact Int.ofNat_lt.mpr (by assumption) | exact Int.ofNat_le.mpr (by assumption) | exact Int.ofNat_lt.mp (by assumption) | exact Int.ofNat_le.mp (by assumption) | exact o_lt (by assumption) | exact o_nlt (by assumption) | exact o_63 (by assumption) (by assumption) (by with_unfolding_all exact rfl) | exact o_s2 (by assumption) | exact o_s1 (by assumption) (by assumption) | exact o_s3 (by assumption) (by assumption) | exact o_mt (by assumption) | exact o_f1 (by assumption) | exact Nat.le_of_lt (by assumption) | exact Nat.not_le.mp (by assumption) | exact o_sub (by assumption) | exact o_big1 (by assumption) (by with_unfolding_all exact rfl) | exact Nat.le_trans (Nat.le_add_right _ _) (by assumption) | exact Int.natCast_nonneg _ | exact Nat.le_trans (by assumption) (by assumption) | exact o_big (by assumption) (by assumption) (by with_unfolding_all exact rfl) | exact o_ltM (by assumption) (by assumption) | exact o_tr (by assumption) (by assumption) (by assumption) | exact Nat.lt_of_lt_of_le (by assumption) (by assumption) | exact Nat.lt_of_le_of_lt (by assumption) (by assumption) | exact Nat.ne_of_lt (by assumption) | exact Nat.ne_of_gt (by assumption) | exact o_mm (by assumption) | exact o_mm2 (by assumption) (by assumption) | exact o_mn | exact o_ml (by assumption) (by assumption) | exact o_and (by assumption) | rfl
  k_with "kst" => k_extra "mine kst"
  k_with "kst" => k_extra "mine same3"
  k_with "ksw" => k_extra "mine ksw"
  k_with "ksw" => k_extra "mine same"
  k_with "mine enter" => (refine' code_def ?k1q69 ?k2q69 ?k3q69 ?k4q69 ?k5q69 ?kAq69 ?kFq69 ?kKq69 ?k6q69 ?k7q69 ?k8q69 ?k9q69 ?kBq69 ?_ ?c2q69 ?c3q69 ?c4q69 ?c5q69; (case kAq69 => exact rfl); (case kFq69 => exact rfl); (case kKq69 => first | exact rfl | assumption); (case k1q69 => k_asm); (case k2q69 => k_asm); (case k3q69 => k_asm); (case k4q69 => k_asm); (case k5q69 => k_asm); (case k6q69 => k_is); (case k7q69 => k_is); (case k8q69 => first | (refine' rm0 ?rhq69; (case rhq69 => assumption)) | (refine' rm1 ?rhq69 ?rlq69; (case rhq69 => assumption); (case rlq69 => exact rfl)) | (refine' rm2 ?rhq69 ?rlq69; (case rhq69 => assumption); (case rlq69 => exact rfl)) | ktr_room); (case k9q69 => first | exact BindsTo.of_eq rfl | exact binds_K (by k_in) rfl (by k_is) rfl rfl rfl); (case c5q69 => decide); (case kBq69 => exact locs rfl); (case c2q69 => exact rfl); (case c3q69 => exact rfl); (case c4q69 => exact rfl); k_whole; intro g' L' h' FG'; (refine (?_ : let mk := _; Fr _ _ _ mk → _)); intro mk F' N' B' X' T'; (refine (?_ : let nk := _; let ak := _; let qk := _; let ek := _; let sk := _; wpAny _ ak (execs _ nk) qk ek sk)); intro nk ak qk ek sk)
  k_with "subscriptTail Name Attribute str int" => ((with_reducible show wpAny _ _ (subscriptTail _ _ (Value.str _ _) (Value.int _ _)) _ _ _); refine item_str (fitsSsize_of (N := 9223372036854775808) (by omega) (by omega) (Int.le_refl _)) (by omega) (by omega) ?_; intro _)
  k_with "mine inline" => (k_dflt (first | (refine' call_cls ?k1q71 ?k2q71 ?k3q71 ?k4q71 ?k5q71 ?k6q71 ?_; (case k1q71 => k_asm); (case k2q71 => k_asm); (case k3q71 => k_asm); (case k4q71 => k_is); (case k5q71 => k_is); (case k6q71 => k_is); k_whole; intro x' d' h' F' N' l1 l2; (try k_lt l1); (try k_lt2 l2); (try k_sweep); walk_at "mine enter") | (refine wpAny_call ?_; walk_at "mine enter")))
  k_with "ite" => first | with_reducible refine ite_tt ?_ | with_reducible refine ite_ff ?_
  k_with "mine room" => first | (refine' rm2 ?rhq73 ?rlq73; (case rhq73 => assumption); (case rlq73 => exact rfl)) | decide +kernel | omega | (simp only [depth_deeper, units_deeper]; omega) | (dsimp only [ktrTop]; omega) | (dsimp only [Around.deeper, ktrTop]; omega) | ktr_room | ktr_units
  k_with "mine tail" => ((case zzB => k_asm); (case zzF => k_asm); (case zzX => k_asm); (case zzT => k_asm); (case zzN => k_asm); (case zzk => first | exact rfl | assumption); (case zzp => walk_at "mine room"); (case zzu => walk_at "mine room"))
  k_with "isTrue Compare" => (k_here; first | ((with_reducible show wpAny _ _ (isTrue (PySem.Expr.Compare (PySem.Expr.Name _ _) [PySem.CmpOp.Eq] [PySem.Expr.Constant (PySem.Const.str _) _ _] _) _ _) _ _ _); k_dflt (refine' tst_eq ?zaq75 ?zbq75 ?zcq75 ?zmq75 ?zFq75 ?zvq75 ?_; (case zFq75 => k_asm); (case zaq75 => rfl); (case zbq75 => rfl); (case zcq75 => decide); (case zvq75 => rfl); (case zmq75 => with_unfolding_all rfl); k_whole)) | ((with_reducible show wpAny _ _ (isTrue (PySem.Expr.Compare (PySem.Expr.Name _ _) [PySem.CmpOp.NotEq] [PySem.Expr.Constant (PySem.Const.str _) _ _] _) _ _) _ _ _); k_dflt (refine' tst_ne ?zaq75 ?zbq75 ?zcq75 ?zmq75 ?zFq75 ?zvq75 ?_; (case zFq75 => k_asm); (case zaq75 => rfl); (case zbq75 => rfl); (case zcq75 => decide); (case zvq75 => rfl); (case zmq75 => with_unfolding_all rfl); k_whole)))
  k_with "eval BinOp" => (k_here; (with_reducible show wpAny _ _ (eval (PySem.Expr.BinOp (PySem.Expr.Name _ _) PySem.Operator.Add (PySem.Expr.Constant (PySem.Const.int _) _ _) _) _) _ _ _); k_dflt (refine' add_nc ?zaq76 ?zbq76 ?zcq76 ?zFq76 ?zvq76 ?_; (case zFq76 => k_asm); (case zaq76 => rfl); (case zbq76 => rfl); (case zcq76 => decide); (case zvq76 => rfl); k_whole))
  k_with "mine steps" => repeat' (first | ((first | (fail_if_success (fail_if_success k_unfold)) | (fail_if_success (fail_if_success k_fold))); (refine (?_ : let qk := _; let sk := _; wpAny _ _ _ qk _ sk)); intro qk sk) | ((fail_if_success (fail_if_success k_unfold)); (refine (?_ : let sk := _; LeaveK _ _ _ _ _ _ sk)); intro sk) | (k_unfold; (try dsimp only)) | walk1 | (k_end; wrow_close) | (dsimp only [List.nil_append, List.cons_append]; walk1) | (leave1; (try dsimp only)) | fail "no step")
  k_with "execs cons" => (with_reducible refine wpAny_execs_cons ?_)
  k_with "eval Name" => (k_dflt (refine' nmL ?zaq79 ?zbq79 ?zdq79 ?zFq79 ?zvq79 ?_; (case zFq79 => k_asm); (case zaq79 => rfl); (case zbq79 => rfl); (case zvq79 => rfl); (case zdq79 => decide); k_whole))
  k_with "storeName" => (k_dflt (refine' stL ?zaq80 ?zbq80 ?zFq80 ?zNq80 ?_; (case zFq80 => k_asm); (case zNq80 => k_asm); (case zaq80 => rfl); (case zbq80 => rfl); k_whole; intro h' mk F' N'; (try k_sweep)))
  k_with "LeaveK" => (k_dflt (refine' leaveK_ ?k1q81 ?k2q81 ?_; (case k1q81 => k_asm); (case k2q81 => k_asm); k_whole); intro kF kN; (try dsimp only [InitBack]); (try refine ⟨rfl, ?_⟩))
  k_with "mine kst" => (intro z h1 h2 h3; (try dsimp +zetaDelta only [kstB]); (try simp only [List.forall_mem_cons, List.not_mem_nil, false_implies, implies_true, and_true, ne_eq] at h2); first | rfl | (simp [h1]; done) | (simp [h1, h2]; done) | ((try simp only [List.contains_cons, List.contains_nil, Bool.or_false, Bool.or_eq_false_iff, beq_eq_false_iff_ne, ne_eq] at h3); first | (simp [h1, h3]; done) | (simp [h1, h2, h3]; done)))
  k_with "mine same3" => (k_dflt (refine sn_end3 ?_; (repeat (first | (with_reducible exact sn_refl) | (refine' sn_in ?_ ?hpq83 ?hsq83; (case hpq83 => exact rfl); (case hsq83 => exact rfl)) | (refine' sn_upd ?_ ?hxq83; (case hxq83 => exact rfl)))); done))
  k_with "mine ksw" => (intro z h2 h3; (try dsimp +zetaDelta only [kstB]); (try simp only [List.forall_mem_cons, List.not_mem_nil, false_implies, implies_true, and_true, ne_eq] at h2); (try simp only [List.contains_cons, List.contains_nil, Bool.or_false, Bool.or_eq_false_iff, beq_eq_false_iff_ne, ne_eq] at h3); first | rfl | (simp [h2]; done) | (simp [h3]; done) | (simp [h2, h3]; done))
  k_with "mine same" => (k_dflt (refine sn_end ?_; (repeat (first | (with_reducible exact sn_refl) | (refine' sn_in ?_ ?hpq85 ?hsq85; (case hpq85 => exact rfl); (case hsq85 => exact rfl)) | (refine' sn_upd ?_ ?hxq85; (case hxq85 => exact rfl)))); done))
  w_top off
  trivial
theorem Mine.kw_mWritten_1 : True := by
  k_with "call type:int" => ((with_reducible show wpAny _ _ (call (Value.type "int") [Value.str _ _, Value.int _ _]) _ _ _); refine call_int16 (by first | assumption | exact isHx_mem (by assumption) | exact isOc_isHx (by assumption)) ?_)
  k_with "call ref" => (k_dflt (show wpAny _ _ (call (Value.ref 233) [_]) _ _ _); k_dflt (refine' hex_escape_ok ?zzB ?zzF ?zzX ?zzT ?zzk ?zzp ?zzu ?zzN ?zzhx ?_; walk_at "mine tail"; (case zzhx => omega)); intro _ h' tk' F' N')
  k_with "call ref" => (k_dflt (show wpAny _ _ (call (Value.ref 240) [_, _]) _ _ _); k_dflt (refine' escaped_sign_ok ?zzB ?zzF ?zzX ?zzT ?zzk ?zzp ?zzu ?zzN ?zzhx ?_; walk_at "mine tail"; (case zzhx => omega)); intro _ h' tk' F' N')
  k_with "subscriptTail Name Slice str ref" => ((with_reducible show wpAny _ _ (subscriptTail _ (Expr.Slice (some _) (some _) none _) _ _) _ _ _); (with_reducible rename Fr _ _ _ _ => F'); (with_reducible rename News _ _ _ _ => N'); (refine' cut_ss (s := ⟨_, _, _, _, _⟩) F' N' ?cutEq89 ?cutZq89 ?_); (case cutEq89 => with_reducible assumption); (case cutZq89 => with_reducible assumption); intro _ _ _ _ _)
  k_with "subscriptTail Name Slice str ref" => ((with_reducible show wpAny _ _ (subscriptTail _ (Expr.Slice (some _) none none _) _ _) _ _ _); (with_reducible rename Fr _ _ _ _ => F'); (with_reducible rename News _ _ _ _ => N'); (refine' cut_sn (s := ⟨_, _, _, _, _⟩) F' N' ?cutEq90 ?cutZq90 ?_); (case cutEq90 => with_reducible assumption); (case cutZq90 => with_reducible assumption); intro _ _ _ _ _)
  k_with "subscriptTail Name Slice str ref" => ((with_reducible show wpAny _ _ (subscriptTail _ (Expr.Slice none (some _) none _) _ _) _ _ _); (with_reducible rename Fr _ _ _ _ => F'); (with_reducible rename News _ _ _ _ => N'); (refine' cut_ns (s := ⟨_, _, _, _, _⟩) F' N' ?cutEq91 ?cutZq91 ?_); (case cutEq91 => with_reducible assumption); (case cutZq91 => with_reducible assumption); intro _ _ _ _ _)
  k_with "subscriptTail Name Constant str int" => ((refine' item_fact ?cutEq92 (by omega) ?cutLq92 ?cutZq92 ?_); (case cutEq92 => with_reducible assumption); (case cutLq92 => with_reducible assumption); (case cutZq92 => with_reducible assumption); intro _ _)
  k_with "subscriptTail Name Name str int" => ((refine' item_fact ?cutEq93 (by omega) ?cutLq93 ?cutZq93 ?_); (case cutEq93 => with_reducible assumption); (case cutLq93 => with_reducible assumption); (case cutZq93 => with_reducible assumption); intro _ _)
  k_with "subscriptTail Name Call str int" => ((refine' item_fact ?cutEq94 (by omega) ?cutLq94 ?cutZq94 ?_); (case cutEq94 => with_reducible assumption); (case cutLq94 => with_reducible assumption); (case cutZq94 => with_reducible assumption); intro _ _)
  k_with "compareOp In str str" => refine in_str ?_
  k_with "compareOp NotIn str str" => refine notIn_str ?_
  k_with "call builtin:str.lower" => ((refine' lower_fact ?cutEq97 ?cutZq97 ?_); (case cutEq97 => with_reducible assumption); (case cutZq97 => first | with_reducible assumption | exact Nat.le_of_ble_eq_true rfl); intro _ _)
  k_with "call builtin:str.index" => ((refine' index_fact ?cutEq98 ?cutOq98 ?_); (case cutEq98 => with_reducible assumption); (case cutOq98 => with_reducible assumption); intro _ _)
  trivial
namespace Mine
open PySem.Builtin PySem.Builtin.Str
set_option maxRecDepth 100000 in
theorem hex_text2 : ∀ x, x < 256 → PySem.Str.ofString "'\\x" ++ Txt.item (PySem.Str.ofString "0123456789abcdef") (((x : Nat) : Int).fdiv 16) ++ Txt.item (PySem.Str.ofString "0123456789abcdef") (((x : Nat) : Int).fmod 16) ++ PySem.Str.ofString "'" = tx (39 :: [92, 120, hexd (x / 16), hexd (x % 16)] ++ [39]) := by decide +kernel
theorem quo_one (x : Nat) : PySem.Str.ofString "'" ++ (⟨#[x]⟩ : PySem.Str) ++ PySem.Str.ofString "'" = tx (39 :: [x] ++ [39]) := by
  rw [show PySem.Str.ofString "'" = (⟨#[39]⟩ : PySem.Str) from by decide +kernel]; rfl
theorem bsq_one (x : Nat) : PySem.Str.ofString "'\\" ++ (⟨#[x]⟩ : PySem.Str) ++ PySem.Str.ofString "'" = tx (39 :: [92, x] ++ [39]) := by
  rw [show PySem.Str.ofString "'" = (⟨#[39]⟩ : PySem.Str) from by decide +kernel, show PySem.Str.ofString "'\\" = (⟨#[39, 92]⟩ : PySem.Str) from by decide +kernel]; rfl
set_option maxHeartbeats 4000000 in
theorem written_ok {w : World} {mean : ExcName → Option Value} {mg mb : PySem.Str → Option Value} {dp un : Nat} {gd : Option (List Code)} {cn : PySem.Str} {cs : Scope} {a : Addr} {ccd : Value} {cl : List (PySem.Str × Addr)} {outer : List Env} {A₀ : Around} {base h₀ : Heap} {L : Addr} {m : PySem.Str → Option Value} {s : Shared} {Q E : Value → Shared → Prop} {news : List (Addr × Obj)} (B : Below A₀ base outer h₀) (F : Fr h₀ L s.heap m) (X : (Mine.hd.heap_1_39 w.params).In h₀) (T : Top Mine.hd.view_1_40 lo mean mg mb h₀) (hk : cs.kind = .function) (hdp : dp + 5 < recursionLimit) (hun : un + 50 < cLine) (N : News h₀ L s.heap news) {x : Nat} {u1 : Tok} (hx : x < 512)
  (ret : ∀ (t : Tok) (h' : Heap) (tk' : Nat), Fr h₀ L h' m → News h₀ L h' news → Q (.str (tx (39 :: escS x ++ [39])) t) { s with heap := h', toks := tk' })
  : wpAny (model PySem.Challenge.rw_nn0359_01.row.prog w) (ktrTop dp un gd cn cs L a ccd cl outer) (call (.ref 350) [.str ⟨#[x]⟩ u1]) Q E s := by
  have hz1 : (PySem.Str.ofString "nt").length ≤ 100000 := by decide +kernel
  (k_with "truthy bool" => ((with_reducible show wpAny _ _ (truthy (Value.bool (_ == PySem.Str.ofString "\n"))) _ _ _); (fail_if_success (have := e1)); (refine (?_ : let gk := _; gk)); (intro gk); (by_cases h1 : x = 10); (have e1 := (one_lit (z := "\n") (y := 10) (by decide +kernel) x).trans (decide_eq_true h1)); (have eI : (Txt.find (PySem.Str.ofString "\n\t") ⟨#[x]⟩ : Int) = 0 := by rw [h1]; decide +kernel); (have eO : (occurrences (PySem.Str.ofString "\n\t") ⟨#[x]⟩ 0 (PySem.Str.ofString "\n\t").length 1).isEmpty = false := by rw [h1]; decide +kernel); (have eT : Txt.item (PySem.Str.ofString "nt") 0 = ⟨#[110]⟩ := by decide +kernel); (have eL : (0 : Int) < ((PySem.Str.ofString "nt").length : Int) := by decide +kernel); rotate_left; (have e1 := (one_lit (z := "\n") (y := 10) (by decide +kernel) x).trans (decide_eq_false h1)); rotate_left; (all_goals ((refine (?_ : gk)); k_unfold))))
  (k_with "truthy bool" => ((with_reducible show wpAny _ _ (truthy (Value.bool (_ == PySem.Str.ofString "\t"))) _ _ _); (fail_if_success (have := e2)); (refine (?_ : let gk := _; gk)); (intro gk); (by_cases h2 : x = 9); (have e2 := (one_lit (z := "\t") (y := 9) (by decide +kernel) x).trans (decide_eq_true h2)); (have eI : (Txt.find (PySem.Str.ofString "\n\t") ⟨#[x]⟩ : Int) = 1 := by rw [h2]; decide +kernel); (have eO : (occurrences (PySem.Str.ofString "\n\t") ⟨#[x]⟩ 0 (PySem.Str.ofString "\n\t").length 1).isEmpty = false := by rw [h2]; decide +kernel); (have eT : Txt.item (PySem.Str.ofString "nt") 1 = ⟨#[116]⟩ := by decide +kernel); (have eL : (1 : Int) < ((PySem.Str.ofString "nt").length : Int) := by decide +kernel); rotate_left; (have e2 := (one_lit (z := "\t") (y := 9) (by decide +kernel) x).trans (decide_eq_false h2)); rotate_left; (all_goals ((refine (?_ : gk)); k_unfold))))
  (k_with "truthy bool" => ((with_reducible show wpAny _ _ (truthy (Value.bool (_ == PySem.Str.ofString "'"))) _ _ _); (fail_if_success (have := e3)); (refine (?_ : let gk := _; gk)); (intro gk); (by_cases h3 : x = 39); (have e3 := (one_lit (z := "'") (y := 39) (by decide +kernel) x).trans (decide_eq_true h3)); rotate_left; (have e3 := (one_lit (z := "'") (y := 39) (by decide +kernel) x).trans (decide_eq_false h3)); rotate_left; (all_goals ((refine (?_ : gk)); k_unfold))))
  (k_with "truthy bool" => ((with_reducible show wpAny _ _ (truthy (Value.bool (_ == PySem.Str.ofString "\\"))) _ _ _); (fail_if_success (have := e4)); (refine (?_ : let gk := _; gk)); (intro gk); (by_cases h4 : x = 92); (have e4 := (one_lit (z := "\\") (y := 92) (by decide +kernel) x).trans (decide_eq_true h4)); rotate_left; (have e4 := (one_lit (z := "\\") (y := 92) (by decide +kernel) x).trans (decide_eq_false h4)); rotate_left; (all_goals ((refine (?_ : gk)); k_unfold))))
  refine wpAny_call ?_
  k_dflt walk_at "mine enter"
  walk_at "mine steps"
  all_goals first
    | (rw [eT, bsq_one, show [92, 110] = escS x from by rw [h1]; decide +kernel]; exact ret _ _ _ (by assumption) (by assumption))
    | (rw [eT, bsq_one, show [92, 116] = escS x from by rw [h2]; decide +kernel]; exact ret _ _ _ (by assumption) (by assumption))
    | (rw [bsq_one, show [92, x] = escS x from by rw [h3]; decide +kernel]; exact ret _ _ _ (by assumption) (by assumption))
    | (rw [bsq_one, show [92, x] = escS x from by rw [h4]; decide +kernel]; exact ret _ _ _ (by assumption) (by assumption))
    | (rw [hex_text2 x (by omega), ← escS_hex h1 h2 h3 h4 (by omega)]; exact ret _ _ _ (by assumption) (by assumption))
    | (rw [quo_one, ← escS_self h1 h2 h3 h4 (by omega)]; exact ret _ _ _ (by assumption) (by assumption))
end Mine
theorem Mine.kw_Written_1 : True := by
  k_with "call ref" => (k_dflt (show wpAny _ _ (call (Value.ref 350) [_]) _ _ _); k_dflt (refine' written_ok ?zzB ?zzF ?zzX ?zzT ?zzk ?zzp ?zzu ?zzN ?zzhx ?_; walk_at "mine tail"; (case zzhx => omega)); intro _ h' tk' F' N')
  trivial
end
section
set_option maxRecDepth 100000
namespace Mine
open PySem.Builtin PySem.Builtin.Str
noncomputable def datP (p : Pc) : Dat := .tuple [.int (p.1 : Int), .str (tx p.2.1), .str (tx p.2.2)]
noncomputable abbrev tup3 (n : Int) (k w : PySem.Str) (t1 t2 t3 : Tok) (e : Nat) : Obj := { cls := .type "tuple", data := .seq #[.int n t1, .str k t2, .str w t3] e }
/-- what stays true at each turn of _law_pieces -/
structure PcInv (T : List Nat) (fl : Addr) (ts : List (Addr × Obj)) (vs : List Value) (done : List Pc) (n : Nat) : Prop where
  le : n ≤ T.length
  dat : DatAll ts vs (done.map datP)
  go : piecesOf T 0 = done ++ piecesOf (T.drop n) n
  lt : ∀ p ∈ ts, @LT.lt Nat _ fl p.1
  ln : vs.length ≤ n
theorem PcInv.start {T : List Nat} {fl : Addr} : PcInv T fl [] [] [] 0 := ⟨Nat.zero_le _, .nil, rfl, (fun _ h => nomatch h), Nat.le_refl _⟩
theorem PcInv.skip {T : List Nat} {fl : Addr} {ts : List (Addr × Obj)} {vs : List Value} {done : List Pc} {n c : Nat} {r : List Nat} (h : PcInv T fl ts vs done n) (hR : T.drop n = c :: r) (hb : isBl c = true) : PcInv T fl ts vs done (n + 1) := by
  have hr := (drop_cons_get hR).2
  refine ⟨drop_cons_lt hR, h.dat, ?_, h.lt, by have := h.ln; omega⟩
  rw [hr, h.go, hR, pieces_bl1 r n hb]
theorem PcInv.next {T : List Nat} {fl t : Addr} {ts : List (Addr × Obj)} {vs : List Value} {done : List Pc} {n c len e : Nat} {r k : List Nat} {k' w' : PySem.Str} {t1 t2 t3 : Tok} (h : PcInv T fl ts vs done n) (hR : T.drop n = c :: r) (hb : isBl c = false)
    (hk : pieceK (c :: r) = (len, k)) (hle : n + len ≤ T.length) (hk' : k' = tx k) (hw' : w' = tx ((c :: r).take len)) (ht : @LT.lt Nat _ fl t) : PcInv T fl ((t, tup3 (n : Int) k' w' t1 t2 t3 e) :: ts) (vs ++ [.ref t]) (done ++ [(n, k, (c :: r).take len)]) (n + len) := by
  have hp := pieceK_pos (c :: r)
  rw [hk] at hp
  refine ⟨hle, ?_, ?_, fun p hp => ?_, by have := h.ln; simp only [List.length_append, List.length_singleton]; dsimp only at hp; omega⟩
  · rw [List.map_append]
    refine DatAll.append (DatAll.mono (fun p hp => .tail _ hp) h.dat) (DatAll.one ?_)
    subst hk' hw'
    exact DatIn.tuple (vs := [.int (n : Int) t1, .str (tx k) t2, .str (tx ((c :: r).take len)) t3]) (.head _) (.cons (.int _ _) (.cons (.str _ _) (.cons (.str _ _) .nil)))
  · rw [h.go, hR, pieces_cons r n hb, hk, drop_add hR]
    simp
  · rcases List.mem_cons.mp hp with rfl | hp
    · exact ht
    · exact h.lt p hp
theorem PcInv.done {T : List Nat} {fl : Addr} {ts : List (Addr × Obj)} {vs : List Value} {dn : List Pc} {n : Nat} (h : PcInv T fl ts vs dn n) (hn : T.drop n = []) : dn = piecesOf T 0 := by
  rw [h.go, hn, pieces_nil, List.append_nil]
theorem let_in : ∀ c, c < 128 → inS (PySem.Str.ofString "abcdefghijklmnopqrstuvwxyzABCDEFGHIJKLMNOPQRSTUVWXYZ_") c = (isNm c && !isDg c) := by decide +kernel
/-- the ledger at a turn's end -/
theorem pcs_end {h₀ h : Heap} {L fl t : Addr} {ot : Obj} {A : Array Value} {nn : Nat} {vs : List Value} {all ts : List (Addr × Obj)} (N : News h₀ L h all) (h1 : (fl, W.listOf (A.push (Value.ref t)) (nn + 1)) ∈ all) (h2 : (t, ot) ∈ all) (h3 : ∀ p ∈ ts, p ∈ all) (hA : A = vs.toArray) :
    News h₀ L h ((fl, W.listOf (vs ++ [Value.ref t]).toArray (nn + 1)) :: (t, ot) :: ts) := fun p hp => by
  rw [show (vs ++ [Value.ref t]).toArray = A.push (Value.ref t) by rw [hA, List.push_toArray]] at hp
  rcases List.mem_cons.mp hp with rfl | hp
  · exact N _ h1
  · rcases List.mem_cons.mp hp with rfl | hp
    · exact N _ h2
    · exact N _ (h3 _ hp)
/-- the turns of the inner loops: a name's signs, a number's -/
theorem tw_turn {TX wd : PySem.Str} {n : Nat} {k : Int} (h : TwInv TX wd n k) : ∃ i : Nat, k = (i : Int) ∧ n ≤ i ∧ i ≤ TX.length ∧ ((tl TX).drop i = [] ∧ ¬ (i : Int) < (TX.length : Int) ∨ ∃ x r, (tl TX).drop i = x :: r ∧ (i : Int) < (TX.length : Int) ∧ Txt.item TX (i : Int) = tx [x] ∧ x ∈ tl TX) := by
  obtain ⟨i, rfl, h1, h2, -⟩ := h
  refine ⟨i, rfl, h1, h2, ?_⟩
  rcases hR : (tl TX).drop i with _ | ⟨x, r⟩
  · exact .inl ⟨rfl, by have := pos_ge hR; omega⟩
  · exact .inr ⟨x, r, rfl, pos_le hR, item_drop TX hR, List.mem_of_mem_drop (i := i) (by rw [hR]; exact .head _)⟩
end Mine
end
section
theorem Mine.wr_Pieces : True := by
  k_with_none
  k_with "call ref" => k_extra "call ref last"
  k_with "om" => with_reducible first | assumption | exact Nat.add_sub_cancel_left _ _ | exact Int.ofNat_lt.mpr (by assumption) | exact Int.ofNat_le.mpr (by assumption) | exact Int.ofNat_lt.mp (by assumption) | exact Int.ofNat_le.mp (by assumption) | exact o_lt (by assumption) | exact o_nlt (by assumption) | exact o_63 (by assumption) (by assumption) (by with_unfolding_all exact rfl) | exact o_s2 (by assumption) | exact o_s1 (by assumption) (by assumption) | exact o_s3 (by assumption) (by assumption) | exact o_mt (by assumption) | exact o_f1 (by assumption) | exact Nat.le_of_lt (by assumption) | exact Nat.not_le.mp (by assumption) | exact o_sub (by assumption) | exact o_big1 (by assumption) (by with_unfolding_all exact rfl) | exact Nat.le_trans (Nat.le_add_right _ _) (by assumption) | exact Int.natCast_nonneg _ | exact Nat.le_trans (by assumption) (by assumption) | exact o_big (by assumption) (by assumption) (by with_unfolding_all exact rfl) | exact o_ltM (by assumption) (by assumption) | exact o_tr (by assumption) (by assumption) (by assumption) | exact Nat.lt_of_lt_of_le (by assumption) (by assumption) | exact Nat.lt_of_le_of_lt (by assumption) (by assumption) | exact Nat.ne_of_lt (by assumption) | exact Nat.ne_of_gt (by assumption) | exact o_mm (by assumption) | exact o_mm2 (by assumption) (by assumption) | exact o_mn | exact o_ml (by assumption) (by assumption) | exact o_and (by assumption) | rfl
  k_with "kst" => k_extra "mine kst"
  k_with "kst" => k_extra "mine same3"
  k_with "ksw" => k_extra "mine ksw"
  k_with "ksw" => k_extra "mine same"
  k_with "mine enter" => (refine' code_def ?k1q107 ?k2q107 ?k3q107 ?k4q107 ?k5q107 ?kAq107 ?kFq107 ?kKq107 ?k6q107 ?k7q107 ?k8q107 ?k9q107 ?kBq107 ?_ ?c2q107 ?c3q107 ?c4q107 ?c5q107; (case kAq107 => exact rfl); (case kFq107 => exact rfl); (case kKq107 => first | exact rfl | assumption); (case k1q107 => k_asm); (case k2q107 => k_asm); (case k3q107 => k_asm); (case k4q107 => k_asm); (case k5q107 => k_asm); (case k6q107 => k_is); (case k7q107 => k_is); (case k8q107 => first | (refine' rm0 ?rhq107; (case rhq107 => assumption)) | (refine' rm1 ?rhq107 ?rlq107; (case rhq107 => assumption); (case rlq107 => exact rfl)) | (refine' rm2 ?rhq107 ?rlq107; (case rhq107 => assumption); (case rlq107 => exact rfl)) | ktr_room); (case k9q107 => first | exact BindsTo.of_eq rfl | exact binds_K (by k_in) rfl (by k_is) rfl rfl rfl); (case c5q107 => decide); (case kBq107 => exact locs rfl); (case c2q107 => exact rfl); (case c3q107 => exact rfl); (case c4q107 => exact rfl); k_whole; intro g' L' h' FG'; (refine (?_ : let mk := _; Fr _ _ _ mk → _)); intro mk F' N' B' X' T'; (refine (?_ : let nk := _; let ak := _; let qk := _; let ek := _; let sk := _; wpAny _ ak (execs _ nk) qk ek sk)); intro nk ak qk ek sk)
  k_with "subscriptTail Name Attribute str int" => ((with_reducible show wpAny _ _ (subscriptTail _ _ (Value.str _ _) (Value.int _ _)) _ _ _); refine item_str (fitsSsize_of (N := 9223372036854775808) (by omega) (by omega) (Int.le_refl _)) (by omega) (by omega) ?_; intro _)
  k_with "mine inline" => (k_dflt (first | (refine' call_cls ?k1q109 ?k2q109 ?k3q109 ?k4q109 ?k5q109 ?k6q109 ?_; (case k1q109 => k_asm); (case k2q109 => k_asm); (case k3q109 => k_asm); (case k4q109 => k_is); (case k5q109 => k_is); (case k6q109 => k_is); k_whole; intro x' d' h' F' N' l1 l2; (try k_lt l1); (try k_lt2 l2); (try k_sweep); walk_at "mine enter") | (refine wpAny_call ?_; walk_at "mine enter")))
  k_with "ite" => first | with_reducible refine ite_tt ?_ | with_reducible refine ite_ff ?_
  k_with "mine room" => first | (refine' rm2 ?rhq111 ?rlq111; (case rhq111 => assumption); (case rlq111 => exact rfl)) | decide +kernel | omega | (simp only [depth_deeper, units_deeper]; omega) | (dsimp only [ktrTop]; omega) | (dsimp only [Around.deeper, ktrTop]; omega) | ktr_room | ktr_units
  k_with "mine tail" => ((case zzB => k_asm); (case zzF => k_asm); (case zzX => k_asm); (case zzT => k_asm); (case zzN => k_asm); (case zzk => first | exact rfl | assumption); (case zzp => walk_at "mine room"); (case zzu => walk_at "mine room"))
  k_with "isTrue Compare" => (k_here; first | ((with_reducible show wpAny _ _ (isTrue (PySem.Expr.Compare (PySem.Expr.Name _ _) [PySem.CmpOp.Eq] [PySem.Expr.Constant (PySem.Const.str _) _ _] _) _ _) _ _ _); k_dflt (refine' tst_eq ?zaq113 ?zbq113 ?zcq113 ?zmq113 ?zFq113 ?zvq113 ?_; (case zFq113 => k_asm); (case zaq113 => rfl); (case zbq113 => rfl); (case zcq113 => decide); (case zvq113 => rfl); (case zmq113 => with_unfolding_all rfl); k_whole)) | ((with_reducible show wpAny _ _ (isTrue (PySem.Expr.Compare (PySem.Expr.Name _ _) [PySem.CmpOp.NotEq] [PySem.Expr.Constant (PySem.Const.str _) _ _] _) _ _) _ _ _); k_dflt (refine' tst_ne ?zaq113 ?zbq113 ?zcq113 ?zmq113 ?zFq113 ?zvq113 ?_; (case zFq113 => k_asm); (case zaq113 => rfl); (case zbq113 => rfl); (case zcq113 => decide); (case zvq113 => rfl); (case zmq113 => with_unfolding_all rfl); k_whole)))
  k_with "eval BinOp" => (k_here; (with_reducible show wpAny _ _ (eval (PySem.Expr.BinOp (PySem.Expr.Name _ _) PySem.Operator.Add (PySem.Expr.Constant (PySem.Const.int _) _ _) _) _) _ _ _); k_dflt (refine' add_nc ?zaq114 ?zbq114 ?zcq114 ?zFq114 ?zvq114 ?_; (case zFq114 => k_asm); (case zaq114 => rfl); (case zbq114 => rfl); (case zcq114 => decide); (case zvq114 => rfl); k_whole))
  k_with "mine steps" => repeat' (first | ((first | (fail_if_success (fail_if_success k_unfold)) | (fail_if_success (fail_if_success k_fold))); (refine (?_ : let qk := _; let sk := _; wpAny _ _ _ qk _ sk)); intro qk sk) | ((fail_if_success (fail_if_success k_unfold)); (refine (?_ : let sk := _; LeaveK _ _ _ _ _ _ sk)); intro sk) | (k_unfold; (try dsimp only)) | walk1 | (k_end; wrow_close) | (dsimp only [List.nil_append, List.cons_append]; walk1) | (leave1; (try dsimp only)) | fail "no step")
  k_with "execs cons" => (with_reducible refine wpAny_execs_cons ?_)
  k_with "eval Name" => (k_dflt (refine' nmL ?zaq117 ?zbq117 ?zdq117 ?zFq117 ?zvq117 ?_; (case zFq117 => k_asm); (case zaq117 => rfl); (case zbq117 => rfl); (case zvq117 => rfl); (case zdq117 => decide); k_whole))
  k_with "storeName" => (k_dflt (refine' stL ?zaq118 ?zbq118 ?zFq118 ?zNq118 ?_; (case zFq118 => k_asm); (case zNq118 => k_asm); (case zaq118 => rfl); (case zbq118 => rfl); k_whole; intro h' mk F' N'; (try k_sweep)))
  k_with "LeaveK" => (k_dflt (refine' leaveK_ ?k1q119 ?k2q119 ?_; (case k1q119 => k_asm); (case k2q119 => k_asm); k_whole); intro kF kN; (try dsimp only [InitBack]); (try refine ⟨rfl, ?_⟩))
  k_with "mine kst" => (intro z h1 h2 h3; (try dsimp +zetaDelta only [kstB]); (try simp only [List.forall_mem_cons, List.not_mem_nil, false_implies, implies_true, and_true, ne_eq] at h2); first | rfl | (simp [h1]; done) | (simp [h1, h2]; done) | ((try simp only [List.contains_cons, List.contains_nil, Bool.or_false, Bool.or_eq_false_iff, beq_eq_false_iff_ne, ne_eq] at h3); first | (simp [h1, h3]; done) | (simp [h1, h2, h3]; done)))
  k_with "mine same3" => (k_dflt (refine sn_end3 ?_; (repeat (first | (with_reducible exact sn_refl) | (refine' sn_in ?_ ?hpq121 ?hsq121; (case hpq121 => exact rfl); (case hsq121 => exact rfl)) | (refine' sn_upd ?_ ?hxq121; (case hxq121 => exact rfl)))); done))
  k_with "mine ksw" => (intro z h2 h3; (try dsimp +zetaDelta only [kstB]); (try simp only [List.forall_mem_cons, List.not_mem_nil, false_implies, implies_true, and_true, ne_eq] at h2); (try simp only [List.contains_cons, List.contains_nil, Bool.or_false, Bool.or_eq_false_iff, beq_eq_false_iff_ne, ne_eq] at h3); first | rfl | (simp [h2]; done) | (simp [h3]; done) | (simp [h2, h3]; done))
  k_with "mine same" => (k_dflt (refine sn_end ?_; (repeat (first | (with_reducible exact sn_refl) | (refine' sn_in ?_ ?hpq123 ?hsq123; (case hpq123 => exact rfl); (case hsq123 => exact rfl)) | (refine' sn_upd ?_ ?hxq123; (case hxq123 => exact rfl)))); done))
  w_top off
  trivial
theorem Mine.kw_mPieces_1 : True := by
  k_with "call type:int" => ((with_reducible show wpAny _ _ (call (Value.type "int") [Value.str _ _, Value.int _ _]) _ _ _); refine call_int16 (by first | assumption | exact isHx_mem (by assumption) | exact isOc_isHx (by assumption)) ?_)
  k_with "call ref" => (k_dflt (show wpAny _ _ (call (Value.ref 233) [_]) _ _ _); k_dflt (refine' hex_escape_ok ?zzB ?zzF ?zzX ?zzT ?zzk ?zzp ?zzu ?zzN ?zzhx ?_; walk_at "mine tail"; (case zzhx => omega)); intro _ h' tk' F' N')
  k_with "call ref" => (k_dflt (show wpAny _ _ (call (Value.ref 240) [_, _]) _ _ _); k_dflt (refine' escaped_sign_ok ?zzB ?zzF ?zzX ?zzT ?zzk ?zzp ?zzu ?zzN ?zzhx ?_; walk_at "mine tail"; (case zzhx => omega)); intro _ h' tk' F' N')
  k_with "subscriptTail Name Slice str ref" => ((with_reducible show wpAny _ _ (subscriptTail _ (Expr.Slice (some _) (some _) none _) _ _) _ _ _); (with_reducible rename Fr _ _ _ _ => F'); (with_reducible rename News _ _ _ _ => N'); (refine' cut_ss (s := ⟨_, _, _, _, _⟩) F' N' ?cutEq127 ?cutZq127 ?_); (case cutEq127 => with_reducible assumption); (case cutZq127 => with_reducible assumption); intro _ _ _ _ _)
  k_with "subscriptTail Name Slice str ref" => ((with_reducible show wpAny _ _ (subscriptTail _ (Expr.Slice (some _) none none _) _ _) _ _ _); (with_reducible rename Fr _ _ _ _ => F'); (with_reducible rename News _ _ _ _ => N'); (refine' cut_sn (s := ⟨_, _, _, _, _⟩) F' N' ?cutEq128 ?cutZq128 ?_); (case cutEq128 => with_reducible assumption); (case cutZq128 => with_reducible assumption); intro _ _ _ _ _)
  k_with "subscriptTail Name Slice str ref" => ((with_reducible show wpAny _ _ (subscriptTail _ (Expr.Slice none (some _) none _) _ _) _ _ _); (with_reducible rename Fr _ _ _ _ => F'); (with_reducible rename News _ _ _ _ => N'); (refine' cut_ns (s := ⟨_, _, _, _, _⟩) F' N' ?cutEq129 ?cutZq129 ?_); (case cutEq129 => with_reducible assumption); (case cutZq129 => with_reducible assumption); intro _ _ _ _ _)
  k_with "subscriptTail Name Constant str int" => ((refine' item_fact ?cutEq130 (by omega) ?cutLq130 ?cutZq130 ?_); (case cutEq130 => with_reducible assumption); (case cutLq130 => with_reducible assumption); (case cutZq130 => with_reducible assumption); intro _ _)
  k_with "subscriptTail Name Name str int" => ((refine' item_fact ?cutEq131 (by omega) ?cutLq131 ?cutZq131 ?_); (case cutEq131 => with_reducible assumption); (case cutLq131 => with_reducible assumption); (case cutZq131 => with_reducible assumption); intro _ _)
  k_with "subscriptTail Name Call str int" => ((refine' item_fact ?cutEq132 (by omega) ?cutLq132 ?cutZq132 ?_); (case cutEq132 => with_reducible assumption); (case cutLq132 => with_reducible assumption); (case cutZq132 => with_reducible assumption); intro _ _)
  k_with "compareOp In str str" => refine in_str ?_
  k_with "compareOp NotIn str str" => refine notIn_str ?_
  k_with "call builtin:str.lower" => ((refine' lower_fact ?cutEq135 ?cutZq135 ?_); (case cutEq135 => with_reducible assumption); (case cutZq135 => first | with_reducible assumption | exact Nat.le_of_ble_eq_true rfl); intro _ _)
  k_with "call builtin:str.index" => ((refine' index_fact ?cutEq136 ?cutOq136 ?_); (case cutEq136 => with_reducible assumption); (case cutOq136 => with_reducible assumption); intro _ _)
  k_with "call ref" => (k_dflt (show wpAny _ _ (call (Value.ref 343) [_, _]) _ _ _); k_dflt (refine' lit_ok ?zzB ?zzF ?zzX ?zzT ?zzk ?zzp ?zzu ?zzN ?zzhlen ?zzhas ?zzhR ?_; walk_at "mine tail"; (case zzhlen => assumption); (case zzhas => assumption); (case zzhR => assumption)); (intro t7 e7 y7 v7 w7 h7 tk7 L7 F7 N7 l7))
  trivial
namespace Mine
open PySem.Builtin PySem.Builtin.Str
noncomputable abbrev adOfA {news : List (Addr × Obj)} {fl : Addr} (_ : ∀ p : Addr × Obj, p ∈ news → p.1 < fl) : Addr := fl
theorem lit_some {R : List Nat} {x k n : Nat} {e : Int} {y : PySem.Str} (h : lawLit R = some (x, k)) (h2 : LitIs (lawLit R) n e y) : e = (n : Int) + (k : Int) ∧ y = ⟨#[x]⟩ := by rw [h] at h2; exact h2
theorem lit_none {R : List Nat} {n : Nat} {e : Int} {y : PySem.Str} (h : lawLit R = none) (h2 : LitIs (lawLit R) n e y) : e = -1 ∧ y = PySem.Str.ofString "" := by rw [h] at h2; exact h2
theorem lawLit_le {R : List Nat} {x k : Nat} (h : lawLit R = some (x, k)) : k ≤ R.length + 1 := by
  rcases R with _ | ⟨c, r⟩
  · cases h
  · simp only [lawLit] at h
    split at h
    · cases h
    · split at h
      · rcases r with _ | ⟨y, r'⟩
        · cases h
        · simp only at h
          split at h
          · rename_i h39
            injection h with h; injection h with h1 h2
            have : ((y :: r').drop (escR (y :: r')).2).length ≠ 0 := fun e => by rw [List.length_eq_zero_iff.mp e] at h39; cases h39
            rw [List.length_drop] at this
            simp only [List.length_cons] at this ⊢
            omega
          · cases h
      · split at h
        · rename_i h39
          injection h with h; injection h with h1 h2
          rcases r with _ | ⟨d, r⟩
          · cases h39
          · simp only [List.length_cons]; omega
        · cases h
theorem off_all {fl : Addr} {ts news : List (Addr × Obj)} (h1 : ∀ p ∈ ts, @LT.lt Nat _ fl p.1) (h2 : ∀ p : Addr × Obj, p ∈ news → p.1 < fl) : ∀ p ∈ ts ++ news, p.1 ≠ fl := fun p hp => by
  rcases List.mem_append.mp hp with hp | hp
  · have := h1 p hp; exact Nat.ne_of_gt this
  · have : @LT.lt Nat _ p.1 fl := h2 p hp; exact Nat.ne_of_lt this
theorem len_size {vs : List Value} (h : vs.length ≤ 100000) : vs.toArray.size ≤ sizeLine := by rw [List.size_toArray, sizeLine_eq]; omega
theorem one_ne {z : String} {y c : Nat} (hz : PySem.Str.ofString z = ⟨#[y]⟩) (h : c ≠ y) : (tx [c] != PySem.Str.ofString z) = true := ne_true (by rw [show tx [c] = ⟨#[c]⟩ from rfl, one_lit hz]; exact decide_eq_false h)
theorem pcc (c : Nat) (r : List Nat) (h : c < 128) :
    (Hid (isBl c = true) ∧ (occurrences (PySem.Str.ofString "abcdefghijklmnopqrstuvwxyzABCDEFGHIJKLMNOPQRSTUVWXYZ_") ⟨#[c]⟩ 0 (PySem.Str.ofString "abcdefghijklmnopqrstuvwxyzABCDEFGHIJKLMNOPQRSTUVWXYZ_").length 1).isEmpty = true ∧ Txt.isdigit ⟨#[c]⟩ = false ∧ (tx [c] == PySem.Str.ofString "'") = false ∧ (tx [c] != PySem.Str.ofString " ") = false) ∨
    (Hid (isBl c = true) ∧ (occurrences (PySem.Str.ofString "abcdefghijklmnopqrstuvwxyzABCDEFGHIJKLMNOPQRSTUVWXYZ_") ⟨#[c]⟩ 0 (PySem.Str.ofString "abcdefghijklmnopqrstuvwxyzABCDEFGHIJKLMNOPQRSTUVWXYZ_").length 1).isEmpty = true ∧ Txt.isdigit ⟨#[c]⟩ = false ∧ (tx [c] == PySem.Str.ofString "'") = false ∧ (tx [c] != PySem.Str.ofString " ") = true ∧ (tx [c] != PySem.Str.ofString "\t") = false) ∨
    (Hid (isBl c = false) ∧ Hid (isDg c = true) ∧ pieceK (c :: r) = (run isDg (c :: r), wd "figures") ∧ (occurrences (PySem.Str.ofString "abcdefghijklmnopqrstuvwxyzABCDEFGHIJKLMNOPQRSTUVWXYZ_") ⟨#[c]⟩ 0 (PySem.Str.ofString "abcdefghijklmnopqrstuvwxyzABCDEFGHIJKLMNOPQRSTUVWXYZ_").length 1).isEmpty = true ∧ Txt.isdigit ⟨#[c]⟩ = true ∧ (tx [c] != PySem.Str.ofString " ") = true ∧ (tx [c] != PySem.Str.ofString "\t") = true) ∨
    (Hid (isBl c = false) ∧ Hid (isNm c = true) ∧ pieceK (c :: r) = (run isNm (c :: r), wd "name") ∧ (occurrences (PySem.Str.ofString "abcdefghijklmnopqrstuvwxyzABCDEFGHIJKLMNOPQRSTUVWXYZ_") ⟨#[c]⟩ 0 (PySem.Str.ofString "abcdefghijklmnopqrstuvwxyzABCDEFGHIJKLMNOPQRSTUVWXYZ_").length 1).isEmpty = false ∧ (tx [c] != PySem.Str.ofString " ") = true ∧ (tx [c] != PySem.Str.ofString "\t") = true) ∨
    (∃ x k, Hid (isBl c = false) ∧ lawLit r = some (x, k) ∧ pieceK (c :: r) = (k, wd "literal") ∧ (occurrences (PySem.Str.ofString "abcdefghijklmnopqrstuvwxyzABCDEFGHIJKLMNOPQRSTUVWXYZ_") ⟨#[c]⟩ 0 (PySem.Str.ofString "abcdefghijklmnopqrstuvwxyzABCDEFGHIJKLMNOPQRSTUVWXYZ_").length 1).isEmpty = true ∧ Txt.isdigit ⟨#[c]⟩ = false ∧ (tx [c] == PySem.Str.ofString "'") = true ∧ (tx [c] != PySem.Str.ofString " ") = true ∧ (tx [c] != PySem.Str.ofString "\t") = true) ∨
    (Hid (isBl c = false) ∧ lawLit r = none ∧ pieceK (c :: r) = (1, [c]) ∧ (occurrences (PySem.Str.ofString "abcdefghijklmnopqrstuvwxyzABCDEFGHIJKLMNOPQRSTUVWXYZ_") ⟨#[c]⟩ 0 (PySem.Str.ofString "abcdefghijklmnopqrstuvwxyzABCDEFGHIJKLMNOPQRSTUVWXYZ_").length 1).isEmpty = true ∧ Txt.isdigit ⟨#[c]⟩ = false ∧ (tx [c] == PySem.Str.ofString "'") = true ∧ (tx [c] != PySem.Str.ofString " ") = true ∧ (tx [c] != PySem.Str.ofString "\t") = true) ∨
    (Hid (isBl c = false) ∧ pieceK (c :: r) = (1, [c]) ∧ (occurrences (PySem.Str.ofString "abcdefghijklmnopqrstuvwxyzABCDEFGHIJKLMNOPQRSTUVWXYZ_") ⟨#[c]⟩ 0 (PySem.Str.ofString "abcdefghijklmnopqrstuvwxyzABCDEFGHIJKLMNOPQRSTUVWXYZ_").length 1).isEmpty = true ∧ Txt.isdigit ⟨#[c]⟩ = false ∧ (tx [c] == PySem.Str.ofString "'") = false ∧ (tx [c] != PySem.Str.ofString " ") = true ∧ (tx [c] != PySem.Str.ofString "\t") = true) := by
  have hD := dig_all c h
  have hL := let_in c h
  have hN : ∀ b, (isNm c && !isDg c) = b → (occurrences (PySem.Str.ofString "abcdefghijklmnopqrstuvwxyzABCDEFGHIJKLMNOPQRSTUVWXYZ_") ⟨#[c]⟩ 0 (PySem.Str.ofString "abcdefghijklmnopqrstuvwxyzABCDEFGHIJKLMNOPQRSTUVWXYZ_").length 1).isEmpty = (!b) := fun b hb => by
    rw [hb] at hL
    cases b
    · exact occ_f hL
    · exact occ_t hL
  have hq : (tx [c] == PySem.Str.ofString "'") = decide (c = 39) := one_lit (y := 39) (by decide +kernel) c
  by_cases h32 : c = 32
  · have e1 : isBl c = true := by rw [h32]; decide +kernel
    have e2 : isNm c = false := by rw [h32]; decide +kernel
    refine .inl ⟨⟨e1⟩, hN false (by rw [e2]; rfl), by rw [hD, not_dg_of e2], by rw [hq]; exact decide_eq_false (by omega), by rw [h32]; decide +kernel⟩
  by_cases h9 : c = 9
  · have e1 : isBl c = true := by rw [h9]; decide +kernel
    have e2 : isNm c = false := by rw [h9]; decide +kernel
    refine .inr (.inl ⟨⟨e1⟩, hN false (by rw [e2]; rfl), by rw [hD, not_dg_of e2], by rw [hq]; exact decide_eq_false (by omega), one_ne (y := 32) (by decide +kernel) h32, by rw [h9]; decide +kernel⟩)
  have nb := one_ne (z := " ") (y := 32) (by decide +kernel) h32
  have nt := one_ne (z := "\t") (y := 9) (by decide +kernel) h9
  have hb : isBl c = false := by rw [isBl_iff]; simp [h32, h9]
  rcases piece_cases c r with ⟨hd, hk⟩ | ⟨hd, hn, hk⟩ | ⟨hn, h39, x, k, hl, hk⟩ | ⟨hn, h39, hk⟩
  · exact .inr (.inr (.inl ⟨⟨hb⟩, ⟨hd⟩, hk, hN false (by rw [hd, Bool.not_true, Bool.and_false]), by rw [hD, hd], nb, nt⟩))
  · exact .inr (.inr (.inr (.inl ⟨⟨hb⟩, ⟨hn⟩, hk, hN true (by rw [hn, hd]; rfl), nb, nt⟩)))
  · exact .inr (.inr (.inr (.inr (.inl ⟨x, k, ⟨hb⟩, hl, hk, hN false (by rw [hn]; rfl), by rw [hD, not_dg_of hn], by rw [hq]; exact decide_eq_true h39, nb, nt⟩))))
  · by_cases h : c = 39
    · exact .inr (.inr (.inr (.inr (.inr (.inl ⟨⟨hb⟩, h39 h, hk, hN false (by rw [hn]; rfl), by rw [hD, not_dg_of hn], by rw [hq]; exact decide_eq_true h, nb, nt⟩)))))
    · exact .inr (.inr (.inr (.inr (.inr (.inr ⟨⟨hb⟩, hk, hN false (by rw [hn]; rfl), by rw [hD, not_dg_of hn], by rw [hq]; exact decide_eq_false h, nb, nt⟩)))))
theorem pcc_k {G : Prop} (c : Nat) (r : List Nat) (h : c < 128)
    (k1 : Hid (isBl c = true) → (occurrences (PySem.Str.ofString "abcdefghijklmnopqrstuvwxyzABCDEFGHIJKLMNOPQRSTUVWXYZ_") ⟨#[c]⟩ 0 (PySem.Str.ofString "abcdefghijklmnopqrstuvwxyzABCDEFGHIJKLMNOPQRSTUVWXYZ_").length 1).isEmpty = true → Txt.isdigit ⟨#[c]⟩ = false → (tx [c] == PySem.Str.ofString "'") = false → (tx [c] != PySem.Str.ofString " ") = false → G)
    (k2 : Hid (isBl c = true) → (occurrences (PySem.Str.ofString "abcdefghijklmnopqrstuvwxyzABCDEFGHIJKLMNOPQRSTUVWXYZ_") ⟨#[c]⟩ 0 (PySem.Str.ofString "abcdefghijklmnopqrstuvwxyzABCDEFGHIJKLMNOPQRSTUVWXYZ_").length 1).isEmpty = true → Txt.isdigit ⟨#[c]⟩ = false → (tx [c] == PySem.Str.ofString "'") = false → (tx [c] != PySem.Str.ofString " ") = true → (tx [c] != PySem.Str.ofString "\t") = false → G)
    (k3 : Hid (isBl c = false) → Hid (isDg c = true) → pieceK (c :: r) = (run isDg (c :: r), wd "figures") → (occurrences (PySem.Str.ofString "abcdefghijklmnopqrstuvwxyzABCDEFGHIJKLMNOPQRSTUVWXYZ_") ⟨#[c]⟩ 0 (PySem.Str.ofString "abcdefghijklmnopqrstuvwxyzABCDEFGHIJKLMNOPQRSTUVWXYZ_").length 1).isEmpty = true → Txt.isdigit ⟨#[c]⟩ = true → (tx [c] != PySem.Str.ofString " ") = true → (tx [c] != PySem.Str.ofString "\t") = true → G)
    (k4 : Hid (isBl c = false) → Hid (isNm c = true) → pieceK (c :: r) = (run isNm (c :: r), wd "name") → (occurrences (PySem.Str.ofString "abcdefghijklmnopqrstuvwxyzABCDEFGHIJKLMNOPQRSTUVWXYZ_") ⟨#[c]⟩ 0 (PySem.Str.ofString "abcdefghijklmnopqrstuvwxyzABCDEFGHIJKLMNOPQRSTUVWXYZ_").length 1).isEmpty = false → (tx [c] != PySem.Str.ofString " ") = true → (tx [c] != PySem.Str.ofString "\t") = true → G)
    (k5 : ∀ x k, Hid (isBl c = false) → lawLit r = some (x, k) → pieceK (c :: r) = (k, wd "literal") → (occurrences (PySem.Str.ofString "abcdefghijklmnopqrstuvwxyzABCDEFGHIJKLMNOPQRSTUVWXYZ_") ⟨#[c]⟩ 0 (PySem.Str.ofString "abcdefghijklmnopqrstuvwxyzABCDEFGHIJKLMNOPQRSTUVWXYZ_").length 1).isEmpty = true → Txt.isdigit ⟨#[c]⟩ = false → (tx [c] == PySem.Str.ofString "'") = true → (tx [c] != PySem.Str.ofString " ") = true → (tx [c] != PySem.Str.ofString "\t") = true → G)
    (k6 : Hid (isBl c = false) → lawLit r = none → pieceK (c :: r) = (1, [c]) → (occurrences (PySem.Str.ofString "abcdefghijklmnopqrstuvwxyzABCDEFGHIJKLMNOPQRSTUVWXYZ_") ⟨#[c]⟩ 0 (PySem.Str.ofString "abcdefghijklmnopqrstuvwxyzABCDEFGHIJKLMNOPQRSTUVWXYZ_").length 1).isEmpty = true → Txt.isdigit ⟨#[c]⟩ = false → (tx [c] == PySem.Str.ofString "'") = true → (tx [c] != PySem.Str.ofString " ") = true → (tx [c] != PySem.Str.ofString "\t") = true → G)
    (k7 : Hid (isBl c = false) → pieceK (c :: r) = (1, [c]) → (occurrences (PySem.Str.ofString "abcdefghijklmnopqrstuvwxyzABCDEFGHIJKLMNOPQRSTUVWXYZ_") ⟨#[c]⟩ 0 (PySem.Str.ofString "abcdefghijklmnopqrstuvwxyzABCDEFGHIJKLMNOPQRSTUVWXYZ_").length 1).isEmpty = true → Txt.isdigit ⟨#[c]⟩ = false → (tx [c] == PySem.Str.ofString "'") = false → (tx [c] != PySem.Str.ofString " ") = true → (tx [c] != PySem.Str.ofString "\t") = true → G) : G := by
  rcases pcc c r h with ⟨a0, a1, a2, a3, a4⟩ | ⟨a0, a1, a2, a3, a4, a5⟩ | ⟨a0, a1, a2, a3, a4, a5, a6⟩ | ⟨a0, a1, a2, a3, a4, a5⟩ | ⟨x, k, a0, a1, a2, a3, a4, a5, a6, a7⟩ | ⟨a0, a1, a2, a3, a4, a5, a6, a7⟩ | ⟨a0, a1, a2, a3, a4, a5, a6⟩
  · exact k1 a0 a1 a2 a3 a4
  · exact k2 a0 a1 a2 a3 a4 a5
  · exact k3 a0 a1 a2 a3 a4 a5 a6
  · exact k4 a0 a1 a2 a3 a4 a5
  · exact k5 x k a0 a1 a2 a3 a4 a5 a6 a7
  · exact k6 a0 a1 a2 a3 a4 a5 a6 a7
  · exact k7 a0 a1 a2 a3 a4 a5 a6
/-- a further sign of a name, or of a number -/
theorem nmc (x : Nat) (h : x < 128) :
    (Hid (isNm x = true) ∧ (occurrences (PySem.Str.ofString "abcdefghijklmnopqrstuvwxyzABCDEFGHIJKLMNOPQRSTUVWXYZ_") ⟨#[x]⟩ 0 (PySem.Str.ofString "abcdefghijklmnopqrstuvwxyzABCDEFGHIJKLMNOPQRSTUVWXYZ_").length 1).isEmpty = false) ∨ (Hid (isNm x = true) ∧ (occurrences (PySem.Str.ofString "abcdefghijklmnopqrstuvwxyzABCDEFGHIJKLMNOPQRSTUVWXYZ_") ⟨#[x]⟩ 0 (PySem.Str.ofString "abcdefghijklmnopqrstuvwxyzABCDEFGHIJKLMNOPQRSTUVWXYZ_").length 1).isEmpty = true ∧ Txt.isdigit ⟨#[x]⟩ = true) ∨ (Hid (isNm x = false) ∧ (occurrences (PySem.Str.ofString "abcdefghijklmnopqrstuvwxyzABCDEFGHIJKLMNOPQRSTUVWXYZ_") ⟨#[x]⟩ 0 (PySem.Str.ofString "abcdefghijklmnopqrstuvwxyzABCDEFGHIJKLMNOPQRSTUVWXYZ_").length 1).isEmpty = true ∧ Txt.isdigit ⟨#[x]⟩ = false) := by
  have hD := dig_all x h
  have hL := let_in x h
  rcases hn : isNm x with _ | _
  · rw [hn] at hL
    exact .inr (.inr ⟨⟨rfl⟩, occ_f hL, by rw [hD, not_dg_of hn]⟩)
  · rcases hd : isDg x with _ | _
    · rw [hn, hd] at hL
      exact .inl ⟨⟨rfl⟩, occ_t hL⟩
    · rw [hn, hd] at hL
      exact .inr (.inl ⟨⟨rfl⟩, occ_f hL, by rw [hD, hd]⟩)
theorem dgc (x : Nat) (h : x < 128) : (Hid (isDg x = true) ∧ Txt.isdigit ⟨#[x]⟩ = true) ∨ (Hid (isDg x = false) ∧ Txt.isdigit ⟨#[x]⟩ = false) := by
  have hD := dig_all x h
  rcases hd : isDg x with _ | _
  · exact .inr ⟨⟨rfl⟩, by rw [hD, hd]⟩
  · exact .inl ⟨⟨rfl⟩, by rw [hD, hd]⟩
theorem Mine.kw_Pieces_1 : True := by
  k_with "exec While Compare" => k_extra "outer"
  k_with "exec While BoolOp cons nil" => k_extra "inner"
  k_with "KswEnd nil" => k_extra "ends"
  k_with "KswEnd cons" => k_extra "ends"
  k_with "call builtin:str.isdigit" => refine SC.isdigit ?_
  k_with "call builtin:list.append" => (k_here; (with_reducible show wpAny _ _ (call (Value.builtin _) [Value.ref _, _]) _ _ _); k_dflt (refine' append_K ?k1q104 ?k2q104 ?k3q104 ?_ ?zq104; (case k1q104 => k_asm); (case k2q104 => k_asm); (case k3q104 => k_upd); (case zq104 => exact len_size (by assumption)); k_whole); intro h' F' N'; (try k_sweep))
  k_with "call ref" => (k_dflt (show wpAny _ _ (call (Value.ref 343) [_, _]) _ _ _); k_dflt (refine' lit_ok ?zzB ?zzF ?zzX ?zzT ?zzk ?zzp ?zzu ?zzN ?zzhlen ?zzhas ?zzhR ?_; walk_at "mine tail"; (case zzhlen => assumption); (case zzhas => assumption); (case zzhR => assumption)); (intro t7 e7 y7 v7 w7 h7 tk7 L7 F7 N7 l7; (try k_lt l7); first | (obtain ⟨L8, L9⟩ := lit_some (by assumption) L7; subst L8; subst L9) | (obtain ⟨L8, L9⟩ := lit_none (by assumption) L7; subst L8; subst L9)))
  trivial
set_option maxHeartbeats 8000000 in
theorem pieces_ok {w : World} {mean : ExcName → Option Value} {mg mb : PySem.Str → Option Value} {dp un : Nat} {gd : Option (List Code)} {cn : PySem.Str} {cs : Scope} {a : Addr} {ccd : Value} {cl : List (PySem.Str × Addr)} {outer : List Env} {A₀ : Around} {base h₀ : Heap} {L : Addr} {m : PySem.Str → Option Value} {s : Shared} {Q E : Value → Shared → Prop} {news : List (Addr × Obj)} (B : Below A₀ base outer h₀) (F : Fr h₀ L s.heap m) (X : (Mine.hd.heap_1_39 w.params).In h₀) (T : Top Mine.hd.view_1_40 lo mean mg mb h₀) (hk : cs.kind = .function) (hdp : dp + 15 < recursionLimit) (hun : un + 150 < cLine) (N : News h₀ L s.heap news) {TX : PySem.Str} {u1 : Tok} (hlen : TX.length ≤ 200) (has : ∀ x ∈ tl TX, x < 128)
  (ret : ∀ (fl : Addr) (ts : List (Addr × Obj)) (vs : List Value) (nn : Nat) (h' : Heap) (tk' : Nat), DatAll ts vs ((piecesOf (tl TX) 0).map datP) → vs.length ≤ 200 → (∀ p ∈ ts, @LT.lt Nat _ fl p.1) → (∀ p : Addr × Obj, p ∈ news → p.1 < fl) → Fr h₀ L h' m → News h₀ L h' ((fl, W.listOf vs.toArray nn) :: (ts ++ news)) → Q (.ref fl) { s with heap := h', toks := tk' })
  : wpAny (model PySem.Challenge.rw_nn0359_01.row.prog w) (ktrTop dp un gd cn cs L a ccd cl outer) (call (.ref 357) [.str TX u1]) Q E s := by
  have hz : TX.length ≤ 100000 := by omega
  (k_with "outer" => (k_dflt ((rename (∀ p : Addr × Obj, p ∈ news → _) => l1); with_unfolding_all refine ksw_while (σ := Nat × List (Addr × Obj) × List Value × List Pc × Nat × Tok) (fun q => (adOfA l1, W.listOf q.2.2.1.toArray q.2.2.2.2.1) :: (q.2.1 ++ news)) (fun q => [(PySem.Str.ofString "at", Value.int (q.1 : Int) q.2.2.2.2.2)]) (fun _ => True) [PySem.Str.ofString "sign", PySem.Str.ofString "end", PySem.Str.ofString "kind"] (fun q => PcInv (tl TX) (adOfA l1) q.2.1 q.2.2.1 q.2.2.2.1 q.1) (fun q => TX.length - q.1) (0, [], [], [], 0, _) (by assumption) (by assumption) trivial (by kst_all) PcInv.start (unt6 fun n ts vs dn nn ta u9 h9 tk9 _ hp F9 N9 => ?_); (refine (?_ : let gk := _; gk)); (intro gk); (dsimp only at hp N9); (refine frk F9 ?_); (clear F9); (intro mk F9); (have hoff := off_all hp.lt l1); (have hnl : n ≤ TX.length := (by rw [len_tl]; exact hp.le)); (have hvl : vs.length ≤ 100000 := (by have := hp.ln; omega)); (simp only [adOfA] at hp N9 hoff); (rcases hd : (tl TX).drop n with _ | ⟨c, r⟩); (have hge : ¬ (n : Int) < (TX.length : Int) := (by have := pos_ge hd; omega)); rotate_left; ((have hlt := pos_le hd); (have hit : Txt.item TX (n : Int) = tx [c] := item_drop TX hd); (have hd1 : (tl TX).drop (n + 1) = r := (drop_cons_get hd).2); (have S1 : Txt.slice TX (some (n : Int)) (some ((n : Int) + 1)) = tx ((c :: r).take 1) := (slc_ss n (n + 1) rfl (by omega)).trans (by rw [hd, show n + 1 - n = 1 by omega])); (refine pcc_k c r (has c (List.mem_of_mem_drop (i := n) (by rw [hd]; exact .head _))) (fun hA1  p1  p2  p3  p4 => ?_) (fun hA2  p1  p2  p3  p4  p5 => ?_) (fun hB  hF  hK  p1  p2  p4  p5 => ?_) (fun hB  hM  hK  p1  p4  p5 => ?_) (fun x  k  hB  hlit  hK  p1  p2  p3  p4  p5 => ?_) (fun hB  hlit0  hK  p1  p2  p3  p4  p5 => ?_) (fun hSg  hK  p1  p2  p3  p4  p5 => ?_))); (all_goals (try ((have hkr := lawLit_le hlit); (have hnk : n + k ≤ TX.length := (by have := drop_len hd1 (by omega); omega)); (have hk3 := lawLit_pos hlit); (have S2 : Txt.slice TX (some (n : Int)) (some ((n : Int) + (k : Int))) = tx ((c :: r).take k) := (slc_ss n (n + k) rfl (by omega)).trans (by rw [hd, show n + k - n = k by omega]))))); (all_goals (try ((refine (?_ : gk)); k_unfold))); (all_goals (try k_fold)))))
  (k_with "inner" => (k_dflt ((have hF9 := hF); (rename News _ _ _ _ => n8); with_unfolding_all refine ksw_while (σ := Int × Tok) (fun _ => _) (fun q => [(PySem.Str.ofString "end", Value.int q.1 q.2)]) (fun _ => True) [] (fun q => TwInv TX DGS n q.1) (fun q => ((TX.length : Int) - q.1).toNat) ((n : Int) + 1, _) (by assumption) n8 trivial (by kst_all) (TwInv.step (TwInv.start hnl) hlt (by rw [hit]; exact occ_t hF.h)) (unt2 fun k8 tb u8 h8 tk8 _ hp8 F8 N8 => ?_); (refine (?_ : let gk := _; gk)); (intro gk); (refine frk F8 ?_); (clear F8); (intro mk F8); (obtain ⟨i, hi0, hi1, hi2, ⟨hdx, hgx⟩ | ⟨x, r2, hdx, hlx, hix, hxm⟩⟩ := tw_turn hp8); (all_goals (simp only at hi0; subst hi0; dsimp only at hp8 N8)); ((obtain ⟨hz1, S3⟩ := hp8.stop hd (.inl hgx)); (have hi9 := Int.ofNat.inj hz1); subst hi9); rotate_left; (rcases dgc x (has x hxm) with ⟨hx1, hx2⟩ | ⟨hx1, hx2⟩); rotate_left; ((obtain ⟨hz1, S3⟩ := hp8.stop hd (.inr ⟨hlx, by rw [hix]; exact occ_f hx1.h⟩)); (have hi9 := Int.ofNat.inj hz1); subst hi9); rotate_left; (all_goals (try ((refine (?_ : gk)); k_unfold))); (all_goals (try k_fold)))))
  (k_with "inner" => (k_dflt ((have hM9 := hM); (rename News _ _ _ _ => n8); with_unfolding_all refine ksw_while (σ := Int × Tok) (fun _ => _) (fun q => [(PySem.Str.ofString "end", Value.int q.1 q.2)]) (fun _ => True) [] (fun q => TwInv TX NMS n q.1) (fun q => ((TX.length : Int) - q.1).toNat) ((n : Int) + 1, _) (by assumption) n8 trivial (by kst_all) (TwInv.step (TwInv.start hnl) hlt (by rw [hit]; exact occ_t hM.h)) (unt2 fun k8 tb u8 h8 tk8 _ hp8 F8 N8 => ?_); (refine (?_ : let gk := _; gk)); (intro gk); (refine frk F8 ?_); (clear F8); (intro mk F8); (obtain ⟨i, hi0, hi1, hi2, ⟨hdx, hgx⟩ | ⟨x, r2, hdx, hlx, hix, hxm⟩⟩ := tw_turn hp8); (all_goals (simp only at hi0; subst hi0; dsimp only at hp8 N8)); ((obtain ⟨hz1, S3⟩ := hp8.stop hd (.inl hgx)); (have hi9 := Int.ofNat.inj hz1); subst hi9); rotate_left; (rcases nmc x (has x hxm) with ⟨hx1, hx2⟩ | ⟨hx1, hx2, hx3⟩ | ⟨hx1, hx2, hx3⟩); rotate_left; rotate_left; ((obtain ⟨hz1, S3⟩ := hp8.stop hd (.inr ⟨hlx, by rw [hix]; exact occ_f hx1.h⟩)); (have hi9 := Int.ofNat.inj hz1); subst hi9); rotate_left; (all_goals (try ((refine (?_ : gk)); k_unfold))); (all_goals (try k_fold)))))
  (k_with "ends" => (k_dflt (refine ksw_end ((i : Int) + 1, _) (by assumption) (by assumption) (by with_unfolding_all exact fun _ h => h) trivial (by kst_all) (by ksw_same) (hp8.step hlx (by rw [hix]; exact occ_t hx1.h)) (by (try dsimp only); omega))))
  (k_with "ends" => (k_dflt (refine ksw_end (n + 1, ts, vs, dn, nn, _) (by assumption) (by assumption) (by with_unfolding_all exact fun _ h => h) trivial (by kst_all) (by ksw_same) (hp.skip hd (by first | exact hA1.h | exact hA2.h)) (by (try dsimp only); omega))))
  (k_with "ends" => (k_dflt (((rename _ < _ ∧ _ => l2); (rename News _ _ _ _ => nE'); (have nF := pcs_end (vs := vs) (ts := ts ++ news) nE' (by first | exact .tail _ (.head _) | exact .tail _ (.tail _ (.tail _ (.head _))) | exact .tail _ (.tail _ (.head _))) (.head _) (fun p hp => by first | exact .tail _ (.tail _ hp) | exact .tail _ (.tail _ (.tail _ (.tail _ hp))) | exact .tail _ (.tail _ (.tail _ hp))) rfl); (have hp9 := pieceK_pos (c :: r)); (rw [hK] at hp9); (refine ksw_end (_, _ :: ts, vs ++ [_], dn ++ [_], nn + 1, _) (by assumption) nF (by with_unfolding_all exact fun _ h => h) trivial (by kst_all) (by ksw_same) (hp.next hd (by first | exact hB.h | exact hSg.h) hK (by rw [← len_tl]; omega) (by first | rfl | exact (tx_tl _).symm) (by first | rfl | rw [take_run]) (by first | exact l2.1 | exact l2.2.2.1 | exact l2.2.1)) (by dsimp only at hp9 ⊢; omega))))))
  refine wpAny_call ?_
  k_dflt walk_at "mine enter"
  walk_at "mine steps"
  exact ret _ _ _ _ _ _ (by rw [← hp.done hd]; exact hp.dat) (by have := hp.ln; omega) hp.lt l1 (by assumption) (by assumption)
end Mine
theorem Mine.kw_Pieces_2 : True := by
  k_with "call ref" => (k_dflt (show wpAny _ _ (call (Value.ref 357) [_]) _ _ _); k_dflt (refine' pieces_ok ?zzB ?zzF ?zzX ?zzT ?zzk ?zzp ?zzu ?zzN ?zzhlen ?zzhas ?_; walk_at "mine tail"; (case zzhlen => assumption); (case zzhas => assumption)); (intro t7 ts7 vs7 nn7 h7 tk7 D7 l7 l8 l9 F7 N7; (try k_lt l9)))
  trivial
end
section
theorem Mine.wr_Names : True := by
  k_with_none
  k_with "call ref" => k_extra "call ref last"
  k_with "om" => with_reducible first | assumption | exact Nat.add_sub_cancel_left _ _ | exact Int.ofNat_lt.mpr (by assumption) | exact Int.ofNat_le.mpr (by assumption) | exact Int.ofNat_lt.mp (by assumption) | exact Int.ofNat_le.mp (by assumption) | exact o_lt (by assumption) | exact o_nlt (by assumption) | exact o_63 (by assumption) (by assumption) (by with_unfolding_all exact rfl) | exact o_s2 (by assumption) | exact o_s1 (by assumption) (by assumption) | exact o_s3 (by assumption) (by assumption) | exact o_mt (by assumption) | exact o_f1 (by assumption) | exact Nat.le_of_lt (by assumption) | exact Nat.not_le.mp (by assumption) | exact o_sub (by assumption) | exact o_big1 (by assumption) (by with_unfolding_all exact rfl) | exact Nat.le_trans (Nat.le_add_right _ _) (by assumption) | exact Int.natCast_nonneg _ | exact Nat.le_trans (by assumption) (by assumption) | exact o_big (by assumption) (by assumption) (by with_unfolding_all exact rfl) | exact o_ltM (by assumption) (by assumption) | exact o_tr (by assumption) (by assumption) (by assumption) | exact Nat.lt_of_lt_of_le (by assumption) (by assumption) | exact Nat.lt_of_le_of_lt (by assumption) (by assumption) | exact Nat.ne_of_lt (by assumption) | exact Nat.ne_of_gt (by assumption) | exact o_mm (by assumption) | exact o_mm2 (by assumption) (by assumption) | exact o_mn | exact o_ml (by assumption) (by assumption) | exact o_and (by assumption) | rfl
  k_with "kst" => k_extra "mine kst"
  k_with "kst" => k_extra "mine same3"
  k_with "ksw" => k_extra "mine ksw"
  k_with "ksw" => k_extra "mine same"
  k_with "mine enter" => (refine' code_def ?k1q140 ?k2q140 ?k3q140 ?k4q140 ?k5q140 ?kAq140 ?kFq140 ?kKq140 ?k6q140 ?k7q140 ?k8q140 ?k9q140 ?kBq140 ?_ ?c2q140 ?c3q140 ?c4q140 ?c5q140; (case kAq140 => exact rfl); (case kFq140 => exact rfl); (case kKq140 => first | exact rfl | assumption); (case k1q140 => k_asm); (case k2q140 => k_asm); (case k3q140 => k_asm); (case k4q140 => k_asm); (case k5q140 => k_asm); (case k6q140 => k_is); (case k7q140 => k_is); (case k8q140 => first | (refine' rm0 ?rhq140; (case rhq140 => assumption)) | (refine' rm1 ?rhq140 ?rlq140; (case rhq140 => assumption); (case rlq140 => exact rfl)) | (refine' rm2 ?rhq140 ?rlq140; (case rhq140 => assumption); (case rlq140 => exact rfl)) | ktr_room); (case k9q140 => first | exact BindsTo.of_eq rfl | exact binds_K (by k_in) rfl (by k_is) rfl rfl rfl); (case c5q140 => decide); (case kBq140 => exact locs rfl); (case c2q140 => exact rfl); (case c3q140 => exact rfl); (case c4q140 => exact rfl); k_whole; intro g' L' h' FG'; (refine (?_ : let mk := _; Fr _ _ _ mk → _)); intro mk F' N' B' X' T'; (refine (?_ : let nk := _; let ak := _; let qk := _; let ek := _; let sk := _; wpAny _ ak (execs _ nk) qk ek sk)); intro nk ak qk ek sk)
  k_with "subscriptTail Name Attribute str int" => ((with_reducible show wpAny _ _ (subscriptTail _ _ (Value.str _ _) (Value.int _ _)) _ _ _); refine item_str (fitsSsize_of (N := 9223372036854775808) (by omega) (by omega) (Int.le_refl _)) (by omega) (by omega) ?_; intro _)
  k_with "mine inline" => (k_dflt (first | (refine' call_cls ?k1q142 ?k2q142 ?k3q142 ?k4q142 ?k5q142 ?k6q142 ?_; (case k1q142 => k_asm); (case k2q142 => k_asm); (case k3q142 => k_asm); (case k4q142 => k_is); (case k5q142 => k_is); (case k6q142 => k_is); k_whole; intro x' d' h' F' N' l1 l2; (try k_lt l1); (try k_lt2 l2); (try k_sweep); walk_at "mine enter") | (refine wpAny_call ?_; walk_at "mine enter")))
  k_with "ite" => first | with_reducible refine ite_tt ?_ | with_reducible refine ite_ff ?_
  k_with "mine room" => first | (refine' rm2 ?rhq144 ?rlq144; (case rhq144 => assumption); (case rlq144 => exact rfl)) | decide +kernel | omega | (simp only [depth_deeper, units_deeper]; omega) | (dsimp only [ktrTop]; omega) | (dsimp only [Around.deeper, ktrTop]; omega) | ktr_room | ktr_units
  k_with "mine tail" => ((case zzB => k_asm); (case zzF => k_asm); (case zzX => k_asm); (case zzT => k_asm); (case zzN => k_asm); (case zzk => first | exact rfl | assumption); (case zzp => walk_at "mine room"); (case zzu => walk_at "mine room"))
  k_with "isTrue Compare" => (k_here; first | ((with_reducible show wpAny _ _ (isTrue (PySem.Expr.Compare (PySem.Expr.Name _ _) [PySem.CmpOp.Eq] [PySem.Expr.Constant (PySem.Const.str _) _ _] _) _ _) _ _ _); k_dflt (refine' tst_eq ?zaq146 ?zbq146 ?zcq146 ?zmq146 ?zFq146 ?zvq146 ?_; (case zFq146 => k_asm); (case zaq146 => rfl); (case zbq146 => rfl); (case zcq146 => decide); (case zvq146 => rfl); (case zmq146 => with_unfolding_all rfl); k_whole)) | ((with_reducible show wpAny _ _ (isTrue (PySem.Expr.Compare (PySem.Expr.Name _ _) [PySem.CmpOp.NotEq] [PySem.Expr.Constant (PySem.Const.str _) _ _] _) _ _) _ _ _); k_dflt (refine' tst_ne ?zaq146 ?zbq146 ?zcq146 ?zmq146 ?zFq146 ?zvq146 ?_; (case zFq146 => k_asm); (case zaq146 => rfl); (case zbq146 => rfl); (case zcq146 => decide); (case zvq146 => rfl); (case zmq146 => with_unfolding_all rfl); k_whole)))
  k_with "eval BinOp" => (k_here; (with_reducible show wpAny _ _ (eval (PySem.Expr.BinOp (PySem.Expr.Name _ _) PySem.Operator.Add (PySem.Expr.Constant (PySem.Const.int _) _ _) _) _) _ _ _); k_dflt (refine' add_nc ?zaq147 ?zbq147 ?zcq147 ?zFq147 ?zvq147 ?_; (case zFq147 => k_asm); (case zaq147 => rfl); (case zbq147 => rfl); (case zcq147 => decide); (case zvq147 => rfl); k_whole))
  k_with "mine steps" => repeat' (first | ((first | (fail_if_success (fail_if_success k_unfold)) | (fail_if_success (fail_if_success k_fold))); (refine (?_ : let qk := _; let sk := _; wpAny _ _ _ qk _ sk)); intro qk sk) | ((fail_if_success (fail_if_success k_unfold)); (refine (?_ : let sk := _; LeaveK _ _ _ _ _ _ sk)); intro sk) | (k_unfold; (try dsimp only)) | walk1 | (k_end; wrow_close) | (dsimp only [List.nil_append, List.cons_append]; walk1) | (leave1; (try dsimp only)) | fail "no step")
  k_with "execs cons" => (with_reducible refine wpAny_execs_cons ?_)
  k_with "eval Name" => (k_dflt (refine' nmL ?zaq150 ?zbq150 ?zdq150 ?zFq150 ?zvq150 ?_; (case zFq150 => k_asm); (case zaq150 => rfl); (case zbq150 => rfl); (case zvq150 => rfl); (case zdq150 => decide); k_whole))
  k_with "storeName" => (k_dflt (refine' stL ?zaq151 ?zbq151 ?zFq151 ?zNq151 ?_; (case zFq151 => k_asm); (case zNq151 => k_asm); (case zaq151 => rfl); (case zbq151 => rfl); k_whole; intro h' mk F' N'; (try k_sweep)))
  k_with "LeaveK" => (k_dflt (refine' leaveK_ ?k1q152 ?k2q152 ?_; (case k1q152 => k_asm); (case k2q152 => k_asm); k_whole); intro kF kN; (try dsimp only [InitBack]); (try refine ⟨rfl, ?_⟩))
  k_with "mine kst" => (intro z h1 h2 h3; (try dsimp +zetaDelta only [kstB]); (try simp only [List.forall_mem_cons, List.not_mem_nil, false_implies, implies_true, and_true, ne_eq] at h2); first | rfl | (simp [h1]; done) | (simp [h1, h2]; done) | ((try simp only [List.contains_cons, List.contains_nil, Bool.or_false, Bool.or_eq_false_iff, beq_eq_false_iff_ne, ne_eq] at h3); first | (simp [h1, h3]; done) | (simp [h1, h2, h3]; done)))
  k_with "mine same3" => (k_dflt (refine sn_end3 ?_; (repeat (first | (with_reducible exact sn_refl) | (refine' sn_in ?_ ?hpq154 ?hsq154; (case hpq154 => exact rfl); (case hsq154 => exact rfl)) | (refine' sn_upd ?_ ?hxq154; (case hxq154 => exact rfl)))); done))
  k_with "mine ksw" => (intro z h2 h3; (try dsimp +zetaDelta only [kstB]); (try simp only [List.forall_mem_cons, List.not_mem_nil, false_implies, implies_true, and_true, ne_eq] at h2); (try simp only [List.contains_cons, List.contains_nil, Bool.or_false, Bool.or_eq_false_iff, beq_eq_false_iff_ne, ne_eq] at h3); first | rfl | (simp [h2]; done) | (simp [h3]; done) | (simp [h2, h3]; done))
  k_with "mine same" => (k_dflt (refine sn_end ?_; (repeat (first | (with_reducible exact sn_refl) | (refine' sn_in ?_ ?hpq156 ?hsq156; (case hpq156 => exact rfl); (case hsq156 => exact rfl)) | (refine' sn_upd ?_ ?hxq156; (case hxq156 => exact rfl)))); done))
  w_top off
  trivial
theorem Mine.kw_mNames_1 : True := by
  k_with "call type:int" => ((with_reducible show wpAny _ _ (call (Value.type "int") [Value.str _ _, Value.int _ _]) _ _ _); refine call_int16 (by first | assumption | exact isHx_mem (by assumption) | exact isOc_isHx (by assumption)) ?_)
  k_with "call ref" => (k_dflt (show wpAny _ _ (call (Value.ref 233) [_]) _ _ _); k_dflt (refine' hex_escape_ok ?zzB ?zzF ?zzX ?zzT ?zzk ?zzp ?zzu ?zzN ?zzhx ?_; walk_at "mine tail"; (case zzhx => omega)); intro _ h' tk' F' N')
  k_with "call ref" => (k_dflt (show wpAny _ _ (call (Value.ref 240) [_, _]) _ _ _); k_dflt (refine' escaped_sign_ok ?zzB ?zzF ?zzX ?zzT ?zzk ?zzp ?zzu ?zzN ?zzhx ?_; walk_at "mine tail"; (case zzhx => omega)); intro _ h' tk' F' N')
  trivial
namespace Mine
noncomputable abbrev nmsD (t1 t2 t3 : Tok) : Obj := listOf #[.str (PySem.Str.ofString "INITIAL") t1, .str (PySem.Str.ofString "A") t2, .str (PySem.Str.ofString "B_2") t3] 0
set_option maxHeartbeats 1600000 in
theorem names_ok {w : World} {mean : ExcName → Option Value} {mg mb : PySem.Str → Option Value} {dp un : Nat} {gd : Option (List Code)} {cn : PySem.Str} {cs : Scope} {a : Addr} {ccd : Value} {cl : List (PySem.Str × Addr)} {outer : List Env} {A₀ : Around} {base h₀ : Heap} {L : Addr} {m : PySem.Str → Option Value} {s : Shared} {Q E : Value → Shared → Prop} {news : List (Addr × Obj)} (B : Below A₀ base outer h₀) (F : Fr h₀ L s.heap m) (X : (Mine.hd.heap_1_39 w.params).In h₀) (T : Top Mine.hd.view_1_40 lo mean mg mb h₀) (hk : cs.kind = .function) (hdp : dp + 5 < recursionLimit) (hun : un + 50 < cLine) (N : News h₀ L s.heap news)
  (ret : ∀ (ln : Addr) (n1 n2 n3 : Tok) (h' : Heap) (tk' : Nat), Fr h₀ L h' m → News h₀ L h' ((ln, nmsD n1 n2 n3) :: news) → Q (.ref ln) { s with heap := h', toks := tk' })
  : wpAny (model PySem.Challenge.rw_nn0359_01.row.prog w) (ktrTop dp un gd cn cs L a ccd cl outer) (call (.ref 323) []) Q E s := by
  refine wpAny_call ?_
  k_dflt walk_at "mine enter"
  walk_at "mine steps"
  exact ret _ _ _ _ _ _ (by assumption) (by assumption)
section
variable {prog : Program} {w : World} {A : Around} {E : Value → Shared → Prop} {s : Shared} {h₀ : Heap} {L l : Addr} {news : List (Addr × Obj)}
theorem notin_nms {x : PySem.Str} {t n1 n2 n3 : Tok} {n : Nat} {b : Bool} {Q : Value → Shared → Prop} (N : News h₀ L s.heap news) (hm : (l, listOf #[.str (PySem.Str.ofString "INITIAL") n1, .str (PySem.Str.ofString "A") n2, .str (PySem.Str.ofString "B_2") n3] n) ∈ news)
    (e : ([PySem.Str.ofString "INITIAL", PySem.Str.ofString "A", PySem.Str.ofString "B_2"].any fun y => y == x) = b) (h : Q (.bool (!b)) s) : wpAny (model prog w) A (compareOp .NotIn (.str x t) (.ref l)) Q E s := by
  refine SeqAt.notIn_listAt (items := #[.str (PySem.Str.ofString "INITIAL") n1, .str (PySem.Str.ofString "A") n2, .str (PySem.Str.ofString "B_2") n3]) (fun v => match v with | .str y _ => y == x | _ => false) ⟨_, (N _ hm).1, rfl, n, rfl⟩ (fun y hy => ?_) ?_
  · simp only [List.mem_toArray, List.mem_cons, List.not_mem_nil, or_false] at hy
    rcases hy with rfl | rfl | rfl <;> exact SeqAt.EqAt.str_str _ _ _ _
  · rw [show (#[Value.str (PySem.Str.ofString "INITIAL") n1, .str (PySem.Str.ofString "A") n2, .str (PySem.Str.ofString "B_2") n3].any fun v => match v with | .str y _ => y == x | _ => false) = b by rw [← e, List.any_toArray]; simp only [List.any_cons, List.any_nil]]
    exact h
end
end Mine
theorem Mine.kw_Names_1 : True := by
  k_with "call ref" => (k_dflt (show wpAny _ _ (call (Value.ref 323) []) _ _ _); k_dflt (refine' names_ok ?zzB ?zzF ?zzX ?zzT ?zzk ?zzp ?zzu ?zzN ?_; walk_at "mine tail"); (intro ln7 n17 n27 n37 h7 tk7 F7 N7))
  k_with "compareOp NotIn str ref" => (k_here; k_dflt (refine' notin_nms ?Nq139 ?mq139 ?eq139 ?_; (case Nq139 => k_asm); (case mq139 => k_mem); (case eq139 => with_reducible assumption)); dsimp only [Bool.not_true, Bool.not_false])
  trivial
end
section
namespace Mine
/-- a Position's dict -/
noncomputable abbrev posD (h1 h2 h3 : Int) (t1 t2 t3 t4 t5 t6 : Tok) (j cv : Int) : Obj :=
  dictOf [⟨h1, .str "offset" t1, .int j t2⟩, ⟨h2, .str "line" t3, .int 1 t4⟩, ⟨h3, .str "column" t5, .int cv t6⟩] 3
theorem nl_ne {TX : PySem.Str} (hnl : (10 : Nat) ∉ tl TX) {i : Nat} (hi : (i : Int) < TX.length) : (Txt.item TX (i : Int) == PySem.Str.ofString "\n") = false := by
  obtain ⟨x, hx, e⟩ := lt_cons hi
  rw [e, one_lit (y := 10) (by decide +kernel)]
  apply decide_eq_false
  rintro rfl
  exact hnl (List.mem_of_getElem? (drop_cons_get hx).1)
end Mine
end
section
set_option maxRecDepth 100000
namespace Mine
theorem pieces_len_le : ∀ (f : Nat) (R : List Nat) (n : Nat), (piecesGo f R n).length ≤ R.length
  | 0, _, _ => Nat.zero_le _
  | _ + 1, [], _ => Nat.zero_le _
  | f + 1, c :: r, n => by
    simp only [piecesGo]
    have hp := pieceK_pos (c :: r)
    split
    · exact Nat.le_succ_of_le (pieces_len_le f r _)
    · have := pieces_len_le f ((c :: r).drop (pieceK (c :: r)).1) (n + (pieceK (c :: r)).1)
      rw [List.length_drop] at this
      simp only [List.length_cons] at this ⊢
      omega
theorem stepR_worth {R : List Nat} {n : Nat} {wa : Want} (hw : wantR (nameR R) = some wa) (hno : wa ≠ .no) :
    stepR R n = worthR (nameR R) wa ((R.drop (nameR R).length).dropWhile isBl) (n + (nameR R).length + run isBl (R.drop (nameR R).length)) := by
  simp only [stepR, hw]
theorem lawWorth_len {T : List Nat} {wa : Want} {ps ps2 : List Pc} {wt : Wth} (h : lawWorth T wa ps = .ok (wt, ps2)) : ps2.length ≤ ps.length := by
  rcases ps with _ | ⟨⟨p, k, w⟩, ps⟩
  · cases wa <;> simp only [lawWorth] at h <;> first | (cases h; done) | (injection h with h; injection h with h1 h2; rw [h2]; exact Nat.le_refl _)
  · cases wa <;> simp only [lawWorth] at h <;> (repeat' split at h) <;> first | (cases h; done) | (injection h with h; injection h with h1 h2; rw [← h2]; first | exact Nat.le_refl _ | exact Nat.le_succ _)
/-- the law's reading is what steps_at reads -/
theorem law_eq {T : List Nat} (hT : ∀ c ∈ T, c < 512) : ∀ (f F n : Nat) (acc : List (List Nat × Wth)), n ≤ T.length → T.length < n + f → (piecesOf (T.drop n) n).length < F →
    lawGo T F (piecesOf (T.drop n) n) acc = stepsGo T f acc n
  | 0, _, n, _, hn, hf, _ => by omega
  | _, 0, _, _, _, _, hF => absurd hF (Nat.not_lt_zero _)
  | f + 1, F + 1, n, acc, hn, hf, hF => by
    obtain ⟨hm, hp, hR⟩ := pieces_at T n hn
    rw [hp] at hF ⊢
    simp only [stepsGo]
    have hmn : n ≤ n + run isBl (T.drop n) := Nat.le_add_right _ _
    generalize n + run isBl (T.drop n) = m at *
    clear hp
    rcases hR with ⟨hR, hme⟩ | ⟨c, r, hR, hbl⟩
    · rw [hR, if_pos rfl, pieces_nil]
      simp only [lawGo, hme]
    · rw [hR, if_neg (List.cons_ne_nil _ _)]
      rw [hR] at hF
      rw [pieces_cons r m hbl] at hF ⊢
      simp only [lawGo]
      by_cases hen : endsR acc = true
      · rw [if_pos hen, if_pos hen]
      rw [if_neg hen, if_neg hen]
      have hadd : ∀ j, T.drop (m + j) = (c :: r).drop j := fun j => drop_add hR
      rcases hnm : wantR (nameR (c :: r)) with _ | wa
      · -- no word
        have hst : stepR (c :: r) m = .error m := by simp only [stepR, hnm]
        rw [hst]
        rcases piece_cases c r with ⟨hd, hk⟩ | ⟨hd, hn', hk⟩ | ⟨hn', h39, x, k, hl, hk⟩ | ⟨hn', h39, hk⟩
        · rw [hk, if_pos fig_name]
        · rw [hk, if_neg (fun h => h rfl), take_run, ← name_piece hd hn', hnm]
        · rw [hk, if_pos lit_name]
        · rw [hk, if_pos (one_name c)]
      · have hne := wantR_ne hnm
        obtain ⟨hd, hn', hk⟩ : isDg c = false ∧ isNm c = true ∧ pieceK (c :: r) = (run isNm (c :: r), wd "name") := by
          rcases piece_cases c r with ⟨hd, hk⟩ | ⟨hd, hn', hk⟩ | ⟨hn', _⟩ | ⟨hn', _⟩
          · exact absurd (no_name (.inl hd)) hne
          · exact ⟨hd, hn', hk⟩
          · exact absurd (no_name (.inr hn')) hne
          · exact absurd (no_name (.inr hn')) hne
        have hnr := name_piece (r := r) hd hn'
        rw [hk] at hF ⊢
        rw [if_neg (fun h => h rfl), take_run, ← hnr, hnm]
        have hrun : run isNm (c :: r) = (nameR (c :: r)).length := by rw [hnr]
        rw [hrun] at hF ⊢
        have hpos : 0 < (nameR (c :: r)).length := List.length_pos_iff.mpr hne
        have hle := nameR_len (c :: r)
        have hdl : (T.drop m).length = T.length - m := List.length_drop
        have hm1 : m + (nameR (c :: r)).length ≤ T.length := by rw [hR] at hdl; omega
        have key : (∃ j, stepR (c :: r) m = .error j ∧ lawWorth T wa (piecesOf (T.drop (m + (nameR (c :: r)).length)) (m + (nameR (c :: r)).length)) = .error j) ∨
            ∃ wt e, stepR (c :: r) m = .ok ((nameR (c :: r), wt), e) ∧ m < e ∧ e ≤ T.length ∧ lawWorth T wa (piecesOf (T.drop (m + (nameR (c :: r)).length)) (m + (nameR (c :: r)).length)) = .ok (wt, piecesOf (T.drop e) e) := by
          by_cases hno : wa = .no
          · subst hno
            exact .inr ⟨.no, m + (nameR (c :: r)).length, by simp only [stepR, hnm], by omega, hm1, rfl⟩
          · have hw := worth_eq (T := T) (wo := nameR (c :: r)) (wa := wa) (m + (nameR (c :: r)).length) hm1 hno (fun _ _ => .error 0) []
            have hs := stepR_worth (R := c :: r) (n := m) hnm hno
            rw [drop_run_at isBl rfl, hadd, ← hs] at hw
            rw [hadd]
            rcases hst : stepR (c :: r) m with j | ⟨st, e⟩
            · rw [hst] at hw
              exact .inl ⟨j, rfl, hw⟩
            · rw [hst] at hw
              obtain ⟨wt, hw1, hw2⟩ := hw
              subst hw1
              have hps := stepR_pos (R := c :: r) (fun x hx => hT x (List.mem_of_mem_drop (hR ▸ hx))) hst
              rw [hR] at hdl
              exact .inr ⟨wt, e, rfl, hps.1, by omega, hw2⟩
        rw [hadd] at key
        dsimp only at hF ⊢
        rcases key with ⟨j, hst, hl⟩ | ⟨wt, e, hst, hme, heT, hl⟩
        · rw [hst, hl]
        · rw [hst, hl]
          simp only
          obtain ⟨he2, hp2, hR2⟩ := pieces_at T e heT
          have hlen : (piecesOf (T.drop e) e).length < F := by
            have := lawWorth_len hl
            simp only [List.length_cons] at hF
            omega
          rw [hp2] at hlen ⊢
          have hee : e ≤ e + run isBl (T.drop e) := Nat.le_add_right _ _
          generalize e + run isBl (T.drop e) = e2 at *
          clear hp2
          rcases hR2 with ⟨hR2, he2e⟩ | ⟨c2, r2, hR2, hbl2⟩
          · rw [hR2, if_pos rfl, pieces_nil]
            have := law_eq hT f F e2 ((nameR (c :: r), wt) :: acc) he2 (by omega) (by rw [hR2]; exact Nat.lt_of_le_of_lt (Nat.zero_le _) hlen)
            rw [← this, hR2]
            rfl
          · rw [hR2, if_neg (List.cons_ne_nil _ _), pieces_cons r2 e2 hbl2]
            rw [hR2, pieces_cons r2 e2 hbl2] at hlen
            simp only [lawAfter, List.head?_cons, Option.some.injEq]
            by_cases h59 : c2 = 59
            · subst h59
              have hk2 : pieceK (59 :: r2) = (1, [59]) := by
                simp only [pieceK, nm_59, not_dg_of nm_59, Bool.false_eq_true, if_false]
                rw [if_neg (by decide)]
              rw [hk2] at hlen ⊢
              have hr2 : T.drop (e2 + 1) = r2 := drop_add hR2
              have h2 : (T.drop e2).length = T.length - e2 := List.length_drop
              rw [hR2, List.length_cons] at h2
              have hd1 : (59 :: r2).drop 1 = r2 := rfl
              rw [if_pos rfl, if_pos rfl, hd1, ← hr2]
              rw [hd1, ← hr2] at hlen
              exact law_eq hT f F (e2 + 1) _ (by omega) (by omega) (by simp only [List.length_cons] at hlen; omega)
            · rw [if_neg h59, if_neg]
              rcases piece_cases c2 r2 with ⟨hd, hk⟩ | ⟨hd, hn', hk⟩ | ⟨hn', h39, x, k, hl, hk⟩ | ⟨hn', h39, hk⟩
              · rw [hk]; exact fig_59
              · rw [hk]; exact name_59
              · rw [hk]; exact lit_59
              · rw [hk]; intro h; injection h with h; exact h59 h
end Mine
end
section
set_option maxRecDepth 100000
namespace Mine
theorem numL_eq (k : Nat) : numL k = (Nat.toDigits 10 k).map Char.toNat := PySem.W.KIN.signs_num k
theorem isDg_of {c : Nat} (h : 48 ≤ c ∧ c ≤ 57) : isDg c = true := (isDg_iff c).mpr h
theorem numL_dg (k : Nat) : ∀ c ∈ numL k, isDg c = true := by
  intro c hc
  rw [numL_eq] at hc
  obtain ⟨d, hd, rfl⟩ := List.mem_map.mp hc
  exact isDg_of (PyProof.Rows.digit_range (Nat.isDigit_of_mem_toDigits (by decide) (by decide) hd))
theorem numL_ne (k : Nat) : numL k ≠ [] := by
  rw [numL_eq]
  intro e
  have h := PySem.toDigits_len_ge 10 k
  rw [List.map_eq_nil_iff.mp e] at h
  exact absurd h (by decide)
theorem numL_len {k : Nat} (h : k < 1000000) : (numL k).length ≤ 6 := by
  rw [numL_eq, List.length_map]
  exact PyProof.Rows.digits10_le (by decide) h
theorem numL_val (k : Nat) : decN (numL k) = k := by rw [numL_eq]; exact PySem.W.KIN.val_back k
theorem bl_of_nm {l t : List Nat} (h : ∀ c r, l = c :: r → isBl c = false) (hne : l ≠ []) : (32 :: (l ++ t)).dropWhile isBl = l ++ t ∧ run isBl (32 :: (l ++ t)) = 1 := by
  rcases l with _ | ⟨x, l⟩
  · exact absurd rfl hne
  · have hx := h x l rfl
    have h32 : isBl 32 = true := by decide +kernel
    constructor
    · rw [List.dropWhile_cons_of_pos h32, List.cons_append, List.dropWhile_cons_of_neg (by rw [hx]; decide)]
    · rw [run_cons_pos h32, List.cons_append, run_cons_neg hx]
/-- reading a shown step -/
theorem step_back {b : Nat} {wo : List Nat} {wt : Wth} (h : StepOk b (wo, wt)) (t : List Nat) (ht : t = [] ∨ ∃ r, t = 59 :: r) (n : Nat) :
    stepR (showS (wo, wt) ++ t) n = .ok ((wo, wt), n + (showS (wo, wt)).length) := by
  obtain ⟨wa, hw, hwt, -⟩ := h
  have hwo := (word_name hw).1
  have htn : ∀ c r, t = c :: r → isNm c = false := fun c r e => by
    rcases ht with rfl | ⟨r', rfl⟩
    · cases e
    · injection e with e; rw [← e]; exact nm_59
  have h32 : ∀ l c r, (32 :: (l : List Nat)) = c :: r → isNm c = false := fun l c r e => by
    injection e with e; rw [← e]; decide +kernel
  have hdg59 : ∀ c r, t = c :: r → isDg c = false := fun c r e => not_dg_of (htn c r e)
  cases wt with
  | no =>
    have hwa : wa = .no := by cases wa <;> first | rfl | exact hwt.elim
    subst hwa
    show stepR (wo ++ t) n = .ok ((wo, .no), n + wo.length)
    have hnm := name_back hwo htn
    simp only [stepR, hnm, hw]
  | num k =>
    have hwa : wa = .num := by cases wa <;> first | rfl | exact hwt.elim
    subst hwa
    have hk : k < 1000000 := hwt
    show stepR ((wo ++ 32 :: numL k) ++ t) n = .ok ((wo, .num k), n + (wo ++ 32 :: numL k).length)
    rw [List.append_assoc, List.cons_append]
    have hnm := name_back hwo (h32 (numL k ++ t))
    obtain ⟨hb1, hb2⟩ := bl_of_nm (l := numL k) (t := t) (fun c r e => dg_bl (numL_dg k c (by rw [e]; exact .head _))) (numL_ne k)
    rw [stepR_worth (by rw [hnm]; exact hw) (by intro e; cases e), hnm, List.drop_left, hb1, hb2]
    have htw := tw_app (numL_dg k) hdg59
    have hne := numL_ne k
    have hlen := numL_len hk
    simp only [worthR, htw, numL_val, run]
    rw [if_neg (fun h => h.elim hne (by omega))]
    simp only [List.length_append, List.length_cons]
    congr 2; omega
  | txt l =>
    show stepR ((wo ++ 32 :: l) ++ t) n = .ok ((wo, .txt l), n + (wo ++ 32 :: l).length)
    rw [List.append_assoc, List.cons_append]
    have hnm := name_back hwo (h32 (l ++ t))
    have key : nameOk l → ∀ cond : Bool, (cond = true → nmsL.contains l = true) → nameStep wo cond (l ++ t) (n + wo.length + 1) = .ok ((wo, .txt l), n + (wo ++ 32 :: l).length) ∧ (l ++ t).head? ≠ some 39 ∧ (32 :: (l ++ t)).dropWhile isBl = l ++ t ∧ run isBl (32 :: (l ++ t)) = 1 := fun hl cond hc => by
      have hnl := name_back hl htn
      refine ⟨?_, ?_, bl_of_nm (fun c r e => nm_bl (hl.2.1 c (by rw [e]; exact .head _))) hl.1⟩
      · unfold nameStep
        rw [hnl, if_neg hl.1, if_neg]
        · simp only [List.length_append, List.length_cons]; congr 2; omega
        · rintro ⟨h1, h2⟩; rw [hc h1] at h2; cases h2
      · obtain ⟨h1, h2, h3⟩ := hl
        rcases l with _ | ⟨x, l⟩
        · exact absurd rfl h1
        · intro e
          injection e with e
          have := h2 x (.head _)
          rw [e] at this; exact absurd this (by decide +kernel)
    cases wa with
    | no => exact hwt.elim
    | num => exact hwt.elim
    | cond =>
      obtain ⟨hl, hm⟩ := hwt
      obtain ⟨k1, k2, k3, k4⟩ := key hl true fun _ => hm
      rw [stepR_worth (by rw [hnm]; exact hw) (by intro e; cases e), hnm, List.drop_left, k3, k4]
      exact k1
    | kind =>
      rw [stepR_worth (by rw [hnm]; exact hw) (by intro e; cases e), hnm, List.drop_left]
      rcases hwt with hl | ⟨c, hc, rfl⟩
      · obtain ⟨k1, k2, k3, k4⟩ := key hl false fun e => by cases e
        rw [k3, k4]
        simp only [worthR]
        rw [if_neg k2]
        exact k1
      · have h39 : isBl 39 = false := by decide +kernel
        obtain ⟨hb1, hb2⟩ := bl_of_nm (l := 39 :: escS c ++ [39]) (t := t) (fun c r e => by injection e with e; rw [← e]; exact h39) (by simp)
        rw [hb1, hb2]
        simp only [worthR]
        rw [if_pos (by simp)]
        have e : (39 :: escS c ++ [39] ++ t).drop 1 = escS c ++ 39 :: t := by simp
        rw [e, quo_lit, lit_back]
        simp only [List.length_append, List.length_cons, List.length_nil]
        congr 2; omega
end Mine
end
section
set_option maxRecDepth 100000
namespace Mine
/-- the steps' text -/
noncomputable def showL (l : List (List Nat × Wth)) : List Nat := glue [59, 32] (l.map showS)
theorem showS_head {b : Nat} {st : List Nat × Wth} (h : StepOk b st) : ∃ c r, showS st = c :: r ∧ isBl c = false := by
  obtain ⟨wo, wt⟩ := st
  obtain ⟨wa, hw, -, -⟩ := h
  have hwo := (word_name hw).1
  rcases wo with _ | ⟨x, wo⟩
  · exact absurd rfl hwo.1
  · have hx := nm_bl (hwo.2.1 x (.head _))
    cases wt <;> exact ⟨x, _, rfl, hx⟩
theorem showL_cons (st : List Nat × Wth) (l : List (List Nat × Wth)) : showL (st :: l) = showS st ++ (match l with | [] => [] | s2 :: l2 => 59 :: 32 :: showL (s2 :: l2)) := by
  cases l with
  | nil => simp [showL, glue]
  | cons a l => simp [showL, glue]
/-- reading the steps' text -/
theorem steps_back {b : Nat} {T : List Nat} : ∀ (l : List (List Nat × Wth)) (st : List Nat × Wth) (bl : List Nat) (acc : List (List Nat × Wth)) (f n : Nat), (bl = [] ∨ bl = [32]) → T.drop n = bl ++ showL (st :: l) →
    (∀ s ∈ st :: l, StepOk b s) → (∀ s ∈ (st :: l).dropLast, endsR [s] = false) → endsR acc = false → l.length + 2 ≤ f → stepsGo T f acc n = .ok (acc.reverse ++ st :: l)
  | l, st, bl, acc, 0, n, _, _, _, _, _, hf => by omega
  | l, st, bl, acc, f + 1, n, hbl, hT, hok, hend, hacc, hf => by
    obtain ⟨wo, wt⟩ := st
    have hst := hok _ (.head _)
    obtain ⟨c, r, hcr, hb⟩ := showS_head hst
    have h32 : isBl 32 = true := by decide +kernel
    have hT0 : T.drop n = bl ++ showL ((wo, wt) :: l) := hT
    rw [showL_cons] at hT
    generalize htl : (match l with | [] => ([] : List Nat) | s2 :: l2 => 59 :: 32 :: showL (s2 :: l2)) = tail at hT
    have hrun : run isBl (T.drop n) = bl.length := by
      rw [hT, hcr]
      rcases hbl with rfl | rfl
      · exact run_cons_neg hb
      · rw [List.cons_append, run_cons_pos h32]; show run isBl (c :: _) + 1 = _; rw [run_cons_neg hb]; rfl
    have hm : T.drop (n + bl.length) = showS (wo, wt) ++ tail := by rw [drop_add hT, List.drop_left]
    simp only [stepsGo]
    rw [hrun, hm]
    rw [if_neg (by rw [hcr]; simp), if_neg (by rw [hacc]; decide)]
    have htail : tail = [] ∨ ∃ r, tail = 59 :: r := by
      cases l with
      | nil => exact .inl htl.symm
      | cons s2 l2 => exact .inr ⟨_, htl.symm⟩
    rw [step_back hst tail htail]
    simp only
    have he : T.drop (n + bl.length + (showS (wo, wt)).length) = tail := by rw [drop_add hm, List.drop_left]
    rw [he]
    have ht0 : run isBl tail = 0 := by
      rcases htail with rfl | ⟨r', rfl⟩
      · rfl
      · exact run_cons_neg (by decide +kernel)
    rw [ht0, Nat.add_zero, he]
    rcases l with _ | ⟨s2, l2⟩
    · have htn : tail = [] := htl.symm
      rw [if_pos htn]
      rcases f with _ | f
      · simp at hf
      · simp only [stepsGo]
        rw [he, htn]
        have hrn : run isBl ([] : List Nat) = 0 := rfl
        rw [hrn, Nat.add_zero, he, htn, if_pos rfl, if_neg (List.cons_ne_nil _ _)]
        simp
    · have htc : tail = 59 :: 32 :: showL (s2 :: l2) := htl.symm
      rw [if_neg (by rw [htc]; simp), if_pos (by rw [htc]; rfl)]
      have hnx : T.drop (n + bl.length + (showS (wo, wt)).length + 1) = [32] ++ showL (s2 :: l2) := by rw [drop_add he, htc]; rfl
      have := steps_back l2 s2 [32] ((wo, wt) :: acc) f _ (.inr rfl) hnx (fun s hs => hok s (.tail _ hs)) (fun s hs => hend s (by rw [List.dropLast_cons₂]; exact .tail _ hs)) (hend (wo, wt) (by rw [List.dropLast_cons₂]; exact .head _)) (by simp at hf; omega)
      rw [this]
      simp
/-- what steps_at gives is so -/
structure AccOk (b : Nat) (acc : List (List Nat × Wth)) : Prop where
  ok : ∀ s ∈ acc, StepOk b s
  nd : ∀ s ∈ acc.tail, endsR [s] = false
theorem ends_hd (s : List Nat × Wth) (l : List (List Nat × Wth)) : endsR (s :: l) = endsR [s] := by obtain ⟨_, _⟩ := s; rfl
theorem dec_lt : ∀ (l : List Nat), (∀ c ∈ l, isDg c = true) → l.length ≤ 6 → decN l < 1000000 := by
  have key : ∀ (l : List Nat) (a : Nat), (∀ c ∈ l, isDg c = true) → l.foldl (fun acc c => acc * 10 + (c - 48)) a < (a + 1) * 10 ^ l.length := by
    intro l
    induction l with
    | nil => intro a _; simp
    | cons x l ih =>
      intro a h
      have hx := (isDg_iff x).mp (h x (.head _))
      have := ih (a * 10 + (x - 48)) fun c hc => h c (.tail _ hc)
      simp only [List.foldl_cons, List.length_cons]
      refine Nat.lt_of_lt_of_le this ?_
      rw [Nat.pow_succ, Nat.mul_comm (10 ^ l.length) 10, ← Nat.mul_assoc]
      exact Nat.mul_le_mul_right _ (by omega)
  intro l h h6
  have := key l 0 h
  have hp : 10 ^ l.length ≤ 10 ^ 6 := Nat.pow_le_pow_right (by decide) h6
  show l.foldl (fun acc c => acc * 10 + (c - 48)) 0 < 1000000
  omega
theorem tw_all {p : Nat → Bool} (R : List Nat) : ∀ c ∈ R.takeWhile p, p c = true := fun c hc => List.all_eq_true.mp (List.all_takeWhile (p := p) (l := R)) c hc
theorem stepR_ok {b : Nat} {R : List Nat} {n e : Nat} {st : List Nat × Wth} (hR : ∀ c ∈ R, c < 512) (hb : R.length + 6 ≤ b) (h : stepR R n = .ok (st, e)) : StepOk b st := by
  rcases hw : wantR (nameR R) with _ | wa
  · simp only [stepR, hw] at h; cases h
  by_cases hno : wa = .no
  · subst hno
    simp only [stepR, hw] at h
    injection h with h; injection h with h1 h2
    rw [← h1]
    exact ⟨.no, hw, trivial, Nat.zero_le _⟩
  · rw [stepR_worth hw hno] at h
    have hsub : ∀ c ∈ (R.drop (nameR R).length).dropWhile isBl, c ∈ R := fun c hc => List.mem_of_mem_drop ((List.dropWhile_sublist isBl).subset hc)
    have hln : ((R.drop (nameR R).length).dropWhile isBl).length ≤ R.length := by
      have := dropWhile_len isBl (R.drop (nameR R).length)
      rw [List.length_drop] at this; omega
    generalize (R.drop (nameR R).length).dropWhile isBl = R2 at *
    generalize n + (nameR R).length + run isBl (R.drop (nameR R).length) = n2 at *
    have hnm : ∀ cond, nameStep (nameR R) cond R2 n2 = .ok (st, e) → ∃ l, st = (nameR R, .txt l) ∧ nameOk l ∧ (cond = true → nmsL.contains l = true) ∧ l.length ≤ b := fun cond h => by
      unfold nameStep at h
      split at h
      · cases h
      · rename_i hne
        split at h
        · cases h
        · rename_i hc
          injection h with h; injection h with h1 h2
          refine ⟨_, h1.symm, nameR_ok hne, fun he => ?_, by have := nameR_len R2; omega⟩
          rcases hm : nmsL.contains (nameR R2) with _ | _
          · exact absurd ⟨he, hm⟩ hc
          · rfl
    cases wa with
    | no => exact absurd rfl hno
    | cond =>
      obtain ⟨l, rfl, h1, h2, h3⟩ := hnm true h
      exact ⟨.cond, hw, ⟨h1, h2 rfl⟩, h3⟩
    | num =>
      simp only [worthR] at h
      split at h
      · cases h
      · rename_i hc
        injection h with h; injection h with h1 h2
        rw [← h1]
        refine ⟨.num, hw, dec_lt _ (tw_all R2) ?_, Nat.zero_le _⟩
        rcases Nat.lt_or_ge 6 (R2.takeWhile isDg).length with h6 | h6
        · exact absurd (.inr h6) hc
        · exact h6
    | kind =>
      simp only [worthR] at h
      split at h
      · rcases hq : quoR (R2.drop 1) (n2 + 1) with _ | ⟨_ | ⟨c1, _ | ⟨c2, l⟩⟩, e'⟩ <;> rw [hq] at h <;> simp only [quoStep] at h
        · cases h
        · cases h
        · injection h with h; injection h with h1 h2
          have hc := (quoR_ok (fun c hc => hR c (hsub c (List.mem_of_mem_drop hc))) hq).1 c1 (.head _)
          rw [← h1]
          refine ⟨.kind, hw, .inr ⟨c1, hc, rfl⟩, ?_⟩
          have := escS_len c1
          simp only [Wth.len, List.length_append, List.length_cons, List.length_nil]
          omega
        · cases h
      · obtain ⟨l, rfl, h1, h2, h3⟩ := hnm false h
        exact ⟨.kind, hw, .inl h1, h3⟩
theorem stepsGo_ok {b : Nat} {T : List Nat} (hT : ∀ c ∈ T, c < 512) (hb : T.length + 6 ≤ b) : ∀ (f : Nat) (acc : List (List Nat × Wth)) (n : Nat) (l : List (List Nat × Wth)), AccOk b acc → stepsGo T f acc n = .ok l → AccOk b l.reverse ∧ l ≠ []
  | 0, _, _, _, _, h => by cases h
  | f + 1, acc, n, l, ha, h => by
    simp only [stepsGo] at h
    split at h
    · split at h
      · cases h
      · rename_i hne
        injection h with h
        rw [← h, List.reverse_reverse]
        exact ⟨ha, fun e => hne (by simpa using e)⟩
    · split at h
      · cases h
      · rename_i hen
        rcases hs : stepR (T.drop (n + run isBl (T.drop n))) (n + run isBl (T.drop n)) with j | ⟨st, e⟩
        · rw [hs] at h; cases h
        · rw [hs] at h
          simp only at h
          have hst : StepOk b st := stepR_ok (fun c hc => hT c (List.mem_of_mem_drop hc)) (by rw [List.length_drop]; omega) hs
          have ha2 : AccOk b (st :: acc) := by
            refine ⟨fun s hs => ?_, fun s hs => ?_⟩
            · rcases List.mem_cons.mp hs with rfl | hs
              · exact hst
              · exact ha.ok s hs
            · rcases acc with _ | ⟨a, acc⟩
              · cases hs
              · rcases List.mem_cons.mp hs with rfl | hs
                · rw [← ends_hd s acc]; simpa using hen
                · exact ha.nd s hs
          split at h
          · exact stepsGo_ok hT hb f _ _ _ ha2 h
          · split at h
            · exact stepsGo_ok hT hb f _ _ _ ha2 h
            · cases h
end Mine
end
section
set_option maxRecDepth 100000
namespace Mine
theorem showS_all {b : Nat} {st : List Nat × Wth} (h : StepOk b st) : (∀ x ∈ showS st, x < 512 ∧ x ≠ 10) ∧ 1 ≤ (showS st).length ∧ (showS st).length ≤ b + 16 ∧ st.1.length ≤ 6 ∧ (b ≤ 100000 → st.2.small) := by
  obtain ⟨wo, wt⟩ := st
  obtain ⟨wa, hw, hwt, hlen⟩ := h
  obtain ⟨hwo, hw6⟩ := word_name hw
  have hp := List.length_pos_iff.mpr hwo.1
  have h1 := nameOk_lt hwo
  dsimp only at hp h1 hw6
  cases wt with
  | no => exact ⟨h1, hp, by show wo.length ≤ _; omega, hw6, fun _ => trivial⟩
  | num k =>
    have hk : k < 1000000 := by cases wa <;> first | exact hwt | exact hwt.elim
    have hl := numL_len hk
    refine ⟨fun x hx => ?_, ?_, ?_, hw6, fun _ => hk⟩
    · rcases List.mem_append.mp hx with hx | hx
      · exact h1 x hx
      · rcases List.mem_cons.mp hx with rfl | hx
        · decide
        · have := nm_lt (dg_nm (numL_dg k x hx)); omega
    · simp only [showS, List.length_append, List.length_cons]; omega
    · simp only [showS, List.length_append, List.length_cons]; omega
  | txt l =>
    have hl : ∀ x ∈ l, x < 512 ∧ x ≠ 10 := by
      cases wa with
      | no => exact hwt.elim
      | num => exact hwt.elim
      | cond => exact nameOk_lt hwt.1
      | kind =>
        rcases hwt with h | ⟨c, hc, rfl⟩
        · exact nameOk_lt h
        · intro x hx
          simp only [List.cons_append, List.mem_cons, List.mem_append, List.not_mem_nil, or_false] at hx
          rcases hx with rfl | hx | rfl
          · decide
          · exact escS_lt hc x hx
          · decide
    have hlb : l.length ≤ b := hlen
    refine ⟨fun x hx => ?_, ?_, ?_, hw6, fun hb => Nat.le_trans hlb hb⟩
    · rcases List.mem_append.mp hx with hx | hx
      · exact h1 x hx
      · rcases List.mem_cons.mp hx with rfl | hx
        · decide
        · exact hl x hx
    · simp only [showS, List.length_append, List.length_cons]; omega
    · simp only [showS, List.length_append, List.length_cons]; omega
theorem showL_all {b : Nat} : ∀ l : List (List Nat × Wth), (∀ s ∈ l, StepOk b s) → (∀ x ∈ showL l, x < 512 ∧ x ≠ 10) ∧ l.length ≤ (showL l).length ∧ (showL l).length ≤ (b + 18) * l.length
  | [], _ => ⟨fun _ h => (nomatch h), Nat.zero_le _, Nat.zero_le _⟩
  | st :: l, h => by
    obtain ⟨a1, a2, a3, -, -⟩ := showS_all (h st (.head _))
    obtain ⟨b1, b2, b3⟩ := showL_all l fun s hs => h s (.tail _ hs)
    rw [showL_cons]
    rcases l with _ | ⟨s2, l2⟩
    · simp only [List.append_nil, List.length_cons, List.length_nil]
      exact ⟨a1, by omega, by omega⟩
    · simp only [List.length_append, List.length_cons] at b2 b3 ⊢
      refine ⟨fun x hx => ?_, by omega, ?_⟩
      · rcases List.mem_append.mp hx with hx | hx
        · exact a1 x hx
        · rcases List.mem_cons.mp hx with rfl | hx
          · decide
          · rcases List.mem_cons.mp hx with rfl | hx
            · decide
            · exact b1 x hx
      · rw [Nat.mul_succ (b + 18) (l2.length + 1)]
        omega
/-- reading what was shown gives the same steps -/
theorem back_all {T : List Nat} {l : List (List Nat × Wth)} (hT : ∀ c ∈ T, c < 512) (hb : T.length ≤ 200) (h : stepsR T 0 = .ok l) (hl : l.length ≤ 200) :
    (∀ s ∈ l, StepOk 206 s) ∧ stepsR (showL l) 0 = .ok l ∧ (∀ x ∈ showL l, x < 512) ∧ (10 : Nat) ∉ showL l ∧ (showL l).length ≤ 100000 := by
  obtain ⟨⟨ok, nd⟩, hne⟩ := stepsGo_ok (b := 206) hT (by omega) (T.length + 2) [] 0 l ⟨fun _ h => (nomatch h), fun _ h => (nomatch h)⟩ h
  have ok' : ∀ s ∈ l, StepOk 206 s := fun s hs => ok s (List.mem_reverse.mpr hs)
  obtain ⟨h1, h2, h3⟩ := showL_all l ok'
  refine ⟨ok', ?_, fun x hx => (h1 x hx).1, fun hx => (h1 10 hx).2 rfl, Nat.le_trans h3 (by omega)⟩
  rcases l with _ | ⟨st, l⟩
  · exact absurd rfl hne
  · have := steps_back (b := 206) (T := showL (st :: l)) l st [] [] ((showL (st :: l)).length + 2) 0 (.inl rfl) rfl ok' (fun s hs => nd s (by
      rw [List.tail_reverse]
      exact List.mem_reverse.mpr hs)) rfl (by simp only [List.length_cons] at h2; omega)
    exact this
end Mine
end
section
set_option maxRecDepth 100000
namespace Mine
noncomputable def datW : Wth → Dat
  | .no => .none
  | .txt l => .str (tx l)
  | .num k => .int (k : Int)
noncomputable def datSt (st : List Nat × Wth) : Dat := .tuple [.str (tx st.1), datW st.2]
noncomputable abbrev Sts := List (List Nat × Wth)
/-- an item of a list of values -/
noncomputable def ItemIs (vs : List Value) (k : Int) (v : Value) : Prop := 0 ≤ k ∧ k < 100000 ∧ vs[k.toNat]? = some v
theorem dat_int {ts : List (Addr × Obj)} {v : Value} {i : Int} (h : DatIn ts v (.int i)) : ∃ t, v = .int i t := by cases h; exact ⟨_, rfl⟩
theorem dat_str {ts : List (Addr × Obj)} {v : Value} {x : PySem.Str} (h : DatIn ts v (.str x)) : ∃ t, v = .str x t := by cases h; exact ⟨_, rfl⟩
theorem dat_tup {ts : List (Addr × Obj)} {v : Value} {ds : List Dat} (h : DatIn ts v (.tuple ds)) : ∃ a vs n, v = .ref a ∧ (a, ({ cls := .type "tuple", data := .seq vs.toArray n } : Obj)) ∈ ts ∧ DatAll ts vs ds := by cases h with | tuple hm hd => exact ⟨_, _, _, rfl, hm, hd⟩
theorem dat_uncons {ts : List (Addr × Obj)} {vs : List Value} {d : Dat} {ds : List Dat} (h : DatAll ts vs (d :: ds)) : ∃ v vs', vs = v :: vs' ∧ DatIn ts v d ∧ DatAll ts vs' ds := by cases h with | cons h1 h2 => exact ⟨_, _, rfl, h1, h2⟩
theorem dat_nil0 {ts : List (Addr × Obj)} {vs : List Value} (h : DatAll ts vs []) : vs = [] := by cases h; rfl
theorem dat_pc {ts : List (Addr × Obj)} {v : Value} {p : Pc} (h : DatIn ts v (datP p)) : ∃ t t1 t2 t3 e, v = .ref t ∧ (t, tup3 (p.1 : Int) (tx p.2.1) (tx p.2.2) t1 t2 t3 e) ∈ ts := by
  obtain ⟨a, vs, n, hv, hm, hd⟩ := dat_tup h
  obtain ⟨v1, vs1, e1, h1, hd⟩ := dat_uncons hd
  obtain ⟨v2, vs2, e2, h2, hd⟩ := dat_uncons hd
  obtain ⟨v3, vs3, e3, h3, hd⟩ := dat_uncons hd
  obtain ⟨t1, k1⟩ := dat_int h1
  obtain ⟨t2, k2⟩ := dat_str h2
  obtain ⟨t3, k3⟩ := dat_str h3
  rw [e1, e2, e3, k1, k2, k3, dat_nil0 hd] at hm
  exact ⟨a, t1, t2, t3, n, hv, hm⟩
theorem dat_st {ts : List (Addr × Obj)} {v : Value} {st : List Nat × Wth} (h : DatIn ts v (datSt st)) : ∃ t t1 wv e, v = .ref t ∧ (t, ({ cls := .type "tuple", data := .seq #[.str (tx st.1) t1, wv] e } : Obj)) ∈ ts := by
  obtain ⟨a, vs, n, hv, hm, hd⟩ := dat_tup h
  obtain ⟨v1, vs1, e1, h1, hd⟩ := dat_uncons hd
  obtain ⟨v2, vs2, e2, _, hd⟩ := dat_uncons hd
  obtain ⟨t1, k1⟩ := dat_str h1
  rw [e1, e2, k1, dat_nil0 hd] at hm
  exact ⟨a, t1, v2, n, hv, hm⟩
theorem item_at {ts : List (Addr × Obj)} {vs : List Value} {P : List Pc} {i : Nat} {p : Pc} {ps : List Pc} (D : DatAll ts vs (P.map datP)) (h : P.drop i = p :: ps) (hi : i < 100000) :
    ∃ t t1 t2 t3 e, ItemIs vs (i : Int) (.ref t) ∧ (t, tup3 (p.1 : Int) (tx p.2.1) (tx p.2.2) t1 t2 t3 e) ∈ ts := by
  have hlt : i < P.length := by
    rcases Nat.lt_or_ge i P.length with h1 | h1
    · exact h1
    · rw [List.drop_eq_nil_of_le h1] at h; cases h
  obtain ⟨v, hv, hd⟩ := D.get (k := i) (by simpa using hlt)
  have e : (P.map datP)[i]'(by simpa using hlt) = datP p := by
    have h1 : P[i] = p := by
      have := List.getElem_cons_drop (as := P) (i := i) hlt
      rw [h] at this
      injection this
    simp [h1]
  rw [e] at hd
  obtain ⟨t, t1, t2, t3, e, rfl, hm⟩ := dat_pc hd
  exact ⟨t, t1, t2, t3, e, ⟨Int.natCast_nonneg i, by omega, by simpa using hv⟩, hm⟩
/-- the pieces with the end's piece behind -/
noncomputable def allP (T : List Nat) : List Pc := piecesOf T 0 ++ [(T.length, wd "over", [])]
theorem kind_ne : ∀ (f : Nat) (R : List Nat) (n : Nat), ∀ p ∈ piecesGo f R n, p.2.1 ≠ wd "over"
  | 0, _, _, _, h => nomatch h
  | _ + 1, [], _, _, h => nomatch h
  | f + 1, c :: r, n, p, h => by
    simp only [piecesGo] at h
    split at h
    · exact kind_ne f r _ p h
    · rcases List.mem_cons.mp h with rfl | h
      · dsimp only
        rcases piece_cases c r with ⟨_, hk⟩ | ⟨_, _, hk⟩ | ⟨_, _, x, k, _, hk⟩ | ⟨_, _, hk⟩ <;> rw [hk]
        · show wd "figures" ≠ wd "over"; decide +kernel
        · show wd "name" ≠ wd "over"; decide +kernel
        · show wd "literal" ≠ wd "over"; decide +kernel
        · exact fun e => absurd (congrArg List.length e) (show ¬ 1 = (wd "over").length by decide +kernel)
      · exact kind_ne f _ _ p h
/-- what stays true at each turn of _law_read -/
structure LrInv (T : List Nat) (K : Except Nat Sts) (sl : Addr) (i : Nat) (acc : Sts) (ts : List (Addr × Obj)) (vs : List Value) : Prop where
  le : i ≤ (piecesOf T 0).length
  go : ∃ f, (piecesOf T 0).length - i < f ∧ lawGo T f ((piecesOf T 0).drop i) acc = K
  dat : DatAll ts vs (acc.reverse.map datSt)
  lt : ∀ p ∈ ts, @LT.lt Nat _ sl p.1
  ln : vs.length ≤ i
theorem LrInv.start {T : List Nat} {sl : Addr} : LrInv T (lawGo T ((piecesOf T 0).length + 1) (piecesOf T 0) []) sl 0 [] [] [] :=
  ⟨Nat.zero_le _, ⟨_, by omega, rfl⟩, .nil, (fun _ h => nomatch h), Nat.le_refl _⟩
end Mine
namespace Mine
theorem name_over : wd "name" ≠ wd "over" := by decide +kernel
theorem tx_ne {l : List Nat} {z : String} (h : l ≠ wd z) : (tx l == PySem.Str.ofString z) = false := by
  rw [beq_eq_false_iff_ne]
  intro e
  exact h (by rw [← tl_tx l, e])
theorem tx_eq {l : List Nat} {z : String} (h : l = wd z) : (tx l == PySem.Str.ofString z) = true := by
  rw [h, show tx (wd z) = PySem.Str.ofString z from tx_tl _]; exact beq_self_eq_true _
theorem drop_app {α : Type} {P : List α} {i : Nat} {a : α} (h : i ≤ P.length) : (P ++ [a]).drop i = P.drop i ++ [a] := by
  rw [List.drop_append_of_le_length h]
theorem lr_over {ts : List (Addr × Obj)} {vs : List Value} {T : List Nat} {i : Nat} (DA : DatAll ts vs ((allP T).map datP)) (h : (piecesOf T 0).drop i = []) (hi : i ≤ (piecesOf T 0).length) (hb : T.length ≤ 200) :
    ∃ t t1 t2 t3 e, ItemIs vs (i : Int) (.ref t) ∧ (t, tup3 (T.length : Int) (PySem.Str.ofString "over") (PySem.Str.ofString "") t1 t2 t3 e) ∈ ts := by
  have hl : (piecesOf T 0).length ≤ T.length := pieces_len_le _ _ _
  obtain ⟨t, t1, t2, t3, e, h1, h2⟩ := item_at (P := allP T) (i := i) (p := (T.length, wd "over", [])) (ps := []) DA (by rw [allP, drop_app hi, h]; rfl) (by omega)
  dsimp only at h2
  rw [show tx (wd "over") = PySem.Str.ofString "over" from tx_tl _, ← empty_tx] at h2
  exact ⟨t, t1, t2, t3, e, h1, h2⟩
theorem lr_piece {ts : List (Addr × Obj)} {vs : List Value} {T : List Nat} {i p : Nat} {k w : List Nat} {ps : List Pc} (DA : DatAll ts vs ((allP T).map datP)) (h : (piecesOf T 0).drop i = (p, k, w) :: ps) (hb : T.length ≤ 200) :
    (∃ t t1 t2 t3 e, ItemIs vs (i : Int) (.ref t) ∧ (t, tup3 (p : Int) (tx k) (tx w) t1 t2 t3 e) ∈ ts) ∧ (tx k != PySem.Str.ofString "over") = true ∧ i + 1 ≤ (piecesOf T 0).length ∧ (piecesOf T 0).drop (i + 1) = ps := by
  have hl : (piecesOf T 0).length ≤ T.length := pieces_len_le _ _ _
  have hlt : i < (piecesOf T 0).length := by
    rcases Nat.lt_or_ge i (piecesOf T 0).length with h1 | h1
    · exact h1
    · rw [List.drop_eq_nil_of_le h1] at h; cases h
  obtain ⟨t, t1, t2, t3, e, h1, h2⟩ := item_at (P := allP T) (i := i) (p := (p, k, w)) (ps := ps ++ [(T.length, wd "over", [])]) DA (by rw [allP, drop_app (Nat.le_of_lt hlt), h]; rfl) (by omega)
  refine ⟨⟨t, t1, t2, t3, e, h1, h2⟩, ?_, hlt, by rw [← List.drop_drop, h]; rfl⟩
  have hm : (p, k, w) ∈ piecesOf T 0 := List.mem_of_mem_drop (i := i) (by rw [h]; exact .head _)
  rw [bne, tx_ne (kind_ne _ _ _ _ hm)]; rfl
end Mine
namespace Mine
theorem dat_nil {ts : List (Addr × Obj)} {vs : List Value} (h : DatAll ts vs []) : vs.isEmpty = true := by cases h; rfl
theorem dat_last {ts : List (Addr × Obj)} : ∀ {vs : List Value} {ds : List Dat} {d : Dat}, DatAll ts vs (ds ++ [d]) → ∃ vs' v, vs = vs' ++ [v] ∧ DatIn ts v d
  | vs, [], d, h => by
    cases h with
    | cons h1 h2 => cases h2; exact ⟨[], _, rfl, h1⟩
  | vs, e :: ds, d, h => by
    cases h with
    | cons h1 h2 =>
      obtain ⟨vs', v, rfl, hd⟩ := dat_last h2
      exact ⟨_ :: vs', v, rfl, hd⟩
theorem acc_last {ts : List (Addr × Obj)} {vs : List Value} {st : List Nat × Wth} {acc : Sts} (h : DatAll ts vs ((st :: acc).reverse.map datSt)) :
    ∃ vs' t t1 wv e, vs = vs' ++ [.ref t] ∧ (t, ({ cls := .type "tuple", data := .seq #[.str (tx st.1) t1, wv] e } : Obj)) ∈ ts := by
  rw [List.reverse_cons, List.map_append] at h
  obtain ⟨vs', v, rfl, hd⟩ := dat_last h
  obtain ⟨t, t1, wv, e, rfl, hm⟩ := dat_st hd
  exact ⟨vs', t, t1, wv, e, rfl, hm⟩
section
variable {prog : Program} {w : World} {A : Around} {E : Value → Shared → Prop} {s : Shared} {h₀ : Heap} {L l : Addr} {news : List (Addr × Obj)} {vs : List Value} {k : Nat} {m : PySem.Str → Option Value}
theorem truthy_list {Q : Bool → Shared → Prop} {b : Bool} (N : News h₀ L s.heap news) (hm : (l, W.listOf vs.toArray k) ∈ news) (hb : vs.length ≤ 100000) (e : vs.isEmpty = !b) (h : ∀ tk, Q b { s with toks := tk }) : wpAny (model prog w) A (truthy (.ref l)) Q E s := by
  refine wpAny_truthy_list (items := vs.toArray) ⟨_, (N _ hm).1, rfl, _, rfl⟩ ?_ ?_
  · rw [List.size_toArray]; omega
  · have : (!vs.toArray.isEmpty) = b := by
      rw [show vs.toArray.isEmpty = vs.isEmpty by cases vs <;> rfl, e, Bool.not_not]
    rw [this]; exact h _
/-- a test walked apart -/
theorem cut_bool {M : Model} {t : Sem Bool} {Q : Bool → Shared → Prop} (b : Bool) (F : Fr h₀ L s.heap m) (N : News h₀ L s.heap news)
    (h : wpAny M A t (fun b' s' => b' = b ∧ ∃ h' tk', s' = { s with heap := h', toks := tk' } ∧ Fr h₀ L h' m ∧ News h₀ L h' news) E s)
    (k : ∀ h' tk', Fr h₀ L h' m → News h₀ L h' news → Q b { s with heap := h', toks := tk' }) : wpAny M A t Q E s :=
  wpAny_mono h (fun b' s' ⟨e, h', tk', e2, F', N'⟩ => by subst e; subst e2; exact k h' tk' F' N') fun _ _ e => e
/-- a statement walked apart -/
noncomputable def CutEnd {σ : Type} (h₀ : Heap) (L : Addr) (s : Shared) (Led : σ → List (Addr × Obj)) (ps : σ → List (PySem.Str × Value)) (stored : List PySem.Str) (m₀ : PySem.Str → Option Value) (P : σ → Prop) (s₂ : Shared) : Prop :=
  ∃ (c' : σ) (h' : Heap) (tk : Nat) (m' : PySem.Str → Option Value) (news' : List (Addr × Obj)), s₂ = { s with heap := h', toks := tk } ∧ Fr h₀ L h' m' ∧ News h₀ L h' news' ∧ (∀ p ∈ Led c', p ∈ news') ∧ (∀ p ∈ ps c', m' p.1 = some p.2) ∧ (∀ z, (∀ p ∈ ps c', z ≠ p.1) → stored.contains z = false → m' z = m₀ z) ∧ P c'
noncomputable def CutPost {σ : Type} (h₀ : Heap) (L : Addr) (s : Shared) (Led : σ → List (Addr × Obj)) (ps : σ → List (PySem.Str × Value)) (stored : List PySem.Str) (m₀ : PySem.Str → Option Value) (P : σ → Prop) (Q : Flow → Shared → Prop) (f : Flow) (s₂ : Shared) : Prop :=
  match f with
  | .next => CutEnd h₀ L s Led ps stored m₀ P s₂
  | f => Q f s₂
theorem cut_end {σ : Type} {Led : σ → List (Addr × Obj)} {ps : σ → List (PySem.Str × Value)} {stored : List PySem.Str} {m₀ m' : PySem.Str → Option Value} {P : σ → Prop} {h' : Heap} {tk : Nat} {news' : List (Addr × Obj)} (c' : σ)
    (F : Fr h₀ L h' m') (N : News h₀ L h' news') (hn : ∀ p ∈ Led c', p ∈ news') (hk : ∀ p ∈ ps c', m' p.1 = some p.2) (hr : ∀ z, (∀ p ∈ ps c', z ≠ p.1) → stored.contains z = false → m' z = m₀ z) (hp : P c') :
    CutEnd h₀ L s Led ps stored m₀ P { s with heap := h', toks := tk } := ⟨c', h', tk, m', news', rfl, F, N, hn, hk, hr, hp⟩
theorem cut_exec {σ : Type} {M : Model} {t : Sem Flow} {Q : Flow → Shared → Prop} (Led : σ → List (Addr × Obj)) (ps : σ → List (PySem.Str × Value)) (stored : List PySem.Str) (P : σ → Prop) (_ : Fr h₀ L s.heap m)
    (h : wpAny M A t (CutPost h₀ L s Led ps stored m P Q) E s)
    (k : ∀ (c : σ) (u : PySem.Str → Option Value) h' tk', P c → Fr h₀ L h' (kstB (fun z => if stored.contains z then u z else m z) (ps c)) → News h₀ L h' (Led c) → Q .next { s with heap := h', toks := tk' }) : wpAny M A t Q E s := by
  refine wpAny_mono h (fun f s' hq => ?_) fun _ _ e => e
  cases f with
  | next =>
    obtain ⟨c', h', tk, m', news', rfl, F', N', hn, hk, hr, hp⟩ := hq
    exact k c' m' h' tk hp (ksw_fr hk hr F') fun p hp => N' p (hn p hp)
  | ret v => exact hq
  | brk => exact hq
  | cont => exact hq
end
end Mine
namespace Mine
theorem LrInv.vl {K : Except Nat Sts} {sl : Addr} {i : Nat} {acc : Sts} {ts : List (Addr × Obj)} {vs : List Value} {x : PySem.Str} (h : LrInv (tl x) K sl i acc ts vs) (hb : x.length ≤ 200) : vs.length ≤ 200 ∧ i ≤ 200 := by
  have h1 := h.ln
  have h2 := h.le
  have h3 : (piecesOf (tl x) 0).length ≤ (tl x).length := pieces_len_le _ _ _
  rw [← len_tl] at h3
  omega
end Mine
namespace Mine
theorem dat_cons {ts : List (Addr × Obj)} {vs : List Value} {st : List Nat × Wth} {acc : Sts} (h : DatAll ts vs ((st :: acc).reverse.map datSt)) : vs.isEmpty = !true := by
  obtain ⟨vs', t, t1, wv, e, rfl, -⟩ := acc_last h
  simp
end Mine
end
section
set_option maxRecDepth 100000
namespace Mine
section
variable {T : List Nat} {K : Except Nat Sts} {sl : Addr} {i p : Nat} {k wo : List Nat} {ps : List Pc} {acc : Sts} {ts : List (Addr × Obj)} {vs : List Value}
theorem LrInv.open (h : LrInv T K sl i acc ts vs) (hdr : (piecesOf T 0).drop i = (p, k, wo) :: ps) : ∃ f, ps.length < f ∧ lawGo T (f + 1) ((p, k, wo) :: ps) acc = K := by
  obtain ⟨f, hf, hg⟩ := h.go
  rw [hdr] at hg
  have hl : ((piecesOf T 0).drop i).length = (piecesOf T 0).length - i := List.length_drop
  rw [hdr, List.length_cons] at hl
  rcases f with _ | f
  · omega
  · exact ⟨f, by omega, hg⟩
theorem LrInv.over (h : LrInv T K sl i acc ts vs) (hdr : (piecesOf T 0).drop i = []) : K = if acc = [] then .error T.length else .ok acc.reverse := by
  obtain ⟨f, hf, hg⟩ := h.go
  rw [hdr] at hg
  rcases f with _ | f
  · omega
  · exact hg.symm
theorem LrInv.ends (h : LrInv T K sl i acc ts vs) (hdr : (piecesOf T 0).drop i = (p, k, wo) :: ps) (he : endsR acc = true) : K = .error p := by
  obtain ⟨f, -, hg⟩ := h.open hdr
  rw [← hg]; simp only [lawGo, he, if_true]
theorem LrInv.kind (h : LrInv T K sl i acc ts vs) (hdr : (piecesOf T 0).drop i = (p, k, wo) :: ps) (hk : k ≠ wd "name") : K = .error p := by
  obtain ⟨f, -, hg⟩ := h.open hdr
  rw [← hg]; simp only [lawGo, if_pos hk]
  split <;> rfl
theorem LrInv.word (h : LrInv T K sl i acc ts vs) (hdr : (piecesOf T 0).drop i = (p, k, wo) :: ps) (hw : wantR wo = none) : K = .error p := by
  obtain ⟨f, -, hg⟩ := h.open hdr
  rw [← hg]; simp only [lawGo, hw]
  split
  · rfl
  · split <;> rfl
theorem LrInv.worth {wa : Want} (h : LrInv T K sl i acc ts vs) (hdr : (piecesOf T 0).drop i = (p, k, wo) :: ps) (he : endsR acc = false) (hk : k = wd "name") (hw : wantR wo = some wa) : ∃ f, ps.length < f ∧
    (match lawWorth T wa ps with | .error j => .error j | .ok (wt, ps2) => lawAfter (lawGo T f) acc ps2 (wo, wt)) = K := by
  obtain ⟨f, hf, hg⟩ := h.open hdr
  refine ⟨f, hf, ?_⟩
  rw [← hg]; simp only [lawGo]
  rw [if_neg (by rw [he]; decide), if_neg (fun h => h hk), hw]
  all_goals (rcases hx : lawWorth T wa ps with j | ⟨wt, ps2⟩ <;> simp only [hx])
theorem LrInv.bad {wa : Want} {j : Nat} (h : LrInv T K sl i acc ts vs) (hdr : (piecesOf T 0).drop i = (p, k, wo) :: ps) (he : endsR acc = false) (hk : k = wd "name") (hw : wantR wo = some wa) (hb : lawWorth T wa ps = .error j) : K = .error j := by
  obtain ⟨f, -, hg⟩ := h.worth hdr he hk hw
  rw [hb] at hg; exact hg.symm
/-- behind a step: three ways on -/
theorem LrInv.after {wa : Want} {wt : Wth} {i2 : Nat} (h : LrInv T K sl i acc ts vs) (hdr : (piecesOf T 0).drop i = (p, k, wo) :: ps) (he : endsR acc = false) (hk : k = wd "name") (hw : wantR wo = some wa) (hb : lawWorth T wa ps = .ok (wt, (piecesOf T 0).drop (i2 + 1))) (hi2 : i ≤ i2) :
    ((piecesOf T 0).drop (i2 + 1) = [] → i2 + 1 ≤ (piecesOf T 0).length → ∃ f, (piecesOf T 0).length - (i2 + 1) < f ∧ lawGo T f ((piecesOf T 0).drop (i2 + 1)) ((wo, wt) :: acc) = K) ∧
    (∀ p' w' ps', (piecesOf T 0).drop (i2 + 1) = (p', [59], w') :: ps' → ∃ f, (piecesOf T 0).length - (i2 + 2) < f ∧ lawGo T f ((piecesOf T 0).drop (i2 + 2)) ((wo, wt) :: acc) = K) ∧
    (∀ p' k' w' ps', (piecesOf T 0).drop (i2 + 1) = (p', k', w') :: ps' → k' ≠ [59] → K = .error p') := by
  obtain ⟨f, hf, hg⟩ := h.worth hdr he hk hw
  rw [hb] at hg
  simp only at hg
  have hl : ((piecesOf T 0).drop i).length = (piecesOf T 0).length - i := List.length_drop
  rw [hdr, List.length_cons] at hl
  refine ⟨fun hd hle => ⟨f, by omega, ?_⟩, fun p' w' ps' hd => ⟨f, by omega, ?_⟩, fun p' k' w' ps' hd hk' => ?_⟩
  · rw [hd] at hg ⊢; exact hg
  · rw [show i2 + 2 = i2 + 1 + 1 by omega, ← List.drop_drop, hd]
    rw [hd] at hg
    simp only [lawAfter, if_true] at hg
    exact hg
  · rw [hd] at hg
    simp only [lawAfter, if_neg hk'] at hg
    exact hg.symm
theorem LrInv.next {wt : Wth} {i3 : Nat} {t : Addr} {t1 : Tok} {wv : Value} {e : Nat} (h : LrInv T K sl i acc ts vs) (hi : i < i3) (hle : i3 ≤ (piecesOf T 0).length) (hg : ∃ f, (piecesOf T 0).length - i3 < f ∧ lawGo T f ((piecesOf T 0).drop i3) ((wo, wt) :: acc) = K) (hw : wt.is wv) (ht : @LT.lt Nat _ sl t) :
    LrInv T K sl i3 ((wo, wt) :: acc) ((t, ({ cls := .type "tuple", data := .seq #[.str (tx wo) t1, wv] e } : Obj)) :: ts) (vs ++ [.ref t]) := by
  refine ⟨hle, hg, ?_, fun p hp => ?_, by have := h.ln; simp only [List.length_append, List.length_singleton]; omega⟩
  · rw [List.reverse_cons, List.map_append]
    refine DatAll.append (DatAll.mono (fun p hp => .tail _ hp) h.dat) (DatAll.one ?_)
    refine DatIn.tuple (vs := [.str (tx wo) t1, wv]) (.head _) (.cons (.str _ _) (.cons ?_ .nil))
    cases wt with
    | no => rw [show wv = .none from hw]; exact .none
    | txt l => obtain ⟨t2, rfl⟩ := hw; exact .str _ _
    | num k => obtain ⟨t2, rfl⟩ := hw; exact .int _ _
  · rcases List.mem_cons.mp hp with rfl | hp
    · exact ht
    · exact h.lt p hp
end
end Mine
namespace Mine
theorem cell_ne {h₀ h : Heap} {L a c : Addr} {o1 o2 : Obj} {v : Option Value} {xs : Array Value} {n : Nat} {news : List (Addr × Obj)} (N : News h₀ L h news) (h1 : (a, o1) ∈ news) (h2 : (c, o2) ∈ news) (hs : o1.data = .seq xs n) (hd : o2.data = .cell v) : @Ne Nat a c := fun e => by
  have e1 := (N _ h1).1
  have e2 := (N _ h2).1
  simp only at e1 e2
  rw [show a = c from e, e2] at e1
  have e3 := Option.some.inj e1
  rw [← e3, hd] at hs
  cases hs
theorem off_w {ts tsA news : List (Addr × Obj)} {wc sl : Addr} (h1 : ∀ p ∈ ts, @LT.lt Nat _ sl p.1) (h2 : @LT.lt Nat _ wc sl) (h3 : ∀ p ∈ tsA ++ news, p.1 ≠ wc) : ∀ p ∈ ts ++ (tsA ++ news), p.1 ≠ wc := fun p hp => by
  rcases List.mem_append.mp hp with hp | hp
  · exact Nat.ne_of_gt (Nat.lt_trans h2 (h1 p hp))
  · exact h3 p hp
theorem off_s {ts tsA news : List (Addr × Obj)} {sl : Addr} (h1 : ∀ p ∈ ts, @LT.lt Nat _ sl p.1) (h3 : ∀ p ∈ tsA ++ news, @LT.lt Nat _ p.1 sl) : ∀ p ∈ ts ++ (tsA ++ news), p.1 ≠ sl := fun p hp => by
  rcases List.mem_append.mp hp with hp | hp
  · exact Nat.ne_of_gt (h1 p hp)
  · exact Nat.ne_of_lt (h3 p hp)
end Mine
namespace Mine
theorem lr_ret {h₀ h : Heap} {L : Addr} {a b c d : Addr × Obj} {ts tsA news : List (Addr × Obj)} (N : News h₀ L h (a :: b :: c :: d :: (ts ++ (tsA ++ news)))) : News h₀ L h (b :: (ts ++ news)) := fun p hp => by
  apply N p
  simp only [List.mem_cons, List.mem_append] at hp ⊢
  rcases hp with h | h | h <;> simp [h]
theorem semi_eq : wd ";" = [59] := by decide +kernel
theorem tx_semi {k : List Nat} : (k = [59] → (tx k == PySem.Str.ofString ";") = true) ∧ (k ≠ [59] → (tx k == PySem.Str.ofString ";") = false) := ⟨fun h => tx_eq (by rw [h, semi_eq]), fun h => tx_ne (by rw [semi_eq]; exact h)⟩
theorem over_semi : (PySem.Str.ofString "over" == PySem.Str.ofString ";") = false := by decide +kernel
theorem over_fig : (PySem.Str.ofString "over" != PySem.Str.ofString "figures") = true := by decide +kernel
theorem over_lit : (PySem.Str.ofString "over" == PySem.Str.ofString "literal") = false := by decide +kernel
theorem over_name : (PySem.Str.ofString "over" != PySem.Str.ofString "name") = true := by decide +kernel
/-- the ledger at a turn's end -/
theorem lr_end {h₀ h : Heap} {L sl t : Addr} {ot oc : Obj} {wc : Addr} {pl : Addr × Obj} {A : Array Value} {nn : Nat} {vs : List Value} {all tl9 : List (Addr × Obj)} (N : News h₀ L h all) (h2 : (t, ot) ∈ all) (h1 : (sl, W.listOf (A.push (Value.ref t)) (nn + 1)) ∈ all) (h4 : (wc, oc) ∈ all) (h5 : pl ∈ all) (h3 : ∀ p ∈ tl9, p ∈ all) (hA : A = vs.toArray) :
    News h₀ L h ((sl, W.listOf (vs ++ [Value.ref t]).toArray (nn + 1)) :: (wc, oc) :: pl :: ((t, ot) :: tl9)) := fun p hp => by
  rw [show (vs ++ [Value.ref t]).toArray = A.push (Value.ref t) by rw [hA, List.push_toArray]] at hp
  rcases List.mem_cons.mp hp with rfl | hp
  · exact N _ h1
  rcases List.mem_cons.mp hp with rfl | hp
  · exact N _ h4
  rcases List.mem_cons.mp hp with rfl | hp
  · exact N _ h5
  rcases List.mem_cons.mp hp with rfl | hp
  · exact N _ h2
  · exact N _ (h3 _ hp)
end Mine
namespace Mine
theorem lit_go : ∀ (f : Nat) (T : List Nat) (n : Nat), ∀ p ∈ piecesGo f (T.drop n) n, p.2.1 = wd "literal" → ∃ x k, lawLit (T.drop (p.1 + 1)) = some (x, k)
  | 0, _, _, _, h, _ => nomatch h
  | f + 1, T, n, p, h, hk => by
    rcases hR : T.drop n with _ | ⟨c, r⟩
    · rw [hR] at h; exact nomatch h
    · rw [hR] at h
      simp only [piecesGo] at h
      have hr := (drop_cons_get hR).2
      split at h
      · rw [← hr] at h
        exact lit_go f T (n + 1) p h hk
      · rcases List.mem_cons.mp h with rfl | h
        · dsimp only at hk ⊢
          rw [hr]
          rcases piece_cases c r with ⟨_, hk2⟩ | ⟨_, _, hk2⟩ | ⟨_, _, x, k, hl, _⟩ | ⟨_, _, hk2⟩
          · rw [hk2] at hk; exact absurd hk fig_lit
          · rw [hk2] at hk; exact absurd hk name_lit
          · exact ⟨x, k, hl⟩
          · rw [hk2] at hk; exact absurd hk (one_litk c)
        · rw [← drop_add hR] at h
          exact lit_go f T _ p h hk
theorem lit_at {T : List Nat} {i p : Nat} {w : List Nat} {ps : List Pc} (h : (piecesOf T 0).drop i = (p, wd "literal", w) :: ps) : ∃ x k, lawLit (T.drop (p + 1)) = some (x, k) := by
  have hm : (p, wd "literal", w) ∈ piecesOf T 0 := List.mem_of_mem_drop (i := i) (by rw [h]; exact .head _)
  have := lit_go (T.length + 1) T 0 (p, wd "literal", w) (by rw [List.drop_zero]; exact hm) rfl
  exact this
theorem lawLit_lt {R : List Nat} {x k : Nat} (hR : ∀ c ∈ R, c < 128) (h : lawLit R = some (x, k)) : x < 512 := by
  rcases R with _ | ⟨c, r⟩
  · cases h
  · simp only [lawLit] at h
    split at h
    · cases h
    · split at h
      · rcases r with _ | ⟨y, r'⟩
        · cases h
        · simp only at h
          split at h
          · injection h with h; injection h with h1 h2
            rw [← h1]
            exact escR_lt (by have := hR y (.tail _ (.head _)); omega)
          · cases h
      · split at h
        · injection h with h; injection h with h1 h2
          have := hR c (.head _)
          omega
        · cases h
end Mine
namespace Mine
theorem piece_len : ∀ (f : Nat) (R : List Nat) (n : Nat), ∀ p ∈ piecesGo f R n, p.2.2.length ≤ R.length
  | 0, _, _, _, h => nomatch h
  | _ + 1, [], _, _, h => nomatch h
  | f + 1, c :: r, n, p, h => by
    simp only [piecesGo] at h
    split at h
    · have := piece_len f r _ p h; simp only [List.length_cons]; omega
    · rcases List.mem_cons.mp h with rfl | h
      · exact List.length_take_le' _ _
      · have := piece_len f _ _ p h
        rw [List.length_drop] at this
        omega
theorem piece_w {x : PySem.Str} {i p : Nat} {k w : List Nat} {ps : List Pc} (h : (piecesOf (tl x) 0).drop i = (p, k, w) :: ps) (hz : x.length ≤ 100000) : (tx w).length ≤ 100000 := by
  have hm : (p, k, w) ∈ piecesOf (tl x) 0 := List.mem_of_mem_drop (i := i) (by rw [h]; exact .head _)
  have := piece_len _ _ _ _ hm
  rw [tx_len]; rw [len_tl] at hz; exact Nat.le_trans this hz
end Mine
end
section
set_option maxRecDepth 100000
namespace Mine
open PySem.Builtin PySem.Builtin.Str PySem.Calls PySem.Builtin.Tuple PySem.SeqAt PySem.MeetsSeq PySem.MeetsSeq2 PySem.MeetsSeq3 PySem.SeqRoads2 PySem.AutoSeq1
section
variable {M : Model} {A : Around} {E : Value → Shared → Prop}
theorem loop_find {β : Type} {f : Nat → β → Sem (ForInStep β)} {b0 : β} {bj : Tok → β} {j : Nat} (hno : ∀ i, i < j → ∀ Q s, Q (.yield b0) s → wpAny M A (f i b0) Q E s)
    (hyes : ∀ Q s, Q (.done (bj s.toks)) { s with toks := s.toks + 1 } → wpAny M A (f j b0) Q E s) :
    ∀ k i, i ≤ j → j < i + k → ∀ Q s, Q (bj s.toks) { s with toks := s.toks + 1 } → wpAny M A (forIn (List.range' i k) b0 f) Q E s
  | 0, i, h1, h2, Q, s, h => absurd h2 (by omega)
  | k + 1, i, h1, h2, Q, s, h => by
    rw [List.range'_succ, List.forIn_cons]
    by_cases e : i = j
    · subst e
      refine wpAny_bind (hyes _ _ (wpAny_pure h))
    · refine wpAny_bind (hno i (by omega) _ _ ?_)
      exact loop_find hno hyes k (i + 1) (by omega) (by omega) Q s h
end
theorem tuple_indexAt (l : Addr) (items : Array Value) (n : Nat) (dd : Option Addr) (sl : Array (Option Value)) (x : Value) (e : Value → Bool) (j : Nat) (hj : j < items.size)
    (hit : e items[j] = true) (hno : ∀ m (hm : m < items.size), m < j → e items[m] = false) :
    Meets (Builtin.«tuple.index» ⟨[.ref l, x], []⟩)
      (fun A R s => s.heap.get? l = some { cls := .type "tuple", dict := dd, data := .seq items n, slots := sl } ∧ (∀ y, y ∈ items → ∀ s, EqAt A.in1 s y x (e y)) ∧ R (.ok (.ret (.int j s.toks))) { s with toks := s.toks + 1 }) := by
  intro prog w A R s h
  obtain ⟨hp, g, d, tk, os⟩ := s; obtain ⟨hl, he, h⟩ := h
  unfold Builtin.«tuple.index»
  simp only [Std.Legacy.Range.forIn_eq_forIn_range']
  wp_walk using wpAny_loadPart' hl
  have hsz : [:Min.min items.size items.size].size = items.size := by simp [Std.Legacy.Range.size]
  refine loop_find (f := fun i __s => match items[i]? with
      | some y => do
        let __do_lift ← eqBool y x
        if __do_lift = true then do
            let __do_lift ← retInt ↑i
            pure (ForInStep.done (some __do_lift, ()))
          else pure (ForInStep.yield (none, ()))
      | x => pure (ForInStep.yield (none, ()))) (b0 := ((none : Option PySem.Fin), ())) (bj := fun tk => (some (PySem.Fin.done (.ret (.int (j : Int) tk))), ())) (j := j) (fun i hi Q s hq => ?_) (fun Q s hq => ?_) _ 0 (Nat.zero_le _) (by rw [hsz]; omega) _ _ ?_
  · have hlt : i < items.size := by omega
    rw [show items[i]? = some items[i] from Array.getElem?_eq_getElem hlt]
    refine wpAny_bind (he _ (Array.getElem_mem hlt) _ prog w _ _ ?_)
    rw [hno i hlt hi]
    exact wpAny_pure hq
  · rw [show items[j]? = some items[j] from Array.getElem?_eq_getElem hj]
    refine wpAny_bind (he _ (Array.getElem_mem hj) _ prog w _ _ ?_)
    rw [hit]
    wp_walk
    exact hq
  · wp_walk
    exact h
end Mine
end
section
set_option maxRecDepth 100000
namespace Mine
open PySem.Builtin PySem.Builtin.Str PySem.Calls PySem.SeqAt
noncomputable abbrev wordsL : List PySem.Str := [PySem.Str.ofString "return", PySem.Str.ofString "less", PySem.Str.ofString "begin", PySem.Str.ofString "skip", PySem.Str.ofString "push", PySem.Str.ofString "more", PySem.Str.ofString "pop", PySem.Str.ofString "reject", PySem.Str.ofString "echo", PySem.Str.ofString "skips"]
noncomputable abbrev wantsL : List Value := [.str (PySem.Str.ofString "kind") 670, .str (PySem.Str.ofString "number") 671, .str (PySem.Str.ofString "condition") 672, .str (PySem.Str.ofString "") 673, .str (PySem.Str.ofString "condition") 674, .str (PySem.Str.ofString "") 675, .str (PySem.Str.ofString "") 676, .str (PySem.Str.ofString "") 677, .str (PySem.Str.ofString "") 678, .str (PySem.Str.ofString "") 679]
noncomputable def TIdx (ys : List PySem.Str) (x : PySem.Str) (j : Nat) : Prop := ys[j]? = some x ∧ ∀ i, i < j → ys[i]? ≠ some x
theorem want_idx {wo : List Nat} {wa : Want} (h : wantR wo = some wa) : ∃ j t, j < 10 ∧ TIdx wordsL (tx wo) j ∧ wantsL[j]? = some (.str (PySem.Str.ofString wa.txt) t) ∧ ((wordsL.take 9).any fun y => y == tx wo) = true := by
  have key : ∀ z : String, wo = wd z → tx wo = PySem.Str.ofString z := fun z e => by rw [e, show tx (wd z) = PySem.Str.ofString z from tx_tl _]
  have chk : ∀ (z : String) (j : Nat), wo = wd z → (wordsL[j]? = some (PySem.Str.ofString z) ∧ ∀ i, i < j → wordsL[i]? ≠ some (PySem.Str.ofString z)) ∧ ((wordsL.take 9).any fun y => y == PySem.Str.ofString z) = true → TIdx wordsL (tx wo) j ∧ ((wordsL.take 9).any fun y => y == tx wo) = true := fun z j e h => by
    rw [key z e]; exact h
  unfold wantR at h
  split at h
  · rename_i e; cases h; obtain ⟨a, b⟩ := chk "return" 0 e ⟨⟨by decide +kernel, fun i hi => absurd hi (Nat.not_lt_zero _)⟩, by decide +kernel⟩; exact ⟨0, _, by decide, a, rfl, b⟩
  split at h
  · rename_i e; cases h; obtain ⟨a, b⟩ := chk "skip" 3 e (by decide +kernel); exact ⟨3, _, by decide, a, rfl, b⟩
  split at h
  · rename_i e; cases h; obtain ⟨a, b⟩ := chk "begin" 2 e (by decide +kernel); exact ⟨2, _, by decide, a, rfl, b⟩
  split at h
  · rename_i e; cases h; obtain ⟨a, b⟩ := chk "push" 4 e (by decide +kernel); exact ⟨4, _, by decide, a, rfl, b⟩
  split at h
  · rename_i e; cases h; obtain ⟨a, b⟩ := chk "pop" 6 e (by decide +kernel); exact ⟨6, _, by decide, a, rfl, b⟩
  split at h
  · rename_i e; cases h; obtain ⟨a, b⟩ := chk "more" 5 e (by decide +kernel); exact ⟨5, _, by decide, a, rfl, b⟩
  split at h
  · rename_i e; cases h; obtain ⟨a, b⟩ := chk "less" 1 e (by decide +kernel); exact ⟨1, _, by decide, a, rfl, b⟩
  split at h
  · rename_i e; cases h; obtain ⟨a, b⟩ := chk "reject" 7 e (by decide +kernel); exact ⟨7, _, by decide, a, rfl, b⟩
  split at h
  · rename_i e; cases h; obtain ⟨a, b⟩ := chk "echo" 8 e (by decide +kernel); exact ⟨8, _, by decide, a, rfl, b⟩
  · cases h
theorem want_no {wo : List Nat} (h : wantR wo = none) : ((wordsL.take 9).any fun y => y == tx wo) = false := by
  have hne : ∀ z : String, wo ≠ wd z → (PySem.Str.ofString z == tx wo) = false := fun z hz => by
    rw [beq_eq_false_iff_ne]; intro e; exact hz (by rw [← tl_tx wo, ← e])
  have hw : wo ≠ wd "return" ∧ wo ≠ wd "skip" ∧ wo ≠ wd "begin" ∧ wo ≠ wd "push" ∧ wo ≠ wd "pop" ∧ wo ≠ wd "more" ∧ wo ≠ wd "less" ∧ wo ≠ wd "reject" ∧ wo ≠ wd "echo" := by
    unfold wantR at h
    repeat' split at h
    all_goals first | (cases h; done) | (refine ⟨?_, ?_, ?_, ?_, ?_, ?_, ?_, ?_, ?_⟩ <;> assumption)
  obtain ⟨h1, h2, h3, h4, h5, h6, h7, h8, h9⟩ := hw
  simp only [wordsL, List.take, List.any_cons, List.any_nil, hne _ h1, hne _ h2, hne _ h3, hne _ h4, hne _ h5, hne _ h6, hne _ h7, hne _ h8, hne _ h9, Bool.or_false]
section
variable {prog : Program} {w : World} {A : Around} {E : Value → Shared → Prop} {s : Shared} {K : Frag} {h₀ : Heap} {L a : Addr} {m : PySem.Str → Option Value} {news : List (Addr × Obj)}
theorem tup_index_K {items : List Value} {ys : List PySem.Str} {n : Nat} {dd : Option Addr} {sl : Array (Option Value)} {x : PySem.Str} {t : Tok} {j : Nat} {Q : Value → Shared → Prop} (F : Fr h₀ L s.heap m) (X₀ : K.In h₀)
    (hl : K.lookup a = some ⟨.type "tuple", dd, .seq items.toArray n, sl⟩) (hs : StrsAre items ys) (hi : TIdx ys x j) (h : ∀ t' k, Q (.int (j : Int) t') { s with toks := k }) : wpAny (model prog w) A (call (.builtin "tuple.index") [.ref a, .str x t]) Q E s := by
  have ho := (X₀.keeps F.keep) _ _ hl
  have hat : ∀ (items : List Value) (ys : List PySem.Str), StrsAre items ys → ∀ i (hi : i < items.length), ∃ y u, items[i] = .str y u ∧ ys[i]? = some y := by
    intro items ys hs
    induction hs with
    | nil => intro i hi; exact absurd hi (Nat.not_lt_zero _)
    | cons y u _ ih =>
      intro i hi
      rcases i with _ | i
      · exact ⟨y, u, rfl, rfl⟩
      · exact ih i (by simpa using hi)
  have hlen := hs.length
  have hj : j < items.length := by
    rw [hlen]
    rcases Nat.lt_or_ge j ys.length with h1 | h1
    · exact h1
    · have h2 := hi.1; rw [List.getElem?_eq_none h1] at h2; cases h2
  refine call_meets PySem.F.slot_tuple_index ⟨_, ho, rfl⟩ PySem.F.entry_tuple_index (PySem.F.args_tuple_index_2 _ _) (tuple_indexAt a items.toArray n dd sl (.str x t) (fun v => match v with | .str y _ => y == x | _ => false) j (by simpa using hj) ?_ ?_) ⟨ho, fun y hy s' => ?_, h _ _⟩
  · obtain ⟨y, u, e1, e2⟩ := hat items ys hs j hj
    have : items.toArray[j]'(by simpa using hj) = .str y u := by simpa using e1
    rw [this]
    rw [hi.1] at e2
    injection e2 with e2
    simp [e2]
  · intro i hi' hij
    have hi2 : i < items.length := by simpa using hi'
    obtain ⟨y, u, e1, e2⟩ := hat items ys hs i hi2
    have : items.toArray[i]'hi' = .str y u := by simpa using e1
    rw [this]
    show (y == x) = false
    rw [beq_eq_false_iff_ne]
    intro e
    exact hi.2 i hij (by rw [e2, e])
  · have hy' : y ∈ items := by simpa using hy
    obtain ⟨i, hi3, rfl⟩ := List.mem_iff_getElem.mp hy'
    obtain ⟨z, u, e1, e2⟩ := hat items ys hs i hi3
    rw [e1]
    exact SeqAt.EqAt.str_str z u x t
theorem topTup_fact {value slice : PySem.Expr} {l : List Value} {n : Nat} {dd : Option Addr} {sl : Array (Option Value)} {j : Nat} {u : Tok} {v : Value} {Q : Value → Shared → Prop} (F : Fr h₀ L s.heap m) (X₀ : K.In h₀) (hl : K.lookup a = some ⟨.type "tuple", dd, .seq l.toArray n, sl⟩)
    (hx : l[j]? = some v) (hz : l.length ≤ 1000) (h : Q v s)
    (hs : subscripted slice false (.ref a) (.int (j : Int) u) = operate [.ref a, .int (j : Int) u] (getItem (.ref a) (.int (j : Int) u)) := by with_unfolding_all rfl) :
    wpAny (model prog w) A (subscriptTail value slice (.ref a) (.int (j : Int) u)) Q E s := by
  have hj : j < l.length := by
    rcases Nat.lt_or_ge j l.length with h1 | h1
    · exact h1
    · rw [List.getElem?_eq_none h1] at hx; cases hx
  refine topTup_K F X₀ hl (by omega) (by omega) ?_ hx h hs
  unfold seqIndex?
  have h1 : ¬ ((j : Int) < 0) := by omega
  simp only [h1, if_false]
  simp [hj]
theorem slice9 {value slice : PySem.Expr} {t : Addr} {v0 v1 v2 v3 v4 v5 v6 v7 v8 v9 : Value} {u : Tok} {Q : Value → Shared → Prop}
    (F : Fr h₀ L s.heap m) (N : News h₀ L s.heap news) (ht : IsTup s.heap t #[v0, v1, v2, v3, v4, v5, v6, v7, v8, v9])
    (h : ∀ D h', Fr h₀ L h' m → News h₀ L h' ((D, ({ cls := .type "tuple", data := .seq #[v0, v1, v2, v3, v4, v5, v6, v7, v8] } : Obj)) :: news) → (∀ p ∈ news, p.1 < D) → Q (.ref D) { s with heap := h' })
    (hs : subscripted slice false (.ref t) (.ref s.heap.objs.size) = operate [.ref s.heap.objs.size, .ref t] (getItem (.ref t) (.ref s.heap.objs.size)) := by with_unfolding_all rfl)
    (hg : ∀ r, letTemporaryGo value (.ref t) r = pure () := by intro _; with_unfolding_all rfl) :
    wpAny (model prog w) A (subscriptTail value slice (.ref t) (.ref s.heap.objs.size)) Q E { s with heap := s.heap.push { cls := .type "slice", data := .fields #[.none, .int 9 u, .none] } } := by
  have ht' : IsTup (s.heap.push { cls := .type "slice", data := .fields #[.none, .int 9 u, .none] }) t #[v0, v1, v2, v3, v4, v5, v6, v7, v8, v9] := ht.keeps fun _ _ e => Heap.get?_push_of_some _ e
  have hsl : (s.heap.push { cls := .type "slice", data := .fields #[.none, .int 9 u, .none] }).IsSliceOf s.heap.objs.size .none (.int 9 u) .none := Heap.IsSliceOf.new ..
  have N1 := News.push (F.push { cls := .type "slice", data := .fields #[.none, .int 9 u, .none] }) (N.grown fun _ _ e => Heap.get?_push_of_some _ e) { cls := .type "tuple", data := .seq #[v0, v1, v2, v3, v4, v5, v6, v7, v8] }
  have hF := (F.push { cls := .type "slice", data := .fields #[.none, .int 9 u, .none] }).push { cls := .type "tuple", data := .seq #[v0, v1, v2, v3, v4, v5, v6, v7, v8] }
  refine subscriptTail_ops (s := { s with heap := s.heap.push { cls := .type "slice", data := .fields #[.none, .int 9 u, .none] } }) ht'.typeIs slot_tuple_getitem.lookup ?_ hs hg
  obtain ⟨os, hos, hcs, hds⟩ := id hsl
  have hTs : ({ s with heap := s.heap.push { cls := .type "slice", data := .fields #[.none, .int 9 u, .none] } } : Shared).TypeIs (.ref s.heap.objs.size) "slice" := ⟨os, hos, hcs⟩
  unfold getItem
  try with_reducible refine wpAny_holding ?_
  first | refine wpAny_bind (wpAny_pure ?_) | skip
  refine wpAny_bind (wpAny_sequenceKey ht'.typeIs (by decide) ?_)
  refine wpAny_bind (wpAny_callSpecial?_slot (name := PySem.Str.ofString "__getitem__") ht'.typeIs slot_tuple_getitem
    (wpAny_call_entry slot_tuple_getitem ht'.typeIs entry_tuple_getitem ?_ (args_tuple_getitem _ _)))
  show wpAny _ _ (Builtin.Tuple.tupleItemsOf (.ref t) >>= _) _ _ _
  refine wpAny_bind (tupleItemsOf_ ht' ?_)
  refine wpAny_bind (wpAny_typeOf hTs ?_)
  rw [if_pos (by decide)]
  refine wpAny_bind ?_
  unfold Builtin.Slice.sliceApplied Builtin.Slice.sliceFields
  refine wpAny_bind (wpAny_bind (wpAny_field hos hds (x := .none) rfl (wpAny_bind (wpAny_field hos hds (x := .int 9 u) rfl (wpAny_bind (wpAny_field hos hds (x := .none) rfl (wpAny_pure ?_)))))))
  refine wpAny_bind (slicePart_none ?_)
  show wpAny _ _ (if ((1 : Int) == 0) = true then _ else _) _ _ _
  rw [if_neg (by decide)]
  refine wpAny_bind (slicePart_none (wpAny_bind (slicePart_int (wpAny_bind (wpAny_pure ?_)))))
  show wpAny _ _ (match Builtin.Slice.sliceAdjust none (some (9 : Int)) 1 (10 : Int) with | (lo, hi) => pure (lo, (1 : Int), Builtin.Slice.slicePlaces lo hi 1)) _ _ _
  rw [show Builtin.Slice.sliceAdjust none (some (9 : Int)) 1 (10 : Int) = ((0 : Int), (9 : Int)) from by decide +kernel]
  dsimp only
  rw [show Builtin.Slice.slicePlaces (0 : Int) (9 : Int) 1 = 9 from by decide +kernel]
  refine wpAny_pure ?_
  dsimp only
  rw [if_neg (by simp)]
  rw [show (List.filterMap (fun k : Nat => #[v0, v1, v2, v3, v4, v5, v6, v7, v8, v9][((0 : Int) + (k : Int) * 1).toNat]?) (List.range 9)).toArray = #[v0, v1, v2, v3, v4, v5, v6, v7, v8] from rfl]
  have hlt : ∀ p ∈ news, p.1 < (s.heap.push { cls := .type "slice", data := .fields #[.none, .int 9 u, .none] }).objs.size := fun p hp => Heap.lt_size (Heap.get?_push_of_some _ (N p hp).1)
  have hfin := h _ _ hF N1 hlt
  have hdrop : sizeOk (.seq #[v0, v1, v2, v3, v4, v5, v6, v7, v8]) := by
    show (#[v0, v1, v2, v3, v4, v5, v6, v7, v8] : Array Value).size ≤ sizeLine
    exact Nat.le_of_ble_eq_true rfl
  first
    | exact wpAny_bind (m := Builtin.Tuple.tupleExact _) (wpAny_newObj_type (wpAny_pure ⟨_, rfl, wpAny_pure hfin⟩) hdrop)
    | exact wpAny_bind (m := Builtin.Tuple.tupleExact _) (wpAny_newObj_type (wpAny_bind (wpAny_pure (wpAny_pure ⟨_, rfl, wpAny_pure hfin⟩))) hdrop)
    | exact wpAny_bind (wpAny_bind (m := Builtin.Tuple.tupleExact _) (wpAny_newObj_type (wpAny_pure (wpAny_pure ⟨_, rfl, wpAny_pure hfin⟩)) hdrop))
    | exact wpAny_bind (wpAny_bind (m := Builtin.Tuple.tupleExact _) (wpAny_newObj_type (wpAny_pure ⟨_, rfl, wpAny_pure hfin⟩) hdrop))
theorem tupMethod_K {n : Nat} {its : Array Value} {sl : Array (Option Value)} {pl : Sem Bool} {Q : Value × List Value → Shared → Prop} (F : Fr h₀ L s.heap m) (X₀ : K.In h₀) (hl : K.lookup a = some ⟨.type "tuple", none, .seq its n, sl⟩)
    (h : Q (.builtin "tuple.index", [.ref a]) s) : wpAny (model prog w) A (getMethod (.ref a) (PySem.Str.ofString "index") pl) Q E s :=
  getMethod_builtin ⟨_, (X₀.keeps F.keep) _ _ hl, rfl⟩ PySem.F.plainAttrs_tuple PySem.F.slot_tuple_index PySem.F.type_tuple_index (fun a e => by cases e; exact ⟨_, (X₀.keeps F.keep) _ _ hl, rfl⟩) h
theorem slice9_K {value slice : PySem.Expr} {t : Addr} {v0 v1 v2 v3 v4 v5 v6 v7 v8 v9 : Value} {n : Nat} {dd : Option Addr} {sl : Array (Option Value)} {u : Tok} {Q : Value → Shared → Prop}
    (F : Fr h₀ L s.heap m) (N : News h₀ L s.heap news) (X₀ : K.In h₀) (hl : K.lookup t = some ⟨.type "tuple", dd, .seq #[v0, v1, v2, v3, v4, v5, v6, v7, v8, v9] n, sl⟩)
    (h : ∀ D h', Fr h₀ L h' m → News h₀ L h' ((D, ({ cls := .type "tuple", data := .seq #[v0, v1, v2, v3, v4, v5, v6, v7, v8] } : Obj)) :: news) → (∀ p ∈ news, p.1 < D) → Q (.ref D) { s with heap := h' })
    (hs : subscripted slice false (.ref t) (.ref s.heap.objs.size) = operate [.ref s.heap.objs.size, .ref t] (getItem (.ref t) (.ref s.heap.objs.size)) := by with_unfolding_all rfl)
    (hg : ∀ r, letTemporaryGo value (.ref t) r = pure () := by intro _; with_unfolding_all rfl) :
    wpAny (model prog w) A (subscriptTail value slice (.ref t) (.ref s.heap.objs.size)) Q E { s with heap := s.heap.push { cls := .type "slice", data := .fields #[.none, .int 9 u, .none] } } :=
  slice9 F N (tupK (l := [v0, v1, v2, v3, v4, v5, v6, v7, v8, v9]) (X₀.keeps F.keep) hl) h hs hg
end
end Mine
end
section
set_option maxRecDepth 100000
namespace Mine
open PySem.Builtin PySem.Builtin.Str
/-- a text of at most k signs, ASCII, without a newline -/
structure GoodT (x : PySem.Str) (k : Nat) : Prop where
  len : x.length ≤ k
  asc : ∀ c ∈ tl x, c < 128
  nl : (10 : Nat) ∉ tl x
noncomputable def goodB (x : PySem.Str) (k : Nat) : Bool := decide (x.length ≤ k) && (tl x).all fun c => decide (c < 128) && c != 10
theorem good_of {x : PySem.Str} {k : Nat} (h : goodB x k = true) : GoodT x k := by
  simp only [goodB, Bool.and_eq_true, decide_eq_true_eq, List.all_eq_true, bne_iff_ne, ne_eq] at h
  exact ⟨h.1, fun c hc => (h.2 c hc).1, fun hc => (h.2 10 hc).2 rfl⟩
theorem GoodT.append {x y : PySem.Str} {a b : Nat} (h : GoodT x a) (g : GoodT y b) : GoodT (x ++ y) (a + b) := by
  refine ⟨?_, fun c hc => ?_, fun hc => ?_⟩
  · rw [len_tl, tl_append, List.length_append, ← len_tl, ← len_tl]; have := h.len; have := g.len; omega
  · rw [tl_append] at hc; exact (List.mem_append.mp hc).elim (h.asc c) (g.asc c)
  · rw [tl_append] at hc; exact (List.mem_append.mp hc).elim h.nl g.nl
theorem GoodT.mono {x : PySem.Str} {a b : Nat} (h : GoodT x a) (hb : a ≤ b) : GoodT x b := ⟨Nat.le_trans h.len hb, h.asc, h.nl⟩
theorem GoodT.pick {x : PySem.Str} {a : Nat} {l : List Nat} (h : GoodT x a) (hl : l.length ≤ (tl x).length) (hs : ∀ c ∈ l, c ∈ tl x) : GoodT (tx l) a := by
  refine ⟨?_, fun c hc => ?_, fun hc => ?_⟩
  · rw [len_tl, tl_tx]; have := h.len; rw [len_tl] at this; omega
  · rw [tl_tx] at hc; exact h.asc c (hs c hc)
  · rw [tl_tx] at hc; exact h.nl (hs _ hc)
theorem GoodT.cutTo {x : PySem.Str} {a b : Nat} (h : GoodT x a) : GoodT (Txt.slice x none (some ((b : Nat) : Int))) a := by
  rw [slc_ns b rfl]; exact h.pick (List.length_take_le' _ _) fun c hc => List.mem_of_mem_take hc
theorem GoodT.cutFrom {x : PySem.Str} {a b : Nat} (h : GoodT x a) : GoodT (Txt.slice x (some ((b : Nat) : Int)) none) a := by
  rw [slc_sn b rfl]; exact h.pick (by rw [List.length_drop]; omega) fun c hc => List.mem_of_mem_drop hc
theorem good_nil : GoodT (PySem.Str.ofString "") 0 := good_of (by decide +kernel)
theorem good_sp : GoodT (PySem.Str.ofString " ") 1 := good_of (by decide +kernel)
noncomputable def goodV (l : List Value) : Bool := l.all fun v => match v with | .str x _ => goodB x 8 | _ => false
theorem goodV_cons {x : PySem.Str} {t : Tok} {l : List Value} (h : goodB x 8 = true) (hl : goodV l = true) : goodV (.str x t :: l) = true := by
  rw [goodV, List.all_cons, Bool.and_eq_true]; exact ⟨h, hl⟩
theorem words_goodV {t0 t1 t2 t3 t4 t5 t6 t7 t8 t9 : Tok} : goodV [.str (PySem.Str.ofString "return") t0, .str (PySem.Str.ofString "less") t1, .str (PySem.Str.ofString "begin") t2, .str (PySem.Str.ofString "skip") t3, .str (PySem.Str.ofString "push") t4, .str (PySem.Str.ofString "more") t5, .str (PySem.Str.ofString "pop") t6, .str (PySem.Str.ofString "reject") t7, .str (PySem.Str.ofString "echo") t8, .str (PySem.Str.ofString "skips") t9] = true := goodV_cons (by decide +kernel) (goodV_cons (by decide +kernel) (goodV_cons (by decide +kernel) (goodV_cons (by decide +kernel) (goodV_cons (by decide +kernel) (goodV_cons (by decide +kernel) (goodV_cons (by decide +kernel) (goodV_cons (by decide +kernel) (goodV_cons (by decide +kernel) (goodV_cons (by decide +kernel) (rfl))))))))))
theorem lits_goodV {t0 t1 t2 t3 t4 t5 t6 : Tok} : goodV [.str (PySem.Str.ofString "'c'") t0, .str (PySem.Str.ofString "';'") t1, .str (PySem.Str.ofString "'\\n'") t2, .str (PySem.Str.ofString "'\\''") t3, .str (PySem.Str.ofString "'\\x2d'") t4, .str (PySem.Str.ofString "''") t5, .str (PySem.Str.ofString "'ab'") t6] = true := goodV_cons (by decide +kernel) (goodV_cons (by decide +kernel) (goodV_cons (by decide +kernel) (goodV_cons (by decide +kernel) (goodV_cons (by decide +kernel) (goodV_cons (by decide +kernel) (goodV_cons (by decide +kernel) (rfl)))))))
theorem worths_goodV {t0 t1 t2 t3 t4 t5 t6 t7 t8 t9 : Tok} : goodV [.str (PySem.Str.ofString " A") t0, .str (PySem.Str.ofString " B_2") t1, .str (PySem.Str.ofString "  x9") t2, .str (PySem.Str.ofString " INITIAL") t3, .str (PySem.Str.ofString " 7") t4, .str (PySem.Str.ofString " 001234") t5, .str (PySem.Str.ofString " 1234567") t6, .str (PySem.Str.ofString "") t7, .str (PySem.Str.ofString "3") t8, .str (PySem.Str.ofString "a") t9] = true := goodV_cons (by decide +kernel) (goodV_cons (by decide +kernel) (goodV_cons (by decide +kernel) (goodV_cons (by decide +kernel) (goodV_cons (by decide +kernel) (goodV_cons (by decide +kernel) (goodV_cons (by decide +kernel) (goodV_cons (by decide +kernel) (goodV_cons (by decide +kernel) (goodV_cons (by decide +kernel) (rfl))))))))))
theorem between_goodV {t0 t1 t2 t3 t4 t5 : Tok} : goodV [.str (PySem.Str.ofString "; ") t0, .str (PySem.Str.ofString ";") t1, .str (PySem.Str.ofString " ;\t") t2, .str (PySem.Str.ofString " ") t3, .str (PySem.Str.ofString "") t4, .str (PySem.Str.ofString ";;") t5] = true := goodV_cons (by decide +kernel) (goodV_cons (by decide +kernel) (goodV_cons (by decide +kernel) (goodV_cons (by decide +kernel) (goodV_cons (by decide +kernel) (goodV_cons (by decide +kernel) (rfl))))))
theorem set_goodV {t0 t1 t2 t3 t4 t5 t6 : Tok} : goodV [.str (PySem.Str.ofString " ") t0, .str (PySem.Str.ofString ";") t1, .str (PySem.Str.ofString "'") t2, .str (PySem.Str.ofString "#") t3, .str (PySem.Str.ofString "_") t4, .str (PySem.Str.ofString "0") t5, .str (PySem.Str.ofString "\\") t6] = true := goodV_cons (by decide +kernel) (goodV_cons (by decide +kernel) (goodV_cons (by decide +kernel) (goodV_cons (by decide +kernel) (goodV_cons (by decide +kernel) (goodV_cons (by decide +kernel) (goodV_cons (by decide +kernel) (rfl)))))))
theorem goodV_at {l : List Value} (h : goodV l = true) : ∀ j, j < l.length → ∃ y t, l[j]? = some (.str y t) ∧ goodB y 8 = true := fun j hj => by
  have hm := List.all_eq_true.mp h l[j] (List.getElem_mem hj)
  rw [List.getElem?_eq_getElem hj]
  generalize l[j] = v at hm
  cases v <;> first | exact ⟨_, _, rfl, hm⟩ | cases hm
section
variable {prog : Program} {w : World} {A : Around} {E : Value → Shared → Prop} {s : Shared} {h₀ : Heap} {L : Addr} {m : PySem.Str → Option Value} {K : Frag} {a : Addr}
/-- an item of a table of good texts -/
theorem tab_good {value slice : PySem.Expr} {l : List Value} {n : Nat} {dd : Option Addr} {sl : Array (Option Value)} {i : Int} {u : Tok} {Q : Value → Shared → Prop} (F : Fr h₀ L s.heap m) (X₀ : K.In h₀) (hl : K.lookup a = some ⟨.type "tuple", dd, .seq l.toArray n, sl⟩)
    (hg : goodV l = true) (h0 : 0 ≤ i) (h1 : i < ((l.length : Nat) : Int)) (hz : l.length ≤ 1000) (h : ∀ x t, GoodT x 8 → Q (.str x t) s)
    (hb : subscripted slice false (.ref a) (.int i u) = operate [.ref a, .int i u] (getItem (.ref a) (.int i u)) := by with_unfolding_all rfl) :
    wpAny (model prog w) A (subscriptTail value slice (.ref a) (.int i u)) Q E s := by
  obtain ⟨y, t, e, hm⟩ := goodV_at hg i.toNat (by omega)
  refine topTup_K (j := i.toNat) F X₀ hl (by omega) (by omega) ?_ e (h y t (good_of hm)) hb
  unfold seqIndex?
  have h2 : ¬ (i < 0) := by omega
  simp only [h2, if_false]
  have h3 : (0 ≤ i && i < (l.length : Int)) = true := by
    simp only [Bool.and_eq_true, decide_eq_true_eq]; omega
  rw [if_pos h3]
/-- two good texts glued -/
theorem add_good {x y : PySem.Str} {t u : Tok} {j k : Nat} {Q : Value → Shared → Prop} (hx : GoodT x j) (hy : GoodT y k) (hb : j + k ≤ 1000) (h : ∀ z t' tk, GoodT z (j + k) → Q (.str z t') { s with toks := tk }) :
    wpAny (model prog w) A (binaryOp .Add (.str x t) (.str y u)) Q E s :=
  add_str (fun t' tk => h _ t' tk (hx.append hy)) (by have := hx.len; have := hy.len; rw [sizeLine_eq]; omega)
end
end Mine
end
section
theorem Mine.wr_Draw : True := by
  k_with_none
  k_with "call ref" => k_extra "call ref last"
  k_with "om" => with_reducible first | assumption | exact Nat.add_sub_cancel_left _ _ | exact Int.ofNat_lt.mpr (by assumption) | exact Int.ofNat_le.mpr (by assumption) | exact Int.ofNat_lt.mp (by assumption) | exact Int.ofNat_le.mp (by assumption) | exact o_lt (by assumption) | exact o_nlt (by assumption) | exact o_63 (by assumption) (by assumption) (by with_unfolding_all exact rfl) | exact o_s2 (by assumption) | exact o_s1 (by assumption) (by assumption) | exact o_s3 (by assumption) (by assumption) | exact o_mt (by assumption) | exact o_f1 (by assumption) | exact Nat.le_of_lt (by assumption) | exact Nat.not_le.mp (by assumption) | exact o_sub (by assumption) | exact o_big1 (by assumption) (by with_unfolding_all exact rfl) | exact Nat.le_trans (Nat.le_add_right _ _) (by assumption) | exact Int.natCast_nonneg _ | exact Nat.le_trans (by assumption) (by assumption) | exact o_big (by assumption) (by assumption) (by with_unfolding_all exact rfl) | exact o_ltM (by assumption) (by assumption) | exact o_tr (by assumption) (by assumption) (by assumption) | exact Nat.lt_of_lt_of_le (by assumption) (by assumption) | exact Nat.lt_of_le_of_lt (by assumption) (by assumption) | exact Nat.ne_of_lt (by assumption) | exact Nat.ne_of_gt (by assumption) | exact o_mm (by assumption) | exact o_mm2 (by assumption) (by assumption) | exact o_mn | exact o_ml (by assumption) (by assumption) | exact o_and (by assumption) | rfl
  k_with "kst" => k_extra "mine kst"
  k_with "kst" => k_extra "mine same3"
  k_with "ksw" => k_extra "mine ksw"
  k_with "ksw" => k_extra "mine same"
  k_with "mine enter" => (refine' code_def ?k1q160 ?k2q160 ?k3q160 ?k4q160 ?k5q160 ?kAq160 ?kFq160 ?kKq160 ?k6q160 ?k7q160 ?k8q160 ?k9q160 ?kBq160 ?_ ?c2q160 ?c3q160 ?c4q160 ?c5q160; (case kAq160 => exact rfl); (case kFq160 => exact rfl); (case kKq160 => first | exact rfl | assumption); (case k1q160 => k_asm); (case k2q160 => k_asm); (case k3q160 => k_asm); (case k4q160 => k_asm); (case k5q160 => k_asm); (case k6q160 => k_is); (case k7q160 => k_is); (case k8q160 => first | (refine' rm0 ?rhq160; (case rhq160 => assumption)) | (refine' rm1 ?rhq160 ?rlq160; (case rhq160 => assumption); (case rlq160 => exact rfl)) | (refine' rm2 ?rhq160 ?rlq160; (case rhq160 => assumption); (case rlq160 => exact rfl)) | ktr_room); (case k9q160 => first | exact BindsTo.of_eq rfl | exact binds_K (by k_in) rfl (by k_is) rfl rfl rfl); (case c5q160 => decide); (case kBq160 => exact locs rfl); (case c2q160 => exact rfl); (case c3q160 => exact rfl); (case c4q160 => exact rfl); k_whole; intro g' L' h' FG'; (refine (?_ : let mk := _; Fr _ _ _ mk → _)); intro mk F' N' B' X' T'; (refine (?_ : let nk := _; let ak := _; let qk := _; let ek := _; let sk := _; wpAny _ ak (execs _ nk) qk ek sk)); intro nk ak qk ek sk)
  k_with "subscriptTail Name Attribute str int" => ((with_reducible show wpAny _ _ (subscriptTail _ _ (Value.str _ _) (Value.int _ _)) _ _ _); refine item_str (fitsSsize_of (N := 9223372036854775808) (by omega) (by omega) (Int.le_refl _)) (by omega) (by omega) ?_; intro _)
  k_with "mine inline" => (k_dflt (first | (refine' call_cls ?k1q162 ?k2q162 ?k3q162 ?k4q162 ?k5q162 ?k6q162 ?_; (case k1q162 => k_asm); (case k2q162 => k_asm); (case k3q162 => k_asm); (case k4q162 => k_is); (case k5q162 => k_is); (case k6q162 => k_is); k_whole; intro x' d' h' F' N' l1 l2; (try k_lt l1); (try k_lt2 l2); (try k_sweep); walk_at "mine enter") | (refine wpAny_call ?_; walk_at "mine enter")))
  k_with "ite" => first | with_reducible refine ite_tt ?_ | with_reducible refine ite_ff ?_
  k_with "mine room" => first | (refine' rm2 ?rhq164 ?rlq164; (case rhq164 => assumption); (case rlq164 => exact rfl)) | decide +kernel | omega | (simp only [depth_deeper, units_deeper]; omega) | (dsimp only [ktrTop]; omega) | (dsimp only [Around.deeper, ktrTop]; omega) | ktr_room | ktr_units
  k_with "mine tail" => ((case zzB => k_asm); (case zzF => k_asm); (case zzX => k_asm); (case zzT => k_asm); (case zzN => k_asm); (case zzk => first | exact rfl | assumption); (case zzp => walk_at "mine room"); (case zzu => walk_at "mine room"))
  k_with "isTrue Compare" => (k_here; first | ((with_reducible show wpAny _ _ (isTrue (PySem.Expr.Compare (PySem.Expr.Name _ _) [PySem.CmpOp.Eq] [PySem.Expr.Constant (PySem.Const.str _) _ _] _) _ _) _ _ _); k_dflt (refine' tst_eq ?zaq166 ?zbq166 ?zcq166 ?zmq166 ?zFq166 ?zvq166 ?_; (case zFq166 => k_asm); (case zaq166 => rfl); (case zbq166 => rfl); (case zcq166 => decide); (case zvq166 => rfl); (case zmq166 => with_unfolding_all rfl); k_whole)) | ((with_reducible show wpAny _ _ (isTrue (PySem.Expr.Compare (PySem.Expr.Name _ _) [PySem.CmpOp.NotEq] [PySem.Expr.Constant (PySem.Const.str _) _ _] _) _ _) _ _ _); k_dflt (refine' tst_ne ?zaq166 ?zbq166 ?zcq166 ?zmq166 ?zFq166 ?zvq166 ?_; (case zFq166 => k_asm); (case zaq166 => rfl); (case zbq166 => rfl); (case zcq166 => decide); (case zvq166 => rfl); (case zmq166 => with_unfolding_all rfl); k_whole)))
  k_with "eval BinOp" => (k_here; (with_reducible show wpAny _ _ (eval (PySem.Expr.BinOp (PySem.Expr.Name _ _) PySem.Operator.Add (PySem.Expr.Constant (PySem.Const.int _) _ _) _) _) _ _ _); k_dflt (refine' add_nc ?zaq167 ?zbq167 ?zcq167 ?zFq167 ?zvq167 ?_; (case zFq167 => k_asm); (case zaq167 => rfl); (case zbq167 => rfl); (case zcq167 => decide); (case zvq167 => rfl); k_whole))
  k_with "mine steps" => repeat' (first | ((first | (fail_if_success (fail_if_success k_unfold)) | (fail_if_success (fail_if_success k_fold))); (refine (?_ : let qk := _; let sk := _; wpAny _ _ _ qk _ sk)); intro qk sk) | ((fail_if_success (fail_if_success k_unfold)); (refine (?_ : let sk := _; LeaveK _ _ _ _ _ _ sk)); intro sk) | (k_unfold; (try dsimp only)) | walk1 | (k_end; wrow_close) | (dsimp only [List.nil_append, List.cons_append]; walk1) | (leave1; (try dsimp only)) | fail "no step")
  k_with "execs cons" => (with_reducible refine wpAny_execs_cons ?_)
  k_with "eval Name" => (k_dflt (refine' nmL ?zaq170 ?zbq170 ?zdq170 ?zFq170 ?zvq170 ?_; (case zFq170 => k_asm); (case zaq170 => rfl); (case zbq170 => rfl); (case zvq170 => rfl); (case zdq170 => decide); k_whole))
  k_with "storeName" => (k_dflt (refine' stL ?zaq171 ?zbq171 ?zFq171 ?zNq171 ?_; (case zFq171 => k_asm); (case zNq171 => k_asm); (case zaq171 => rfl); (case zbq171 => rfl); k_whole; intro h' mk F' N'; (try k_sweep)))
  k_with "LeaveK" => (k_dflt (refine' leaveK_ ?k1q172 ?k2q172 ?_; (case k1q172 => k_asm); (case k2q172 => k_asm); k_whole); intro kF kN; (try dsimp only [InitBack]); (try refine ⟨rfl, ?_⟩))
  k_with "mine kst" => (intro z h1 h2 h3; (try dsimp +zetaDelta only [kstB]); (try simp only [List.forall_mem_cons, List.not_mem_nil, false_implies, implies_true, and_true, ne_eq] at h2); first | rfl | (simp [h1]; done) | (simp [h1, h2]; done) | ((try simp only [List.contains_cons, List.contains_nil, Bool.or_false, Bool.or_eq_false_iff, beq_eq_false_iff_ne, ne_eq] at h3); first | (simp [h1, h3]; done) | (simp [h1, h2, h3]; done)))
  k_with "mine same3" => (k_dflt (refine sn_end3 ?_; (repeat (first | (with_reducible exact sn_refl) | (refine' sn_in ?_ ?hpq174 ?hsq174; (case hpq174 => exact rfl); (case hsq174 => exact rfl)) | (refine' sn_upd ?_ ?hxq174; (case hxq174 => exact rfl)))); done))
  k_with "mine ksw" => (intro z h2 h3; (try dsimp +zetaDelta only [kstB]); (try simp only [List.forall_mem_cons, List.not_mem_nil, false_implies, implies_true, and_true, ne_eq] at h2); (try simp only [List.contains_cons, List.contains_nil, Bool.or_false, Bool.or_eq_false_iff, beq_eq_false_iff_ne, ne_eq] at h3); first | rfl | (simp [h2]; done) | (simp [h3]; done) | (simp [h2, h3]; done))
  k_with "mine same" => (k_dflt (refine sn_end ?_; (repeat (first | (with_reducible exact sn_refl) | (refine' sn_in ?_ ?hpq176 ?hsq176; (case hpq176 => exact rfl); (case hsq176 => exact rfl)) | (refine' sn_upd ?_ ?hxq176; (case hxq176 => exact rfl)))); done))
  w_top off
  trivial
namespace Mine
theorem ints_of_mem {vs : List Value} {ns : List Int} (h : IntsAre vs ns) (x : Addr) : Value.ref x ∉ vs := by
  induction h with
  | nil => intro h; cases h
  | cons _ _ _ ih => intro h; rcases List.mem_cons.mp h with h | h; cases h; exact ih h
theorem draw_ne {h₀ h : Heap} {L sr ce : Addr} {news : List (Addr × Obj)} {at_ : Int} {vs : List Value} {ns : List Int} {u1 : Tok} {n1 n2 : Nat} (N : News h₀ L h news) (h1 : (sr, listOf #[.ref ce, .int at_ u1] n1) ∈ news) (h2 : (ce, listOf vs.toArray n2) ∈ news) (hi : IntsAre vs ns) : ce ≠ sr := fun e => by
  have a := (N _ h1).1
  have b := (N _ h2).1
  simp only at a b
  rw [e, a] at b
  injection b with b
  have b := congrArg (fun o : Obj => match o.data with | .seq xs _ => xs.toList | _ => []) b
  simp only [W.listOf] at b
  have : Value.ref ce ∈ vs := by rw [← b]; exact .head _
  exact ints_of_mem hi _ this
theorem draw_val (x : Int) {lim : Nat} (h : 0 < lim) : ∃ v : Nat, x.fmod (lim : Int) = (v : Int) ∧ v < lim := by
  have h1 := Int.fmod_nonneg_of_pos x (show (0 : Int) < (lim : Int) by omega)
  have h2 := Int.fmod_lt_of_pos x (show (0 : Int) < (lim : Int) by omega)
  exact ⟨(x.fmod (lim : Int)).toNat, (Int.toNat_of_nonneg h1).symm, by omega⟩
set_option maxHeartbeats 8000000 in
theorem draw_ok {w : World} {mean : ExcName → Option Value} {mg mb : PySem.Str → Option Value} {dp un : Nat} {gd : Option (List Code)} {cn : PySem.Str} {cs : Scope} {a : Addr} {ccd : Value} {cl : List (PySem.Str × Addr)} {outer : List Env} {A₀ : Around} {base h₀ : Heap} {L : Addr} {m : PySem.Str → Option Value} {s : Shared} {Q E : Value → Shared → Prop} {news : List (Addr × Obj)} (B : Below A₀ base outer h₀) (F : Fr h₀ L s.heap m) (X : (Mine.hd.heap_1_39 w.params).In h₀) (T : Top Mine.hd.view_1_40 lo mean mg mb h₀) (hk : cs.kind = .function) (hdp : dp + 5 < recursionLimit) (hun : un + 50 < cLine) (N : News h₀ L s.heap news) {sr ce : Addr} {vs : List Value} {ns : List Int} {n1 n2 : Nat} {u1 u2 : Tok} {at_ lim : Nat} {gg : Obj → List (Addr × Obj)} 
  (U : UpdF sr (listOf #[.ref ce, .int (at_ : Int) u1] n1) news gg) (hc : (ce, listOf vs.toArray n2) ∈ news) (hi : IntsAre vs ns) (hne : 0 < ns.length) (h60 : ns.length ≤ 60) (ha2 : at_ ≤ 1000) (hl : 0 < lim) (hl2 : lim ≤ 100)
  (ret : ∀ (v : Nat) (u u' : Tok) (n' : Nat) (h' : Heap) (tk' : Nat), v < lim → Fr h₀ L h' m → News h₀ L h' (gg (listOf #[.ref ce, .int ((at_ + 1 : Nat) : Int) u'] n')) → Q (.int (v : Int) u) { s with heap := h', toks := tk' })
  : wpAny (model PySem.Challenge.rw_nn0359_01.row.prog w) (ktrTop dp un gd cn cs L a ccd cl outer) (call (.ref 336) [.ref sr, .int (lim : Int) u2]) Q E s := by
  have hcd := draw_ne N (upd_mem U) hc hi
  obtain ⟨rest, hr1, hr2, hr3⟩ := news_turn U
  have N2 := cur_news N hc hr2
  clear N
  have hvl := hi.length
  refine wpAny_call ?_
  k_dflt walk_at "mine enter"
  walk_at "mine steps"
  obtain ⟨v, hv, hvl⟩ := draw_val (ns.getD ((at_ : Int).fmod (ns.length : Int)).toNat 0 + 11 * (at_ : Int).fdiv (ns.length : Int)) hl
  rw [hv]
  exact ret _ _ _ _ _ _ hvl (by assumption) (cur_back hr3 (by assumption))
end Mine
end
section
set_option maxRecDepth 100000
namespace Mine
open PySem.Calls
section
variable {prog : Program} {w : World} {A : Around} {E : Value → Shared → Prop} {s : Shared} {h₀ : Heap} {L : Addr} {m : PySem.Str → Option Value} {env : Env}
theorem str_st {I : Addr} {T : String} {x : PySem.Str} {t : Tok} : ∀ i (h h' : Heap) (o : Obj) (nw : List (Addr × Obj)), h.IsStrIter I T x t i → h.get? I = some o → h'.get? I = some o → (∀ b o, h₀.get? b = some o → h'.get? b = some o) → News h₀ L h' nw → True → h'.IsStrIter I T x t i :=
  fun i h h' o nw st e e' _ _ _ => let ⟨o', ho, r⟩ := st; ⟨o, e', by rw [e] at ho; cases ho; exact r⟩
/-- a text as a comprehension's source -/
noncomputable def SrcX (prog : Program) (w : World) (A : Around) (h₀ : Heap) (L : Addr) (m : PySem.Str → Option Value) (env : Env) (elt : Expr) (x : PySem.Str) (scope : Scope) (cl : List (PySem.Str × Addr)) (Q : Value → Shared → Prop) (xv : Value) (s₁ : Shared) : Prop :=
  ∃ X t news, xv = .str X t ∧ A.handled = none ∧ Fr h₀ L s₁.heap m ∧ News h₀ L s₁.heap news ∧ X.cps.size ≤ sizeLine ∧
      ∀ g, LCg.CompRest prog w A h₀ L m env elt x scope cl { s₁ with heap := g } (fun _ => True) (SignAt X) (LCg.FinE h₀ L m { s₁ with heap := g } Q) X.cps.size 0 [] news
/-- a list comprehension over a text -/
theorem ListComp_X {elt iter : Expr} {x : PySem.Str} {px : Pos} {scope : Scope} {cl : List (PySem.Str × Addr)} {pos : Pos} {Q : Value → Shared → Prop} (F₀ : Fr h₀ L s.heap m)
    (hclos : closureFor scope env = pure cl) (hcell : ∀ y ∈ scope.names, y.2 ≠ .cell) (hkind : scope.kind = .function)
    (hnames : ∀ y ∈ scope.names, y.2 = .local → scope.names.lookup y.1 = some .local) (hx : scope.names.lookup x = some .local)
    (h : wpAny (model prog w) A (eval iter env) (SrcX prog w A h₀ L m env elt x scope cl Q) E s)
    (hs : ∀ x, foldedSetIterable iter env x = pure x := by intro _; rfl) :
    wpAny (model prog w) A (eval (.ListComp elt [⟨.Name x px, iter, [], 0⟩] scope pos) env) Q E s := by
  rw [eval_ListComp]
  refine wpAny_comprehension_free (use := none) rfl hs hclos hkind hnames (wpAny_mono h (fun xv s₁ h₁ => ?_) fun _ _ e => e)
  obtain ⟨X, t, news, rfl, hh, F, N, hsz, R⟩ := h₁
  have fin : ∀ D C h tk m' ys news', Fr h₀ L h m → News h₀ L h ((D, LCg.lst ys) :: news') → LCg.Off1 D news' → h.Ns C m' → h₀.get? C = none → h₀.get? D = none → C ≠ L → D ≠ L → C ≠ D → (∀ p ∈ news', p.1 ≠ C) →
      ∀ g, LCg.FinE h₀ L m { s₁ with heap := g } Q ys news' → ∃ m', h.Ns C m' ∧ ∀ h'', Heap.SameBut C h h'' → Q (.ref D) { s₁ with heap := h'', toks := tk } := by
    intro D C h tk m' ys news' F' N' o1 hn hC₀ hD₀ hCL hDL hCD offC g fin
    refine ⟨m', hn, fun h'' hs'' => fin D h'' tk (F'.change hs'' hCL hC₀) (fun p hp => ?_) o1⟩
    refine ⟨hs''.extBut _ _ ?_ (N' p hp).1, (N' p hp).2⟩
    rcases List.mem_cons.mp hp with rfl | hp
    · exact Ne.symm hCD
    · exact offC p hp
  have up : ∀ o : Obj, ∀ b o', s₁.heap.get? b = some o' → (s₁.heap.push o).get? b = some o' := fun o b o' e => Heap.get?_push_of_some _ e
  have hfp : ∀ o : Obj, ∀ b ∈ [s₁.heap.objs.size], b < (s₁.heap.push o).objs.size := fun o b hb => by
    rw [List.mem_singleton.mp hb, Heap.size_push]; exact Nat.lt_succ_self _
  refine wpAny_pyIter_strU ?_
  by_cases ha : X.cps.all (· < 128) = true
  · rw [show strIterType X = "str_ascii_iterator" by simp [strIterType, ha]]
    exact LCg.block_U (Walks.strAscii hh s₁.heap.objs.size X t) hsz (fun i h st => let ⟨o, e, _⟩ := st; ⟨o, e⟩) str_st hcell hkind hx ⟨_, Heap.get?_push_size _ rfl, rfl, rfl⟩ (hfp _)
      (F.keeps (up _)) (N.grown (up _)) (Nat.ne_of_lt F.ns.lt) (next_is_new F) (fun p hp => Nat.ne_of_lt (Heap.lt_size (N p hp).1)) trivial (R _) fun D C h tk m' ys news' a b c d e f g i j k l => fin D C h tk m' ys news' a b c d e f g i j k _ l
  · rw [show strIterType X = "str_iterator" by simp only [strIterType, if_neg ha]]
    exact LCg.block_U (Walks.strWide hh s₁.heap.objs.size X t) hsz (fun i h st => let ⟨o, e, _⟩ := st; ⟨o, e⟩) str_st hcell hkind hx ⟨_, Heap.get?_push_size _ rfl, rfl, rfl⟩ (hfp _)
      (F.keeps (up _)) (N.grown (up _)) (Nat.ne_of_lt F.ns.lt) (next_is_new F) (fun p hp => Nat.ne_of_lt (Heap.lt_size (N p hp).1)) trivial (R _) fun D C h tk m' ys news' a b c d e f g i j k l => fin D C h tk m' ys news' a b c d e f g i j k _ l
theorem ld_cell {M : Model} {news : List (Addr × Obj)} {C : Addr} {scope : Scope} {cl : List (PySem.Str × Addr)} {x : PySem.Str} {pos : Pos} {c : Addr} {o : Obj} {v : Value} {Q : Value → Shared → Prop} (N : News h₀ L s.heap news) (hc : cl.lookup x = some c) (hm : (c, o) ∈ news) (hd : o.data = .cell (some v)) (h : Q v s)
    (hk : (compEnvC scope cl C env).scope.kind = .function := by rfl) (hl : (compEnvC scope cl C env).kindOf x = some .cell := by rfl) (hb : (x == ("__debug__" : Str)) = false := by decide) :
    wpAny M A (eval (.Name x pos) (compEnvC scope cl C env)) Q E s := wpAny_Name (wpAny_loadName_cell hk hl hc ⟨o, N.get hm, hd⟩ h) hb
end
end Mine
end
section
set_option maxRecDepth 100000
namespace Mine
section
variable {prog : Program} {w : World} {A : Around} {h₀ : Heap} {L : Addr} {m : PySem.Str → Option Value} {env : Env} {elt : Expr} {x : PySem.Str} {scope : Scope} {cl : List (PySem.Str × Addr)} {s : Shared} {S : List (Addr × Obj) → Prop} {P : Nat → Value → Prop} {Fin : List Value → List (Addr × Obj) → Prop} {news : List (Addr × Obj)}
/-- the turns of a comprehension, by what stays true -/
theorem comp_any {α : Type} {xs : List α} (val : α → Value) (K : List α → List Value → List (Addr × Obj) → Prop) {n : Nat} (hn : n = xs.length)
    (hP : ∀ i v, i < xs.length → P i v → ∃ xx, xs[i]? = some xx ∧ v = val xx)
    (turn : ∀ xx done ys nw I oI C oC D m₂ h tk (E' : Value → Shared → Prop), xx ∈ xs → K done ys nw → LCg.NsObj oC m₂ → m₂ x = some (val xx) → Fr h₀ L h m → News h₀ L h ((I, oI) :: (C, oC) :: (D, LCg.lst ys) :: nw) → LCg.Off3 I C D nw → ((@Ne Nat I C) ∧ (@Ne Nat I D) ∧ (@Ne Nat C D)) →
      wpAny (model prog w) A (eval elt (compEnvC scope cl C env)) (LCg.CompEnd h₀ L m { s with heap := h, toks := tk } I oI C oC D (LCg.lst ys) S (fun y nw' => K (done ++ [xx]) (ys ++ [y]) nw')) E' { s with heap := h, toks := tk })
    (fin : ∀ ys nw, K xs ys nw → Fin ys nw) (h0 : K [] [] news) : LCg.CompRest prog w A h₀ L m env elt x scope cl s S P Fin n 0 [] news := by
  subst hn
  have key : ∀ (j i : Nat) (ys : List Value) (nw : List (Addr × Obj)), i + j = xs.length → K (xs.take i) ys nw → LCg.CompRest prog w A h₀ L m env elt x scope cl s S P Fin j i ys nw := by
    intro j
    induction j with
    | zero =>
      intro i ys nw hi hk
      have e : i = xs.length := by omega
      subst e
      rw [List.take_length] at hk
      exact LCg.CompRest.zero (fin ys nw hk)
    | succ j ih =>
      intro i ys nw hi hk
      refine LCg.CompRest.succ ?_
      intro v I oI C oC D m₂ h tk E' hv hC hx F N off ne
      obtain ⟨xx, hxx, hv'⟩ := hP i v (by omega) hv
      rw [hv'] at hx
      refine wpAny_mono (turn xx _ ys nw I oI C oC D m₂ h tk E' (List.mem_of_getElem? hxx) hk hC hx F N off ne) (fun y s₂ hq => ?_) fun _ _ e => e
      obtain ⟨h', tk', nw', e, F', N', off', hS, hk'⟩ := hq
      refine ⟨h', tk', nw', e, F', N', off', hS, ?_⟩
      refine ih (i + 1) _ _ (by omega) ?_
      rw [List.take_add_one, hxx]
      exact hk'
  exact key _ 0 [] news (by omega) (by rw [List.take_zero]; exact h0)
end
theorem off3_mem {I C D : Addr} {l l' : List (Addr × Obj)} (h : LCg.Off3 I C D l) (hs : ∀ p ∈ l', p ∈ l) : LCg.Off3 I C D l' := LCg.Off3.of fun p hp => LCg.Off3.mem h p (hs p hp)
end Mine
end
section
set_option maxRecDepth 100000
namespace Mine
section
variable {prog : Program} {w : World} {A : Around} {h₀ : Heap} {L : Addr} {m : PySem.Str → Option Value} {env : Env} {elt : Expr} {x : PySem.Str} {scope : Scope} {cl : List (PySem.Str × Addr)} {s : Shared} {S : List (Addr × Obj) → Prop} {P : Nat → Value → Prop} {Fin : List Value → List (Addr × Obj) → Prop} {news : List (Addr × Obj)}
/-- the turns of a comprehension by their number, by what stays true -/
theorem comp_rng {n : Nat} (K : Nat → List Value → List (Addr × Obj) → Prop)
    (turn : ∀ i v ys nw I oI C oC D m₂ h tk (E' : Value → Shared → Prop), i < n → P i v → K i ys nw → LCg.NsObj oC m₂ → m₂ x = some v → Fr h₀ L h m → News h₀ L h ((I, oI) :: (C, oC) :: (D, LCg.lst ys) :: nw) → LCg.Off3 I C D nw → ((@Ne Nat I C) ∧ (@Ne Nat I D) ∧ (@Ne Nat C D)) →
      wpAny (model prog w) A (eval elt (compEnvC scope cl C env)) (LCg.CompEnd h₀ L m { s with heap := h, toks := tk } I oI C oC D (LCg.lst ys) S (fun y nw' => K (i + 1) (ys ++ [y]) nw')) E' { s with heap := h, toks := tk })
    (fin : ∀ ys nw, K n ys nw → Fin ys nw) (h0 : K 0 [] news) : LCg.CompRest prog w A h₀ L m env elt x scope cl s S P Fin n 0 [] news := by
  have key : ∀ (j i : Nat) (ys : List Value) (nw : List (Addr × Obj)), i + j = n → K i ys nw → LCg.CompRest prog w A h₀ L m env elt x scope cl s S P Fin j i ys nw := by
    intro j
    induction j with
    | zero =>
      intro i ys nw hi hk
      obtain rfl : i = n := by omega
      exact LCg.CompRest.zero (fin ys nw hk)
    | succ j ih =>
      intro i ys nw hi hk
      refine LCg.CompRest.succ ?_
      intro v I oI C oC D m₂ h tk E' hv hC hx F N off ne
      refine wpAny_mono (turn i v ys nw I oI C oC D m₂ h tk E' (by omega) hv hk hC hx F N off ne) (fun y s₂ hq => ?_) fun _ _ e => e
      obtain ⟨h', tk', nw', e, F', N', off', hS, hk'⟩ := hq
      exact ⟨h', tk', nw', e, F', N', off', hS, ih (i + 1) _ _ (by omega) hk'⟩
  exact key n 0 [] news (by omega) h0
end
noncomputable abbrev nwOf {h₀ h : Heap} {L : Addr} {news : List (Addr × Obj)} (_ : News h₀ L h news) : List (Addr × Obj) := news
theorem ints_snoc {vs : List Value} {ns : List Int} {n : Int} {t : Tok} (h : IntsAre vs ns) : IntsAre (vs ++ [.int n t]) (ns ++ [n]) := by
  induction h with
  | nil => exact .cons _ _ .nil
  | cons a b _ ih => exact .cons a b ih
end Mine
end
section
set_option maxRecDepth 100000
namespace Mine
open PySem.Builtin PySem.Builtin.Str
theorem fig_nm2 : wd "name" ≠ wd "figures" := by decide +kernel
theorem fig_lit2 : wd "literal" ≠ wd "figures" := by decide +kernel
theorem fig_len : (wd "figures").length = 7 := by decide +kernel
theorem fig_go : ∀ (f : Nat) (R : List Nat) (n : Nat), ∀ p ∈ piecesGo f R n, p.2.1 = wd "figures" → p.2.2 ≠ [] ∧ ∀ c ∈ p.2.2, isDg c = true
  | 0, _, _, _, h, _ => nomatch h
  | _ + 1, [], _, _, h, _ => nomatch h
  | f + 1, c :: r, n, p, h, hk => by
    simp only [piecesGo] at h
    split at h
    · exact fig_go f r _ p h hk
    · rcases List.mem_cons.mp h with rfl | h
      · dsimp only at hk ⊢
        rcases piece_cases c r with ⟨hd, hk2⟩ | ⟨_, _, hk2⟩ | ⟨_, _, x, k, hl, hk2⟩ | ⟨_, _, hk2⟩
        · rw [hk2]
          dsimp only
          rw [take_run]
          refine ⟨fun e => ?_, fun x hx => List.all_eq_true.mp (List.all_takeWhile (p := isDg) (l := c :: r)) x hx⟩
          rw [List.takeWhile_cons_of_pos hd] at e
          cases e
        · rw [hk2] at hk; exact absurd hk fig_nm2
        · rw [hk2] at hk; exact absurd hk fig_lit2
        · rw [hk2] at hk; have := congrArg List.length hk; rw [fig_len] at this; cases this
      · exact fig_go f _ _ p h hk
theorem fig_at {T : List Nat} {i p : Nat} {w : List Nat} {ps : List Pc} (h : (piecesOf T 0).drop i = (p, wd "figures", w) :: ps) : w ≠ [] ∧ ∀ c ∈ w, isDg c = true :=
  fig_go _ _ _ (p, wd "figures", w) (List.mem_of_mem_drop (i := i) (by show _ ∈ List.drop i (piecesOf T 0); rw [h]; exact .head _)) rfl
noncomputable def decT (w : List Nat) (k : Nat) : Nat := ((w.reverse[k]?.getD 48) - 48) * 10 ^ k
theorem dec_snoc (l : List Nat) (d : Nat) : decN (l ++ [d]) = decN l * 10 + (d - 48) := by
  unfold decN NumText.digitsVal
  rw [List.foldl_append]; rfl
theorem sum_ten (f : Nat → Nat) : ∀ l : List Nat, (l.map fun k => f k * 10).sum = (l.map f).sum * 10
  | [] => rfl
  | a :: l => by simp only [List.map_cons, List.sum_cons, sum_ten f l]; omega
theorem dec_rev : ∀ r : List Nat, ((List.range r.length).map fun k => ((r[k]?.getD 48) - 48) * 10 ^ k).sum = decN r.reverse
  | [] => rfl
  | d :: r => by
    rw [List.length_cons, List.range_succ_eq_map, List.map_cons, List.sum_cons, List.map_map, List.reverse_cons, dec_snoc, ← dec_rev r, ← sum_ten]
    have : ((List.range r.length).map ((fun k => (((d :: r)[k]?.getD 48) - 48) * 10 ^ k) ∘ Nat.succ)) = (List.range r.length).map fun k => ((r[k]?.getD 48) - 48) * 10 ^ k * 10 := by
      apply List.map_congr_left
      intro k _
      simp only [Function.comp, Nat.succ_eq_add_one, List.getElem?_cons_succ, Nat.pow_succ, Nat.mul_assoc]
    rw [this]
    simp
    omega
theorem dec_sum (w : List Nat) : ((List.range w.length).map (decT w)).sum = decN w := by
  have := dec_rev w.reverse
  rw [List.reverse_reverse, List.length_reverse] at this
  exact this
theorem cast_sumI : ∀ l : List Nat, (l.map fun n : Nat => ((n : Nat) : Int)).sum = ((l.sum : Nat) : Int)
  | [] => rfl
  | a :: l => by simp only [List.map_cons, List.sum_cons, cast_sumI l]; omega
theorem dec_sumI (w : List Nat) : ((List.range w.length).map fun k => ((decT w k : Nat) : Int)).sum = ((decN w : Nat) : Int) := by
  rw [← dec_sum, ← cast_sumI, List.map_map]
  exact congrArg List.sum (List.map_congr_left fun _ _ => rfl)
theorem item_neg {w : List Nat} {k : Nat} (h : k < w.length) : Txt.item (tx w) (-1 - (k : Int)) = tx [w.reverse[k]?.getD 48] := by
  have hn : (tx w).length = w.length := tx_len w
  rw [List.getElem?_reverse h]
  unfold Txt.item Txt.charAt seqIndex?
  have h0 : (-1 - (k : Int)) < 0 := by omega
  simp only [h0, if_true, hn]
  have h4 : w.length - 1 - k < w.length := Nat.lt_of_le_of_lt (Nat.sub_le _ _) (Nat.sub_lt (Nat.lt_of_le_of_lt (Nat.zero_le _) h) (by decide))
  have e1 : (-1 - (k : Int) + (w.length : Int)) = ((w.length - 1 - k : Nat) : Int) := by omega
  have h1 : 0 ≤ ((w.length - 1 - k : Nat) : Int) := Int.natCast_nonneg _
  have h2 : ((w.length - 1 - k : Nat) : Int) < (w.length : Int) := Int.ofNat_lt.mpr h4
  have h3 : ((w.length - 1 - k : Nat) : Int).toNat = w.length - 1 - k := rfl
  simp only [e1, h1, h2, h3, decide_true, Bool.and_self, if_true, Option.bind_some]
  rw [List.getElem?_eq_getElem h4]
  have : (tx w).cps[w.length - 1 - k]? = some w[w.length - 1 - k] := by simp [tx]
  rw [this]; rfl
theorem one_figI {c : Nat} (h : isDg c = true) : PySem.intText? (tx [c]) = some (((c - 48 : Nat)) : Int) := by
  have h2 := intText_digits (x := tx [c]) (by intro d hd; have : d ∈ [c] := hd; rw [List.mem_singleton.mp this]; exact (isDg_iff c).mp h) (by intro e; cases e) (by show 1 ≤ _; decide)
  rw [h2]
  have : NumText.digitsVal (tx [c]).cps.toList = c - 48 := by show NumText.digitsVal [c] = c - 48; simp [NumText.digitsVal]
  rw [this]
theorem bits_ten : ∀ k, k < 6 → Builtin.Int.intBits ((10 : Int) ^ ((k : Nat) : Int).toNat) ≤ 64 := by decide +kernel
theorem fig_dg {w : List Nat} {k : Nat} (h : ∀ c ∈ w, isDg c = true) (hk : k < w.length) : isDg (w.reverse[k]?.getD 48) = true := by
  rw [List.getElem?_reverse hk, List.getElem?_eq_getElem (by omega)]
  exact h _ (List.getElem_mem _)
theorem decT_val (w : List Nat) (k : Nat) : ((w.reverse[k]?.getD 48 - 48 : Nat) : Int) * 10 ^ ((k : Nat) : Int).toNat = ((decT w k : Nat) : Int) := by
  rw [Int.toNat_natCast]; unfold decT; simp
end Mine
end
section
set_option maxRecDepth 100000
namespace Mine
section
variable {prog : Program} {w : World} {A : Around} {E : Value → Shared → Prop} {s : Shared} {h₀ : Heap} {L l : Addr} {news : List (Addr × Obj)} {vs : List Value} {v : Value} {k : Nat}
theorem truthy_snoc {Q : Bool → Shared → Prop} (N : News h₀ L s.heap news) (hm : (l, W.listOf (vs ++ [v]).toArray k) ∈ news) (hb : vs.length ≤ 100000) (h : Q true { s with toks := s.toks + 1 + 1 }) : wpAny (model prog w) A (truthy (.ref l)) Q E s := by
  refine wpAny_truthy_list (items := (vs ++ [v]).toArray) ⟨_, (N _ hm).1, rfl, _, rfl⟩ ?_ ?_
  · rw [List.size_toArray, List.length_append, List.length_singleton]; omega
  · have : (!(vs ++ [v]).toArray.isEmpty) = true := by simp
    rw [this]; exact h
theorem last_snoc {value slice : Expr} {i : Int} {u : Tok} {Q : Value → Shared → Prop} (N : News h₀ L s.heap news) (hm : (l, W.listOf (vs ++ [v]).toArray k) ∈ news) (hi : i = -1) (h : Q v s)
    (hs : subscripted slice false (.ref l) (.int i u) = operate [.ref l, .int i u] (getItem (.ref l) (.int i u)) := by with_unfolding_all rfl) (hg : ∀ r, letTemporaryGo value (.ref l) r = pure () := by intro _; with_unfolding_all rfl) :
    wpAny (model prog w) A (subscriptTail value slice (.ref l) (.int i u)) Q E s := by
  subst hi
  refine kim_back (l := vs ++ [v]) N hm rfl rfl (by decide) ?_ (by decide) ?_ h hs hg
  · rw [List.length_append, List.length_singleton]; omega
  · rw [List.length_append, List.length_singleton]
    rw [show (-1 + ((vs.length + 1 : Nat) : Int)).toNat = vs.length by omega]
    simp
/-- a text in a written tuple of texts -/
theorem in_tup_K {K : Frag} {m : PySem.Str → Option Value} {a : Addr} {n : Nat} {items : List Value} {ys : List PySem.Str} {dd : Option Addr} {sl : Array (Option Value)} {x : PySem.Str} {t : Tok} {Q : Value → Shared → Prop} (F : Fr h₀ L s.heap m) (X₀ : K.In h₀)
    (hl : K.lookup a = some ⟨.type "tuple", dd, .seq items.toArray n, sl⟩) (hs : StrsAre items ys) (h : Q (.bool (ys.any fun y => y == x)) s) : wpAny (model prog w) A (compareOp .In (.str x t) (.ref a)) Q E s := by
  have hT := tupK (X₀.keeps F.keep) hl
  refine SeqAt.in_tupleAt (items := items.toArray) (fun v => match v with | .str y _ => y == x | _ => false) hT (fun y hy => ?_) ?_
  · have : ∃ z u, y = .str z u := by
      replace hy : y ∈ items := by simpa using hy
      clear h hl hT
      induction hs with
      | nil => cases hy
      | cons z u _ ih => 
        rcases List.mem_cons.mp hy with rfl | hy
        · exact ⟨z, u, rfl⟩
        · exact ih hy
    obtain ⟨z, u, rfl⟩ := this
    exact SeqAt.EqAt.str_str z u x t
  · have : items.toArray.any (fun v => match v with | .str y _ => y == x | _ => false) = ys.any fun y => y == x := by
      rw [List.any_toArray]
      clear h hl hT
      induction hs with
      | nil => rfl
      | cons z u _ ih => simp only [List.any_cons, ih]
    rw [this]; exact h
theorem size_snoc (h : (vs ++ [v]).length ≤ 100000) : (vs ++ [v]).toArray.size ≤ sizeLine := by
  rw [List.size_toArray, PySem.sizeLine_eq]; omega
end
end Mine
end
section
theorem Mine.wr_LRead : True := by
  k_with_none
  k_with "call ref" => k_extra "call ref last"
  k_with "om" => with_reducible first | assumption | exact Nat.add_sub_cancel_left _ _ | exact Int.ofNat_lt.mpr (by assumption) | exact Int.ofNat_le.mpr (by assumption) | exact Int.ofNat_lt.mp (by assumption) | exact Int.ofNat_le.mp (by assumption) | exact o_lt (by assumption) | exact o_nlt (by assumption) | exact o_63 (by assumption) (by assumption) (by with_unfolding_all exact rfl) | exact o_s2 (by assumption) | exact o_s1 (by assumption) (by assumption) | exact o_s3 (by assumption) (by assumption) | exact o_mt (by assumption) | exact o_f1 (by assumption) | exact Nat.le_of_lt (by assumption) | exact Nat.not_le.mp (by assumption) | exact o_sub (by assumption) | exact o_big1 (by assumption) (by with_unfolding_all exact rfl) | exact Nat.le_trans (Nat.le_add_right _ _) (by assumption) | exact Int.natCast_nonneg _ | exact Nat.le_trans (by assumption) (by assumption) | exact o_big (by assumption) (by assumption) (by with_unfolding_all exact rfl) | exact o_ltM (by assumption) (by assumption) | exact o_tr (by assumption) (by assumption) (by assumption) | exact Nat.lt_of_lt_of_le (by assumption) (by assumption) | exact Nat.lt_of_le_of_lt (by assumption) (by assumption) | exact Nat.ne_of_lt (by assumption) | exact Nat.ne_of_gt (by assumption) | exact o_mm (by assumption) | exact o_mm2 (by assumption) (by assumption) | exact o_mn | exact o_ml (by assumption) (by assumption) | exact o_and (by assumption) | rfl
  k_with "kst" => k_extra "mine kst"
  k_with "kst" => k_extra "mine same3"
  k_with "ksw" => k_extra "mine ksw"
  k_with "ksw" => k_extra "mine same"
  k_with "mine enter" => (refine' code_def ?k1q196 ?k2q196 ?k3q196 ?k4q196 ?k5q196 ?kAq196 ?kFq196 ?kKq196 ?k6q196 ?k7q196 ?k8q196 ?k9q196 ?kBq196 ?_ ?c2q196 ?c3q196 ?c4q196 ?c5q196; (case kAq196 => exact rfl); (case kFq196 => exact rfl); (case kKq196 => first | exact rfl | assumption); (case k1q196 => k_asm); (case k2q196 => k_asm); (case k3q196 => k_asm); (case k4q196 => k_asm); (case k5q196 => k_asm); (case k6q196 => k_is); (case k7q196 => k_is); (case k8q196 => first | (refine' rm0 ?rhq196; (case rhq196 => assumption)) | (refine' rm1 ?rhq196 ?rlq196; (case rhq196 => assumption); (case rlq196 => exact rfl)) | (refine' rm2 ?rhq196 ?rlq196; (case rhq196 => assumption); (case rlq196 => exact rfl)) | ktr_room); (case k9q196 => first | exact BindsTo.of_eq rfl | exact binds_K (by k_in) rfl (by k_is) rfl rfl rfl); (case c5q196 => decide); (case kBq196 => exact locs rfl); (case c2q196 => exact rfl); (case c3q196 => exact rfl); (case c4q196 => exact rfl); k_whole; intro g' L' h' FG'; (refine (?_ : let mk := _; Fr _ _ _ mk → _)); intro mk F' N' B' X' T'; (refine (?_ : let nk := _; let ak := _; let qk := _; let ek := _; let sk := _; wpAny _ ak (execs _ nk) qk ek sk)); intro nk ak qk ek sk)
  k_with "subscriptTail Name Attribute str int" => ((with_reducible show wpAny _ _ (subscriptTail _ _ (Value.str _ _) (Value.int _ _)) _ _ _); refine item_str (fitsSsize_of (N := 9223372036854775808) (by omega) (by omega) (Int.le_refl _)) (by omega) (by omega) ?_; intro _)
  k_with "mine inline" => (k_dflt (first | (refine' call_cls ?k1q198 ?k2q198 ?k3q198 ?k4q198 ?k5q198 ?k6q198 ?_; (case k1q198 => k_asm); (case k2q198 => k_asm); (case k3q198 => k_asm); (case k4q198 => k_is); (case k5q198 => k_is); (case k6q198 => k_is); k_whole; intro x' d' h' F' N' l1 l2; (try k_lt l1); (try k_lt2 l2); (try k_sweep); walk_at "mine enter") | (refine wpAny_call ?_; walk_at "mine enter")))
  k_with "ite" => first | with_reducible refine ite_tt ?_ | with_reducible refine ite_ff ?_
  k_with "mine room" => first | (refine' rm2 ?rhq200 ?rlq200; (case rhq200 => assumption); (case rlq200 => exact rfl)) | decide +kernel | omega | (simp only [depth_deeper, units_deeper]; omega) | (dsimp only [ktrTop]; omega) | (dsimp only [Around.deeper, ktrTop]; omega) | ktr_room | ktr_units
  k_with "mine tail" => ((case zzB => k_asm); (case zzF => k_asm); (case zzX => k_asm); (case zzT => k_asm); (case zzN => k_asm); (case zzk => first | exact rfl | assumption); (case zzp => walk_at "mine room"); (case zzu => walk_at "mine room"))
  k_with "isTrue Compare" => (k_here; first | ((with_reducible show wpAny _ _ (isTrue (PySem.Expr.Compare (PySem.Expr.Name _ _) [PySem.CmpOp.Eq] [PySem.Expr.Constant (PySem.Const.str _) _ _] _) _ _) _ _ _); k_dflt (refine' tst_eq ?zaq202 ?zbq202 ?zcq202 ?zmq202 ?zFq202 ?zvq202 ?_; (case zFq202 => k_asm); (case zaq202 => rfl); (case zbq202 => rfl); (case zcq202 => decide); (case zvq202 => rfl); (case zmq202 => with_unfolding_all rfl); k_whole)) | ((with_reducible show wpAny _ _ (isTrue (PySem.Expr.Compare (PySem.Expr.Name _ _) [PySem.CmpOp.NotEq] [PySem.Expr.Constant (PySem.Const.str _) _ _] _) _ _) _ _ _); k_dflt (refine' tst_ne ?zaq202 ?zbq202 ?zcq202 ?zmq202 ?zFq202 ?zvq202 ?_; (case zFq202 => k_asm); (case zaq202 => rfl); (case zbq202 => rfl); (case zcq202 => decide); (case zvq202 => rfl); (case zmq202 => with_unfolding_all rfl); k_whole)))
  k_with "eval BinOp" => (k_here; (with_reducible show wpAny _ _ (eval (PySem.Expr.BinOp (PySem.Expr.Name _ _) PySem.Operator.Add (PySem.Expr.Constant (PySem.Const.int _) _ _) _) _) _ _ _); k_dflt (refine' add_nc ?zaq203 ?zbq203 ?zcq203 ?zFq203 ?zvq203 ?_; (case zFq203 => k_asm); (case zaq203 => rfl); (case zbq203 => rfl); (case zcq203 => decide); (case zvq203 => rfl); k_whole))
  k_with "mine steps" => repeat' (first | ((first | (fail_if_success (fail_if_success k_unfold)) | (fail_if_success (fail_if_success k_fold))); (refine (?_ : let qk := _; let sk := _; wpAny _ _ _ qk _ sk)); intro qk sk) | ((fail_if_success (fail_if_success k_unfold)); (refine (?_ : let sk := _; LeaveK _ _ _ _ _ _ sk)); intro sk) | (k_unfold; (try dsimp only)) | walk1 | (k_end; wrow_close) | (dsimp only [List.nil_append, List.cons_append]; walk1) | (leave1; (try dsimp only)) | fail "no step")
  k_with "execs cons" => (with_reducible refine wpAny_execs_cons ?_)
  k_with "eval Name" => (k_dflt (refine' nmL ?zaq206 ?zbq206 ?zdq206 ?zFq206 ?zvq206 ?_; (case zFq206 => k_asm); (case zaq206 => rfl); (case zbq206 => rfl); (case zvq206 => rfl); (case zdq206 => decide); k_whole))
  k_with "storeName" => (k_dflt (refine' stL ?zaq207 ?zbq207 ?zFq207 ?zNq207 ?_; (case zFq207 => k_asm); (case zNq207 => k_asm); (case zaq207 => rfl); (case zbq207 => rfl); k_whole; intro h' mk F' N'; (try k_sweep)))
  k_with "LeaveK" => (k_dflt (refine' leaveK_ ?k1q208 ?k2q208 ?_; (case k1q208 => k_asm); (case k2q208 => k_asm); k_whole); intro kF kN; (try dsimp only [InitBack]); (try refine ⟨rfl, ?_⟩))
  k_with "mine kst" => (intro z h1 h2 h3; (try dsimp +zetaDelta only [kstB]); (try simp only [List.forall_mem_cons, List.not_mem_nil, false_implies, implies_true, and_true, ne_eq] at h2); first | rfl | (simp [h1]; done) | (simp [h1, h2]; done) | ((try simp only [List.contains_cons, List.contains_nil, Bool.or_false, Bool.or_eq_false_iff, beq_eq_false_iff_ne, ne_eq] at h3); first | (simp [h1, h3]; done) | (simp [h1, h2, h3]; done)))
  k_with "mine same3" => (k_dflt (refine sn_end3 ?_; (repeat (first | (with_reducible exact sn_refl) | (refine' sn_in ?_ ?hpq210 ?hsq210; (case hpq210 => exact rfl); (case hsq210 => exact rfl)) | (refine' sn_upd ?_ ?hxq210; (case hxq210 => exact rfl)))); done))
  k_with "mine ksw" => (intro z h2 h3; (try dsimp +zetaDelta only [kstB]); (try simp only [List.forall_mem_cons, List.not_mem_nil, false_implies, implies_true, and_true, ne_eq] at h2); (try simp only [List.contains_cons, List.contains_nil, Bool.or_false, Bool.or_eq_false_iff, beq_eq_false_iff_ne, ne_eq] at h3); first | rfl | (simp [h2]; done) | (simp [h3]; done) | (simp [h2, h3]; done))
  k_with "mine same" => (k_dflt (refine sn_end ?_; (repeat (first | (with_reducible exact sn_refl) | (refine' sn_in ?_ ?hpq212 ?hsq212; (case hpq212 => exact rfl); (case hsq212 => exact rfl)) | (refine' sn_upd ?_ ?hxq212; (case hxq212 => exact rfl)))); done))
  w_top off
  trivial
theorem Mine.kw_mLRead_1 : True := by
  k_with "call type:int" => ((with_reducible show wpAny _ _ (call (Value.type "int") [Value.str _ _, Value.int _ _]) _ _ _); refine call_int16 (by first | assumption | exact isHx_mem (by assumption) | exact isOc_isHx (by assumption)) ?_)
  k_with "call ref" => (k_dflt (show wpAny _ _ (call (Value.ref 233) [_]) _ _ _); k_dflt (refine' hex_escape_ok ?zzB ?zzF ?zzX ?zzT ?zzk ?zzp ?zzu ?zzN ?zzhx ?_; walk_at "mine tail"; (case zzhx => omega)); intro _ h' tk' F' N')
  k_with "call ref" => (k_dflt (show wpAny _ _ (call (Value.ref 240) [_, _]) _ _ _); k_dflt (refine' escaped_sign_ok ?zzB ?zzF ?zzX ?zzT ?zzk ?zzp ?zzu ?zzN ?zzhx ?_; walk_at "mine tail"; (case zzhx => omega)); intro _ h' tk' F' N')
  k_with "call ref" => (k_dflt (show wpAny _ _ (call (Value.ref 323) []) _ _ _); k_dflt (refine' names_ok ?zzB ?zzF ?zzX ?zzT ?zzk ?zzp ?zzu ?zzN ?_; walk_at "mine tail"); (intro ln7 n17 n27 n37 h7 tk7 F7 N7))
  k_with "compareOp NotIn str ref" => (k_here; k_dflt (refine' notin_nms ?Nq217 ?mq217 ?eq217 ?_; (case Nq217 => k_asm); (case mq217 => k_mem); (case eq217 => with_reducible assumption)); dsimp only [Bool.not_true, Bool.not_false])
  k_with "subscriptTail Name Slice str ref" => ((with_reducible show wpAny _ _ (subscriptTail _ (Expr.Slice (some _) (some _) none _) _ _) _ _ _); (with_reducible rename Fr _ _ _ _ => F'); (with_reducible rename News _ _ _ _ => N'); (refine' cut_ss (s := ⟨_, _, _, _, _⟩) F' N' ?cutEq218 ?cutZq218 ?_); (case cutEq218 => with_reducible assumption); (case cutZq218 => with_reducible assumption); intro _ _ _ _ _)
  k_with "subscriptTail Name Slice str ref" => ((with_reducible show wpAny _ _ (subscriptTail _ (Expr.Slice (some _) none none _) _ _) _ _ _); (with_reducible rename Fr _ _ _ _ => F'); (with_reducible rename News _ _ _ _ => N'); (refine' cut_sn (s := ⟨_, _, _, _, _⟩) F' N' ?cutEq219 ?cutZq219 ?_); (case cutEq219 => with_reducible assumption); (case cutZq219 => with_reducible assumption); intro _ _ _ _ _)
  k_with "subscriptTail Name Slice str ref" => ((with_reducible show wpAny _ _ (subscriptTail _ (Expr.Slice none (some _) none _) _ _) _ _ _); (with_reducible rename Fr _ _ _ _ => F'); (with_reducible rename News _ _ _ _ => N'); (refine' cut_ns (s := ⟨_, _, _, _, _⟩) F' N' ?cutEq220 ?cutZq220 ?_); (case cutEq220 => with_reducible assumption); (case cutZq220 => with_reducible assumption); intro _ _ _ _ _)
  k_with "subscriptTail Name Constant str int" => ((refine' item_fact ?cutEq221 (by omega) ?cutLq221 ?cutZq221 ?_); (case cutEq221 => with_reducible assumption); (case cutLq221 => with_reducible assumption); (case cutZq221 => with_reducible assumption); intro _ _)
  k_with "subscriptTail Name Name str int" => ((refine' item_fact ?cutEq222 (by omega) ?cutLq222 ?cutZq222 ?_); (case cutEq222 => with_reducible assumption); (case cutLq222 => with_reducible assumption); (case cutZq222 => with_reducible assumption); intro _ _)
  k_with "subscriptTail Name Call str int" => ((refine' item_fact ?cutEq223 (by omega) ?cutLq223 ?cutZq223 ?_); (case cutEq223 => with_reducible assumption); (case cutLq223 => with_reducible assumption); (case cutZq223 => with_reducible assumption); intro _ _)
  k_with "compareOp In str str" => refine in_str ?_
  k_with "compareOp NotIn str str" => refine notIn_str ?_
  k_with "call builtin:str.lower" => ((refine' lower_fact ?cutEq226 ?cutZq226 ?_); (case cutEq226 => with_reducible assumption); (case cutZq226 => first | with_reducible assumption | exact Nat.le_of_ble_eq_true rfl); intro _ _)
  k_with "call builtin:str.index" => ((refine' index_fact ?cutEq227 ?cutOq227 ?_); (case cutEq227 => with_reducible assumption); (case cutOq227 => with_reducible assumption); intro _ _)
  k_with "call ref" => (k_dflt (show wpAny _ _ (call (Value.ref 343) [_, _]) _ _ _); k_dflt (refine' lit_ok ?zzB ?zzF ?zzX ?zzT ?zzk ?zzp ?zzu ?zzN ?zzhlen ?zzhas ?zzhR ?_; walk_at "mine tail"; (case zzhlen => assumption); (case zzhas => assumption); (case zzhR => assumption)); (intro t7 e7 y7 v7 w7 h7 tk7 L7 F7 N7 l7))
  k_with "call ref" => (k_dflt (show wpAny _ _ (call (Value.ref 357) [_]) _ _ _); k_dflt (refine' pieces_ok ?zzB ?zzF ?zzX ?zzT ?zzk ?zzp ?zzu ?zzN ?zzhlen ?zzhas ?_; walk_at "mine tail"; (case zzhlen => assumption); (case zzhas => assumption)); (intro t7 ts7 vs7 nn7 h7 tk7 D7 l7 l8 l9 F7 N7; (try k_lt l9)))
  k_with "call ref" => (k_dflt (show wpAny _ _ (call (Value.ref 350) [_]) _ _ _); k_dflt (refine' written_ok ?zzB ?zzF ?zzX ?zzT ?zzk ?zzp ?zzu ?zzN ?zzhx ?_; walk_at "mine tail"; (case zzhx => omega)); intro _ h' tk' F' N')
  k_with "eval Name" => (k_here; (with_reducible show wpAny _ _ (eval (Expr.Name _ _) (compEnvC _ _ _ _)) _ _ _); k_dflt (refine ld_cell (by k_asm) (by rfl) (by k_mem) (by first | rfl | assumption) ?_))
  k_with "mine cells" => (refine' code_defC ?k1q232 ?k2q232 ?k3q232 ?k4q232 ?k5q232 ?kAq232 ?kFq232 ?kKq232 ?k6q232 ?k7q232 ?k8q232 ?k9q232 ?kBq232 ?kDq232 ?_ ?c2q232 ?c3q232 ?c4q232; (case kAq232 => exact rfl); (case kFq232 => exact rfl); (case kKq232 => first | exact rfl | assumption); (case k1q232 => k_asm); (case k2q232 => k_asm); (case k3q232 => k_asm); (case k4q232 => k_asm); (case k5q232 => k_asm); (case k6q232 => k_is); (case k7q232 => k_is); (case k8q232 => first | (refine' rm0 ?rhq232; (case rhq232 => assumption)) | (refine' rm1 ?rhq232 ?rlq232; (case rhq232 => assumption); (case rlq232 => exact rfl)) | (refine' rm2 ?rhq232 ?rlq232; (case rhq232 => assumption); (case rlq232 => exact rfl)) | ktr_room); (case k9q232 => first | exact BindsTo.of_eq rfl | exact binds_K (by k_in) rfl (by k_is) rfl rfl rfl); (case kBq232 => exact rfl); (case kDq232 => decide +kernel); (case c2q232 => exact rfl); (case c3q232 => exact rfl); (case c4q232 => exact rfl); k_whole; intro g' L' h' tk' cells' FG'; (refine (?_ : let mk := _; Fr _ _ _ mk → _)); intro mk F' N' Y' B' X' T' l1; (try k_lt l1); k_cells Y'; (try simp only [List.cons_append, List.nil_append] at N'); (refine (?_ : let nk := _; let ak := _; let qk := _; let ek := _; let sk := _; wpAny _ ak (execs _ nk) qk ek sk)); intro nk ak qk ek sk)
  k_with "compareOp In str ref" => (k_here; k_dflt (refine' in_tup_K ?Fq233 ?Xq233 ?lq233 ?sq233 ?_; (case Fq233 => k_asm); (case Xq233 => k_asm); (case lq233 => k_is); (case sq233 => first | exact .cons _ _ (.cons _ _ .nil))))
  k_with "truthy ref" => (k_here; (with_reducible show wpAny _ _ (truthy (Value.ref _)) _ _ _); k_dflt (refine' truthy_snoc ?Nq234 ?mq234 ?bq234 ?_; (case Nq234 => k_asm); (case mq234 => k_mem); (case bq234 => assumption)))
  k_with "subscriptTail" => (k_here; k_dflt (refine' last_snoc ?Nq235 ?mq235 ?iq235 ?_ ?sq235 ?gq235; (case Nq235 => k_asm); (case mq235 => k_mem); (case iq235 => exact rfl); (case sq235 => with_unfolding_all rfl); (case gq235 => (intro _; with_unfolding_all rfl))))
  k_with "subscriptTail Name UnaryOp ref int" => (k_here; k_dflt (refine' last_snoc ?Nq236 ?mq236 ?iq236 ?_ ?sq236 ?gq236; (case Nq236 => k_asm); (case mq236 => k_mem); (case iq236 => exact rfl); (case sq236 => with_unfolding_all rfl); (case gq236 => (intro _; with_unfolding_all rfl))))
  k_with "subscriptTail Name Constant ref int" => (k_here; k_dflt (refine' last_snoc ?Nq237 ?mq237 ?iq237 ?_ ?sq237 ?gq237; (case Nq237 => k_asm); (case mq237 => k_mem); (case iq237 => exact rfl); (case sq237 => with_unfolding_all rfl); (case gq237 => (intro _; with_unfolding_all rfl))))
  k_with "call builtin:list.append" => (k_here; (with_reducible show wpAny _ _ (call (Value.builtin _) [Value.ref _, _]) _ _ _); k_dflt ((refine' append_K ?k1q238 ?k2q238 ?k3q238 ?_ ?zq238; (case k1q238 => k_asm); (case k2q238 => k_asm); (case k3q238 => k_upd); (case zq238 => exact size_snoc (by assumption)); k_whole)); intro h' F' N'; (try k_sweep))
  k_with "subscriptTail Name Slice ref ref" => (k_here; (with_reducible show wpAny _ _ (subscriptTail _ (Expr.Slice none (some _) none _) _ _) _ _ _); (with_reducible rename Fr _ _ _ _ => F'); (with_reducible rename News _ _ _ _ => N'); k_dflt (refine' slice9_K (s := ⟨_, _, _, _, _⟩) F' N' ?Xq239 ?lq239 ?_ ?sq239 ?gq239; (case Xq239 => k_asm); (case lq239 => k_is); (case sq239 => with_unfolding_all rfl); (case gq239 => (intro _; with_unfolding_all rfl))); (intro D' h' F' N' l1); (try k_lt l1))
  k_with "getMethod ref" => (k_here; (with_reducible show wpAny _ _ (getMethod (Value.ref _) (PySem.Str.ofString "index") _) _ _ _); k_dflt (refine' tupMethod_K ?Fq240 ?Xq240 ?lq240 ?_; (case Fq240 => k_asm); (case Xq240 => k_asm); (case lq240 => k_is)))
  k_with "call builtin:tuple.index" => (k_here; k_dflt ((refine' tup_index_K ?Fq241 ?Xq241 ?lq241 ?sq241 ?iq241 ?_; (case Fq241 => k_asm); (case Xq241 => k_asm); (case lq241 => k_is); (case iq241 => with_reducible assumption); (case sq241 => exact .cons _ _ (.cons _ _ (.cons _ _ (.cons _ _ (.cons _ _ (.cons _ _ (.cons _ _ (.cons _ _ (.cons _ _ (.cons _ _ .nil))))))))))); intro _ _))
  k_with "subscriptTail Name Call ref int" => (k_here; k_dflt (refine' topTup_fact ?Fq242 ?Xq242 ?lq242 ?xq242 ?zq242 ?_ ?sq242; (case Fq242 => k_asm); (case Xq242 => k_asm); (case lq242 => k_is); (case xq242 => assumption); (case zq242 => exact Nat.le_of_ble_eq_true rfl); (case sq242 => with_unfolding_all rfl)))
  trivial
namespace Mine
open PySem.Builtin PySem.Builtin.Str
section
variable {h₀ h : Heap} {L sl pl D wc : Addr} {o1 o3 oc : Obj} {vl : List Value} {nl : Nat} {x y : Addr × Obj} {ts news : List (Addr × Obj)}
noncomputable abbrev lrS (_ : News h₀ L h ((sl, o1) :: (pl, ({ cls := .type "list", data := .seq vl.toArray nl } : Obj)) :: x :: (D, o3) :: y :: (ts ++ (wc, oc) :: news))) : Addr := sl
noncomputable abbrev lrP (_ : News h₀ L h ((sl, o1) :: (pl, ({ cls := .type "list", data := .seq vl.toArray nl } : Obj)) :: x :: (D, o3) :: y :: (ts ++ (wc, oc) :: news))) : Addr := pl
noncomputable abbrev lrV (_ : News h₀ L h ((sl, o1) :: (pl, ({ cls := .type "list", data := .seq vl.toArray nl } : Obj)) :: x :: (D, o3) :: y :: (ts ++ (wc, oc) :: news))) : List Value := vl
noncomputable abbrev lrK (_ : News h₀ L h ((sl, o1) :: (pl, ({ cls := .type "list", data := .seq vl.toArray nl } : Obj)) :: x :: (D, o3) :: y :: (ts ++ (wc, oc) :: news))) : Nat := nl
noncomputable abbrev lrW (_ : News h₀ L h ((sl, o1) :: (pl, ({ cls := .type "list", data := .seq vl.toArray nl } : Obj)) :: x :: (D, o3) :: y :: (ts ++ (wc, oc) :: news))) : Addr := wc
noncomputable abbrev lrC (_ : News h₀ L h ((sl, o1) :: (pl, ({ cls := .type "list", data := .seq vl.toArray nl } : Obj)) :: x :: (D, o3) :: y :: (ts ++ (wc, oc) :: news))) : Obj := oc
noncomputable abbrev lrT (_ : News h₀ L h ((sl, o1) :: (pl, ({ cls := .type "list", data := .seq vl.toArray nl } : Obj)) :: x :: (D, o3) :: y :: (ts ++ (wc, oc) :: news))) : List (Addr × Obj) := (D, o3) :: ts
theorem lr_news (N : News h₀ L h ((sl, o1) :: (pl, ({ cls := .type "list", data := .seq vl.toArray nl } : Obj)) :: x :: (D, o3) :: y :: (ts ++ (wc, oc) :: news))) : News h₀ L h ((sl, o1) :: (wc, oc) :: (pl, ({ cls := .type "list", data := .seq vl.toArray nl } : Obj)) :: ([] ++ (((D, o3) :: ts) ++ news))) := fun p hp => by
  apply N p
  simp only [List.mem_cons, List.mem_append, List.nil_append] at hp ⊢
  rcases hp with h | h | h | (h | h) | h <;> simp [h]
end
theorem sub0 {l l2 : List (Addr × Obj)} (h : l = l2) : ∀ p ∈ l, p ∈ l2 := fun p hp => by subst h; exact hp
theorem sub1 {a : Addr × Obj} {l l2 : List (Addr × Obj)} (h : l = l2) : ∀ p ∈ l, p ∈ a :: l2 := fun p hp => by subst h; exact .tail _ (hp)
theorem sub2 {a b : Addr × Obj} {l l2 : List (Addr × Obj)} (h : l = l2) : ∀ p ∈ l, p ∈ a :: b :: l2 := fun p hp => by subst h; exact .tail _ (.tail _ (hp))
theorem sub3 {a b c : Addr × Obj} {l l2 : List (Addr × Obj)} (h : l = l2) : ∀ p ∈ l, p ∈ a :: b :: c :: l2 := fun p hp => by subst h; exact .tail _ (.tail _ (.tail _ (hp)))
theorem sub4 {a b c d : Addr × Obj} {l l2 : List (Addr × Obj)} (h : l = l2) : ∀ p ∈ l, p ∈ a :: b :: c :: d :: l2 := fun p hp => by subst h; exact .tail _ (.tail _ (.tail _ (.tail _ (hp))))
theorem sub5 {a b c d e : Addr × Obj} {l l2 : List (Addr × Obj)} (h : l = l2) : ∀ p ∈ l, p ∈ a :: b :: c :: d :: e :: l2 := fun p hp => by subst h; exact .tail _ (.tail _ (.tail _ (.tail _ (.tail _ (hp)))))
theorem sub6 {a b c d e f : Addr × Obj} {l l2 : List (Addr × Obj)} (h : l = l2) : ∀ p ∈ l, p ∈ a :: b :: c :: d :: e :: f :: l2 := fun p hp => by subst h; exact .tail _ (.tail _ (.tail _ (.tail _ (.tail _ (.tail _ (hp))))))
theorem sub7 {a b c d e f g : Addr × Obj} {l l2 : List (Addr × Obj)} (h : l = l2) : ∀ p ∈ l, p ∈ a :: b :: c :: d :: e :: f :: g :: l2 := fun p hp => by subst h; exact .tail _ (.tail _ (.tail _ (.tail _ (.tail _ (.tail _ (.tail _ (hp)))))))
theorem sub8 {a b c d e f g i : Addr × Obj} {l l2 : List (Addr × Obj)} (h : l = l2) : ∀ p ∈ l, p ∈ a :: b :: c :: d :: e :: f :: g :: i :: l2 := fun p hp => by subst h; exact .tail _ (.tail _ (.tail _ (.tail _ (.tail _ (.tail _ (.tail _ (.tail _ (hp))))))))
theorem lr_out {h₀ h : Heap} {L S P W : Addr} {o : Obj} {V : List Value} {K : Nat} {C : Obj} {T news : List (Addr × Obj)} {ps : List Dat} {G : Prop}
    (N : News h₀ L h ((S, o) :: (W, C) :: (P, ({ cls := .type "list", data := .seq V.toArray K } : Obj)) :: ([] ++ (T ++ news)))) (hS : ∀ p ∈ T ++ news, @LT.lt Nat _ p.1 S) (hW : ∀ p ∈ T ++ news, p.1 ≠ W) (D : DatAll T V ps)
    (k : ∀ (T : List (Addr × Obj)) (V : List Value), News h₀ L h ((S, o) :: (W, C) :: (P, ({ cls := .type "list", data := .seq V.toArray K } : Obj)) :: ([] ++ (T ++ news))) → (∀ p ∈ T ++ news, @LT.lt Nat _ p.1 S) → (∀ p ∈ T ++ news, p.1 ≠ W) → DatAll T V ps → G) : G := k T V N hS hW D
theorem lit_no {k : List Nat} (h : k = wd "name") : (tx k == PySem.Str.ofString "literal") = false := tx_ne (by rw [h]; decide +kernel)
theorem same3 {α : Type} {z k p a : PySem.Str} {x y v r : α} (h2 : z ≠ a) (h3 : [p, k].contains z = false) : (if z = k then x else if z = p then y else if z = a then v else r) = r := by
  simp only [List.contains_cons, List.contains_nil, Bool.or_false, Bool.or_eq_false_iff, beq_eq_false_iff_ne, ne_eq] at h3
  rw [if_neg h3.2, if_neg h3.1, if_neg h2]
theorem lr_lt {pl sl D wc a b : Addr} {oc : Obj} {ts news : List (Addr × Obj)} (l : @LT.lt Nat _ pl sl ∧ @LT.lt Nat _ a sl ∧ @LT.lt Nat _ D sl ∧ @LT.lt Nat _ b sl ∧ AllLt sl (ts ++ (wc, oc) :: news)) :
    (∀ o3 : Obj, ∀ p ∈ ((D, o3) :: ts) ++ news, @LT.lt Nat _ p.1 sl) ∧ @LT.lt Nat _ wc sl ∧ @LT.lt Nat _ pl sl := by
  obtain ⟨l1, -, l3, -, l5⟩ := l
  have l6 := ktn_ltOf l5
  refine ⟨fun o3 p hp => ?_, l6 (wc, oc) (by simp), l1⟩
  simp only [List.cons_append, List.mem_cons, List.mem_append] at hp
  rcases hp with rfl | hp | hp
  · exact l3
  · exact l6 p (by simp [hp])
  · exact l6 p (by simp [hp])
theorem lr_ltw {wc a D : Addr} {oc : Obj} {ts news : List (Addr × Obj)} (l : ∀ p ∈ ts, @LT.lt Nat _ a p.1) (l2 : @LT.lt Nat _ wc a ∧ AllLt a news) (l3 : @LT.lt Nat _ a D ∧ AllLt D (ts ++ (wc, oc) :: news)) (l4 : ∀ p ∈ news, @LT.lt Nat _ p.1 wc) :
    ∀ o3 : Obj, ∀ p ∈ ((D, o3) :: ts) ++ news, p.1 ≠ wc := fun o3 p hp => by
  simp only [List.cons_append, List.mem_cons, List.mem_append] at hp
  have h0 : @LT.lt Nat _ wc a := l2.1
  rcases hp with rfl | hp | hp
  · have : @LT.lt Nat _ a D := l3.1
    exact Nat.ne_of_gt (Nat.lt_trans h0 this)
  · exact Nat.ne_of_gt (Nat.lt_trans h0 (l p hp))
  · exact Nat.ne_of_lt (l4 p hp)
theorem all_dat {ts : List (Addr × Obj)} {vs : List Value} {T : List Nat} {D : Addr} {n : Int} {t1 t2 t3 : Tok} {e : Nat} (h : DatAll ts vs ((piecesOf T 0).map datP)) (hn : n = (T.length : Int)) :
    DatAll ((D, tup3 n (PySem.Str.ofString "over") (PySem.Str.ofString "") t1 t2 t3 e) :: ts) (vs ++ [.ref D]) ((allP T).map datP) := by
  subst hn
  unfold allP
  rw [List.map_append]
  refine DatAll.append (DatAll.mono (fun p hp => .tail _ hp) h) (DatAll.one ?_)
  have e1 : tx (wd "over") = PySem.Str.ofString "over" := tx_tl _
  have e2 : tx [] = PySem.Str.ofString "" := empty_tx.symm
  unfold datP
  dsimp only
  rw [e1, e2]
  exact DatIn.tuple (vs := [.int (T.length : Int) t1, .str (PySem.Str.ofString "over") t2, .str (PySem.Str.ofString "") t3]) (.head _) (.cons (.int _ _) (.cons (.str _ _) (.cons (.str _ _) .nil)))
theorem list_item {prog : Program} {w : World} {A : Around} {E : Value → Shared → Prop} {s : Shared} {h₀ : Heap} {L l : Addr} {news : List (Addr × Obj)} {vs : List Value} {n : Nat} {k : Int} {u : Tok} {v : Value} {value slice : PySem.Expr} {Q : Value → Shared → Prop}
    (N : News h₀ L s.heap news) (hm : (l, ({ cls := .type "list", data := .seq vs.toArray n } : Obj)) ∈ news) (hi : ItemIs vs k v) (h : Q v s)
    (hb : subscripted slice false (.ref l) (.int k u) = operate [.ref l, .int k u] (getItem (.ref l) (.int k u)) := by with_unfolding_all rfl) (hg : ∀ r, letTemporaryGo value (.ref l) r = pure () := by intro _; with_unfolding_all rfl) :
    wpAny (model prog w) A (subscriptTail value slice (.ref l) (.int k u)) Q E s := by
  have hl : s.heap.IsList l vs.toArray := ⟨_, (N _ hm).1, rfl, n, rfl⟩
  refine tail_any hl.typeIs PySem.F.slot_list_getitem.lookup (wpAny_getItem_list hl hi.1 ?_ ?_ h) hb
  · have := hi.2.1; omega
  · rw [List.getElem?_toArray]; exact hi.2.2
theorem Mine.kw_LRead_1 : True := by
  k_with "CutPost" => (dsimp only [CutPost])
  k_with "CutEnd" => k_extra "cutend"
  k_with "CutEnd cons" => k_extra "cutend"
  k_with "KswEnd cons" => k_extra "ends"
  k_with "exec While Compare" => k_extra "outer"
  k_with "subscriptTail Name Name ref int" => (k_here; k_dflt (refine' list_item ?Nq182 ?mq182 ?iq182 ?_ ?sq182 ?gq182; (case Nq182 => k_asm); (case mq182 => k_mem); (case iq182 => with_reducible assumption); (case sq182 => with_unfolding_all rfl); (case gq182 => (intro _; with_unfolding_all rfl))))
  k_with "call builtin:list.append" => (k_here; (with_reducible show wpAny _ _ (call (Value.builtin _) [Value.ref _, _]) _ _ _); k_dflt (refine' append_K ?k1q183 ?k2q183 ?k3q183 ?_ ?zq183; (case k1q183 => k_asm); (case k2q183 => k_asm); (case k3q183 => k_upd); (case zq183 => exact len_size (by assumption)); k_whole); intro h' F' N'; (try k_sweep))
  k_with "truthy ref" => (k_here; (with_reducible show wpAny _ _ (truthy (Value.ref _)) _ _ _); k_dflt (refine' truthy_list ?Nq184 ?mq184 ?bq184 ?eq184 ?_; (case Nq184 => k_asm); (case mq184 => k_mem); (case bq184 => with_reducible assumption); (case eq184 => with_reducible assumption); intro _))
  k_with "isTrue BoolOp" => ((with_reducible show wpAny _ _ (isTrue (Expr.BoolOp BoolOp.And (Expr.Name _ _ :: _) _) _ _) _ _ _); k_extra "btest")
  k_with "exec If" => ((with_reducible show wpAny _ _ (exec (Stmt.If (Expr.Compare (Expr.Name (PySem.Str.ofString "wanted") _) _ _ _) _ _ _) _) _ _ _); k_extra "iftest")
  k_with "eval ListComp" => k_extra "comp"
  trivial
theorem lr_i2 {i j : Nat} (h : i ≤ j) : i < j + 2 := Nat.lt_succ_of_le (Nat.le_succ_of_le h)
theorem lr_m1 {i j T : Nat} (h : i ≤ j) (k : j + 1 ≤ T) : T - (j + 1) < T - i := Nat.sub_lt_sub_left (Nat.lt_of_le_of_lt h k) (Nat.lt_succ_of_le h)
theorem lr_m2 {i j T : Nat} (h : i ≤ j) (k : j + 1 + 1 ≤ T) : T - (j + 2) < T - i := Nat.sub_lt_sub_left (Nat.lt_of_lt_of_le (lr_i2 h) k) (lr_i2 h)
theorem Mine.kw_LRead_2 : True := by
  k_with "CompSrc" => k_extra "csrc"
  k_with "CompEnd" => k_extra "cend"
  k_with "call builtin:sum" => k_extra "sums"
  k_with "call type:int" => k_extra "intt"
  k_with "subscriptTail Name BinOp str int" => k_extra "negi"
  k_with "binaryOp Pow int int" => k_extra "powi"
  k_with "binaryOp Mult int int" => k_extra "mulp"
  k_with "call ref" => (k_dflt (show wpAny _ _ (call (Value.ref 343) [_, _]) _ _ _); k_dflt (refine' lit_ok ?zzB ?zzF ?zzX ?zzT ?zzk ?zzp ?zzu ?zzN ?zzhlen ?zzhas ?zzhR ?_; walk_at "mine tail"; (case zzhlen => assumption); (case zzhas => assumption); (case zzhR => assumption)); (intro t7 e7 y7 v7 w7 h7 tk7 L7 F7 N7 l7; (try k_lt l7); (obtain ⟨L8, L9⟩ := lit_some (by assumption) L7; subst L8; subst L9)))
  trivial
set_option maxHeartbeats 4000000 in
theorem lread_ok {w : World} {mean : ExcName → Option Value} {mg mb : PySem.Str → Option Value} {dp un : Nat} {gd : Option (List Code)} {cn : PySem.Str} {cs : Scope} {a : Addr} {ccd : Value} {cl : List (PySem.Str × Addr)} {outer : List Env} {A₀ : Around} {base h₀ : Heap} {L : Addr} {m : PySem.Str → Option Value} {s : Shared} {Q E : Value → Shared → Prop} {news : List (Addr × Obj)} (B : Below A₀ base outer h₀) (F : Fr h₀ L s.heap m) (X : (Mine.hd.heap_1_39 w.params).In h₀) (T : Top Mine.hd.view_1_40 lo mean mg mb h₀) (hk : cs.kind = .function) (hdp : dp + 25 < recursionLimit) (hun : un + 250 < cLine) (N : News h₀ L s.heap news) {TX : PySem.Str} {u1 : Tok} {K : Except Nat Sts} (hlen : TX.length ≤ 200) (has : ∀ x ∈ tl TX, x < 128) (hK : lawGo (tl TX) ((piecesOf (tl TX) 0).length + 1) (piecesOf (tl TX) 0) [] = K)
  (rete : ∀ (j : Nat) (t : Tok) (h' : Heap) (tk' : Nat), K = .error j → Fr h₀ L h' m → Q (.int (j : Int) t) { s with heap := h', toks := tk' })
  (retl : ∀ (l : Sts) (sl : Addr) (ts : List (Addr × Obj)) (vs : List Value) (nn : Nat) (h' : Heap) (tk' : Nat), K = .ok l → DatAll ts vs (l.map datSt) → Fr h₀ L h' m → News h₀ L h' ((sl, W.listOf vs.toArray nn) :: (ts ++ news)) → Q (.ref sl) { s with heap := h', toks := tk' })
  : wpAny (model PySem.Challenge.rw_nn0359_01.row.prog w) (ktrTop dp un gd cn cs L a ccd cl outer) (call (.ref 362) [.str TX u1]) Q E s := by
  have hz : TX.length ≤ 100000 := by omega
  (k_with "outer" => (((rename _ = Data.cell _ => hcl); (rename News _ _ _ _ => N1); (rename _ < _ ∧ _ < _ ∧ _ < _ ∧ _ < _ ∧ AllLt _ _ => l1); (rename DatAll _ _ _ => D7x); (refine (?_ : let S9 := lrS N1; let P9 := lrP N1; let K9 := lrK N1; let W9 := lrW N1; let C9 := lrC N1; let gk := _; gk)); (intro S9 P9 K9 W9 C9 gk); (have hA1 := (lr_lt l1).1); (have hA2 := (lr_lt l1).2.1); (have hA3 := (lr_lt l1).2.2); (rename (∀ p : Addr × Obj, p ∈ _ → @LT.lt Nat _ _ p.1) => l8x); (rename _ < _ ∧ AllLt _ news => l9x); (rename (∀ p : Addr × Obj, p ∈ news → p.1 < _) => lnx); (rename _ < _ ∧ AllLt _ _ => l10); (have DA0 : DatAll (lrT N1) (lrV N1) ((allP (tl TX)).map datP) := all_dat D7x (by rw [len_tl])); (refine lr_out (S := S9) (P := P9) (K := K9) (W := W9) (C := C9) (T := lrT N1) (V := lrV N1) (ps := (allP (tl TX)).map datP) (lr_news N1) (hA1 _) (lr_ltw l8x l9x l10 (fun p hp => Nat.lt_succ_of_lt (lnx p hp)) _) DA0 ?_); (intro tsA vsA N1' hS9 hW9 DA); (clear hA1 l8x l9x lnx l10 D7x DA0); (refine (?_ : gk)); k_unfold; with_unfolding_all refine ksw_while (σ := Nat × Sts × List (Addr × Obj) × List Value × Nat × Obj × Tok) (fun q => (S9, W.listOf q.2.2.2.1.toArray q.2.2.2.2.1) :: (W9, q.2.2.2.2.2.1) :: (P9, ({ cls := .type "list", data := .seq vsA.toArray K9 } : Obj)) :: (q.2.2.1 ++ (tsA ++ news))) (fun q => [(PySem.Str.ofString "at", Value.int (q.1 : Int) q.2.2.2.2.2.2)]) (fun _ => True) [PySem.Str.ofString "place", PySem.Str.ofString "kind", PySem.Str.ofString "word", PySem.Str.ofString "wanted"] (fun q => LrInv (tl TX) K S9 q.1 q.2.1 q.2.2.1 q.2.2.2.1 ∧ ∃ v, q.2.2.2.2.2.1.data = Data.cell v) (fun q => (piecesOf (tl TX) 0).length - q.1) (0, [], [], [], 0, C9, _) (by assumption) N1' trivial (by kst_all) ⟨hK ▸ LrInv.start, _, hcl⟩ (unt7 fun i acc ts vs nn oc9 ta u9 h9 tk9 _ hp F9 N9 => ?_); (refine (?_ : let gk := _; gk)); (intro gk); (obtain ⟨hp, v9, hcl9⟩ := hp); (dsimp only at hp N9 hcl9); (dsimp only [S9, P9, W9, lrS, lrP, lrW] at hp N9 hS9 hW9); (refine frk F9 ?_); (clear F9); (intro mk F9); (have hvl9 := (hp.vl hlen).1); (have hi9 := (hp.vl hlen).2); (have hoW := off_w hp.lt hA2 hW9); (have hoS := off_s hp.lt hS9); (have hpw := cell_ne N9 (.tail _ (.tail _ (.head _))) (.tail _ (.head _)) rfl hcl9); (have hsw : @LT.lt Nat _ _ _ := hA2); (have hps9 : @LT.lt Nat _ _ _ := hA3); (have hvl : vs.length ≤ 100000 := (by omega)); (rcases hdr : (piecesOf (tl TX) 0).drop i with _ | ⟨⟨p, k, wo⟩, ps⟩); ((obtain ⟨t0, a1, a2, a3, e0, hI0, hM0⟩ := lr_over DA hdr hp.le (by rw [← len_tl]; exact hlen)); (have hx0 := ne_false (beq_self_eq_true (PySem.Str.ofString "over"))); (have N10 := nm_news N9 (.tail _ (.tail _ (.tail _ (List.mem_append_right _ (List.mem_append_left _ hM0))))) N9); (clear N9); (rcases acc with _ | ⟨st, acc⟩); (have hve : vs.isEmpty = !false := dat_nil hp.dat); rotate_left; (have hve : vs.isEmpty = !true := dat_cons hp.dat); rotate_left); ((obtain ⟨⟨t0, a1, a2, a3, e0, hI0, hM0⟩, hx0, hi1, hdr1⟩ := lr_piece DA hdr (by rw [← len_tl]; exact hlen)); (have ht0w : @Ne Nat t0 _ := hW9 _ (List.mem_append_left _ hM0)); (have ht0s : @LT.lt Nat _ t0 _ := hS9 _ (List.mem_append_left _ hM0)); (have N10 := nm_news N9 (.tail _ (.tail _ (.tail _ (List.mem_append_right _ (List.mem_append_left _ hM0))))) N9); (clear N9)); (all_goals ((refine (?_ : gk)); k_unfold)); (all_goals (try k_fold)))))
  (k_with "btest" => (k_dflt ((refine cut_bool (endsR acc) (by k_asm) (by k_asm) ?_ (fun _ _ _ _ => ?_); (refine (?_ : let gk := _; gk)); (intro gk); ((rcases acc with _ | ⟨⟨wo9, wt9⟩, acc9⟩); ((have hve : vs.isEmpty = !false := dat_nil hp.dat)); rotate_left; ((obtain ⟨vs', t9, b1, wv9, e9, hve', hm9⟩ := acc_last hp.dat); (dsimp only at hm9); (subst hve'); (have hve : (vs' ++ [Value.ref t9]).isEmpty = !true := (by simp)); (have hen9 : ([PySem.Str.ofString "return", PySem.Str.ofString "reject"].any fun x => x == tx wo9) = endsR ((wo9, wt9) :: acc9) := last_any wo9); (rename News _ _ _ _ => N11); (have N12 := nm_news N11 (.tail _ (.tail _ (.tail _ (.tail _ (List.mem_append_left _ hm9))))) N11)); rotate_left; (rcases hen : endsR acc with _ | _); (refine (?_ : let gk := _; gk)); (intro gk); (rcases Decidable.em (k = wd "name") with hkn | hkn); (have hkb := ne_false (tx_eq hkn)); rotate_left; (have hkb := ne_true (tx_ne hkn)); rotate_left; rotate_left; rotate_left; rotate_left; (rcases hwo : wantR wo with _ | wa); (have hwb : ([PySem.Str.ofString "return", PySem.Str.ofString "less", PySem.Str.ofString "begin", PySem.Str.ofString "skip", PySem.Str.ofString "push", PySem.Str.ofString "more", PySem.Str.ofString "pop", PySem.Str.ofString "reject", PySem.Str.ofString "echo"].any fun y => y == tx wo) = false := want_no hwo); rotate_left; (obtain ⟨j9, t9, hj9, hT9, hV9, hwb9⟩ := want_idx hwo); (have hwb : ([PySem.Str.ofString "return", PySem.Str.ofString "less", PySem.Str.ofString "begin", PySem.Str.ofString "skip", PySem.Str.ofString "push", PySem.Str.ofString "more", PySem.Str.ofString "pop", PySem.Str.ofString "reject", PySem.Str.ofString "echo"].any fun y => y == tx wo) = true := hwb9); (clear hwb9); rotate_left); (all_goals (try ((refine (?_ : gk)); k_unfold))); (all_goals (try k_fold))))))
  (k_with "iftest" => (k_dflt (((rename _ = Data.cell (some Value.none) => hclN); refine cut_exec (σ := Nat × Wth × Value × Obj × Tok) (fun q => (S9, W.listOf vs.toArray nn) :: (W9, q.2.2.2.1) :: (P9, ({ cls := .type "list", data := .seq vsA.toArray K9 } : Obj)) :: (ts ++ (tsA ++ news))) (fun q => [(PySem.Str.ofString "at", Value.int (q.1 : Int) q.2.2.2.2)]) [PySem.Str.ofString "place", PySem.Str.ofString "kind"] (fun q => lawWorth (tl TX) wa ps = .ok (q.2.1, (piecesOf (tl TX) 0).drop (q.1 + 1)) ∧ i ≤ q.1 ∧ q.1 + 1 ≤ (piecesOf (tl TX) 0).length ∧ q.2.1.is q.2.2.1 ∧ q.2.2.2.1.data = Data.cell (some q.2.2.1)) (by k_asm) ?_ ?_; rotate_left; ((refine unt5 fun i2 wt wv oc2 tb u8 h8 tk8 hp8 F8 N8 => ?_); (refine (?_ : let gk := _; gk)); (intro gk); (obtain ⟨hlw, hi2a, hi2b, hwi, hoc2⟩ := hp8); (dsimp only at hlw hi2a hi2b hwi hoc2 F8 N8); (dsimp only [S9, P9, W9, lrS, lrP, lrW] at N8); (refine frk F8 ?_); (clear F8); (intro mk F8); (obtain ⟨hq1, hq2, hq3⟩ := hp.after hdr hen hkn hwo hlw hi2a); (rcases hd2 : (piecesOf (tl TX) 0).drop (i2 + 1) with _ | ⟨⟨p2, k2, w2⟩, ps2⟩); ((obtain ⟨t2, c1, c2, c3, e2, hI2, hM2⟩ := lr_over DA hd2 hi2b (by rw [← len_tl]; exact hlen)); (have hI3 : ItemIs vsA ((i2 : Int) + 1) (.ref t2) := hI2); (have hxs := over_semi); (have hxo := ne_false (beq_self_eq_true (PySem.Str.ofString "over"))); (have ht2w : @Ne Nat t2 _ := hW9 _ (List.mem_append_left _ hM2)); (have ht2s : @LT.lt Nat _ t2 _ := hS9 _ (List.mem_append_left _ hM2)); (rename News _ _ _ _ => NA); (have N16 := nm_news NA (by first | exact .tail _ (.tail _ (.tail _ (List.mem_append_right _ (List.mem_append_left _ hM2)))) | exact .tail _ (.tail _ (.tail _ (.tail _ (List.mem_append_right _ (List.mem_append_left _ hM2))))) | exact .tail _ (.tail _ (.tail _ (.tail _ (.tail _ (List.mem_append_right _ (List.mem_append_left _ hM2))))))) NA); (clear NA)); rotate_left; ((obtain ⟨⟨t2, c1, c2, c3, e2, hI2, hM2⟩, hxo, hi5, hdr5⟩ := lr_piece DA hd2 (by rw [← len_tl]; exact hlen)); (have hI3 : ItemIs vsA ((i2 : Int) + 1) (.ref t2) := hI2); (have ht2w : @Ne Nat t2 _ := hW9 _ (List.mem_append_left _ hM2)); (have ht2s : @LT.lt Nat _ t2 _ := hS9 _ (List.mem_append_left _ hM2)); (rename News _ _ _ _ => NA); (have N16 := nm_news NA (by first | exact .tail _ (.tail _ (.tail _ (List.mem_append_right _ (List.mem_append_left _ hM2)))) | exact .tail _ (.tail _ (.tail _ (.tail _ (List.mem_append_right _ (List.mem_append_left _ hM2))))) | exact .tail _ (.tail _ (.tail _ (.tail _ (.tail _ (List.mem_append_right _ (List.mem_append_left _ hM2))))))) NA); (clear NA); (rcases Decidable.em (k2 = [59]) with hk2 | hk2); (have hxs := tx_semi.1 hk2); rotate_left; (have hxs := tx_semi.2 hk2); rotate_left); (refine (?_ : let gk := _; gk)); (intro gk); (rcases wa with _ | _ | _ | _); (all_goals (try ((have gz0 : wantR wo = some .kind := hwo); (clear gz0); ((focus ((have hV8 : wantsL[j9]? = some (.str (PySem.Str.ofString "kind") t9) := hV9); (clear hV9); (rcases hps : ps with _ | ⟨⟨p3, k3, w3⟩, ps3⟩); ((rw [hps] at hdr1); (obtain ⟨t3, d1, d2, d3, e3, hJ2, hK2⟩ := lr_over DA hdr1 hi1 (by rw [← len_tl]; exact hlen)); (have hJ3 : ItemIs vsA ((i : Int) + 1) (.ref t3) := hJ2); (have ht3w : @Ne Nat t3 _ := hW9 _ (List.mem_append_left _ hK2)); (have hy1 := over_fig); (have hy2 := over_lit); (have hy3 := over_name); (rename News _ _ _ _ => NA); (have N17 := nm_news NA (by first | exact .tail _ (.tail _ (.tail _ (List.mem_append_right _ (List.mem_append_left _ hK2)))) | exact .tail _ (.tail _ (.tail _ (.tail _ (List.mem_append_right _ (List.mem_append_left _ hK2))))) | exact .tail _ (.tail _ (.tail _ (.tail _ (.tail _ (List.mem_append_right _ (List.mem_append_left _ hK2))))))) NA); (clear NA); (have hbw : lawWorth (tl TX) .kind ps = .error TX.length := (by rw [hps]; rw [len_tl]; rfl))); rotate_left; ((rw [hps] at hdr1); (obtain ⟨⟨t3, d1, d2, d3, e3, hJ2, hK2⟩, hyo, hi6, hdr6⟩ := lr_piece DA hdr1 (by rw [← len_tl]; exact hlen)); (have hJ3 : ItemIs vsA ((i : Int) + 1) (.ref t3) := hJ2); (have ht3w : @Ne Nat t3 _ := hW9 _ (List.mem_append_left _ hK2)); (rename News _ _ _ _ => NA); (have N17 := nm_news NA (by first | exact .tail _ (.tail _ (.tail _ (List.mem_append_right _ (List.mem_append_left _ hK2)))) | exact .tail _ (.tail _ (.tail _ (.tail _ (List.mem_append_right _ (List.mem_append_left _ hK2))))) | exact .tail _ (.tail _ (.tail _ (.tail _ (.tail _ (List.mem_append_right _ (List.mem_append_left _ hK2))))))) NA); (clear NA)); (rcases Decidable.em (k3 = wd "literal") with hk3 | hk3); ((have hy2 := tx_eq hk3); (obtain ⟨x4, k4, hl4⟩ := lit_at (hk3 ▸ hdr1)); (have hx4 := lawLit_lt (fun c hc => has c (List.mem_of_mem_drop hc)) hl4); (have hR4 : (tl TX).drop (p3 + 1) = (tl TX).drop (p3 + 1) := rfl); (have hlw : lawWorth (tl TX) .kind ps = .ok (.txt (39 :: escS x4 ++ [39]), (piecesOf (tl TX) 0).drop (i + 1 + 1)) := (by rw [hps, hdr6]; simp only [lawWorth]; rw [if_pos hk3, hl4]))); rotate_left; (have hy2 := tx_ne hk3); (rcases Decidable.em (k3 = wd "name") with hk4 | hk4); ((have hy3 := ne_false (tx_eq hk4)); (have hlw : lawWorth (tl TX) .kind ps = .ok (.txt w3, (piecesOf (tl TX) 0).drop (i + 1 + 1)) := (by rw [hps, hdr6]; simp only [lawWorth]; rw [if_neg hk3, if_neg (fun h => h hk4)]))); rotate_left; ((have hy3 := ne_true (tx_ne hk4)); (have hbw : lawWorth (tl TX) .kind ps = .error p3 := (by rw [hps]; simp only [lawWorth]; rw [if_neg hk3, if_pos hk4]))))))))); (all_goals (try ((have gz0 : wantR wo = some .cond := hwo); (clear gz0); ((focus ((have hV8 : wantsL[j9]? = some (.str (PySem.Str.ofString "condition") t9) := hV9); (clear hV9); (rcases hps : ps with _ | ⟨⟨p3, k3, w3⟩, ps3⟩); ((rw [hps] at hdr1); (obtain ⟨t3, d1, d2, d3, e3, hJ2, hK2⟩ := lr_over DA hdr1 hi1 (by rw [← len_tl]; exact hlen)); (have hJ3 : ItemIs vsA ((i : Int) + 1) (.ref t3) := hJ2); (have ht3w : @Ne Nat t3 _ := hW9 _ (List.mem_append_left _ hK2)); (have hy1 := over_fig); (have hy2 := over_lit); (have hy3 := over_name); (rename News _ _ _ _ => NA); (have N17 := nm_news NA (by first | exact .tail _ (.tail _ (.tail _ (List.mem_append_right _ (List.mem_append_left _ hK2)))) | exact .tail _ (.tail _ (.tail _ (.tail _ (List.mem_append_right _ (List.mem_append_left _ hK2))))) | exact .tail _ (.tail _ (.tail _ (.tail _ (.tail _ (List.mem_append_right _ (List.mem_append_left _ hK2))))))) NA); (clear NA); (have hbw : lawWorth (tl TX) .cond ps = .error TX.length := (by rw [hps]; rw [len_tl]; rfl))); rotate_left; ((rw [hps] at hdr1); (obtain ⟨⟨t3, d1, d2, d3, e3, hJ2, hK2⟩, hyo, hi6, hdr6⟩ := lr_piece DA hdr1 (by rw [← len_tl]; exact hlen)); (have hJ3 : ItemIs vsA ((i : Int) + 1) (.ref t3) := hJ2); (have ht3w : @Ne Nat t3 _ := hW9 _ (List.mem_append_left _ hK2)); (rename News _ _ _ _ => NA); (have N17 := nm_news NA (by first | exact .tail _ (.tail _ (.tail _ (List.mem_append_right _ (List.mem_append_left _ hK2)))) | exact .tail _ (.tail _ (.tail _ (.tail _ (List.mem_append_right _ (List.mem_append_left _ hK2))))) | exact .tail _ (.tail _ (.tail _ (.tail _ (.tail _ (List.mem_append_right _ (List.mem_append_left _ hK2))))))) NA); (clear NA)); (rcases Decidable.em (k3 = wd "name") with hk4 | hk4); ((have hy3 := ne_false (tx_eq hk4)); (have hy2 := lit_no hk4); (rcases hcn : nmsL.contains w3 with _ | _); ((have hnm : ([PySem.Str.ofString "INITIAL", PySem.Str.ofString "A", PySem.Str.ofString "B_2"].any fun x => x == tx w3) = false := (nms_any w3).trans hcn); (have hbw : lawWorth (tl TX) .cond ps = .error p3 := (by rw [hps]; simp only [lawWorth]; rw [if_pos (.inr hcn)]))); rotate_left; ((have hnm : ([PySem.Str.ofString "INITIAL", PySem.Str.ofString "A", PySem.Str.ofString "B_2"].any fun x => x == tx w3) = true := (nms_any w3).trans hcn); (have hlw : lawWorth (tl TX) .cond ps = .ok (.txt w3, (piecesOf (tl TX) 0).drop (i + 1 + 1)) := (by rw [hps, hdr6]; simp only [lawWorth]; rw [if_neg (fun h => h.elim (fun h => h hk4) (fun h => by rw [hcn] at h; cases h))])))); rotate_left; ((have hy3 := ne_true (tx_ne hk4)); (have hbw : lawWorth (tl TX) .cond ps = .error p3 := (by rw [hps]; simp only [lawWorth]; rw [if_pos (.inl hk4)]))))))))); (all_goals (try ((have gz0 : wantR wo = some .num := hwo); (clear gz0); ((focus ((have hV8 : wantsL[j9]? = some (.str (PySem.Str.ofString "number") t9) := hV9); (clear hV9); (rcases hps : ps with _ | ⟨⟨p3, k3, w3⟩, ps3⟩); ((rw [hps] at hdr1); (obtain ⟨t3, d1, d2, d3, e3, hJ2, hK2⟩ := lr_over DA hdr1 hi1 (by rw [← len_tl]; exact hlen)); (have hJ3 : ItemIs vsA ((i : Int) + 1) (.ref t3) := hJ2); (have ht3w : @Ne Nat t3 _ := hW9 _ (List.mem_append_left _ hK2)); (have hy1 := over_fig); (have hy2 := over_lit); (have hy3 := over_name); (rename News _ _ _ _ => NA); (have N17 := nm_news NA (by first | exact .tail _ (.tail _ (.tail _ (List.mem_append_right _ (List.mem_append_left _ hK2)))) | exact .tail _ (.tail _ (.tail _ (.tail _ (List.mem_append_right _ (List.mem_append_left _ hK2))))) | exact .tail _ (.tail _ (.tail _ (.tail _ (.tail _ (List.mem_append_right _ (List.mem_append_left _ hK2))))))) NA); (clear NA); (have hbw : lawWorth (tl TX) .num ps = .error TX.length := (by rw [hps]; rw [len_tl]; rfl))); rotate_left; ((rw [hps] at hdr1); (obtain ⟨⟨t3, d1, d2, d3, e3, hJ2, hK2⟩, hyo, hi6, hdr6⟩ := lr_piece DA hdr1 (by rw [← len_tl]; exact hlen)); (have hJ3 : ItemIs vsA ((i : Int) + 1) (.ref t3) := hJ2); (have ht3w : @Ne Nat t3 _ := hW9 _ (List.mem_append_left _ hK2)); (rename News _ _ _ _ => NA); (have N17 := nm_news NA (by first | exact .tail _ (.tail _ (.tail _ (List.mem_append_right _ (List.mem_append_left _ hK2)))) | exact .tail _ (.tail _ (.tail _ (.tail _ (List.mem_append_right _ (List.mem_append_left _ hK2))))) | exact .tail _ (.tail _ (.tail _ (.tail _ (.tail _ (List.mem_append_right _ (List.mem_append_left _ hK2))))))) NA); (clear NA)); (rcases Decidable.em (k3 = wd "figures") with hk3 | hk3); (have hy1 := ne_false (tx_eq hk3)); rotate_left; ((have hy1 := ne_true (tx_ne hk3)); (have hbw : lawWorth (tl TX) .num ps = .error p3 := (by rw [hps]; simp only [lawWorth]; rw [if_pos (.inl hk3)]))); rotate_left; rotate_left; (have hw3 : (tx w3).length ≤ 100000 := piece_w hdr1 hz); (rcases Nat.lt_or_ge 6 w3.length with h6 | h6); ((have h6t : 6 < (tx w3).length := (by rw [tx_len]; exact h6)); (have hbw : lawWorth (tl TX) .num ps = .error p3 := (by rw [hps]; simp only [lawWorth]; rw [if_pos (.inr h6)]))); rotate_left; ((have h6t : ¬ 6 < (tx w3).length := (by rw [tx_len]; omega)); (have hl6 : (tx w3).length = w3.length := tx_len w3); (obtain ⟨hne6, hdg6⟩ := fig_at (hk3 ▸ hdr1)); (have hlw : lawWorth (tl TX) .num ps = .ok (.num (decN w3), (piecesOf (tl TX) 0).drop (i + 1 + 1)) := (by rw [hps, hdr6]; simp only [lawWorth]; rw [if_neg (fun h => h.elim (fun h => h hk3) (fun h => absurd h (by omega)))]))); rotate_left)))))); (all_goals (try ((have gz0 : wantR wo = some .no := hwo); (clear gz0); (((have hV8 : wantsL[j9]? = some (.str (PySem.Str.ofString "") t9) := hV9); (clear hV9); (have hlw : lawWorth (tl TX) .no ps = .ok (.no, (piecesOf (tl TX) 0).drop (i + 1)) := (by rw [hdr1]; rfl))))))); (all_goals (try ((refine (?_ : gk)); k_unfold))); (all_goals (try dsimp only [Want.txt])); (all_goals (try dsimp only)); (all_goals (try k_fold)))))))
  (k_with "ends" => (k_dflt (((rename _ < _ ∧ _ => l2); (rename News _ _ _ _ => nE'); (have nF := lr_end (vs := vs) (tl9 := ts ++ (tsA ++ news)) nE' (.head _) (.tail _ (.tail _ (.head _))) (.tail _ (.tail _ (.tail _ (.head _)))) (.tail _ (.tail _ (.tail _ (.tail _ (.head _))))) (fun p hp => .tail _ (.tail _ (.tail _ (.tail _ (.tail _ hp))))) rfl); first | (refine ksw_end (i2 + 1, (wo, wt) :: acc, _ :: ts, vs ++ [_], nn + 1, oc2, _) (by assumption) nF (by with_unfolding_all exact fun _ h => h) trivial (by kst_all) (by ksw_same) ⟨hp.next (by (try dsimp only); first | exact Nat.lt_succ_of_le (by assumption) | omega) (by omega) (hq1 hd2 hi2b) hwi (by first | exact l2.2.1 | exact l2.1), _, hoc2⟩ (by (try dsimp only); first | exact lr_m1 (by assumption) (by assumption) | exact lr_m2 (by assumption) (by assumption) | omega)) | (refine ksw_end (i2 + 2, (wo, wt) :: acc, _ :: ts, vs ++ [_], nn + 1, oc2, _) (by assumption) nF (by with_unfolding_all exact fun _ h => h) trivial (by kst_all) (by ksw_same) ⟨hp.next (by (try dsimp only); first | exact lr_i2 (by assumption) | omega) (by omega) (hq2 _ _ _ (hk2 ▸ hd2)) hwi (by first | exact l2.2.1 | exact l2.1), _, hoc2⟩ (by (try dsimp only); first | exact lr_m1 (by assumption) (by assumption) | exact lr_m2 (by assumption) (by assumption) | omega))))))
  (k_with "cutend" => (k_dflt ((refine' cut_end (i, .no, .none, _, _) ?c1 ?c2 ?c3 ?c4 ?c5 ?c6; (case c1 => assumption); (case c2 => assumption); (case c3 => first | (refine' sub0 ?_; with_unfolding_all exact rfl) | (refine' sub1 ?_; with_unfolding_all exact rfl) | (refine' sub2 ?_; with_unfolding_all exact rfl) | (refine' sub3 ?_; with_unfolding_all exact rfl) | (refine' sub4 ?_; with_unfolding_all exact rfl) | (refine' sub5 ?_; with_unfolding_all exact rfl) | (refine' sub6 ?_; with_unfolding_all exact rfl) | (refine' sub7 ?_; with_unfolding_all exact rfl) | (refine' sub8 ?_; with_unfolding_all exact rfl)); (case c4 => kst_all); (case c5 => (first | ksw_same | (intro z h2 h3; exact same3 (h2 _ (.head _)) h3))); (case c6 => (refine ⟨?_, ?_, ?_, ?_, ?_⟩; (first | exact hlw | (rw [← hps]; exact hlw)); (dsimp only; omega); (dsimp only; omega); (first | rfl | exact ⟨_, rfl⟩); assumption))))))
  (k_with "cutend" => (k_dflt ((refine' cut_end (i + 1, .txt (39 :: escS x4 ++ [39]), .str (tx (39 :: escS x4 ++ [39])) _, _, _) ?c1 ?c2 ?c3 ?c4 ?c5 ?c6; (case c1 => assumption); (case c2 => assumption); (case c3 => first | (refine' sub0 ?_; with_unfolding_all exact rfl) | (refine' sub1 ?_; with_unfolding_all exact rfl) | (refine' sub2 ?_; with_unfolding_all exact rfl) | (refine' sub3 ?_; with_unfolding_all exact rfl) | (refine' sub4 ?_; with_unfolding_all exact rfl) | (refine' sub5 ?_; with_unfolding_all exact rfl) | (refine' sub6 ?_; with_unfolding_all exact rfl) | (refine' sub7 ?_; with_unfolding_all exact rfl) | (refine' sub8 ?_; with_unfolding_all exact rfl)); (case c4 => kst_all); (case c5 => (first | ksw_same | (intro z h2 h3; exact same3 (h2 _ (.head _)) h3))); (case c6 => (refine ⟨?_, ?_, ?_, ?_, ?_⟩; (first | exact hlw | (rw [← hps]; exact hlw)); (dsimp only; omega); (dsimp only; omega); (first | rfl | exact ⟨_, rfl⟩); assumption))))))
  (k_with "cutend" => (k_dflt ((refine' cut_end (i + 1, .num (decN w3), .int ((decN w3 : Nat) : Int) _, _, _) ?c1 ?c2 ?c3 ?c4 ?c5 ?c6; (case c1 => assumption); (case c2 => assumption); (case c3 => first | (refine' sub0 ?_; with_unfolding_all exact rfl) | (refine' sub1 ?_; with_unfolding_all exact rfl) | (refine' sub2 ?_; with_unfolding_all exact rfl) | (refine' sub3 ?_; with_unfolding_all exact rfl) | (refine' sub4 ?_; with_unfolding_all exact rfl) | (refine' sub5 ?_; with_unfolding_all exact rfl) | (refine' sub6 ?_; with_unfolding_all exact rfl) | (refine' sub7 ?_; with_unfolding_all exact rfl) | (refine' sub8 ?_; with_unfolding_all exact rfl)); (case c4 => kst_all); (case c5 => (first | ksw_same | (intro z h2 h3; exact same3 (h2 _ (.head _)) h3))); (case c6 => (refine ⟨?_, ?_, ?_, ?_, ?_⟩; (first | exact hlw | (rw [← hps]; exact hlw)); (dsimp only; omega); (dsimp only; omega); (first | rfl | exact ⟨_, rfl⟩); assumption))))))
  (k_with "intt" => (k_dflt ((refine KIN.call_text hin9 (Nat.le_of_ble_eq_true rfl) ?_))))
  (k_with "negi" => (k_dflt ((refine item_str (fitsSsize_of (N := 9223372036854775808) (by omega) (by omega) (Int.le_refl _)) (by omega) (by omega) ?_; intro _; rw [hit9]))))
  (k_with "powi" => (k_dflt ((refine pow_int_small (by omega) (by omega) (by decide) ?_))))
  (k_with "mulp" => (k_dflt ((refine PyProof.Rows.mul_int ?_ (.of_right (bits_ten _ (by omega))); rw [hdt9]))))
  (k_with "comp" => (k_here; k_dflt ((refine LCg.ListComp_U (F₀ := by k_asm) (by with_unfolding_all rfl) (by decide) (by rfl) (by decide) (by rfl) ?_))))
  (k_with "csrc" => (k_dflt (((rename News _ _ _ _ => n8); (refine LCg.CompSrc.range (n := w3.length) (by rfl) (by k_asm) (by k_asm) (by assumption) (small_one (by omega) (by omega) (by omega) (by omega)) (by rw [rangeSize_nat]; omega) (by rw [PySem.sizeLine_eq]; omega) ?_); (intro g'); (refine comp_rng (fun j ys nw => nw = nwOf n8 ∧ IntsAre ys ((List.range j).map fun k => ((decT w3 k : Nat) : Int))) (fun kk v ys nw I' oI' C' oC' D' m' h' tk' E' hkk hv' hk' hC' hx' F' N' off' ne' => ?_) (fun ys nw hk => ?_) ⟨rfl, .nil⟩); ((obtain ⟨hnw, hk'⟩ := hk'); (subst hnw); (obtain ⟨u9, rfl⟩ := hv'); (rw [Int.zero_add] at hx'); (have hit9 := item_neg (w := w3) (k := kk) hkk); (have hin9 := one_figI (fig_dg hdg6 hkk)); (have hdt9 := decT_val w3 kk); (generalize w3.reverse[kk]?.getD 48 = c9 at hit9 hin9 hdt9)); rotate_left; ((obtain ⟨hnw, hk8⟩ := hk); (subst hnw)); rotate_left))))
  (k_with "cend" => (k_dflt ((refine LCg.CompEnd.intro (by assumption) (by assumption) _ (fun _ hp => hp) (by assumption) trivial ⟨rfl, ?_⟩; (rw [List.range_succ, List.map_append]; exact ints_snoc hk')))))
  (k_with "sums" => (k_dflt (((refine' sumK ?k0 ?k1 ?k2 ?k3 ?k4 ?_; (case k0 => rfl); (case k1 => k_asm); (case k2 => k_asm); (case k3 => is_list); (case k4 => exact hk8)); intro h' tk' t' F' N'; (rw [dec_sumI])))))
  (k_with "cutend" => (k_dflt ((refine' cut_end (i + 1, .txt w3, .str (tx w3) _, _, _) ?c1 ?c2 ?c3 ?c4 ?c5 ?c6; (case c1 => assumption); (case c2 => assumption); (case c3 => first | (refine' sub0 ?_; with_unfolding_all exact rfl) | (refine' sub1 ?_; with_unfolding_all exact rfl) | (refine' sub2 ?_; with_unfolding_all exact rfl) | (refine' sub3 ?_; with_unfolding_all exact rfl) | (refine' sub4 ?_; with_unfolding_all exact rfl) | (refine' sub5 ?_; with_unfolding_all exact rfl) | (refine' sub6 ?_; with_unfolding_all exact rfl) | (refine' sub7 ?_; with_unfolding_all exact rfl) | (refine' sub8 ?_; with_unfolding_all exact rfl)); (case c4 => kst_all); (case c5 => (first | ksw_same | (intro z h2 h3; exact same3 (h2 _ (.head _)) h3))); (case c6 => (refine ⟨?_, ?_, ?_, ?_, ?_⟩; (first | exact hlw | (rw [← hps]; exact hlw)); (dsimp only; omega); (dsimp only; omega); (first | rfl | exact ⟨_, rfl⟩); assumption))))))
  refine wpAny_call ?_
  walk_at "mine cells"
  walk_at "mine steps"
  all_goals first
    | assumption
    | exact rete _ _ _ _ (hp.ends hdr hen) (by assumption)
    | exact rete _ _ _ _ (hp.kind hdr hkn) (by assumption)
    | exact rete _ _ _ _ (hp.word hdr hwo) (by assumption)
    | exact rete _ _ _ _ ((hp.over hdr).trans (by rw [if_pos rfl, len_tl])) (by assumption)
    | exact retl _ _ _ _ _ _ _ ((hp.over hdr).trans (if_neg (List.cons_ne_nil _ _))) hp.dat (by assumption) (lr_ret (by assumption))
    | (rw [← hen9]; first | exact Eq.symm (by assumption) | assumption)
    | exact news_tl (by assumption)
    | exact news_tl (news_tl (by assumption))
    | exact rete _ _ _ _ (hq3 _ _ _ _ hd2 hk2) (by assumption)
    | exact rete _ _ _ _ (hp.bad hdr hen hkn hwo hbw) (by assumption)
end Mine
end
section
set_option maxRecDepth 100000
namespace Mine
theorem news_nil {h₀ h : Heap} {L : Addr} {m : PySem.Str → Option Value} (_ : Fr h₀ L h m) : News h₀ L h [] := fun _ h => nomatch h
theorem law_steps {T : List Nat} (hT : ∀ c ∈ T, c < 512) : lawGo T ((piecesOf T 0).length + 1) (piecesOf T 0) [] = stepsR T 0 := by
  have h := law_eq hT (T.length + 2) ((piecesOf T 0).length + 1) 0 [] (Nat.zero_le _) (by omega) (by rw [List.drop_zero]; omega)
  rw [List.drop_zero] at h
  exact h
theorem lread_err {w : World} {mean : ExcName → Option Value} {mg mb : PySem.Str → Option Value} {dp un : Nat} {gd : Option (List Code)} {cn : PySem.Str} {cs : Scope} {a : Addr} {ccd : Value} {cl : List (PySem.Str × Addr)} {outer : List Env} {A₀ : Around} {base h₀ : Heap} {L : Addr} {m : PySem.Str → Option Value} {s : Shared} {Q E : Value → Shared → Prop} {news : List (Addr × Obj)} (B : Below A₀ base outer h₀) (F : Fr h₀ L s.heap m) (X : (Mine.hd.heap_1_39 w.params).In h₀) (T : Top Mine.hd.view_1_40 lo mean mg mb h₀) (hk : cs.kind = .function) (hdp : dp + 25 < recursionLimit) (hun : un + 250 < cLine) (N : News h₀ L s.heap news) {TX : PySem.Str} {u1 : Tok} {j : Nat} (hlen : TX.length ≤ 200) (has : ∀ x ∈ tl TX, x < 128) (hK : stepsR (tl TX) 0 = .error j)
  (ret : ∀ (t : Tok) (h' : Heap) (tk' : Nat), Fr h₀ L h' m → Q (.int (j : Int) t) { s with heap := h', toks := tk' }) : wpAny (model PySem.Challenge.rw_nn0359_01.row.prog w) (ktrTop dp un gd cn cs L a ccd cl outer) (call (.ref 362) [.str TX u1]) Q E s :=
  lread_ok B F X T hk hdp hun N hlen has (K := .error j) ((law_steps fun c hc => Nat.lt_trans (has c hc) (by decide)).trans hK) (fun j' t h' tk' e F' => by injection e with e; subst e; exact ret t h' tk' F') (fun _ _ _ _ _ _ _ e => by cases e)
theorem lread_good {w : World} {mean : ExcName → Option Value} {mg mb : PySem.Str → Option Value} {dp un : Nat} {gd : Option (List Code)} {cn : PySem.Str} {cs : Scope} {a : Addr} {ccd : Value} {cl : List (PySem.Str × Addr)} {outer : List Env} {A₀ : Around} {base h₀ : Heap} {L : Addr} {m : PySem.Str → Option Value} {s : Shared} {Q E : Value → Shared → Prop} {news : List (Addr × Obj)} (B : Below A₀ base outer h₀) (F : Fr h₀ L s.heap m) (X : (Mine.hd.heap_1_39 w.params).In h₀) (T : Top Mine.hd.view_1_40 lo mean mg mb h₀) (hk : cs.kind = .function) (hdp : dp + 25 < recursionLimit) (hun : un + 250 < cLine) (N : News h₀ L s.heap news) {TX : PySem.Str} {u1 : Tok} {l : Sts} (hlen : TX.length ≤ 200) (has : ∀ x ∈ tl TX, x < 128) (hK : stepsR (tl TX) 0 = .ok l)
  (ret : ∀ (sl : Addr) (ts : List (Addr × Obj)) (vs : List Value) (nn : Nat) (h' : Heap) (tk' : Nat), DatAll ts vs (l.map datSt) → Fr h₀ L h' m → News h₀ L h' ((sl, W.listOf vs.toArray nn) :: (ts ++ news)) → Q (.ref sl) { s with heap := h', toks := tk' }) : wpAny (model PySem.Challenge.rw_nn0359_01.row.prog w) (ktrTop dp un gd cn cs L a ccd cl outer) (call (.ref 362) [.str TX u1]) Q E s :=
  lread_ok B F X T hk hdp hun N hlen has (K := .ok l) ((law_steps fun c hc => Nat.lt_trans (has c hc) (by decide)).trans hK) (fun _ _ _ _ e => by cases e) (fun l' sl ts vs nn h' tk' e D F' N' => by injection e with e; subst e; exact ret sl ts vs nn h' tk' D F' N')
end Mine
end
section
theorem Mine.wr_Cur1 : True := by
  k_with_none
  k_with "call ref" => k_extra "call ref last"
  k_with "om" => with_reducible first | assumption | exact Nat.add_sub_cancel_left _ _ | exact Int.ofNat_lt.mpr (by assumption) | exact Int.ofNat_le.mpr (by assumption) | exact Int.ofNat_lt.mp (by assumption) | exact Int.ofNat_le.mp (by assumption) | exact o_lt (by assumption) | exact o_nlt (by assumption) | exact o_63 (by assumption) (by assumption) (by with_unfolding_all exact rfl) | exact o_s2 (by assumption) | exact o_s1 (by assumption) (by assumption) | exact o_s3 (by assumption) (by assumption) | exact o_mt (by assumption) | exact o_f1 (by assumption) | exact Nat.le_of_lt (by assumption) | exact Nat.not_le.mp (by assumption) | exact o_sub (by assumption) | exact o_big1 (by assumption) (by with_unfolding_all exact rfl) | exact Nat.le_trans (Nat.le_add_right _ _) (by assumption) | exact Int.natCast_nonneg _ | exact Nat.le_trans (by assumption) (by assumption) | exact o_big (by assumption) (by assumption) (by with_unfolding_all exact rfl) | exact o_ltM (by assumption) (by assumption) | exact o_tr (by assumption) (by assumption) (by assumption) | exact Nat.lt_of_lt_of_le (by assumption) (by assumption) | exact Nat.lt_of_le_of_lt (by assumption) (by assumption) | exact Nat.ne_of_lt (by assumption) | exact Nat.ne_of_gt (by assumption) | exact o_mm (by assumption) | exact o_mm2 (by assumption) (by assumption) | exact o_mn | exact o_ml (by assumption) (by assumption) | exact o_and (by assumption) | rfl
  k_with "kst" => k_extra "mine kst"
  k_with "kst" => k_extra "mine same3"
  k_with "ksw" => k_extra "mine ksw"
  k_with "ksw" => k_extra "mine same"
  k_with "mine enter" => (refine' code_def ?k1q249 ?k2q249 ?k3q249 ?k4q249 ?k5q249 ?kAq249 ?kFq249 ?kKq249 ?k6q249 ?k7q249 ?k8q249 ?k9q249 ?kBq249 ?_ ?c2q249 ?c3q249 ?c4q249 ?c5q249; (case kAq249 => exact rfl); (case kFq249 => exact rfl); (case kKq249 => first | exact rfl | assumption); (case k1q249 => k_asm); (case k2q249 => k_asm); (case k3q249 => k_asm); (case k4q249 => k_asm); (case k5q249 => k_asm); (case k6q249 => k_is); (case k7q249 => k_is); (case k8q249 => first | (refine' rm0 ?rhq249; (case rhq249 => assumption)) | (refine' rm1 ?rhq249 ?rlq249; (case rhq249 => assumption); (case rlq249 => exact rfl)) | (refine' rm2 ?rhq249 ?rlq249; (case rhq249 => assumption); (case rlq249 => exact rfl)) | ktr_room); (case k9q249 => first | exact BindsTo.of_eq rfl | exact binds_K (by k_in) rfl (by k_is) rfl rfl rfl); (case c5q249 => decide); (case kBq249 => exact locs rfl); (case c2q249 => exact rfl); (case c3q249 => exact rfl); (case c4q249 => exact rfl); k_whole; intro g' L' h' FG'; (refine (?_ : let mk := _; Fr _ _ _ mk → _)); intro mk F' N' B' X' T'; (refine (?_ : let nk := _; let ak := _; let qk := _; let ek := _; let sk := _; wpAny _ ak (execs _ nk) qk ek sk)); intro nk ak qk ek sk)
  k_with "subscriptTail Name Attribute str int" => ((with_reducible show wpAny _ _ (subscriptTail _ _ (Value.str _ _) (Value.int _ _)) _ _ _); refine item_str (fitsSsize_of (N := 9223372036854775808) (by omega) (by omega) (Int.le_refl _)) (by omega) (by omega) ?_; intro _)
  k_with "mine inline" => (k_dflt (first | (refine' call_cls ?k1q251 ?k2q251 ?k3q251 ?k4q251 ?k5q251 ?k6q251 ?_; (case k1q251 => k_asm); (case k2q251 => k_asm); (case k3q251 => k_asm); (case k4q251 => k_is); (case k5q251 => k_is); (case k6q251 => k_is); k_whole; intro x' d' h' F' N' l1 l2; (try k_lt l1); (try k_lt2 l2); (try k_sweep); walk_at "mine enter") | (refine wpAny_call ?_; walk_at "mine enter")))
  k_with "ite" => first | with_reducible refine ite_tt ?_ | with_reducible refine ite_ff ?_
  k_with "mine room" => first | (refine' rm2 ?rhq253 ?rlq253; (case rhq253 => assumption); (case rlq253 => exact rfl)) | decide +kernel | omega | (simp only [depth_deeper, units_deeper]; omega) | (dsimp only [ktrTop]; omega) | (dsimp only [Around.deeper, ktrTop]; omega) | ktr_room | ktr_units
  k_with "mine tail" => ((case zzB => k_asm); (case zzF => k_asm); (case zzX => k_asm); (case zzT => k_asm); (case zzN => k_asm); (case zzk => first | exact rfl | assumption); (case zzp => walk_at "mine room"); (case zzu => walk_at "mine room"))
  k_with "isTrue Compare" => (k_here; first | ((with_reducible show wpAny _ _ (isTrue (PySem.Expr.Compare (PySem.Expr.Name _ _) [PySem.CmpOp.Eq] [PySem.Expr.Constant (PySem.Const.str _) _ _] _) _ _) _ _ _); k_dflt (refine' tst_eq ?zaq255 ?zbq255 ?zcq255 ?zmq255 ?zFq255 ?zvq255 ?_; (case zFq255 => k_asm); (case zaq255 => rfl); (case zbq255 => rfl); (case zcq255 => decide); (case zvq255 => rfl); (case zmq255 => with_unfolding_all rfl); k_whole)) | ((with_reducible show wpAny _ _ (isTrue (PySem.Expr.Compare (PySem.Expr.Name _ _) [PySem.CmpOp.NotEq] [PySem.Expr.Constant (PySem.Const.str _) _ _] _) _ _) _ _ _); k_dflt (refine' tst_ne ?zaq255 ?zbq255 ?zcq255 ?zmq255 ?zFq255 ?zvq255 ?_; (case zFq255 => k_asm); (case zaq255 => rfl); (case zbq255 => rfl); (case zcq255 => decide); (case zvq255 => rfl); (case zmq255 => with_unfolding_all rfl); k_whole)))
  k_with "eval BinOp" => (k_here; (with_reducible show wpAny _ _ (eval (PySem.Expr.BinOp (PySem.Expr.Name _ _) PySem.Operator.Add (PySem.Expr.Constant (PySem.Const.int _) _ _) _) _) _ _ _); k_dflt (refine' add_nc ?zaq256 ?zbq256 ?zcq256 ?zFq256 ?zvq256 ?_; (case zFq256 => k_asm); (case zaq256 => rfl); (case zbq256 => rfl); (case zcq256 => decide); (case zvq256 => rfl); k_whole))
  k_with "mine steps" => repeat' (first | ((first | (fail_if_success (fail_if_success k_unfold)) | (fail_if_success (fail_if_success k_fold))); (refine (?_ : let qk := _; let sk := _; wpAny _ _ _ qk _ sk)); intro qk sk) | ((fail_if_success (fail_if_success k_unfold)); (refine (?_ : let sk := _; LeaveK _ _ _ _ _ _ sk)); intro sk) | (k_unfold; (try dsimp only)) | walk1 | (k_end; wrow_close) | (dsimp only [List.nil_append, List.cons_append]; walk1) | (leave1; (try dsimp only)) | fail "no step")
  k_with "execs cons" => (with_reducible refine wpAny_execs_cons ?_)
  k_with "eval Name" => (k_dflt (refine' nmL ?zaq259 ?zbq259 ?zdq259 ?zFq259 ?zvq259 ?_; (case zFq259 => k_asm); (case zaq259 => rfl); (case zbq259 => rfl); (case zvq259 => rfl); (case zdq259 => decide); k_whole))
  k_with "storeName" => (k_dflt (refine' stL ?zaq260 ?zbq260 ?zFq260 ?zNq260 ?_; (case zFq260 => k_asm); (case zNq260 => k_asm); (case zaq260 => rfl); (case zbq260 => rfl); k_whole; intro h' mk F' N'; (try k_sweep)))
  k_with "LeaveK" => (k_dflt (refine' leaveK_ ?k1q261 ?k2q261 ?_; (case k1q261 => k_asm); (case k2q261 => k_asm); k_whole); intro kF kN; (try dsimp only [InitBack]); (try refine ⟨rfl, ?_⟩))
  k_with "mine kst" => (intro z h1 h2 h3; (try dsimp +zetaDelta only [kstB]); (try simp only [List.forall_mem_cons, List.not_mem_nil, false_implies, implies_true, and_true, ne_eq] at h2); first | rfl | (simp [h1]; done) | (simp [h1, h2]; done) | ((try simp only [List.contains_cons, List.contains_nil, Bool.or_false, Bool.or_eq_false_iff, beq_eq_false_iff_ne, ne_eq] at h3); first | (simp [h1, h3]; done) | (simp [h1, h2, h3]; done)))
  k_with "mine same3" => (k_dflt (refine sn_end3 ?_; (repeat (first | (with_reducible exact sn_refl) | (refine' sn_in ?_ ?hpq263 ?hsq263; (case hpq263 => exact rfl); (case hsq263 => exact rfl)) | (refine' sn_upd ?_ ?hxq263; (case hxq263 => exact rfl)))); done))
  k_with "mine ksw" => (intro z h2 h3; (try dsimp +zetaDelta only [kstB]); (try simp only [List.forall_mem_cons, List.not_mem_nil, false_implies, implies_true, and_true, ne_eq] at h2); (try simp only [List.contains_cons, List.contains_nil, Bool.or_false, Bool.or_eq_false_iff, beq_eq_false_iff_ne, ne_eq] at h3); first | rfl | (simp [h2]; done) | (simp [h3]; done) | (simp [h2, h3]; done))
  k_with "mine same" => (k_dflt (refine sn_end ?_; (repeat (first | (with_reducible exact sn_refl) | (refine' sn_in ?_ ?hpq265 ?hsq265; (case hpq265 => exact rfl); (case hsq265 => exact rfl)) | (refine' sn_upd ?_ ?hxq265; (case hxq265 => exact rfl)))); done))
  w_top off
  trivial
namespace Mine
set_option maxHeartbeats 8000000 in
theorem is_done_ok {w : World} {mean : ExcName → Option Value} {mg mb : PySem.Str → Option Value} {dp un : Nat} {gd : Option (List Code)} {cn : PySem.Str} {cs : Scope} {a : Addr} {ccd : Value} {cl : List (PySem.Str × Addr)} {outer : List Env} {A₀ : Around} {base h₀ : Heap} {L : Addr} {m : PySem.Str → Option Value} {s : Shared} {Q E : Value → Shared → Prop} {news : List (Addr × Obj)} (B : Below A₀ base outer h₀) (F : Fr h₀ L s.heap m) (X : (Mine.hd.heap_1_39 w.params).In h₀) (T : Top Mine.hd.view_1_40 lo mean mg mb h₀) (hk : cs.kind = .function) (hdp : dp + 5 < recursionLimit) (hun : un + 50 < cLine) (N : News h₀ L s.heap news) {h1 h2 : Int} {t1 t2 t3 t4 : Tok} {TX : PySem.Str} {n : Nat} {c d : Addr} {R : List Nat} (hc : (c, instObj 222 d) ∈ news) (hd : (d, curD h1 h2 t1 t2 t3 TX n t4) ∈ news) (hlen : TX.length ≤ 100000) (hR : (tl TX).drop n = R)
  (ret : ∀ (t : Tok) (h' : Heap) (tk' : Nat), Fr h₀ L h' m → News h₀ L h' news → Q (.bool (R.isEmpty)) { s with heap := h', toks := tk' }) : wpAny (model PySem.Challenge.rw_nn0359_01.row.prog w) (ktrTop dp un gd cn cs L a ccd cl outer) (call (.ref 119) [.ref c]) Q E s := by
  (k_with "call ref last" => (k_dflt (refine wpAny_call ?_; walk_at "mine enter")))
  refine wpAny_call ?_
  k_dflt walk_at "mine enter"
  walk_at "mine steps"
  rw [done_is hR]
  exact ret 0 _ _ (by assumption) (by assumption)
set_option maxHeartbeats 8000000 in
theorem peek_ok {w : World} {mean : ExcName → Option Value} {mg mb : PySem.Str → Option Value} {dp un : Nat} {gd : Option (List Code)} {cn : PySem.Str} {cs : Scope} {a : Addr} {ccd : Value} {cl : List (PySem.Str × Addr)} {outer : List Env} {A₀ : Around} {base h₀ : Heap} {L : Addr} {m : PySem.Str → Option Value} {s : Shared} {Q E : Value → Shared → Prop} {news : List (Addr × Obj)} (B : Below A₀ base outer h₀) (F : Fr h₀ L s.heap m) (X : (Mine.hd.heap_1_39 w.params).In h₀) (T : Top Mine.hd.view_1_40 lo mean mg mb h₀) (hk : cs.kind = .function) (hdp : dp + 5 < recursionLimit) (hun : un + 50 < cLine) (N : News h₀ L s.heap news) {h1 h2 : Int} {t1 t2 t3 t4 : Tok} {TX : PySem.Str} {n : Nat} {c d : Addr} {R : List Nat} (hc : (c, instObj 222 d) ∈ news) (hd : (d, curD h1 h2 t1 t2 t3 TX n t4) ∈ news) (hlen : TX.length ≤ 100000) (hR : (tl TX).drop n = R) {x : Nat} {r : List Nat} (hx : R = x :: r)
  (ret : ∀ (t : Tok) (h' : Heap) (tk' : Nat), Fr h₀ L h' m → News h₀ L h' news → Q (.str ⟨#[x]⟩ t) { s with heap := h', toks := tk' }) : wpAny (model PySem.Challenge.rw_nn0359_01.row.prog w) (ktrTop dp un gd cn cs L a ccd cl outer) (call (.ref 127) [.ref c]) Q E s := by
  subst hx
  have hlt := pos_le hR
  (k_with "call ref last" => (k_dflt (refine wpAny_call ?_; walk_at "mine enter")))
  refine wpAny_call ?_
  k_dflt walk_at "mine enter"
  walk_at "mine steps"
  rw [Int.add_zero, item_drop TX hR]
  exact ret _ _ _ (by assumption) (by assumption)
set_option maxHeartbeats 8000000 in
theorem peekE_ok {w : World} {mean : ExcName → Option Value} {mg mb : PySem.Str → Option Value} {dp un : Nat} {gd : Option (List Code)} {cn : PySem.Str} {cs : Scope} {a : Addr} {ccd : Value} {cl : List (PySem.Str × Addr)} {outer : List Env} {A₀ : Around} {base h₀ : Heap} {L : Addr} {m : PySem.Str → Option Value} {s : Shared} {Q E : Value → Shared → Prop} {news : List (Addr × Obj)} (B : Below A₀ base outer h₀) (F : Fr h₀ L s.heap m) (X : (Mine.hd.heap_1_39 w.params).In h₀) (T : Top Mine.hd.view_1_40 lo mean mg mb h₀) (hk : cs.kind = .function) (hdp : dp + 5 < recursionLimit) (hun : un + 50 < cLine) (N : News h₀ L s.heap news) {h1 h2 : Int} {t1 t2 t3 t4 : Tok} {TX : PySem.Str} {n : Nat} {c d : Addr} {R : List Nat} (hc : (c, instObj 222 d) ∈ news) (hd : (d, curD h1 h2 t1 t2 t3 TX n t4) ∈ news) (hlen : TX.length ≤ 100000) (hR : (tl TX).drop n = R) (hx : R = [])
  (ret : ∀ (t : Tok) (h' : Heap) (tk' : Nat), Fr h₀ L h' m → News h₀ L h' news → Q (.str (PySem.Str.ofString "") t) { s with heap := h', toks := tk' }) : wpAny (model PySem.Challenge.rw_nn0359_01.row.prog w) (ktrTop dp un gd cn cs L a ccd cl outer) (call (.ref 127) [.ref c]) Q E s := by
  subst hx
  have hlt := pos_ge hR
  (k_with "call ref last" => (k_dflt (refine wpAny_call ?_; walk_at "mine enter")))
  refine wpAny_call ?_
  k_dflt walk_at "mine enter"
  walk_at "mine steps"
  exact ret _ _ _ (by assumption) (by assumption)
set_option maxHeartbeats 8000000 in
theorem peek1_ok {w : World} {mean : ExcName → Option Value} {mg mb : PySem.Str → Option Value} {dp un : Nat} {gd : Option (List Code)} {cn : PySem.Str} {cs : Scope} {a : Addr} {ccd : Value} {cl : List (PySem.Str × Addr)} {outer : List Env} {A₀ : Around} {base h₀ : Heap} {L : Addr} {m : PySem.Str → Option Value} {s : Shared} {Q E : Value → Shared → Prop} {news : List (Addr × Obj)} (B : Below A₀ base outer h₀) (F : Fr h₀ L s.heap m) (X : (Mine.hd.heap_1_39 w.params).In h₀) (T : Top Mine.hd.view_1_40 lo mean mg mb h₀) (hk : cs.kind = .function) (hdp : dp + 5 < recursionLimit) (hun : un + 50 < cLine) (N : News h₀ L s.heap news) {h1 h2 : Int} {t1 t2 t3 t4 : Tok} {TX : PySem.Str} {n : Nat} {c d : Addr} {R : List Nat} (hc : (c, instObj 222 d) ∈ news) (hd : (d, curD h1 h2 t1 t2 t3 TX n t4) ∈ news) (hlen : TX.length ≤ 100000) (hR : (tl TX).drop n = R) {y x : Nat} {r : List Nat} {u : Tok} (hx : R = y :: x :: r)
  (ret : ∀ (t : Tok) (h' : Heap) (tk' : Nat), Fr h₀ L h' m → News h₀ L h' news → Q (.str ⟨#[x]⟩ t) { s with heap := h', toks := tk' }) : wpAny (model PySem.Challenge.rw_nn0359_01.row.prog w) (ktrTop dp un gd cn cs L a ccd cl outer) (call (.ref 127) [.ref c, .int 1 u]) Q E s := by
  subst hx
  have hR1 := (drop_cons_get hR).2
  have hlt := pos_le hR1
  (k_with "call ref last" => (k_dflt (refine wpAny_call ?_; walk_at "mine enter")))
  refine wpAny_call ?_
  k_dflt walk_at "mine enter"
  walk_at "mine steps"
  rw [show (n : Int) + 1 = ((n + 1 : Nat) : Int) by omega, item_drop TX hR1]
  exact ret _ _ _ (by assumption) (by assumption)
set_option maxHeartbeats 8000000 in
theorem peek1E_ok {w : World} {mean : ExcName → Option Value} {mg mb : PySem.Str → Option Value} {dp un : Nat} {gd : Option (List Code)} {cn : PySem.Str} {cs : Scope} {a : Addr} {ccd : Value} {cl : List (PySem.Str × Addr)} {outer : List Env} {A₀ : Around} {base h₀ : Heap} {L : Addr} {m : PySem.Str → Option Value} {s : Shared} {Q E : Value → Shared → Prop} {news : List (Addr × Obj)} (B : Below A₀ base outer h₀) (F : Fr h₀ L s.heap m) (X : (Mine.hd.heap_1_39 w.params).In h₀) (T : Top Mine.hd.view_1_40 lo mean mg mb h₀) (hk : cs.kind = .function) (hdp : dp + 5 < recursionLimit) (hun : un + 50 < cLine) (N : News h₀ L s.heap news) {h1 h2 : Int} {t1 t2 t3 t4 : Tok} {TX : PySem.Str} {n : Nat} {c d : Addr} {R : List Nat} (hc : (c, instObj 222 d) ∈ news) (hd : (d, curD h1 h2 t1 t2 t3 TX n t4) ∈ news) (hlen : TX.length ≤ 100000) (hR : (tl TX).drop n = R) {y : Nat} {u : Tok} (hx : R = [y])
  (ret : ∀ (t : Tok) (h' : Heap) (tk' : Nat), Fr h₀ L h' m → News h₀ L h' news → Q (.str (PySem.Str.ofString "") t) { s with heap := h', toks := tk' }) : wpAny (model PySem.Challenge.rw_nn0359_01.row.prog w) (ktrTop dp un gd cn cs L a ccd cl outer) (call (.ref 127) [.ref c, .int 1 u]) Q E s := by
  subst hx
  have hR1 := (drop_cons_get hR).2
  have hlt := pos_ge hR1
  (k_with "call ref last" => (k_dflt (refine wpAny_call ?_; walk_at "mine enter")))
  refine wpAny_call ?_
  k_dflt walk_at "mine enter"
  walk_at "mine steps"
  exact ret _ _ _ (by assumption) (by assumption)
set_option maxHeartbeats 8000000 in
theorem take_ok {w : World} {mean : ExcName → Option Value} {mg mb : PySem.Str → Option Value} {dp un : Nat} {gd : Option (List Code)} {cn : PySem.Str} {cs : Scope} {a : Addr} {ccd : Value} {cl : List (PySem.Str × Addr)} {outer : List Env} {A₀ : Around} {base h₀ : Heap} {L : Addr} {m : PySem.Str → Option Value} {s : Shared} {Q E : Value → Shared → Prop} {news : List (Addr × Obj)} (B : Below A₀ base outer h₀) (F : Fr h₀ L s.heap m) (X : (Mine.hd.heap_1_39 w.params).In h₀) (T : Top Mine.hd.view_1_40 lo mean mg mb h₀) (hk : cs.kind = .function) (hdp : dp + 5 < recursionLimit) (hun : un + 50 < cLine) (N : News h₀ L s.heap news) {h1 h2 : Int} {t1 t2 t3 t4 : Tok} {TX : PySem.Str} {n : Nat} {c d : Addr} {R : List Nat} {gg : Obj → List (Addr × Obj)} (hc : (c, instObj 222 d) ∈ news) (U : UpdF d (curD h1 h2 t1 t2 t3 TX n t4) news gg) (hlen : TX.length ≤ 100000) (hR : (tl TX).drop n = R) {x : Nat} {r : List Nat} (hx : R = x :: r)
  (ret : ∀ (t t' : Tok) (h' : Heap) (tk' : Nat), Fr h₀ L h' m → News h₀ L h' (gg (curD h1 h2 t1 t2 t3 TX ((n + 1 : Nat) : Int) t')) → Q (.str ⟨#[x]⟩ t) { s with heap := h', toks := tk' }) : wpAny (model PySem.Challenge.rw_nn0359_01.row.prog w) (ktrTop dp un gd cn cs L a ccd cl outer) (call (.ref 141) [.ref c]) Q E s := by
  subst hx
  have hlt := pos_le hR
  have hcd := cur_ne N hc (upd_mem U)
  obtain ⟨rest, hr1, hr2, hr3⟩ := news_turn U
  have N2 := cur_news N hc hr2
  clear N
  (k_with "call ref last" => (k_dflt (refine wpAny_call ?_; walk_at "mine enter")))
  refine wpAny_call ?_
  k_dflt walk_at "mine enter"
  walk_at "mine steps"
  rw [item_drop TX hR]
  exact ret _ _ _ _ (by assumption) (cur_back hr3 (by assumption))
end Mine
theorem Mine.kw_Cur1_1 : True := by
  k_with "call ref" => (k_dflt (show wpAny _ _ (call (Value.ref 119) [_]) _ _ _); k_dflt (refine' is_done_ok ?zzB ?zzF ?zzX ?zzT ?zzk ?zzp ?zzu ?zzN ?zzhc ?zzhd ?zzhl ?zzhR ?_; walk_at "mine tail"; (case zzhc => k_mem); (case zzhd => k_mem); (case zzhl => assumption); (case zzhR => assumption)); (intro _ h' tk' F' N'); (try simp only [List.isEmpty_cons, List.isEmpty_nil]))
  k_with "call ref" => (k_dflt (show wpAny _ _ (call (Value.ref 127) [_]) _ _ _); k_dflt (refine' peek_ok ?zzB ?zzF ?zzX ?zzT ?zzk ?zzp ?zzu ?zzN ?zzhc ?zzhd ?zzhl ?zzhR ?zzhx ?_; walk_at "mine tail"; (case zzhc => k_mem); (case zzhd => k_mem); (case zzhl => assumption); (case zzhR => assumption); (case zzhx => exact rfl)); intro _ h' tk' F' N')
  k_with "call ref" => (k_dflt (show wpAny _ _ (call (Value.ref 127) [_]) _ _ _); k_dflt (refine' peekE_ok ?zzB ?zzF ?zzX ?zzT ?zzk ?zzp ?zzu ?zzN ?zzhc ?zzhd ?zzhl ?zzhR ?zzhx ?_; walk_at "mine tail"; (case zzhc => k_mem); (case zzhd => k_mem); (case zzhl => assumption); (case zzhR => assumption); (case zzhx => exact rfl)); intro _ h' tk' F' N')
  k_with "call ref" => (k_dflt (show wpAny _ _ (call (Value.ref 127) [_, _]) _ _ _); k_dflt (refine' peek1_ok ?zzB ?zzF ?zzX ?zzT ?zzk ?zzp ?zzu ?zzN ?zzhc ?zzhd ?zzhl ?zzhR ?zzhx ?_; walk_at "mine tail"; (case zzhc => k_mem); (case zzhd => k_mem); (case zzhl => assumption); (case zzhR => assumption); (case zzhx => exact rfl)); intro _ h' tk' F' N')
  k_with "call ref" => (k_dflt (show wpAny _ _ (call (Value.ref 127) [_, _]) _ _ _); k_dflt (refine' peek1E_ok ?zzB ?zzF ?zzX ?zzT ?zzk ?zzp ?zzu ?zzN ?zzhc ?zzhd ?zzhl ?zzhR ?zzhx ?_; walk_at "mine tail"; (case zzhc => k_mem); (case zzhd => k_mem); (case zzhl => assumption); (case zzhR => assumption); (case zzhx => exact rfl)); intro _ h' tk' F' N')
  k_with "call ref" => (k_dflt (show wpAny _ _ (call (Value.ref 141) [_]) _ _ _); k_dflt (refine' take_ok ?zzB ?zzF ?zzX ?zzT ?zzk ?zzp ?zzu ?zzN ?zzhc ?zzU ?zzhl ?zzhR ?zzhx ?_; walk_at "mine tail"; (case zzhc => k_mem); (case zzU => k_updF); (case zzhl => assumption); (case zzhR => assumption); (case zzhx => exact rfl)); intro _ _ h' tk' F' N')
  trivial
end
section
theorem Mine.wr_Cur2 : True := by
  k_with_none
  k_with "call ref" => k_extra "call ref last"
  k_with "om" => with_reducible first | assumption | exact Nat.add_sub_cancel_left _ _ | exact Int.ofNat_lt.mpr (by assumption) | exact Int.ofNat_le.mpr (by assumption) | exact Int.ofNat_lt.mp (by assumption) | exact Int.ofNat_le.mp (by assumption) | exact o_lt (by assumption) | exact o_nlt (by assumption) | exact o_63 (by assumption) (by assumption) (by with_unfolding_all exact rfl) | exact o_s2 (by assumption) | exact o_s1 (by assumption) (by assumption) | exact o_s3 (by assumption) (by assumption) | exact o_mt (by assumption) | exact o_f1 (by assumption) | exact Nat.le_of_lt (by assumption) | exact Nat.not_le.mp (by assumption) | exact o_sub (by assumption) | exact o_big1 (by assumption) (by with_unfolding_all exact rfl) | exact Nat.le_trans (Nat.le_add_right _ _) (by assumption) | exact Int.natCast_nonneg _ | exact Nat.le_trans (by assumption) (by assumption) | exact o_big (by assumption) (by assumption) (by with_unfolding_all exact rfl) | exact o_ltM (by assumption) (by assumption) | exact o_tr (by assumption) (by assumption) (by assumption) | exact Nat.lt_of_lt_of_le (by assumption) (by assumption) | exact Nat.lt_of_le_of_lt (by assumption) (by assumption) | exact Nat.ne_of_lt (by assumption) | exact Nat.ne_of_gt (by assumption) | exact o_mm (by assumption) | exact o_mm2 (by assumption) (by assumption) | exact o_mn | exact o_ml (by assumption) (by assumption) | exact o_and (by assumption) | rfl
  k_with "kst" => k_extra "mine kst"
  k_with "kst" => k_extra "mine same3"
  k_with "ksw" => k_extra "mine ksw"
  k_with "ksw" => k_extra "mine same"
  k_with "mine enter" => (refine' code_def ?k1q269 ?k2q269 ?k3q269 ?k4q269 ?k5q269 ?kAq269 ?kFq269 ?kKq269 ?k6q269 ?k7q269 ?k8q269 ?k9q269 ?kBq269 ?_ ?c2q269 ?c3q269 ?c4q269 ?c5q269; (case kAq269 => exact rfl); (case kFq269 => exact rfl); (case kKq269 => first | exact rfl | assumption); (case k1q269 => k_asm); (case k2q269 => k_asm); (case k3q269 => k_asm); (case k4q269 => k_asm); (case k5q269 => k_asm); (case k6q269 => k_is); (case k7q269 => k_is); (case k8q269 => first | (refine' rm0 ?rhq269; (case rhq269 => assumption)) | (refine' rm1 ?rhq269 ?rlq269; (case rhq269 => assumption); (case rlq269 => exact rfl)) | (refine' rm2 ?rhq269 ?rlq269; (case rhq269 => assumption); (case rlq269 => exact rfl)) | ktr_room); (case k9q269 => first | exact BindsTo.of_eq rfl | exact binds_K (by k_in) rfl (by k_is) rfl rfl rfl); (case c5q269 => decide); (case kBq269 => exact locs rfl); (case c2q269 => exact rfl); (case c3q269 => exact rfl); (case c4q269 => exact rfl); k_whole; intro g' L' h' FG'; (refine (?_ : let mk := _; Fr _ _ _ mk → _)); intro mk F' N' B' X' T'; (refine (?_ : let nk := _; let ak := _; let qk := _; let ek := _; let sk := _; wpAny _ ak (execs _ nk) qk ek sk)); intro nk ak qk ek sk)
  k_with "subscriptTail Name Attribute str int" => ((with_reducible show wpAny _ _ (subscriptTail _ _ (Value.str _ _) (Value.int _ _)) _ _ _); refine item_str (fitsSsize_of (N := 9223372036854775808) (by omega) (by omega) (Int.le_refl _)) (by omega) (by omega) ?_; intro _)
  k_with "mine inline" => (k_dflt (first | (refine' call_cls ?k1q271 ?k2q271 ?k3q271 ?k4q271 ?k5q271 ?k6q271 ?_; (case k1q271 => k_asm); (case k2q271 => k_asm); (case k3q271 => k_asm); (case k4q271 => k_is); (case k5q271 => k_is); (case k6q271 => k_is); k_whole; intro x' d' h' F' N' l1 l2; (try k_lt l1); (try k_lt2 l2); (try k_sweep); walk_at "mine enter") | (refine wpAny_call ?_; walk_at "mine enter")))
  k_with "ite" => first | with_reducible refine ite_tt ?_ | with_reducible refine ite_ff ?_
  k_with "mine room" => first | (refine' rm2 ?rhq273 ?rlq273; (case rhq273 => assumption); (case rlq273 => exact rfl)) | decide +kernel | omega | (simp only [depth_deeper, units_deeper]; omega) | (dsimp only [ktrTop]; omega) | (dsimp only [Around.deeper, ktrTop]; omega) | ktr_room | ktr_units
  k_with "mine tail" => ((case zzB => k_asm); (case zzF => k_asm); (case zzX => k_asm); (case zzT => k_asm); (case zzN => k_asm); (case zzk => first | exact rfl | assumption); (case zzp => walk_at "mine room"); (case zzu => walk_at "mine room"))
  k_with "isTrue Compare" => (k_here; first | ((with_reducible show wpAny _ _ (isTrue (PySem.Expr.Compare (PySem.Expr.Name _ _) [PySem.CmpOp.Eq] [PySem.Expr.Constant (PySem.Const.str _) _ _] _) _ _) _ _ _); k_dflt (refine' tst_eq ?zaq275 ?zbq275 ?zcq275 ?zmq275 ?zFq275 ?zvq275 ?_; (case zFq275 => k_asm); (case zaq275 => rfl); (case zbq275 => rfl); (case zcq275 => decide); (case zvq275 => rfl); (case zmq275 => with_unfolding_all rfl); k_whole)) | ((with_reducible show wpAny _ _ (isTrue (PySem.Expr.Compare (PySem.Expr.Name _ _) [PySem.CmpOp.NotEq] [PySem.Expr.Constant (PySem.Const.str _) _ _] _) _ _) _ _ _); k_dflt (refine' tst_ne ?zaq275 ?zbq275 ?zcq275 ?zmq275 ?zFq275 ?zvq275 ?_; (case zFq275 => k_asm); (case zaq275 => rfl); (case zbq275 => rfl); (case zcq275 => decide); (case zvq275 => rfl); (case zmq275 => with_unfolding_all rfl); k_whole)))
  k_with "eval BinOp" => (k_here; (with_reducible show wpAny _ _ (eval (PySem.Expr.BinOp (PySem.Expr.Name _ _) PySem.Operator.Add (PySem.Expr.Constant (PySem.Const.int _) _ _) _) _) _ _ _); k_dflt (refine' add_nc ?zaq276 ?zbq276 ?zcq276 ?zFq276 ?zvq276 ?_; (case zFq276 => k_asm); (case zaq276 => rfl); (case zbq276 => rfl); (case zcq276 => decide); (case zvq276 => rfl); k_whole))
  k_with "mine steps" => repeat' (first | ((first | (fail_if_success (fail_if_success k_unfold)) | (fail_if_success (fail_if_success k_fold))); (refine (?_ : let qk := _; let sk := _; wpAny _ _ _ qk _ sk)); intro qk sk) | ((fail_if_success (fail_if_success k_unfold)); (refine (?_ : let sk := _; LeaveK _ _ _ _ _ _ sk)); intro sk) | (k_unfold; (try dsimp only)) | walk1 | (k_end; wrow_close) | (dsimp only [List.nil_append, List.cons_append]; walk1) | (leave1; (try dsimp only)) | fail "no step")
  k_with "execs cons" => (with_reducible refine wpAny_execs_cons ?_)
  k_with "eval Name" => (k_dflt (refine' nmL ?zaq279 ?zbq279 ?zdq279 ?zFq279 ?zvq279 ?_; (case zFq279 => k_asm); (case zaq279 => rfl); (case zbq279 => rfl); (case zvq279 => rfl); (case zdq279 => decide); k_whole))
  k_with "storeName" => (k_dflt (refine' stL ?zaq280 ?zbq280 ?zFq280 ?zNq280 ?_; (case zFq280 => k_asm); (case zNq280 => k_asm); (case zaq280 => rfl); (case zbq280 => rfl); k_whole; intro h' mk F' N'; (try k_sweep)))
  k_with "LeaveK" => (k_dflt (refine' leaveK_ ?k1q281 ?k2q281 ?_; (case k1q281 => k_asm); (case k2q281 => k_asm); k_whole); intro kF kN; (try dsimp only [InitBack]); (try refine ⟨rfl, ?_⟩))
  k_with "mine kst" => (intro z h1 h2 h3; (try dsimp +zetaDelta only [kstB]); (try simp only [List.forall_mem_cons, List.not_mem_nil, false_implies, implies_true, and_true, ne_eq] at h2); first | rfl | (simp [h1]; done) | (simp [h1, h2]; done) | ((try simp only [List.contains_cons, List.contains_nil, Bool.or_false, Bool.or_eq_false_iff, beq_eq_false_iff_ne, ne_eq] at h3); first | (simp [h1, h3]; done) | (simp [h1, h2, h3]; done)))
  k_with "mine same3" => (k_dflt (refine sn_end3 ?_; (repeat (first | (with_reducible exact sn_refl) | (refine' sn_in ?_ ?hpq283 ?hsq283; (case hpq283 => exact rfl); (case hsq283 => exact rfl)) | (refine' sn_upd ?_ ?hxq283; (case hxq283 => exact rfl)))); done))
  k_with "mine ksw" => (intro z h2 h3; (try dsimp +zetaDelta only [kstB]); (try simp only [List.forall_mem_cons, List.not_mem_nil, false_implies, implies_true, and_true, ne_eq] at h2); (try simp only [List.contains_cons, List.contains_nil, Bool.or_false, Bool.or_eq_false_iff, beq_eq_false_iff_ne, ne_eq] at h3); first | rfl | (simp [h2]; done) | (simp [h3]; done) | (simp [h2, h3]; done))
  k_with "mine same" => (k_dflt (refine sn_end ?_; (repeat (first | (with_reducible exact sn_refl) | (refine' sn_in ?_ ?hpq285 ?hsq285; (case hpq285 => exact rfl); (case hsq285 => exact rfl)) | (refine' sn_upd ?_ ?hxq285; (case hxq285 => exact rfl)))); done))
  w_top off
  trivial
namespace Mine
set_option maxHeartbeats 8000000 in
theorem skip_yes {w : World} {mean : ExcName → Option Value} {mg mb : PySem.Str → Option Value} {dp un : Nat} {gd : Option (List Code)} {cn : PySem.Str} {cs : Scope} {a : Addr} {ccd : Value} {cl : List (PySem.Str × Addr)} {outer : List Env} {A₀ : Around} {base h₀ : Heap} {L : Addr} {m : PySem.Str → Option Value} {s : Shared} {Q E : Value → Shared → Prop} {news : List (Addr × Obj)} (B : Below A₀ base outer h₀) (F : Fr h₀ L s.heap m) (X : (Mine.hd.heap_1_39 w.params).In h₀) (T : Top Mine.hd.view_1_40 lo mean mg mb h₀) (hk : cs.kind = .function) (hdp : dp + 5 < recursionLimit) (hun : un + 50 < cLine) (N : News h₀ L s.heap news) {h1 h2 : Int} {t1 t2 t3 t4 : Tok} {TX : PySem.Str} {n : Nat} {c d : Addr} {R : List Nat} {gg : Obj → List (Addr × Obj)} (hc : (c, instObj 222 d) ∈ news) (U : UpdF d (curD h1 h2 t1 t2 t3 TX n t4) news gg) (hlen : TX.length ≤ 100000) (hR : (tl TX).drop n = R) {x : Nat} {r : List Nat} {wd : PySem.Str} {u : Tok} (hx : R = x :: r) (hw : tl wd = [x])
  (ret : ∀ (t t' : Tok) (h' : Heap) (tk' : Nat), Fr h₀ L h' m → News h₀ L h' (gg (curD h1 h2 t1 t2 t3 TX ((n + 1 : Nat) : Int) t')) → Q (.bool true) { s with heap := h', toks := tk' }) : wpAny (model PySem.Challenge.rw_nn0359_01.row.prog w) (ktrTop dp un gd cn cs L a ccd cl outer) (call (.ref 148) [.ref c, .str wd u]) Q E s := by
  have hsk := skip_at hR hw
  subst hx
  simp only [List.head?_cons, decide_true] at hsk
  have hlt := pos_le hR
  have hcd := cur_ne N hc (upd_mem U)
  obtain ⟨rest, hr1, hr2, hr3⟩ := news_turn U
  have N2 := cur_news N hc hr2
  have hwl : wd.length = 1 := by rw [len_tl, hw]; rfl
  clear N
  rw [show ((n + 1 : Nat) : Int) = (n : Int) + (wd.length : Int) by rw [hwl]; rfl] at ret
  (k_with "call ref last" => (k_dflt (refine wpAny_call ?_; walk_at "mine enter")))
  refine wpAny_call ?_
  k_dflt walk_at "mine enter"
  walk_at "mine steps"
  exact ret 0 _ _ _ (by assumption) (cur_back hr3 (by assumption))
set_option maxHeartbeats 8000000 in
theorem skip_no {w : World} {mean : ExcName → Option Value} {mg mb : PySem.Str → Option Value} {dp un : Nat} {gd : Option (List Code)} {cn : PySem.Str} {cs : Scope} {a : Addr} {ccd : Value} {cl : List (PySem.Str × Addr)} {outer : List Env} {A₀ : Around} {base h₀ : Heap} {L : Addr} {m : PySem.Str → Option Value} {s : Shared} {Q E : Value → Shared → Prop} {news : List (Addr × Obj)} (B : Below A₀ base outer h₀) (F : Fr h₀ L s.heap m) (X : (Mine.hd.heap_1_39 w.params).In h₀) (T : Top Mine.hd.view_1_40 lo mean mg mb h₀) (hk : cs.kind = .function) (hdp : dp + 5 < recursionLimit) (hun : un + 50 < cLine) (N : News h₀ L s.heap news) {h1 h2 : Int} {t1 t2 t3 t4 : Tok} {TX : PySem.Str} {n : Nat} {c d : Addr} {R : List Nat} (hc : (c, instObj 222 d) ∈ news) (hd : (d, curD h1 h2 t1 t2 t3 TX n t4) ∈ news) (hlen : TX.length ≤ 100000) (hR : (tl TX).drop n = R) {q : Nat} {wd : PySem.Str} {u : Tok} (hx : ¬ R.head? = some q) (hw : tl wd = [q])
  (ret : ∀ (t : Tok) (h' : Heap) (tk' : Nat), Fr h₀ L h' m → News h₀ L h' news → Q (.bool false) { s with heap := h', toks := tk' }) : wpAny (model PySem.Challenge.rw_nn0359_01.row.prog w) (ktrTop dp un gd cn cs L a ccd cl outer) (call (.ref 148) [.ref c, .str wd u]) Q E s := by
  have hsk := skip_at hR hw
  rw [decide_eq_false hx] at hsk
  have hwl : wd.length = 1 := by rw [len_tl, hw]; rfl
  (k_with "call ref last" => (k_dflt (refine wpAny_call ?_; walk_at "mine enter")))
  refine wpAny_call ?_
  k_dflt walk_at "mine enter"
  walk_at "mine steps"
  exact ret 0 _ _ (by assumption) (by assumption)
set_option maxHeartbeats 8000000 in
theorem take_while_ok {w : World} {mean : ExcName → Option Value} {mg mb : PySem.Str → Option Value} {dp un : Nat} {gd : Option (List Code)} {cn : PySem.Str} {cs : Scope} {a : Addr} {ccd : Value} {cl : List (PySem.Str × Addr)} {outer : List Env} {A₀ : Around} {base h₀ : Heap} {L : Addr} {m : PySem.Str → Option Value} {s : Shared} {Q E : Value → Shared → Prop} {news : List (Addr × Obj)} (B : Below A₀ base outer h₀) (F : Fr h₀ L s.heap m) (X : (Mine.hd.heap_1_39 w.params).In h₀) (T : Top Mine.hd.view_1_40 lo mean mg mb h₀) (hk : cs.kind = .function) (hdp : dp + 5 < recursionLimit) (hun : un + 50 < cLine) (N : News h₀ L s.heap news) {h1 h2 : Int} {t1 t2 t3 t4 : Tok} {TX : PySem.Str} {n : Nat} {c d : Addr} {R : List Nat} {gg : Obj → List (Addr × Obj)} (hc : (c, instObj 222 d) ∈ news) (U : UpdF d (curD h1 h2 t1 t2 t3 TX n t4) news gg) (hlen : TX.length ≤ 100000) (hR : (tl TX).drop n = R) {wd : PySem.Str} {u : Tok} (hn : n ≤ TX.length) (hwl : wd.length ≤ 1000)
  (ret : ∀ (t t' : Tok) (h' : Heap) (tk' : Nat), Fr h₀ L h' m → News h₀ L h' (gg (curD h1 h2 t1 t2 t3 TX ((n + run (inS wd) R : Nat) : Int) t')) → Q (.str (tx (R.takeWhile (inS wd))) t) { s with heap := h', toks := tk' }) : wpAny (model PySem.Challenge.rw_nn0359_01.row.prog w) (ktrTop dp un gd cn cs L a ccd cl outer) (call (.ref 155) [.ref c, .str wd u]) Q E s := by
  have hcd := cur_ne N hc (upd_mem U)
  obtain ⟨rest, hr1, hr2, hr3⟩ := news_turn U
  have N2 := cur_news N hc hr2
  clear N
  (k_with "exec While BoolOp cons nil" => (with_unfolding_all refine ksw_while (σ := Int × Tok) (fun q => (c, instObj 222 d) :: (d, curD h1 h2 t1 t2 t3 TX q.1 q.2) :: rest) (fun _ => []) (fun _ => True) [] (fun q => 0 ≤ q.1 ∧ q.1 ≤ TX.length ∧ TwInv TX wd n q.1) (fun q => (TX.length - q.1).toNat) (n, t4) (by assumption) (by assumption) trivial (fun _ h => nomatch h) ⟨by omega, by omega, TwInv.start hn⟩ (unt2 fun k' t' u9 h9 tk9 _ hp F9 N9 => ?_) ?_; (have hp1 := hp.1); (have hp2 := hp.2.1); (have hp3 := hp.2.2); (clear hp); (try dsimp only at *); (try k_fold)))
  (k_with "KswEnd nil" => (refine ksw_end ⟨_, _⟩ (by assumption) (by assumption) (by with_unfolding_all exact fun _ h => h) trivial (fun _ h => nomatch h) (fun _ _ _ => rfl) ⟨?_, ?_, TwInv.step hp3 (by assumption) (by assumption)⟩ ?_ <;> (try dsimp only) <;> omega))
  (k_with "call ref last" => (k_dflt (refine wpAny_call ?_; walk_at "mine enter")))
  refine wpAny_call ?_
  k_dflt walk_at "mine enter"
  walk_at "mine steps"
  all_goals (
    obtain ⟨e1, e2⟩ := TwInv.stop hR hp3 (by first | exact .inl (by assumption) | exact .inr ⟨by assumption, by assumption⟩)
    have N5 := cur_back hr3 (by assumption)
    rw [e1] at N5
    rw [e2]
    exact ret _ _ _ _ (by assumption) N5)
end Mine
theorem Mine.kw_Cur2_1 : True := by
  k_with "call ref" => (k_dflt (show wpAny _ _ (call (Value.ref 148) [_, _]) _ _ _); k_dflt (refine' skip_no ?zzB ?zzF ?zzX ?zzT ?zzk ?zzp ?zzu ?zzN ?zzhc ?zzhd ?zzhl ?zzhR ?zzhx ?zzhw ?_; walk_at "mine tail"; (case zzhc => k_mem); (case zzhd => k_mem); (case zzhl => assumption); (case zzhR => assumption); (case zzhx => decide); (case zzhw => exact rfl)); intro _ h' tk' F' N')
  k_with "call ref" => (k_dflt (show wpAny _ _ (call (Value.ref 148) [_, _]) _ _ _); k_dflt (refine' skip_yes ?zzB ?zzF ?zzX ?zzT ?zzk ?zzp ?zzu ?zzN ?zzhc ?zzU ?zzhl ?zzhR ?zzhx ?zzhw ?_; walk_at "mine tail"; (case zzhc => k_mem); (case zzU => k_updF); (case zzhl => assumption); (case zzhR => assumption); (case zzhx => exact rfl); (case zzhw => exact rfl)); intro _ _ h' tk' F' N')
  k_with "call ref" => (k_dflt (show wpAny _ _ (call (Value.ref 155) [_, _]) _ _ _); k_dflt (refine' take_while_ok ?zzB ?zzF ?zzX ?zzT ?zzk ?zzp ?zzu ?zzN ?zzhc ?zzU ?zzhl ?zzhR ?zzhn ?zzhw ?_; walk_at "mine tail"; (case zzhc => k_mem); (case zzU => k_updF); (case zzhl => assumption); (case zzhR => assumption); (case zzhn => assumption); (case zzhw => decide +kernel)); intro _ _ h' tk' F' N')
  trivial
end
section
theorem Mine.wr_Cur3 : True := by
  k_with_none
  k_with "call ref" => k_extra "call ref last"
  k_with "om" => with_reducible first | assumption | exact Nat.add_sub_cancel_left _ _ | exact Int.ofNat_lt.mpr (by assumption) | exact Int.ofNat_le.mpr (by assumption) | exact Int.ofNat_lt.mp (by assumption) | exact Int.ofNat_le.mp (by assumption) | exact o_lt (by assumption) | exact o_nlt (by assumption) | exact o_63 (by assumption) (by assumption) (by with_unfolding_all exact rfl) | exact o_s2 (by assumption) | exact o_s1 (by assumption) (by assumption) | exact o_s3 (by assumption) (by assumption) | exact o_mt (by assumption) | exact o_f1 (by assumption) | exact Nat.le_of_lt (by assumption) | exact Nat.not_le.mp (by assumption) | exact o_sub (by assumption) | exact o_big1 (by assumption) (by with_unfolding_all exact rfl) | exact Nat.le_trans (Nat.le_add_right _ _) (by assumption) | exact Int.natCast_nonneg _ | exact Nat.le_trans (by assumption) (by assumption) | exact o_big (by assumption) (by assumption) (by with_unfolding_all exact rfl) | exact o_ltM (by assumption) (by assumption) | exact o_tr (by assumption) (by assumption) (by assumption) | exact Nat.lt_of_lt_of_le (by assumption) (by assumption) | exact Nat.lt_of_le_of_lt (by assumption) (by assumption) | exact Nat.ne_of_lt (by assumption) | exact Nat.ne_of_gt (by assumption) | exact o_mm (by assumption) | exact o_mm2 (by assumption) (by assumption) | exact o_mn | exact o_ml (by assumption) (by assumption) | exact o_and (by assumption) | rfl
  k_with "kst" => k_extra "mine kst"
  k_with "kst" => k_extra "mine same3"
  k_with "ksw" => k_extra "mine ksw"
  k_with "ksw" => k_extra "mine same"
  k_with "mine enter" => (refine' code_def ?k1q288 ?k2q288 ?k3q288 ?k4q288 ?k5q288 ?kAq288 ?kFq288 ?kKq288 ?k6q288 ?k7q288 ?k8q288 ?k9q288 ?kBq288 ?_ ?c2q288 ?c3q288 ?c4q288 ?c5q288; (case kAq288 => exact rfl); (case kFq288 => exact rfl); (case kKq288 => first | exact rfl | assumption); (case k1q288 => k_asm); (case k2q288 => k_asm); (case k3q288 => k_asm); (case k4q288 => k_asm); (case k5q288 => k_asm); (case k6q288 => k_is); (case k7q288 => k_is); (case k8q288 => first | (refine' rm0 ?rhq288; (case rhq288 => assumption)) | (refine' rm1 ?rhq288 ?rlq288; (case rhq288 => assumption); (case rlq288 => exact rfl)) | (refine' rm2 ?rhq288 ?rlq288; (case rhq288 => assumption); (case rlq288 => exact rfl)) | ktr_room); (case k9q288 => first | exact BindsTo.of_eq rfl | exact binds_K (by k_in) rfl (by k_is) rfl rfl rfl); (case c5q288 => decide); (case kBq288 => exact locs rfl); (case c2q288 => exact rfl); (case c3q288 => exact rfl); (case c4q288 => exact rfl); k_whole; intro g' L' h' FG'; (refine (?_ : let mk := _; Fr _ _ _ mk → _)); intro mk F' N' B' X' T'; (refine (?_ : let nk := _; let ak := _; let qk := _; let ek := _; let sk := _; wpAny _ ak (execs _ nk) qk ek sk)); intro nk ak qk ek sk)
  k_with "subscriptTail Name Attribute str int" => ((with_reducible show wpAny _ _ (subscriptTail _ _ (Value.str _ _) (Value.int _ _)) _ _ _); refine item_str (fitsSsize_of (N := 9223372036854775808) (by omega) (by omega) (Int.le_refl _)) (by omega) (by omega) ?_; intro _)
  k_with "mine inline" => (k_dflt (first | (refine' call_cls ?k1q290 ?k2q290 ?k3q290 ?k4q290 ?k5q290 ?k6q290 ?_; (case k1q290 => k_asm); (case k2q290 => k_asm); (case k3q290 => k_asm); (case k4q290 => k_is); (case k5q290 => k_is); (case k6q290 => k_is); k_whole; intro x' d' h' F' N' l1 l2; (try k_lt l1); (try k_lt2 l2); (try k_sweep); walk_at "mine enter") | (refine wpAny_call ?_; walk_at "mine enter")))
  k_with "ite" => first | with_reducible refine ite_tt ?_ | with_reducible refine ite_ff ?_
  k_with "mine room" => first | (refine' rm2 ?rhq292 ?rlq292; (case rhq292 => assumption); (case rlq292 => exact rfl)) | decide +kernel | omega | (simp only [depth_deeper, units_deeper]; omega) | (dsimp only [ktrTop]; omega) | (dsimp only [Around.deeper, ktrTop]; omega) | ktr_room | ktr_units
  k_with "mine tail" => ((case zzB => k_asm); (case zzF => k_asm); (case zzX => k_asm); (case zzT => k_asm); (case zzN => k_asm); (case zzk => first | exact rfl | assumption); (case zzp => walk_at "mine room"); (case zzu => walk_at "mine room"))
  k_with "isTrue Compare" => (k_here; first | ((with_reducible show wpAny _ _ (isTrue (PySem.Expr.Compare (PySem.Expr.Name _ _) [PySem.CmpOp.Eq] [PySem.Expr.Constant (PySem.Const.str _) _ _] _) _ _) _ _ _); k_dflt (refine' tst_eq ?zaq294 ?zbq294 ?zcq294 ?zmq294 ?zFq294 ?zvq294 ?_; (case zFq294 => k_asm); (case zaq294 => rfl); (case zbq294 => rfl); (case zcq294 => decide); (case zvq294 => rfl); (case zmq294 => with_unfolding_all rfl); k_whole)) | ((with_reducible show wpAny _ _ (isTrue (PySem.Expr.Compare (PySem.Expr.Name _ _) [PySem.CmpOp.NotEq] [PySem.Expr.Constant (PySem.Const.str _) _ _] _) _ _) _ _ _); k_dflt (refine' tst_ne ?zaq294 ?zbq294 ?zcq294 ?zmq294 ?zFq294 ?zvq294 ?_; (case zFq294 => k_asm); (case zaq294 => rfl); (case zbq294 => rfl); (case zcq294 => decide); (case zvq294 => rfl); (case zmq294 => with_unfolding_all rfl); k_whole)))
  k_with "eval BinOp" => (k_here; (with_reducible show wpAny _ _ (eval (PySem.Expr.BinOp (PySem.Expr.Name _ _) PySem.Operator.Add (PySem.Expr.Constant (PySem.Const.int _) _ _) _) _) _ _ _); k_dflt (refine' add_nc ?zaq295 ?zbq295 ?zcq295 ?zFq295 ?zvq295 ?_; (case zFq295 => k_asm); (case zaq295 => rfl); (case zbq295 => rfl); (case zcq295 => decide); (case zvq295 => rfl); k_whole))
  k_with "mine steps" => repeat' (first | ((first | (fail_if_success (fail_if_success k_unfold)) | (fail_if_success (fail_if_success k_fold))); (refine (?_ : let qk := _; let sk := _; wpAny _ _ _ qk _ sk)); intro qk sk) | ((fail_if_success (fail_if_success k_unfold)); (refine (?_ : let sk := _; LeaveK _ _ _ _ _ _ sk)); intro sk) | (k_unfold; (try dsimp only)) | walk1 | (k_end; wrow_close) | (dsimp only [List.nil_append, List.cons_append]; walk1) | (leave1; (try dsimp only)) | fail "no step")
  k_with "execs cons" => (with_reducible refine wpAny_execs_cons ?_)
  k_with "eval Name" => (k_dflt (refine' nmL ?zaq298 ?zbq298 ?zdq298 ?zFq298 ?zvq298 ?_; (case zFq298 => k_asm); (case zaq298 => rfl); (case zbq298 => rfl); (case zvq298 => rfl); (case zdq298 => decide); k_whole))
  k_with "storeName" => (k_dflt (refine' stL ?zaq299 ?zbq299 ?zFq299 ?zNq299 ?_; (case zFq299 => k_asm); (case zNq299 => k_asm); (case zaq299 => rfl); (case zbq299 => rfl); k_whole; intro h' mk F' N'; (try k_sweep)))
  k_with "LeaveK" => (k_dflt (refine' leaveK_ ?k1q300 ?k2q300 ?_; (case k1q300 => k_asm); (case k2q300 => k_asm); k_whole); intro kF kN; (try dsimp only [InitBack]); (try refine ⟨rfl, ?_⟩))
  k_with "mine kst" => (intro z h1 h2 h3; (try dsimp +zetaDelta only [kstB]); (try simp only [List.forall_mem_cons, List.not_mem_nil, false_implies, implies_true, and_true, ne_eq] at h2); first | rfl | (simp [h1]; done) | (simp [h1, h2]; done) | ((try simp only [List.contains_cons, List.contains_nil, Bool.or_false, Bool.or_eq_false_iff, beq_eq_false_iff_ne, ne_eq] at h3); first | (simp [h1, h3]; done) | (simp [h1, h2, h3]; done)))
  k_with "mine same3" => (k_dflt (refine sn_end3 ?_; (repeat (first | (with_reducible exact sn_refl) | (refine' sn_in ?_ ?hpq302 ?hsq302; (case hpq302 => exact rfl); (case hsq302 => exact rfl)) | (refine' sn_upd ?_ ?hxq302; (case hxq302 => exact rfl)))); done))
  k_with "mine ksw" => (intro z h2 h3; (try dsimp +zetaDelta only [kstB]); (try simp only [List.forall_mem_cons, List.not_mem_nil, false_implies, implies_true, and_true, ne_eq] at h2); (try simp only [List.contains_cons, List.contains_nil, Bool.or_false, Bool.or_eq_false_iff, beq_eq_false_iff_ne, ne_eq] at h3); first | rfl | (simp [h2]; done) | (simp [h3]; done) | (simp [h2, h3]; done))
  k_with "mine same" => (k_dflt (refine sn_end ?_; (repeat (first | (with_reducible exact sn_refl) | (refine' sn_in ?_ ?hpq304 ?hsq304; (case hpq304 => exact rfl); (case hsq304 => exact rfl)) | (refine' sn_upd ?_ ?hxq304; (case hxq304 => exact rfl)))); done))
  w_top off
  trivial
theorem Mine.kw_mCur3_1 : True := by
  k_with "call ref" => (k_dflt (show wpAny _ _ (call (Value.ref 119) [_]) _ _ _); k_dflt (refine' is_done_ok ?zzB ?zzF ?zzX ?zzT ?zzk ?zzp ?zzu ?zzN ?zzhc ?zzhd ?zzhl ?zzhR ?_; walk_at "mine tail"; (case zzhc => k_mem); (case zzhd => k_mem); (case zzhl => assumption); (case zzhR => assumption)); (intro _ h' tk' F' N'); (try simp only [List.isEmpty_cons, List.isEmpty_nil]))
  k_with "call ref" => (k_dflt (show wpAny _ _ (call (Value.ref 127) [_]) _ _ _); k_dflt (refine' peek_ok ?zzB ?zzF ?zzX ?zzT ?zzk ?zzp ?zzu ?zzN ?zzhc ?zzhd ?zzhl ?zzhR ?zzhx ?_; walk_at "mine tail"; (case zzhc => k_mem); (case zzhd => k_mem); (case zzhl => assumption); (case zzhR => assumption); (case zzhx => exact rfl)); intro _ h' tk' F' N')
  k_with "call ref" => (k_dflt (show wpAny _ _ (call (Value.ref 127) [_]) _ _ _); k_dflt (refine' peekE_ok ?zzB ?zzF ?zzX ?zzT ?zzk ?zzp ?zzu ?zzN ?zzhc ?zzhd ?zzhl ?zzhR ?zzhx ?_; walk_at "mine tail"; (case zzhc => k_mem); (case zzhd => k_mem); (case zzhl => assumption); (case zzhR => assumption); (case zzhx => exact rfl)); intro _ h' tk' F' N')
  k_with "call ref" => (k_dflt (show wpAny _ _ (call (Value.ref 127) [_, _]) _ _ _); k_dflt (refine' peek1_ok ?zzB ?zzF ?zzX ?zzT ?zzk ?zzp ?zzu ?zzN ?zzhc ?zzhd ?zzhl ?zzhR ?zzhx ?_; walk_at "mine tail"; (case zzhc => k_mem); (case zzhd => k_mem); (case zzhl => assumption); (case zzhR => assumption); (case zzhx => exact rfl)); intro _ h' tk' F' N')
  k_with "call ref" => (k_dflt (show wpAny _ _ (call (Value.ref 127) [_, _]) _ _ _); k_dflt (refine' peek1E_ok ?zzB ?zzF ?zzX ?zzT ?zzk ?zzp ?zzu ?zzN ?zzhc ?zzhd ?zzhl ?zzhR ?zzhx ?_; walk_at "mine tail"; (case zzhc => k_mem); (case zzhd => k_mem); (case zzhl => assumption); (case zzhR => assumption); (case zzhx => exact rfl)); intro _ h' tk' F' N')
  k_with "call ref" => (k_dflt (show wpAny _ _ (call (Value.ref 141) [_]) _ _ _); k_dflt (refine' take_ok ?zzB ?zzF ?zzX ?zzT ?zzk ?zzp ?zzu ?zzN ?zzhc ?zzU ?zzhl ?zzhR ?zzhx ?_; walk_at "mine tail"; (case zzhc => k_mem); (case zzU => k_updF); (case zzhl => assumption); (case zzhR => assumption); (case zzhx => exact rfl)); intro _ _ h' tk' F' N')
  k_with "call ref" => (k_dflt (show wpAny _ _ (call (Value.ref 148) [_, _]) _ _ _); k_dflt (refine' skip_no ?zzB ?zzF ?zzX ?zzT ?zzk ?zzp ?zzu ?zzN ?zzhc ?zzhd ?zzhl ?zzhR ?zzhx ?zzhw ?_; walk_at "mine tail"; (case zzhc => k_mem); (case zzhd => k_mem); (case zzhl => assumption); (case zzhR => assumption); (case zzhx => decide); (case zzhw => exact rfl)); intro _ h' tk' F' N')
  k_with "call ref" => (k_dflt (show wpAny _ _ (call (Value.ref 148) [_, _]) _ _ _); k_dflt (refine' skip_yes ?zzB ?zzF ?zzX ?zzT ?zzk ?zzp ?zzu ?zzN ?zzhc ?zzU ?zzhl ?zzhR ?zzhx ?zzhw ?_; walk_at "mine tail"; (case zzhc => k_mem); (case zzU => k_updF); (case zzhl => assumption); (case zzhR => assumption); (case zzhx => exact rfl); (case zzhw => exact rfl)); intro _ _ h' tk' F' N')
  k_with "call ref" => (k_dflt (show wpAny _ _ (call (Value.ref 155) [_, _]) _ _ _); k_dflt (refine' take_while_ok ?zzB ?zzF ?zzX ?zzT ?zzk ?zzp ?zzu ?zzN ?zzhc ?zzU ?zzhl ?zzhR ?zzhn ?zzhw ?_; walk_at "mine tail"; (case zzhc => k_mem); (case zzU => k_updF); (case zzhl => assumption); (case zzhR => assumption); (case zzhn => assumption); (case zzhw => decide +kernel)); intro _ _ h' tk' F' N')
  trivial
namespace Mine
set_option maxHeartbeats 8000000 in
theorem skip_blanks_ok {w : World} {mean : ExcName → Option Value} {mg mb : PySem.Str → Option Value} {dp un : Nat} {gd : Option (List Code)} {cn : PySem.Str} {cs : Scope} {a : Addr} {ccd : Value} {cl : List (PySem.Str × Addr)} {outer : List Env} {A₀ : Around} {base h₀ : Heap} {L : Addr} {m : PySem.Str → Option Value} {s : Shared} {Q E : Value → Shared → Prop} {news : List (Addr × Obj)} (B : Below A₀ base outer h₀) (F : Fr h₀ L s.heap m) (X : (Mine.hd.heap_1_39 w.params).In h₀) (T : Top Mine.hd.view_1_40 lo mean mg mb h₀) (hk : cs.kind = .function) (hdp : dp + 10 < recursionLimit) (hun : un + 100 < cLine) (N : News h₀ L s.heap news) {h1 h2 : Int} {t1 t2 t3 t4 : Tok} {TX : PySem.Str} {n : Nat} {c d : Addr} {R : List Nat} {gg : Obj → List (Addr × Obj)} (hc : (c, instObj 222 d) ∈ news) (U : UpdF d (curD h1 h2 t1 t2 t3 TX n t4) news gg) (hlen : TX.length ≤ 100000) (hR : (tl TX).drop n = R) (hn : n ≤ TX.length)
  (ret : ∀ (t t' : Tok) (h' : Heap) (tk' : Nat), Fr h₀ L h' m → News h₀ L h' (gg (curD h1 h2 t1 t2 t3 TX ((n + run isBl R : Nat) : Int) t')) → Q (.none) { s with heap := h', toks := tk' }) : wpAny (model PySem.Challenge.rw_nn0359_01.row.prog w) (ktrTop dp un gd cn cs L a ccd cl outer) (call (.ref 170) [.ref c]) Q E s := by
  have hcd := cur_ne N hc (upd_mem U)
  obtain ⟨rest, hr1, hr2, hr3⟩ := news_turn U
  have N2 := cur_news N hc hr2
  clear N
  refine wpAny_call ?_
  k_dflt walk_at "mine enter"
  walk_at "mine steps"
  exact ret 0 _ _ _ (by assumption) (cur_back hr3 (by assumption))
theorem nm0 {x : Nat} {r : List Nat} (h : isNm x = false) : nameR (x :: r) = [] := by simp [nameR, h]
theorem nm1 {x : Nat} {r : List Nat} (h : isDg x = true) : nameR (x :: r) = [] := by simp [nameR, h]
theorem nm2 {x : Nat} {r : List Nat} (hd : isDg x = false) (h : isNm x = true) : nameR (x :: r) = (x :: r).takeWhile isNm := by simp [nameR, hd, h]
set_option maxHeartbeats 8000000 in
theorem name_ok {w : World} {mean : ExcName → Option Value} {mg mb : PySem.Str → Option Value} {dp un : Nat} {gd : Option (List Code)} {cn : PySem.Str} {cs : Scope} {a : Addr} {ccd : Value} {cl : List (PySem.Str × Addr)} {outer : List Env} {A₀ : Around} {base h₀ : Heap} {L : Addr} {m : PySem.Str → Option Value} {s : Shared} {Q E : Value → Shared → Prop} {news : List (Addr × Obj)} (B : Below A₀ base outer h₀) (F : Fr h₀ L s.heap m) (X : (Mine.hd.heap_1_39 w.params).In h₀) (T : Top Mine.hd.view_1_40 lo mean mg mb h₀) (hk : cs.kind = .function) (hdp : dp + 10 < recursionLimit) (hun : un + 100 < cLine) (N : News h₀ L s.heap news) {h1 h2 : Int} {t1 t2 t3 t4 : Tok} {TX : PySem.Str} {n : Nat} {c d : Addr} {R : List Nat} {gg : Obj → List (Addr × Obj)} (hc : (c, instObj 222 d) ∈ news) (U : UpdF d (curD h1 h2 t1 t2 t3 TX n t4) news gg) (hlen : TX.length ≤ 100000) (hR : (tl TX).drop n = R) (hn : n ≤ TX.length)
  (ret : ∀ (t t' : Tok) (h' : Heap) (tk' : Nat), Fr h₀ L h' m → News h₀ L h' (gg (curD h1 h2 t1 t2 t3 TX ((n + (nameR R).length : Nat) : Int) t')) → Q (.str (tx (nameR R)) t) { s with heap := h', toks := tk' }) : wpAny (model PySem.Challenge.rw_nn0359_01.row.prog w) (ktrTop dp un gd cn cs L a ccd cl outer) (call (.ref 177) [.ref c]) Q E s := by
  have hcd := cur_ne N hc (upd_mem U)
  obtain ⟨rest, hr1, hr2, hr3⟩ := news_turn U
  have N2 := cur_news N hc hr2
  clear N
  cases R with
  | nil =>
    refine wpAny_call ?_
    k_dflt walk_at "mine enter"
    walk_at "mine steps"
    rw [empty_tx]
    exact ret _ t4 _ _ (by assumption) (cur_back hr3 (by assumption))
  | cons x r =>
    have hne := one_ne_empty x
    (k_with "compareOp NotIn str str" => k_dflt ((fail_if_success (have := hnm)); (refine (?_ : let gk := _; gk)); (intro gk); (rcases hnm : isNm x with _ | _); (have hf := occ_f hnm); rotate_left; (have hf := occ_t hnm); rotate_left; (all_goals ((refine (?_ : gk)); k_unfold))))
    (k_with "compareOp In str str" => k_dflt ((fail_if_success (have := hdg)); (refine (?_ : let gk := _; gk)); (intro gk); (rcases hdg : isDg x with _ | _); (have hg := occ_f hdg); rotate_left; (have hg := occ_t hdg); rotate_left; (all_goals ((refine (?_ : gk)); k_unfold))))
    refine wpAny_call ?_
    k_dflt walk_at "mine enter"
    walk_at "mine steps"
    all_goals first
      | (rw [nm0 hnm, ← empty_tx] at ret; exact ret _ t4 _ _ (by assumption) (cur_back hr3 (by assumption)))
      | (rw [nm1 hdg, ← empty_tx] at ret; exact ret _ t4 _ _ (by assumption) (cur_back hr3 (by assumption)))
      | (rw [nm2 hdg hnm] at ret; exact ret _ _ _ _ (by assumption) (cur_back hr3 (by assumption)))
end Mine
theorem Mine.kw_Cur3_1 : True := by
  k_with "call ref" => (k_dflt (show wpAny _ _ (call (Value.ref 170) [_]) _ _ _); k_dflt (refine' skip_blanks_ok ?zzB ?zzF ?zzX ?zzT ?zzk ?zzp ?zzu ?zzN ?zzhc ?zzU ?zzhl ?zzhR ?zzhn ?_; walk_at "mine tail"; (case zzhc => k_mem); (case zzU => k_updF); (case zzhl => assumption); (case zzhR => assumption); (case zzhn => assumption)); intro _ _ h' tk' F' N')
  k_with "call ref" => (k_dflt (show wpAny _ _ (call (Value.ref 177) [_]) _ _ _); k_dflt (refine' name_ok ?zzB ?zzF ?zzX ?zzT ?zzk ?zzp ?zzu ?zzN ?zzhc ?zzU ?zzhl ?zzhR ?zzhn ?_; walk_at "mine tail"; (case zzhc => k_mem); (case zzU => k_updF); (case zzhl => assumption); (case zzhR => assumption); (case zzhn => assumption)); intro _ _ h' tk' F' N')
  trivial
end
section
theorem Mine.wr_Coded : True := by
  k_with_none
  k_with "call ref" => k_extra "call ref last"
  k_with "om" => with_reducible first | assumption | exact Nat.add_sub_cancel_left _ _ | exact Int.ofNat_lt.mpr (by assumption) | exact Int.ofNat_le.mpr (by assumption) | exact Int.ofNat_lt.mp (by assumption) | exact Int.ofNat_le.mp (by assumption) | exact o_lt (by assumption) | exact o_nlt (by assumption) | exact o_63 (by assumption) (by assumption) (by with_unfolding_all exact rfl) | exact o_s2 (by assumption) | exact o_s1 (by assumption) (by assumption) | exact o_s3 (by assumption) (by assumption) | exact o_mt (by assumption) | exact o_f1 (by assumption) | exact Nat.le_of_lt (by assumption) | exact Nat.not_le.mp (by assumption) | exact o_sub (by assumption) | exact o_big1 (by assumption) (by with_unfolding_all exact rfl) | exact Nat.le_trans (Nat.le_add_right _ _) (by assumption) | exact Int.natCast_nonneg _ | exact Nat.le_trans (by assumption) (by assumption) | exact o_big (by assumption) (by assumption) (by with_unfolding_all exact rfl) | exact o_ltM (by assumption) (by assumption) | exact o_tr (by assumption) (by assumption) (by assumption) | exact Nat.lt_of_lt_of_le (by assumption) (by assumption) | exact Nat.lt_of_le_of_lt (by assumption) (by assumption) | exact Nat.ne_of_lt (by assumption) | exact Nat.ne_of_gt (by assumption) | exact o_mm (by assumption) | exact o_mm2 (by assumption) (by assumption) | exact o_mn | exact o_ml (by assumption) (by assumption) | exact o_and (by assumption) | rfl
  k_with "kst" => k_extra "mine kst"
  k_with "kst" => k_extra "mine same3"
  k_with "ksw" => k_extra "mine ksw"
  k_with "ksw" => k_extra "mine same"
  k_with "mine enter" => (refine' code_def ?k1q316 ?k2q316 ?k3q316 ?k4q316 ?k5q316 ?kAq316 ?kFq316 ?kKq316 ?k6q316 ?k7q316 ?k8q316 ?k9q316 ?kBq316 ?_ ?c2q316 ?c3q316 ?c4q316 ?c5q316; (case kAq316 => exact rfl); (case kFq316 => exact rfl); (case kKq316 => first | exact rfl | assumption); (case k1q316 => k_asm); (case k2q316 => k_asm); (case k3q316 => k_asm); (case k4q316 => k_asm); (case k5q316 => k_asm); (case k6q316 => k_is); (case k7q316 => k_is); (case k8q316 => first | (refine' rm0 ?rhq316; (case rhq316 => assumption)) | (refine' rm1 ?rhq316 ?rlq316; (case rhq316 => assumption); (case rlq316 => exact rfl)) | (refine' rm2 ?rhq316 ?rlq316; (case rhq316 => assumption); (case rlq316 => exact rfl)) | ktr_room); (case k9q316 => first | exact BindsTo.of_eq rfl | exact binds_K (by k_in) rfl (by k_is) rfl rfl rfl); (case c5q316 => decide); (case kBq316 => exact locs rfl); (case c2q316 => exact rfl); (case c3q316 => exact rfl); (case c4q316 => exact rfl); k_whole; intro g' L' h' FG'; (refine (?_ : let mk := _; Fr _ _ _ mk → _)); intro mk F' N' B' X' T'; (refine (?_ : let nk := _; let ak := _; let qk := _; let ek := _; let sk := _; wpAny _ ak (execs _ nk) qk ek sk)); intro nk ak qk ek sk)
  k_with "subscriptTail Name Attribute str int" => ((with_reducible show wpAny _ _ (subscriptTail _ _ (Value.str _ _) (Value.int _ _)) _ _ _); refine item_str (fitsSsize_of (N := 9223372036854775808) (by omega) (by omega) (Int.le_refl _)) (by omega) (by omega) ?_; intro _)
  k_with "mine inline" => (k_dflt (first | (refine' call_cls ?k1q318 ?k2q318 ?k3q318 ?k4q318 ?k5q318 ?k6q318 ?_; (case k1q318 => k_asm); (case k2q318 => k_asm); (case k3q318 => k_asm); (case k4q318 => k_is); (case k5q318 => k_is); (case k6q318 => k_is); k_whole; intro x' d' h' F' N' l1 l2; (try k_lt l1); (try k_lt2 l2); (try k_sweep); walk_at "mine enter") | (refine wpAny_call ?_; walk_at "mine enter")))
  k_with "ite" => first | with_reducible refine ite_tt ?_ | with_reducible refine ite_ff ?_
  k_with "mine room" => first | (refine' rm2 ?rhq320 ?rlq320; (case rhq320 => assumption); (case rlq320 => exact rfl)) | decide +kernel | omega | (simp only [depth_deeper, units_deeper]; omega) | (dsimp only [ktrTop]; omega) | (dsimp only [Around.deeper, ktrTop]; omega) | ktr_room | ktr_units
  k_with "mine tail" => ((case zzB => k_asm); (case zzF => k_asm); (case zzX => k_asm); (case zzT => k_asm); (case zzN => k_asm); (case zzk => first | exact rfl | assumption); (case zzp => walk_at "mine room"); (case zzu => walk_at "mine room"))
  k_with "isTrue Compare" => (k_here; first | ((with_reducible show wpAny _ _ (isTrue (PySem.Expr.Compare (PySem.Expr.Name _ _) [PySem.CmpOp.Eq] [PySem.Expr.Constant (PySem.Const.str _) _ _] _) _ _) _ _ _); k_dflt (refine' tst_eq ?zaq322 ?zbq322 ?zcq322 ?zmq322 ?zFq322 ?zvq322 ?_; (case zFq322 => k_asm); (case zaq322 => rfl); (case zbq322 => rfl); (case zcq322 => decide); (case zvq322 => rfl); (case zmq322 => with_unfolding_all rfl); k_whole)) | ((with_reducible show wpAny _ _ (isTrue (PySem.Expr.Compare (PySem.Expr.Name _ _) [PySem.CmpOp.NotEq] [PySem.Expr.Constant (PySem.Const.str _) _ _] _) _ _) _ _ _); k_dflt (refine' tst_ne ?zaq322 ?zbq322 ?zcq322 ?zmq322 ?zFq322 ?zvq322 ?_; (case zFq322 => k_asm); (case zaq322 => rfl); (case zbq322 => rfl); (case zcq322 => decide); (case zvq322 => rfl); (case zmq322 => with_unfolding_all rfl); k_whole)))
  k_with "eval BinOp" => (k_here; (with_reducible show wpAny _ _ (eval (PySem.Expr.BinOp (PySem.Expr.Name _ _) PySem.Operator.Add (PySem.Expr.Constant (PySem.Const.int _) _ _) _) _) _ _ _); k_dflt (refine' add_nc ?zaq323 ?zbq323 ?zcq323 ?zFq323 ?zvq323 ?_; (case zFq323 => k_asm); (case zaq323 => rfl); (case zbq323 => rfl); (case zcq323 => decide); (case zvq323 => rfl); k_whole))
  k_with "mine steps" => repeat' (first | ((first | (fail_if_success (fail_if_success k_unfold)) | (fail_if_success (fail_if_success k_fold))); (refine (?_ : let qk := _; let sk := _; wpAny _ _ _ qk _ sk)); intro qk sk) | ((fail_if_success (fail_if_success k_unfold)); (refine (?_ : let sk := _; LeaveK _ _ _ _ _ _ sk)); intro sk) | (k_unfold; (try dsimp only)) | walk1 | (k_end; wrow_close) | (dsimp only [List.nil_append, List.cons_append]; walk1) | (leave1; (try dsimp only)) | fail "no step")
  k_with "execs cons" => (with_reducible refine wpAny_execs_cons ?_)
  k_with "eval Name" => (k_dflt (refine' nmL ?zaq326 ?zbq326 ?zdq326 ?zFq326 ?zvq326 ?_; (case zFq326 => k_asm); (case zaq326 => rfl); (case zbq326 => rfl); (case zvq326 => rfl); (case zdq326 => decide); k_whole))
  k_with "storeName" => (k_dflt (refine' stL ?zaq327 ?zbq327 ?zFq327 ?zNq327 ?_; (case zFq327 => k_asm); (case zNq327 => k_asm); (case zaq327 => rfl); (case zbq327 => rfl); k_whole; intro h' mk F' N'; (try k_sweep)))
  k_with "LeaveK" => (k_dflt (refine' leaveK_ ?k1q328 ?k2q328 ?_; (case k1q328 => k_asm); (case k2q328 => k_asm); k_whole); intro kF kN; (try dsimp only [InitBack]); (try refine ⟨rfl, ?_⟩))
  k_with "mine kst" => (intro z h1 h2 h3; (try dsimp +zetaDelta only [kstB]); (try simp only [List.forall_mem_cons, List.not_mem_nil, false_implies, implies_true, and_true, ne_eq] at h2); first | rfl | (simp [h1]; done) | (simp [h1, h2]; done) | ((try simp only [List.contains_cons, List.contains_nil, Bool.or_false, Bool.or_eq_false_iff, beq_eq_false_iff_ne, ne_eq] at h3); first | (simp [h1, h3]; done) | (simp [h1, h2, h3]; done)))
  k_with "mine same3" => (k_dflt (refine sn_end3 ?_; (repeat (first | (with_reducible exact sn_refl) | (refine' sn_in ?_ ?hpq330 ?hsq330; (case hpq330 => exact rfl); (case hsq330 => exact rfl)) | (refine' sn_upd ?_ ?hxq330; (case hxq330 => exact rfl)))); done))
  k_with "mine ksw" => (intro z h2 h3; (try dsimp +zetaDelta only [kstB]); (try simp only [List.forall_mem_cons, List.not_mem_nil, false_implies, implies_true, and_true, ne_eq] at h2); (try simp only [List.contains_cons, List.contains_nil, Bool.or_false, Bool.or_eq_false_iff, beq_eq_false_iff_ne, ne_eq] at h3); first | rfl | (simp [h2]; done) | (simp [h3]; done) | (simp [h2, h3]; done))
  k_with "mine same" => (k_dflt (refine sn_end ?_; (repeat (first | (with_reducible exact sn_refl) | (refine' sn_in ?_ ?hpq332 ?hsq332; (case hpq332 => exact rfl); (case hsq332 => exact rfl)) | (refine' sn_upd ?_ ?hxq332; (case hxq332 => exact rfl)))); done))
  w_top off
  trivial
theorem Mine.kw_mCoded_1 : True := by
  k_with "call type:int" => ((with_reducible show wpAny _ _ (call (Value.type "int") [Value.str _ _, Value.int _ _]) _ _ _); refine call_int16 (by first | assumption | exact isHx_mem (by assumption) | exact isOc_isHx (by assumption)) ?_)
  k_with "call ref" => (k_dflt (show wpAny _ _ (call (Value.ref 119) [_]) _ _ _); k_dflt (refine' is_done_ok ?zzB ?zzF ?zzX ?zzT ?zzk ?zzp ?zzu ?zzN ?zzhc ?zzhd ?zzhl ?zzhR ?_; walk_at "mine tail"; (case zzhc => k_mem); (case zzhd => k_mem); (case zzhl => assumption); (case zzhR => assumption)); (intro _ h' tk' F' N'); (try simp only [List.isEmpty_cons, List.isEmpty_nil]))
  k_with "call ref" => (k_dflt (show wpAny _ _ (call (Value.ref 127) [_]) _ _ _); k_dflt (refine' peek_ok ?zzB ?zzF ?zzX ?zzT ?zzk ?zzp ?zzu ?zzN ?zzhc ?zzhd ?zzhl ?zzhR ?zzhx ?_; walk_at "mine tail"; (case zzhc => k_mem); (case zzhd => k_mem); (case zzhl => assumption); (case zzhR => assumption); (case zzhx => exact rfl)); intro _ h' tk' F' N')
  k_with "call ref" => (k_dflt (show wpAny _ _ (call (Value.ref 127) [_]) _ _ _); k_dflt (refine' peekE_ok ?zzB ?zzF ?zzX ?zzT ?zzk ?zzp ?zzu ?zzN ?zzhc ?zzhd ?zzhl ?zzhR ?zzhx ?_; walk_at "mine tail"; (case zzhc => k_mem); (case zzhd => k_mem); (case zzhl => assumption); (case zzhR => assumption); (case zzhx => exact rfl)); intro _ h' tk' F' N')
  k_with "call ref" => (k_dflt (show wpAny _ _ (call (Value.ref 127) [_, _]) _ _ _); k_dflt (refine' peek1_ok ?zzB ?zzF ?zzX ?zzT ?zzk ?zzp ?zzu ?zzN ?zzhc ?zzhd ?zzhl ?zzhR ?zzhx ?_; walk_at "mine tail"; (case zzhc => k_mem); (case zzhd => k_mem); (case zzhl => assumption); (case zzhR => assumption); (case zzhx => exact rfl)); intro _ h' tk' F' N')
  k_with "call ref" => (k_dflt (show wpAny _ _ (call (Value.ref 127) [_, _]) _ _ _); k_dflt (refine' peek1E_ok ?zzB ?zzF ?zzX ?zzT ?zzk ?zzp ?zzu ?zzN ?zzhc ?zzhd ?zzhl ?zzhR ?zzhx ?_; walk_at "mine tail"; (case zzhc => k_mem); (case zzhd => k_mem); (case zzhl => assumption); (case zzhR => assumption); (case zzhx => exact rfl)); intro _ h' tk' F' N')
  k_with "call ref" => (k_dflt (show wpAny _ _ (call (Value.ref 141) [_]) _ _ _); k_dflt (refine' take_ok ?zzB ?zzF ?zzX ?zzT ?zzk ?zzp ?zzu ?zzN ?zzhc ?zzU ?zzhl ?zzhR ?zzhx ?_; walk_at "mine tail"; (case zzhc => k_mem); (case zzU => k_updF); (case zzhl => assumption); (case zzhR => assumption); (case zzhx => exact rfl)); intro _ _ h' tk' F' N')
  k_with "call ref" => (k_dflt (show wpAny _ _ (call (Value.ref 148) [_, _]) _ _ _); k_dflt (refine' skip_no ?zzB ?zzF ?zzX ?zzT ?zzk ?zzp ?zzu ?zzN ?zzhc ?zzhd ?zzhl ?zzhR ?zzhx ?zzhw ?_; walk_at "mine tail"; (case zzhc => k_mem); (case zzhd => k_mem); (case zzhl => assumption); (case zzhR => assumption); (case zzhx => decide); (case zzhw => exact rfl)); intro _ h' tk' F' N')
  k_with "call ref" => (k_dflt (show wpAny _ _ (call (Value.ref 148) [_, _]) _ _ _); k_dflt (refine' skip_yes ?zzB ?zzF ?zzX ?zzT ?zzk ?zzp ?zzu ?zzN ?zzhc ?zzU ?zzhl ?zzhR ?zzhx ?zzhw ?_; walk_at "mine tail"; (case zzhc => k_mem); (case zzU => k_updF); (case zzhl => assumption); (case zzhR => assumption); (case zzhx => exact rfl); (case zzhw => exact rfl)); intro _ _ h' tk' F' N')
  k_with "call ref" => (k_dflt (show wpAny _ _ (call (Value.ref 155) [_, _]) _ _ _); k_dflt (refine' take_while_ok ?zzB ?zzF ?zzX ?zzT ?zzk ?zzp ?zzu ?zzN ?zzhc ?zzU ?zzhl ?zzhR ?zzhn ?zzhw ?_; walk_at "mine tail"; (case zzhc => k_mem); (case zzU => k_updF); (case zzhl => assumption); (case zzhR => assumption); (case zzhn => assumption); (case zzhw => decide +kernel)); intro _ _ h' tk' F' N')
  k_with "call ref" => (k_dflt (show wpAny _ _ (call (Value.ref 170) [_]) _ _ _); k_dflt (refine' skip_blanks_ok ?zzB ?zzF ?zzX ?zzT ?zzk ?zzp ?zzu ?zzN ?zzhc ?zzU ?zzhl ?zzhR ?zzhn ?_; walk_at "mine tail"; (case zzhc => k_mem); (case zzU => k_updF); (case zzhl => assumption); (case zzhR => assumption); (case zzhn => assumption)); intro _ _ h' tk' F' N')
  k_with "call ref" => (k_dflt (show wpAny _ _ (call (Value.ref 177) [_]) _ _ _); k_dflt (refine' name_ok ?zzB ?zzF ?zzX ?zzT ?zzk ?zzp ?zzu ?zzN ?zzhc ?zzU ?zzhl ?zzhR ?zzhn ?_; walk_at "mine tail"; (case zzhc => k_mem); (case zzU => k_updF); (case zzhl => assumption); (case zzhR => assumption); (case zzhn => assumption)); intro _ _ h' tk' F' N')
  trivial
namespace Mine
set_option maxHeartbeats 8000000 in
theorem coded8_ok {w : World} {mean : ExcName → Option Value} {mg mb : PySem.Str → Option Value} {dp un : Nat} {gd : Option (List Code)} {cn : PySem.Str} {cs : Scope} {a : Addr} {ccd : Value} {cl : List (PySem.Str × Addr)} {outer : List Env} {A₀ : Around} {base h₀ : Heap} {L : Addr} {m : PySem.Str → Option Value} {s : Shared} {Q E : Value → Shared → Prop} {news : List (Addr × Obj)} (B : Below A₀ base outer h₀) (F : Fr h₀ L s.heap m) (X : (Mine.hd.heap_1_39 w.params).In h₀) (T : Top Mine.hd.view_1_40 lo mean mg mb h₀) (hk : cs.kind = .function) (hdp : dp + 10 < recursionLimit) (hun : un + 100 < cLine) (N : News h₀ L s.heap news) {h1 h2 : Int} {t1 t2 t3 t4 : Tok} {TX : PySem.Str} {n : Nat} {c d : Addr} {R : List Nat} {gg : Obj → List (Addr × Obj)} (hc : (c, instObj 222 d) ∈ news) (U : UpdF d (curD h1 h2 t1 t2 t3 TX n t4) news gg) (hlen : TX.length ≤ 100000) (hR : (tl TX).drop n = R) {u1 u2 u3 : Tok}
  (ret : ∀ (t t' : Tok) (h' : Heap) (tk' : Nat), Fr h₀ L h' m → News h₀ L h' (gg (curD h1 h2 t1 t2 t3 TX ((n + (codeGo OCS 8 3 R 0).2 : Nat) : Int) t')) → Q (.str ⟨#[(codeGo OCS 8 3 R 0).1]⟩ t) { s with heap := h', toks := tk' }) : wpAny (model PySem.Challenge.rw_nn0359_01.row.prog w) (ktrTop dp un gd cn cs L a ccd cl outer) (call (.ref 205) [.ref c, .str OCS u1, .int 3 u2, .int 8 u3]) Q E s := by
  have hcd := cur_ne N hc (upd_mem U)
  obtain ⟨rest, hr1, hr2, hr3⟩ := news_turn U
  have N2 := cur_news N hc hr2
  clear N
  (k_with "exec While BoolOp cons nil" => (with_unfolding_all refine ksw_while (σ := Nat × Int × Int × Tok × Tok × Tok) (fun q => (c, instObj 222 d) :: (d, curD h1 h2 t1 t2 t3 TX (q.1 : Int) q.2.2.2.1) :: rest) (fun q => [(PySem.Str.ofString "code", .int q.2.1 q.2.2.2.2.1), (PySem.Str.ofString "taken", .int q.2.2.1 q.2.2.2.2.2)]) (fun _ => True) [] (fun q => ∃ j cd k, CoInv OCS 8 3 n R q.1 q.2.1 q.2.2.1 j cd k) (fun q => (3 - q.2.2.1).toNat) (n, 0, 0, t4, _, _) (by assumption) (by assumption) trivial (by kst_all) ⟨0, 0, _, CoInv.start⟩ (unt6 fun i code taken ta tb tc u9 h9 tk9 _ hp F9 N9 => ?_) ?_; (refine (?_ : let gk := _; gk)); (intro gk); (obtain ⟨j, cd, k, hI⟩ := hp); (dsimp only at hI N9); (refine frk F9 ?_); (clear F9); (intro mk F9); (obtain ⟨hc0, hc1⟩ := hI.le8); (have hta := hI.tk); (have hRi : (tl TX).drop i = R.drop j := by rw [hI.pos]; exact drop_add hR); (rcases hrj : R.drop j with _ | ⟨x, r⟩); (replace hRi := hRi.trans hrj); rotate_left 1; (replace hRi := hRi.trans hrj); (have hne := one_ne_empty' x); (rcases hx : isOc x with _ | _); (have hf := occ_f hx); rotate_left 1; (have hf := occ_t hx); (have hb := hexv_oc hx); (all_goals (try ((refine (?_ : gk)); k_unfold))); (all_goals (try k_fold))))
  (k_with "KswEnd nil" => (refine ksw_end (i + 1, code * 8 + (hexv x : Int), taken + 1, _, _, _) (by assumption) (by assumption) (by with_unfolding_all exact fun _ h => h) trivial (by kst_all) (by ksw_same) ⟨j + 1, cd * 8 + hexv x, k - 1, CoInv.step hI hrj hx (by rw [← hta]; assumption) hb⟩ (by (try dsimp only); omega)))
  refine wpAny_call ?_
  k_dflt walk_at "mine enter"
  walk_at "mine steps"
  all_goals (
    obtain ⟨e1, e2⟩ := hI.stop (by first | exact .inl (by omega) | exact .inr (.inl hrj) | exact .inr (.inr ⟨_, _, hrj, hx⟩))
    have e3 : code.toNat = (codeGo OCS 8 3 R 0).1 := by rw [hI.co, ← e1]; simp
    have N5 := cur_back hr3 (by assumption)
    rw [e2] at N5
    rw [e3]
    exact ret _ _ _ _ (by assumption) N5)
set_option maxHeartbeats 8000000 in
theorem coded16_ok {w : World} {mean : ExcName → Option Value} {mg mb : PySem.Str → Option Value} {dp un : Nat} {gd : Option (List Code)} {cn : PySem.Str} {cs : Scope} {a : Addr} {ccd : Value} {cl : List (PySem.Str × Addr)} {outer : List Env} {A₀ : Around} {base h₀ : Heap} {L : Addr} {m : PySem.Str → Option Value} {s : Shared} {Q E : Value → Shared → Prop} {news : List (Addr × Obj)} (B : Below A₀ base outer h₀) (F : Fr h₀ L s.heap m) (X : (Mine.hd.heap_1_39 w.params).In h₀) (T : Top Mine.hd.view_1_40 lo mean mg mb h₀) (hk : cs.kind = .function) (hdp : dp + 10 < recursionLimit) (hun : un + 100 < cLine) (N : News h₀ L s.heap news) {h1 h2 : Int} {t1 t2 t3 t4 : Tok} {TX : PySem.Str} {n : Nat} {c d : Addr} {R : List Nat} {gg : Obj → List (Addr × Obj)} (hc : (c, instObj 222 d) ∈ news) (U : UpdF d (curD h1 h2 t1 t2 t3 TX n t4) news gg) (hlen : TX.length ≤ 100000) (hR : (tl TX).drop n = R) {u1 u2 u3 : Tok}
  (ret : ∀ (t t' : Tok) (h' : Heap) (tk' : Nat), Fr h₀ L h' m → News h₀ L h' (gg (curD h1 h2 t1 t2 t3 TX ((n + (codeGo HXS 16 2 R 0).2 : Nat) : Int) t')) → Q (.str ⟨#[(codeGo HXS 16 2 R 0).1]⟩ t) { s with heap := h', toks := tk' }) : wpAny (model PySem.Challenge.rw_nn0359_01.row.prog w) (ktrTop dp un gd cn cs L a ccd cl outer) (call (.ref 205) [.ref c, .str HXS u1, .int 2 u2, .int 16 u3]) Q E s := by
  have hcd := cur_ne N hc (upd_mem U)
  obtain ⟨rest, hr1, hr2, hr3⟩ := news_turn U
  have N2 := cur_news N hc hr2
  clear N
  (k_with "exec While BoolOp cons nil" => (with_unfolding_all refine ksw_while (σ := Nat × Int × Int × Tok × Tok × Tok) (fun q => (c, instObj 222 d) :: (d, curD h1 h2 t1 t2 t3 TX (q.1 : Int) q.2.2.2.1) :: rest) (fun q => [(PySem.Str.ofString "code", .int q.2.1 q.2.2.2.2.1), (PySem.Str.ofString "taken", .int q.2.2.1 q.2.2.2.2.2)]) (fun _ => True) [] (fun q => ∃ j cd k, CoInv HXS 16 2 n R q.1 q.2.1 q.2.2.1 j cd k) (fun q => (2 - q.2.2.1).toNat) (n, 0, 0, t4, _, _) (by assumption) (by assumption) trivial (by kst_all) ⟨0, 0, _, CoInv.start⟩ (unt6 fun i code taken ta tb tc u9 h9 tk9 _ hp F9 N9 => ?_) ?_; (refine (?_ : let gk := _; gk)); (intro gk); (obtain ⟨j, cd, k, hI⟩ := hp); (dsimp only at hI N9); (refine frk F9 ?_); (clear F9); (intro mk F9); (obtain ⟨hc0, hc1⟩ := hI.le16); (have hta := hI.tk); (have hRi : (tl TX).drop i = R.drop j := by rw [hI.pos]; exact drop_add hR); (rcases hrj : R.drop j with _ | ⟨x, r⟩); (replace hRi := hRi.trans hrj); rotate_left 1; (replace hRi := hRi.trans hrj); (have hne := one_ne_empty' x); (rcases hx : isHx x with _ | _); (have hf := occ_f hx); rotate_left 1; (have hf := occ_t hx); (have hb := hexv_hx hx); (all_goals (try ((refine (?_ : gk)); k_unfold))); (all_goals (try k_fold))))
  (k_with "KswEnd nil" => (refine ksw_end (i + 1, code * 16 + (hexv x : Int), taken + 1, _, _, _) (by assumption) (by assumption) (by with_unfolding_all exact fun _ h => h) trivial (by kst_all) (by ksw_same) ⟨j + 1, cd * 16 + hexv x, k - 1, CoInv.step hI hrj hx (by rw [← hta]; assumption) hb⟩ (by (try dsimp only); omega)))
  refine wpAny_call ?_
  k_dflt walk_at "mine enter"
  walk_at "mine steps"
  all_goals (
    obtain ⟨e1, e2⟩ := hI.stop (by first | exact .inl (by omega) | exact .inr (.inl hrj) | exact .inr (.inr ⟨_, _, hrj, hx⟩))
    have e3 : code.toNat = (codeGo HXS 16 2 R 0).1 := by rw [hI.co, ← e1]; simp
    have N5 := cur_back hr3 (by assumption)
    rw [e2] at N5
    rw [e3]
    exact ret _ _ _ _ (by assumption) N5)
end Mine
theorem Mine.kw_Coded_1 : True := by
  k_with "call ref" => (k_dflt (show wpAny _ _ (call (Value.ref 205) [_, _, .int 3 _, _]) _ _ _); k_dflt (refine' coded8_ok ?zzB ?zzF ?zzX ?zzT ?zzk ?zzp ?zzu ?zzN ?zzhc ?zzU ?zzhl ?zzhR ?_; walk_at "mine tail"; (case zzhc => k_mem); (case zzU => k_updF); (case zzhl => assumption); (case zzhR => assumption)); intro _ _ h' tk' F' N')
  k_with "call ref" => (k_dflt (show wpAny _ _ (call (Value.ref 205) [_, _, .int 2 _, _]) _ _ _); k_dflt (refine' coded16_ok ?zzB ?zzF ?zzX ?zzT ?zzk ?zzp ?zzu ?zzN ?zzhc ?zzU ?zzhl ?zzhR ?_; walk_at "mine tail"; (case zzhc => k_mem); (case zzU => k_updF); (case zzhl => assumption); (case zzhR => assumption)); intro _ _ h' tk' F' N')
  trivial
end
section
theorem Mine.wr_Escape : True := by
  k_with_none
  k_with "call ref" => k_extra "call ref last"
  k_with "om" => with_reducible first | assumption | exact Nat.add_sub_cancel_left _ _ | exact Int.ofNat_lt.mpr (by assumption) | exact Int.ofNat_le.mpr (by assumption) | exact Int.ofNat_lt.mp (by assumption) | exact Int.ofNat_le.mp (by assumption) | exact o_lt (by assumption) | exact o_nlt (by assumption) | exact o_63 (by assumption) (by assumption) (by with_unfolding_all exact rfl) | exact o_s2 (by assumption) | exact o_s1 (by assumption) (by assumption) | exact o_s3 (by assumption) (by assumption) | exact o_mt (by assumption) | exact o_f1 (by assumption) | exact Nat.le_of_lt (by assumption) | exact Nat.not_le.mp (by assumption) | exact o_sub (by assumption) | exact o_big1 (by assumption) (by with_unfolding_all exact rfl) | exact Nat.le_trans (Nat.le_add_right _ _) (by assumption) | exact Int.natCast_nonneg _ | exact Nat.le_trans (by assumption) (by assumption) | exact o_big (by assumption) (by assumption) (by with_unfolding_all exact rfl) | exact o_ltM (by assumption) (by assumption) | exact o_tr (by assumption) (by assumption) (by assumption) | exact Nat.lt_of_lt_of_le (by assumption) (by assumption) | exact Nat.lt_of_le_of_lt (by assumption) (by assumption) | exact Nat.ne_of_lt (by assumption) | exact Nat.ne_of_gt (by assumption) | exact o_mm (by assumption) | exact o_mm2 (by assumption) (by assumption) | exact o_mn | exact o_ml (by assumption) (by assumption) | exact o_and (by assumption) | rfl
  k_with "kst" => k_extra "mine kst"
  k_with "kst" => k_extra "mine same3"
  k_with "ksw" => k_extra "mine ksw"
  k_with "ksw" => k_extra "mine same"
  k_with "mine enter" => (refine' code_def ?k1q347 ?k2q347 ?k3q347 ?k4q347 ?k5q347 ?kAq347 ?kFq347 ?kKq347 ?k6q347 ?k7q347 ?k8q347 ?k9q347 ?kBq347 ?_ ?c2q347 ?c3q347 ?c4q347 ?c5q347; (case kAq347 => exact rfl); (case kFq347 => exact rfl); (case kKq347 => first | exact rfl | assumption); (case k1q347 => k_asm); (case k2q347 => k_asm); (case k3q347 => k_asm); (case k4q347 => k_asm); (case k5q347 => k_asm); (case k6q347 => k_is); (case k7q347 => k_is); (case k8q347 => first | (refine' rm0 ?rhq347; (case rhq347 => assumption)) | (refine' rm1 ?rhq347 ?rlq347; (case rhq347 => assumption); (case rlq347 => exact rfl)) | (refine' rm2 ?rhq347 ?rlq347; (case rhq347 => assumption); (case rlq347 => exact rfl)) | ktr_room); (case k9q347 => first | exact BindsTo.of_eq rfl | exact binds_K (by k_in) rfl (by k_is) rfl rfl rfl); (case c5q347 => decide); (case kBq347 => exact locs rfl); (case c2q347 => exact rfl); (case c3q347 => exact rfl); (case c4q347 => exact rfl); k_whole; intro g' L' h' FG'; (refine (?_ : let mk := _; Fr _ _ _ mk → _)); intro mk F' N' B' X' T'; (refine (?_ : let nk := _; let ak := _; let qk := _; let ek := _; let sk := _; wpAny _ ak (execs _ nk) qk ek sk)); intro nk ak qk ek sk)
  k_with "subscriptTail Name Attribute str int" => ((with_reducible show wpAny _ _ (subscriptTail _ _ (Value.str _ _) (Value.int _ _)) _ _ _); refine item_str (fitsSsize_of (N := 9223372036854775808) (by omega) (by omega) (Int.le_refl _)) (by omega) (by omega) ?_; intro _)
  k_with "mine inline" => (k_dflt (first | (refine' call_cls ?k1q349 ?k2q349 ?k3q349 ?k4q349 ?k5q349 ?k6q349 ?_; (case k1q349 => k_asm); (case k2q349 => k_asm); (case k3q349 => k_asm); (case k4q349 => k_is); (case k5q349 => k_is); (case k6q349 => k_is); k_whole; intro x' d' h' F' N' l1 l2; (try k_lt l1); (try k_lt2 l2); (try k_sweep); walk_at "mine enter") | (refine wpAny_call ?_; walk_at "mine enter")))
  k_with "ite" => first | with_reducible refine ite_tt ?_ | with_reducible refine ite_ff ?_
  k_with "mine room" => first | (refine' rm2 ?rhq351 ?rlq351; (case rhq351 => assumption); (case rlq351 => exact rfl)) | decide +kernel | omega | (simp only [depth_deeper, units_deeper]; omega) | (dsimp only [ktrTop]; omega) | (dsimp only [Around.deeper, ktrTop]; omega) | ktr_room | ktr_units
  k_with "mine tail" => ((case zzB => k_asm); (case zzF => k_asm); (case zzX => k_asm); (case zzT => k_asm); (case zzN => k_asm); (case zzk => first | exact rfl | assumption); (case zzp => walk_at "mine room"); (case zzu => walk_at "mine room"))
  k_with "isTrue Compare" => (k_here; first | ((with_reducible show wpAny _ _ (isTrue (PySem.Expr.Compare (PySem.Expr.Name _ _) [PySem.CmpOp.Eq] [PySem.Expr.Constant (PySem.Const.str _) _ _] _) _ _) _ _ _); k_dflt (refine' tst_eq ?zaq353 ?zbq353 ?zcq353 ?zmq353 ?zFq353 ?zvq353 ?_; (case zFq353 => k_asm); (case zaq353 => rfl); (case zbq353 => rfl); (case zcq353 => decide); (case zvq353 => rfl); (case zmq353 => with_unfolding_all rfl); k_whole)) | ((with_reducible show wpAny _ _ (isTrue (PySem.Expr.Compare (PySem.Expr.Name _ _) [PySem.CmpOp.NotEq] [PySem.Expr.Constant (PySem.Const.str _) _ _] _) _ _) _ _ _); k_dflt (refine' tst_ne ?zaq353 ?zbq353 ?zcq353 ?zmq353 ?zFq353 ?zvq353 ?_; (case zFq353 => k_asm); (case zaq353 => rfl); (case zbq353 => rfl); (case zcq353 => decide); (case zvq353 => rfl); (case zmq353 => with_unfolding_all rfl); k_whole)))
  k_with "eval BinOp" => (k_here; (with_reducible show wpAny _ _ (eval (PySem.Expr.BinOp (PySem.Expr.Name _ _) PySem.Operator.Add (PySem.Expr.Constant (PySem.Const.int _) _ _) _) _) _ _ _); k_dflt (refine' add_nc ?zaq354 ?zbq354 ?zcq354 ?zFq354 ?zvq354 ?_; (case zFq354 => k_asm); (case zaq354 => rfl); (case zbq354 => rfl); (case zcq354 => decide); (case zvq354 => rfl); k_whole))
  k_with "mine steps" => repeat' (first | ((first | (fail_if_success (fail_if_success k_unfold)) | (fail_if_success (fail_if_success k_fold))); (refine (?_ : let qk := _; let sk := _; wpAny _ _ _ qk _ sk)); intro qk sk) | ((fail_if_success (fail_if_success k_unfold)); (refine (?_ : let sk := _; LeaveK _ _ _ _ _ _ sk)); intro sk) | (k_unfold; (try dsimp only)) | walk1 | (k_end; wrow_close) | (dsimp only [List.nil_append, List.cons_append]; walk1) | (leave1; (try dsimp only)) | fail "no step")
  k_with "execs cons" => (with_reducible refine wpAny_execs_cons ?_)
  k_with "eval Name" => (k_dflt (refine' nmL ?zaq357 ?zbq357 ?zdq357 ?zFq357 ?zvq357 ?_; (case zFq357 => k_asm); (case zaq357 => rfl); (case zbq357 => rfl); (case zvq357 => rfl); (case zdq357 => decide); k_whole))
  k_with "storeName" => (k_dflt (refine' stL ?zaq358 ?zbq358 ?zFq358 ?zNq358 ?_; (case zFq358 => k_asm); (case zNq358 => k_asm); (case zaq358 => rfl); (case zbq358 => rfl); k_whole; intro h' mk F' N'; (try k_sweep)))
  k_with "LeaveK" => (k_dflt (refine' leaveK_ ?k1q359 ?k2q359 ?_; (case k1q359 => k_asm); (case k2q359 => k_asm); k_whole); intro kF kN; (try dsimp only [InitBack]); (try refine ⟨rfl, ?_⟩))
  k_with "mine kst" => (intro z h1 h2 h3; (try dsimp +zetaDelta only [kstB]); (try simp only [List.forall_mem_cons, List.not_mem_nil, false_implies, implies_true, and_true, ne_eq] at h2); first | rfl | (simp [h1]; done) | (simp [h1, h2]; done) | ((try simp only [List.contains_cons, List.contains_nil, Bool.or_false, Bool.or_eq_false_iff, beq_eq_false_iff_ne, ne_eq] at h3); first | (simp [h1, h3]; done) | (simp [h1, h2, h3]; done)))
  k_with "mine same3" => (k_dflt (refine sn_end3 ?_; (repeat (first | (with_reducible exact sn_refl) | (refine' sn_in ?_ ?hpq361 ?hsq361; (case hpq361 => exact rfl); (case hsq361 => exact rfl)) | (refine' sn_upd ?_ ?hxq361; (case hxq361 => exact rfl)))); done))
  k_with "mine ksw" => (intro z h2 h3; (try dsimp +zetaDelta only [kstB]); (try simp only [List.forall_mem_cons, List.not_mem_nil, false_implies, implies_true, and_true, ne_eq] at h2); (try simp only [List.contains_cons, List.contains_nil, Bool.or_false, Bool.or_eq_false_iff, beq_eq_false_iff_ne, ne_eq] at h3); first | rfl | (simp [h2]; done) | (simp [h3]; done) | (simp [h2, h3]; done))
  k_with "mine same" => (k_dflt (refine sn_end ?_; (repeat (first | (with_reducible exact sn_refl) | (refine' sn_in ?_ ?hpq363 ?hsq363; (case hpq363 => exact rfl); (case hsq363 => exact rfl)) | (refine' sn_upd ?_ ?hxq363; (case hxq363 => exact rfl)))); done))
  w_top off
  trivial
theorem Mine.kw_mEscape_1 : True := by
  k_with "call type:int" => ((with_reducible show wpAny _ _ (call (Value.type "int") [Value.str _ _, Value.int _ _]) _ _ _); refine call_int16 (by first | assumption | exact isHx_mem (by assumption) | exact isOc_isHx (by assumption)) ?_)
  k_with "call ref" => (k_dflt (show wpAny _ _ (call (Value.ref 119) [_]) _ _ _); k_dflt (refine' is_done_ok ?zzB ?zzF ?zzX ?zzT ?zzk ?zzp ?zzu ?zzN ?zzhc ?zzhd ?zzhl ?zzhR ?_; walk_at "mine tail"; (case zzhc => k_mem); (case zzhd => k_mem); (case zzhl => assumption); (case zzhR => assumption)); (intro _ h' tk' F' N'); (try simp only [List.isEmpty_cons, List.isEmpty_nil]))
  k_with "call ref" => (k_dflt (show wpAny _ _ (call (Value.ref 127) [_]) _ _ _); k_dflt (refine' peek_ok ?zzB ?zzF ?zzX ?zzT ?zzk ?zzp ?zzu ?zzN ?zzhc ?zzhd ?zzhl ?zzhR ?zzhx ?_; walk_at "mine tail"; (case zzhc => k_mem); (case zzhd => k_mem); (case zzhl => assumption); (case zzhR => assumption); (case zzhx => exact rfl)); intro _ h' tk' F' N')
  k_with "call ref" => (k_dflt (show wpAny _ _ (call (Value.ref 127) [_]) _ _ _); k_dflt (refine' peekE_ok ?zzB ?zzF ?zzX ?zzT ?zzk ?zzp ?zzu ?zzN ?zzhc ?zzhd ?zzhl ?zzhR ?zzhx ?_; walk_at "mine tail"; (case zzhc => k_mem); (case zzhd => k_mem); (case zzhl => assumption); (case zzhR => assumption); (case zzhx => exact rfl)); intro _ h' tk' F' N')
  k_with "call ref" => (k_dflt (show wpAny _ _ (call (Value.ref 127) [_, _]) _ _ _); k_dflt (refine' peek1_ok ?zzB ?zzF ?zzX ?zzT ?zzk ?zzp ?zzu ?zzN ?zzhc ?zzhd ?zzhl ?zzhR ?zzhx ?_; walk_at "mine tail"; (case zzhc => k_mem); (case zzhd => k_mem); (case zzhl => assumption); (case zzhR => assumption); (case zzhx => exact rfl)); intro _ h' tk' F' N')
  k_with "call ref" => (k_dflt (show wpAny _ _ (call (Value.ref 127) [_, _]) _ _ _); k_dflt (refine' peek1E_ok ?zzB ?zzF ?zzX ?zzT ?zzk ?zzp ?zzu ?zzN ?zzhc ?zzhd ?zzhl ?zzhR ?zzhx ?_; walk_at "mine tail"; (case zzhc => k_mem); (case zzhd => k_mem); (case zzhl => assumption); (case zzhR => assumption); (case zzhx => exact rfl)); intro _ h' tk' F' N')
  k_with "call ref" => (k_dflt (show wpAny _ _ (call (Value.ref 141) [_]) _ _ _); k_dflt (refine' take_ok ?zzB ?zzF ?zzX ?zzT ?zzk ?zzp ?zzu ?zzN ?zzhc ?zzU ?zzhl ?zzhR ?zzhx ?_; walk_at "mine tail"; (case zzhc => k_mem); (case zzU => k_updF); (case zzhl => assumption); (case zzhR => assumption); (case zzhx => exact rfl)); intro _ _ h' tk' F' N')
  k_with "call ref" => (k_dflt (show wpAny _ _ (call (Value.ref 148) [_, _]) _ _ _); k_dflt (refine' skip_no ?zzB ?zzF ?zzX ?zzT ?zzk ?zzp ?zzu ?zzN ?zzhc ?zzhd ?zzhl ?zzhR ?zzhx ?zzhw ?_; walk_at "mine tail"; (case zzhc => k_mem); (case zzhd => k_mem); (case zzhl => assumption); (case zzhR => assumption); (case zzhx => decide); (case zzhw => exact rfl)); intro _ h' tk' F' N')
  k_with "call ref" => (k_dflt (show wpAny _ _ (call (Value.ref 148) [_, _]) _ _ _); k_dflt (refine' skip_yes ?zzB ?zzF ?zzX ?zzT ?zzk ?zzp ?zzu ?zzN ?zzhc ?zzU ?zzhl ?zzhR ?zzhx ?zzhw ?_; walk_at "mine tail"; (case zzhc => k_mem); (case zzU => k_updF); (case zzhl => assumption); (case zzhR => assumption); (case zzhx => exact rfl); (case zzhw => exact rfl)); intro _ _ h' tk' F' N')
  k_with "call ref" => (k_dflt (show wpAny _ _ (call (Value.ref 155) [_, _]) _ _ _); k_dflt (refine' take_while_ok ?zzB ?zzF ?zzX ?zzT ?zzk ?zzp ?zzu ?zzN ?zzhc ?zzU ?zzhl ?zzhR ?zzhn ?zzhw ?_; walk_at "mine tail"; (case zzhc => k_mem); (case zzU => k_updF); (case zzhl => assumption); (case zzhR => assumption); (case zzhn => assumption); (case zzhw => decide +kernel)); intro _ _ h' tk' F' N')
  k_with "call ref" => (k_dflt (show wpAny _ _ (call (Value.ref 170) [_]) _ _ _); k_dflt (refine' skip_blanks_ok ?zzB ?zzF ?zzX ?zzT ?zzk ?zzp ?zzu ?zzN ?zzhc ?zzU ?zzhl ?zzhR ?zzhn ?_; walk_at "mine tail"; (case zzhc => k_mem); (case zzU => k_updF); (case zzhl => assumption); (case zzhR => assumption); (case zzhn => assumption)); intro _ _ h' tk' F' N')
  k_with "call ref" => (k_dflt (show wpAny _ _ (call (Value.ref 177) [_]) _ _ _); k_dflt (refine' name_ok ?zzB ?zzF ?zzX ?zzT ?zzk ?zzp ?zzu ?zzN ?zzhc ?zzU ?zzhl ?zzhR ?zzhn ?_; walk_at "mine tail"; (case zzhc => k_mem); (case zzU => k_updF); (case zzhl => assumption); (case zzhR => assumption); (case zzhn => assumption)); intro _ _ h' tk' F' N')
  k_with "call ref" => (k_dflt (show wpAny _ _ (call (Value.ref 205) [_, _, .int 3 _, _]) _ _ _); k_dflt (refine' coded8_ok ?zzB ?zzF ?zzX ?zzT ?zzk ?zzp ?zzu ?zzN ?zzhc ?zzU ?zzhl ?zzhR ?_; walk_at "mine tail"; (case zzhc => k_mem); (case zzU => k_updF); (case zzhl => assumption); (case zzhR => assumption)); intro _ _ h' tk' F' N')
  k_with "call ref" => (k_dflt (show wpAny _ _ (call (Value.ref 205) [_, _, .int 2 _, _]) _ _ _); k_dflt (refine' coded16_ok ?zzB ?zzF ?zzX ?zzT ?zzk ?zzp ?zzu ?zzN ?zzhc ?zzU ?zzhl ?zzhR ?_; walk_at "mine tail"; (case zzhc => k_mem); (case zzU => k_updF); (case zzhl => assumption); (case zzhR => assumption)); intro _ _ h' tk' F' N')
  trivial
namespace Mine
set_option maxHeartbeats 8000000 in
theorem escapeE_ok {w : World} {mean : ExcName → Option Value} {mg mb : PySem.Str → Option Value} {dp un : Nat} {gd : Option (List Code)} {cn : PySem.Str} {cs : Scope} {a : Addr} {ccd : Value} {cl : List (PySem.Str × Addr)} {outer : List Env} {A₀ : Around} {base h₀ : Heap} {L : Addr} {m : PySem.Str → Option Value} {s : Shared} {Q E : Value → Shared → Prop} {news : List (Addr × Obj)} (B : Below A₀ base outer h₀) (F : Fr h₀ L s.heap m) (X : (Mine.hd.heap_1_39 w.params).In h₀) (T : Top Mine.hd.view_1_40 lo mean mg mb h₀) (hk : cs.kind = .function) (hdp : dp + 15 < recursionLimit) (hun : un + 150 < cLine) (N : News h₀ L s.heap news) {h1 h2 : Int} {t1 t2 t3 t4 : Tok} {TX : PySem.Str} {n : Nat} {c d : Addr} {R : List Nat} (hc : (c, instObj 222 d) ∈ news) (hd : (d, curD h1 h2 t1 t2 t3 TX n t4) ∈ news) (hlen : TX.length ≤ 100000) (hR : (tl TX).drop n = R) (hx : R = [])
  (ret : ∀ (t : Tok) (h' : Heap) (tk' : Nat), Fr h₀ L h' m → News h₀ L h' news → Q (.str (PySem.Str.ofString "") t) { s with heap := h', toks := tk' }) : wpAny (model PySem.Challenge.rw_nn0359_01.row.prog w) (ktrTop dp un gd cn cs L a ccd cl outer) (call (.ref 212) [.ref c]) Q E s := by
  subst hx
  refine wpAny_call ?_
  k_dflt walk_at "mine enter"
  walk_at "mine steps"
  exact ret _ _ _ (by assumption) (by assumption)
set_option maxHeartbeats 8000000 in
theorem escape_ok {w : World} {mean : ExcName → Option Value} {mg mb : PySem.Str → Option Value} {dp un : Nat} {gd : Option (List Code)} {cn : PySem.Str} {cs : Scope} {a : Addr} {ccd : Value} {cl : List (PySem.Str × Addr)} {outer : List Env} {A₀ : Around} {base h₀ : Heap} {L : Addr} {m : PySem.Str → Option Value} {s : Shared} {Q E : Value → Shared → Prop} {news : List (Addr × Obj)} (B : Below A₀ base outer h₀) (F : Fr h₀ L s.heap m) (X : (Mine.hd.heap_1_39 w.params).In h₀) (T : Top Mine.hd.view_1_40 lo mean mg mb h₀) (hk : cs.kind = .function) (hdp : dp + 15 < recursionLimit) (hun : un + 150 < cLine) (N : News h₀ L s.heap news) {h1 h2 : Int} {t1 t2 t3 t4 : Tok} {TX : PySem.Str} {n : Nat} {c d : Addr} {R : List Nat} {gg : Obj → List (Addr × Obj)} (hc : (c, instObj 222 d) ∈ news) (U : UpdF d (curD h1 h2 t1 t2 t3 TX n t4) news gg) (hlen : TX.length ≤ 100000) (hR : (tl TX).drop n = R) {x : Nat} {r : List Nat} (hx : R = x :: r)
  (ret : ∀ (t t' : Tok) (h' : Heap) (tk' : Nat), Fr h₀ L h' m → News h₀ L h' (gg (curD h1 h2 t1 t2 t3 TX ((n + (escR (x :: r)).2 : Nat) : Int) t')) → Q (.str ⟨#[(escR (x :: r)).1]⟩ t) { s with heap := h', toks := tk' }) : wpAny (model PySem.Challenge.rw_nn0359_01.row.prog w) (ktrTop dp un gd cn cs L a ccd cl outer) (call (.ref 212) [.ref c]) Q E s := by
  have hcd := cur_ne N hc (upd_mem U)
  obtain ⟨rest, hr1, hr2, hr3⟩ := news_turn U
  have N2 := cur_news N hc hr2
  clear N
  subst hx
  have hne := one_ne_empty x
  have hR1 := (drop_cons_get hR).2
  (k_with "compareOp In str ref" => (k_dflt (first | ((fail_if_success (have := hp)); (refine (?_ : let gk := _; gk)); (intro gk); (rcases plain_at w x with ⟨hp, hin⟩ | ⟨v, tv, hp, hv, hin⟩); (all_goals ((refine (?_ : gk)); k_unfold))) | ((refine' topIn_K ?F1 ?X1 ?l1 ?k1 hin ?o1 ?_; (case F1 => k_asm); (case X1 => k_asm); (case l1 => k_is); (case k1 => k_keys); (case o1 => decide)); dsimp only [Option.isSome]))))
  (k_with "subscriptTail" => (k_dflt (refine' topItem_K ?F2 ?X2 ?l2 ?k2 hin ?_; (case F2 => k_asm); (case X2 => k_asm); (case l2 => k_is); (case k2 => k_keys))))
  (k_with "compareOp In str str" => k_dflt ((fail_if_success (have := hoc)); (refine (?_ : let gk := _; gk)); (intro gk); (rcases hoc : isOc x with _ | _); (have hf := occ_f hoc); rotate_left; (have hf := occ_t hoc); rotate_left; (all_goals ((refine (?_ : gk)); k_unfold))))
  (k_with "compareOp In str str" => k_dflt ((have := hoc); (fail_if_success (have := hy)); (refine (?_ : let gk := _; gk)); (intro gk); (rcases hy : isHx y with _ | _); (have hg := occ_f hy); rotate_left; (have hg := occ_t hy); rotate_left; (all_goals ((refine (?_ : gk)); k_unfold))))
  (k_with "truthy bool" => k_dflt ((with_reducible show wpAny _ _ (truthy (Value.bool (_ == PySem.Str.ofString "x"))) _ _ _); (fail_if_success (have := hxx)); (refine (?_ : let gk := _; gk)); (intro gk); (by_cases hx : x = 120); (have hxx := E_xx hx); rotate_left; (have hxx := E_xf hx); rotate_left; (all_goals ((refine (?_ : gk)); k_unfold))))
  (k_with "call ref" => ((with_reducible show wpAny _ _ (call _ _) _ _ _); k_dflt (show wpAny _ _ (call (Value.ref 127) [_, _]) _ _ _); (fail_if_success (have := hrr)); (refine (?_ : let gk := _; gk)); (intro gk); (rcases r with _ | ⟨y, r⟩); (have hrr := True.intro); rotate_left; (have hrr := True.intro); (have hne' := one_ne_empty' y); rotate_left; (all_goals ((refine (?_ : gk)); k_unfold))))
  refine wpAny_call ?_
  k_dflt walk_at "mine enter"
  walk_at "mine steps"
  all_goals first
    | (rw [E_p hp] at ret; exact ret _ _ _ _ (by assumption) (cur_back hr3 (by assumption)))
    | (rw [E_o hp hoc] at ret; exact ret _ _ _ _ (by assumption) (cur_back hr3 (by assumption)))
    | (rw [E_1 hp hoc hx hy, E_n1] at ret; exact ret _ _ _ _ (by assumption) (cur_back hr3 (by assumption)))
    | (rw [E_0 hp hoc hy] at ret; exact ret _ _ _ _ (by assumption) (cur_back hr3 (by assumption)))
    | (rw [E_n hp hoc] at ret; exact ret _ _ _ _ (by assumption) (cur_back hr3 (by assumption)))
    | (rw [E_y hp hoc hx] at ret; exact ret _ _ _ _ (by assumption) (cur_back hr3 (by assumption)))
end Mine
theorem Mine.kw_Escape_1 : True := by
  k_with "call ref" => (k_dflt (show wpAny _ _ (call (Value.ref 212) [_]) _ _ _); k_dflt (refine' escape_ok ?zzB ?zzF ?zzX ?zzT ?zzk ?zzp ?zzu ?zzN ?zzhc ?zzU ?zzhl ?zzhR ?zzhx ?_; walk_at "mine tail"; (case zzhc => k_mem); (case zzU => k_updF); (case zzhl => assumption); (case zzhR => assumption); (case zzhx => exact rfl)); intro _ _ h' tk' F' N')
  k_with "call ref" => (k_dflt (show wpAny _ _ (call (Value.ref 212) [_]) _ _ _); k_dflt (refine' escapeE_ok ?zzB ?zzF ?zzX ?zzT ?zzk ?zzp ?zzu ?zzN ?zzhc ?zzhd ?zzhl ?zzhR ?zzhx ?_; walk_at "mine tail"; (case zzhc => k_mem); (case zzhd => k_mem); (case zzhl => assumption); (case zzhR => assumption); (case zzhx => exact rfl)); intro _ h' tk' F' N')
  trivial
end
section
theorem Mine.wr_Quoted : True := by
  k_with_none
  k_with "call ref" => k_extra "call ref last"
  k_with "om" => with_reducible first | assumption | exact Nat.add_sub_cancel_left _ _ | exact Int.ofNat_lt.mpr (by assumption) | exact Int.ofNat_le.mpr (by assumption) | exact Int.ofNat_lt.mp (by assumption) | exact Int.ofNat_le.mp (by assumption) | exact o_lt (by assumption) | exact o_nlt (by assumption) | exact o_63 (by assumption) (by assumption) (by with_unfolding_all exact rfl) | exact o_s2 (by assumption) | exact o_s1 (by assumption) (by assumption) | exact o_s3 (by assumption) (by assumption) | exact o_mt (by assumption) | exact o_f1 (by assumption) | exact Nat.le_of_lt (by assumption) | exact Nat.not_le.mp (by assumption) | exact o_sub (by assumption) | exact o_big1 (by assumption) (by with_unfolding_all exact rfl) | exact Nat.le_trans (Nat.le_add_right _ _) (by assumption) | exact Int.natCast_nonneg _ | exact Nat.le_trans (by assumption) (by assumption) | exact o_big (by assumption) (by assumption) (by with_unfolding_all exact rfl) | exact o_ltM (by assumption) (by assumption) | exact o_tr (by assumption) (by assumption) (by assumption) | exact Nat.lt_of_lt_of_le (by assumption) (by assumption) | exact Nat.lt_of_le_of_lt (by assumption) (by assumption) | exact Nat.ne_of_lt (by assumption) | exact Nat.ne_of_gt (by assumption) | exact o_mm (by assumption) | exact o_mm2 (by assumption) (by assumption) | exact o_mn | exact o_ml (by assumption) (by assumption) | exact o_and (by assumption) | rfl
  k_with "kst" => k_extra "mine kst"
  k_with "kst" => k_extra "mine same3"
  k_with "ksw" => k_extra "mine ksw"
  k_with "ksw" => k_extra "mine same"
  k_with "mine enter" => (refine' code_def ?k1q379 ?k2q379 ?k3q379 ?k4q379 ?k5q379 ?kAq379 ?kFq379 ?kKq379 ?k6q379 ?k7q379 ?k8q379 ?k9q379 ?kBq379 ?_ ?c2q379 ?c3q379 ?c4q379 ?c5q379; (case kAq379 => exact rfl); (case kFq379 => exact rfl); (case kKq379 => first | exact rfl | assumption); (case k1q379 => k_asm); (case k2q379 => k_asm); (case k3q379 => k_asm); (case k4q379 => k_asm); (case k5q379 => k_asm); (case k6q379 => k_is); (case k7q379 => k_is); (case k8q379 => first | (refine' rm0 ?rhq379; (case rhq379 => assumption)) | (refine' rm1 ?rhq379 ?rlq379; (case rhq379 => assumption); (case rlq379 => exact rfl)) | (refine' rm2 ?rhq379 ?rlq379; (case rhq379 => assumption); (case rlq379 => exact rfl)) | ktr_room); (case k9q379 => first | exact BindsTo.of_eq rfl | exact binds_K (by k_in) rfl (by k_is) rfl rfl rfl); (case c5q379 => decide); (case kBq379 => exact locs rfl); (case c2q379 => exact rfl); (case c3q379 => exact rfl); (case c4q379 => exact rfl); k_whole; intro g' L' h' FG'; (refine (?_ : let mk := _; Fr _ _ _ mk → _)); intro mk F' N' B' X' T'; (refine (?_ : let nk := _; let ak := _; let qk := _; let ek := _; let sk := _; wpAny _ ak (execs _ nk) qk ek sk)); intro nk ak qk ek sk)
  k_with "subscriptTail Name Attribute str int" => ((with_reducible show wpAny _ _ (subscriptTail _ _ (Value.str _ _) (Value.int _ _)) _ _ _); refine item_str (fitsSsize_of (N := 9223372036854775808) (by omega) (by omega) (Int.le_refl _)) (by omega) (by omega) ?_; intro _)
  k_with "mine inline" => (k_dflt (first | (refine' call_cls ?k1q381 ?k2q381 ?k3q381 ?k4q381 ?k5q381 ?k6q381 ?_; (case k1q381 => k_asm); (case k2q381 => k_asm); (case k3q381 => k_asm); (case k4q381 => k_is); (case k5q381 => k_is); (case k6q381 => k_is); k_whole; intro x' d' h' F' N' l1 l2; (try k_lt l1); (try k_lt2 l2); (try k_sweep); walk_at "mine enter") | (refine wpAny_call ?_; walk_at "mine enter")))
  k_with "ite" => first | with_reducible refine ite_tt ?_ | with_reducible refine ite_ff ?_
  k_with "mine room" => first | (refine' rm2 ?rhq383 ?rlq383; (case rhq383 => assumption); (case rlq383 => exact rfl)) | decide +kernel | omega | (simp only [depth_deeper, units_deeper]; omega) | (dsimp only [ktrTop]; omega) | (dsimp only [Around.deeper, ktrTop]; omega) | ktr_room | ktr_units
  k_with "mine tail" => ((case zzB => k_asm); (case zzF => k_asm); (case zzX => k_asm); (case zzT => k_asm); (case zzN => k_asm); (case zzk => first | exact rfl | assumption); (case zzp => walk_at "mine room"); (case zzu => walk_at "mine room"))
  k_with "isTrue Compare" => (k_here; first | ((with_reducible show wpAny _ _ (isTrue (PySem.Expr.Compare (PySem.Expr.Name _ _) [PySem.CmpOp.Eq] [PySem.Expr.Constant (PySem.Const.str _) _ _] _) _ _) _ _ _); k_dflt (refine' tst_eq ?zaq385 ?zbq385 ?zcq385 ?zmq385 ?zFq385 ?zvq385 ?_; (case zFq385 => k_asm); (case zaq385 => rfl); (case zbq385 => rfl); (case zcq385 => decide); (case zvq385 => rfl); (case zmq385 => with_unfolding_all rfl); k_whole)) | ((with_reducible show wpAny _ _ (isTrue (PySem.Expr.Compare (PySem.Expr.Name _ _) [PySem.CmpOp.NotEq] [PySem.Expr.Constant (PySem.Const.str _) _ _] _) _ _) _ _ _); k_dflt (refine' tst_ne ?zaq385 ?zbq385 ?zcq385 ?zmq385 ?zFq385 ?zvq385 ?_; (case zFq385 => k_asm); (case zaq385 => rfl); (case zbq385 => rfl); (case zcq385 => decide); (case zvq385 => rfl); (case zmq385 => with_unfolding_all rfl); k_whole)))
  k_with "eval BinOp" => (k_here; (with_reducible show wpAny _ _ (eval (PySem.Expr.BinOp (PySem.Expr.Name _ _) PySem.Operator.Add (PySem.Expr.Constant (PySem.Const.int _) _ _) _) _) _ _ _); k_dflt (refine' add_nc ?zaq386 ?zbq386 ?zcq386 ?zFq386 ?zvq386 ?_; (case zFq386 => k_asm); (case zaq386 => rfl); (case zbq386 => rfl); (case zcq386 => decide); (case zvq386 => rfl); k_whole))
  k_with "mine steps" => repeat' (first | ((first | (fail_if_success (fail_if_success k_unfold)) | (fail_if_success (fail_if_success k_fold))); (refine (?_ : let qk := _; let sk := _; wpAny _ _ _ qk _ sk)); intro qk sk) | ((fail_if_success (fail_if_success k_unfold)); (refine (?_ : let sk := _; LeaveK _ _ _ _ _ _ sk)); intro sk) | (k_unfold; (try dsimp only)) | walk1 | (k_end; wrow_close) | (dsimp only [List.nil_append, List.cons_append]; walk1) | (leave1; (try dsimp only)) | fail "no step")
  k_with "execs cons" => (with_reducible refine wpAny_execs_cons ?_)
  k_with "eval Name" => (k_dflt (refine' nmL ?zaq389 ?zbq389 ?zdq389 ?zFq389 ?zvq389 ?_; (case zFq389 => k_asm); (case zaq389 => rfl); (case zbq389 => rfl); (case zvq389 => rfl); (case zdq389 => decide); k_whole))
  k_with "storeName" => (k_dflt (refine' stL ?zaq390 ?zbq390 ?zFq390 ?zNq390 ?_; (case zFq390 => k_asm); (case zNq390 => k_asm); (case zaq390 => rfl); (case zbq390 => rfl); k_whole; intro h' mk F' N'; (try k_sweep)))
  k_with "LeaveK" => (k_dflt (refine' leaveK_ ?k1q391 ?k2q391 ?_; (case k1q391 => k_asm); (case k2q391 => k_asm); k_whole); intro kF kN; (try dsimp only [InitBack]); (try refine ⟨rfl, ?_⟩))
  k_with "mine kst" => (intro z h1 h2 h3; (try dsimp +zetaDelta only [kstB]); (try simp only [List.forall_mem_cons, List.not_mem_nil, false_implies, implies_true, and_true, ne_eq] at h2); first | rfl | (simp [h1]; done) | (simp [h1, h2]; done) | ((try simp only [List.contains_cons, List.contains_nil, Bool.or_false, Bool.or_eq_false_iff, beq_eq_false_iff_ne, ne_eq] at h3); first | (simp [h1, h3]; done) | (simp [h1, h2, h3]; done)))
  k_with "mine same3" => (k_dflt (refine sn_end3 ?_; (repeat (first | (with_reducible exact sn_refl) | (refine' sn_in ?_ ?hpq393 ?hsq393; (case hpq393 => exact rfl); (case hsq393 => exact rfl)) | (refine' sn_upd ?_ ?hxq393; (case hxq393 => exact rfl)))); done))
  k_with "mine ksw" => (intro z h2 h3; (try dsimp +zetaDelta only [kstB]); (try simp only [List.forall_mem_cons, List.not_mem_nil, false_implies, implies_true, and_true, ne_eq] at h2); (try simp only [List.contains_cons, List.contains_nil, Bool.or_false, Bool.or_eq_false_iff, beq_eq_false_iff_ne, ne_eq] at h3); first | rfl | (simp [h2]; done) | (simp [h3]; done) | (simp [h2, h3]; done))
  k_with "mine same" => (k_dflt (refine sn_end ?_; (repeat (first | (with_reducible exact sn_refl) | (refine' sn_in ?_ ?hpq395 ?hsq395; (case hpq395 => exact rfl); (case hsq395 => exact rfl)) | (refine' sn_upd ?_ ?hxq395; (case hxq395 => exact rfl)))); done))
  w_top off
  trivial
theorem Mine.kw_mQuoted_1 : True := by
  k_with "call type:int" => ((with_reducible show wpAny _ _ (call (Value.type "int") [Value.str _ _, Value.int _ _]) _ _ _); refine call_int16 (by first | assumption | exact isHx_mem (by assumption) | exact isOc_isHx (by assumption)) ?_)
  k_with "call ref" => (k_dflt (show wpAny _ _ (call (Value.ref 119) [_]) _ _ _); k_dflt (refine' is_done_ok ?zzB ?zzF ?zzX ?zzT ?zzk ?zzp ?zzu ?zzN ?zzhc ?zzhd ?zzhl ?zzhR ?_; walk_at "mine tail"; (case zzhc => k_mem); (case zzhd => k_mem); (case zzhl => assumption); (case zzhR => assumption)); (intro _ h' tk' F' N'); (try simp only [List.isEmpty_cons, List.isEmpty_nil]))
  k_with "call ref" => (k_dflt (show wpAny _ _ (call (Value.ref 127) [_]) _ _ _); k_dflt (refine' peek_ok ?zzB ?zzF ?zzX ?zzT ?zzk ?zzp ?zzu ?zzN ?zzhc ?zzhd ?zzhl ?zzhR ?zzhx ?_; walk_at "mine tail"; (case zzhc => k_mem); (case zzhd => k_mem); (case zzhl => assumption); (case zzhR => assumption); (case zzhx => exact rfl)); intro _ h' tk' F' N')
  k_with "call ref" => (k_dflt (show wpAny _ _ (call (Value.ref 127) [_]) _ _ _); k_dflt (refine' peekE_ok ?zzB ?zzF ?zzX ?zzT ?zzk ?zzp ?zzu ?zzN ?zzhc ?zzhd ?zzhl ?zzhR ?zzhx ?_; walk_at "mine tail"; (case zzhc => k_mem); (case zzhd => k_mem); (case zzhl => assumption); (case zzhR => assumption); (case zzhx => exact rfl)); intro _ h' tk' F' N')
  k_with "call ref" => (k_dflt (show wpAny _ _ (call (Value.ref 127) [_, _]) _ _ _); k_dflt (refine' peek1_ok ?zzB ?zzF ?zzX ?zzT ?zzk ?zzp ?zzu ?zzN ?zzhc ?zzhd ?zzhl ?zzhR ?zzhx ?_; walk_at "mine tail"; (case zzhc => k_mem); (case zzhd => k_mem); (case zzhl => assumption); (case zzhR => assumption); (case zzhx => exact rfl)); intro _ h' tk' F' N')
  k_with "call ref" => (k_dflt (show wpAny _ _ (call (Value.ref 127) [_, _]) _ _ _); k_dflt (refine' peek1E_ok ?zzB ?zzF ?zzX ?zzT ?zzk ?zzp ?zzu ?zzN ?zzhc ?zzhd ?zzhl ?zzhR ?zzhx ?_; walk_at "mine tail"; (case zzhc => k_mem); (case zzhd => k_mem); (case zzhl => assumption); (case zzhR => assumption); (case zzhx => exact rfl)); intro _ h' tk' F' N')
  k_with "call ref" => (k_dflt (show wpAny _ _ (call (Value.ref 141) [_]) _ _ _); k_dflt (refine' take_ok ?zzB ?zzF ?zzX ?zzT ?zzk ?zzp ?zzu ?zzN ?zzhc ?zzU ?zzhl ?zzhR ?zzhx ?_; walk_at "mine tail"; (case zzhc => k_mem); (case zzU => k_updF); (case zzhl => assumption); (case zzhR => assumption); (case zzhx => exact rfl)); intro _ _ h' tk' F' N')
  k_with "call ref" => (k_dflt (show wpAny _ _ (call (Value.ref 148) [_, _]) _ _ _); k_dflt (refine' skip_no ?zzB ?zzF ?zzX ?zzT ?zzk ?zzp ?zzu ?zzN ?zzhc ?zzhd ?zzhl ?zzhR ?zzhx ?zzhw ?_; walk_at "mine tail"; (case zzhc => k_mem); (case zzhd => k_mem); (case zzhl => assumption); (case zzhR => assumption); (case zzhx => decide); (case zzhw => exact rfl)); intro _ h' tk' F' N')
  k_with "call ref" => (k_dflt (show wpAny _ _ (call (Value.ref 148) [_, _]) _ _ _); k_dflt (refine' skip_yes ?zzB ?zzF ?zzX ?zzT ?zzk ?zzp ?zzu ?zzN ?zzhc ?zzU ?zzhl ?zzhR ?zzhx ?zzhw ?_; walk_at "mine tail"; (case zzhc => k_mem); (case zzU => k_updF); (case zzhl => assumption); (case zzhR => assumption); (case zzhx => exact rfl); (case zzhw => exact rfl)); intro _ _ h' tk' F' N')
  k_with "call ref" => (k_dflt (show wpAny _ _ (call (Value.ref 155) [_, _]) _ _ _); k_dflt (refine' take_while_ok ?zzB ?zzF ?zzX ?zzT ?zzk ?zzp ?zzu ?zzN ?zzhc ?zzU ?zzhl ?zzhR ?zzhn ?zzhw ?_; walk_at "mine tail"; (case zzhc => k_mem); (case zzU => k_updF); (case zzhl => assumption); (case zzhR => assumption); (case zzhn => assumption); (case zzhw => decide +kernel)); intro _ _ h' tk' F' N')
  k_with "call ref" => (k_dflt (show wpAny _ _ (call (Value.ref 170) [_]) _ _ _); k_dflt (refine' skip_blanks_ok ?zzB ?zzF ?zzX ?zzT ?zzk ?zzp ?zzu ?zzN ?zzhc ?zzU ?zzhl ?zzhR ?zzhn ?_; walk_at "mine tail"; (case zzhc => k_mem); (case zzU => k_updF); (case zzhl => assumption); (case zzhR => assumption); (case zzhn => assumption)); intro _ _ h' tk' F' N')
  k_with "call ref" => (k_dflt (show wpAny _ _ (call (Value.ref 177) [_]) _ _ _); k_dflt (refine' name_ok ?zzB ?zzF ?zzX ?zzT ?zzk ?zzp ?zzu ?zzN ?zzhc ?zzU ?zzhl ?zzhR ?zzhn ?_; walk_at "mine tail"; (case zzhc => k_mem); (case zzU => k_updF); (case zzhl => assumption); (case zzhR => assumption); (case zzhn => assumption)); intro _ _ h' tk' F' N')
  k_with "call ref" => (k_dflt (show wpAny _ _ (call (Value.ref 205) [_, _, .int 3 _, _]) _ _ _); k_dflt (refine' coded8_ok ?zzB ?zzF ?zzX ?zzT ?zzk ?zzp ?zzu ?zzN ?zzhc ?zzU ?zzhl ?zzhR ?_; walk_at "mine tail"; (case zzhc => k_mem); (case zzU => k_updF); (case zzhl => assumption); (case zzhR => assumption)); intro _ _ h' tk' F' N')
  k_with "call ref" => (k_dflt (show wpAny _ _ (call (Value.ref 205) [_, _, .int 2 _, _]) _ _ _); k_dflt (refine' coded16_ok ?zzB ?zzF ?zzX ?zzT ?zzk ?zzp ?zzu ?zzN ?zzhc ?zzU ?zzhl ?zzhR ?_; walk_at "mine tail"; (case zzhc => k_mem); (case zzU => k_updF); (case zzhl => assumption); (case zzhR => assumption)); intro _ _ h' tk' F' N')
  k_with "call ref" => (k_dflt (show wpAny _ _ (call (Value.ref 212) [_]) _ _ _); k_dflt (refine' escape_ok ?zzB ?zzF ?zzX ?zzT ?zzk ?zzp ?zzu ?zzN ?zzhc ?zzU ?zzhl ?zzhR ?zzhx ?_; walk_at "mine tail"; (case zzhc => k_mem); (case zzU => k_updF); (case zzhl => assumption); (case zzhR => assumption); (case zzhx => exact rfl)); intro _ _ h' tk' F' N')
  k_with "call ref" => (k_dflt (show wpAny _ _ (call (Value.ref 212) [_]) _ _ _); k_dflt (refine' escapeE_ok ?zzB ?zzF ?zzX ?zzT ?zzk ?zzp ?zzu ?zzN ?zzhc ?zzhd ?zzhl ?zzhR ?zzhx ?_; walk_at "mine tail"; (case zzhc => k_mem); (case zzhd => k_mem); (case zzhl => assumption); (case zzhR => assumption); (case zzhx => exact rfl)); intro _ h' tk' F' N')
  trivial
namespace Mine
set_option maxHeartbeats 8000000 in
theorem quoted_ok {w : World} {mean : ExcName → Option Value} {mg mb : PySem.Str → Option Value} {dp un : Nat} {gd : Option (List Code)} {cn : PySem.Str} {cs : Scope} {a : Addr} {ccd : Value} {cl : List (PySem.Str × Addr)} {outer : List Env} {A₀ : Around} {base h₀ : Heap} {L : Addr} {m : PySem.Str → Option Value} {s : Shared} {Q E : Value → Shared → Prop} {news : List (Addr × Obj)} (B : Below A₀ base outer h₀) (F : Fr h₀ L s.heap m) (X : (Mine.hd.heap_1_39 w.params).In h₀) (T : Top Mine.hd.view_1_40 lo mean mg mb h₀) (hk : cs.kind = .function) (hdp : dp + 20 < recursionLimit) (hun : un + 200 < cLine) (N : News h₀ L s.heap news) {h1 h2 : Int} {t1 t2 t3 t4 : Tok} {TX : PySem.Str} {n : Nat} {c d : Addr} {R : List Nat} {gg : Obj → List (Addr × Obj)} (hc : (c, instObj 222 d) ∈ news) (U : UpdF d (curD h1 h2 t1 t2 t3 TX n t4) news gg) (hlen : TX.length ≤ 100000) (hR : (tl TX).drop n = R) {u1 : Tok} (hn : n ≤ TX.length)
  (retS : ∀ (acc : List Nat) (e : Nat), quoR R n = some (acc, e) → ∀ (t t' : Tok) (h' : Heap) (tk' : Nat), Fr h₀ L h' m → News h₀ L h' (gg (curD h1 h2 t1 t2 t3 TX ((e : Nat) : Int) t')) → Q (.str (tx acc) t) { s with heap := h', toks := tk' })
  (retN : quoR R n = none → ∀ (e : Nat), ∀ (t t' : Tok) (h' : Heap) (tk' : Nat), Fr h₀ L h' m → News h₀ L h' (gg (curD h1 h2 t1 t2 t3 TX ((e : Nat) : Int) t')) → Q (.none) { s with heap := h', toks := tk' }) : wpAny (model PySem.Challenge.rw_nn0359_01.row.prog w) (ktrTop dp un gd cn cs L a ccd cl outer) (call (.ref 219) [.ref c, .str (PySem.Str.ofString "'") u1]) Q E s := by
  have hcd := cur_ne N hc (upd_mem U)
  obtain ⟨rest, hr1, hr2, hr3⟩ := news_turn U
  have N2 := cur_news N hc hr2
  clear N
  (k_with "exec While UnaryOp cons nil" => (with_unfolding_all refine ksw_while (σ := List Value × List Nat × Nat × Nat × Nat × Tok) (fun q => (_, listOf q.1.toArray q.2.2.2.2.1) :: (c, instObj 222 d) :: (d, curD h1 h2 t1 t2 t3 TX (q.2.2.1 : Int) q.2.2.2.2.2) :: rest) (fun _ => []) (fun _ => True) [PySem.Str.ofString "sign"] (fun q => q.2.2.1 ≤ TX.length ∧ QInv TX (quoR R n) q.1 q.2.1 q.2.2.1 q.2.2.2.1) (fun q => q.2.2.2.1) ([], [], n, R.length + 1, 0, t4) (by assumption) (by assumption) trivial (fun _ h => nomatch h) ⟨hn, QInv.start hR⟩ (unt6 fun vs acc i f nn t9 u9 h9 tk9 _ hp F9 N9 => ?_) ?_; (refine (?_ : let gk := _; gk)); (intro gk); (have hi := hp.1); (have hI := hp.2); (clear hp); (dsimp only at hi hI N9); (refine frk F9 ?_); (clear F9); (intro mk F9); (have hvl := hI.len); (have hle := hI.le); (have hvb : vs.length ≤ 100000 := by omega); (have hf0 := hI.fu); (rcases q_cases TX i hi with hRi | ⟨x, r, hRi, hlt, h39, hq⟩ | ⟨x, r, hRi, hR1, hlt, h39, hq, h92, hb⟩ | ⟨x, hRi, hR1, hlt, h39, hq, h92, hb⟩ | ⟨x, y, r, hRi, hR1, hel, h39, hq, h92, hb, hne⟩); (all_goals (try ((refine (?_ : gk)); k_unfold))); (all_goals (try k_fold))))
  (k_with "KswEnd cons" => (rename News _ _ _ _ => nE'; (try simp only [List.push_toArray] at nE'); first | (refine ksw_end (_, acc ++ [x], i + 1, f - 1, _, _) (by assumption) nE' (by with_unfolding_all exact fun _ h => h) trivial (fun _ h => nomatch h) (by ksw_same) ⟨by (try dsimp only); omega, QInv.plain hI hRi h39 h92⟩ (by (try dsimp only); omega)) | (refine ksw_end (_, acc ++ [(escR (y :: r)).1], i + 1 + (escR (y :: r)).2, f - 1, _, _) (by assumption) nE' (by with_unfolding_all exact fun _ h => h) trivial (fun _ h => nomatch h) (by ksw_same) ⟨by (try dsimp only); omega, QInv.esc hI hRi h92⟩ (by (try dsimp only); omega))))
  (k_with "call builtin:str.join" => (((refine join_signs (by assumption) (by k_mem) hI.vs (by omega) ?_); intro _ _)))
  refine wpAny_call ?_
  k_dflt walk_at "mine enter"
  walk_at "mine steps"
  · exact retN (hI.nil hRi) _ 0 _ _ _ (by assumption) (cur_back hr3 (news_tl (by assumption)))
  · exact retS _ _ (hI.stop hRi h39) _ _ _ _ (by assumption) (cur_back hr3 (news_tl (by assumption)))
  · exact retN (hI.cut hRi h92) _ 0 _ _ _ (by assumption) (cur_back hr3 (news_tl (by assumption)))
end Mine
theorem Mine.kw_Quoted_1 : True := by
  k_with "call ref" => ((with_reducible show wpAny _ _ (call _ _) _ _ _); k_dflt (show wpAny _ _ (call (Value.ref 219) [_, _]) _ _ _); k_dflt (refine' quoted_ok ?Bq378 ?Fq378 ?Xq378 ?Tq378 ?kq378 ?dpq378 ?unq378 ?Nq378 ?hcq378 ?Uq378 ?hlq378 ?hRq378 ?hnq378 ?_ ?_; (case Bq378 => k_asm); (case Fq378 => k_asm); (case Xq378 => k_asm); (case Tq378 => k_asm); (case Nq378 => k_asm); (case kq378 => first | exact rfl | assumption); (case hcq378 => k_mem); (case Uq378 => k_updF); (case hlq378 => assumption); (case hRq378 => assumption); (case hnq378 => assumption); (case dpq378 => walk_at "mine room"); (case unq378 => walk_at "mine room")); (all_goals first | (intro _ _ hQ' _ _ h' tk' F' N') | (intro hQ' _ _ _ h' tk' F' N')))
  trivial
end
section
theorem Mine.wr_Pos : True := by
  k_with_none
  k_with "call ref" => k_extra "call ref last"
  k_with "om" => with_reducible first | assumption | exact Nat.add_sub_cancel_left _ _ | exact Int.ofNat_lt.mpr (by assumption) | exact Int.ofNat_le.mpr (by assumption) | exact Int.ofNat_lt.mp (by assumption) | exact Int.ofNat_le.mp (by assumption) | exact o_lt (by assumption) | exact o_nlt (by assumption) | exact o_63 (by assumption) (by assumption) (by with_unfolding_all exact rfl) | exact o_s2 (by assumption) | exact o_s1 (by assumption) (by assumption) | exact o_s3 (by assumption) (by assumption) | exact o_mt (by assumption) | exact o_f1 (by assumption) | exact Nat.le_of_lt (by assumption) | exact Nat.not_le.mp (by assumption) | exact o_sub (by assumption) | exact o_big1 (by assumption) (by with_unfolding_all exact rfl) | exact Nat.le_trans (Nat.le_add_right _ _) (by assumption) | exact Int.natCast_nonneg _ | exact Nat.le_trans (by assumption) (by assumption) | exact o_big (by assumption) (by assumption) (by with_unfolding_all exact rfl) | exact o_ltM (by assumption) (by assumption) | exact o_tr (by assumption) (by assumption) (by assumption) | exact Nat.lt_of_lt_of_le (by assumption) (by assumption) | exact Nat.lt_of_le_of_lt (by assumption) (by assumption) | exact Nat.ne_of_lt (by assumption) | exact Nat.ne_of_gt (by assumption) | exact o_mm (by assumption) | exact o_mm2 (by assumption) (by assumption) | exact o_mn | exact o_ml (by assumption) (by assumption) | exact o_and (by assumption) | rfl
  k_with "kst" => k_extra "mine kst"
  k_with "kst" => k_extra "mine same3"
  k_with "ksw" => k_extra "mine ksw"
  k_with "ksw" => k_extra "mine same"
  k_with "mine enter" => (refine' code_def ?k1q413 ?k2q413 ?k3q413 ?k4q413 ?k5q413 ?kAq413 ?kFq413 ?kKq413 ?k6q413 ?k7q413 ?k8q413 ?k9q413 ?kBq413 ?_ ?c2q413 ?c3q413 ?c4q413 ?c5q413; (case kAq413 => exact rfl); (case kFq413 => exact rfl); (case kKq413 => first | exact rfl | assumption); (case k1q413 => k_asm); (case k2q413 => k_asm); (case k3q413 => k_asm); (case k4q413 => k_asm); (case k5q413 => k_asm); (case k6q413 => k_is); (case k7q413 => k_is); (case k8q413 => first | (refine' rm0 ?rhq413; (case rhq413 => assumption)) | (refine' rm1 ?rhq413 ?rlq413; (case rhq413 => assumption); (case rlq413 => exact rfl)) | (refine' rm2 ?rhq413 ?rlq413; (case rhq413 => assumption); (case rlq413 => exact rfl)) | ktr_room); (case k9q413 => first | exact BindsTo.of_eq rfl | exact binds_K (by k_in) rfl (by k_is) rfl rfl rfl); (case c5q413 => decide); (case kBq413 => exact locs rfl); (case c2q413 => exact rfl); (case c3q413 => exact rfl); (case c4q413 => exact rfl); k_whole; intro g' L' h' FG'; (refine (?_ : let mk := _; Fr _ _ _ mk → _)); intro mk F' N' B' X' T'; (refine (?_ : let nk := _; let ak := _; let qk := _; let ek := _; let sk := _; wpAny _ ak (execs _ nk) qk ek sk)); intro nk ak qk ek sk)
  k_with "subscriptTail Name Attribute str int" => ((with_reducible show wpAny _ _ (subscriptTail _ _ (Value.str _ _) (Value.int _ _)) _ _ _); refine item_str (fitsSsize_of (N := 9223372036854775808) (by omega) (by omega) (Int.le_refl _)) (by omega) (by omega) ?_; intro _)
  k_with "mine inline" => (k_dflt (first | (refine' call_cls ?k1q415 ?k2q415 ?k3q415 ?k4q415 ?k5q415 ?k6q415 ?_; (case k1q415 => k_asm); (case k2q415 => k_asm); (case k3q415 => k_asm); (case k4q415 => k_is); (case k5q415 => k_is); (case k6q415 => k_is); k_whole; intro x' d' h' F' N' l1 l2; (try k_lt l1); (try k_lt2 l2); (try k_sweep); walk_at "mine enter") | (refine wpAny_call ?_; walk_at "mine enter")))
  k_with "ite" => first | with_reducible refine ite_tt ?_ | with_reducible refine ite_ff ?_
  k_with "mine room" => first | (refine' rm2 ?rhq417 ?rlq417; (case rhq417 => assumption); (case rlq417 => exact rfl)) | decide +kernel | omega | (simp only [depth_deeper, units_deeper]; omega) | (dsimp only [ktrTop]; omega) | (dsimp only [Around.deeper, ktrTop]; omega) | ktr_room | ktr_units
  k_with "mine tail" => ((case zzB => k_asm); (case zzF => k_asm); (case zzX => k_asm); (case zzT => k_asm); (case zzN => k_asm); (case zzk => first | exact rfl | assumption); (case zzp => walk_at "mine room"); (case zzu => walk_at "mine room"))
  k_with "isTrue Compare" => (k_here; first | ((with_reducible show wpAny _ _ (isTrue (PySem.Expr.Compare (PySem.Expr.Name _ _) [PySem.CmpOp.Eq] [PySem.Expr.Constant (PySem.Const.str _) _ _] _) _ _) _ _ _); k_dflt (refine' tst_eq ?zaq419 ?zbq419 ?zcq419 ?zmq419 ?zFq419 ?zvq419 ?_; (case zFq419 => k_asm); (case zaq419 => rfl); (case zbq419 => rfl); (case zcq419 => decide); (case zvq419 => rfl); (case zmq419 => with_unfolding_all rfl); k_whole)) | ((with_reducible show wpAny _ _ (isTrue (PySem.Expr.Compare (PySem.Expr.Name _ _) [PySem.CmpOp.NotEq] [PySem.Expr.Constant (PySem.Const.str _) _ _] _) _ _) _ _ _); k_dflt (refine' tst_ne ?zaq419 ?zbq419 ?zcq419 ?zmq419 ?zFq419 ?zvq419 ?_; (case zFq419 => k_asm); (case zaq419 => rfl); (case zbq419 => rfl); (case zcq419 => decide); (case zvq419 => rfl); (case zmq419 => with_unfolding_all rfl); k_whole)))
  k_with "eval BinOp" => (k_here; (with_reducible show wpAny _ _ (eval (PySem.Expr.BinOp (PySem.Expr.Name _ _) PySem.Operator.Add (PySem.Expr.Constant (PySem.Const.int _) _ _) _) _) _ _ _); k_dflt (refine' add_nc ?zaq420 ?zbq420 ?zcq420 ?zFq420 ?zvq420 ?_; (case zFq420 => k_asm); (case zaq420 => rfl); (case zbq420 => rfl); (case zcq420 => decide); (case zvq420 => rfl); k_whole))
  k_with "mine steps" => repeat' (first | ((first | (fail_if_success (fail_if_success k_unfold)) | (fail_if_success (fail_if_success k_fold))); (refine (?_ : let qk := _; let sk := _; wpAny _ _ _ qk _ sk)); intro qk sk) | ((fail_if_success (fail_if_success k_unfold)); (refine (?_ : let sk := _; LeaveK _ _ _ _ _ _ sk)); intro sk) | (k_unfold; (try dsimp only)) | walk1 | (k_end; wrow_close) | (dsimp only [List.nil_append, List.cons_append]; walk1) | (leave1; (try dsimp only)) | fail "no step")
  k_with "execs cons" => (with_reducible refine wpAny_execs_cons ?_)
  k_with "eval Name" => (k_dflt (refine' nmL ?zaq423 ?zbq423 ?zdq423 ?zFq423 ?zvq423 ?_; (case zFq423 => k_asm); (case zaq423 => rfl); (case zbq423 => rfl); (case zvq423 => rfl); (case zdq423 => decide); k_whole))
  k_with "storeName" => (k_dflt (refine' stL ?zaq424 ?zbq424 ?zFq424 ?zNq424 ?_; (case zFq424 => k_asm); (case zNq424 => k_asm); (case zaq424 => rfl); (case zbq424 => rfl); k_whole; intro h' mk F' N'; (try k_sweep)))
  k_with "LeaveK" => (k_dflt (refine' leaveK_ ?k1q425 ?k2q425 ?_; (case k1q425 => k_asm); (case k2q425 => k_asm); k_whole); intro kF kN; (try dsimp only [InitBack]); (try refine ⟨rfl, ?_⟩))
  k_with "mine kst" => (intro z h1 h2 h3; (try dsimp +zetaDelta only [kstB]); (try simp only [List.forall_mem_cons, List.not_mem_nil, false_implies, implies_true, and_true, ne_eq] at h2); first | rfl | (simp [h1]; done) | (simp [h1, h2]; done) | ((try simp only [List.contains_cons, List.contains_nil, Bool.or_false, Bool.or_eq_false_iff, beq_eq_false_iff_ne, ne_eq] at h3); first | (simp [h1, h3]; done) | (simp [h1, h2, h3]; done)))
  k_with "mine same3" => (k_dflt (refine sn_end3 ?_; (repeat (first | (with_reducible exact sn_refl) | (refine' sn_in ?_ ?hpq427 ?hsq427; (case hpq427 => exact rfl); (case hsq427 => exact rfl)) | (refine' sn_upd ?_ ?hxq427; (case hxq427 => exact rfl)))); done))
  k_with "mine ksw" => (intro z h2 h3; (try dsimp +zetaDelta only [kstB]); (try simp only [List.forall_mem_cons, List.not_mem_nil, false_implies, implies_true, and_true, ne_eq] at h2); (try simp only [List.contains_cons, List.contains_nil, Bool.or_false, Bool.or_eq_false_iff, beq_eq_false_iff_ne, ne_eq] at h3); first | rfl | (simp [h2]; done) | (simp [h3]; done) | (simp [h2, h3]; done))
  k_with "mine same" => (k_dflt (refine sn_end ?_; (repeat (first | (with_reducible exact sn_refl) | (refine' sn_in ?_ ?hpq429 ?hsq429; (case hpq429 => exact rfl); (case hsq429 => exact rfl)) | (refine' sn_upd ?_ ?hxq429; (case hxq429 => exact rfl)))); done))
  w_top off
  trivial
namespace Mine
set_option maxHeartbeats 8000000 in
theorem pos_ok {w : World} {mean : ExcName → Option Value} {mg mb : PySem.Str → Option Value} {dp un : Nat} {gd : Option (List Code)} {cn : PySem.Str} {cs : Scope} {a : Addr} {ccd : Value} {cl : List (PySem.Str × Addr)} {outer : List Env} {A₀ : Around} {base h₀ : Heap} {L : Addr} {m : PySem.Str → Option Value} {s : Shared} {Q E : Value → Shared → Prop} {news : List (Addr × Obj)} (B : Below A₀ base outer h₀) (F : Fr h₀ L s.heap m) (X : (Mine.hd.heap_1_39 w.params).In h₀) (T : Top Mine.hd.view_1_40 lo mean mg mb h₀) (hk : cs.kind = .function) (hdp : dp + 15 < recursionLimit) (hun : un + 150 < cLine) (N : News h₀ L s.heap news) {TX : PySem.Str} {j : Nat} {u1 u2 : Tok} (hlen : TX.length ≤ 100000) (hj : j ≤ TX.length) (hnl : (10 : Nat) ∉ tl TX)
  (ret : ∀ (x dx : Addr) (h1 h2 h3 : Int) (t1 t2 t3 t4 t5 t6 : Tok) (cv : Int) (h' : Heap) (tk' : Nat), cv = (j : Int) + 1 → Fr h₀ L h' m → News h₀ L h' ((x, instObj 46 dx) :: (dx, posD h1 h2 h3 t1 t2 t3 t4 t5 t6 j cv) :: news) → (∀ p ∈ news, p.1 < dx) → dx < x → Q (.ref x) { s with heap := h', toks := tk' }) :
  wpAny (model PySem.Challenge.rw_nn0359_01.row.prog w) (ktrTop dp un gd cn cs L a ccd cl outer) (call (.ref 57) [.str TX u1, .int j u2]) Q E s := by
  (k_with "call ref last" => ((walk_at "mine inline")))
  have hmm : (if (TX.length : Int) < (if 0 > (j : Int) then 0 else (j : Int)) then (TX.length : Int) else if 0 > (j : Int) then 0 else (j : Int)) = (j : Int) := by
    rw [if_neg (show ¬ (0 > (j : Int)) by omega), if_neg (by omega)]
  (k_with "storeName" => (rw [hmm]))
  (k_with "pyIter ref" => (((rename IsRange _ _ _ _ _ _ _ _ => rgX); (with_unfolding_all refine kst_range (n := j) (σ := Unit) (fun _ => _) (fun _ => []) (fun _ => True) [] (fun pre _ => True) () (by rfl) (by exact rgX) (by exact small_one (by omega) (by omega) (by omega) (by omega)) (by first | exact rangeSize_nat _ _ | rfl | trace_state) (by assumption) (by assumption) trivial (fun _ h => nomatch h) trivial (fun q9 pre k t u9 h9 tk9 own hk9 hpl hoff _ _ F9 N9 => ?_) (fun q9 u9 h9 tk9 _ _ F9 N9 => ?_)); (have hnk := nl_ne hnl (i := pre.length) (by omega)); (rw [hk9, Int.zero_add] at F9); (simp only [kstB, List.contains_nil, Bool.false_eq_true, if_false] at F9); (all_goals (try k_fold)))))
  (k_with "InvEndN" => ((refine kst_end () (by assumption) (by assumption) (fun p hp => List.mem_append_left _ hp) (fun p hp => List.mem_append_right _ hp) rfl trivial (fun _ h => nomatch h) (by intro z h1 h2 h3; simp [h1]) trivial)))
  refine wpAny_call ?_
  k_dflt walk_at "mine enter"
  walk_at "mine steps"
  rename _ < _ => l2
  refine ret _ _ _ _ _ _ _ _ _ _ _ _ _ _ ?_ (by assumption) (by assumption) (by assumption) l2
  omega
end Mine
theorem Mine.kw_Pos_1 : True := by
  k_with "call ref" => (k_dflt (show wpAny _ _ (call (Value.ref 57) [_, _]) _ _ _); k_dflt (refine' pos_ok ?zzB ?zzF ?zzX ?zzT ?zzk ?zzp ?zzu ?zzN ?zzhl ?zzhj ?zzhnl ?_; walk_at "mine tail"; (case zzhl => assumption); (case zzhj => assumption); (case zzhnl => assumption)); (intro x' d' _ _ _ _ _ _ _ _ _ cv' h' tk' ecv' F' N' l1 l2); (try k_lt l1); (try k_lt2 l2))
  trivial
end
section
set_option maxRecDepth 100000
namespace Mine
open PySem.Calls
set_option maxRecDepth 100000
/-- what stands behind LexError in its order of classes -/
noncomputable abbrev lexTail : List Value := [.ref 82, .type "Exception", .type "BaseException", .type "object"]
/-- the class LexError as the head leaves it -/
noncomputable abbrev lexO : Obj := excClassObj (PySem.Str.ofString "LexError") (PySem.Str.ofString "LexError") 95 94 [.ref 82] lexTail true [] [] false none none (some (.ref 86)) none (some (.str (PySem.Str.ofString "LexError") 326)) (some (.str (PySem.Str.ofString "LexError") 334)) (some (.bool true)) "Exception.__new__"
theorem look95 (w : World) : (Mine.hd.heap_1_39 w.params).lookup 95 = some lexO := by k_is
theorem lex_hasE : (Value.ref 95 :: lexTail).contains (.type "Exception") = true := by decide +kernel
theorem lex_noA : (Value.ref 95 :: lexTail).contains (.type "AttributeError") = false := by decide +kernel
theorem lex_noN : (Value.ref 95 :: lexTail).contains (.type "NameError") = false := by decide +kernel
theorem lex_own : (Value.ref 95 :: lexTail).contains (.ref 95) = true := by decide +kernel
/-- an exception of that class, just made -/
noncomputable abbrev excO (t : Addr) (dd : Option Addr) : Obj := { cls := .ref 95, dict := dd, data := .fields #[.ref t, .none, .none, .none, .bool false, .none] }
noncomputable abbrev tupO (vs : List Value) : Obj := { cls := .type "tuple", data := .seq vs.toArray }

section
variable {M : Model} {A : Around} {E : Value → Shared → Prop} {h : Heap} {g : Array GenState} {d : Drawn} {t : Nat} {os : OsState}
theorem lex_check_new {rest : List Value} {Q : Unit → Shared → Prop} (hC : h.get? 95 = some lexO) (hq : Q () ⟨h, g, d, t, os⟩) :
    wpAny M A (checkBuiltinCall "Exception.__new__" ⟨.ref 95 :: rest, []⟩) Q E ⟨h, g, d, t, os⟩ := by
  have F := F.excBase_Exception
  have hstar := F.noStar
  simp only [checkBuiltinCall, F.newKind, F.newSplit, F.newRow]
  repeat (first | refine wpAny_loadPart_at hC ?_ | (refine wpAny_isSubtype_exc hC ?_; rw [lex_hasE]) | refine wpAny_staticBase_exc hC ?_ | refine wpAny_madeBy_exc hC ?_ | simp only [bne_self_eq_false, Bool.false_eq_true, if_false] | wp_step)
  exact hq
end
section
variable {prog : Program} {w : World} {A : Around} {R : Result → Shared → Prop} {h : Heap} {g : Array GenState} {d : Drawn} {t : Nat} {os : OsState}
theorem lex_new {rest : List Value} (hC : h.get? 95 = some lexO)
    (hq : R (.ok (.ret (.ref (h.objs.size + 1)))) ⟨(h.push (tupO rest)).push (excO h.objs.size none), g, d, t, os⟩) (hrest : rest.length ≤ sizeLine) :
    codeAny (model prog w) A (.builtin "Exception.__new__" ⟨.ref 95 :: rest, []⟩) R ⟨h, g, d, t, os⟩ := by
  have F := F.excBase_Exception
  have hends := F.ends
  refine codeAny_builtinAt F.entry ?_
  unfold Builtin.«BaseException.__new__»
  refine PySem.wpAt_bind ?_
  show PySem.wpAt _ _ _ (stack >>= _) _ _ _
  refine PySem.wpAt_bind (PySem.wpAt_stack fun p below => PySem.wpAt_of_wpAny ?_)
  wp_walk
  refine PySem.wpAt_of_wpAny ?_
  rw [F.owner]
  repeat (first | with_reducible refine wpAny_madeHere_exc F.canon hC ?_ | with_reducible refine wpAny_loadPart_at hC ?_ | (with_reducible refine wpAny_isSubtype_exc hC ?_; first | rw [lex_hasE] | rw [lex_noA] | rw [lex_noN]) | wp_step)
  show R _ _
  rw [Heap.size_push]
  exact hq
theorem lex_make {rest : List Value} (hC : h.get? 95 = some lexO) {K : Frag} (X : K.In h) (hi : findIn K (.ref 95) "__init__" = some (some (.ref 72))) (hf : typeIn K (.ref 72) = some (.type "function")) (hs : mroIn K 95 (.ref 95) = some true) (hrest : rest.length ≤ sizeLine)
    (hq : codeAny (model prog w) (A.under (.builtin "type.__call__" ⟨.ref 95 :: rest, []⟩)) (.call (.ref 72) ⟨.ref (h.objs.size + 1) :: rest, []⟩) (InitBack (h.objs.size + 1) R) ⟨(h.push (tupO rest)).push (excO h.objs.size none), g, d, t, os⟩) :
    codeAny (model prog w) A (.call (.ref 95) ⟨rest, []⟩) R ⟨h, g, d, t, os⟩ := by
  have FE := F.excBase_Exception
  have f1 := tc_lookup
  have f2 := tc_bind (.ref 95)
  have hT : (⟨h, g, d, t, os⟩ : Shared).TypeIs (.ref 95) "type" := ⟨_, hC, rfl⟩
  refine codeAny_of_tree ?_
  show wpAny _ _ (callAny (.ref 95) _) _ _ _
  repeat (any_goals (first | assumption | with_reducible refine wpAny_loadPart_at hC ?_ | wp_step))
  refine ⟨rfl, ?_⟩
  refine codeAny_call_builtin_at (Code.quiet_builtin _ (by decide +kernel)) entry_typeCall (wpAny_check_type_call_sub hC ?_)
  unfold Builtin.«type.__call__»
  repeat (first | with_reducible refine wpAny_loadPart_at hC ?_ | with_reducible refine wpAny_madeBy_exc hC ?_ | wp_step)
  refine codeAny_call_builtin_code (Code.quiet_builtin _ FE.quiet) (lex_check_new hC ?_)
  refine lex_new hC ?_ hrest
  show wpAny _ _ _ _ _ ⟨(h.push (tupO rest)).push (excO h.objs.size none), g, d, t, os⟩
  have k : ∀ b o, h.get? b = some o → ((h.push (tupO rest)).push (excO h.objs.size none)).get? b = some o := fun b o e => Heap.get?_push_of_some _ (Heap.get?_push_of_some _ e)
  have hx : ((h.push (tupO rest)).push (excO h.objs.size none)).get? (h.objs.size + 1) = some (excO h.objs.size none) := by heap_get
  have t1 : Looks (model prog w) ((h.push (tupO rest)).push (excO h.objs.size none)) (typeOf (.ref (h.objs.size + 1))) (.ref 95) := (Looks.ld hx).andThen .now
  have s1 := (looks_mroIn (M := model prog w) X hs).keeps k
  have i1 := (looks_findIn (M := model prog w) X hi).keeps k
  have b1 := (bind_fn (M := model prog w) X (.ref (h.objs.size + 1)) hf).keeps k
  unfold isInstance callSpecial? specialOf
  repeat (first | with_reducible refine wpAny_call ?_ | lk)
  refine codeAny_mono hq fun r s' z => ?_
  rcases r with e | (v | _ | _ | _) <;> first | exact z | exact z.elim | skip
  obtain ⟨rfl, z⟩ := z
  exact wpAny_pure (wpAny_pure z)
end
end Mine
namespace Mine
theorem lex_call {prog : Program} {w : World} {A : Around} {E : Value → Shared → Prop} {s : Shared} {h₀ : Heap} {L : Addr} {m : PySem.Str → Option Value} {news : List (Addr × Obj)} {rest : List Value} {Q : Value → Shared → Prop} {K : Frag}
    (F : Fr h₀ L s.heap m) (N : News h₀ L s.heap news) (X₀ : K.In h₀) (hC : K.lookup 95 = some lexO) (hi : findIn K (.ref 95) "__init__" = some (some (.ref 72))) (hf : typeIn K (.ref 72) = some (.type "function")) (hs : mroIn K 95 (.ref 95) = some true) (hrest : rest.length ≤ sizeLine)
    (h : ∀ e t h', Fr h₀ L h' m → News h₀ L h' ((e, excO t none) :: (t, tupO rest) :: news) → (∀ p ∈ news, p.1 < t) → t < e →
      codeAny (model prog w) (A.under (.builtin "type.__call__" ⟨.ref 95 :: rest, []⟩)) (.call (.ref 72) ⟨.ref e :: rest, []⟩) (InitBack e fun r s' => match r with | .ok (.ret v) => Q v s' | .ok _ => False | .error e => E e s') { s with heap := h' }) :
    wpAny (model prog w) A (call (.ref 95) rest) Q E s := by
  obtain ⟨hh, g, d, t, os⟩ := s
  have X := X₀.keeps F.keep
  refine wpAny_call (lex_make (X _ _ hC) X hi hf hs hrest ?_)
  refine h _ hh.objs.size _ ((F.push _).push _) ?_ (fun p hp => Heap.lt_size (N p hp).1) (Nat.lt_succ_self _)
  have := News.push (F.push (tupO rest)) (News.push F N (tupO rest)) (excO hh.objs.size none)
  rw [Heap.size_push] at this
  exact this
end Mine
end
section
set_option maxRecDepth 100000
namespace Mine
open PySem.Calls
section
variable {M : Model} {A : Around} {E : Value → Shared → Prop} {h : Heap} {g : Array GenState} {d : Drawn} {t : Nat} {os : OsState}
theorem lex_check_init {e : Addr} {oe : Obj} {rest : List Value} {Q : Unit → Shared → Prop}
    (hC : h.get? 95 = some lexO) (he : h.get? e = some oe) (hcls : oe.cls = .ref 95) (hq : Q () ⟨h, g, d, t, os⟩) :
    wpAny M A (checkBuiltinCall "Exception.__init__" ⟨.ref e :: rest, []⟩) Q E ⟨h, g, d, t, os⟩ := by
  have F := F.excBase_Exception
  have hshort := F.noStar
  simp only [checkBuiltinCall, F.initKind, F.initSplit, F.initRow]
  repeat (first | (with_reducible refine wpAny_loadPart_at he ?_; rw [hcls]) | with_reducible refine wpAny_loadPart_at hC ?_ | (with_reducible refine wpAny_isSubtype_exc hC ?_; rw [lex_hasE]) | wp_step)
  refine wpAny_onRaise ?_
  rw [show ∀ (a b : String) (n : Nat), Bind.check ⟨.positional, "*", "Exception", .self, [⟨"args", .varPos, false⟩]⟩ a b n (List.map (fun x => x.fst) ({ pos := Value.ref e :: rest } : Args).kw) = pure () from
    fun a b n => check_star_args _ _ _ _ _ _]
  exact wpAny_pure hq
end
section
variable {prog : Program} {w : World} {A : Around} {E : Value → Shared → Prop} {h : Heap} {g : Array GenState} {d : Drawn} {t : Nat} {os : OsState}
theorem lex_init {e ta : Addr} {rest : List Value} {Q : Value → Shared → Prop}
    (hC : h.get? 95 = some lexO) (he : h.get? e = some (excO ta none)) (hrest : rest.length ≤ sizeLine)
    (hq : Q .none ⟨(h.push (tupO rest)).update e (Obj.mapFields (·.setIfInBounds 0 (.ref h.objs.size))), g, d, t, os⟩) :
    wpAny (model prog w) A (call (.builtin "Exception.__init__") (.ref e :: rest)) Q E ⟨h, g, d, t, os⟩ := by
  have F := F.excBase_Exception
  refine wpAny_call (codeAny_call_builtin F.init.plain F.initEntry (lex_check_init hC he rfl ?_))
  wp_walk
  exact hq
end
end Mine
namespace Mine
theorem lex_init_K {prog : Program} {w : World} {A : Around} {E : Value → Shared → Prop} {s : Shared} {h₀ : Heap} {L e ta : Addr} {m : PySem.Str → Option Value} {news : List (Addr × Obj)} {gg : Obj → List (Addr × Obj)} {rest : List Value} {Q : Value → Shared → Prop} {K : Frag}
    (F : Fr h₀ L s.heap m) (N : News h₀ L s.heap news) (X₀ : K.In h₀) (hC : K.lookup 95 = some lexO) (U : UpdF e (excO ta none) news gg) (hrest : rest.length ≤ sizeLine)
    (h : ∀ t h', Fr h₀ L h' m → News h₀ L h' ((t, tupO rest) :: gg (excO t none)) → (∀ p ∈ news, p.1 < t) → Q .none { s with heap := h' }) :
    wpAny (model prog w) A (call (.builtin "Exception.__init__") (.ref e :: rest)) Q E s := by
  obtain ⟨hh, g, d, tk, os⟩ := s
  obtain ⟨pre, post, rfl, hg, h1, h2⟩ := U.split
  have X := X₀.keeps F.keep
  have he : hh.get? e = some (excO ta none) := (N (e, excO ta none) (List.mem_append_right _ (.head _))).1
  refine lex_init (X _ _ hC) he hrest ?_
  have F1 := F.push (tupO rest)
  have N1 := News.push F N (tupO rest)
  have hne : e ≠ hh.objs.size := Nat.ne_of_lt (Heap.lt_size he)
  obtain ⟨F2, N2⟩ := news_upd (pre := (hh.objs.size, tupO rest) :: pre) (post := post) (d := e) (o := excO ta none) (o' := excO hh.objs.size none) (f := Obj.mapFields (·.setIfInBounds 0 (.ref hh.objs.size))) F1 N1
    (fun p hp => by rcases List.mem_cons.mp hp with rfl | hp; exact hne.symm; exact h1 p hp) h2 rfl rfl
  exact h _ _ F2 (by rw [hg]; exact N2) (fun p hp => Heap.lt_size (N p hp).1)
end Mine
end
section
set_option maxRecDepth 100000
namespace Mine
open PySem.Calls PySem.Builtin PySem.Builtin.ObjectAttr PySem.Builtin.Getset_descriptor
theorem lex_refuse (self : Value) : refuseLoop self "__setattr__" (.ref 95 :: lexTail) = pure () := by kernel_rfl
section
variable {prog : Program} {w : World} {A : Around} {E : Value → Shared → Prop} {R : Result → Shared → Prop} {s : Shared} {K : Frag}
theorem lex_osa {x : Addr} {ox : Obj} {od : Option Obj} {name : PySem.Str} {tk : Tok} {v : Value} (X : K.In s.heap) (hC : K.lookup 95 = some lexO) (I : InstAt s.heap x ox 95 od) (hn : findIn K (.ref 95) name = some none)
    (h : wpAny (model prog w) A.in1 (storeInOwnDict (.ref x) (.ref 95) (.str name tk) name v false)
      (fun fin s' => match fin with | .done f => R (.ok f) s' | .again c' => c'.quiet = true ∧ codeAny (model prog w) A c' R s') (fun e s' => R (.error e) s') s) :
    codeAny (model prog w) A (.call (.builtin "object.__setattr__") ⟨[.ref x, .str name tk, v], []⟩) R s := by
  have SF := PySem.F.store_object
  have hc : clsIn K 95 = some { name := PySem.Str.ofString "LexError", bases := [.ref 82], mro := .ref 95 :: lexTail, ns := 94, qualname := PySem.Str.ofString "LexError", hasDict := true, slotNames := [], subclasses := [], abstract := false, collection := none, hasDel := false } := by
    unfold clsIn; rw [hC]
  have sub : Looks (model prog w) s.heap (isInstance (.ref x) (.type "object")) true := I.type.andThen (looks_mroIn X (by unfold mroIn; rw [hc]; rfl))
  refine codeAny_call_builtin SF.slot.plain SF.entry (@check_slot (model prog w) _ _ s "object.__setattr__" "object" "__setattr__" (.ref x) [.str name tk, v] [] _ SF.kind SF.split sub (SF.args (.ref x) (.str name tk) v) ?_)
  have hm : Looks (model prog w) s.heap (mroOf (.ref 95)) (.ref 95 :: lexTail) := (looks_clsIn X hc).andThen .now
  have L3 : Looks (model prog w) s.heap (storeTaker? none) none := .now
  rw [osa_eq, refuse_eq]
  refine wpAny_bind (wpAny_bind (I.type.here (wpAny_bind (hm.here ?_))))
  rw [lex_refuse]
  refine wpAny_pure (wpAny_bind (I.type.here (wpAny_bind ((looks_findIn X hn).here (wpAny_bind (L3.here ?_))))))
  exact h

theorem lex_storeIn {Qf : PySem.Fin → Shared → Prop} {h₀ : Heap} {L d : Addr} {m : PySem.Str → Option Value} {pre post : List (Addr × Obj)} {es es' : List DictEntry} {n n' : Nat} {name : PySem.Str} {tk : Tok} {v : Value}
    (F : Fr h₀ L s.heap m) (N : News h₀ L s.heap (pre ++ (d, dictOf es n) :: post)) (h1 : ∀ p ∈ pre, p.1 ≠ d) (h2 : ∀ p ∈ post, p.1 ≠ d) (hl : (getL name es).isSome = true)
    (e : (putL name (PyData.keyHash w.params name) (.str name s.toks) v es, putN name es n) = (es', n')) (hz : es'.length ≤ 1000)
    (h : ∀ h', Fr h₀ L h' m → News h₀ L h' (pre ++ (d, dictOf es' n') :: post) → Qf (.done (.ret .none)) { s with heap := h', toks := s.toks + 1 }) :
    wpAny (model prog w) A (storeInDict d (.str name tk) name v) Qf E s := by
  obtain ⟨e1, e2⟩ := Prod.mk.inj e
  have ep : Obj.putName name (PyData.keyHash w.params name) (.str name s.toks) v (dictOf es n) = dictOf es' n' := by rw [putName_dict, e1, e2]
  obtain ⟨U1, U2⟩ := news_upd (f := Obj.putName name (PyData.keyHash w.params name) (.str name s.toks) v) F N h1 h2 ep rfl
  have D := (N (d, dictOf es n) (by simp)).1
  have D' := (U2 (d, dictOf es' n') (by simp)).1
  refine wpAny_bind (wpAny_pure (wpAny_bind ?_))
  unfold nsSet
  refine wpAny_bind (wpAny_bind (wpAny_askSetting (wpAny_pure (wpAny_bind (wpAny_mkText (wpAny_bind (wpAny_loadPart D ?_)))))))
  dsimp only
  have c : (!es.toArray.any (·.key.isStr name) && es.toArray.any (·.refKey)) = false := by
    unfold getL at hl
    rw [← Array.any_toList, ← Array.any_toList]
    split at hl
    · rename_i en he
      rw [List.any_eq_true.mpr ⟨en, List.mem_of_find?_eq_some he, List.find?_some he⟩]; rfl
    · split at hl
      · cases hl
      · rename_i z; rw [Bool.not_eq_true] at z; rw [z, Bool.and_false]
  rw [aRefKeyMayBeTheName_at, c]
  refine wpAny_updatePart D ?_
  refine wpAny_bind (wpAny_lookBehind D' (pastItsLine_dict (by rw [List.size_toArray, sizeLine_eq]; omega)) ?_)
  exact wpAny_pure (h _ U1 U2)
/-- the first attribute of an exception just made: its dict is made with it -/
theorem lex_set1 {Q : Unit → Shared → Prop} {h₀ : Heap} {L x t : Addr} {m : PySem.Str → Option Value} {news : List (Addr × Obj)} {gg : Obj → List (Addr × Obj)} {name : PySem.Str} {v : Value}
    (F : Fr h₀ L s.heap m) (N : News h₀ L s.heap news) (X₀ : K.In h₀) (hC : K.lookup 95 = some lexO) (hs : findIn K (.ref 95) "__setattr__" = some (some (.builtin "object.__setattr__"))) (hn : findIn K (.ref 95) name = some none)
    (U : UpdF x (excO t none) news gg)
    (h : ∀ d h', Fr h₀ L h' m → News h₀ L h' ((d, dictOf [⟨PyData.keyHash w.params name, .str name (s.toks + 1), v⟩] 1) :: gg (excO t (some d))) → (∀ p ∈ news, p.1 < d) → Q () { s with heap := h', toks := s.toks + 2 }) :
    wpAny (model prog w) A (setAttr (.ref x) name v) Q E s := by
  have X := X₀.keeps F.keep
  obtain ⟨pre, post, rfl, hg, h1, h2⟩ := U.split
  have hx := (N (x, excO t none) (List.mem_append_right _ (.head _))).1
  have I : InstAt s.heap x (excO t none) 95 none := ⟨hx, rfl, rfl, trivial⟩
  obtain ⟨hh, g, dr, tk, os⟩ := s
  refine set_plain X I hs (lex_osa (s := ⟨hh, g, dr, tk + 1, os⟩) X hC I hn ?_)
  have hcl := (X _ _ hC)
  have F1 := F.push emptyDict
  have N1 := News.push F N emptyDict
  have hne : x ≠ hh.objs.size := Nat.ne_of_lt (Heap.lt_size hx)
  obtain ⟨F2, N2⟩ := news_upd (pre := (hh.objs.size, emptyDict) :: pre) (post := post) (d := x) (o := excO t none) (o' := excO t (some hh.objs.size)) (f := fun o => { o with dict := some hh.objs.size }) F1 N1
    (fun p hp => by rcases List.mem_cons.mp hp with rfl | hp; exact hne.symm; exact h1 p hp) h2 rfl rfl
  refine wpAny_bind (wpAny_pure (wpAny_bind (wpAny_bind (wpAny_loadPart hx ?_))))
  have hc : clsIn K 95 = some { name := PySem.Str.ofString "LexError", bases := [.ref 82], mro := .ref 95 :: lexTail, ns := 94, qualname := PySem.Str.ofString "LexError", hasDict := true, slotNames := [], subclasses := [], abstract := false, collection := none, hasDel := false } := by
    unfold clsIn; rw [hC]
  refine wpAny_bind ((looks_clsIn X hc).at ?_)
  have hup : (hh.push emptyDict).get? x = some (excO t none) := Heap.get?_push_of_some _ hx
  refine wpAny_bind (wpAny_alloc (wpAny_bind (wpAny_update hup ?_)))
  refine wpAny_pure (a := some hh.objs.size) ?_
  refine lex_storeIn (s := ⟨(hh.push emptyDict).update x fun o => { o with dict := some hh.objs.size }, g, dr, tk + 1, os⟩) (pre := []) (post := pre ++ (x, excO t (some hh.objs.size)) :: post) (es := []) (n := 0) F2 N2 (fun _ hp => nomatch hp) ?_ rfl rfl (Nat.le_of_ble_eq_true rfl) ?_
  · intro p hp
    have hlt : ∀ q ∈ pre ++ (x, excO t none) :: post, q.1 < hh.objs.size := fun q hq => Heap.lt_size (N q hq).1
    refine Nat.ne_of_lt ?_
    rcases List.mem_append.mp hp with hp | hp
    · exact hlt p (List.mem_append_left _ hp)
    · rcases List.mem_cons.mp hp with rfl | hp
      · exact Heap.lt_size hx
      · exact hlt p (List.mem_append_right _ (.tail _ hp))
  · intro h' F' N'
    refine h hh.objs.size h' F' ?_ fun p hp => Heap.lt_size (N p hp).1
    rw [hg]; exact N'
/-- a further attribute -/
theorem lex_set2 {Q : Unit → Shared → Prop} {h₀ : Heap} {L x t d : Addr} {m : PySem.Str → Option Value} {news : List (Addr × Obj)} {gg : Obj → List (Addr × Obj)} {name : PySem.Str} {v : Value} {es es' : List DictEntry} {n n' : Nat}
    (F : Fr h₀ L s.heap m) (N : News h₀ L s.heap news) (X₀ : K.In h₀) (hC : K.lookup 95 = some lexO) (hs : findIn K (.ref 95) "__setattr__" = some (some (.builtin "object.__setattr__"))) (hn : findIn K (.ref 95) name = some none)
    (hx : (x, excO t (some d)) ∈ news) (U : UpdF d (dictOf es n) news gg) (hl : (getL name es).isSome = true) (e : (putL name (PyData.keyHash w.params name) (.str name (s.toks + 1)) v es, putN name es n) = (es', n')) (hz : es'.length ≤ 1000)
    (h : ∀ h', Fr h₀ L h' m → News h₀ L h' (gg (dictOf es' n')) → Q () { s with heap := h', toks := s.toks + 2 }) :
    wpAny (model prog w) A (setAttr (.ref x) name v) Q E s := by
  have X := X₀.keeps F.keep
  obtain ⟨pre, post, rfl, hg, h1, h2⟩ := U.split
  have hx := (N _ hx).1
  have hdd := (N (d, dictOf es n) (by simp)).1
  have I : InstAt s.heap x (excO t (some d)) 95 (some (dictOf es n)) := ⟨hx, rfl, rfl, hdd⟩
  obtain ⟨hh, g, dr, tk, os⟩ := s
  refine set_plain X I hs (lex_osa (s := ⟨hh, g, dr, tk + 1, os⟩) X hC I hn ?_)
  refine wpAny_bind (wpAny_pure (wpAny_bind (wpAny_bind (wpAny_loadPart hx ?_))))
  have hc : clsIn K 95 = some { name := PySem.Str.ofString "LexError", bases := [.ref 82], mro := .ref 95 :: lexTail, ns := 94, qualname := PySem.Str.ofString "LexError", hasDict := true, slotNames := [], subclasses := [], abstract := false, collection := none, hasDel := false } := by
    unfold clsIn; rw [hC]
  refine wpAny_bind ((looks_clsIn X hc).at ?_)
  refine wpAny_pure (a := some d) ?_
  exact lex_storeIn (s := ⟨hh, g, dr, tk + 1, os⟩) F N h1 h2 hl e hz fun h' F' N' => h h' F' (by rw [hg]; exact N')
end
end Mine
end
section
set_option maxRecDepth 100000
namespace Mine
open PySem.Calls
set_option maxRecDepth 100000
/-- our exception, with its traceback's head T in the state fl -/
inductive TrD (h base : Heap) (e dx : Addr) (fl : Value) : Prop
  | mk (oe : Obj) (vs : Array Value) (T : Addr) (oT : Obj) (ts : Array Value) (a1 : h.get? e = some oe) (a2 : oe.cls = .ref 95) (a3 : oe.dict = some dx) (a4 : oe.data = .fields vs) (a5 : vs[1]? = some (.ref T)) (a6 : base.get? T = none) (a7 : T ≠ e) (a8 : h.get? T = some oT) (a9 : oT.data = .fields ts) (b1 : ts[3]? = some fl) (b2 : vs[2]? = some .none)
noncomputable def FlyD (base : Heap) (l : List Env) (e dx : Addr) (fl : Value) (h : Heap) : Prop :=
  base.StaysIn h ∧ base.get? e = none ∧ h.FunFrames base l ∧ TrD h base e dx fl
theorem norec {h : Heap} {e : Addr} {oe : Obj} {vs : Array Value} (he : h.get? e = some oe) (hd : oe.data = .fields vs) {b : Addr} {o : Obj} (hb : h.get? b = some o) (hnf : ∀ vs, o.data ≠ .fields vs) : b ≠ e := fun q => by
  rw [q, he] at hb; injection hb with hb; subst hb; exact hnf vs hd
theorem nobase {base h : Heap} {e : Addr} (hen : base.get? e = none) {b : Addr} {o : Obj} (hb : base.get? b = some o) : b ≠ e := fun q => by rw [q, hen] at hb; cases hb

section
variable {M : Model} {A : Around} {E : Value → Shared → Prop} {s : Shared}
/-- a new entry of the traceback is laid in front -/
theorem entryD {base : Heap} {env : Env} {outer : List Env} {L e dx : Addr} {oe : Obj} {vs : Array Value} {head : Value} {hn : Bool} {Q : Unit → Shared → Prop}
    (hfr : A.frames = some (env :: outer)) (hl : s.heap.FunFrames base (env :: outer)) (hf : env.frame = some L) (he : s.heap.get? e = some oe) (hc : oe.cls = .ref 95) (hdd : oe.dict = some dx)
    (hkb : base.StaysIn s.heap) (hen : base.get? e = none) (hd : oe.data = .fields vs) (hsz : 1 < vs.size) (h2 : vs[2]? = some .none)
    (h : ∀ h', FlyD base (env :: outer) e dx (rawInt L) h' → s.heap.UpToSlots h' → Q () { s with heap := h' }) :
    wpAny M A (do let a ← frameOf env; let pl ← entryPlaceOf L hn; let b ← EntryCells.newEntry head a .none (rawInt L) .none pl; setField (.ref e) 1 b) Q E s := by
  refine wpAny_bind (wpAny_frameOf_fun hfr hl hf fun h₁ hs₁ => ?_)
  refine wpAny_bind (wpAny_entryPlaceOf fun pl hpl => ?_)
  unfold EntryCells.newEntry newFields
  refine wpAny_bind (wpAny_newObj_type ?_ (hpl.sizeOk5 _ _ _ _ _))
  have hene : e ∉ (env :: outer).filterMap (·.frame) := fun hm => by
    obtain ⟨_, o, ho, hnf⟩ := hl.mem hm
    exact norec he hd ho hnf rfl
  have he₁ : h₁.get? e = some oe := (hs₁.2.1 e hene).trans he
  have kb₁ : base.StaysIn h₁ := fun b o hbo => (hs₁.2.1 b fun hm => by rw [(hl.mem hm).1] at hbo; cases hbo).trans (hkb b o hbo)
  generalize hX : ({ cls := .type "traceback", dict := none, data := .fields ([head, .ref L, .none, rawInt L, .none] ++ (if pl.isEmpty then List.replicate 6 Value.none else pl)).toArray } : Obj) = X
  have hXf : X.isFreed = false := by rw [← hX]; rfl
  have he₂ := Heap.get?_push_of_some (h := h₁) X he₁
  have hTe : h₁.objs.size ≠ e := Nat.ne_of_gt (Heap.lt_size he₁)
  refine wpAny_setField he₂ hd hsz (h _ ?_ ?_)
  · have hd₃ := Obj.data_mapFields hd (·.setIfInBounds 1 (Value.ref h₁.objs.size))
    have keep : ∀ b o, b ≠ e → h₁.get? b = some o → ((h₁.push X).update e (Obj.mapFields (·.setIfInBounds 1 (Value.ref h₁.objs.size)))).get? b = some o := fun b o hbe hb => by
      rw [Heap.get?_update_other _ _ (Ne.symm hbe)]
      exact Heap.get?_push_of_some _ hb
    refine ⟨fun b o hbo => keep b o (nobase (h := h₁) hen hbo) (kb₁ b o hbo), hen, hl.of_keeps fun b o hb hnf => ?_, ?_⟩
    · obtain ⟨sl, hs⟩ := hs₁.2.2 b o hb
      exact ⟨_, keep b _ (norec he hd hb hnf) hs, rfl⟩
    · refine ⟨_, _, h₁.objs.size, X, ([head, .ref L, .none, rawInt L, .none] ++ (if pl.isEmpty then List.replicate 6 Value.none else pl)).toArray, Heap.get?_update_self _ he₂ (Obj.isFreed_of_fields hd₃), ?_, ?_, hd₃, by simp [hsz], kb₁.fresh, hTe, ?_, by rw [← hX], ?_, by rw [Array.getElem?_setIfInBounds_ne (by decide)]; exact h2⟩
      · rw [Obj.cls_mapFields]; exact hc
      · obtain ⟨_, _, dt, _⟩ := oe
        simp only at hd hdd
        subst hd
        exact hdd
      · rw [Heap.get?_update_other _ _ (Ne.symm hTe)]; exact Heap.get?_push_size h₁ hXf
      · first | (simp; done) | (rcases hpl with rfl | ⟨_, _, _, _, _, _, _, rfl⟩ <;> simp)
  · intro b o hb hnf
    obtain ⟨sl, hs⟩ := hs₁.2.2 b o hb
    refine ⟨sl, ?_⟩
    rw [Heap.get?_update_other _ _ (Ne.symm (norec he hd hb hnf))]
    exact Heap.get?_push_of_some _ hs
/-- the frame notes itself: the first one -/
theorem noteD1 {base : Heap} {env : Env} {outer : List Env} {L e dx : Addr} {oe : Obj} {vs : Array Value} {Q : Unit → Shared → Prop}
    (hfr : A.frames = some (env :: outer)) (hl : s.heap.FunFrames base (env :: outer)) (hf : env.frame = some L) (he : s.heap.get? e = some oe) (hc : oe.cls = .ref 95) (hdd : oe.dict = some dx)
    (hkb : base.StaysIn s.heap) (hen : base.get? e = none) (hd : oe.data = .fields vs) (h1 : vs[1]? = some .none) (h2 : vs[2]? = some .none)
    (h : ∀ h', FlyD base (env :: outer) e dx (rawInt L) h' → s.heap.UpToSlots h' → Q () { s with heap := h' }) : wpAny M A (noteFrame (.ref e) env) Q E s := by
  unfold noteFrame
  simp only [hf]
  refine wpAny_bind (wpAny_field he hd h1 ?_)
  rw [if_neg (by decide)]
  exact entryD hfr hl hf he hc hdd hkb hen hd (Array.getElem?_eq_some_iff.mp h1).1 h2 h
/-- a further one -/
theorem noteD2 {base : Heap} {env : Env} {outer : List Env} {L e dx : Addr} {Q : Unit → Shared → Prop}
    (hfr : A.frames = some (env :: outer)) (hf : env.frame = some L) (hfl : FlyD base (env :: outer) e dx .none s.heap)
    (h : ∀ h', FlyD base (env :: outer) e dx (rawInt L) h' → s.heap.UpToSlots h' → Q () { s with heap := h' }) : wpAny M A (noteFrame (.ref e) env) Q E s := by
  obtain ⟨hkb, hen, hl, oe, vs, T, oT, ts, he, hc, hdd, hd, h1, hnT, hTe, hT, hdT, h3, h2⟩ := hfl
  unfold noteFrame
  simp only [hf]
  refine wpAny_bind (wpAny_field he hd h1 ?_)
  rw [if_pos (show (Value.ref T != Value.none) = true from by simp)]
  refine wpAny_bind (wpAny_field hT hdT h3 ?_)
  rw [if_neg (show ¬ ((Value.none == rawInt L) = true) from by simp [rawInt])]
  refine wpAny_bind (wpAny_setField hT hdT (Array.getElem?_eq_some_iff.mp h3).1 ?_)
  have other : ∀ b, b ≠ T → (s.heap.update T (Obj.mapFields (·.setIfInBounds 3 Value.none))).get? b = s.heap.get? b := fun b hb => Heap.get?_update_other _ _ (Ne.symm hb)
  refine entryD hfr (hl.of_keeps fun b o hb hnf => ⟨o, (other b (norec hT hdT hb hnf)).trans hb, rfl⟩) hf ((other e (Ne.symm hTe)).trans he) hc hdd
    (fun b o hbo => (other b (nobase (h := s.heap) hnT hbo)).trans (hkb b o hbo)) hen hd (Array.getElem?_eq_some_iff.mp h1).1 h2
    fun h' x1 x2 => h h' x1 fun b o hb hnf => x2 b o ((other b (norec hT hdT hb hnf)).trans hb) hnf
/-- it has noted itself already -/
theorem noteD3 {base : Heap} {env : Env} {l : List Env} {L e dx : Addr} {Q : Unit → Shared → Prop} (hf : env.frame = some L) (hfl : FlyD base l e dx (rawInt L) s.heap) (h : Q () s) : wpAny M A (noteFrame (.ref e) env) Q E s := by
  obtain ⟨hkb, hen, hl, oe, vs, T, oT, ts, he, hc, hdd, hd, h1, hnT, hTe, hT, hdT, h3, h2⟩ := hfl
  unfold noteFrame
  simp only [hf]
  refine wpAny_bind (wpAny_field he hd h1 ?_)
  rw [if_pos (show (Value.ref T != Value.none) = true from by simp)]
  refine wpAny_bind (wpAny_field hT hdT h3 ?_)
  rw [if_pos (show (rawInt L == rawInt L) = true from by simp)]
  exact wpAny_pure h
/-- the flight is set -/
theorem flightD {base : Heap} {l : List Env} {e dx : Addr} {fl : Value} {o? : Option Addr} {Q : Unit → Shared → Prop} (hfl : FlyD base l e dx fl s.heap)
    (h : ∀ h', FlyD base l e dx (o?.elim .none fun f => rawInt f) h' → s.heap.UpToSlots h' → Q () { s with heap := h' }) : wpAny M A (setFlight (.ref e) o?) Q E s := by
  obtain ⟨hkb, hen, hl, oe, vs, T, oT, ts, he, hc, hdd, hd, h1, hnT, hTe, hT, hdT, h3, h2⟩ := hfl
  have hsz3 : 3 < ts.size := (Array.getElem?_eq_some_iff.mp h3).1
  unfold setFlight
  refine wpAny_bind (wpAny_field he hd h1 ?_)
  rw [if_pos (show (Value.ref T != Value.none) = true from by simp)]
  have other : ∀ b, b ≠ T → (s.heap.update T (Obj.mapFields (·.setIfInBounds 3 (o?.elim Value.none fun f => rawInt f)))).get? b = s.heap.get? b := fun b hb => Heap.get?_update_other _ _ (Ne.symm hb)
  refine wpAny_setField hT hdT hsz3 (h _ ⟨fun b o hbo => (other b (nobase (h := s.heap) hnT hbo)).trans (hkb b o hbo), hen, hl.of_keeps fun b o hb hnf => ⟨o, (other b (norec hT hdT hb hnf)).trans hb, rfl⟩, ?_⟩ fun b o hb hnf => ⟨o.slots, (other b (norec hT hdT hb hnf)).trans hb⟩)
  exact ⟨oe, vs, T, _, _, (other e (Ne.symm hTe)).trans he, hc, hdd, hd, h1, hnT, hTe, Heap.get?_update_self _ hT (Obj.isFreed_of_fields (Obj.data_mapFields hdT _)), Obj.data_mapFields hdT _, by simp [hsz3], h2⟩
end
end Mine
end
section
set_option maxRecDepth 100000
namespace Mine
open PySem.Calls
set_option maxRecDepth 100000
theorem lex_hasB : (Value.ref 95 :: lexTail).contains (.type "BaseException") = true := by decide +kernel
/-- what a raise statement's expression must come to -/
noncomputable def RaisableL (E : Value → Shared → Prop) (v : Value) (s₁ : Shared) : Prop :=
  ∃ e t dd, v = .ref e ∧ s₁.heap.get? 95 = some lexO ∧ s₁.heap.get? e = some (excO t dd) ∧ E (.ref e) s₁
section
variable {M : Model} {A : Around} {E : Value → Shared → Prop} {s : Shared} {env : Env}
theorem lex_raise {x : Expr} {pos : Pos} {Q : Flow → Shared → Prop} (hh : A.handled = none)
    (h : wpAny M A (eval x env) (RaisableL E) E s) : wpAny M A (exec (.Raise (some x) none pos) env) Q E s := by
  show wpAny M A (do standAt pos; raiseStmt env (some (do let v ← eval x env; standAt pos; pure v)) none) Q E s
  refine wpAny_bind (wpAny_standAt ?_)
  unfold raiseStmt
  refine wpAny_bind (wpAny_bind (wpAny_mono h (fun v s₁ h₁ => wpAny_bind (wpAny_standAt (wpAny_pure ?_))) fun _ _ x => x))
  obtain ⟨e, t, dd, rfl, hC, he, hE⟩ := h₁
  obtain ⟨hp, g, d, tk, os⟩ := s₁
  repeat (first | with_reducible refine wpAny_loadPart_at he ?_ | with_reducible refine wpAny_loadPart_at hC ?_ | (with_reducible refine wpAny_isSubtype_exc hC ?_; rw [lex_hasB]) | wp_step)
  exact wpAny_raiseNew_none hh hE
end
/-- our exception on its way: what the ledger `news` says of objects that it carries still holds -/
inductive RaisedD (base : Heap) (l : List Env) (e dx : Addr) (news : List (Addr × Obj)) (h : Heap) : Prop
  | mk (B : Heap) (a1 : base.StaysIn B) (a2 : ∀ q ∈ news, B.get? q.1 = some q.2 ∧ base.get? q.1 = none) (a3 : FlyD B l e dx .none h)
section
variable {M : Model} {A : Around} {E : Value → Shared → Prop} {s' : Shared} {base g h : Heap} {outer : List Env} {L a e dx : Addr} {m : PySem.Str → Option Value} {name : PySem.Str} {scope : Scope} {cd : Value} {Q : Unit → Shared → Prop} {news news₂ : List (Addr × Obj)}
theorem lex_leave_first {t : Addr} (K : Below A base outer g) (F : Fr g L s'.heap m) (N : News g L s'.heap news) (he : (e, excO t (some dx)) ∈ news)
    (hs : ∀ q ∈ news₂, q ∈ news ∧ q.1 ≠ e)
    (hQ : ∀ h', RaisedD base outer e dx news₂ h' → g.UpToSlots h' → Q () { s' with heap := h' }) (hk : scope.kind = .function := by rfl) :
    wpAny M (A.deeper (envOf name scope L a cd)) (leaving (envOf name scope L a cd) (.ref e)) Q E s' := by
  have K' := K.push (name := name) (a := a) (cd := cd) F hk
  have hin : ∀ env ∈ (envOf name scope L a cd :: outer), ∀ b, env.frame = some b → b ∈ e :: (envOf name scope L a cd :: outer).filterMap (·.frame) := fun env he b hb => .tail _ (List.mem_filterMap.mpr ⟨env, he, hb⟩)
  have hen : base.get? e = none := fresh_of_stays K.stays (N _ he).2.2
  have st : base.StaysIn (hideAll s'.heap (e :: (envOf name scope L a cd :: outer).filterMap (·.frame))) := fun b o q => hideAll_get _ (K'.stays b o q) fun hm => by
    rcases List.mem_cons.mp hm with rfl | hm
    · rw [hen] at q; cases q
    · rw [(K'.frames.mem hm).1] at q; cases q
  have hl : ∀ q ∈ news₂, (hideAll s'.heap (e :: (envOf name scope L a cd :: outer).filterMap (·.frame))).get? q.1 = some q.2 ∧ base.get? q.1 = none := fun q hq => by
    obtain ⟨hq, hqe⟩ := hs q hq
    refine ⟨hideAll_get _ (N q hq).1 fun hm => ?_, fresh_of_stays K.stays (N q hq).2.2⟩
    rcases List.mem_cons.mp hm with z | hm
    · exact hqe z
    obtain ⟨env, he, hf⟩ := List.mem_filterMap.mp hm
    rcases List.mem_cons.mp he with rfl | he
    · exact (N q hq).2.1 (Option.some.inj hf).symm
    · obtain ⟨o, ho, _⟩ := (K.frames.mem (List.mem_filterMap.mpr ⟨env, he, hf⟩)).2
      rw [(N q hq).2.2] at ho; cases ho
  unfold leaving
  refine wpAny_bind (noteD1 (base := hideAll s'.heap (e :: (envOf name scope L a cd :: outer).filterMap (·.frame))) (e := e) (dx := dx) (Around.frames_deeper K.stack) (funFrames_hide K'.frames hin) rfl (N _ he).1 rfl rfl (fun b o q => of_hideAll _ q) (hideAll_none _ (.head _)) rfl rfl rfl fun h1 x1 x2 => ?_)
  refine flightD (o? := none) x1 fun h2 y1 y2 => hQ h2 ⟨_, st, hl, y1.1, y1.2.1, y1.2.2.1.2.2, y1.2.2.2⟩ ((Heap.UpToSlots.of_keeps F.keep).trans (x2.trans y2))
theorem lex_leave_on {g₂ : Heap} (K : Below A base outer g) (F : Fr g L g₂ m) (R : RaisedD base (envOf name scope L a cd :: outer) e dx news s'.heap) (hsm : g₂.UpToSlots s'.heap)
    (hQ : ∀ h', RaisedD base outer e dx news h' → g.UpToSlots h' → Q () { s' with heap := h' }) :
    wpAny M (A.deeper (envOf name scope L a cd)) (leaving (envOf name scope L a cd) (.ref e)) Q E s' := by
  obtain ⟨B, hB, hl, hfl⟩ := R
  unfold leaving
  refine wpAny_bind (noteD2 (Around.frames_deeper K.stack) rfl hfl fun h1 x1 x2 => ?_)
  refine flightD (o? := none) x1 fun h2 y1 y2 => hQ h2 ⟨B, hB, hl, y1.1, y1.2.1, y1.2.2.1.2.2, y1.2.2.2⟩ ((Heap.UpToSlots.of_keeps F.keep).trans (hsm.trans (x2.trans y2)))
/-- our exception on its way, with its place -/
inductive LexedAt (base : Heap) (l : List Env) (e : Addr) (j : Nat) (h : Heap) : Prop
  | mk (dx x pdx : Addr) (k1 k2 : Int) (u1 u2 : Tok) (wh : PySem.Str) (u : Tok) (h1 h2 h3 : Int) (t1 t2 t3 t4 t5 t6 : Tok) (r : RaisedD base l e dx [(dx, dictOf [⟨k1, .str (PySem.Str.ofString "what") u1, .str wh u⟩, ⟨k2, .str (PySem.Str.ofString "at") u2, .ref x⟩] 2), (x, instObj 46 pdx), (pdx, posD h1 h2 h3 t1 t2 t3 t4 t5 t6 (j : Int) ((j : Int) + 1))] h)
theorem lex_leave_made {t x pdx : Addr} {j : Nat} {k1 k2 h1 h2 h3 cv : Int} {u1 u2 u t1 t2 t3 t4 t5 t6 : Tok} {wh : PySem.Str} (K : Below A base outer g) (F : Fr g L s'.heap m) (N : News g L s'.heap news) (he : (e, excO t (some dx)) ∈ news)
    (m2 : (x, instObj 46 pdx) ∈ news) (m3 : (pdx, posD h1 h2 h3 t1 t2 t3 t4 t5 t6 (j : Int) cv) ∈ news) (m1 : (dx, dictOf [⟨k1, .str (PySem.Str.ofString "what") u1, .str wh u⟩, ⟨k2, .str (PySem.Str.ofString "at") u2, .ref x⟩] 2) ∈ news) (hcv : cv = (j : Int) + 1)
    (hQ : ∀ h', LexedAt base outer e j h' → g.UpToSlots h' → Q () { s' with heap := h' }) (hk : scope.kind = .function := by rfl) :
    wpAny M (A.deeper (envOf name scope L a cd)) (leaving (envOf name scope L a cd) (.ref e)) Q E s' := by
  subst hcv
  have ne : ∀ q ∈ news, (∀ vs, q.2.data ≠ .fields vs) → q.1 ≠ e := fun q hq hd z => by
    have h1 := (N _ hq).1
    rw [z, (N _ he).1] at h1
    exact hd _ (by rw [← Option.some.inj h1])
  refine lex_leave_first K F N he (news₂ := [(dx, dictOf [⟨k1, .str (PySem.Str.ofString "what") u1, .str wh u⟩, ⟨k2, .str (PySem.Str.ofString "at") u2, .ref x⟩] 2), (x, instObj 46 pdx), (pdx, posD h1 h2 h3 t1 t2 t3 t4 t5 t6 (j : Int) ((j : Int) + 1))]) (fun q hq => ?_) (fun h' R U => hQ h' ⟨_, _, _, _, _, _, _, _, _, _, _, _, _, _, _, _, _, _, R⟩ U) hk
  rcases List.mem_cons.mp hq with rfl | hq
  · exact ⟨m1, ne _ m1 fun vs => nofun⟩
  rcases List.mem_cons.mp hq with rfl | hq
  · exact ⟨m2, ne _ m2 fun vs => nofun⟩
  rw [List.mem_singleton.mp hq]
  exact ⟨m3, ne _ m3 fun vs => nofun⟩
theorem lex_leave_at {g₂ : Heap} {j : Nat} (K : Below A base outer g) (F : Fr g L g₂ m) (R : LexedAt base (envOf name scope L a cd :: outer) e j s'.heap) (hsm : g₂.UpToSlots s'.heap)
    (hQ : ∀ h', LexedAt base outer e j h' → g.UpToSlots h' → Q () { s' with heap := h' }) :
    wpAny M (A.deeper (envOf name scope L a cd)) (leaving (envOf name scope L a cd) (.ref e)) Q E s' := by
  obtain ⟨dx, x, pdx, k1, k2, u1, u2, wh, u, h1, h2, h3, t1, t2, t3, t4, t5, t6, R⟩ := R
  exact lex_leave_on K F R hsm fun h' R' U => hQ h' ⟨_, _, _, _, _, _, _, _, _, _, _, _, _, _, _, _, _, _, R'⟩ U
end
end Mine
end
section
theorem Mine.wr_Fail : True := by
  k_with_none
  k_with "call ref" => k_extra "call ref last"
  k_with "om" => with_reducible first | assumption | exact Nat.add_sub_cancel_left _ _ | exact Int.ofNat_lt.mpr (by assumption) | exact Int.ofNat_le.mpr (by assumption) | exact Int.ofNat_lt.mp (by assumption) | exact Int.ofNat_le.mp (by assumption) | exact o_lt (by assumption) | exact o_nlt (by assumption) | exact o_63 (by assumption) (by assumption) (by with_unfolding_all exact rfl) | exact o_s2 (by assumption) | exact o_s1 (by assumption) (by assumption) | exact o_s3 (by assumption) (by assumption) | exact o_mt (by assumption) | exact o_f1 (by assumption) | exact Nat.le_of_lt (by assumption) | exact Nat.not_le.mp (by assumption) | exact o_sub (by assumption) | exact o_big1 (by assumption) (by with_unfolding_all exact rfl) | exact Nat.le_trans (Nat.le_add_right _ _) (by assumption) | exact Int.natCast_nonneg _ | exact Nat.le_trans (by assumption) (by assumption) | exact o_big (by assumption) (by assumption) (by with_unfolding_all exact rfl) | exact o_ltM (by assumption) (by assumption) | exact o_tr (by assumption) (by assumption) (by assumption) | exact Nat.lt_of_lt_of_le (by assumption) (by assumption) | exact Nat.lt_of_le_of_lt (by assumption) (by assumption) | exact Nat.ne_of_lt (by assumption) | exact Nat.ne_of_gt (by assumption) | exact o_mm (by assumption) | exact o_mm2 (by assumption) (by assumption) | exact o_mn | exact o_ml (by assumption) (by assumption) | exact o_and (by assumption) | rfl
  k_with "kst" => k_extra "mine kst"
  k_with "kst" => k_extra "mine same3"
  k_with "ksw" => k_extra "mine ksw"
  k_with "ksw" => k_extra "mine same"
  k_with "mine enter" => (refine' code_def ?k1q431 ?k2q431 ?k3q431 ?k4q431 ?k5q431 ?kAq431 ?kFq431 ?kKq431 ?k6q431 ?k7q431 ?k8q431 ?k9q431 ?kBq431 ?_ ?c2q431 ?c3q431 ?c4q431 ?c5q431; (case kAq431 => exact rfl); (case kFq431 => exact rfl); (case kKq431 => first | exact rfl | assumption); (case k1q431 => k_asm); (case k2q431 => k_asm); (case k3q431 => k_asm); (case k4q431 => k_asm); (case k5q431 => k_asm); (case k6q431 => k_is); (case k7q431 => k_is); (case k8q431 => first | (refine' rm0 ?rhq431; (case rhq431 => assumption)) | (refine' rm1 ?rhq431 ?rlq431; (case rhq431 => assumption); (case rlq431 => exact rfl)) | (refine' rm2 ?rhq431 ?rlq431; (case rhq431 => assumption); (case rlq431 => exact rfl)) | ktr_room); (case k9q431 => first | exact BindsTo.of_eq rfl | exact binds_K (by k_in) rfl (by k_is) rfl rfl rfl); (case c5q431 => decide); (case kBq431 => exact locs rfl); (case c2q431 => exact rfl); (case c3q431 => exact rfl); (case c4q431 => exact rfl); k_whole; intro g' L' h' FG'; (refine (?_ : let mk := _; Fr _ _ _ mk → _)); intro mk F' N' B' X' T'; (refine (?_ : let nk := _; let ak := _; let qk := _; let ek := _; let sk := _; wpAny _ ak (execs _ nk) qk ek sk)); intro nk ak qk ek sk)
  k_with "subscriptTail Name Attribute str int" => ((with_reducible show wpAny _ _ (subscriptTail _ _ (Value.str _ _) (Value.int _ _)) _ _ _); refine item_str (fitsSsize_of (N := 9223372036854775808) (by omega) (by omega) (Int.le_refl _)) (by omega) (by omega) ?_; intro _)
  k_with "mine inline" => (k_dflt (first | (refine' call_cls ?k1q433 ?k2q433 ?k3q433 ?k4q433 ?k5q433 ?k6q433 ?_; (case k1q433 => k_asm); (case k2q433 => k_asm); (case k3q433 => k_asm); (case k4q433 => k_is); (case k5q433 => k_is); (case k6q433 => k_is); k_whole; intro x' d' h' F' N' l1 l2; (try k_lt l1); (try k_lt2 l2); (try k_sweep); walk_at "mine enter") | (refine wpAny_call ?_; walk_at "mine enter")))
  k_with "ite" => first | with_reducible refine ite_tt ?_ | with_reducible refine ite_ff ?_
  k_with "mine room" => first | (refine' rm2 ?rhq435 ?rlq435; (case rhq435 => assumption); (case rlq435 => exact rfl)) | decide +kernel | omega | (simp only [depth_deeper, units_deeper]; omega) | (dsimp only [ktrTop]; omega) | (dsimp only [Around.deeper, ktrTop]; omega) | ktr_room | ktr_units
  k_with "mine tail" => ((case zzB => k_asm); (case zzF => k_asm); (case zzX => k_asm); (case zzT => k_asm); (case zzN => k_asm); (case zzk => first | exact rfl | assumption); (case zzp => walk_at "mine room"); (case zzu => walk_at "mine room"))
  k_with "isTrue Compare" => (k_here; first | ((with_reducible show wpAny _ _ (isTrue (PySem.Expr.Compare (PySem.Expr.Name _ _) [PySem.CmpOp.Eq] [PySem.Expr.Constant (PySem.Const.str _) _ _] _) _ _) _ _ _); k_dflt (refine' tst_eq ?zaq437 ?zbq437 ?zcq437 ?zmq437 ?zFq437 ?zvq437 ?_; (case zFq437 => k_asm); (case zaq437 => rfl); (case zbq437 => rfl); (case zcq437 => decide); (case zvq437 => rfl); (case zmq437 => with_unfolding_all rfl); k_whole)) | ((with_reducible show wpAny _ _ (isTrue (PySem.Expr.Compare (PySem.Expr.Name _ _) [PySem.CmpOp.NotEq] [PySem.Expr.Constant (PySem.Const.str _) _ _] _) _ _) _ _ _); k_dflt (refine' tst_ne ?zaq437 ?zbq437 ?zcq437 ?zmq437 ?zFq437 ?zvq437 ?_; (case zFq437 => k_asm); (case zaq437 => rfl); (case zbq437 => rfl); (case zcq437 => decide); (case zvq437 => rfl); (case zmq437 => with_unfolding_all rfl); k_whole)))
  k_with "eval BinOp" => (k_here; (with_reducible show wpAny _ _ (eval (PySem.Expr.BinOp (PySem.Expr.Name _ _) PySem.Operator.Add (PySem.Expr.Constant (PySem.Const.int _) _ _) _) _) _ _ _); k_dflt (refine' add_nc ?zaq438 ?zbq438 ?zcq438 ?zFq438 ?zvq438 ?_; (case zFq438 => k_asm); (case zaq438 => rfl); (case zbq438 => rfl); (case zcq438 => decide); (case zvq438 => rfl); k_whole))
  k_with "mine steps" => repeat' (first | ((first | (fail_if_success (fail_if_success k_unfold)) | (fail_if_success (fail_if_success k_fold))); (refine (?_ : let qk := _; let sk := _; wpAny _ _ _ qk _ sk)); intro qk sk) | ((fail_if_success (fail_if_success k_unfold)); (refine (?_ : let sk := _; LeaveK _ _ _ _ _ _ sk)); intro sk) | (k_unfold; (try dsimp only)) | walk1 | (k_end; wrow_close) | (dsimp only [List.nil_append, List.cons_append]; walk1) | (leave1; (try dsimp only)) | fail "no step")
  k_with "execs cons" => (with_reducible refine wpAny_execs_cons ?_)
  k_with "eval Name" => (k_dflt (refine' nmL ?zaq441 ?zbq441 ?zdq441 ?zFq441 ?zvq441 ?_; (case zFq441 => k_asm); (case zaq441 => rfl); (case zbq441 => rfl); (case zvq441 => rfl); (case zdq441 => decide); k_whole))
  k_with "storeName" => (k_dflt (refine' stL ?zaq442 ?zbq442 ?zFq442 ?zNq442 ?_; (case zFq442 => k_asm); (case zNq442 => k_asm); (case zaq442 => rfl); (case zbq442 => rfl); k_whole; intro h' mk F' N'; (try k_sweep)))
  k_with "LeaveK" => (k_dflt (refine' leaveK_ ?k1q443 ?k2q443 ?_; (case k1q443 => k_asm); (case k2q443 => k_asm); k_whole); intro kF kN; (try dsimp only [InitBack]); (try refine ⟨rfl, ?_⟩))
  k_with "mine kst" => (intro z h1 h2 h3; (try dsimp +zetaDelta only [kstB]); (try simp only [List.forall_mem_cons, List.not_mem_nil, false_implies, implies_true, and_true, ne_eq] at h2); first | rfl | (simp [h1]; done) | (simp [h1, h2]; done) | ((try simp only [List.contains_cons, List.contains_nil, Bool.or_false, Bool.or_eq_false_iff, beq_eq_false_iff_ne, ne_eq] at h3); first | (simp [h1, h3]; done) | (simp [h1, h2, h3]; done)))
  k_with "mine same3" => (k_dflt (refine sn_end3 ?_; (repeat (first | (with_reducible exact sn_refl) | (refine' sn_in ?_ ?hpq445 ?hsq445; (case hpq445 => exact rfl); (case hsq445 => exact rfl)) | (refine' sn_upd ?_ ?hxq445; (case hxq445 => exact rfl)))); done))
  k_with "mine ksw" => (intro z h2 h3; (try dsimp +zetaDelta only [kstB]); (try simp only [List.forall_mem_cons, List.not_mem_nil, false_implies, implies_true, and_true, ne_eq] at h2); (try simp only [List.contains_cons, List.contains_nil, Bool.or_false, Bool.or_eq_false_iff, beq_eq_false_iff_ne, ne_eq] at h3); first | rfl | (simp [h2]; done) | (simp [h3]; done) | (simp [h2, h3]; done))
  k_with "mine same" => (k_dflt (refine sn_end ?_; (repeat (first | (with_reducible exact sn_refl) | (refine' sn_in ?_ ?hpq447 ?hsq447; (case hpq447 => exact rfl); (case hsq447 => exact rfl)) | (refine' sn_upd ?_ ?hxq447; (case hxq447 => exact rfl)))); done))
  w_top off
  trivial
theorem Mine.kw_mFail_1 : True := by
  k_with "call ref" => (k_dflt (show wpAny _ _ (call (Value.ref 57) [_, _]) _ _ _); k_dflt (refine' pos_ok ?zzB ?zzF ?zzX ?zzT ?zzk ?zzp ?zzu ?zzN ?zzhl ?zzhj ?zzhnl ?_; walk_at "mine tail"; (case zzhl => assumption); (case zzhj => assumption); (case zzhnl => assumption)); (intro x' d' _ _ _ _ _ _ _ _ _ cv' h' tk' ecv' F' N' l1 l2); (try k_lt l1); (try k_lt2 l2))
  k_with "getMethod type:Exception" => (k_here; refine' method_type ?Fq449 ?Xq449 ?mq449 (by decide +kernel) ?eq449 ?hq449 ?_; (case Fq449 => k_asm); (case Xq449 => k_asm); (case mq449 => first | rfl | kernel_rfl); (case eq449 => k_dflt k_is); (case hq449 => k_handed))
  k_with "call ref" => ((with_reducible show wpAny _ _ (call _ _) _ _ _); k_dflt (show wpAny _ _ (call (Value.ref 95) [_, _]) _ _ _); k_dflt (refine' lex_call ?Fq450 ?Nq450 ?Xq450 ?Cq450 ?iq450 ?fq450 ?sq450 ?zq450 ?_; (case Fq450 => k_asm); (case Nq450 => k_asm); (case Xq450 => k_asm); (case Cq450 => k_is); (case iq450 => k_is); (case fq450 => k_is); (case sq450 => k_is); (case zq450 => exact Nat.le_of_ble_eq_true rfl)); (intro e' t' h' F' N' l1 l2); (try k_lt l1); (try k_lt2 l2); walk_at "mine enter")
  k_with "call builtin:Exception.__init__" => ((with_reducible show wpAny _ _ (call (Value.builtin "Exception.__init__") (Value.ref _ :: _)) _ _ _); k_dflt (refine' lex_init_K ?Fq451 ?Nq451 ?Xq451 ?Cq451 ?Uq451 ?zq451 ?_; (case Fq451 => k_asm); (case Nq451 => k_asm); (case Xq451 => k_asm); (case Cq451 => k_is); (case Uq451 => k_updF); (case zq451 => exact Nat.le_of_ble_eq_true rfl)); (intro t' h' F' N' l1); (try dsimp only at N'); (try k_lt l1); (try k_sweep))
  k_with "setAttr ref" => (k_here; k_dflt (first | (refine' lex_set1 ?Fq452 ?Nq452 ?Xq452 ?Cq452 ?sq452 ?nq452 ?Uq452 ?_; (case Fq452 => k_asm); (case Nq452 => k_asm); (case Xq452 => k_asm); (case Cq452 => k_is); (case sq452 => k_is); (case Uq452 => k_updF); (case nq452 => k_is); (intro d' h' F' N' l1); (try dsimp only at N'); (try k_lt l1); (try k_sweep)) | (refine' lex_set2 ?Fq452 ?Nq452 ?Xq452 ?Cq452 ?sq452 ?nq452 ?xq452 ?Uq452 ?lq452 ?eq452 ?zq452 ?_; (case Fq452 => k_asm); (case Nq452 => k_asm); (case Xq452 => k_asm); (case Cq452 => k_is); (case sq452 => k_is); (case xq452 => k_mem); (case Uq452 => k_updF); (case nq452 => k_is); (case lq452 => k_get); (case eq452 => k_put); (case zq452 => exact Nat.le_of_ble_eq_true rfl); (intro h' F' N'); (try dsimp only at N'); (try k_sweep))))
  k_with "exec Raise some none" => (k_here; k_dflt (refine lex_raise rfl ?_))
  k_with "RaisableL ref" => (refine' ⟨_, _, _, rfl, ?hCq454, ?heq454, ?_⟩; (case hCq454 => exact (Frag.In.keeps (by k_asm) (Fr.keep (by k_asm))) _ _ (look95 _)); (case heq454 => exact News.get (by k_asm) (by k_mem)))
  k_with "leaving ref" => (k_here; (refine' lex_leave_at ?k1q455 ?k2q455 ?k3q455 ?k4q455 ?_; (case k3q455 => assumption); (case k1q455 => assumption); (case k4q455 => assumption); (case k2q455 => assumption); k_whole; intro h' R' U'; (try dsimp only at R' U' ⊢)))
  trivial
namespace Mine
set_option maxHeartbeats 8000000 in
theorem fail_ok {w : World} {mean : ExcName → Option Value} {mg mb : PySem.Str → Option Value} {dp un : Nat} {gd : Option (List Code)} {cn : PySem.Str} {cs : Scope} {a : Addr} {ccd : Value} {cl : List (PySem.Str × Addr)} {outer : List Env} {A₀ : Around} {base h₀ : Heap} {L : Addr} {m : PySem.Str → Option Value} {s : Shared} {Q E : Value → Shared → Prop} {news : List (Addr × Obj)} (B : Below A₀ base outer h₀) (F : Fr h₀ L s.heap m) (X : (Mine.hd.heap_1_39 w.params).In h₀) (T : Top Mine.hd.view_1_40 lo mean mg mb h₀) (hk : cs.kind = .function) (hdp : dp + 20 < recursionLimit) (hun : un + 200 < cLine) (N : News h₀ L s.heap news) {h1 h2 : Int} {t1 t2 t3 t4 : Tok} {TX : PySem.Str} {n : Nat} {c d : Addr} {R : List Nat} (hc : (c, instObj 222 d) ∈ news) (hd : (d, curD h1 h2 t1 t2 t3 TX n t4) ∈ news) (hlen : TX.length ≤ 100000) (hR : (tl TX).drop n = R) {j : Nat} {wh : PySem.Str} {u1 u2 : Tok} (hj : j ≤ TX.length) (hnl : (10 : Nat) ∉ tl TX)
  (exc : ∀ (e : Addr) (g h' : Heap) (tk' : Nat), Fr h₀ L g m → g.UpToSlots h' → LexedAt base (envX cn cs L a ccd cl :: outer) e j h' → E (.ref e) { s with heap := h', toks := tk' })
  : wpAny (model PySem.Challenge.rw_nn0359_01.row.prog w) (ktrTop dp un gd cn cs L a ccd cl outer) (call (.ref 290) [.ref c, .str wh u1, .int j u2]) Q E s := by
  have N2 : News h₀ L s.heap [(c, instObj 222 d), (d, curD h1 h2 t1 t2 t3 TX n t4)] := fun p hp => by
    rcases List.mem_cons.mp hp with rfl | hp
    · exact N _ hc
    · rw [List.mem_singleton.mp hp]; exact N _ hd
  clear N
  (k_with "leaving ref" => ((refine' lex_leave_made ?K ?F ?N ?he ?m2 ?m3 ?m1 ?hcv ?_; (case K => k_asm); (case F => k_asm); (case N => k_asm); (case he => k_mem); (case m2 => k_mem); (case m3 => k_mem); (case m1 => k_mem); (case hcv => assumption); intro h7 R7 U7)))
  refine wpAny_call ?_
  k_dflt walk_at "mine enter"
  walk_at "mine steps"
  exact exc _ _ _ _ (by assumption) (by assumption) (by assumption)
end Mine
theorem Mine.kw_Fail_1 : True := by
  k_with "call ref" => ((with_reducible show wpAny _ _ (call _ _) _ _ _); k_dflt (show wpAny _ _ (call (Value.ref 290) [_, _, _]) _ _ _); k_dflt (refine' fail_ok ?Bq430 ?Fq430 ?Xq430 ?Tq430 ?kq430 ?dpq430 ?unq430 ?Nq430 ?hcq430 ?hdq430 ?hlq430 ?hRq430 ?hjq430 ?hnlq430 ?_; (case Bq430 => k_asm); (case Fq430 => k_asm); (case Xq430 => k_asm); (case Tq430 => k_asm); (case Nq430 => k_asm); (case kq430 => first | exact rfl | assumption); (case hcq430 => k_mem); (case hdq430 => k_mem); (case hlq430 => assumption); (case hRq430 => exact rfl); (case hjq430 => assumption); (case hnlq430 => assumption); (case dpq430 => walk_at "mine room"); (case unq430 => walk_at "mine room")); (intro e7 g7 h7 tk7 FG7 U7 R7))
  trivial
end
section
theorem Mine.wr_Escd : True := by
  k_with_none
  k_with "call ref" => k_extra "call ref last"
  k_with "om" => with_reducible first | assumption | exact Nat.add_sub_cancel_left _ _ | exact Int.ofNat_lt.mpr (by assumption) | exact Int.ofNat_le.mpr (by assumption) | exact Int.ofNat_lt.mp (by assumption) | exact Int.ofNat_le.mp (by assumption) | exact o_lt (by assumption) | exact o_nlt (by assumption) | exact o_63 (by assumption) (by assumption) (by with_unfolding_all exact rfl) | exact o_s2 (by assumption) | exact o_s1 (by assumption) (by assumption) | exact o_s3 (by assumption) (by assumption) | exact o_mt (by assumption) | exact o_f1 (by assumption) | exact Nat.le_of_lt (by assumption) | exact Nat.not_le.mp (by assumption) | exact o_sub (by assumption) | exact o_big1 (by assumption) (by with_unfolding_all exact rfl) | exact Nat.le_trans (Nat.le_add_right _ _) (by assumption) | exact Int.natCast_nonneg _ | exact Nat.le_trans (by assumption) (by assumption) | exact o_big (by assumption) (by assumption) (by with_unfolding_all exact rfl) | exact o_ltM (by assumption) (by assumption) | exact o_tr (by assumption) (by assumption) (by assumption) | exact Nat.lt_of_lt_of_le (by assumption) (by assumption) | exact Nat.lt_of_le_of_lt (by assumption) (by assumption) | exact Nat.ne_of_lt (by assumption) | exact Nat.ne_of_gt (by assumption) | exact o_mm (by assumption) | exact o_mm2 (by assumption) (by assumption) | exact o_mn | exact o_ml (by assumption) (by assumption) | exact o_and (by assumption) | rfl
  k_with "kst" => k_extra "mine kst"
  k_with "kst" => k_extra "mine same3"
  k_with "ksw" => k_extra "mine ksw"
  k_with "ksw" => k_extra "mine same"
  k_with "mine enter" => (refine' code_def ?k1q458 ?k2q458 ?k3q458 ?k4q458 ?k5q458 ?kAq458 ?kFq458 ?kKq458 ?k6q458 ?k7q458 ?k8q458 ?k9q458 ?kBq458 ?_ ?c2q458 ?c3q458 ?c4q458 ?c5q458; (case kAq458 => exact rfl); (case kFq458 => exact rfl); (case kKq458 => first | exact rfl | assumption); (case k1q458 => k_asm); (case k2q458 => k_asm); (case k3q458 => k_asm); (case k4q458 => k_asm); (case k5q458 => k_asm); (case k6q458 => k_is); (case k7q458 => k_is); (case k8q458 => first | (refine' rm0 ?rhq458; (case rhq458 => assumption)) | (refine' rm1 ?rhq458 ?rlq458; (case rhq458 => assumption); (case rlq458 => exact rfl)) | (refine' rm2 ?rhq458 ?rlq458; (case rhq458 => assumption); (case rlq458 => exact rfl)) | ktr_room); (case k9q458 => first | exact BindsTo.of_eq rfl | exact binds_K (by k_in) rfl (by k_is) rfl rfl rfl); (case c5q458 => decide); (case kBq458 => exact locs rfl); (case c2q458 => exact rfl); (case c3q458 => exact rfl); (case c4q458 => exact rfl); k_whole; intro g' L' h' FG'; (refine (?_ : let mk := _; Fr _ _ _ mk → _)); intro mk F' N' B' X' T'; (refine (?_ : let nk := _; let ak := _; let qk := _; let ek := _; let sk := _; wpAny _ ak (execs _ nk) qk ek sk)); intro nk ak qk ek sk)
  k_with "subscriptTail Name Attribute str int" => ((with_reducible show wpAny _ _ (subscriptTail _ _ (Value.str _ _) (Value.int _ _)) _ _ _); refine item_str (fitsSsize_of (N := 9223372036854775808) (by omega) (by omega) (Int.le_refl _)) (by omega) (by omega) ?_; intro _)
  k_with "mine inline" => (k_dflt (first | (refine' call_cls ?k1q460 ?k2q460 ?k3q460 ?k4q460 ?k5q460 ?k6q460 ?_; (case k1q460 => k_asm); (case k2q460 => k_asm); (case k3q460 => k_asm); (case k4q460 => k_is); (case k5q460 => k_is); (case k6q460 => k_is); k_whole; intro x' d' h' F' N' l1 l2; (try k_lt l1); (try k_lt2 l2); (try k_sweep); walk_at "mine enter") | (refine wpAny_call ?_; walk_at "mine enter")))
  k_with "ite" => first | with_reducible refine ite_tt ?_ | with_reducible refine ite_ff ?_
  k_with "mine room" => first | (refine' rm2 ?rhq462 ?rlq462; (case rhq462 => assumption); (case rlq462 => exact rfl)) | decide +kernel | omega | (simp only [depth_deeper, units_deeper]; omega) | (dsimp only [ktrTop]; omega) | (dsimp only [Around.deeper, ktrTop]; omega) | ktr_room | ktr_units
  k_with "mine tail" => ((case zzB => k_asm); (case zzF => k_asm); (case zzX => k_asm); (case zzT => k_asm); (case zzN => k_asm); (case zzk => first | exact rfl | assumption); (case zzp => walk_at "mine room"); (case zzu => walk_at "mine room"))
  k_with "isTrue Compare" => (k_here; first | ((with_reducible show wpAny _ _ (isTrue (PySem.Expr.Compare (PySem.Expr.Name _ _) [PySem.CmpOp.Eq] [PySem.Expr.Constant (PySem.Const.str _) _ _] _) _ _) _ _ _); k_dflt (refine' tst_eq ?zaq464 ?zbq464 ?zcq464 ?zmq464 ?zFq464 ?zvq464 ?_; (case zFq464 => k_asm); (case zaq464 => rfl); (case zbq464 => rfl); (case zcq464 => decide); (case zvq464 => rfl); (case zmq464 => with_unfolding_all rfl); k_whole)) | ((with_reducible show wpAny _ _ (isTrue (PySem.Expr.Compare (PySem.Expr.Name _ _) [PySem.CmpOp.NotEq] [PySem.Expr.Constant (PySem.Const.str _) _ _] _) _ _) _ _ _); k_dflt (refine' tst_ne ?zaq464 ?zbq464 ?zcq464 ?zmq464 ?zFq464 ?zvq464 ?_; (case zFq464 => k_asm); (case zaq464 => rfl); (case zbq464 => rfl); (case zcq464 => decide); (case zvq464 => rfl); (case zmq464 => with_unfolding_all rfl); k_whole)))
  k_with "eval BinOp" => (k_here; (with_reducible show wpAny _ _ (eval (PySem.Expr.BinOp (PySem.Expr.Name _ _) PySem.Operator.Add (PySem.Expr.Constant (PySem.Const.int _) _ _) _) _) _ _ _); k_dflt (refine' add_nc ?zaq465 ?zbq465 ?zcq465 ?zFq465 ?zvq465 ?_; (case zFq465 => k_asm); (case zaq465 => rfl); (case zbq465 => rfl); (case zcq465 => decide); (case zvq465 => rfl); k_whole))
  k_with "mine steps" => repeat' (first | ((first | (fail_if_success (fail_if_success k_unfold)) | (fail_if_success (fail_if_success k_fold))); (refine (?_ : let qk := _; let sk := _; wpAny _ _ _ qk _ sk)); intro qk sk) | ((fail_if_success (fail_if_success k_unfold)); (refine (?_ : let sk := _; LeaveK _ _ _ _ _ _ sk)); intro sk) | (k_unfold; (try dsimp only)) | walk1 | (k_end; wrow_close) | (dsimp only [List.nil_append, List.cons_append]; walk1) | (leave1; (try dsimp only)) | fail "no step")
  k_with "execs cons" => (with_reducible refine wpAny_execs_cons ?_)
  k_with "eval Name" => (k_dflt (refine' nmL ?zaq468 ?zbq468 ?zdq468 ?zFq468 ?zvq468 ?_; (case zFq468 => k_asm); (case zaq468 => rfl); (case zbq468 => rfl); (case zvq468 => rfl); (case zdq468 => decide); k_whole))
  k_with "storeName" => (k_dflt (refine' stL ?zaq469 ?zbq469 ?zFq469 ?zNq469 ?_; (case zFq469 => k_asm); (case zNq469 => k_asm); (case zaq469 => rfl); (case zbq469 => rfl); k_whole; intro h' mk F' N'; (try k_sweep)))
  k_with "LeaveK" => (k_dflt (refine' leaveK_ ?k1q470 ?k2q470 ?_; (case k1q470 => k_asm); (case k2q470 => k_asm); k_whole); intro kF kN; (try dsimp only [InitBack]); (try refine ⟨rfl, ?_⟩))
  k_with "mine kst" => (intro z h1 h2 h3; (try dsimp +zetaDelta only [kstB]); (try simp only [List.forall_mem_cons, List.not_mem_nil, false_implies, implies_true, and_true, ne_eq] at h2); first | rfl | (simp [h1]; done) | (simp [h1, h2]; done) | ((try simp only [List.contains_cons, List.contains_nil, Bool.or_false, Bool.or_eq_false_iff, beq_eq_false_iff_ne, ne_eq] at h3); first | (simp [h1, h3]; done) | (simp [h1, h2, h3]; done)))
  k_with "mine same3" => (k_dflt (refine sn_end3 ?_; (repeat (first | (with_reducible exact sn_refl) | (refine' sn_in ?_ ?hpq472 ?hsq472; (case hpq472 => exact rfl); (case hsq472 => exact rfl)) | (refine' sn_upd ?_ ?hxq472; (case hxq472 => exact rfl)))); done))
  k_with "mine ksw" => (intro z h2 h3; (try dsimp +zetaDelta only [kstB]); (try simp only [List.forall_mem_cons, List.not_mem_nil, false_implies, implies_true, and_true, ne_eq] at h2); (try simp only [List.contains_cons, List.contains_nil, Bool.or_false, Bool.or_eq_false_iff, beq_eq_false_iff_ne, ne_eq] at h3); first | rfl | (simp [h2]; done) | (simp [h3]; done) | (simp [h2, h3]; done))
  k_with "mine same" => (k_dflt (refine sn_end ?_; (repeat (first | (with_reducible exact sn_refl) | (refine' sn_in ?_ ?hpq474 ?hsq474; (case hpq474 => exact rfl); (case hsq474 => exact rfl)) | (refine' sn_upd ?_ ?hxq474; (case hxq474 => exact rfl)))); done))
  w_top off
  trivial
theorem Mine.kw_mEscd_1 : True := by
  k_with "call type:int" => ((with_reducible show wpAny _ _ (call (Value.type "int") [Value.str _ _, Value.int _ _]) _ _ _); refine call_int16 (by first | assumption | exact isHx_mem (by assumption) | exact isOc_isHx (by assumption)) ?_)
  k_with "call ref" => (k_dflt (show wpAny _ _ (call (Value.ref 233) [_]) _ _ _); k_dflt (refine' hex_escape_ok ?zzB ?zzF ?zzX ?zzT ?zzk ?zzp ?zzu ?zzN ?zzhx ?_; walk_at "mine tail"; (case zzhx => omega)); intro _ h' tk' F' N')
  k_with "call ref" => (k_dflt (show wpAny _ _ (call (Value.ref 240) [_, _]) _ _ _); k_dflt (refine' escaped_sign_ok ?zzB ?zzF ?zzX ?zzT ?zzk ?zzp ?zzu ?zzN ?zzhx ?_; walk_at "mine tail"; (case zzhx => omega)); intro _ h' tk' F' N')
  k_with "eval Name" => (k_here; (with_reducible show wpAny _ _ (eval (Expr.Name _ _) (compEnvC _ _ _ _)) _ _ _); k_dflt (refine ld_cell (by k_asm) (by rfl) (by k_mem) (by first | rfl | assumption) ?_))
  k_with "mine cells" => (refine' code_defC ?k1q479 ?k2q479 ?k3q479 ?k4q479 ?k5q479 ?kAq479 ?kFq479 ?kKq479 ?k6q479 ?k7q479 ?k8q479 ?k9q479 ?kBq479 ?kDq479 ?_ ?c2q479 ?c3q479 ?c4q479; (case kAq479 => exact rfl); (case kFq479 => exact rfl); (case kKq479 => first | exact rfl | assumption); (case k1q479 => k_asm); (case k2q479 => k_asm); (case k3q479 => k_asm); (case k4q479 => k_asm); (case k5q479 => k_asm); (case k6q479 => k_is); (case k7q479 => k_is); (case k8q479 => first | (refine' rm0 ?rhq479; (case rhq479 => assumption)) | (refine' rm1 ?rhq479 ?rlq479; (case rhq479 => assumption); (case rlq479 => exact rfl)) | (refine' rm2 ?rhq479 ?rlq479; (case rhq479 => assumption); (case rlq479 => exact rfl)) | ktr_room); (case k9q479 => first | exact BindsTo.of_eq rfl | exact binds_K (by k_in) rfl (by k_is) rfl rfl rfl); (case kBq479 => exact rfl); (case kDq479 => decide +kernel); (case c2q479 => exact rfl); (case c3q479 => exact rfl); (case c4q479 => exact rfl); k_whole; intro g' L' h' tk' cells' FG'; (refine (?_ : let mk := _; Fr _ _ _ mk → _)); intro mk F' N' Y' B' X' T' l1; (try k_lt l1); k_cells Y'; (try simp only [List.cons_append, List.nil_append] at N'); (refine (?_ : let nk := _; let ak := _; let qk := _; let ek := _; let sk := _; wpAny _ ak (execs _ nk) qk ek sk)); intro nk ak qk ek sk)
  trivial
namespace Mine
theorem Mine.kw_Escd_1 : True := by
  k_with "eval ListComp" => (k_here; k_dflt (refine ListComp_X (F₀ := by k_asm) (by rfl) (by decide) (by rfl) (by decide) (by rfl) ?_))
  trivial
set_option maxHeartbeats 8000000 in
theorem escaped_ok {w : World} {mean : ExcName → Option Value} {mg mb : PySem.Str → Option Value} {dp un : Nat} {gd : Option (List Code)} {cn : PySem.Str} {cs : Scope} {a : Addr} {ccd : Value} {cl : List (PySem.Str × Addr)} {outer : List Env} {A₀ : Around} {base h₀ : Heap} {L : Addr} {m : PySem.Str → Option Value} {s : Shared} {Q E : Value → Shared → Prop} {news : List (Addr × Obj)} (B : Below A₀ base outer h₀) (F : Fr h₀ L s.heap m) (X : (Mine.hd.heap_1_39 w.params).In h₀) (T : Top Mine.hd.view_1_40 lo mean mg mb h₀) (hk : cs.kind = .function) (hdp : dp + 20 < recursionLimit) (hun : un + 200 < cLine) (N : News h₀ L s.heap news) {x : Nat} {u1 u2 : Tok} (hx : x < 1000)
  (ret : ∀ (t : Tok) (h' : Heap) (tk' : Nat), Fr h₀ L h' m → News h₀ L h' news → Q (.str (tx (escS x)) t) { s with heap := h', toks := tk' }) : wpAny (model PySem.Challenge.rw_nn0359_01.row.prog w) (ktrTop dp un gd cn cs L a ccd cl outer) (call (.ref 245) [.str ⟨#[x]⟩ u1, .str (PySem.Str.ofString "'") u2]) Q E s := by
  (k_with "SrcX Call cons str" => ((refine ⟨_, _, _, rfl, rfl, by k_asm, by k_asm, Nat.le_of_ble_eq_true rfl, fun g => ?_⟩; refine LCg.CompRest.succ ?_; intro v' I' oI' C' oC' D' m' h' tk' E' hv' hC' hx' F' N' off' ne'; (obtain ⟨c', u', hc', hv9'⟩ := hv'); subst hv9'; (have hc9 : x = c' := Option.some.inj hc'); subst hc9)))
  (k_with "CompEnd str" => ((refine LCg.CompEnd.intro (by assumption) (by assumption) _ (fun _ hp => hp) (by assumption) trivial ?_; refine LCg.CompRest.zero ?_)))
  (k_with "call builtin:str.join" => ((refine join_lst (ls := [escS x]) (by assumption) (by k_mem) (.cons _ _ .nil) (by decide +kernel) (by have := escS_len x; simp [len_tl]; omega) ?_; intro _ _; (try dsimp only))))
  refine wpAny_call ?_
  walk_at "mine cells"
  walk_at "mine steps"
  exact ret _ _ _ (by assumption) (news_tl (news_tl (by assumption)))
end Mine
theorem Mine.kw_Escd_2 : True := by
  k_with "call ref" => (k_dflt (show wpAny _ _ (call (Value.ref 245) [_, _]) _ _ _); k_dflt (refine' escaped_ok ?zzB ?zzF ?zzX ?zzT ?zzk ?zzp ?zzu ?zzN ?zzhx ?_; walk_at "mine tail"; (case zzhx => omega)); intro _ h' tk' F' N')
  trivial
end
section
set_option maxRecDepth 100000
namespace Mine
section
variable {prog : Program} {w : World} {A : Around} {E : Value → Shared → Prop} {s : Shared} {h₀ : Heap} {L : Addr} {m : PySem.Str → Option Value} {K : Frag} {a : Addr} {es : Array DictEntry} {n : Nat} {x : PySem.Str} {t : Tok}
theorem topNotIn_K {r : Option Value} {Q : Value → Shared → Prop} (F : Fr h₀ L s.heap m) (X₀ : K.In h₀) (hl : K.lookup a = some ⟨.type "dict", none, .dict es n, #[]⟩) (hk : KeysLit w.params es.toList) (e : nsIn K a x = some r) (lo : (a == sysModules) = false)
    (h : Q (.bool (!r.isSome)) { s with toks := s.toks + 1 }) : wpAny (model prog w) A (compareOp .NotIn (.str x t) (.ref a)) Q E s :=
  wpAny_notIn_of (strKind_is prog w x t) lo (mapOf_K (prog := prog) (X₀.keeps F.keep) hl hk) (by rw [find_K hl e]; exact h)
end
end Mine
end
section
set_option maxRecDepth 100000
namespace Mine
theorem quoted_some {w : World} {mean : ExcName → Option Value} {mg mb : PySem.Str → Option Value} {dp un : Nat} {gd : Option (List Code)} {cn : PySem.Str} {cs : Scope} {a : Addr} {ccd : Value} {cl : List (PySem.Str × Addr)} {outer : List Env} {A₀ : Around} {base h₀ : Heap} {L : Addr} {m : PySem.Str → Option Value} {s : Shared} {Q E : Value → Shared → Prop} {news : List (Addr × Obj)} (B : Below A₀ base outer h₀) (F : Fr h₀ L s.heap m) (X : (Mine.hd.heap_1_39 w.params).In h₀) (T : Top Mine.hd.view_1_40 lo mean mg mb h₀) (hk : cs.kind = .function) (hdp : dp + 20 < recursionLimit) (hun : un + 200 < cLine) (N : News h₀ L s.heap news) {h1 h2 : Int} {t1 t2 t3 t4 : Tok} {TX : PySem.Str} {n : Nat} {c d : Addr} {R : List Nat} {gg : Obj → List (Addr × Obj)} (hc : (c, instObj 222 d) ∈ news) (U : UpdF d (curD h1 h2 t1 t2 t3 TX n t4) news gg) (hlen : TX.length ≤ 100000) (hR : (tl TX).drop n = R) {u1 : Tok} {acc : List Nat} {e : Nat} (hn : n ≤ TX.length) (hq : quoR R n = some (acc, e))
  (ret : ∀ (t t' : Tok) (h' : Heap) (tk' : Nat), Fr h₀ L h' m → News h₀ L h' (gg (curD h1 h2 t1 t2 t3 TX ((e : Nat) : Int) t')) → Q (.str (tx acc) t) { s with heap := h', toks := tk' }) : wpAny (model PySem.Challenge.rw_nn0359_01.row.prog w) (ktrTop dp un gd cn cs L a ccd cl outer) (call (.ref 219) [.ref c, .str (PySem.Str.ofString "'") u1]) Q E s :=
  quoted_ok B F X T hk hdp hun N hc U hlen hR hn (fun acc' e' h => by rw [hq] at h; injection h with h; injection h with h1 h2; subst h1; subst h2; exact ret) (fun h => by rw [hq] at h; cases h)
theorem quoted_none {w : World} {mean : ExcName → Option Value} {mg mb : PySem.Str → Option Value} {dp un : Nat} {gd : Option (List Code)} {cn : PySem.Str} {cs : Scope} {a : Addr} {ccd : Value} {cl : List (PySem.Str × Addr)} {outer : List Env} {A₀ : Around} {base h₀ : Heap} {L : Addr} {m : PySem.Str → Option Value} {s : Shared} {Q E : Value → Shared → Prop} {news : List (Addr × Obj)} (B : Below A₀ base outer h₀) (F : Fr h₀ L s.heap m) (X : (Mine.hd.heap_1_39 w.params).In h₀) (T : Top Mine.hd.view_1_40 lo mean mg mb h₀) (hk : cs.kind = .function) (hdp : dp + 20 < recursionLimit) (hun : un + 200 < cLine) (N : News h₀ L s.heap news) {h1 h2 : Int} {t1 t2 t3 t4 : Tok} {TX : PySem.Str} {n : Nat} {c d : Addr} {R : List Nat} {gg : Obj → List (Addr × Obj)} (hc : (c, instObj 222 d) ∈ news) (U : UpdF d (curD h1 h2 t1 t2 t3 TX n t4) news gg) (hlen : TX.length ≤ 100000) (hR : (tl TX).drop n = R) {u1 : Tok} (hn : n ≤ TX.length) (hq : quoR R n = none)
  (ret : ∀ e : Nat, ∀ (t t' : Tok) (h' : Heap) (tk' : Nat), Fr h₀ L h' m → News h₀ L h' (gg (curD h1 h2 t1 t2 t3 TX ((e : Nat) : Int) t')) → Q (.none) { s with heap := h', toks := tk' }) : wpAny (model PySem.Challenge.rw_nn0359_01.row.prog w) (ktrTop dp un gd cn cs L a ccd cl outer) (call (.ref 219) [.ref c, .str (PySem.Str.ofString "'") u1]) Q E s :=
  quoted_ok B F X T hk hdp hun N hc U hlen hR hn (fun acc' e' h => by rw [hq] at h; cases h) (fun _ => ret)
theorem quo_text (l : List Nat) : PySem.Str.ofString "'" ++ tx l ++ PySem.Str.ofString "'" = tx (39 :: l ++ [39]) := by
  rw [show PySem.Str.ofString "'" = tx [39] from by decide +kernel]
  apply tl_inj
  rw [tl_append, tl_append, tl_tx, tl_tx, tl_tx]
  rfl
theorem qGo_len : ∀ (f : Nat) (acc R : List Nat) (n : Nat) (acc' : List Nat) (e : Nat), qGo f acc R n = some (acc', e) → acc'.length ≤ acc.length + R.length
  | 0, _, _, _, _, _, h => by simp [qGo] at h
  | _ + 1, _, [], _, _, _, h => by simp [qGo] at h
  | f + 1, acc, x :: r, n, acc', e, h => by
    simp only [qGo] at h
    by_cases h39 : x = 39
    · rw [if_pos h39] at h
      injection h with h; injection h with h1 h2
      subst h1; omega
    rw [if_neg h39] at h
    by_cases h92 : x = 92
    · rw [if_pos h92] at h
      cases r with
      | nil => simp at h
      | cons y r =>
        have := qGo_len f _ _ _ _ _ h
        simp only [List.length_append, List.length_drop, List.length_cons, List.length_nil] at this ⊢
        have := escR_pos y r
        omega
    · rw [if_neg h92] at h
      have := qGo_len f _ _ _ _ _ h
      simp only [List.length_append, List.length_cons, List.length_nil] at this ⊢
      omega
theorem quoR_len {R : List Nat} {n : Nat} {acc : List Nat} {e : Nat} (h : quoR R n = some (acc, e)) : acc.length ≤ R.length := by
  have := qGo_len _ _ _ _ _ _ h
  simpa using this
end Mine
end
section
theorem Mine.wr_Step1 : True := by
  k_with_none
  k_with "call ref" => k_extra "call ref last"
  k_with "om" => with_reducible first | assumption | exact Nat.add_sub_cancel_left _ _ | exact Int.ofNat_lt.mpr (by assumption) | exact Int.ofNat_le.mpr (by assumption) | exact Int.ofNat_lt.mp (by assumption) | exact Int.ofNat_le.mp (by assumption) | exact o_lt (by assumption) | exact o_nlt (by assumption) | exact o_63 (by assumption) (by assumption) (by with_unfolding_all exact rfl) | exact o_s2 (by assumption) | exact o_s1 (by assumption) (by assumption) | exact o_s3 (by assumption) (by assumption) | exact o_mt (by assumption) | exact o_f1 (by assumption) | exact Nat.le_of_lt (by assumption) | exact Nat.not_le.mp (by assumption) | exact o_sub (by assumption) | exact o_big1 (by assumption) (by with_unfolding_all exact rfl) | exact Nat.le_trans (Nat.le_add_right _ _) (by assumption) | exact Int.natCast_nonneg _ | exact Nat.le_trans (by assumption) (by assumption) | exact o_big (by assumption) (by assumption) (by with_unfolding_all exact rfl) | exact o_ltM (by assumption) (by assumption) | exact o_tr (by assumption) (by assumption) (by assumption) | exact Nat.lt_of_lt_of_le (by assumption) (by assumption) | exact Nat.lt_of_le_of_lt (by assumption) (by assumption) | exact Nat.ne_of_lt (by assumption) | exact Nat.ne_of_gt (by assumption) | exact o_mm (by assumption) | exact o_mm2 (by assumption) (by assumption) | exact o_mn | exact o_ml (by assumption) (by assumption) | exact o_and (by assumption) | rfl
  k_with "kst" => k_extra "mine kst"
  k_with "kst" => k_extra "mine same3"
  k_with "ksw" => k_extra "mine ksw"
  k_with "ksw" => k_extra "mine same"
  k_with "mine enter" => (refine' code_def ?k1q480 ?k2q480 ?k3q480 ?k4q480 ?k5q480 ?kAq480 ?kFq480 ?kKq480 ?k6q480 ?k7q480 ?k8q480 ?k9q480 ?kBq480 ?_ ?c2q480 ?c3q480 ?c4q480 ?c5q480; (case kAq480 => exact rfl); (case kFq480 => exact rfl); (case kKq480 => first | exact rfl | assumption); (case k1q480 => k_asm); (case k2q480 => k_asm); (case k3q480 => k_asm); (case k4q480 => k_asm); (case k5q480 => k_asm); (case k6q480 => k_is); (case k7q480 => k_is); (case k8q480 => first | (refine' rm0 ?rhq480; (case rhq480 => assumption)) | (refine' rm1 ?rhq480 ?rlq480; (case rhq480 => assumption); (case rlq480 => exact rfl)) | (refine' rm2 ?rhq480 ?rlq480; (case rhq480 => assumption); (case rlq480 => exact rfl)) | ktr_room); (case k9q480 => first | exact BindsTo.of_eq rfl | exact binds_K (by k_in) rfl (by k_is) rfl rfl rfl); (case c5q480 => decide); (case kBq480 => exact locs rfl); (case c2q480 => exact rfl); (case c3q480 => exact rfl); (case c4q480 => exact rfl); k_whole; intro g' L' h' FG'; (refine (?_ : let mk := _; Fr _ _ _ mk → _)); intro mk F' N' B' X' T'; (refine (?_ : let nk := _; let ak := _; let qk := _; let ek := _; let sk := _; wpAny _ ak (execs _ nk) qk ek sk)); intro nk ak qk ek sk)
  k_with "subscriptTail Name Attribute str int" => ((with_reducible show wpAny _ _ (subscriptTail _ _ (Value.str _ _) (Value.int _ _)) _ _ _); refine item_str (fitsSsize_of (N := 9223372036854775808) (by omega) (by omega) (Int.le_refl _)) (by omega) (by omega) ?_; intro _)
  k_with "mine inline" => (k_dflt (first | (refine' call_cls ?k1q482 ?k2q482 ?k3q482 ?k4q482 ?k5q482 ?k6q482 ?_; (case k1q482 => k_asm); (case k2q482 => k_asm); (case k3q482 => k_asm); (case k4q482 => k_is); (case k5q482 => k_is); (case k6q482 => k_is); k_whole; intro x' d' h' F' N' l1 l2; (try k_lt l1); (try k_lt2 l2); (try k_sweep); walk_at "mine enter") | (refine wpAny_call ?_; walk_at "mine enter")))
  k_with "ite" => first | with_reducible refine ite_tt ?_ | with_reducible refine ite_ff ?_
  k_with "mine room" => first | (refine' rm2 ?rhq484 ?rlq484; (case rhq484 => assumption); (case rlq484 => exact rfl)) | decide +kernel | omega | (simp only [depth_deeper, units_deeper]; omega) | (dsimp only [ktrTop]; omega) | (dsimp only [Around.deeper, ktrTop]; omega) | ktr_room | ktr_units
  k_with "mine tail" => ((case zzB => k_asm); (case zzF => k_asm); (case zzX => k_asm); (case zzT => k_asm); (case zzN => k_asm); (case zzk => first | exact rfl | assumption); (case zzp => walk_at "mine room"); (case zzu => walk_at "mine room"))
  k_with "isTrue Compare" => (k_here; first | ((with_reducible show wpAny _ _ (isTrue (PySem.Expr.Compare (PySem.Expr.Name _ _) [PySem.CmpOp.Eq] [PySem.Expr.Constant (PySem.Const.str _) _ _] _) _ _) _ _ _); k_dflt (refine' tst_eq ?zaq486 ?zbq486 ?zcq486 ?zmq486 ?zFq486 ?zvq486 ?_; (case zFq486 => k_asm); (case zaq486 => rfl); (case zbq486 => rfl); (case zcq486 => decide); (case zvq486 => rfl); (case zmq486 => with_unfolding_all rfl); k_whole)) | ((with_reducible show wpAny _ _ (isTrue (PySem.Expr.Compare (PySem.Expr.Name _ _) [PySem.CmpOp.NotEq] [PySem.Expr.Constant (PySem.Const.str _) _ _] _) _ _) _ _ _); k_dflt (refine' tst_ne ?zaq486 ?zbq486 ?zcq486 ?zmq486 ?zFq486 ?zvq486 ?_; (case zFq486 => k_asm); (case zaq486 => rfl); (case zbq486 => rfl); (case zcq486 => decide); (case zvq486 => rfl); (case zmq486 => with_unfolding_all rfl); k_whole)))
  k_with "eval BinOp" => (k_here; (with_reducible show wpAny _ _ (eval (PySem.Expr.BinOp (PySem.Expr.Name _ _) PySem.Operator.Add (PySem.Expr.Constant (PySem.Const.int _) _ _) _) _) _ _ _); k_dflt (refine' add_nc ?zaq487 ?zbq487 ?zcq487 ?zFq487 ?zvq487 ?_; (case zFq487 => k_asm); (case zaq487 => rfl); (case zbq487 => rfl); (case zcq487 => decide); (case zvq487 => rfl); k_whole))
  k_with "mine steps" => repeat' (first | ((first | (fail_if_success (fail_if_success k_unfold)) | (fail_if_success (fail_if_success k_fold))); (refine (?_ : let qk := _; let sk := _; wpAny _ _ _ qk _ sk)); intro qk sk) | ((fail_if_success (fail_if_success k_unfold)); (refine (?_ : let sk := _; LeaveK _ _ _ _ _ _ sk)); intro sk) | (k_unfold; (try dsimp only)) | walk1 | (k_end; wrow_close) | (dsimp only [List.nil_append, List.cons_append]; walk1) | (leave1; (try dsimp only)) | fail "no step")
  k_with "execs cons" => (with_reducible refine wpAny_execs_cons ?_)
  k_with "eval Name" => (k_dflt (refine' nmL ?zaq490 ?zbq490 ?zdq490 ?zFq490 ?zvq490 ?_; (case zFq490 => k_asm); (case zaq490 => rfl); (case zbq490 => rfl); (case zvq490 => rfl); (case zdq490 => decide); k_whole))
  k_with "storeName" => (k_dflt (refine' stL ?zaq491 ?zbq491 ?zFq491 ?zNq491 ?_; (case zFq491 => k_asm); (case zNq491 => k_asm); (case zaq491 => rfl); (case zbq491 => rfl); k_whole; intro h' mk F' N'; (try k_sweep)))
  k_with "LeaveK" => (k_dflt (refine' leaveK_ ?k1q492 ?k2q492 ?_; (case k1q492 => k_asm); (case k2q492 => k_asm); k_whole); intro kF kN; (try dsimp only [InitBack]); (try refine ⟨rfl, ?_⟩))
  k_with "mine kst" => (intro z h1 h2 h3; (try dsimp +zetaDelta only [kstB]); (try simp only [List.forall_mem_cons, List.not_mem_nil, false_implies, implies_true, and_true, ne_eq] at h2); first | rfl | (simp [h1]; done) | (simp [h1, h2]; done) | ((try simp only [List.contains_cons, List.contains_nil, Bool.or_false, Bool.or_eq_false_iff, beq_eq_false_iff_ne, ne_eq] at h3); first | (simp [h1, h3]; done) | (simp [h1, h2, h3]; done)))
  k_with "mine same3" => (k_dflt (refine sn_end3 ?_; (repeat (first | (with_reducible exact sn_refl) | (refine' sn_in ?_ ?hpq494 ?hsq494; (case hpq494 => exact rfl); (case hsq494 => exact rfl)) | (refine' sn_upd ?_ ?hxq494; (case hxq494 => exact rfl)))); done))
  k_with "mine ksw" => (intro z h2 h3; (try dsimp +zetaDelta only [kstB]); (try simp only [List.forall_mem_cons, List.not_mem_nil, false_implies, implies_true, and_true, ne_eq] at h2); (try simp only [List.contains_cons, List.contains_nil, Bool.or_false, Bool.or_eq_false_iff, beq_eq_false_iff_ne, ne_eq] at h3); first | rfl | (simp [h2]; done) | (simp [h3]; done) | (simp [h2, h3]; done))
  k_with "mine same" => (k_dflt (refine sn_end ?_; (repeat (first | (with_reducible exact sn_refl) | (refine' sn_in ?_ ?hpq496 ?hsq496; (case hpq496 => exact rfl); (case hsq496 => exact rfl)) | (refine' sn_upd ?_ ?hxq496; (case hxq496 => exact rfl)))); done))
  w_top off
  trivial
theorem Mine.kw_mStep1_1 : True := by
  k_with "call type:int" => ((with_reducible show wpAny _ _ (call (Value.type "int") [Value.str _ _, Value.int _ _]) _ _ _); refine call_int16 (by first | assumption | exact isHx_mem (by assumption) | exact isOc_isHx (by assumption)) ?_)
  k_with "call ref" => (k_dflt (show wpAny _ _ (call (Value.ref 233) [_]) _ _ _); k_dflt (refine' hex_escape_ok ?zzB ?zzF ?zzX ?zzT ?zzk ?zzp ?zzu ?zzN ?zzhx ?_; walk_at "mine tail"; (case zzhx => omega)); intro _ h' tk' F' N')
  k_with "call ref" => (k_dflt (show wpAny _ _ (call (Value.ref 240) [_, _]) _ _ _); k_dflt (refine' escaped_sign_ok ?zzB ?zzF ?zzX ?zzT ?zzk ?zzp ?zzu ?zzN ?zzhx ?_; walk_at "mine tail"; (case zzhx => omega)); intro _ h' tk' F' N')
  k_with "call ref" => (k_dflt (show wpAny _ _ (call (Value.ref 119) [_]) _ _ _); k_dflt (refine' is_done_ok ?zzB ?zzF ?zzX ?zzT ?zzk ?zzp ?zzu ?zzN ?zzhc ?zzhd ?zzhl ?zzhR ?_; walk_at "mine tail"; (case zzhc => k_mem); (case zzhd => k_mem); (case zzhl => assumption); (case zzhR => assumption)); (intro _ h' tk' F' N'); (try simp only [List.isEmpty_cons, List.isEmpty_nil]))
  k_with "call ref" => (k_dflt (show wpAny _ _ (call (Value.ref 127) [_]) _ _ _); k_dflt (refine' peek_ok ?zzB ?zzF ?zzX ?zzT ?zzk ?zzp ?zzu ?zzN ?zzhc ?zzhd ?zzhl ?zzhR ?zzhx ?_; walk_at "mine tail"; (case zzhc => k_mem); (case zzhd => k_mem); (case zzhl => assumption); (case zzhR => assumption); (case zzhx => exact rfl)); intro _ h' tk' F' N')
  k_with "call ref" => (k_dflt (show wpAny _ _ (call (Value.ref 127) [_]) _ _ _); k_dflt (refine' peekE_ok ?zzB ?zzF ?zzX ?zzT ?zzk ?zzp ?zzu ?zzN ?zzhc ?zzhd ?zzhl ?zzhR ?zzhx ?_; walk_at "mine tail"; (case zzhc => k_mem); (case zzhd => k_mem); (case zzhl => assumption); (case zzhR => assumption); (case zzhx => exact rfl)); intro _ h' tk' F' N')
  k_with "call ref" => (k_dflt (show wpAny _ _ (call (Value.ref 127) [_, _]) _ _ _); k_dflt (refine' peek1_ok ?zzB ?zzF ?zzX ?zzT ?zzk ?zzp ?zzu ?zzN ?zzhc ?zzhd ?zzhl ?zzhR ?zzhx ?_; walk_at "mine tail"; (case zzhc => k_mem); (case zzhd => k_mem); (case zzhl => assumption); (case zzhR => assumption); (case zzhx => exact rfl)); intro _ h' tk' F' N')
  k_with "call ref" => (k_dflt (show wpAny _ _ (call (Value.ref 127) [_, _]) _ _ _); k_dflt (refine' peek1E_ok ?zzB ?zzF ?zzX ?zzT ?zzk ?zzp ?zzu ?zzN ?zzhc ?zzhd ?zzhl ?zzhR ?zzhx ?_; walk_at "mine tail"; (case zzhc => k_mem); (case zzhd => k_mem); (case zzhl => assumption); (case zzhR => assumption); (case zzhx => exact rfl)); intro _ h' tk' F' N')
  k_with "call ref" => (k_dflt (show wpAny _ _ (call (Value.ref 141) [_]) _ _ _); k_dflt (refine' take_ok ?zzB ?zzF ?zzX ?zzT ?zzk ?zzp ?zzu ?zzN ?zzhc ?zzU ?zzhl ?zzhR ?zzhx ?_; walk_at "mine tail"; (case zzhc => k_mem); (case zzU => k_updF); (case zzhl => assumption); (case zzhR => assumption); (case zzhx => exact rfl)); intro _ _ h' tk' F' N')
  k_with "call ref" => (k_dflt (show wpAny _ _ (call (Value.ref 148) [_, _]) _ _ _); k_dflt (refine' skip_no ?zzB ?zzF ?zzX ?zzT ?zzk ?zzp ?zzu ?zzN ?zzhc ?zzhd ?zzhl ?zzhR ?zzhx ?zzhw ?_; walk_at "mine tail"; (case zzhc => k_mem); (case zzhd => k_mem); (case zzhl => assumption); (case zzhR => assumption); (case zzhx => decide); (case zzhw => exact rfl)); intro _ h' tk' F' N')
  k_with "call ref" => (k_dflt (show wpAny _ _ (call (Value.ref 148) [_, _]) _ _ _); k_dflt (refine' skip_yes ?zzB ?zzF ?zzX ?zzT ?zzk ?zzp ?zzu ?zzN ?zzhc ?zzU ?zzhl ?zzhR ?zzhx ?zzhw ?_; walk_at "mine tail"; (case zzhc => k_mem); (case zzU => k_updF); (case zzhl => assumption); (case zzhR => assumption); (case zzhx => exact rfl); (case zzhw => exact rfl)); intro _ _ h' tk' F' N')
  k_with "call ref" => (k_dflt (show wpAny _ _ (call (Value.ref 155) [_, _]) _ _ _); k_dflt (refine' take_while_ok ?zzB ?zzF ?zzX ?zzT ?zzk ?zzp ?zzu ?zzN ?zzhc ?zzU ?zzhl ?zzhR ?zzhn ?zzhw ?_; walk_at "mine tail"; (case zzhc => k_mem); (case zzU => k_updF); (case zzhl => assumption); (case zzhR => assumption); (case zzhn => assumption); (case zzhw => decide +kernel)); intro _ _ h' tk' F' N')
  k_with "call ref" => (k_dflt (show wpAny _ _ (call (Value.ref 170) [_]) _ _ _); k_dflt (refine' skip_blanks_ok ?zzB ?zzF ?zzX ?zzT ?zzk ?zzp ?zzu ?zzN ?zzhc ?zzU ?zzhl ?zzhR ?zzhn ?_; walk_at "mine tail"; (case zzhc => k_mem); (case zzU => k_updF); (case zzhl => assumption); (case zzhR => assumption); (case zzhn => assumption)); intro _ _ h' tk' F' N')
  k_with "call ref" => (k_dflt (show wpAny _ _ (call (Value.ref 177) [_]) _ _ _); k_dflt (refine' name_ok ?zzB ?zzF ?zzX ?zzT ?zzk ?zzp ?zzu ?zzN ?zzhc ?zzU ?zzhl ?zzhR ?zzhn ?_; walk_at "mine tail"; (case zzhc => k_mem); (case zzU => k_updF); (case zzhl => assumption); (case zzhR => assumption); (case zzhn => assumption)); intro _ _ h' tk' F' N')
  k_with "call ref" => (k_dflt (show wpAny _ _ (call (Value.ref 205) [_, _, .int 3 _, _]) _ _ _); k_dflt (refine' coded8_ok ?zzB ?zzF ?zzX ?zzT ?zzk ?zzp ?zzu ?zzN ?zzhc ?zzU ?zzhl ?zzhR ?_; walk_at "mine tail"; (case zzhc => k_mem); (case zzU => k_updF); (case zzhl => assumption); (case zzhR => assumption)); intro _ _ h' tk' F' N')
  k_with "call ref" => (k_dflt (show wpAny _ _ (call (Value.ref 205) [_, _, .int 2 _, _]) _ _ _); k_dflt (refine' coded16_ok ?zzB ?zzF ?zzX ?zzT ?zzk ?zzp ?zzu ?zzN ?zzhc ?zzU ?zzhl ?zzhR ?_; walk_at "mine tail"; (case zzhc => k_mem); (case zzU => k_updF); (case zzhl => assumption); (case zzhR => assumption)); intro _ _ h' tk' F' N')
  k_with "call ref" => (k_dflt (show wpAny _ _ (call (Value.ref 212) [_]) _ _ _); k_dflt (refine' escape_ok ?zzB ?zzF ?zzX ?zzT ?zzk ?zzp ?zzu ?zzN ?zzhc ?zzU ?zzhl ?zzhR ?zzhx ?_; walk_at "mine tail"; (case zzhc => k_mem); (case zzU => k_updF); (case zzhl => assumption); (case zzhR => assumption); (case zzhx => exact rfl)); intro _ _ h' tk' F' N')
  k_with "call ref" => (k_dflt (show wpAny _ _ (call (Value.ref 212) [_]) _ _ _); k_dflt (refine' escapeE_ok ?zzB ?zzF ?zzX ?zzT ?zzk ?zzp ?zzu ?zzN ?zzhc ?zzhd ?zzhl ?zzhR ?zzhx ?_; walk_at "mine tail"; (case zzhc => k_mem); (case zzhd => k_mem); (case zzhl => assumption); (case zzhR => assumption); (case zzhx => exact rfl)); intro _ h' tk' F' N')
  k_with "call ref" => ((with_reducible show wpAny _ _ (call _ _) _ _ _); k_dflt (show wpAny _ _ (call (Value.ref 219) [_, _]) _ _ _); k_dflt (refine' quoted_ok ?Bq515 ?Fq515 ?Xq515 ?Tq515 ?kq515 ?dpq515 ?unq515 ?Nq515 ?hcq515 ?Uq515 ?hlq515 ?hRq515 ?hnq515 ?_ ?_; (case Bq515 => k_asm); (case Fq515 => k_asm); (case Xq515 => k_asm); (case Tq515 => k_asm); (case Nq515 => k_asm); (case kq515 => first | exact rfl | assumption); (case hcq515 => k_mem); (case Uq515 => k_updF); (case hlq515 => assumption); (case hRq515 => assumption); (case hnq515 => assumption); (case dpq515 => walk_at "mine room"); (case unq515 => walk_at "mine room")); (all_goals first | (intro _ _ hQ' _ _ h' tk' F' N') | (intro hQ' _ _ _ h' tk' F' N')))
  k_with "call ref" => (k_dflt (show wpAny _ _ (call (Value.ref 57) [_, _]) _ _ _); k_dflt (refine' pos_ok ?zzB ?zzF ?zzX ?zzT ?zzk ?zzp ?zzu ?zzN ?zzhl ?zzhj ?zzhnl ?_; walk_at "mine tail"; (case zzhl => assumption); (case zzhj => assumption); (case zzhnl => assumption)); (intro x' d' _ _ _ _ _ _ _ _ _ cv' h' tk' ecv' F' N' l1 l2); (try k_lt l1); (try k_lt2 l2))
  k_with "getMethod type:Exception" => (k_here; refine' method_type ?Fq517 ?Xq517 ?mq517 (by decide +kernel) ?eq517 ?hq517 ?_; (case Fq517 => k_asm); (case Xq517 => k_asm); (case mq517 => first | rfl | kernel_rfl); (case eq517 => k_dflt k_is); (case hq517 => k_handed))
  k_with "call ref" => ((with_reducible show wpAny _ _ (call _ _) _ _ _); k_dflt (show wpAny _ _ (call (Value.ref 95) [_, _]) _ _ _); k_dflt (refine' lex_call ?Fq518 ?Nq518 ?Xq518 ?Cq518 ?iq518 ?fq518 ?sq518 ?zq518 ?_; (case Fq518 => k_asm); (case Nq518 => k_asm); (case Xq518 => k_asm); (case Cq518 => k_is); (case iq518 => k_is); (case fq518 => k_is); (case sq518 => k_is); (case zq518 => exact Nat.le_of_ble_eq_true rfl)); (intro e' t' h' F' N' l1 l2); (try k_lt l1); (try k_lt2 l2); walk_at "mine enter")
  k_with "call builtin:Exception.__init__" => ((with_reducible show wpAny _ _ (call (Value.builtin "Exception.__init__") (Value.ref _ :: _)) _ _ _); k_dflt (refine' lex_init_K ?Fq519 ?Nq519 ?Xq519 ?Cq519 ?Uq519 ?zq519 ?_; (case Fq519 => k_asm); (case Nq519 => k_asm); (case Xq519 => k_asm); (case Cq519 => k_is); (case Uq519 => k_updF); (case zq519 => exact Nat.le_of_ble_eq_true rfl)); (intro t' h' F' N' l1); (try dsimp only at N'); (try k_lt l1); (try k_sweep))
  k_with "setAttr ref" => (k_here; k_dflt (first | (refine' lex_set1 ?Fq520 ?Nq520 ?Xq520 ?Cq520 ?sq520 ?nq520 ?Uq520 ?_; (case Fq520 => k_asm); (case Nq520 => k_asm); (case Xq520 => k_asm); (case Cq520 => k_is); (case sq520 => k_is); (case Uq520 => k_updF); (case nq520 => k_is); (intro d' h' F' N' l1); (try dsimp only at N'); (try k_lt l1); (try k_sweep)) | (refine' lex_set2 ?Fq520 ?Nq520 ?Xq520 ?Cq520 ?sq520 ?nq520 ?xq520 ?Uq520 ?lq520 ?eq520 ?zq520 ?_; (case Fq520 => k_asm); (case Nq520 => k_asm); (case Xq520 => k_asm); (case Cq520 => k_is); (case sq520 => k_is); (case xq520 => k_mem); (case Uq520 => k_updF); (case nq520 => k_is); (case lq520 => k_get); (case eq520 => k_put); (case zq520 => exact Nat.le_of_ble_eq_true rfl); (intro h' F' N'); (try dsimp only at N'); (try k_sweep))))
  k_with "exec Raise some none" => (k_here; k_dflt (refine lex_raise rfl ?_))
  k_with "RaisableL ref" => (refine' ⟨_, _, _, rfl, ?hCq522, ?heq522, ?_⟩; (case hCq522 => exact (Frag.In.keeps (by k_asm) (Fr.keep (by k_asm))) _ _ (look95 _)); (case heq522 => exact News.get (by k_asm) (by k_mem)))
  k_with "leaving ref" => (k_here; (refine' lex_leave_at ?k1q523 ?k2q523 ?k3q523 ?k4q523 ?_; (case k3q523 => assumption); (case k1q523 => assumption); (case k4q523 => assumption); (case k2q523 => assumption); k_whole; intro h' R' U'; (try dsimp only at R' U' ⊢)))
  k_with "call ref" => ((with_reducible show wpAny _ _ (call _ _) _ _ _); k_dflt (show wpAny _ _ (call (Value.ref 290) [_, _, _]) _ _ _); k_dflt (refine' fail_ok ?Bq524 ?Fq524 ?Xq524 ?Tq524 ?kq524 ?dpq524 ?unq524 ?Nq524 ?hcq524 ?hdq524 ?hlq524 ?hRq524 ?hjq524 ?hnlq524 ?_; (case Bq524 => k_asm); (case Fq524 => k_asm); (case Xq524 => k_asm); (case Tq524 => k_asm); (case Nq524 => k_asm); (case kq524 => first | exact rfl | assumption); (case hcq524 => k_mem); (case hdq524 => k_mem); (case hlq524 => assumption); (case hRq524 => exact rfl); (case hjq524 => assumption); (case hnlq524 => assumption); (case dpq524 => walk_at "mine room"); (case unq524 => walk_at "mine room")); (intro e7 g7 h7 tk7 FG7 U7 R7))
  k_with "eval Name" => (k_here; (with_reducible show wpAny _ _ (eval (Expr.Name _ _) (compEnvC _ _ _ _)) _ _ _); k_dflt (refine ld_cell (by k_asm) (by rfl) (by k_mem) (by first | rfl | assumption) ?_))
  k_with "mine cells" => (refine' code_defC ?k1q526 ?k2q526 ?k3q526 ?k4q526 ?k5q526 ?kAq526 ?kFq526 ?kKq526 ?k6q526 ?k7q526 ?k8q526 ?k9q526 ?kBq526 ?kDq526 ?_ ?c2q526 ?c3q526 ?c4q526; (case kAq526 => exact rfl); (case kFq526 => exact rfl); (case kKq526 => first | exact rfl | assumption); (case k1q526 => k_asm); (case k2q526 => k_asm); (case k3q526 => k_asm); (case k4q526 => k_asm); (case k5q526 => k_asm); (case k6q526 => k_is); (case k7q526 => k_is); (case k8q526 => first | (refine' rm0 ?rhq526; (case rhq526 => assumption)) | (refine' rm1 ?rhq526 ?rlq526; (case rhq526 => assumption); (case rlq526 => exact rfl)) | (refine' rm2 ?rhq526 ?rlq526; (case rhq526 => assumption); (case rlq526 => exact rfl)) | ktr_room); (case k9q526 => first | exact BindsTo.of_eq rfl | exact binds_K (by k_in) rfl (by k_is) rfl rfl rfl); (case kBq526 => exact rfl); (case kDq526 => decide +kernel); (case c2q526 => exact rfl); (case c3q526 => exact rfl); (case c4q526 => exact rfl); k_whole; intro g' L' h' tk' cells' FG'; (refine (?_ : let mk := _; Fr _ _ _ mk → _)); intro mk F' N' Y' B' X' T' l1; (try k_lt l1); k_cells Y'; (try simp only [List.cons_append, List.nil_append] at N'); (refine (?_ : let nk := _; let ak := _; let qk := _; let ek := _; let sk := _; wpAny _ ak (execs _ nk) qk ek sk)); intro nk ak qk ek sk)
  k_with "call ref" => (k_dflt (show wpAny _ _ (call (Value.ref 245) [_, _]) _ _ _); k_dflt (refine' escaped_ok ?zzB ?zzF ?zzX ?zzT ?zzk ?zzp ?zzu ?zzN ?zzhx ?_; walk_at "mine tail"; (case zzhx => omega)); intro _ h' tk' F' N')
  k_with "compareOp NotIn str ref" => (k_here; k_dflt (refine' topNotIn_K ?Fq528 ?Xq528 ?lq528 ?kq528 ?eq528 ?oq528 ?_; (case eq528 => assumption); (case Fq528 => k_asm); (case Xq528 => k_asm); (case lq528 => k_is); (case kq528 => k_keys); (case oq528 => decide)); dsimp only [Option.isSome, Bool.not_true, Bool.not_false])
  k_with "subscriptTail" => (k_here; k_dflt (refine' topItem_K ?Fq529 ?Xq529 ?lq529 ?kq529 ?eq529 ?_; (case eq529 => assumption); (case Fq529 => k_asm); (case Xq529 => k_asm); (case lq529 => k_is); (case kq529 => k_keys)))
  k_with "call ref" => (k_dflt (show wpAny _ _ (call (Value.ref 219) [_, _]) _ _ _); k_dflt (refine' quoted_some ?zzB ?zzF ?zzX ?zzT ?zzk ?zzp ?zzu ?zzN ?zzhc ?zzU ?zzhl ?zzhR ?zzhn ?zzhq ?_; walk_at "mine tail"; (case zzhc => k_mem); (case zzU => k_updF); (case zzhl => assumption); (case zzhR => assumption); (case zzhn => assumption); (case zzhq => assumption)); intro _ _ h' tk' F' N')
  k_with "call ref" => (k_dflt (show wpAny _ _ (call (Value.ref 219) [_, _]) _ _ _); k_dflt (refine' quoted_none ?zzB ?zzF ?zzX ?zzT ?zzk ?zzp ?zzu ?zzN ?zzhc ?zzU ?zzhl ?zzhR ?zzhn ?zzhq ?_; walk_at "mine tail"; (case zzhc => k_mem); (case zzU => k_updF); (case zzhl => assumption); (case zzhR => assumption); (case zzhn => assumption); (case zzhq => assumption)); intro e9' _ _ h' tk' F' N')
  k_with "call ref" => (k_dflt (show wpAny _ _ (call (Value.ref 148) [_, _]) _ _ _); k_dflt (refine' skip_no ?zzB ?zzF ?zzX ?zzT ?zzk ?zzp ?zzu ?zzN ?zzhc ?zzhd ?zzhl ?zzhR ?zzhx ?zzhw ?_; walk_at "mine tail"; (case zzhc => k_mem); (case zzhd => k_mem); (case zzhl => assumption); (case zzhR => assumption); (case zzhx => assumption); (case zzhw => exact rfl)); intro _ h' tk' F' N')
  trivial
namespace Mine
set_option maxHeartbeats 1600000 in
theorem step_bad {w : World} {mean : ExcName → Option Value} {mg mb : PySem.Str → Option Value} {dp un : Nat} {gd : Option (List Code)} {cn : PySem.Str} {cs : Scope} {a : Addr} {ccd : Value} {cl : List (PySem.Str × Addr)} {outer : List Env} {A₀ : Around} {base h₀ : Heap} {L : Addr} {m : PySem.Str → Option Value} {s : Shared} {Q E : Value → Shared → Prop} {news : List (Addr × Obj)} (B : Below A₀ base outer h₀) (F : Fr h₀ L s.heap m) (X : (Mine.hd.heap_1_39 w.params).In h₀) (T : Top Mine.hd.view_1_40 lo mean mg mb h₀) (hk : cs.kind = .function) (hdp : dp + 30 < recursionLimit) (hun : un + 300 < cLine) (N : News h₀ L s.heap news) {h1 h2 : Int} {t1 t2 t3 t4 : Tok} {TX : PySem.Str} {n : Nat} {c d : Addr} {R : List Nat} {gg : Obj → List (Addr × Obj)} (hc : (c, instObj 222 d) ∈ news) (U : UpdF d (curD h1 h2 t1 t2 t3 TX n t4) news gg) (hlen : TX.length ≤ 100000) (hR : (tl TX).drop n = R) {ln : Addr} {nq : Nat} {n1 n2 n3 : Tok} (hl : (ln, nmsO nq n1 n2 n3) ∈ news) (hn : n ≤ TX.length) (hnl : (10 : Nat) ∉ tl TX) (has : ∀ x ∈ tl TX, x < 512)
  (hw : wantR (nameR R) = none)
  (exc : ∀ (e : Addr) (g h' : Heap) (tk' : Nat), Fr h₀ L g m → g.UpToSlots h' → LexedAt base (envX cn cs L a ccd cl :: outer) e n h' → E (.ref e) { s with heap := h', toks := tk' }) : wpAny (model PySem.Challenge.rw_nn0359_01.row.prog w) (ktrTop dp un gd cn cs L a ccd cl outer) (call (.ref 297) [.ref c, .ref ln]) Q E s := by
  have hcd := cur_ne N hc (upd_mem U)
  have hlnd := nm_ne N hl (upd_mem U)
  obtain ⟨rest, hr1, hr2, hr3⟩ := news_turn U
  have N2 := nm_news N hl (cur_news N hc hr2)
  have hold : ∀ D : Addr, (ln < D ∧ c < D ∧ d < D ∧ AllLt D rest) → ∀ p ∈ news, p.1 < D := fun D h p hp => by
    rcases (hr2 p).mp hp with rfl | hp
    · exact h.2.2.1
    · exact ktn_ltOf h.2.2.2 p hp
  clear N
  have hn1 : n + (nameR R).length ≤ TX.length := by have := drop_len hR hn; have := nameR_len R; omega
  have hR1 : (tl TX).drop (n + (nameR R).length) = R.drop (nameR R).length := drop_add hR
  generalize hR1e : R.drop (nameR R).length = R1 at *
  have hn2 : n + (nameR R).length + run isBl R1 ≤ TX.length := by have := drop_len hR1 hn1; have := run_le isBl R1; omega
  have hR2 : (tl TX).drop (n + (nameR R).length + run isBl R1) = R1.dropWhile isBl := drop_run_at isBl hR1
  generalize hR2e : R1.dropWhile isBl = R2 at *
  have hwl : (tx (nameR R)).length ≤ 100000 := by rw [tx_len]; omega
  rcases want_at w (nameR R) with ⟨hw', hin⟩ | ⟨wa, ta, hw', hin⟩
  rotate_left
  · rw [hw'] at hw; cases hw
  refine wpAny_call ?_
  k_dflt walk_at "mine enter"
  walk_at "mine steps"
  exact exc _ _ _ _ (by assumption) (by assumption) (by assumption)
set_option maxHeartbeats 1600000 in
theorem step_no {w : World} {mean : ExcName → Option Value} {mg mb : PySem.Str → Option Value} {dp un : Nat} {gd : Option (List Code)} {cn : PySem.Str} {cs : Scope} {a : Addr} {ccd : Value} {cl : List (PySem.Str × Addr)} {outer : List Env} {A₀ : Around} {base h₀ : Heap} {L : Addr} {m : PySem.Str → Option Value} {s : Shared} {Q E : Value → Shared → Prop} {news : List (Addr × Obj)} (B : Below A₀ base outer h₀) (F : Fr h₀ L s.heap m) (X : (Mine.hd.heap_1_39 w.params).In h₀) (T : Top Mine.hd.view_1_40 lo mean mg mb h₀) (hk : cs.kind = .function) (hdp : dp + 30 < recursionLimit) (hun : un + 300 < cLine) (N : News h₀ L s.heap news) {h1 h2 : Int} {t1 t2 t3 t4 : Tok} {TX : PySem.Str} {n : Nat} {c d : Addr} {R : List Nat} {gg : Obj → List (Addr × Obj)} (hc : (c, instObj 222 d) ∈ news) (U : UpdF d (curD h1 h2 t1 t2 t3 TX n t4) news gg) (hlen : TX.length ≤ 100000) (hR : (tl TX).drop n = R) {ln : Addr} {nq : Nat} {n1 n2 n3 : Tok} (hl : (ln, nmsO nq n1 n2 n3) ∈ news) (hn : n ≤ TX.length) (hnl : (10 : Nat) ∉ tl TX) (has : ∀ x ∈ tl TX, x < 512)
  (hw : wantR (nameR R) = some .no)
  (ret : ∀ (x dx : Addr) (k1 k2 : Int) (v1 v2 v3 : Tok) (wv : Value) (t' : Tok) (h' : Heap) (tk' : Nat), (.no : Wth).is wv → Fr h₀ L h' m → News h₀ L h' ((x, instObj 279 dx) :: (dx, stepD k1 k2 v1 v2 v3 (nameR R) wv) :: gg (curD h1 h2 t1 t2 t3 TX ((n + (nameR R).length : Nat) : Int) t')) → (∀ p ∈ news, p.1 < dx) → dx < x → Q (.ref x) { s with heap := h', toks := tk' }) : wpAny (model PySem.Challenge.rw_nn0359_01.row.prog w) (ktrTop dp un gd cn cs L a ccd cl outer) (call (.ref 297) [.ref c, .ref ln]) Q E s := by
  have hcd := cur_ne N hc (upd_mem U)
  have hlnd := nm_ne N hl (upd_mem U)
  obtain ⟨rest, hr1, hr2, hr3⟩ := news_turn U
  have N2 := nm_news N hl (cur_news N hc hr2)
  have hold : ∀ D : Addr, (ln < D ∧ c < D ∧ d < D ∧ AllLt D rest) → ∀ p ∈ news, p.1 < D := fun D h p hp => by
    rcases (hr2 p).mp hp with rfl | hp
    · exact h.2.2.1
    · exact ktn_ltOf h.2.2.2 p hp
  clear N
  have hn1 : n + (nameR R).length ≤ TX.length := by have := drop_len hR hn; have := nameR_len R; omega
  have hR1 : (tl TX).drop (n + (nameR R).length) = R.drop (nameR R).length := drop_add hR
  generalize hR1e : R.drop (nameR R).length = R1 at *
  have hn2 : n + (nameR R).length + run isBl R1 ≤ TX.length := by have := drop_len hR1 hn1; have := run_le isBl R1; omega
  have hR2 : (tl TX).drop (n + (nameR R).length + run isBl R1) = R1.dropWhile isBl := drop_run_at isBl hR1
  generalize hR2e : R1.dropWhile isBl = R2 at *
  have hwl : (tx (nameR R)).length ≤ 100000 := by rw [tx_len]; omega
  rcases want_at w (nameR R) with ⟨hw', hin⟩ | ⟨wa, ta, hw', hin⟩
  · rw [hw'] at hw; cases hw
  obtain rfl : wa = .no := by rw [hw'] at hw; exact Option.some.inj hw
  (k_with "call ref last" => ((walk_at "mine inline")))
  refine wpAny_call ?_
  k_dflt walk_at "mine enter"
  walk_at "mine steps"
  exact ret _ _ _ _ _ _ _ _ _ _ _ rfl (by assumption) (news_two (by assumption) fun N7 => cur_back hr3 (news_tl N7)) (hold _ (by assumption)) (by assumption)
set_option maxHeartbeats 1600000 in
theorem step_numbad {w : World} {mean : ExcName → Option Value} {mg mb : PySem.Str → Option Value} {dp un : Nat} {gd : Option (List Code)} {cn : PySem.Str} {cs : Scope} {a : Addr} {ccd : Value} {cl : List (PySem.Str × Addr)} {outer : List Env} {A₀ : Around} {base h₀ : Heap} {L : Addr} {m : PySem.Str → Option Value} {s : Shared} {Q E : Value → Shared → Prop} {news : List (Addr × Obj)} (B : Below A₀ base outer h₀) (F : Fr h₀ L s.heap m) (X : (Mine.hd.heap_1_39 w.params).In h₀) (T : Top Mine.hd.view_1_40 lo mean mg mb h₀) (hk : cs.kind = .function) (hdp : dp + 30 < recursionLimit) (hun : un + 300 < cLine) (N : News h₀ L s.heap news) {h1 h2 : Int} {t1 t2 t3 t4 : Tok} {TX : PySem.Str} {n : Nat} {c d : Addr} {R : List Nat} {gg : Obj → List (Addr × Obj)} (hc : (c, instObj 222 d) ∈ news) (U : UpdF d (curD h1 h2 t1 t2 t3 TX n t4) news gg) (hlen : TX.length ≤ 100000) (hR : (tl TX).drop n = R) {ln : Addr} {nq : Nat} {n1 n2 n3 : Tok} (hl : (ln, nmsO nq n1 n2 n3) ∈ news) (hn : n ≤ TX.length) (hnl : (10 : Nat) ∉ tl TX) (has : ∀ x ∈ tl TX, x < 512)
  (hw : wantR (nameR R) = some .num) (hb : ((R.drop (nameR R).length).dropWhile isBl).takeWhile isDg = [] ∨ 6 < (((R.drop (nameR R).length).dropWhile isBl).takeWhile isDg).length)
  (exc : ∀ (e : Addr) (g h' : Heap) (tk' : Nat), Fr h₀ L g m → g.UpToSlots h' → LexedAt base (envX cn cs L a ccd cl :: outer) e (n + (nameR R).length + run isBl (R.drop (nameR R).length)) h' → E (.ref e) { s with heap := h', toks := tk' }) : wpAny (model PySem.Challenge.rw_nn0359_01.row.prog w) (ktrTop dp un gd cn cs L a ccd cl outer) (call (.ref 297) [.ref c, .ref ln]) Q E s := by
  have hcd := cur_ne N hc (upd_mem U)
  have hlnd := nm_ne N hl (upd_mem U)
  obtain ⟨rest, hr1, hr2, hr3⟩ := news_turn U
  have N2 := nm_news N hl (cur_news N hc hr2)
  have hold : ∀ D : Addr, (ln < D ∧ c < D ∧ d < D ∧ AllLt D rest) → ∀ p ∈ news, p.1 < D := fun D h p hp => by
    rcases (hr2 p).mp hp with rfl | hp
    · exact h.2.2.1
    · exact ktn_ltOf h.2.2.2 p hp
  clear N
  have hn1 : n + (nameR R).length ≤ TX.length := by have := drop_len hR hn; have := nameR_len R; omega
  have hR1 : (tl TX).drop (n + (nameR R).length) = R.drop (nameR R).length := drop_add hR
  generalize hR1e : R.drop (nameR R).length = R1 at *
  have hn2 : n + (nameR R).length + run isBl R1 ≤ TX.length := by have := drop_len hR1 hn1; have := run_le isBl R1; omega
  have hR2 : (tl TX).drop (n + (nameR R).length + run isBl R1) = R1.dropWhile isBl := drop_run_at isBl hR1
  generalize hR2e : R1.dropWhile isBl = R2 at *
  have hwl : (tx (nameR R)).length ≤ 100000 := by rw [tx_len]; omega
  rcases want_at w (nameR R) with ⟨hw', hin⟩ | ⟨wa, ta, hw', hin⟩
  · rw [hw'] at hw; cases hw
  obtain rfl : wa = .num := by rw [hw'] at hw; exact Option.some.inj hw
  (k_with "call ref last" => ((walk_at "mine inline")))
  have edg : R2.takeWhile isDg = R2.takeWhile (inS (PySem.Str.ofString "0123456789")) := rfl
  rw [edg] at hb
  clear edg
  have hfr : (R2.takeWhile (inS (PySem.Str.ofString "0123456789"))).length ≤ R2.length := run_le (inS (PySem.Str.ofString "0123456789")) R2
  have hfb : (tx (R2.takeWhile (inS (PySem.Str.ofString "0123456789")))).length ≤ 100000 := by rw [tx_len]; have := drop_len hR2 hn2; omega
  rcases hb with hb | hb
  · have he := tx_is_empty hb
    refine wpAny_call ?_
    k_dflt walk_at "mine enter"
    walk_at "mine steps"
    exact exc _ _ _ _ (by assumption) (by assumption) (by assumption)
  · have he := tx_ne_empty (l := R2.takeWhile (inS (PySem.Str.ofString "0123456789"))) (by intro h; rw [h] at hb; simp at hb)
    have hlen6 := tx_len (R2.takeWhile (inS (PySem.Str.ofString "0123456789")))
    refine wpAny_call ?_
    k_dflt walk_at "mine enter"
    walk_at "mine steps"
    exact exc _ _ _ _ (by assumption) (by assumption) (by assumption)
set_option maxHeartbeats 1600000 in
theorem step_num {w : World} {mean : ExcName → Option Value} {mg mb : PySem.Str → Option Value} {dp un : Nat} {gd : Option (List Code)} {cn : PySem.Str} {cs : Scope} {a : Addr} {ccd : Value} {cl : List (PySem.Str × Addr)} {outer : List Env} {A₀ : Around} {base h₀ : Heap} {L : Addr} {m : PySem.Str → Option Value} {s : Shared} {Q E : Value → Shared → Prop} {news : List (Addr × Obj)} (B : Below A₀ base outer h₀) (F : Fr h₀ L s.heap m) (X : (Mine.hd.heap_1_39 w.params).In h₀) (T : Top Mine.hd.view_1_40 lo mean mg mb h₀) (hk : cs.kind = .function) (hdp : dp + 30 < recursionLimit) (hun : un + 300 < cLine) (N : News h₀ L s.heap news) {h1 h2 : Int} {t1 t2 t3 t4 : Tok} {TX : PySem.Str} {n : Nat} {c d : Addr} {R : List Nat} {gg : Obj → List (Addr × Obj)} (hc : (c, instObj 222 d) ∈ news) (U : UpdF d (curD h1 h2 t1 t2 t3 TX n t4) news gg) (hlen : TX.length ≤ 100000) (hR : (tl TX).drop n = R) {ln : Addr} {nq : Nat} {n1 n2 n3 : Tok} (hl : (ln, nmsO nq n1 n2 n3) ∈ news) (hn : n ≤ TX.length) (hnl : (10 : Nat) ∉ tl TX) (has : ∀ x ∈ tl TX, x < 512)
  (hw : wantR (nameR R) = some .num) (hb : ¬ (((R.drop (nameR R).length).dropWhile isBl).takeWhile isDg = [] ∨ 6 < (((R.drop (nameR R).length).dropWhile isBl).takeWhile isDg).length))
  (ret : ∀ (x dx : Addr) (k1 k2 : Int) (v1 v2 v3 : Tok) (wv : Value) (t' : Tok) (h' : Heap) (tk' : Nat), ((.num (decN (((R.drop (nameR R).length).dropWhile isBl).takeWhile isDg))) : Wth).is wv → Fr h₀ L h' m → News h₀ L h' ((x, instObj 279 dx) :: (dx, stepD k1 k2 v1 v2 v3 (nameR R) wv) :: gg (curD h1 h2 t1 t2 t3 TX (((n + (nameR R).length + run isBl (R.drop (nameR R).length)) + run isDg ((R.drop (nameR R).length).dropWhile isBl) : Nat) : Int) t')) → (∀ p ∈ news, p.1 < dx) → dx < x → Q (.ref x) { s with heap := h', toks := tk' }) : wpAny (model PySem.Challenge.rw_nn0359_01.row.prog w) (ktrTop dp un gd cn cs L a ccd cl outer) (call (.ref 297) [.ref c, .ref ln]) Q E s := by
  have hcd := cur_ne N hc (upd_mem U)
  have hlnd := nm_ne N hl (upd_mem U)
  obtain ⟨rest, hr1, hr2, hr3⟩ := news_turn U
  have N2 := nm_news N hl (cur_news N hc hr2)
  have hold : ∀ D : Addr, (ln < D ∧ c < D ∧ d < D ∧ AllLt D rest) → ∀ p ∈ news, p.1 < D := fun D h p hp => by
    rcases (hr2 p).mp hp with rfl | hp
    · exact h.2.2.1
    · exact ktn_ltOf h.2.2.2 p hp
  clear N
  have hn1 : n + (nameR R).length ≤ TX.length := by have := drop_len hR hn; have := nameR_len R; omega
  have hR1 : (tl TX).drop (n + (nameR R).length) = R.drop (nameR R).length := drop_add hR
  generalize hR1e : R.drop (nameR R).length = R1 at *
  have hn2 : n + (nameR R).length + run isBl R1 ≤ TX.length := by have := drop_len hR1 hn1; have := run_le isBl R1; omega
  have hR2 : (tl TX).drop (n + (nameR R).length + run isBl R1) = R1.dropWhile isBl := drop_run_at isBl hR1
  generalize hR2e : R1.dropWhile isBl = R2 at *
  have hwl : (tx (nameR R)).length ≤ 100000 := by rw [tx_len]; omega
  rcases want_at w (nameR R) with ⟨hw', hin⟩ | ⟨wa, ta, hw', hin⟩
  · rw [hw'] at hw; cases hw
  obtain rfl : wa = .num := by rw [hw'] at hw; exact Option.some.inj hw
  (k_with "call ref last" => ((walk_at "mine inline")))
  have edg : R2.takeWhile isDg = R2.takeWhile (inS (PySem.Str.ofString "0123456789")) := rfl
  rw [edg] at hb
  clear edg
  have hfr : (R2.takeWhile (inS (PySem.Str.ofString "0123456789"))).length ≤ R2.length := run_le (inS (PySem.Str.ofString "0123456789")) R2
  have hfb : (tx (R2.takeWhile (inS (PySem.Str.ofString "0123456789")))).length ≤ 100000 := by rw [tx_len]; have := drop_len hR2 hn2; omega
  have he := tx_ne_empty (l := R2.takeWhile (inS (PySem.Str.ofString "0123456789"))) (by intro h; exact hb (.inl h))
  have hlen6 := tx_len (R2.takeWhile (inS (PySem.Str.ofString "0123456789")))
  have hlen7 : ¬ 6 < (R2.takeWhile (inS (PySem.Str.ofString "0123456789"))).length := fun h => hb (.inr h)
  have hint := int_figs R2 (fun h => hb (.inl h)) (by rw [hlen6]; omega)
  have h640 : (tx (R2.takeWhile (inS (PySem.Str.ofString "0123456789")))).length ≤ 640 := by rw [hlen6]; omega
  refine wpAny_call ?_
  k_dflt walk_at "mine enter"
  walk_at "mine steps"
  exact ret _ _ _ _ _ _ _ _ _ _ _ ⟨_, rfl⟩ (by assumption) (news_two (by assumption) fun N7 => cur_back hr3 (news_tl N7)) (hold _ (by assumption)) (by assumption)
set_option maxHeartbeats 1600000 in
theorem step_quobad {w : World} {mean : ExcName → Option Value} {mg mb : PySem.Str → Option Value} {dp un : Nat} {gd : Option (List Code)} {cn : PySem.Str} {cs : Scope} {a : Addr} {ccd : Value} {cl : List (PySem.Str × Addr)} {outer : List Env} {A₀ : Around} {base h₀ : Heap} {L : Addr} {m : PySem.Str → Option Value} {s : Shared} {Q E : Value → Shared → Prop} {news : List (Addr × Obj)} (B : Below A₀ base outer h₀) (F : Fr h₀ L s.heap m) (X : (Mine.hd.heap_1_39 w.params).In h₀) (T : Top Mine.hd.view_1_40 lo mean mg mb h₀) (hk : cs.kind = .function) (hdp : dp + 30 < recursionLimit) (hun : un + 300 < cLine) (N : News h₀ L s.heap news) {h1 h2 : Int} {t1 t2 t3 t4 : Tok} {TX : PySem.Str} {n : Nat} {c d : Addr} {R : List Nat} {gg : Obj → List (Addr × Obj)} (hc : (c, instObj 222 d) ∈ news) (U : UpdF d (curD h1 h2 t1 t2 t3 TX n t4) news gg) (hlen : TX.length ≤ 100000) (hR : (tl TX).drop n = R) {ln : Addr} {nq : Nat} {n1 n2 n3 : Tok} (hl : (ln, nmsO nq n1 n2 n3) ∈ news) (hn : n ≤ TX.length) (hnl : (10 : Nat) ∉ tl TX) (has : ∀ x ∈ tl TX, x < 512)
  (hw : wantR (nameR R) = some .kind) (hq0 : ((R.drop (nameR R).length).dropWhile isBl).head? = some 39) (hq : ∀ c e, quoR (((R.drop (nameR R).length).dropWhile isBl).drop 1) ((n + (nameR R).length + run isBl (R.drop (nameR R).length)) + 1) ≠ some ([c], e))
  (exc : ∀ (e : Addr) (g h' : Heap) (tk' : Nat), Fr h₀ L g m → g.UpToSlots h' → LexedAt base (envX cn cs L a ccd cl :: outer) e (n + (nameR R).length + run isBl (R.drop (nameR R).length)) h' → E (.ref e) { s with heap := h', toks := tk' }) : wpAny (model PySem.Challenge.rw_nn0359_01.row.prog w) (ktrTop dp un gd cn cs L a ccd cl outer) (call (.ref 297) [.ref c, .ref ln]) Q E s := by
  have hcd := cur_ne N hc (upd_mem U)
  have hlnd := nm_ne N hl (upd_mem U)
  obtain ⟨rest, hr1, hr2, hr3⟩ := news_turn U
  have N2 := nm_news N hl (cur_news N hc hr2)
  have hold : ∀ D : Addr, (ln < D ∧ c < D ∧ d < D ∧ AllLt D rest) → ∀ p ∈ news, p.1 < D := fun D h p hp => by
    rcases (hr2 p).mp hp with rfl | hp
    · exact h.2.2.1
    · exact ktn_ltOf h.2.2.2 p hp
  clear N
  have hn1 : n + (nameR R).length ≤ TX.length := by have := drop_len hR hn; have := nameR_len R; omega
  have hR1 : (tl TX).drop (n + (nameR R).length) = R.drop (nameR R).length := drop_add hR
  generalize hR1e : R.drop (nameR R).length = R1 at *
  have hn2 : n + (nameR R).length + run isBl R1 ≤ TX.length := by have := drop_len hR1 hn1; have := run_le isBl R1; omega
  have hR2 : (tl TX).drop (n + (nameR R).length + run isBl R1) = R1.dropWhile isBl := drop_run_at isBl hR1
  generalize hR2e : R1.dropWhile isBl = R2 at *
  have hwl : (tx (nameR R)).length ≤ 100000 := by rw [tx_len]; omega
  rcases want_at w (nameR R) with ⟨hw', hin⟩ | ⟨wa, ta, hw', hin⟩
  · rw [hw'] at hw; cases hw
  obtain rfl : wa = .kind := by rw [hw'] at hw; exact Option.some.inj hw
  (k_with "call ref last" => ((walk_at "mine inline")))
  obtain ⟨r3, rfl⟩ : ∃ r3, R2 = 39 :: r3 := by
    cases R2 with
    | nil => cases hq0
    | cons y r => injection hq0 with hq0; subst hq0; exact ⟨r, rfl⟩
  have hR3 := (drop_cons_get hR2).2
  have hn3 : n + (nameR R).length + run isBl R1 + 1 ≤ TX.length := by have := pos_le hR2; omega
  have has3 : ∀ x ∈ r3, x < 512 := fun x hx => by have := has x (List.mem_of_mem_drop (hR3 ▸ hx)); omega
  have hl3 : r3.length ≤ 100000 := by have := drop_len hR3 hn3; omega
  rw [List.drop_one, List.tail_cons] at hq
  (k_with "call ref" => ((with_reducible show wpAny _ _ (call _ _) _ _ _); k_dflt (show wpAny _ _ (call (Value.ref 219) [_, _]) _ _ _); (fail_if_success (have := hqr)); (refine (?_ : let gk := _; gk)); (intro gk); (rcases hqr : quoR r3 (n + (nameR R).length + run isBl R1 + 1) with _ | ⟨_ | ⟨c1, _ | ⟨c2, l⟩⟩, e⟩); rotate_left; (have hl0 : (tx []).length = 0 := rfl); rotate_left; (exact absurd hqr (hq _ _)); (have hal := quoR_len hqr); (have hal1 : (tx (c1 :: c2 :: l)).length = l.length + 2 := tx_len _); (have hal2 : l.length + 2 ≤ 100000 := by simp at hal; omega); (all_goals ((refine (?_ : gk)); k_unfold))))
  refine wpAny_call ?_
  k_dflt walk_at "mine enter"
  walk_at "mine steps"
  all_goals first | exact exc _ _ _ _ (by assumption) (by assumption) (by assumption) | (exfalso; omega)
set_option maxHeartbeats 1600000 in
theorem step_quo {w : World} {mean : ExcName → Option Value} {mg mb : PySem.Str → Option Value} {dp un : Nat} {gd : Option (List Code)} {cn : PySem.Str} {cs : Scope} {a : Addr} {ccd : Value} {cl : List (PySem.Str × Addr)} {outer : List Env} {A₀ : Around} {base h₀ : Heap} {L : Addr} {m : PySem.Str → Option Value} {s : Shared} {Q E : Value → Shared → Prop} {news : List (Addr × Obj)} (B : Below A₀ base outer h₀) (F : Fr h₀ L s.heap m) (X : (Mine.hd.heap_1_39 w.params).In h₀) (T : Top Mine.hd.view_1_40 lo mean mg mb h₀) (hk : cs.kind = .function) (hdp : dp + 30 < recursionLimit) (hun : un + 300 < cLine) (N : News h₀ L s.heap news) {h1 h2 : Int} {t1 t2 t3 t4 : Tok} {TX : PySem.Str} {n : Nat} {c d : Addr} {R : List Nat} {gg : Obj → List (Addr × Obj)} (hc : (c, instObj 222 d) ∈ news) (U : UpdF d (curD h1 h2 t1 t2 t3 TX n t4) news gg) (hlen : TX.length ≤ 100000) (hR : (tl TX).drop n = R) {ln : Addr} {nq : Nat} {n1 n2 n3 : Tok} (hl : (ln, nmsO nq n1 n2 n3) ∈ news) (hn : n ≤ TX.length) (hnl : (10 : Nat) ∉ tl TX) (has : ∀ x ∈ tl TX, x < 512)
  {c0 e0 : Nat} (hw : wantR (nameR R) = some .kind) (hq0 : ((R.drop (nameR R).length).dropWhile isBl).head? = some 39) (hq : quoR (((R.drop (nameR R).length).dropWhile isBl).drop 1) ((n + (nameR R).length + run isBl (R.drop (nameR R).length)) + 1) = some ([c0], e0))
  (ret : ∀ (x dx : Addr) (k1 k2 : Int) (v1 v2 v3 : Tok) (wv : Value) (t' : Tok) (h' : Heap) (tk' : Nat), ((.txt (39 :: escS c0 ++ [39])) : Wth).is wv → Fr h₀ L h' m → News h₀ L h' ((x, instObj 279 dx) :: (dx, stepD k1 k2 v1 v2 v3 (nameR R) wv) :: gg (curD h1 h2 t1 t2 t3 TX ((e0 : Nat) : Int) t')) → (∀ p ∈ news, p.1 < dx) → dx < x → Q (.ref x) { s with heap := h', toks := tk' }) : wpAny (model PySem.Challenge.rw_nn0359_01.row.prog w) (ktrTop dp un gd cn cs L a ccd cl outer) (call (.ref 297) [.ref c, .ref ln]) Q E s := by
  have hcd := cur_ne N hc (upd_mem U)
  have hlnd := nm_ne N hl (upd_mem U)
  obtain ⟨rest, hr1, hr2, hr3⟩ := news_turn U
  have N2 := nm_news N hl (cur_news N hc hr2)
  have hold : ∀ D : Addr, (ln < D ∧ c < D ∧ d < D ∧ AllLt D rest) → ∀ p ∈ news, p.1 < D := fun D h p hp => by
    rcases (hr2 p).mp hp with rfl | hp
    · exact h.2.2.1
    · exact ktn_ltOf h.2.2.2 p hp
  clear N
  have hn1 : n + (nameR R).length ≤ TX.length := by have := drop_len hR hn; have := nameR_len R; omega
  have hR1 : (tl TX).drop (n + (nameR R).length) = R.drop (nameR R).length := drop_add hR
  generalize hR1e : R.drop (nameR R).length = R1 at *
  have hn2 : n + (nameR R).length + run isBl R1 ≤ TX.length := by have := drop_len hR1 hn1; have := run_le isBl R1; omega
  have hR2 : (tl TX).drop (n + (nameR R).length + run isBl R1) = R1.dropWhile isBl := drop_run_at isBl hR1
  generalize hR2e : R1.dropWhile isBl = R2 at *
  have hwl : (tx (nameR R)).length ≤ 100000 := by rw [tx_len]; omega
  rcases want_at w (nameR R) with ⟨hw', hin⟩ | ⟨wa, ta, hw', hin⟩
  · rw [hw'] at hw; cases hw
  obtain rfl : wa = .kind := by rw [hw'] at hw; exact Option.some.inj hw
  (k_with "call ref last" => ((walk_at "mine inline")))
  obtain ⟨r3, rfl⟩ : ∃ r3, R2 = 39 :: r3 := by
    cases R2 with
    | nil => cases hq0
    | cons y r => injection hq0 with hq0; subst hq0; exact ⟨r, rfl⟩
  have hR3 := (drop_cons_get hR2).2
  have hn3 : n + (nameR R).length + run isBl R1 + 1 ≤ TX.length := by have := pos_le hR2; omega
  have has3 : ∀ x ∈ r3, x < 512 := fun x hx => by have := has x (List.mem_of_mem_drop (hR3 ▸ hx)); omega
  have hl3 : r3.length ≤ 100000 := by have := drop_len hR3 hn3; omega
  rw [List.drop_one, List.tail_cons] at hq
  have hc0 : c0 < 1000 := by have := (quoR_ok has3 hq).1 c0 (.head _); omega
  have he4 : (tx (escS c0)).length ≤ 4 := by rw [tx_len]; exact escS_len c0
  refine wpAny_call ?_
  k_dflt walk_at "mine enter"
  walk_at "mine steps"
  refine ret _ _ _ _ _ _ _ _ _ _ _ ?_ (by assumption) (news_two (by assumption) fun N7 => cur_back hr3 (news_tl N7)) (hold _ (by assumption)) (by assumption)
  exact ⟨_, by rw [quo_text]⟩
set_option maxHeartbeats 1600000 in
theorem step_noname {w : World} {mean : ExcName → Option Value} {mg mb : PySem.Str → Option Value} {dp un : Nat} {gd : Option (List Code)} {cn : PySem.Str} {cs : Scope} {a : Addr} {ccd : Value} {cl : List (PySem.Str × Addr)} {outer : List Env} {A₀ : Around} {base h₀ : Heap} {L : Addr} {m : PySem.Str → Option Value} {s : Shared} {Q E : Value → Shared → Prop} {news : List (Addr × Obj)} (B : Below A₀ base outer h₀) (F : Fr h₀ L s.heap m) (X : (Mine.hd.heap_1_39 w.params).In h₀) (T : Top Mine.hd.view_1_40 lo mean mg mb h₀) (hk : cs.kind = .function) (hdp : dp + 30 < recursionLimit) (hun : un + 300 < cLine) (N : News h₀ L s.heap news) {h1 h2 : Int} {t1 t2 t3 t4 : Tok} {TX : PySem.Str} {n : Nat} {c d : Addr} {R : List Nat} {gg : Obj → List (Addr × Obj)} (hc : (c, instObj 222 d) ∈ news) (U : UpdF d (curD h1 h2 t1 t2 t3 TX n t4) news gg) (hlen : TX.length ≤ 100000) (hR : (tl TX).drop n = R) {ln : Addr} {nq : Nat} {n1 n2 n3 : Tok} (hl : (ln, nmsO nq n1 n2 n3) ∈ news) (hn : n ≤ TX.length) (hnl : (10 : Nat) ∉ tl TX) (has : ∀ x ∈ tl TX, x < 512)
  (hw : wantR (nameR R) = some .kind) (hq0 : ¬ ((R.drop (nameR R).length).dropWhile isBl).head? = some 39) (hb : nameR ((R.drop (nameR R).length).dropWhile isBl) = [])
  (exc : ∀ (e : Addr) (g h' : Heap) (tk' : Nat), Fr h₀ L g m → g.UpToSlots h' → LexedAt base (envX cn cs L a ccd cl :: outer) e (n + (nameR R).length + run isBl (R.drop (nameR R).length)) h' → E (.ref e) { s with heap := h', toks := tk' }) : wpAny (model PySem.Challenge.rw_nn0359_01.row.prog w) (ktrTop dp un gd cn cs L a ccd cl outer) (call (.ref 297) [.ref c, .ref ln]) Q E s := by
  have hcd := cur_ne N hc (upd_mem U)
  have hlnd := nm_ne N hl (upd_mem U)
  obtain ⟨rest, hr1, hr2, hr3⟩ := news_turn U
  have N2 := nm_news N hl (cur_news N hc hr2)
  have hold : ∀ D : Addr, (ln < D ∧ c < D ∧ d < D ∧ AllLt D rest) → ∀ p ∈ news, p.1 < D := fun D h p hp => by
    rcases (hr2 p).mp hp with rfl | hp
    · exact h.2.2.1
    · exact ktn_ltOf h.2.2.2 p hp
  clear N
  have hn1 : n + (nameR R).length ≤ TX.length := by have := drop_len hR hn; have := nameR_len R; omega
  have hR1 : (tl TX).drop (n + (nameR R).length) = R.drop (nameR R).length := drop_add hR
  generalize hR1e : R.drop (nameR R).length = R1 at *
  have hn2 : n + (nameR R).length + run isBl R1 ≤ TX.length := by have := drop_len hR1 hn1; have := run_le isBl R1; omega
  have hR2 : (tl TX).drop (n + (nameR R).length + run isBl R1) = R1.dropWhile isBl := drop_run_at isBl hR1
  generalize hR2e : R1.dropWhile isBl = R2 at *
  have hwl : (tx (nameR R)).length ≤ 100000 := by rw [tx_len]; omega
  rcases want_at w (nameR R) with ⟨hw', hin⟩ | ⟨wa, ta, hw', hin⟩
  · rw [hw'] at hw; cases hw
  obtain rfl : wa = .kind := by rw [hw'] at hw; exact Option.some.inj hw
  (k_with "call ref last" => ((walk_at "mine inline")))
  have hnr := nameR_len R2
  have hnb : (tx (nameR R2)).length ≤ 100000 := by rw [tx_len]; have := drop_len hR2 hn2; omega
  have he := tx_is_empty hb
  refine wpAny_call ?_
  k_dflt walk_at "mine enter"
  walk_at "mine steps"
  exact exc _ _ _ _ (by assumption) (by assumption) (by assumption)
set_option maxHeartbeats 1600000 in
theorem step_noname2 {w : World} {mean : ExcName → Option Value} {mg mb : PySem.Str → Option Value} {dp un : Nat} {gd : Option (List Code)} {cn : PySem.Str} {cs : Scope} {a : Addr} {ccd : Value} {cl : List (PySem.Str × Addr)} {outer : List Env} {A₀ : Around} {base h₀ : Heap} {L : Addr} {m : PySem.Str → Option Value} {s : Shared} {Q E : Value → Shared → Prop} {news : List (Addr × Obj)} (B : Below A₀ base outer h₀) (F : Fr h₀ L s.heap m) (X : (Mine.hd.heap_1_39 w.params).In h₀) (T : Top Mine.hd.view_1_40 lo mean mg mb h₀) (hk : cs.kind = .function) (hdp : dp + 30 < recursionLimit) (hun : un + 300 < cLine) (N : News h₀ L s.heap news) {h1 h2 : Int} {t1 t2 t3 t4 : Tok} {TX : PySem.Str} {n : Nat} {c d : Addr} {R : List Nat} {gg : Obj → List (Addr × Obj)} (hc : (c, instObj 222 d) ∈ news) (U : UpdF d (curD h1 h2 t1 t2 t3 TX n t4) news gg) (hlen : TX.length ≤ 100000) (hR : (tl TX).drop n = R) {ln : Addr} {nq : Nat} {n1 n2 n3 : Tok} (hl : (ln, nmsO nq n1 n2 n3) ∈ news) (hn : n ≤ TX.length) (hnl : (10 : Nat) ∉ tl TX) (has : ∀ x ∈ tl TX, x < 512)
  (hw : wantR (nameR R) = some .cond) (hb : nameR ((R.drop (nameR R).length).dropWhile isBl) = [])
  (exc : ∀ (e : Addr) (g h' : Heap) (tk' : Nat), Fr h₀ L g m → g.UpToSlots h' → LexedAt base (envX cn cs L a ccd cl :: outer) e (n + (nameR R).length + run isBl (R.drop (nameR R).length)) h' → E (.ref e) { s with heap := h', toks := tk' }) : wpAny (model PySem.Challenge.rw_nn0359_01.row.prog w) (ktrTop dp un gd cn cs L a ccd cl outer) (call (.ref 297) [.ref c, .ref ln]) Q E s := by
  have hcd := cur_ne N hc (upd_mem U)
  have hlnd := nm_ne N hl (upd_mem U)
  obtain ⟨rest, hr1, hr2, hr3⟩ := news_turn U
  have N2 := nm_news N hl (cur_news N hc hr2)
  have hold : ∀ D : Addr, (ln < D ∧ c < D ∧ d < D ∧ AllLt D rest) → ∀ p ∈ news, p.1 < D := fun D h p hp => by
    rcases (hr2 p).mp hp with rfl | hp
    · exact h.2.2.1
    · exact ktn_ltOf h.2.2.2 p hp
  clear N
  have hn1 : n + (nameR R).length ≤ TX.length := by have := drop_len hR hn; have := nameR_len R; omega
  have hR1 : (tl TX).drop (n + (nameR R).length) = R.drop (nameR R).length := drop_add hR
  generalize hR1e : R.drop (nameR R).length = R1 at *
  have hn2 : n + (nameR R).length + run isBl R1 ≤ TX.length := by have := drop_len hR1 hn1; have := run_le isBl R1; omega
  have hR2 : (tl TX).drop (n + (nameR R).length + run isBl R1) = R1.dropWhile isBl := drop_run_at isBl hR1
  generalize hR2e : R1.dropWhile isBl = R2 at *
  have hwl : (tx (nameR R)).length ≤ 100000 := by rw [tx_len]; omega
  rcases want_at w (nameR R) with ⟨hw', hin⟩ | ⟨wa, ta, hw', hin⟩
  · rw [hw'] at hw; cases hw
  obtain rfl : wa = .cond := by rw [hw'] at hw; exact Option.some.inj hw
  (k_with "call ref last" => ((walk_at "mine inline")))
  have hnr := nameR_len R2
  have hnb : (tx (nameR R2)).length ≤ 100000 := by rw [tx_len]; have := drop_len hR2 hn2; omega
  have he := tx_is_empty hb
  refine wpAny_call ?_
  k_dflt walk_at "mine enter"
  walk_at "mine steps"
  exact exc _ _ _ _ (by assumption) (by assumption) (by assumption)
set_option maxHeartbeats 1600000 in
theorem step_name {w : World} {mean : ExcName → Option Value} {mg mb : PySem.Str → Option Value} {dp un : Nat} {gd : Option (List Code)} {cn : PySem.Str} {cs : Scope} {a : Addr} {ccd : Value} {cl : List (PySem.Str × Addr)} {outer : List Env} {A₀ : Around} {base h₀ : Heap} {L : Addr} {m : PySem.Str → Option Value} {s : Shared} {Q E : Value → Shared → Prop} {news : List (Addr × Obj)} (B : Below A₀ base outer h₀) (F : Fr h₀ L s.heap m) (X : (Mine.hd.heap_1_39 w.params).In h₀) (T : Top Mine.hd.view_1_40 lo mean mg mb h₀) (hk : cs.kind = .function) (hdp : dp + 30 < recursionLimit) (hun : un + 300 < cLine) (N : News h₀ L s.heap news) {h1 h2 : Int} {t1 t2 t3 t4 : Tok} {TX : PySem.Str} {n : Nat} {c d : Addr} {R : List Nat} {gg : Obj → List (Addr × Obj)} (hc : (c, instObj 222 d) ∈ news) (U : UpdF d (curD h1 h2 t1 t2 t3 TX n t4) news gg) (hlen : TX.length ≤ 100000) (hR : (tl TX).drop n = R) {ln : Addr} {nq : Nat} {n1 n2 n3 : Tok} (hl : (ln, nmsO nq n1 n2 n3) ∈ news) (hn : n ≤ TX.length) (hnl : (10 : Nat) ∉ tl TX) (has : ∀ x ∈ tl TX, x < 512)
  (hw : wantR (nameR R) = some .kind) (hq0 : ¬ ((R.drop (nameR R).length).dropWhile isBl).head? = some 39) (hb : nameR ((R.drop (nameR R).length).dropWhile isBl) ≠ [])
  (ret : ∀ (x dx : Addr) (k1 k2 : Int) (v1 v2 v3 : Tok) (wv : Value) (t' : Tok) (h' : Heap) (tk' : Nat), ((.txt (nameR ((R.drop (nameR R).length).dropWhile isBl))) : Wth).is wv → Fr h₀ L h' m → News h₀ L h' ((x, instObj 279 dx) :: (dx, stepD k1 k2 v1 v2 v3 (nameR R) wv) :: gg (curD h1 h2 t1 t2 t3 TX (((n + (nameR R).length + run isBl (R.drop (nameR R).length)) + (nameR ((R.drop (nameR R).length).dropWhile isBl)).length : Nat) : Int) t')) → (∀ p ∈ news, p.1 < dx) → dx < x → Q (.ref x) { s with heap := h', toks := tk' }) : wpAny (model PySem.Challenge.rw_nn0359_01.row.prog w) (ktrTop dp un gd cn cs L a ccd cl outer) (call (.ref 297) [.ref c, .ref ln]) Q E s := by
  have hcd := cur_ne N hc (upd_mem U)
  have hlnd := nm_ne N hl (upd_mem U)
  obtain ⟨rest, hr1, hr2, hr3⟩ := news_turn U
  have N2 := nm_news N hl (cur_news N hc hr2)
  have hold : ∀ D : Addr, (ln < D ∧ c < D ∧ d < D ∧ AllLt D rest) → ∀ p ∈ news, p.1 < D := fun D h p hp => by
    rcases (hr2 p).mp hp with rfl | hp
    · exact h.2.2.1
    · exact ktn_ltOf h.2.2.2 p hp
  clear N
  have hn1 : n + (nameR R).length ≤ TX.length := by have := drop_len hR hn; have := nameR_len R; omega
  have hR1 : (tl TX).drop (n + (nameR R).length) = R.drop (nameR R).length := drop_add hR
  generalize hR1e : R.drop (nameR R).length = R1 at *
  have hn2 : n + (nameR R).length + run isBl R1 ≤ TX.length := by have := drop_len hR1 hn1; have := run_le isBl R1; omega
  have hR2 : (tl TX).drop (n + (nameR R).length + run isBl R1) = R1.dropWhile isBl := drop_run_at isBl hR1
  generalize hR2e : R1.dropWhile isBl = R2 at *
  have hwl : (tx (nameR R)).length ≤ 100000 := by rw [tx_len]; omega
  rcases want_at w (nameR R) with ⟨hw', hin⟩ | ⟨wa, ta, hw', hin⟩
  · rw [hw'] at hw; cases hw
  obtain rfl : wa = .kind := by rw [hw'] at hw; exact Option.some.inj hw
  (k_with "call ref last" => ((walk_at "mine inline")))
  have hnr := nameR_len R2
  have hnb : (tx (nameR R2)).length ≤ 100000 := by rw [tx_len]; have := drop_len hR2 hn2; omega
  have he := tx_ne_empty hb
  refine wpAny_call ?_
  k_dflt walk_at "mine enter"
  walk_at "mine steps"
  exact ret _ _ _ _ _ _ _ _ _ _ _ ⟨_, rfl⟩ (by assumption) (news_two (by assumption) fun N7 => cur_back hr3 (news_tl N7)) (hold _ (by assumption)) (by assumption)
set_option maxHeartbeats 1600000 in
theorem step_badcond {w : World} {mean : ExcName → Option Value} {mg mb : PySem.Str → Option Value} {dp un : Nat} {gd : Option (List Code)} {cn : PySem.Str} {cs : Scope} {a : Addr} {ccd : Value} {cl : List (PySem.Str × Addr)} {outer : List Env} {A₀ : Around} {base h₀ : Heap} {L : Addr} {m : PySem.Str → Option Value} {s : Shared} {Q E : Value → Shared → Prop} {news : List (Addr × Obj)} (B : Below A₀ base outer h₀) (F : Fr h₀ L s.heap m) (X : (Mine.hd.heap_1_39 w.params).In h₀) (T : Top Mine.hd.view_1_40 lo mean mg mb h₀) (hk : cs.kind = .function) (hdp : dp + 30 < recursionLimit) (hun : un + 300 < cLine) (N : News h₀ L s.heap news) {h1 h2 : Int} {t1 t2 t3 t4 : Tok} {TX : PySem.Str} {n : Nat} {c d : Addr} {R : List Nat} {gg : Obj → List (Addr × Obj)} (hc : (c, instObj 222 d) ∈ news) (U : UpdF d (curD h1 h2 t1 t2 t3 TX n t4) news gg) (hlen : TX.length ≤ 100000) (hR : (tl TX).drop n = R) {ln : Addr} {nq : Nat} {n1 n2 n3 : Tok} (hl : (ln, nmsO nq n1 n2 n3) ∈ news) (hn : n ≤ TX.length) (hnl : (10 : Nat) ∉ tl TX) (has : ∀ x ∈ tl TX, x < 512)
  (hw : wantR (nameR R) = some .cond) (hb : nameR ((R.drop (nameR R).length).dropWhile isBl) ≠ []) (hm : nmsL.contains (nameR ((R.drop (nameR R).length).dropWhile isBl)) = false)
  (exc : ∀ (e : Addr) (g h' : Heap) (tk' : Nat), Fr h₀ L g m → g.UpToSlots h' → LexedAt base (envX cn cs L a ccd cl :: outer) e (n + (nameR R).length + run isBl (R.drop (nameR R).length)) h' → E (.ref e) { s with heap := h', toks := tk' }) : wpAny (model PySem.Challenge.rw_nn0359_01.row.prog w) (ktrTop dp un gd cn cs L a ccd cl outer) (call (.ref 297) [.ref c, .ref ln]) Q E s := by
  have hcd := cur_ne N hc (upd_mem U)
  have hlnd := nm_ne N hl (upd_mem U)
  obtain ⟨rest, hr1, hr2, hr3⟩ := news_turn U
  have N2 := nm_news N hl (cur_news N hc hr2)
  have hold : ∀ D : Addr, (ln < D ∧ c < D ∧ d < D ∧ AllLt D rest) → ∀ p ∈ news, p.1 < D := fun D h p hp => by
    rcases (hr2 p).mp hp with rfl | hp
    · exact h.2.2.1
    · exact ktn_ltOf h.2.2.2 p hp
  clear N
  have hn1 : n + (nameR R).length ≤ TX.length := by have := drop_len hR hn; have := nameR_len R; omega
  have hR1 : (tl TX).drop (n + (nameR R).length) = R.drop (nameR R).length := drop_add hR
  generalize hR1e : R.drop (nameR R).length = R1 at *
  have hn2 : n + (nameR R).length + run isBl R1 ≤ TX.length := by have := drop_len hR1 hn1; have := run_le isBl R1; omega
  have hR2 : (tl TX).drop (n + (nameR R).length + run isBl R1) = R1.dropWhile isBl := drop_run_at isBl hR1
  generalize hR2e : R1.dropWhile isBl = R2 at *
  have hwl : (tx (nameR R)).length ≤ 100000 := by rw [tx_len]; omega
  rcases want_at w (nameR R) with ⟨hw', hin⟩ | ⟨wa, ta, hw', hin⟩
  · rw [hw'] at hw; cases hw
  obtain rfl : wa = .cond := by rw [hw'] at hw; exact Option.some.inj hw
  (k_with "call ref last" => ((walk_at "mine inline")))
  have hnr := nameR_len R2
  have hnb : (tx (nameR R2)).length ≤ 100000 := by rw [tx_len]; have := drop_len hR2 hn2; omega
  have he := tx_ne_empty hb
  have hmm := (nms_any (nameR R2)).trans hm
  refine wpAny_call ?_
  k_dflt walk_at "mine enter"
  walk_at "mine steps"
  exact exc _ _ _ _ (by assumption) (by assumption) (by assumption)
set_option maxHeartbeats 1600000 in
theorem step_cond {w : World} {mean : ExcName → Option Value} {mg mb : PySem.Str → Option Value} {dp un : Nat} {gd : Option (List Code)} {cn : PySem.Str} {cs : Scope} {a : Addr} {ccd : Value} {cl : List (PySem.Str × Addr)} {outer : List Env} {A₀ : Around} {base h₀ : Heap} {L : Addr} {m : PySem.Str → Option Value} {s : Shared} {Q E : Value → Shared → Prop} {news : List (Addr × Obj)} (B : Below A₀ base outer h₀) (F : Fr h₀ L s.heap m) (X : (Mine.hd.heap_1_39 w.params).In h₀) (T : Top Mine.hd.view_1_40 lo mean mg mb h₀) (hk : cs.kind = .function) (hdp : dp + 30 < recursionLimit) (hun : un + 300 < cLine) (N : News h₀ L s.heap news) {h1 h2 : Int} {t1 t2 t3 t4 : Tok} {TX : PySem.Str} {n : Nat} {c d : Addr} {R : List Nat} {gg : Obj → List (Addr × Obj)} (hc : (c, instObj 222 d) ∈ news) (U : UpdF d (curD h1 h2 t1 t2 t3 TX n t4) news gg) (hlen : TX.length ≤ 100000) (hR : (tl TX).drop n = R) {ln : Addr} {nq : Nat} {n1 n2 n3 : Tok} (hl : (ln, nmsO nq n1 n2 n3) ∈ news) (hn : n ≤ TX.length) (hnl : (10 : Nat) ∉ tl TX) (has : ∀ x ∈ tl TX, x < 512)
  (hw : wantR (nameR R) = some .cond) (hb : nameR ((R.drop (nameR R).length).dropWhile isBl) ≠ []) (hm : nmsL.contains (nameR ((R.drop (nameR R).length).dropWhile isBl)) = true)
  (ret : ∀ (x dx : Addr) (k1 k2 : Int) (v1 v2 v3 : Tok) (wv : Value) (t' : Tok) (h' : Heap) (tk' : Nat), ((.txt (nameR ((R.drop (nameR R).length).dropWhile isBl))) : Wth).is wv → Fr h₀ L h' m → News h₀ L h' ((x, instObj 279 dx) :: (dx, stepD k1 k2 v1 v2 v3 (nameR R) wv) :: gg (curD h1 h2 t1 t2 t3 TX (((n + (nameR R).length + run isBl (R.drop (nameR R).length)) + (nameR ((R.drop (nameR R).length).dropWhile isBl)).length : Nat) : Int) t')) → (∀ p ∈ news, p.1 < dx) → dx < x → Q (.ref x) { s with heap := h', toks := tk' }) : wpAny (model PySem.Challenge.rw_nn0359_01.row.prog w) (ktrTop dp un gd cn cs L a ccd cl outer) (call (.ref 297) [.ref c, .ref ln]) Q E s := by
  have hcd := cur_ne N hc (upd_mem U)
  have hlnd := nm_ne N hl (upd_mem U)
  obtain ⟨rest, hr1, hr2, hr3⟩ := news_turn U
  have N2 := nm_news N hl (cur_news N hc hr2)
  have hold : ∀ D : Addr, (ln < D ∧ c < D ∧ d < D ∧ AllLt D rest) → ∀ p ∈ news, p.1 < D := fun D h p hp => by
    rcases (hr2 p).mp hp with rfl | hp
    · exact h.2.2.1
    · exact ktn_ltOf h.2.2.2 p hp
  clear N
  have hn1 : n + (nameR R).length ≤ TX.length := by have := drop_len hR hn; have := nameR_len R; omega
  have hR1 : (tl TX).drop (n + (nameR R).length) = R.drop (nameR R).length := drop_add hR
  generalize hR1e : R.drop (nameR R).length = R1 at *
  have hn2 : n + (nameR R).length + run isBl R1 ≤ TX.length := by have := drop_len hR1 hn1; have := run_le isBl R1; omega
  have hR2 : (tl TX).drop (n + (nameR R).length + run isBl R1) = R1.dropWhile isBl := drop_run_at isBl hR1
  generalize hR2e : R1.dropWhile isBl = R2 at *
  have hwl : (tx (nameR R)).length ≤ 100000 := by rw [tx_len]; omega
  rcases want_at w (nameR R) with ⟨hw', hin⟩ | ⟨wa, ta, hw', hin⟩
  · rw [hw'] at hw; cases hw
  obtain rfl : wa = .cond := by rw [hw'] at hw; exact Option.some.inj hw
  (k_with "call ref last" => ((walk_at "mine inline")))
  have hnr := nameR_len R2
  have hnb : (tx (nameR R2)).length ≤ 100000 := by rw [tx_len]; have := drop_len hR2 hn2; omega
  have he := tx_ne_empty hb
  have hmm := (nms_any (nameR R2)).trans hm
  refine wpAny_call ?_
  k_dflt walk_at "mine enter"
  walk_at "mine steps"
  exact ret _ _ _ _ _ _ _ _ _ _ _ ⟨_, rfl⟩ (by assumption) (news_two (by assumption) fun N7 => cur_back hr3 (news_tl N7)) (hold _ (by assumption)) (by assumption)
end Mine
end
section
set_option maxRecDepth 100000
namespace Mine
theorem step_ok {w : World} {mean : ExcName → Option Value} {mg mb : PySem.Str → Option Value} {dp un : Nat} {gd : Option (List Code)} {cn : PySem.Str} {cs : Scope} {a : Addr} {ccd : Value} {cl : List (PySem.Str × Addr)} {outer : List Env} {A₀ : Around} {base h₀ : Heap} {L : Addr} {m : PySem.Str → Option Value} {s : Shared} {Q E : Value → Shared → Prop} {news : List (Addr × Obj)} (B : Below A₀ base outer h₀) (F : Fr h₀ L s.heap m) (X : (Mine.hd.heap_1_39 w.params).In h₀) (T : Top Mine.hd.view_1_40 lo mean mg mb h₀) (hk : cs.kind = .function) (hdp : dp + 30 < recursionLimit) (hun : un + 300 < cLine) (N : News h₀ L s.heap news) {h1 h2 : Int} {t1 t2 t3 t4 : Tok} {TX : PySem.Str} {n : Nat} {c d : Addr} {R : List Nat} {gg : Obj → List (Addr × Obj)} (hc : (c, instObj 222 d) ∈ news) (U : UpdF d (curD h1 h2 t1 t2 t3 TX n t4) news gg) (hlen : TX.length ≤ 100000) (hR : (tl TX).drop n = R) {ln : Addr} {nq : Nat} {n1 n2 n3 : Tok} (hl : (ln, nmsO nq n1 n2 n3) ∈ news) (hn : n ≤ TX.length) (hnl : (10 : Nat) ∉ tl TX) (has : ∀ x ∈ tl TX, x < 512)
  (exc : ∀ j, stepR R n = .error j → ∀ (e : Addr) (g h' : Heap) (tk' : Nat), Fr h₀ L g m → g.UpToSlots h' → LexedAt base (envX cn cs L a ccd cl :: outer) e j h' → E (.ref e) { s with heap := h', toks := tk' })
  (ret : ∀ (wo : List Nat) (wt : Wth) (e : Nat), stepR R n = .ok ((wo, wt), e) → ∀ (x dx : Addr) (k1 k2 : Int) (v1 v2 v3 : Tok) (wv : Value) (t' : Tok) (h' : Heap) (tk' : Nat), wt.is wv → Fr h₀ L h' m → News h₀ L h' ((x, instObj 279 dx) :: (dx, stepD k1 k2 v1 v2 v3 wo wv) :: gg (curD h1 h2 t1 t2 t3 TX ((e : Nat) : Int) t')) → (∀ p ∈ news, p.1 < dx) → dx < x → Q (.ref x) { s with heap := h', toks := tk' }) :
  wpAny (model PySem.Challenge.rw_nn0359_01.row.prog w) (ktrTop dp un gd cn cs L a ccd cl outer) (call (.ref 297) [.ref c, .ref ln]) Q E s := by
  rcases hw : wantR (nameR R) with _ | wa
  · exact step_bad B F X T hk hdp hun N hc U hlen hR hl hn hnl has hw (exc _ (by simp only [stepR, hw]))
  have hs : wa ≠ .no → stepR R n = worthR (nameR R) wa ((R.drop (nameR R).length).dropWhile isBl) (n + (nameR R).length + run isBl (R.drop (nameR R).length)) := fun h => by
    unfold stepR; rw [hw]
    cases wa <;> first | rfl | exact absurd rfl h
  cases wa with
  | no => exact step_no B F X T hk hdp hun N hc U hlen hR hl hn hnl has hw (ret _ _ _ (by simp only [stepR, hw]))
  | num =>
    have hs := hs nofun
    by_cases hb : ((R.drop (nameR R).length).dropWhile isBl).takeWhile isDg = [] ∨ 6 < (((R.drop (nameR R).length).dropWhile isBl).takeWhile isDg).length
    · exact step_numbad B F X T hk hdp hun N hc U hlen hR hl hn hnl has hw hb (exc _ (by rw [hs]; simp only [worthR, if_pos hb]))
    · exact step_num B F X T hk hdp hun N hc U hlen hR hl hn hnl has hw hb (ret _ _ _ (by rw [hs]; simp only [worthR, if_neg hb]))
  | cond =>
    have hs := hs nofun
    by_cases hb : nameR ((R.drop (nameR R).length).dropWhile isBl) = []
    · exact step_noname2 B F X T hk hdp hun N hc U hlen hR hl hn hnl has hw hb (exc _ (by rw [hs]; simp only [worthR, nameStep, if_pos hb]))
    · rcases hm : nmsL.contains (nameR ((R.drop (nameR R).length).dropWhile isBl)) with _ | _
      · exact step_badcond B F X T hk hdp hun N hc U hlen hR hl hn hnl has hw hb hm (exc _ (by rw [hs]; simp only [worthR, nameStep, if_neg hb, hm, and_self, if_true]))
      · exact step_cond B F X T hk hdp hun N hc U hlen hR hl hn hnl has hw hb hm (ret _ _ _ (by rw [hs]; simp only [worthR, nameStep]; rw [if_neg hb, if_neg (by rw [hm]; decide)]))
  | kind =>
    have hs := hs nofun
    by_cases hq0 : ((R.drop (nameR R).length).dropWhile isBl).head? = some 39
    · rcases hq : quoR (((R.drop (nameR R).length).dropWhile isBl).drop 1) (n + (nameR R).length + run isBl (R.drop (nameR R).length) + 1) with _ | ⟨_ | ⟨c1, _ | ⟨c2, l⟩⟩, e⟩
      · exact step_quobad B F X T hk hdp hun N hc U hlen hR hl hn hnl has hw hq0 (fun c e h => by rw [hq] at h; cases h) (exc _ (by rw [hs]; simp only [worthR, if_pos hq0, hq, quoStep]))
      · exact step_quobad B F X T hk hdp hun N hc U hlen hR hl hn hnl has hw hq0 (fun c e h => by rw [hq] at h; cases h) (exc _ (by rw [hs]; simp only [worthR, if_pos hq0, hq, quoStep]))
      · exact step_quo B F X T hk hdp hun N hc U hlen hR hl hn hnl has hw hq0 hq (ret _ _ _ (by rw [hs]; simp only [worthR, if_pos hq0, hq, quoStep]))
      · exact step_quobad B F X T hk hdp hun N hc U hlen hR hl hn hnl has hw hq0 (fun c e h => by rw [hq] at h; cases h) (exc _ (by rw [hs]; simp only [worthR, if_pos hq0, hq, quoStep]))
    · by_cases hb : nameR ((R.drop (nameR R).length).dropWhile isBl) = []
      · exact step_noname B F X T hk hdp hun N hc U hlen hR hl hn hnl has hw hq0 hb (exc _ (by rw [hs]; simp only [worthR, nameStep, if_neg hq0, if_pos hb]))
      · exact step_name B F X T hk hdp hun N hc U hlen hR hl hn hnl has hw hq0 hb (ret _ _ _ (by rw [hs]; simp [worthR, nameStep, if_neg hq0, if_neg hb]))
theorem step_err {w : World} {mean : ExcName → Option Value} {mg mb : PySem.Str → Option Value} {dp un : Nat} {gd : Option (List Code)} {cn : PySem.Str} {cs : Scope} {a : Addr} {ccd : Value} {cl : List (PySem.Str × Addr)} {outer : List Env} {A₀ : Around} {base h₀ : Heap} {L : Addr} {m : PySem.Str → Option Value} {s : Shared} {Q E : Value → Shared → Prop} {news : List (Addr × Obj)} (B : Below A₀ base outer h₀) (F : Fr h₀ L s.heap m) (X : (Mine.hd.heap_1_39 w.params).In h₀) (T : Top Mine.hd.view_1_40 lo mean mg mb h₀) (hk : cs.kind = .function) (hdp : dp + 30 < recursionLimit) (hun : un + 300 < cLine) (N : News h₀ L s.heap news) {h1 h2 : Int} {t1 t2 t3 t4 : Tok} {TX : PySem.Str} {n : Nat} {c d : Addr} {R : List Nat} {gg : Obj → List (Addr × Obj)} (hc : (c, instObj 222 d) ∈ news) (U : UpdF d (curD h1 h2 t1 t2 t3 TX n t4) news gg) (hlen : TX.length ≤ 100000) (hR : (tl TX).drop n = R) {ln : Addr} {nq : Nat} {n1 n2 n3 : Tok} {j : Nat} (hl : (ln, nmsO nq n1 n2 n3) ∈ news) (hn : n ≤ TX.length) (hnl : (10 : Nat) ∉ tl TX) (has : ∀ x ∈ tl TX, x < 512) (hs : stepR R n = .error j)
  (exc : ∀ (e : Addr) (g h' : Heap) (tk' : Nat), Fr h₀ L g m → g.UpToSlots h' → LexedAt base (envX cn cs L a ccd cl :: outer) e j h' → E (.ref e) { s with heap := h', toks := tk' }) : wpAny (model PySem.Challenge.rw_nn0359_01.row.prog w) (ktrTop dp un gd cn cs L a ccd cl outer) (call (.ref 297) [.ref c, .ref ln]) Q E s :=
  step_ok B F X T hk hdp hun N hc U hlen hR hl hn hnl has (fun j' h => by rw [hs] at h; injection h with h; subst h; exact exc) (fun _ _ _ h => by rw [hs] at h; cases h)
theorem step_good {w : World} {mean : ExcName → Option Value} {mg mb : PySem.Str → Option Value} {dp un : Nat} {gd : Option (List Code)} {cn : PySem.Str} {cs : Scope} {a : Addr} {ccd : Value} {cl : List (PySem.Str × Addr)} {outer : List Env} {A₀ : Around} {base h₀ : Heap} {L : Addr} {m : PySem.Str → Option Value} {s : Shared} {Q E : Value → Shared → Prop} {news : List (Addr × Obj)} (B : Below A₀ base outer h₀) (F : Fr h₀ L s.heap m) (X : (Mine.hd.heap_1_39 w.params).In h₀) (T : Top Mine.hd.view_1_40 lo mean mg mb h₀) (hk : cs.kind = .function) (hdp : dp + 30 < recursionLimit) (hun : un + 300 < cLine) (N : News h₀ L s.heap news) {h1 h2 : Int} {t1 t2 t3 t4 : Tok} {TX : PySem.Str} {n : Nat} {c d : Addr} {R : List Nat} {gg : Obj → List (Addr × Obj)} (hc : (c, instObj 222 d) ∈ news) (U : UpdF d (curD h1 h2 t1 t2 t3 TX n t4) news gg) (hlen : TX.length ≤ 100000) (hR : (tl TX).drop n = R) {ln : Addr} {nq : Nat} {n1 n2 n3 : Tok} {wo : List Nat} {wt : Wth} {e : Nat} (hl : (ln, nmsO nq n1 n2 n3) ∈ news) (hn : n ≤ TX.length) (hnl : (10 : Nat) ∉ tl TX) (has : ∀ x ∈ tl TX, x < 512) (hs : stepR R n = .ok ((wo, wt), e))
  (ret : ∀ (x dx : Addr) (k1 k2 : Int) (v1 v2 v3 : Tok) (wv : Value) (t' : Tok) (h' : Heap) (tk' : Nat), wt.is wv → Fr h₀ L h' m → News h₀ L h' ((x, instObj 279 dx) :: (dx, stepD k1 k2 v1 v2 v3 wo wv) :: gg (curD h1 h2 t1 t2 t3 TX ((e : Nat) : Int) t')) → (∀ p ∈ news, p.1 < dx) → dx < x → Q (.ref x) { s with heap := h', toks := tk' }) : wpAny (model PySem.Challenge.rw_nn0359_01.row.prog w) (ktrTop dp un gd cn cs L a ccd cl outer) (call (.ref 297) [.ref c, .ref ln]) Q E s :=
  step_ok B F X T hk hdp hun N hc U hlen hR hl hn hnl has (fun j' h => by rw [hs] at h; cases h) (fun _ _ _ h => by rw [hs] at h; injection h with h; injection h with h h2; injection h with h h1; subst h; subst h1; subst h2; exact ret)
end Mine
end
section
theorem Mine.wr_Steps : True := by
  k_with_none
  k_with "call ref" => k_extra "call ref last"
  k_with "om" => with_reducible first | assumption | exact Nat.add_sub_cancel_left _ _ | exact Int.ofNat_lt.mpr (by assumption) | exact Int.ofNat_le.mpr (by assumption) | exact Int.ofNat_lt.mp (by assumption) | exact Int.ofNat_le.mp (by assumption) | exact o_lt (by assumption) | exact o_nlt (by assumption) | exact o_63 (by assumption) (by assumption) (by with_unfolding_all exact rfl) | exact o_s2 (by assumption) | exact o_s1 (by assumption) (by assumption) | exact o_s3 (by assumption) (by assumption) | exact o_mt (by assumption) | exact o_f1 (by assumption) | exact Nat.le_of_lt (by assumption) | exact Nat.not_le.mp (by assumption) | exact o_sub (by assumption) | exact o_big1 (by assumption) (by with_unfolding_all exact rfl) | exact Nat.le_trans (Nat.le_add_right _ _) (by assumption) | exact Int.natCast_nonneg _ | exact Nat.le_trans (by assumption) (by assumption) | exact o_big (by assumption) (by assumption) (by with_unfolding_all exact rfl) | exact o_ltM (by assumption) (by assumption) | exact o_tr (by assumption) (by assumption) (by assumption) | exact Nat.lt_of_lt_of_le (by assumption) (by assumption) | exact Nat.lt_of_le_of_lt (by assumption) (by assumption) | exact Nat.ne_of_lt (by assumption) | exact Nat.ne_of_gt (by assumption) | exact o_mm (by assumption) | exact o_mm2 (by assumption) (by assumption) | exact o_mn | exact o_ml (by assumption) (by assumption) | exact o_and (by assumption) | rfl
  k_with "kst" => k_extra "mine kst"
  k_with "kst" => k_extra "mine same3"
  k_with "ksw" => k_extra "mine ksw"
  k_with "ksw" => k_extra "mine same"
  k_with "mine enter" => (refine' code_def ?k1q534 ?k2q534 ?k3q534 ?k4q534 ?k5q534 ?kAq534 ?kFq534 ?kKq534 ?k6q534 ?k7q534 ?k8q534 ?k9q534 ?kBq534 ?_ ?c2q534 ?c3q534 ?c4q534 ?c5q534; (case kAq534 => exact rfl); (case kFq534 => exact rfl); (case kKq534 => first | exact rfl | assumption); (case k1q534 => k_asm); (case k2q534 => k_asm); (case k3q534 => k_asm); (case k4q534 => k_asm); (case k5q534 => k_asm); (case k6q534 => k_is); (case k7q534 => k_is); (case k8q534 => first | (refine' rm0 ?rhq534; (case rhq534 => assumption)) | (refine' rm1 ?rhq534 ?rlq534; (case rhq534 => assumption); (case rlq534 => exact rfl)) | (refine' rm2 ?rhq534 ?rlq534; (case rhq534 => assumption); (case rlq534 => exact rfl)) | ktr_room); (case k9q534 => first | exact BindsTo.of_eq rfl | exact binds_K (by k_in) rfl (by k_is) rfl rfl rfl); (case c5q534 => decide); (case kBq534 => exact locs rfl); (case c2q534 => exact rfl); (case c3q534 => exact rfl); (case c4q534 => exact rfl); k_whole; intro g' L' h' FG'; (refine (?_ : let mk := _; Fr _ _ _ mk → _)); intro mk F' N' B' X' T'; (refine (?_ : let nk := _; let ak := _; let qk := _; let ek := _; let sk := _; wpAny _ ak (execs _ nk) qk ek sk)); intro nk ak qk ek sk)
  k_with "subscriptTail Name Attribute str int" => ((with_reducible show wpAny _ _ (subscriptTail _ _ (Value.str _ _) (Value.int _ _)) _ _ _); refine item_str (fitsSsize_of (N := 9223372036854775808) (by omega) (by omega) (Int.le_refl _)) (by omega) (by omega) ?_; intro _)
  k_with "mine inline" => (k_dflt (first | (refine' call_cls ?k1q536 ?k2q536 ?k3q536 ?k4q536 ?k5q536 ?k6q536 ?_; (case k1q536 => k_asm); (case k2q536 => k_asm); (case k3q536 => k_asm); (case k4q536 => k_is); (case k5q536 => k_is); (case k6q536 => k_is); k_whole; intro x' d' h' F' N' l1 l2; (try k_lt l1); (try k_lt2 l2); (try k_sweep); walk_at "mine enter") | (refine wpAny_call ?_; walk_at "mine enter")))
  k_with "ite" => first | with_reducible refine ite_tt ?_ | with_reducible refine ite_ff ?_
  k_with "mine room" => first | (refine' rm2 ?rhq538 ?rlq538; (case rhq538 => assumption); (case rlq538 => exact rfl)) | decide +kernel | omega | (simp only [depth_deeper, units_deeper]; omega) | (dsimp only [ktrTop]; omega) | (dsimp only [Around.deeper, ktrTop]; omega) | ktr_room | ktr_units
  k_with "mine tail" => ((case zzB => k_asm); (case zzF => k_asm); (case zzX => k_asm); (case zzT => k_asm); (case zzN => k_asm); (case zzk => first | exact rfl | assumption); (case zzp => walk_at "mine room"); (case zzu => walk_at "mine room"))
  k_with "isTrue Compare" => (k_here; first | ((with_reducible show wpAny _ _ (isTrue (PySem.Expr.Compare (PySem.Expr.Name _ _) [PySem.CmpOp.Eq] [PySem.Expr.Constant (PySem.Const.str _) _ _] _) _ _) _ _ _); k_dflt (refine' tst_eq ?zaq540 ?zbq540 ?zcq540 ?zmq540 ?zFq540 ?zvq540 ?_; (case zFq540 => k_asm); (case zaq540 => rfl); (case zbq540 => rfl); (case zcq540 => decide); (case zvq540 => rfl); (case zmq540 => with_unfolding_all rfl); k_whole)) | ((with_reducible show wpAny _ _ (isTrue (PySem.Expr.Compare (PySem.Expr.Name _ _) [PySem.CmpOp.NotEq] [PySem.Expr.Constant (PySem.Const.str _) _ _] _) _ _) _ _ _); k_dflt (refine' tst_ne ?zaq540 ?zbq540 ?zcq540 ?zmq540 ?zFq540 ?zvq540 ?_; (case zFq540 => k_asm); (case zaq540 => rfl); (case zbq540 => rfl); (case zcq540 => decide); (case zvq540 => rfl); (case zmq540 => with_unfolding_all rfl); k_whole)))
  k_with "eval BinOp" => (k_here; (with_reducible show wpAny _ _ (eval (PySem.Expr.BinOp (PySem.Expr.Name _ _) PySem.Operator.Add (PySem.Expr.Constant (PySem.Const.int _) _ _) _) _) _ _ _); k_dflt (refine' add_nc ?zaq541 ?zbq541 ?zcq541 ?zFq541 ?zvq541 ?_; (case zFq541 => k_asm); (case zaq541 => rfl); (case zbq541 => rfl); (case zcq541 => decide); (case zvq541 => rfl); k_whole))
  k_with "mine steps" => repeat' (first | ((first | (fail_if_success (fail_if_success k_unfold)) | (fail_if_success (fail_if_success k_fold))); (refine (?_ : let qk := _; let sk := _; wpAny _ _ _ qk _ sk)); intro qk sk) | ((fail_if_success (fail_if_success k_unfold)); (refine (?_ : let sk := _; LeaveK _ _ _ _ _ _ sk)); intro sk) | (k_unfold; (try dsimp only)) | walk1 | (k_end; wrow_close) | (dsimp only [List.nil_append, List.cons_append]; walk1) | (leave1; (try dsimp only)) | fail "no step")
  k_with "execs cons" => (with_reducible refine wpAny_execs_cons ?_)
  k_with "eval Name" => (k_dflt (refine' nmL ?zaq544 ?zbq544 ?zdq544 ?zFq544 ?zvq544 ?_; (case zFq544 => k_asm); (case zaq544 => rfl); (case zbq544 => rfl); (case zvq544 => rfl); (case zdq544 => decide); k_whole))
  k_with "storeName" => (k_dflt (refine' stL ?zaq545 ?zbq545 ?zFq545 ?zNq545 ?_; (case zFq545 => k_asm); (case zNq545 => k_asm); (case zaq545 => rfl); (case zbq545 => rfl); k_whole; intro h' mk F' N'; (try k_sweep)))
  k_with "LeaveK" => (k_dflt (refine' leaveK_ ?k1q546 ?k2q546 ?_; (case k1q546 => k_asm); (case k2q546 => k_asm); k_whole); intro kF kN; (try dsimp only [InitBack]); (try refine ⟨rfl, ?_⟩))
  k_with "mine kst" => (intro z h1 h2 h3; (try dsimp +zetaDelta only [kstB]); (try simp only [List.forall_mem_cons, List.not_mem_nil, false_implies, implies_true, and_true, ne_eq] at h2); first | rfl | (simp [h1]; done) | (simp [h1, h2]; done) | ((try simp only [List.contains_cons, List.contains_nil, Bool.or_false, Bool.or_eq_false_iff, beq_eq_false_iff_ne, ne_eq] at h3); first | (simp [h1, h3]; done) | (simp [h1, h2, h3]; done)))
  k_with "mine same3" => (k_dflt (refine sn_end3 ?_; (repeat (first | (with_reducible exact sn_refl) | (refine' sn_in ?_ ?hpq548 ?hsq548; (case hpq548 => exact rfl); (case hsq548 => exact rfl)) | (refine' sn_upd ?_ ?hxq548; (case hxq548 => exact rfl)))); done))
  k_with "mine ksw" => (intro z h2 h3; (try dsimp +zetaDelta only [kstB]); (try simp only [List.forall_mem_cons, List.not_mem_nil, false_implies, implies_true, and_true, ne_eq] at h2); (try simp only [List.contains_cons, List.contains_nil, Bool.or_false, Bool.or_eq_false_iff, beq_eq_false_iff_ne, ne_eq] at h3); first | rfl | (simp [h2]; done) | (simp [h3]; done) | (simp [h2, h3]; done))
  k_with "mine same" => (k_dflt (refine sn_end ?_; (repeat (first | (with_reducible exact sn_refl) | (refine' sn_in ?_ ?hpq550 ?hsq550; (case hpq550 => exact rfl); (case hsq550 => exact rfl)) | (refine' sn_upd ?_ ?hxq550; (case hxq550 => exact rfl)))); done))
  w_top off
  trivial
theorem Mine.kw_mSteps_1 : True := by
  k_with "call type:int" => ((with_reducible show wpAny _ _ (call (Value.type "int") [Value.str _ _, Value.int _ _]) _ _ _); refine call_int16 (by first | assumption | exact isHx_mem (by assumption) | exact isOc_isHx (by assumption)) ?_)
  k_with "call ref" => (k_dflt (show wpAny _ _ (call (Value.ref 233) [_]) _ _ _); k_dflt (refine' hex_escape_ok ?zzB ?zzF ?zzX ?zzT ?zzk ?zzp ?zzu ?zzN ?zzhx ?_; walk_at "mine tail"; (case zzhx => omega)); intro _ h' tk' F' N')
  k_with "call ref" => (k_dflt (show wpAny _ _ (call (Value.ref 240) [_, _]) _ _ _); k_dflt (refine' escaped_sign_ok ?zzB ?zzF ?zzX ?zzT ?zzk ?zzp ?zzu ?zzN ?zzhx ?_; walk_at "mine tail"; (case zzhx => omega)); intro _ h' tk' F' N')
  k_with "call ref" => (k_dflt (show wpAny _ _ (call (Value.ref 119) [_]) _ _ _); k_dflt (refine' is_done_ok ?zzB ?zzF ?zzX ?zzT ?zzk ?zzp ?zzu ?zzN ?zzhc ?zzhd ?zzhl ?zzhR ?_; walk_at "mine tail"; (case zzhc => k_mem); (case zzhd => k_mem); (case zzhl => assumption); (case zzhR => assumption)); (intro _ h' tk' F' N'); (try simp only [List.isEmpty_cons, List.isEmpty_nil]))
  k_with "call ref" => (k_dflt (show wpAny _ _ (call (Value.ref 127) [_]) _ _ _); k_dflt (refine' peek_ok ?zzB ?zzF ?zzX ?zzT ?zzk ?zzp ?zzu ?zzN ?zzhc ?zzhd ?zzhl ?zzhR ?zzhx ?_; walk_at "mine tail"; (case zzhc => k_mem); (case zzhd => k_mem); (case zzhl => assumption); (case zzhR => assumption); (case zzhx => exact rfl)); intro _ h' tk' F' N')
  k_with "call ref" => (k_dflt (show wpAny _ _ (call (Value.ref 127) [_]) _ _ _); k_dflt (refine' peekE_ok ?zzB ?zzF ?zzX ?zzT ?zzk ?zzp ?zzu ?zzN ?zzhc ?zzhd ?zzhl ?zzhR ?zzhx ?_; walk_at "mine tail"; (case zzhc => k_mem); (case zzhd => k_mem); (case zzhl => assumption); (case zzhR => assumption); (case zzhx => exact rfl)); intro _ h' tk' F' N')
  k_with "call ref" => (k_dflt (show wpAny _ _ (call (Value.ref 127) [_, _]) _ _ _); k_dflt (refine' peek1_ok ?zzB ?zzF ?zzX ?zzT ?zzk ?zzp ?zzu ?zzN ?zzhc ?zzhd ?zzhl ?zzhR ?zzhx ?_; walk_at "mine tail"; (case zzhc => k_mem); (case zzhd => k_mem); (case zzhl => assumption); (case zzhR => assumption); (case zzhx => exact rfl)); intro _ h' tk' F' N')
  k_with "call ref" => (k_dflt (show wpAny _ _ (call (Value.ref 127) [_, _]) _ _ _); k_dflt (refine' peek1E_ok ?zzB ?zzF ?zzX ?zzT ?zzk ?zzp ?zzu ?zzN ?zzhc ?zzhd ?zzhl ?zzhR ?zzhx ?_; walk_at "mine tail"; (case zzhc => k_mem); (case zzhd => k_mem); (case zzhl => assumption); (case zzhR => assumption); (case zzhx => exact rfl)); intro _ h' tk' F' N')
  k_with "call ref" => (k_dflt (show wpAny _ _ (call (Value.ref 141) [_]) _ _ _); k_dflt (refine' take_ok ?zzB ?zzF ?zzX ?zzT ?zzk ?zzp ?zzu ?zzN ?zzhc ?zzU ?zzhl ?zzhR ?zzhx ?_; walk_at "mine tail"; (case zzhc => k_mem); (case zzU => k_updF); (case zzhl => assumption); (case zzhR => assumption); (case zzhx => exact rfl)); intro _ _ h' tk' F' N')
  k_with "call ref" => (k_dflt (show wpAny _ _ (call (Value.ref 148) [_, _]) _ _ _); k_dflt (refine' skip_no ?zzB ?zzF ?zzX ?zzT ?zzk ?zzp ?zzu ?zzN ?zzhc ?zzhd ?zzhl ?zzhR ?zzhx ?zzhw ?_; walk_at "mine tail"; (case zzhc => k_mem); (case zzhd => k_mem); (case zzhl => assumption); (case zzhR => assumption); (case zzhx => decide); (case zzhw => exact rfl)); intro _ h' tk' F' N')
  k_with "call ref" => (k_dflt (show wpAny _ _ (call (Value.ref 148) [_, _]) _ _ _); k_dflt (refine' skip_yes ?zzB ?zzF ?zzX ?zzT ?zzk ?zzp ?zzu ?zzN ?zzhc ?zzU ?zzhl ?zzhR ?zzhx ?zzhw ?_; walk_at "mine tail"; (case zzhc => k_mem); (case zzU => k_updF); (case zzhl => assumption); (case zzhR => assumption); (case zzhx => exact rfl); (case zzhw => exact rfl)); intro _ _ h' tk' F' N')
  k_with "call ref" => (k_dflt (show wpAny _ _ (call (Value.ref 155) [_, _]) _ _ _); k_dflt (refine' take_while_ok ?zzB ?zzF ?zzX ?zzT ?zzk ?zzp ?zzu ?zzN ?zzhc ?zzU ?zzhl ?zzhR ?zzhn ?zzhw ?_; walk_at "mine tail"; (case zzhc => k_mem); (case zzU => k_updF); (case zzhl => assumption); (case zzhR => assumption); (case zzhn => assumption); (case zzhw => decide +kernel)); intro _ _ h' tk' F' N')
  k_with "call ref" => (k_dflt (show wpAny _ _ (call (Value.ref 170) [_]) _ _ _); k_dflt (refine' skip_blanks_ok ?zzB ?zzF ?zzX ?zzT ?zzk ?zzp ?zzu ?zzN ?zzhc ?zzU ?zzhl ?zzhR ?zzhn ?_; walk_at "mine tail"; (case zzhc => k_mem); (case zzU => k_updF); (case zzhl => assumption); (case zzhR => assumption); (case zzhn => assumption)); intro _ _ h' tk' F' N')
  k_with "call ref" => (k_dflt (show wpAny _ _ (call (Value.ref 177) [_]) _ _ _); k_dflt (refine' name_ok ?zzB ?zzF ?zzX ?zzT ?zzk ?zzp ?zzu ?zzN ?zzhc ?zzU ?zzhl ?zzhR ?zzhn ?_; walk_at "mine tail"; (case zzhc => k_mem); (case zzU => k_updF); (case zzhl => assumption); (case zzhR => assumption); (case zzhn => assumption)); intro _ _ h' tk' F' N')
  k_with "call ref" => (k_dflt (show wpAny _ _ (call (Value.ref 205) [_, _, .int 3 _, _]) _ _ _); k_dflt (refine' coded8_ok ?zzB ?zzF ?zzX ?zzT ?zzk ?zzp ?zzu ?zzN ?zzhc ?zzU ?zzhl ?zzhR ?_; walk_at "mine tail"; (case zzhc => k_mem); (case zzU => k_updF); (case zzhl => assumption); (case zzhR => assumption)); intro _ _ h' tk' F' N')
  k_with "call ref" => (k_dflt (show wpAny _ _ (call (Value.ref 205) [_, _, .int 2 _, _]) _ _ _); k_dflt (refine' coded16_ok ?zzB ?zzF ?zzX ?zzT ?zzk ?zzp ?zzu ?zzN ?zzhc ?zzU ?zzhl ?zzhR ?_; walk_at "mine tail"; (case zzhc => k_mem); (case zzU => k_updF); (case zzhl => assumption); (case zzhR => assumption)); intro _ _ h' tk' F' N')
  k_with "call ref" => (k_dflt (show wpAny _ _ (call (Value.ref 212) [_]) _ _ _); k_dflt (refine' escape_ok ?zzB ?zzF ?zzX ?zzT ?zzk ?zzp ?zzu ?zzN ?zzhc ?zzU ?zzhl ?zzhR ?zzhx ?_; walk_at "mine tail"; (case zzhc => k_mem); (case zzU => k_updF); (case zzhl => assumption); (case zzhR => assumption); (case zzhx => exact rfl)); intro _ _ h' tk' F' N')
  k_with "call ref" => (k_dflt (show wpAny _ _ (call (Value.ref 212) [_]) _ _ _); k_dflt (refine' escapeE_ok ?zzB ?zzF ?zzX ?zzT ?zzk ?zzp ?zzu ?zzN ?zzhc ?zzhd ?zzhl ?zzhR ?zzhx ?_; walk_at "mine tail"; (case zzhc => k_mem); (case zzhd => k_mem); (case zzhl => assumption); (case zzhR => assumption); (case zzhx => exact rfl)); intro _ h' tk' F' N')
  k_with "call ref" => ((with_reducible show wpAny _ _ (call _ _) _ _ _); k_dflt (show wpAny _ _ (call (Value.ref 219) [_, _]) _ _ _); k_dflt (refine' quoted_ok ?Bq569 ?Fq569 ?Xq569 ?Tq569 ?kq569 ?dpq569 ?unq569 ?Nq569 ?hcq569 ?Uq569 ?hlq569 ?hRq569 ?hnq569 ?_ ?_; (case Bq569 => k_asm); (case Fq569 => k_asm); (case Xq569 => k_asm); (case Tq569 => k_asm); (case Nq569 => k_asm); (case kq569 => first | exact rfl | assumption); (case hcq569 => k_mem); (case Uq569 => k_updF); (case hlq569 => assumption); (case hRq569 => assumption); (case hnq569 => assumption); (case dpq569 => walk_at "mine room"); (case unq569 => walk_at "mine room")); (all_goals first | (intro _ _ hQ' _ _ h' tk' F' N') | (intro hQ' _ _ _ h' tk' F' N')))
  k_with "call ref" => (k_dflt (show wpAny _ _ (call (Value.ref 57) [_, _]) _ _ _); k_dflt (refine' pos_ok ?zzB ?zzF ?zzX ?zzT ?zzk ?zzp ?zzu ?zzN ?zzhl ?zzhj ?zzhnl ?_; walk_at "mine tail"; (case zzhl => assumption); (case zzhj => assumption); (case zzhnl => assumption)); (intro x' d' _ _ _ _ _ _ _ _ _ cv' h' tk' ecv' F' N' l1 l2); (try k_lt l1); (try k_lt2 l2))
  k_with "getMethod type:Exception" => (k_here; refine' method_type ?Fq571 ?Xq571 ?mq571 (by decide +kernel) ?eq571 ?hq571 ?_; (case Fq571 => k_asm); (case Xq571 => k_asm); (case mq571 => first | rfl | kernel_rfl); (case eq571 => k_dflt k_is); (case hq571 => k_handed))
  k_with "call ref" => ((with_reducible show wpAny _ _ (call _ _) _ _ _); k_dflt (show wpAny _ _ (call (Value.ref 95) [_, _]) _ _ _); k_dflt (refine' lex_call ?Fq572 ?Nq572 ?Xq572 ?Cq572 ?iq572 ?fq572 ?sq572 ?zq572 ?_; (case Fq572 => k_asm); (case Nq572 => k_asm); (case Xq572 => k_asm); (case Cq572 => k_is); (case iq572 => k_is); (case fq572 => k_is); (case sq572 => k_is); (case zq572 => exact Nat.le_of_ble_eq_true rfl)); (intro e' t' h' F' N' l1 l2); (try k_lt l1); (try k_lt2 l2); walk_at "mine enter")
  k_with "call builtin:Exception.__init__" => ((with_reducible show wpAny _ _ (call (Value.builtin "Exception.__init__") (Value.ref _ :: _)) _ _ _); k_dflt (refine' lex_init_K ?Fq573 ?Nq573 ?Xq573 ?Cq573 ?Uq573 ?zq573 ?_; (case Fq573 => k_asm); (case Nq573 => k_asm); (case Xq573 => k_asm); (case Cq573 => k_is); (case Uq573 => k_updF); (case zq573 => exact Nat.le_of_ble_eq_true rfl)); (intro t' h' F' N' l1); (try dsimp only at N'); (try k_lt l1); (try k_sweep))
  k_with "setAttr ref" => (k_here; k_dflt (first | (refine' lex_set1 ?Fq574 ?Nq574 ?Xq574 ?Cq574 ?sq574 ?nq574 ?Uq574 ?_; (case Fq574 => k_asm); (case Nq574 => k_asm); (case Xq574 => k_asm); (case Cq574 => k_is); (case sq574 => k_is); (case Uq574 => k_updF); (case nq574 => k_is); (intro d' h' F' N' l1); (try dsimp only at N'); (try k_lt l1); (try k_sweep)) | (refine' lex_set2 ?Fq574 ?Nq574 ?Xq574 ?Cq574 ?sq574 ?nq574 ?xq574 ?Uq574 ?lq574 ?eq574 ?zq574 ?_; (case Fq574 => k_asm); (case Nq574 => k_asm); (case Xq574 => k_asm); (case Cq574 => k_is); (case sq574 => k_is); (case xq574 => k_mem); (case Uq574 => k_updF); (case nq574 => k_is); (case lq574 => k_get); (case eq574 => k_put); (case zq574 => exact Nat.le_of_ble_eq_true rfl); (intro h' F' N'); (try dsimp only at N'); (try k_sweep))))
  k_with "exec Raise some none" => (k_here; k_dflt (refine lex_raise rfl ?_))
  k_with "RaisableL ref" => (refine' ⟨_, _, _, rfl, ?hCq576, ?heq576, ?_⟩; (case hCq576 => exact (Frag.In.keeps (by k_asm) (Fr.keep (by k_asm))) _ _ (look95 _)); (case heq576 => exact News.get (by k_asm) (by k_mem)))
  k_with "leaving ref" => (k_here; (refine' lex_leave_at ?k1q577 ?k2q577 ?k3q577 ?k4q577 ?_; (case k3q577 => assumption); (case k1q577 => assumption); (case k4q577 => assumption); (case k2q577 => assumption); k_whole; intro h' R' U'; (try dsimp only at R' U' ⊢)))
  k_with "call ref" => ((with_reducible show wpAny _ _ (call _ _) _ _ _); k_dflt (show wpAny _ _ (call (Value.ref 290) [_, _, _]) _ _ _); k_dflt (refine' fail_ok ?Bq578 ?Fq578 ?Xq578 ?Tq578 ?kq578 ?dpq578 ?unq578 ?Nq578 ?hcq578 ?hdq578 ?hlq578 ?hRq578 ?hjq578 ?hnlq578 ?_; (case Bq578 => k_asm); (case Fq578 => k_asm); (case Xq578 => k_asm); (case Tq578 => k_asm); (case Nq578 => k_asm); (case kq578 => first | exact rfl | assumption); (case hcq578 => k_mem); (case hdq578 => k_mem); (case hlq578 => assumption); (case hRq578 => exact rfl); (case hjq578 => assumption); (case hnlq578 => assumption); (case dpq578 => walk_at "mine room"); (case unq578 => walk_at "mine room")); (intro e7 g7 h7 tk7 FG7 U7 R7))
  k_with "eval Name" => (k_here; (with_reducible show wpAny _ _ (eval (Expr.Name _ _) (compEnvC _ _ _ _)) _ _ _); k_dflt (refine ld_cell (by k_asm) (by rfl) (by k_mem) (by first | rfl | assumption) ?_))
  k_with "mine cells" => (refine' code_defC ?k1q580 ?k2q580 ?k3q580 ?k4q580 ?k5q580 ?kAq580 ?kFq580 ?kKq580 ?k6q580 ?k7q580 ?k8q580 ?k9q580 ?kBq580 ?kDq580 ?_ ?c2q580 ?c3q580 ?c4q580; (case kAq580 => exact rfl); (case kFq580 => exact rfl); (case kKq580 => first | exact rfl | assumption); (case k1q580 => k_asm); (case k2q580 => k_asm); (case k3q580 => k_asm); (case k4q580 => k_asm); (case k5q580 => k_asm); (case k6q580 => k_is); (case k7q580 => k_is); (case k8q580 => first | (refine' rm0 ?rhq580; (case rhq580 => assumption)) | (refine' rm1 ?rhq580 ?rlq580; (case rhq580 => assumption); (case rlq580 => exact rfl)) | (refine' rm2 ?rhq580 ?rlq580; (case rhq580 => assumption); (case rlq580 => exact rfl)) | ktr_room); (case k9q580 => first | exact BindsTo.of_eq rfl | exact binds_K (by k_in) rfl (by k_is) rfl rfl rfl); (case kBq580 => exact rfl); (case kDq580 => decide +kernel); (case c2q580 => exact rfl); (case c3q580 => exact rfl); (case c4q580 => exact rfl); k_whole; intro g' L' h' tk' cells' FG'; (refine (?_ : let mk := _; Fr _ _ _ mk → _)); intro mk F' N' Y' B' X' T' l1; (try k_lt l1); k_cells Y'; (try simp only [List.cons_append, List.nil_append] at N'); (refine (?_ : let nk := _; let ak := _; let qk := _; let ek := _; let sk := _; wpAny _ ak (execs _ nk) qk ek sk)); intro nk ak qk ek sk)
  k_with "call ref" => (k_dflt (show wpAny _ _ (call (Value.ref 245) [_, _]) _ _ _); k_dflt (refine' escaped_ok ?zzB ?zzF ?zzX ?zzT ?zzk ?zzp ?zzu ?zzN ?zzhx ?_; walk_at "mine tail"; (case zzhx => omega)); intro _ h' tk' F' N')
  k_with "compareOp NotIn str ref" => (k_here; k_dflt (refine' topNotIn_K ?Fq582 ?Xq582 ?lq582 ?kq582 ?eq582 ?oq582 ?_; (case eq582 => assumption); (case Fq582 => k_asm); (case Xq582 => k_asm); (case lq582 => k_is); (case kq582 => k_keys); (case oq582 => decide)); dsimp only [Option.isSome, Bool.not_true, Bool.not_false])
  k_with "subscriptTail" => (k_here; k_dflt (refine' topItem_K ?Fq583 ?Xq583 ?lq583 ?kq583 ?eq583 ?_; (case eq583 => assumption); (case Fq583 => k_asm); (case Xq583 => k_asm); (case lq583 => k_is); (case kq583 => k_keys)))
  k_with "call ref" => (k_dflt (show wpAny _ _ (call (Value.ref 219) [_, _]) _ _ _); k_dflt (refine' quoted_some ?zzB ?zzF ?zzX ?zzT ?zzk ?zzp ?zzu ?zzN ?zzhc ?zzU ?zzhl ?zzhR ?zzhn ?zzhq ?_; walk_at "mine tail"; (case zzhc => k_mem); (case zzU => k_updF); (case zzhl => assumption); (case zzhR => assumption); (case zzhn => assumption); (case zzhq => assumption)); intro _ _ h' tk' F' N')
  k_with "call ref" => (k_dflt (show wpAny _ _ (call (Value.ref 219) [_, _]) _ _ _); k_dflt (refine' quoted_none ?zzB ?zzF ?zzX ?zzT ?zzk ?zzp ?zzu ?zzN ?zzhc ?zzU ?zzhl ?zzhR ?zzhn ?zzhq ?_; walk_at "mine tail"; (case zzhc => k_mem); (case zzU => k_updF); (case zzhl => assumption); (case zzhR => assumption); (case zzhn => assumption); (case zzhq => assumption)); intro e9' _ _ h' tk' F' N')
  k_with "call ref" => (k_dflt (show wpAny _ _ (call (Value.ref 148) [_, _]) _ _ _); k_dflt (refine' skip_no ?zzB ?zzF ?zzX ?zzT ?zzk ?zzp ?zzu ?zzN ?zzhc ?zzhd ?zzhl ?zzhR ?zzhx ?zzhw ?_; walk_at "mine tail"; (case zzhc => k_mem); (case zzhd => k_mem); (case zzhl => assumption); (case zzhR => assumption); (case zzhx => assumption); (case zzhw => exact rfl)); intro _ h' tk' F' N')
  k_with "compareOp In str ref" => (k_here; k_dflt (refine' in_tup_K ?Fq587 ?Xq587 ?lq587 ?sq587 ?_; (case Fq587 => k_asm); (case Xq587 => k_asm); (case lq587 => k_is); (case sq587 => first | exact .cons _ _ (.cons _ _ .nil))))
  k_with "truthy ref" => (k_here; (with_reducible show wpAny _ _ (truthy (Value.ref _)) _ _ _); k_dflt (refine' truthy_snoc ?Nq588 ?mq588 ?bq588 ?_; (case Nq588 => k_asm); (case mq588 => k_mem); (case bq588 => assumption)))
  k_with "subscriptTail" => (k_here; k_dflt (refine' last_snoc ?Nq589 ?mq589 ?iq589 ?_ ?sq589 ?gq589; (case Nq589 => k_asm); (case mq589 => k_mem); (case iq589 => exact rfl); (case sq589 => with_unfolding_all rfl); (case gq589 => (intro _; with_unfolding_all rfl))))
  k_with "subscriptTail Name UnaryOp ref int" => (k_here; k_dflt (refine' last_snoc ?Nq590 ?mq590 ?iq590 ?_ ?sq590 ?gq590; (case Nq590 => k_asm); (case mq590 => k_mem); (case iq590 => exact rfl); (case sq590 => with_unfolding_all rfl); (case gq590 => (intro _; with_unfolding_all rfl))))
  k_with "subscriptTail Name Constant ref int" => (k_here; k_dflt (refine' last_snoc ?Nq591 ?mq591 ?iq591 ?_ ?sq591 ?gq591; (case Nq591 => k_asm); (case mq591 => k_mem); (case iq591 => exact rfl); (case sq591 => with_unfolding_all rfl); (case gq591 => (intro _; with_unfolding_all rfl))))
  k_with "call builtin:list.append" => (k_here; (with_reducible show wpAny _ _ (call (Value.builtin _) [Value.ref _, _]) _ _ _); k_dflt ((refine' append_K ?k1q592 ?k2q592 ?k3q592 ?_ ?zq592; (case k1q592 => k_asm); (case k2q592 => k_asm); (case k3q592 => k_upd); (case zq592 => exact size_snoc (by assumption)); k_whole)); intro h' F' N'; (try k_sweep))
  k_with "call ref" => (k_dflt (show wpAny _ _ (call (Value.ref 297) [_, _]) _ _ _); k_dflt (refine' step_err ?zzB ?zzF ?zzX ?zzT ?zzk ?zzp ?zzu ?zzN ?zzhc ?zzU ?zzhl ?zzhR ?zzh1 ?zzhn ?zzhnl ?zzhas ?zzhs ?_; walk_at "mine tail"; (case zzhc => k_mem); (case zzU => k_updF); (case zzhl => assumption); (case zzhR => assumption); (case zzh1 => k_mem); (case zzhn => assumption); (case zzhnl => assumption); (case zzhas => assumption); (case zzhs => assumption)); intro e7 g7 h7 tk7 FG7 U7 R7)
  k_with "call ref" => (k_dflt (show wpAny _ _ (call (Value.ref 297) [_, _]) _ _ _); k_dflt (refine' step_good ?zzB ?zzF ?zzX ?zzT ?zzk ?zzp ?zzu ?zzN ?zzhc ?zzU ?zzhl ?zzhR ?zzh1 ?zzhn ?zzhnl ?zzhas ?zzhs ?_; walk_at "mine tail"; (case zzhc => k_mem); (case zzU => k_updF); (case zzhl => assumption); (case zzhR => assumption); (case zzh1 => k_mem); (case zzhn => assumption); (case zzhnl => assumption); (case zzhas => assumption); (case zzhs => assumption)); (intro x7 dx7 k17 k27 v17 v27 v37 wv7 t7 h7 tk7 hw7 F7 N7 l7 l8); (try k_lt l7); (try k_lt2 l8))
  trivial
namespace Mine
theorem Mine.kw_Steps_1 : True := by
  k_with "last exec While" => k_extra "my while"
  trivial
theorem st_i1 {i a e b : Nat} (h : i + a < e) : i < e + b := Nat.lt_of_le_of_lt (Nat.le_add_right i a) (Nat.lt_of_lt_of_le h (Nat.le_add_right e b))
theorem st_i2 {i a e b : Nat} (h : i + a < e) : i < e + b + 1 := Nat.lt_succ_of_lt (st_i1 h)
theorem st_m1 {i a e b T : Nat} (h : i + a < e) (k : e + b ≤ T) : T - (e + b) < T - i := Nat.sub_lt_sub_left (Nat.lt_of_lt_of_le (st_i1 h) k) (st_i1 h)
theorem st_m2 {i a e b T : Nat} (h : i + a < e) (k : e + b + 1 ≤ T) : T - (e + b + 1) < T - i := Nat.sub_lt_sub_left (Nat.lt_of_lt_of_le (st_i2 h) k) (st_i2 h)
set_option maxHeartbeats 3000000 in
theorem steps_ok {w : World} {mean : ExcName → Option Value} {mg mb : PySem.Str → Option Value} {dp un : Nat} {gd : Option (List Code)} {cn : PySem.Str} {cs : Scope} {a : Addr} {ccd : Value} {cl : List (PySem.Str × Addr)} {outer : List Env} {A₀ : Around} {base h₀ : Heap} {L : Addr} {m : PySem.Str → Option Value} {s : Shared} {Q E : Value → Shared → Prop} {news : List (Addr × Obj)} (B : Below A₀ base outer h₀) (F : Fr h₀ L s.heap m) (X : (Mine.hd.heap_1_39 w.params).In h₀) (T : Top Mine.hd.view_1_40 lo mean mg mb h₀) (hk : cs.kind = .function) (hdp : dp + 35 < recursionLimit) (hun : un + 350 < cLine) (N : News h₀ L s.heap news) {h1 h2 : Int} {t1 t2 t3 t4 : Tok} {TX : PySem.Str} {n : Nat} {c d : Addr} {R : List Nat} {gg : Obj → List (Addr × Obj)} (hc : (c, instObj 222 d) ∈ news) (U : UpdF d (curD h1 h2 t1 t2 t3 TX n t4) news gg) (hlen : TX.length ≤ 100000) (hR : (tl TX).drop n = R) {ln : Addr} {nq : Nat} {n1 n2 n3 : Tok} {K : Except Nat (List (List Nat × Wth))} (hl : (ln, nmsO nq n1 n2 n3) ∈ news) (hn : n ≤ TX.length) (hnl : (10 : Nat) ∉ tl TX) (has : ∀ x ∈ tl TX, x < 512) (hK : stepsR (tl TX) n = K)
  (exc : ∀ j, K = .error j → ∀ (e : Addr) (g h' : Heap) (tk' : Nat), Fr h₀ L g m → g.UpToSlots h' → LexedAt base (envX cn cs L a ccd cl :: outer) e j h' → E (.ref e) { s with heap := h', toks := tk' })
  (ret : ∀ l, K = .ok l → ∀ (ls : Addr) (nn : Nat) (rs : List SR) (e : Nat) (t' : Tok) (h' : Heap) (tk' : Nat), rs.reverse.map SR.st = l → (∀ r ∈ rs, r.wt.is r.wv) → rs.length ≤ TX.length → Fr h₀ L h' m → News h₀ L h' ((ls, W.listOf (srRefs rs).toArray nn) :: (srL rs ++ gg (curD h1 h2 t1 t2 t3 TX ((e : Nat) : Int) t'))) → Q (.ref ls) { s with heap := h', toks := tk' })
  : wpAny (model PySem.Challenge.rw_nn0359_01.row.prog w) (ktrTop dp un gd cn cs L a ccd cl outer) (call (.ref 304) [.ref c, .ref ln]) Q E s := by
  have hcd := cur_ne N hc (upd_mem U)
  have hlnd := nm_ne N hl (upd_mem U)
  obtain ⟨rest, hr1, hr2, hr3⟩ := news_turn U
  have N2 := nm_news N hl (cur_news N hc hr2)
  clear N
  (k_with "my while" => ((rename _ ∧ _ ∧ _ ∧ AllLt _ _ => l1); with_unfolding_all refine ksw_while (σ := List SR × Nat × Nat × Nat × Tok) (fun q => (_, W.listOf (srRefs q.1).toArray q.2.2.2.1) :: (ln, nmsO nq n1 n2 n3) :: (c, instObj 222 d) :: (d, curD h1 h2 t1 t2 t3 TX (q.2.1 : Int) q.2.2.2.2) :: (srL q.1 ++ rest)) (fun _ => []) (fun _ => True) [] (fun q => SInv (tl TX) K (adOf l1) q.1 q.2.1 q.2.2.1) (fun q => TX.length - q.2.1) ([], n, (tl TX).length + 2, 0, t4) (by assumption) (by assumption) trivial (fun _ h => nomatch h) ⟨by rw [← len_tl]; exact hn, by (try dsimp only); omega, hK, fun _ h => (nomatch h), fun _ h => (nomatch h), Nat.zero_le _, fun _ h => (nomatch h)⟩ (unt5 fun rs i f nn t9 u9 h9 tk9 _ hp F9 N9 => ?_); (refine (?_ : let gk := _; gk)); (intro gk); (dsimp only at hp N9); (refine frk F9 ?_); (clear F9); (intro mk F9); (simp only [adOf] at hp); (have hi := steps_le hp (len_tl _)); (have had := hp.ad); (have hcnt := hp.cnt); (have hwl := hp.wl); (rcases rs with _ | ⟨r, rs⟩); (all_goals (first | (obtain ⟨hx1, hx2, had2⟩ := sr_cons had; have hx3 := Nat.lt_trans l1.2.2.1 hx1; have hx4 := Nat.lt_trans l1.2.2.1 hx2; have hrl9 := sr_len hcnt hi hlen; have hrl8 := sr_len1 hcnt hi hlen; have hwl9 := sr_wl hwl hlen; obtain ⟨hod, hol⟩ := sr_off had2 l1 hr1; simp only [srRefs_cons, srL_cons, List.cons_append] at N9) | (obtain ⟨hod, hol⟩ := sr_off had l1 hr1; simp only [srRefs_nil, srL_nil, List.nil_append] at N9 hod hol))); (all_goals (refine steps_cps has hp (fun R0 hR0 hi1 hR1 hrs hKe => ?_) (fun R0 hR0 hi1 hR1 hrs hKe => ?_) (fun R0 hR0 hi1 x r1 hR1 hen hKe => ?_) (fun R0 hR0 hi1 x r1 hR1 hen j hst hKe => ?_) (fun R0 hR0 hi1 x r1 hR1 hen wo wt e Re hst hie hee hwol hRe he3 hR3 hgo => ?_) (fun R0 hR0 hi1 x r1 hR1 hen wo wt e Re hst hie hee hwol hRe he3 r3 hR3 he4 hgo => ?_) (fun R0 hR0 hi1 x r1 hR1 hen wo wt e Re hst hie hee hwol hRe he3 y r3 hR3 hy hKe => ?_))); (all_goals (try (exfalso; first | exact hrs rfl | exact Bool.noConfusion (hen.symm.trans ends_nil) | (cases hrs; done)))); (all_goals (try (have hen2 := ends_cons hen))); (all_goals ((refine (?_ : gk)); k_unfold)); (all_goals (try k_fold))))
  (k_with "KswEnd nil" => ((rename News _ _ _ _ => nE'); (have nF := steps_end2 (rs := r :: rs) (rest := rest) (wt := wt) nE' (by rw [srRefs_cons])); first | (refine ksw_end (_ :: r :: rs, e + run isBl Re, f - 1, nn + 1, _) (by assumption) nF (by with_unfolding_all exact fun _ h => h) trivial (fun _ h => nomatch h) (by ksw_same) (hp.next hgo (by (try dsimp only); first | exact st_i1 (by assumption) | exact st_i2 (by assumption) | omega) (by rw [← len_tl]; (try dsimp only); omega) (by assumption) (by (try dsimp only); omega) (by (try dsimp only); omega) (by rw [← len_tl]; omega)) (by (try dsimp only); first | exact st_m1 (by assumption) (by assumption) | exact st_m2 (by assumption) (by assumption) | omega); done) | (refine ksw_end (_ :: r :: rs, e + run isBl Re + 1, f - 1, nn + 1, _) (by assumption) nF (by with_unfolding_all exact fun _ h => h) trivial (fun _ h => nomatch h) (by ksw_same) (hp.next hgo (by (try dsimp only); first | exact st_i1 (by assumption) | exact st_i2 (by assumption) | omega) (by rw [← len_tl]; (try dsimp only); omega) (by assumption) (by (try dsimp only); omega) (by (try dsimp only); omega) (by rw [← len_tl]; omega)) (by (try dsimp only); first | exact st_m1 (by assumption) (by assumption) | exact st_m2 (by assumption) (by assumption) | omega); done)))
  (k_with "KswEnd nil" => ((rename News _ _ _ _ => nE'); (have nF := steps_end2 (rs := []) (rest := rest) (wt := wt) nE' rfl); first | (refine ksw_end (_ :: [], e + run isBl Re, f - 1, nn + 1, _) (by assumption) nF (by with_unfolding_all exact fun _ h => h) trivial (fun _ h => nomatch h) (by ksw_same) (hp.next hgo (by (try dsimp only); first | exact st_i1 (by assumption) | exact st_i2 (by assumption) | omega) (by rw [← len_tl]; (try dsimp only); omega) (by assumption) (by (try dsimp only); omega) (by (try dsimp only); omega) (by rw [← len_tl]; omega)) (by (try dsimp only); first | exact st_m1 (by assumption) (by assumption) | exact st_m2 (by assumption) (by assumption) | omega); done) | (refine ksw_end (_ :: [], e + run isBl Re + 1, f - 1, nn + 1, _) (by assumption) nF (by with_unfolding_all exact fun _ h => h) trivial (fun _ h => nomatch h) (by ksw_same) (hp.next hgo (by (try dsimp only); first | exact st_i1 (by assumption) | exact st_i2 (by assumption) | omega) (by rw [← len_tl]; (try dsimp only); omega) (by assumption) (by (try dsimp only); omega) (by (try dsimp only); omega) (by rw [← len_tl]; omega)) (by (try dsimp only); first | exact st_m1 (by assumption) (by assumption) | exact st_m2 (by assumption) (by assumption) | omega); done)))
  refine wpAny_call ?_
  k_dflt walk_at "mine enter"
  walk_at "mine steps"
  all_goals first
    | exact exc _ hKe _ _ _ _ (by assumption) (by assumption) (by assumption)
    | exact ret _ hKe _ _ (r :: rs) _ _ _ _ List.map_reverse hp.is (Nat.le_trans hp.cnt hi) (by assumption) (steps_ret hr3 (by assumption))
end Mine
end
section
set_option maxRecDepth 100000
namespace Mine
theorem steps_err {w : World} {mean : ExcName → Option Value} {mg mb : PySem.Str → Option Value} {dp un : Nat} {gd : Option (List Code)} {cn : PySem.Str} {cs : Scope} {a : Addr} {ccd : Value} {cl : List (PySem.Str × Addr)} {outer : List Env} {A₀ : Around} {base h₀ : Heap} {L : Addr} {m : PySem.Str → Option Value} {s : Shared} {Q E : Value → Shared → Prop} {news : List (Addr × Obj)} (B : Below A₀ base outer h₀) (F : Fr h₀ L s.heap m) (X : (Mine.hd.heap_1_39 w.params).In h₀) (T : Top Mine.hd.view_1_40 lo mean mg mb h₀) (hk : cs.kind = .function) (hdp : dp + 35 < recursionLimit) (hun : un + 350 < cLine) (N : News h₀ L s.heap news) {h1 h2 : Int} {t1 t2 t3 t4 : Tok} {TX : PySem.Str} {n : Nat} {c d : Addr} {R : List Nat} {gg : Obj → List (Addr × Obj)} (hc : (c, instObj 222 d) ∈ news) (U : UpdF d (curD h1 h2 t1 t2 t3 TX n t4) news gg) (hlen : TX.length ≤ 100000) (hR : (tl TX).drop n = R) {ln : Addr} {nq : Nat} {n1 n2 n3 : Tok} {j : Nat} (hl : (ln, nmsO nq n1 n2 n3) ∈ news) (hn : n ≤ TX.length) (hnl : (10 : Nat) ∉ tl TX) (has : ∀ x ∈ tl TX, x < 512) (hK : stepsR (tl TX) n = .error j)
  (exc : ∀ (e : Addr) (g h' : Heap) (tk' : Nat), Fr h₀ L g m → g.UpToSlots h' → LexedAt base (envX cn cs L a ccd cl :: outer) e j h' → E (.ref e) { s with heap := h', toks := tk' }) : wpAny (model PySem.Challenge.rw_nn0359_01.row.prog w) (ktrTop dp un gd cn cs L a ccd cl outer) (call (.ref 304) [.ref c, .ref ln]) Q E s :=
  steps_ok B F X T hk hdp hun N hc U hlen hR hl hn hnl has hK (fun j' h => by injection h with h; subst h; exact exc) (fun _ h => by cases h)
theorem steps_good {w : World} {mean : ExcName → Option Value} {mg mb : PySem.Str → Option Value} {dp un : Nat} {gd : Option (List Code)} {cn : PySem.Str} {cs : Scope} {a : Addr} {ccd : Value} {cl : List (PySem.Str × Addr)} {outer : List Env} {A₀ : Around} {base h₀ : Heap} {L : Addr} {m : PySem.Str → Option Value} {s : Shared} {Q E : Value → Shared → Prop} {news : List (Addr × Obj)} (B : Below A₀ base outer h₀) (F : Fr h₀ L s.heap m) (X : (Mine.hd.heap_1_39 w.params).In h₀) (T : Top Mine.hd.view_1_40 lo mean mg mb h₀) (hk : cs.kind = .function) (hdp : dp + 35 < recursionLimit) (hun : un + 350 < cLine) (N : News h₀ L s.heap news) {h1 h2 : Int} {t1 t2 t3 t4 : Tok} {TX : PySem.Str} {n : Nat} {c d : Addr} {R : List Nat} {gg : Obj → List (Addr × Obj)} (hc : (c, instObj 222 d) ∈ news) (U : UpdF d (curD h1 h2 t1 t2 t3 TX n t4) news gg) (hlen : TX.length ≤ 100000) (hR : (tl TX).drop n = R) {ln : Addr} {nq : Nat} {n1 n2 n3 : Tok} {l : List (List Nat × Wth)} (hl : (ln, nmsO nq n1 n2 n3) ∈ news) (hn : n ≤ TX.length) (hnl : (10 : Nat) ∉ tl TX) (has : ∀ x ∈ tl TX, x < 512) (hK : stepsR (tl TX) n = .ok l)
  (ret : ∀ (ls : Addr) (nn : Nat) (rs : List SR) (e : Nat) (t' : Tok) (h' : Heap) (tk' : Nat), rs.reverse.map SR.st = l → (∀ r ∈ rs, r.wt.is r.wv) → rs.length ≤ TX.length → Fr h₀ L h' m → News h₀ L h' ((ls, W.listOf (srRefs rs).toArray nn) :: (srL rs ++ gg (curD h1 h2 t1 t2 t3 TX ((e : Nat) : Int) t'))) → Q (.ref ls) { s with heap := h', toks := tk' }) : wpAny (model PySem.Challenge.rw_nn0359_01.row.prog w) (ktrTop dp un gd cn cs L a ccd cl outer) (call (.ref 304) [.ref c, .ref ln]) Q E s :=
  steps_ok B F X T hk hdp hun N hc U hlen hR hl hn hnl has hK (fun j' h => by cases h) (fun _ h => by injection h with h; subst h; exact ret)
end Mine
end
section
theorem Mine.wr_Read : True := by
  k_with_none
  k_with "call ref" => k_extra "call ref last"
  k_with "om" => with_reducible first | assumption | exact Nat.add_sub_cancel_left _ _ | exact Int.ofNat_lt.mpr (by assumption) | exact Int.ofNat_le.mpr (by assumption) | exact Int.ofNat_lt.mp (by assumption) | exact Int.ofNat_le.mp (by assumption) | exact o_lt (by assumption) | exact o_nlt (by assumption) | exact o_63 (by assumption) (by assumption) (by with_unfolding_all exact rfl) | exact o_s2 (by assumption) | exact o_s1 (by assumption) (by assumption) | exact o_s3 (by assumption) (by assumption) | exact o_mt (by assumption) | exact o_f1 (by assumption) | exact Nat.le_of_lt (by assumption) | exact Nat.not_le.mp (by assumption) | exact o_sub (by assumption) | exact o_big1 (by assumption) (by with_unfolding_all exact rfl) | exact Nat.le_trans (Nat.le_add_right _ _) (by assumption) | exact Int.natCast_nonneg _ | exact Nat.le_trans (by assumption) (by assumption) | exact o_big (by assumption) (by assumption) (by with_unfolding_all exact rfl) | exact o_ltM (by assumption) (by assumption) | exact o_tr (by assumption) (by assumption) (by assumption) | exact Nat.lt_of_lt_of_le (by assumption) (by assumption) | exact Nat.lt_of_le_of_lt (by assumption) (by assumption) | exact Nat.ne_of_lt (by assumption) | exact Nat.ne_of_gt (by assumption) | exact o_mm (by assumption) | exact o_mm2 (by assumption) (by assumption) | exact o_mn | exact o_ml (by assumption) (by assumption) | exact o_and (by assumption) | rfl
  k_with "kst" => k_extra "mine kst"
  k_with "kst" => k_extra "mine same3"
  k_with "ksw" => k_extra "mine ksw"
  k_with "ksw" => k_extra "mine same"
  k_with "mine enter" => (refine' code_def ?k1q597 ?k2q597 ?k3q597 ?k4q597 ?k5q597 ?kAq597 ?kFq597 ?kKq597 ?k6q597 ?k7q597 ?k8q597 ?k9q597 ?kBq597 ?_ ?c2q597 ?c3q597 ?c4q597 ?c5q597; (case kAq597 => exact rfl); (case kFq597 => exact rfl); (case kKq597 => first | exact rfl | assumption); (case k1q597 => k_asm); (case k2q597 => k_asm); (case k3q597 => k_asm); (case k4q597 => k_asm); (case k5q597 => k_asm); (case k6q597 => k_is); (case k7q597 => k_is); (case k8q597 => first | (refine' rm0 ?rhq597; (case rhq597 => assumption)) | (refine' rm1 ?rhq597 ?rlq597; (case rhq597 => assumption); (case rlq597 => exact rfl)) | (refine' rm2 ?rhq597 ?rlq597; (case rhq597 => assumption); (case rlq597 => exact rfl)) | ktr_room); (case k9q597 => first | exact BindsTo.of_eq rfl | exact binds_K (by k_in) rfl (by k_is) rfl rfl rfl); (case c5q597 => decide); (case kBq597 => exact locs rfl); (case c2q597 => exact rfl); (case c3q597 => exact rfl); (case c4q597 => exact rfl); k_whole; intro g' L' h' FG'; (refine (?_ : let mk := _; Fr _ _ _ mk → _)); intro mk F' N' B' X' T'; (refine (?_ : let nk := _; let ak := _; let qk := _; let ek := _; let sk := _; wpAny _ ak (execs _ nk) qk ek sk)); intro nk ak qk ek sk)
  k_with "subscriptTail Name Attribute str int" => ((with_reducible show wpAny _ _ (subscriptTail _ _ (Value.str _ _) (Value.int _ _)) _ _ _); refine item_str (fitsSsize_of (N := 9223372036854775808) (by omega) (by omega) (Int.le_refl _)) (by omega) (by omega) ?_; intro _)
  k_with "mine inline" => (k_dflt (first | (refine' call_cls ?k1q599 ?k2q599 ?k3q599 ?k4q599 ?k5q599 ?k6q599 ?_; (case k1q599 => k_asm); (case k2q599 => k_asm); (case k3q599 => k_asm); (case k4q599 => k_is); (case k5q599 => k_is); (case k6q599 => k_is); k_whole; intro x' d' h' F' N' l1 l2; (try k_lt l1); (try k_lt2 l2); (try k_sweep); walk_at "mine enter") | (refine wpAny_call ?_; walk_at "mine enter")))
  k_with "ite" => first | with_reducible refine ite_tt ?_ | with_reducible refine ite_ff ?_
  k_with "mine room" => first | (refine' rm2 ?rhq601 ?rlq601; (case rhq601 => assumption); (case rlq601 => exact rfl)) | decide +kernel | omega | (simp only [depth_deeper, units_deeper]; omega) | (dsimp only [ktrTop]; omega) | (dsimp only [Around.deeper, ktrTop]; omega) | ktr_room | ktr_units
  k_with "mine tail" => ((case zzB => k_asm); (case zzF => k_asm); (case zzX => k_asm); (case zzT => k_asm); (case zzN => k_asm); (case zzk => first | exact rfl | assumption); (case zzp => walk_at "mine room"); (case zzu => walk_at "mine room"))
  k_with "isTrue Compare" => (k_here; first | ((with_reducible show wpAny _ _ (isTrue (PySem.Expr.Compare (PySem.Expr.Name _ _) [PySem.CmpOp.Eq] [PySem.Expr.Constant (PySem.Const.str _) _ _] _) _ _) _ _ _); k_dflt (refine' tst_eq ?zaq603 ?zbq603 ?zcq603 ?zmq603 ?zFq603 ?zvq603 ?_; (case zFq603 => k_asm); (case zaq603 => rfl); (case zbq603 => rfl); (case zcq603 => decide); (case zvq603 => rfl); (case zmq603 => with_unfolding_all rfl); k_whole)) | ((with_reducible show wpAny _ _ (isTrue (PySem.Expr.Compare (PySem.Expr.Name _ _) [PySem.CmpOp.NotEq] [PySem.Expr.Constant (PySem.Const.str _) _ _] _) _ _) _ _ _); k_dflt (refine' tst_ne ?zaq603 ?zbq603 ?zcq603 ?zmq603 ?zFq603 ?zvq603 ?_; (case zFq603 => k_asm); (case zaq603 => rfl); (case zbq603 => rfl); (case zcq603 => decide); (case zvq603 => rfl); (case zmq603 => with_unfolding_all rfl); k_whole)))
  k_with "eval BinOp" => (k_here; (with_reducible show wpAny _ _ (eval (PySem.Expr.BinOp (PySem.Expr.Name _ _) PySem.Operator.Add (PySem.Expr.Constant (PySem.Const.int _) _ _) _) _) _ _ _); k_dflt (refine' add_nc ?zaq604 ?zbq604 ?zcq604 ?zFq604 ?zvq604 ?_; (case zFq604 => k_asm); (case zaq604 => rfl); (case zbq604 => rfl); (case zcq604 => decide); (case zvq604 => rfl); k_whole))
  k_with "mine steps" => repeat' (first | ((first | (fail_if_success (fail_if_success k_unfold)) | (fail_if_success (fail_if_success k_fold))); (refine (?_ : let qk := _; let sk := _; wpAny _ _ _ qk _ sk)); intro qk sk) | ((fail_if_success (fail_if_success k_unfold)); (refine (?_ : let sk := _; LeaveK _ _ _ _ _ _ sk)); intro sk) | (k_unfold; (try dsimp only)) | walk1 | (k_end; wrow_close) | (dsimp only [List.nil_append, List.cons_append]; walk1) | (leave1; (try dsimp only)) | fail "no step")
  k_with "execs cons" => (with_reducible refine wpAny_execs_cons ?_)
  k_with "eval Name" => (k_dflt (refine' nmL ?zaq607 ?zbq607 ?zdq607 ?zFq607 ?zvq607 ?_; (case zFq607 => k_asm); (case zaq607 => rfl); (case zbq607 => rfl); (case zvq607 => rfl); (case zdq607 => decide); k_whole))
  k_with "storeName" => (k_dflt (refine' stL ?zaq608 ?zbq608 ?zFq608 ?zNq608 ?_; (case zFq608 => k_asm); (case zNq608 => k_asm); (case zaq608 => rfl); (case zbq608 => rfl); k_whole; intro h' mk F' N'; (try k_sweep)))
  k_with "LeaveK" => (k_dflt (refine' leaveK_ ?k1q609 ?k2q609 ?_; (case k1q609 => k_asm); (case k2q609 => k_asm); k_whole); intro kF kN; (try dsimp only [InitBack]); (try refine ⟨rfl, ?_⟩))
  k_with "mine kst" => (intro z h1 h2 h3; (try dsimp +zetaDelta only [kstB]); (try simp only [List.forall_mem_cons, List.not_mem_nil, false_implies, implies_true, and_true, ne_eq] at h2); first | rfl | (simp [h1]; done) | (simp [h1, h2]; done) | ((try simp only [List.contains_cons, List.contains_nil, Bool.or_false, Bool.or_eq_false_iff, beq_eq_false_iff_ne, ne_eq] at h3); first | (simp [h1, h3]; done) | (simp [h1, h2, h3]; done)))
  k_with "mine same3" => (k_dflt (refine sn_end3 ?_; (repeat (first | (with_reducible exact sn_refl) | (refine' sn_in ?_ ?hpq611 ?hsq611; (case hpq611 => exact rfl); (case hsq611 => exact rfl)) | (refine' sn_upd ?_ ?hxq611; (case hxq611 => exact rfl)))); done))
  k_with "mine ksw" => (intro z h2 h3; (try dsimp +zetaDelta only [kstB]); (try simp only [List.forall_mem_cons, List.not_mem_nil, false_implies, implies_true, and_true, ne_eq] at h2); (try simp only [List.contains_cons, List.contains_nil, Bool.or_false, Bool.or_eq_false_iff, beq_eq_false_iff_ne, ne_eq] at h3); first | rfl | (simp [h2]; done) | (simp [h3]; done) | (simp [h2, h3]; done))
  k_with "mine same" => (k_dflt (refine sn_end ?_; (repeat (first | (with_reducible exact sn_refl) | (refine' sn_in ?_ ?hpq613 ?hsq613; (case hpq613 => exact rfl); (case hsq613 => exact rfl)) | (refine' sn_upd ?_ ?hxq613; (case hxq613 => exact rfl)))); done))
  w_top off
  trivial
theorem Mine.kw_mRead_1 : True := by
  k_with "call type:int" => ((with_reducible show wpAny _ _ (call (Value.type "int") [Value.str _ _, Value.int _ _]) _ _ _); refine call_int16 (by first | assumption | exact isHx_mem (by assumption) | exact isOc_isHx (by assumption)) ?_)
  k_with "call ref" => (k_dflt (show wpAny _ _ (call (Value.ref 233) [_]) _ _ _); k_dflt (refine' hex_escape_ok ?zzB ?zzF ?zzX ?zzT ?zzk ?zzp ?zzu ?zzN ?zzhx ?_; walk_at "mine tail"; (case zzhx => omega)); intro _ h' tk' F' N')
  k_with "call ref" => (k_dflt (show wpAny _ _ (call (Value.ref 240) [_, _]) _ _ _); k_dflt (refine' escaped_sign_ok ?zzB ?zzF ?zzX ?zzT ?zzk ?zzp ?zzu ?zzN ?zzhx ?_; walk_at "mine tail"; (case zzhx => omega)); intro _ h' tk' F' N')
  k_with "call ref" => (k_dflt (show wpAny _ _ (call (Value.ref 119) [_]) _ _ _); k_dflt (refine' is_done_ok ?zzB ?zzF ?zzX ?zzT ?zzk ?zzp ?zzu ?zzN ?zzhc ?zzhd ?zzhl ?zzhR ?_; walk_at "mine tail"; (case zzhc => k_mem); (case zzhd => k_mem); (case zzhl => assumption); (case zzhR => assumption)); (intro _ h' tk' F' N'); (try simp only [List.isEmpty_cons, List.isEmpty_nil]))
  k_with "call ref" => (k_dflt (show wpAny _ _ (call (Value.ref 127) [_]) _ _ _); k_dflt (refine' peek_ok ?zzB ?zzF ?zzX ?zzT ?zzk ?zzp ?zzu ?zzN ?zzhc ?zzhd ?zzhl ?zzhR ?zzhx ?_; walk_at "mine tail"; (case zzhc => k_mem); (case zzhd => k_mem); (case zzhl => assumption); (case zzhR => assumption); (case zzhx => exact rfl)); intro _ h' tk' F' N')
  k_with "call ref" => (k_dflt (show wpAny _ _ (call (Value.ref 127) [_]) _ _ _); k_dflt (refine' peekE_ok ?zzB ?zzF ?zzX ?zzT ?zzk ?zzp ?zzu ?zzN ?zzhc ?zzhd ?zzhl ?zzhR ?zzhx ?_; walk_at "mine tail"; (case zzhc => k_mem); (case zzhd => k_mem); (case zzhl => assumption); (case zzhR => assumption); (case zzhx => exact rfl)); intro _ h' tk' F' N')
  k_with "call ref" => (k_dflt (show wpAny _ _ (call (Value.ref 127) [_, _]) _ _ _); k_dflt (refine' peek1_ok ?zzB ?zzF ?zzX ?zzT ?zzk ?zzp ?zzu ?zzN ?zzhc ?zzhd ?zzhl ?zzhR ?zzhx ?_; walk_at "mine tail"; (case zzhc => k_mem); (case zzhd => k_mem); (case zzhl => assumption); (case zzhR => assumption); (case zzhx => exact rfl)); intro _ h' tk' F' N')
  k_with "call ref" => (k_dflt (show wpAny _ _ (call (Value.ref 127) [_, _]) _ _ _); k_dflt (refine' peek1E_ok ?zzB ?zzF ?zzX ?zzT ?zzk ?zzp ?zzu ?zzN ?zzhc ?zzhd ?zzhl ?zzhR ?zzhx ?_; walk_at "mine tail"; (case zzhc => k_mem); (case zzhd => k_mem); (case zzhl => assumption); (case zzhR => assumption); (case zzhx => exact rfl)); intro _ h' tk' F' N')
  k_with "call ref" => (k_dflt (show wpAny _ _ (call (Value.ref 141) [_]) _ _ _); k_dflt (refine' take_ok ?zzB ?zzF ?zzX ?zzT ?zzk ?zzp ?zzu ?zzN ?zzhc ?zzU ?zzhl ?zzhR ?zzhx ?_; walk_at "mine tail"; (case zzhc => k_mem); (case zzU => k_updF); (case zzhl => assumption); (case zzhR => assumption); (case zzhx => exact rfl)); intro _ _ h' tk' F' N')
  k_with "call ref" => (k_dflt (show wpAny _ _ (call (Value.ref 148) [_, _]) _ _ _); k_dflt (refine' skip_no ?zzB ?zzF ?zzX ?zzT ?zzk ?zzp ?zzu ?zzN ?zzhc ?zzhd ?zzhl ?zzhR ?zzhx ?zzhw ?_; walk_at "mine tail"; (case zzhc => k_mem); (case zzhd => k_mem); (case zzhl => assumption); (case zzhR => assumption); (case zzhx => decide); (case zzhw => exact rfl)); intro _ h' tk' F' N')
  k_with "call ref" => (k_dflt (show wpAny _ _ (call (Value.ref 148) [_, _]) _ _ _); k_dflt (refine' skip_yes ?zzB ?zzF ?zzX ?zzT ?zzk ?zzp ?zzu ?zzN ?zzhc ?zzU ?zzhl ?zzhR ?zzhx ?zzhw ?_; walk_at "mine tail"; (case zzhc => k_mem); (case zzU => k_updF); (case zzhl => assumption); (case zzhR => assumption); (case zzhx => exact rfl); (case zzhw => exact rfl)); intro _ _ h' tk' F' N')
  k_with "call ref" => (k_dflt (show wpAny _ _ (call (Value.ref 155) [_, _]) _ _ _); k_dflt (refine' take_while_ok ?zzB ?zzF ?zzX ?zzT ?zzk ?zzp ?zzu ?zzN ?zzhc ?zzU ?zzhl ?zzhR ?zzhn ?zzhw ?_; walk_at "mine tail"; (case zzhc => k_mem); (case zzU => k_updF); (case zzhl => assumption); (case zzhR => assumption); (case zzhn => assumption); (case zzhw => decide +kernel)); intro _ _ h' tk' F' N')
  k_with "call ref" => (k_dflt (show wpAny _ _ (call (Value.ref 170) [_]) _ _ _); k_dflt (refine' skip_blanks_ok ?zzB ?zzF ?zzX ?zzT ?zzk ?zzp ?zzu ?zzN ?zzhc ?zzU ?zzhl ?zzhR ?zzhn ?_; walk_at "mine tail"; (case zzhc => k_mem); (case zzU => k_updF); (case zzhl => assumption); (case zzhR => assumption); (case zzhn => assumption)); intro _ _ h' tk' F' N')
  k_with "call ref" => (k_dflt (show wpAny _ _ (call (Value.ref 177) [_]) _ _ _); k_dflt (refine' name_ok ?zzB ?zzF ?zzX ?zzT ?zzk ?zzp ?zzu ?zzN ?zzhc ?zzU ?zzhl ?zzhR ?zzhn ?_; walk_at "mine tail"; (case zzhc => k_mem); (case zzU => k_updF); (case zzhl => assumption); (case zzhR => assumption); (case zzhn => assumption)); intro _ _ h' tk' F' N')
  k_with "call ref" => (k_dflt (show wpAny _ _ (call (Value.ref 205) [_, _, .int 3 _, _]) _ _ _); k_dflt (refine' coded8_ok ?zzB ?zzF ?zzX ?zzT ?zzk ?zzp ?zzu ?zzN ?zzhc ?zzU ?zzhl ?zzhR ?_; walk_at "mine tail"; (case zzhc => k_mem); (case zzU => k_updF); (case zzhl => assumption); (case zzhR => assumption)); intro _ _ h' tk' F' N')
  k_with "call ref" => (k_dflt (show wpAny _ _ (call (Value.ref 205) [_, _, .int 2 _, _]) _ _ _); k_dflt (refine' coded16_ok ?zzB ?zzF ?zzX ?zzT ?zzk ?zzp ?zzu ?zzN ?zzhc ?zzU ?zzhl ?zzhR ?_; walk_at "mine tail"; (case zzhc => k_mem); (case zzU => k_updF); (case zzhl => assumption); (case zzhR => assumption)); intro _ _ h' tk' F' N')
  k_with "call ref" => (k_dflt (show wpAny _ _ (call (Value.ref 212) [_]) _ _ _); k_dflt (refine' escape_ok ?zzB ?zzF ?zzX ?zzT ?zzk ?zzp ?zzu ?zzN ?zzhc ?zzU ?zzhl ?zzhR ?zzhx ?_; walk_at "mine tail"; (case zzhc => k_mem); (case zzU => k_updF); (case zzhl => assumption); (case zzhR => assumption); (case zzhx => exact rfl)); intro _ _ h' tk' F' N')
  k_with "call ref" => (k_dflt (show wpAny _ _ (call (Value.ref 212) [_]) _ _ _); k_dflt (refine' escapeE_ok ?zzB ?zzF ?zzX ?zzT ?zzk ?zzp ?zzu ?zzN ?zzhc ?zzhd ?zzhl ?zzhR ?zzhx ?_; walk_at "mine tail"; (case zzhc => k_mem); (case zzhd => k_mem); (case zzhl => assumption); (case zzhR => assumption); (case zzhx => exact rfl)); intro _ h' tk' F' N')
  k_with "call ref" => ((with_reducible show wpAny _ _ (call _ _) _ _ _); k_dflt (show wpAny _ _ (call (Value.ref 219) [_, _]) _ _ _); k_dflt (refine' quoted_ok ?Bq632 ?Fq632 ?Xq632 ?Tq632 ?kq632 ?dpq632 ?unq632 ?Nq632 ?hcq632 ?Uq632 ?hlq632 ?hRq632 ?hnq632 ?_ ?_; (case Bq632 => k_asm); (case Fq632 => k_asm); (case Xq632 => k_asm); (case Tq632 => k_asm); (case Nq632 => k_asm); (case kq632 => first | exact rfl | assumption); (case hcq632 => k_mem); (case Uq632 => k_updF); (case hlq632 => assumption); (case hRq632 => assumption); (case hnq632 => assumption); (case dpq632 => walk_at "mine room"); (case unq632 => walk_at "mine room")); (all_goals first | (intro _ _ hQ' _ _ h' tk' F' N') | (intro hQ' _ _ _ h' tk' F' N')))
  k_with "call ref" => (k_dflt (show wpAny _ _ (call (Value.ref 57) [_, _]) _ _ _); k_dflt (refine' pos_ok ?zzB ?zzF ?zzX ?zzT ?zzk ?zzp ?zzu ?zzN ?zzhl ?zzhj ?zzhnl ?_; walk_at "mine tail"; (case zzhl => assumption); (case zzhj => assumption); (case zzhnl => assumption)); (intro x' d' _ _ _ _ _ _ _ _ _ cv' h' tk' ecv' F' N' l1 l2); (try k_lt l1); (try k_lt2 l2))
  k_with "getMethod type:Exception" => (k_here; refine' method_type ?Fq634 ?Xq634 ?mq634 (by decide +kernel) ?eq634 ?hq634 ?_; (case Fq634 => k_asm); (case Xq634 => k_asm); (case mq634 => first | rfl | kernel_rfl); (case eq634 => k_dflt k_is); (case hq634 => k_handed))
  k_with "call ref" => ((with_reducible show wpAny _ _ (call _ _) _ _ _); k_dflt (show wpAny _ _ (call (Value.ref 95) [_, _]) _ _ _); k_dflt (refine' lex_call ?Fq635 ?Nq635 ?Xq635 ?Cq635 ?iq635 ?fq635 ?sq635 ?zq635 ?_; (case Fq635 => k_asm); (case Nq635 => k_asm); (case Xq635 => k_asm); (case Cq635 => k_is); (case iq635 => k_is); (case fq635 => k_is); (case sq635 => k_is); (case zq635 => exact Nat.le_of_ble_eq_true rfl)); (intro e' t' h' F' N' l1 l2); (try k_lt l1); (try k_lt2 l2); walk_at "mine enter")
  k_with "call builtin:Exception.__init__" => ((with_reducible show wpAny _ _ (call (Value.builtin "Exception.__init__") (Value.ref _ :: _)) _ _ _); k_dflt (refine' lex_init_K ?Fq636 ?Nq636 ?Xq636 ?Cq636 ?Uq636 ?zq636 ?_; (case Fq636 => k_asm); (case Nq636 => k_asm); (case Xq636 => k_asm); (case Cq636 => k_is); (case Uq636 => k_updF); (case zq636 => exact Nat.le_of_ble_eq_true rfl)); (intro t' h' F' N' l1); (try dsimp only at N'); (try k_lt l1); (try k_sweep))
  k_with "setAttr ref" => (k_here; k_dflt (first | (refine' lex_set1 ?Fq637 ?Nq637 ?Xq637 ?Cq637 ?sq637 ?nq637 ?Uq637 ?_; (case Fq637 => k_asm); (case Nq637 => k_asm); (case Xq637 => k_asm); (case Cq637 => k_is); (case sq637 => k_is); (case Uq637 => k_updF); (case nq637 => k_is); (intro d' h' F' N' l1); (try dsimp only at N'); (try k_lt l1); (try k_sweep)) | (refine' lex_set2 ?Fq637 ?Nq637 ?Xq637 ?Cq637 ?sq637 ?nq637 ?xq637 ?Uq637 ?lq637 ?eq637 ?zq637 ?_; (case Fq637 => k_asm); (case Nq637 => k_asm); (case Xq637 => k_asm); (case Cq637 => k_is); (case sq637 => k_is); (case xq637 => k_mem); (case Uq637 => k_updF); (case nq637 => k_is); (case lq637 => k_get); (case eq637 => k_put); (case zq637 => exact Nat.le_of_ble_eq_true rfl); (intro h' F' N'); (try dsimp only at N'); (try k_sweep))))
  k_with "exec Raise some none" => (k_here; k_dflt (refine lex_raise rfl ?_))
  k_with "RaisableL ref" => (refine' ⟨_, _, _, rfl, ?hCq639, ?heq639, ?_⟩; (case hCq639 => exact (Frag.In.keeps (by k_asm) (Fr.keep (by k_asm))) _ _ (look95 _)); (case heq639 => exact News.get (by k_asm) (by k_mem)))
  k_with "leaving ref" => (k_here; (refine' lex_leave_at ?k1q640 ?k2q640 ?k3q640 ?k4q640 ?_; (case k3q640 => assumption); (case k1q640 => assumption); (case k4q640 => assumption); (case k2q640 => assumption); k_whole; intro h' R' U'; (try dsimp only at R' U' ⊢)))
  k_with "call ref" => ((with_reducible show wpAny _ _ (call _ _) _ _ _); k_dflt (show wpAny _ _ (call (Value.ref 290) [_, _, _]) _ _ _); k_dflt (refine' fail_ok ?Bq641 ?Fq641 ?Xq641 ?Tq641 ?kq641 ?dpq641 ?unq641 ?Nq641 ?hcq641 ?hdq641 ?hlq641 ?hRq641 ?hjq641 ?hnlq641 ?_; (case Bq641 => k_asm); (case Fq641 => k_asm); (case Xq641 => k_asm); (case Tq641 => k_asm); (case Nq641 => k_asm); (case kq641 => first | exact rfl | assumption); (case hcq641 => k_mem); (case hdq641 => k_mem); (case hlq641 => assumption); (case hRq641 => exact rfl); (case hjq641 => assumption); (case hnlq641 => assumption); (case dpq641 => walk_at "mine room"); (case unq641 => walk_at "mine room")); (intro e7 g7 h7 tk7 FG7 U7 R7))
  k_with "eval Name" => (k_here; (with_reducible show wpAny _ _ (eval (Expr.Name _ _) (compEnvC _ _ _ _)) _ _ _); k_dflt (refine ld_cell (by k_asm) (by rfl) (by k_mem) (by first | rfl | assumption) ?_))
  k_with "mine cells" => (refine' code_defC ?k1q643 ?k2q643 ?k3q643 ?k4q643 ?k5q643 ?kAq643 ?kFq643 ?kKq643 ?k6q643 ?k7q643 ?k8q643 ?k9q643 ?kBq643 ?kDq643 ?_ ?c2q643 ?c3q643 ?c4q643; (case kAq643 => exact rfl); (case kFq643 => exact rfl); (case kKq643 => first | exact rfl | assumption); (case k1q643 => k_asm); (case k2q643 => k_asm); (case k3q643 => k_asm); (case k4q643 => k_asm); (case k5q643 => k_asm); (case k6q643 => k_is); (case k7q643 => k_is); (case k8q643 => first | (refine' rm0 ?rhq643; (case rhq643 => assumption)) | (refine' rm1 ?rhq643 ?rlq643; (case rhq643 => assumption); (case rlq643 => exact rfl)) | (refine' rm2 ?rhq643 ?rlq643; (case rhq643 => assumption); (case rlq643 => exact rfl)) | ktr_room); (case k9q643 => first | exact BindsTo.of_eq rfl | exact binds_K (by k_in) rfl (by k_is) rfl rfl rfl); (case kBq643 => exact rfl); (case kDq643 => decide +kernel); (case c2q643 => exact rfl); (case c3q643 => exact rfl); (case c4q643 => exact rfl); k_whole; intro g' L' h' tk' cells' FG'; (refine (?_ : let mk := _; Fr _ _ _ mk → _)); intro mk F' N' Y' B' X' T' l1; (try k_lt l1); k_cells Y'; (try simp only [List.cons_append, List.nil_append] at N'); (refine (?_ : let nk := _; let ak := _; let qk := _; let ek := _; let sk := _; wpAny _ ak (execs _ nk) qk ek sk)); intro nk ak qk ek sk)
  k_with "call ref" => (k_dflt (show wpAny _ _ (call (Value.ref 245) [_, _]) _ _ _); k_dflt (refine' escaped_ok ?zzB ?zzF ?zzX ?zzT ?zzk ?zzp ?zzu ?zzN ?zzhx ?_; walk_at "mine tail"; (case zzhx => omega)); intro _ h' tk' F' N')
  k_with "compareOp NotIn str ref" => (k_here; k_dflt (refine' topNotIn_K ?Fq645 ?Xq645 ?lq645 ?kq645 ?eq645 ?oq645 ?_; (case eq645 => assumption); (case Fq645 => k_asm); (case Xq645 => k_asm); (case lq645 => k_is); (case kq645 => k_keys); (case oq645 => decide)); dsimp only [Option.isSome, Bool.not_true, Bool.not_false])
  k_with "subscriptTail" => (k_here; k_dflt (refine' topItem_K ?Fq646 ?Xq646 ?lq646 ?kq646 ?eq646 ?_; (case eq646 => assumption); (case Fq646 => k_asm); (case Xq646 => k_asm); (case lq646 => k_is); (case kq646 => k_keys)))
  k_with "call ref" => (k_dflt (show wpAny _ _ (call (Value.ref 219) [_, _]) _ _ _); k_dflt (refine' quoted_some ?zzB ?zzF ?zzX ?zzT ?zzk ?zzp ?zzu ?zzN ?zzhc ?zzU ?zzhl ?zzhR ?zzhn ?zzhq ?_; walk_at "mine tail"; (case zzhc => k_mem); (case zzU => k_updF); (case zzhl => assumption); (case zzhR => assumption); (case zzhn => assumption); (case zzhq => assumption)); intro _ _ h' tk' F' N')
  k_with "call ref" => (k_dflt (show wpAny _ _ (call (Value.ref 219) [_, _]) _ _ _); k_dflt (refine' quoted_none ?zzB ?zzF ?zzX ?zzT ?zzk ?zzp ?zzu ?zzN ?zzhc ?zzU ?zzhl ?zzhR ?zzhn ?zzhq ?_; walk_at "mine tail"; (case zzhc => k_mem); (case zzU => k_updF); (case zzhl => assumption); (case zzhR => assumption); (case zzhn => assumption); (case zzhq => assumption)); intro e9' _ _ h' tk' F' N')
  k_with "call ref" => (k_dflt (show wpAny _ _ (call (Value.ref 148) [_, _]) _ _ _); k_dflt (refine' skip_no ?zzB ?zzF ?zzX ?zzT ?zzk ?zzp ?zzu ?zzN ?zzhc ?zzhd ?zzhl ?zzhR ?zzhx ?zzhw ?_; walk_at "mine tail"; (case zzhc => k_mem); (case zzhd => k_mem); (case zzhl => assumption); (case zzhR => assumption); (case zzhx => assumption); (case zzhw => exact rfl)); intro _ h' tk' F' N')
  k_with "compareOp In str ref" => (k_here; k_dflt (refine' in_tup_K ?Fq650 ?Xq650 ?lq650 ?sq650 ?_; (case Fq650 => k_asm); (case Xq650 => k_asm); (case lq650 => k_is); (case sq650 => first | exact .cons _ _ (.cons _ _ .nil))))
  k_with "truthy ref" => (k_here; (with_reducible show wpAny _ _ (truthy (Value.ref _)) _ _ _); k_dflt (refine' truthy_snoc ?Nq651 ?mq651 ?bq651 ?_; (case Nq651 => k_asm); (case mq651 => k_mem); (case bq651 => assumption)))
  k_with "subscriptTail" => (k_here; k_dflt (refine' last_snoc ?Nq652 ?mq652 ?iq652 ?_ ?sq652 ?gq652; (case Nq652 => k_asm); (case mq652 => k_mem); (case iq652 => exact rfl); (case sq652 => with_unfolding_all rfl); (case gq652 => (intro _; with_unfolding_all rfl))))
  k_with "subscriptTail Name UnaryOp ref int" => (k_here; k_dflt (refine' last_snoc ?Nq653 ?mq653 ?iq653 ?_ ?sq653 ?gq653; (case Nq653 => k_asm); (case mq653 => k_mem); (case iq653 => exact rfl); (case sq653 => with_unfolding_all rfl); (case gq653 => (intro _; with_unfolding_all rfl))))
  k_with "subscriptTail Name Constant ref int" => (k_here; k_dflt (refine' last_snoc ?Nq654 ?mq654 ?iq654 ?_ ?sq654 ?gq654; (case Nq654 => k_asm); (case mq654 => k_mem); (case iq654 => exact rfl); (case sq654 => with_unfolding_all rfl); (case gq654 => (intro _; with_unfolding_all rfl))))
  k_with "call builtin:list.append" => (k_here; (with_reducible show wpAny _ _ (call (Value.builtin _) [Value.ref _, _]) _ _ _); k_dflt ((refine' append_K ?k1q655 ?k2q655 ?k3q655 ?_ ?zq655; (case k1q655 => k_asm); (case k2q655 => k_asm); (case k3q655 => k_upd); (case zq655 => exact size_snoc (by assumption)); k_whole)); intro h' F' N'; (try k_sweep))
  k_with "call ref" => (k_dflt (show wpAny _ _ (call (Value.ref 297) [_, _]) _ _ _); k_dflt (refine' step_err ?zzB ?zzF ?zzX ?zzT ?zzk ?zzp ?zzu ?zzN ?zzhc ?zzU ?zzhl ?zzhR ?zzh1 ?zzhn ?zzhnl ?zzhas ?zzhs ?_; walk_at "mine tail"; (case zzhc => k_mem); (case zzU => k_updF); (case zzhl => assumption); (case zzhR => assumption); (case zzh1 => k_mem); (case zzhn => assumption); (case zzhnl => assumption); (case zzhas => assumption); (case zzhs => assumption)); intro e7 g7 h7 tk7 FG7 U7 R7)
  k_with "call ref" => (k_dflt (show wpAny _ _ (call (Value.ref 297) [_, _]) _ _ _); k_dflt (refine' step_good ?zzB ?zzF ?zzX ?zzT ?zzk ?zzp ?zzu ?zzN ?zzhc ?zzU ?zzhl ?zzhR ?zzh1 ?zzhn ?zzhnl ?zzhas ?zzhs ?_; walk_at "mine tail"; (case zzhc => k_mem); (case zzU => k_updF); (case zzhl => assumption); (case zzhR => assumption); (case zzh1 => k_mem); (case zzhn => assumption); (case zzhnl => assumption); (case zzhas => assumption); (case zzhs => assumption)); (intro x7 dx7 k17 k27 v17 v27 v37 wv7 t7 h7 tk7 hw7 F7 N7 l7 l8); (try k_lt l7); (try k_lt2 l8))
  k_with "call ref" => (k_dflt (show wpAny _ _ (call (Value.ref 304) [_, _]) _ _ _); k_dflt (refine' steps_err ?zzB ?zzF ?zzX ?zzT ?zzk ?zzp ?zzu ?zzN ?zzhc ?zzU ?zzhl ?zzhR ?zzh1 ?zzhn ?zzhnl ?zzhas ?zzhs ?_; walk_at "mine tail"; (case zzhc => k_mem); (case zzU => k_updF); (case zzhl => assumption); (case zzhR => exact rfl); (case zzh1 => k_mem); (case zzhn => assumption); (case zzhnl => assumption); (case zzhas => assumption); (case zzhs => assumption)); intro e7 g7 h7 tk7 FG7 U7 R7)
  k_with "call ref" => (k_dflt (show wpAny _ _ (call (Value.ref 304) [_, _]) _ _ _); k_dflt (refine' steps_good ?zzB ?zzF ?zzX ?zzT ?zzk ?zzp ?zzu ?zzN ?zzhc ?zzU ?zzhl ?zzhR ?zzh1 ?zzhn ?zzhnl ?zzhas ?zzhs ?_; walk_at "mine tail"; (case zzhc => k_mem); (case zzU => k_updF); (case zzhl => assumption); (case zzhR => exact rfl); (case zzh1 => k_mem); (case zzhn => assumption); (case zzhnl => assumption); (case zzhas => assumption); (case zzhs => assumption)); (intro ls7 nn7 rs7 e7 t7 h7 tk7 hst7 his7 hle7 F7 N7))
  trivial
namespace Mine
set_option maxHeartbeats 1600000 in
theorem read_err {w : World} {mean : ExcName → Option Value} {mg mb : PySem.Str → Option Value} {dp un : Nat} {gd : Option (List Code)} {cn : PySem.Str} {cs : Scope} {a : Addr} {ccd : Value} {cl : List (PySem.Str × Addr)} {outer : List Env} {A₀ : Around} {base h₀ : Heap} {L : Addr} {m : PySem.Str → Option Value} {s : Shared} {Q E : Value → Shared → Prop} {news : List (Addr × Obj)} (B : Below A₀ base outer h₀) (F : Fr h₀ L s.heap m) (X : (Mine.hd.heap_1_39 w.params).In h₀) (T : Top Mine.hd.view_1_40 lo mean mg mb h₀) (hk : cs.kind = .function) (hdp : dp + 40 < recursionLimit) (hun : un + 400 < cLine) (N : News h₀ L s.heap news) {TX : PySem.Str} {u : Tok} {ln : Addr} {nq : Nat} {n1 n2 n3 : Tok} {j : Nat} (hlen : TX.length ≤ 100000) (hl : (ln, nmsO nq n1 n2 n3) ∈ news) (hnl : (10 : Nat) ∉ tl TX) (has : ∀ x ∈ tl TX, x < 512) (hK : stepsR (tl TX) 0 = .error j)
  (exc : ∀ (e : Addr) (g h' : Heap) (tk' : Nat), Fr h₀ L g m → g.UpToSlots h' → LexedAt base (envX cn cs L a ccd cl :: outer) e j h' → E (.ref e) { s with heap := h', toks := tk' }) : wpAny (model PySem.Challenge.rw_nn0359_01.row.prog w) (ktrTop dp un gd cn cs L a ccd cl outer) (call (.ref 311) [.str TX u, .ref ln]) Q E s := by
  have hn0 : 0 ≤ TX.length := Nat.zero_le _
  have N2 := nm_news N hl N
  (k_with "call ref last" => ((walk_at "mine inline")))
  refine wpAny_call ?_
  k_dflt walk_at "mine enter"
  walk_at "mine steps"
  exact exc _ _ _ _ (by assumption) (by assumption) (by assumption)
theorem read_drop {h₀ h : Heap} {L : Addr} {a b c e : Addr × Obj} {l1 news : List (Addr × Obj)} (N : News h₀ L h (a :: (l1 ++ (b :: c :: e :: news)))) : News h₀ L h (a :: (l1 ++ news)) := fun p hp => by
  apply N p
  simp only [List.mem_cons, List.mem_append] at hp ⊢
  rcases hp with h | h | h <;> simp [h]
set_option maxHeartbeats 1600000 in
theorem read_good {w : World} {mean : ExcName → Option Value} {mg mb : PySem.Str → Option Value} {dp un : Nat} {gd : Option (List Code)} {cn : PySem.Str} {cs : Scope} {a : Addr} {ccd : Value} {cl : List (PySem.Str × Addr)} {outer : List Env} {A₀ : Around} {base h₀ : Heap} {L : Addr} {m : PySem.Str → Option Value} {s : Shared} {Q E : Value → Shared → Prop} {news : List (Addr × Obj)} (B : Below A₀ base outer h₀) (F : Fr h₀ L s.heap m) (X : (Mine.hd.heap_1_39 w.params).In h₀) (T : Top Mine.hd.view_1_40 lo mean mg mb h₀) (hk : cs.kind = .function) (hdp : dp + 40 < recursionLimit) (hun : un + 400 < cLine) (N : News h₀ L s.heap news) {TX : PySem.Str} {u : Tok} {ln : Addr} {nq : Nat} {n1 n2 n3 : Tok} {l : List (List Nat × Wth)} (hlen : TX.length ≤ 100000) (hl : (ln, nmsO nq n1 n2 n3) ∈ news) (hnl : (10 : Nat) ∉ tl TX) (has : ∀ x ∈ tl TX, x < 512) (hK : stepsR (tl TX) 0 = .ok l)
  (ret : ∀ (ls : Addr) (nn : Nat) (rs : List SR) (h' : Heap) (tk' : Nat), rs.reverse.map SR.st = l → (∀ r ∈ rs, r.wt.is r.wv) → rs.length ≤ TX.length → Fr h₀ L h' m → News h₀ L h' ((ls, W.listOf (srRefs rs).toArray nn) :: (srL rs ++ news)) → Q (.ref ls) { s with heap := h', toks := tk' }) : wpAny (model PySem.Challenge.rw_nn0359_01.row.prog w) (ktrTop dp un gd cn cs L a ccd cl outer) (call (.ref 311) [.str TX u, .ref ln]) Q E s := by
  have hn0 : 0 ≤ TX.length := Nat.zero_le _
  have N2 := nm_news N hl N
  (k_with "call ref last" => ((walk_at "mine inline")))
  refine wpAny_call ?_
  k_dflt walk_at "mine enter"
  walk_at "mine steps"
  exact ret _ _ _ _ _ (by assumption) (by assumption) (by assumption) (by assumption) (read_drop (by assumption))
end Mine
theorem Mine.kw_Read_1 : True := by
  k_with "call ref" => (k_dflt (show wpAny _ _ (call (Value.ref 311) [_, _]) _ _ _); k_dflt (refine' read_err ?zzB ?zzF ?zzX ?zzT ?zzk ?zzp ?zzu ?zzN ?zzhlen ?zzhl ?zzhnl ?zzhas ?zzhK ?_; walk_at "mine tail"; (case zzhlen => assumption); (case zzhl => k_mem); (case zzhnl => assumption); (case zzhas => assumption); (case zzhK => assumption)); intro e7 g7 h7 tk7 FG7 U7 R7)
  k_with "call ref" => (k_dflt (show wpAny _ _ (call (Value.ref 311) [_, _]) _ _ _); k_dflt (refine' read_good ?zzB ?zzF ?zzX ?zzT ?zzk ?zzp ?zzu ?zzN ?zzhlen ?zzhl ?zzhnl ?zzhas ?zzhK ?_; walk_at "mine tail"; (case zzhlen => assumption); (case zzhl => k_mem); (case zzhnl => assumption); (case zzhas => assumption); (case zzhK => assumption)); (intro ls7 nn7 rs7 h7 tk7 hst7 his7 hle7 F7 N7))
  trivial
end
section
theorem Mine.wr_Told : True := by
  k_with_none
  k_with "call ref" => k_extra "call ref last"
  k_with "om" => with_reducible first | assumption | exact Nat.add_sub_cancel_left _ _ | exact Int.ofNat_lt.mpr (by assumption) | exact Int.ofNat_le.mpr (by assumption) | exact Int.ofNat_lt.mp (by assumption) | exact Int.ofNat_le.mp (by assumption) | exact o_lt (by assumption) | exact o_nlt (by assumption) | exact o_63 (by assumption) (by assumption) (by with_unfolding_all exact rfl) | exact o_s2 (by assumption) | exact o_s1 (by assumption) (by assumption) | exact o_s3 (by assumption) (by assumption) | exact o_mt (by assumption) | exact o_f1 (by assumption) | exact Nat.le_of_lt (by assumption) | exact Nat.not_le.mp (by assumption) | exact o_sub (by assumption) | exact o_big1 (by assumption) (by with_unfolding_all exact rfl) | exact Nat.le_trans (Nat.le_add_right _ _) (by assumption) | exact Int.natCast_nonneg _ | exact Nat.le_trans (by assumption) (by assumption) | exact o_big (by assumption) (by assumption) (by with_unfolding_all exact rfl) | exact o_ltM (by assumption) (by assumption) | exact o_tr (by assumption) (by assumption) (by assumption) | exact Nat.lt_of_lt_of_le (by assumption) (by assumption) | exact Nat.lt_of_le_of_lt (by assumption) (by assumption) | exact Nat.ne_of_lt (by assumption) | exact Nat.ne_of_gt (by assumption) | exact o_mm (by assumption) | exact o_mm2 (by assumption) (by assumption) | exact o_mn | exact o_ml (by assumption) (by assumption) | exact o_and (by assumption) | rfl
  k_with "kst" => k_extra "mine kst"
  k_with "kst" => k_extra "mine same3"
  k_with "ksw" => k_extra "mine ksw"
  k_with "ksw" => k_extra "mine same"
  k_with "mine enter" => (refine' code_def ?k1q661 ?k2q661 ?k3q661 ?k4q661 ?k5q661 ?kAq661 ?kFq661 ?kKq661 ?k6q661 ?k7q661 ?k8q661 ?k9q661 ?kBq661 ?_ ?c2q661 ?c3q661 ?c4q661 ?c5q661; (case kAq661 => exact rfl); (case kFq661 => exact rfl); (case kKq661 => first | exact rfl | assumption); (case k1q661 => k_asm); (case k2q661 => k_asm); (case k3q661 => k_asm); (case k4q661 => k_asm); (case k5q661 => k_asm); (case k6q661 => k_is); (case k7q661 => k_is); (case k8q661 => first | (refine' rm0 ?rhq661; (case rhq661 => assumption)) | (refine' rm1 ?rhq661 ?rlq661; (case rhq661 => assumption); (case rlq661 => exact rfl)) | (refine' rm2 ?rhq661 ?rlq661; (case rhq661 => assumption); (case rlq661 => exact rfl)) | ktr_room); (case k9q661 => first | exact BindsTo.of_eq rfl | exact binds_K (by k_in) rfl (by k_is) rfl rfl rfl); (case c5q661 => decide); (case kBq661 => exact locs rfl); (case c2q661 => exact rfl); (case c3q661 => exact rfl); (case c4q661 => exact rfl); k_whole; intro g' L' h' FG'; (refine (?_ : let mk := _; Fr _ _ _ mk → _)); intro mk F' N' B' X' T'; (refine (?_ : let nk := _; let ak := _; let qk := _; let ek := _; let sk := _; wpAny _ ak (execs _ nk) qk ek sk)); intro nk ak qk ek sk)
  k_with "subscriptTail Name Attribute str int" => ((with_reducible show wpAny _ _ (subscriptTail _ _ (Value.str _ _) (Value.int _ _)) _ _ _); refine item_str (fitsSsize_of (N := 9223372036854775808) (by omega) (by omega) (Int.le_refl _)) (by omega) (by omega) ?_; intro _)
  k_with "mine inline" => (k_dflt (first | (refine' call_cls ?k1q663 ?k2q663 ?k3q663 ?k4q663 ?k5q663 ?k6q663 ?_; (case k1q663 => k_asm); (case k2q663 => k_asm); (case k3q663 => k_asm); (case k4q663 => k_is); (case k5q663 => k_is); (case k6q663 => k_is); k_whole; intro x' d' h' F' N' l1 l2; (try k_lt l1); (try k_lt2 l2); (try k_sweep); walk_at "mine enter") | (refine wpAny_call ?_; walk_at "mine enter")))
  k_with "ite" => first | with_reducible refine ite_tt ?_ | with_reducible refine ite_ff ?_
  k_with "mine room" => first | (refine' rm2 ?rhq665 ?rlq665; (case rhq665 => assumption); (case rlq665 => exact rfl)) | decide +kernel | omega | (simp only [depth_deeper, units_deeper]; omega) | (dsimp only [ktrTop]; omega) | (dsimp only [Around.deeper, ktrTop]; omega) | ktr_room | ktr_units
  k_with "mine tail" => ((case zzB => k_asm); (case zzF => k_asm); (case zzX => k_asm); (case zzT => k_asm); (case zzN => k_asm); (case zzk => first | exact rfl | assumption); (case zzp => walk_at "mine room"); (case zzu => walk_at "mine room"))
  k_with "isTrue Compare" => (k_here; first | ((with_reducible show wpAny _ _ (isTrue (PySem.Expr.Compare (PySem.Expr.Name _ _) [PySem.CmpOp.Eq] [PySem.Expr.Constant (PySem.Const.str _) _ _] _) _ _) _ _ _); k_dflt (refine' tst_eq ?zaq667 ?zbq667 ?zcq667 ?zmq667 ?zFq667 ?zvq667 ?_; (case zFq667 => k_asm); (case zaq667 => rfl); (case zbq667 => rfl); (case zcq667 => decide); (case zvq667 => rfl); (case zmq667 => with_unfolding_all rfl); k_whole)) | ((with_reducible show wpAny _ _ (isTrue (PySem.Expr.Compare (PySem.Expr.Name _ _) [PySem.CmpOp.NotEq] [PySem.Expr.Constant (PySem.Const.str _) _ _] _) _ _) _ _ _); k_dflt (refine' tst_ne ?zaq667 ?zbq667 ?zcq667 ?zmq667 ?zFq667 ?zvq667 ?_; (case zFq667 => k_asm); (case zaq667 => rfl); (case zbq667 => rfl); (case zcq667 => decide); (case zvq667 => rfl); (case zmq667 => with_unfolding_all rfl); k_whole)))
  k_with "eval BinOp" => (k_here; (with_reducible show wpAny _ _ (eval (PySem.Expr.BinOp (PySem.Expr.Name _ _) PySem.Operator.Add (PySem.Expr.Constant (PySem.Const.int _) _ _) _) _) _ _ _); k_dflt (refine' add_nc ?zaq668 ?zbq668 ?zcq668 ?zFq668 ?zvq668 ?_; (case zFq668 => k_asm); (case zaq668 => rfl); (case zbq668 => rfl); (case zcq668 => decide); (case zvq668 => rfl); k_whole))
  k_with "mine steps" => repeat' (first | ((first | (fail_if_success (fail_if_success k_unfold)) | (fail_if_success (fail_if_success k_fold))); (refine (?_ : let qk := _; let sk := _; wpAny _ _ _ qk _ sk)); intro qk sk) | ((fail_if_success (fail_if_success k_unfold)); (refine (?_ : let sk := _; LeaveK _ _ _ _ _ _ sk)); intro sk) | (k_unfold; (try dsimp only)) | walk1 | (k_end; wrow_close) | (dsimp only [List.nil_append, List.cons_append]; walk1) | (leave1; (try dsimp only)) | fail "no step")
  k_with "execs cons" => (with_reducible refine wpAny_execs_cons ?_)
  k_with "eval Name" => (k_dflt (refine' nmL ?zaq671 ?zbq671 ?zdq671 ?zFq671 ?zvq671 ?_; (case zFq671 => k_asm); (case zaq671 => rfl); (case zbq671 => rfl); (case zvq671 => rfl); (case zdq671 => decide); k_whole))
  k_with "storeName" => (k_dflt (refine' stL ?zaq672 ?zbq672 ?zFq672 ?zNq672 ?_; (case zFq672 => k_asm); (case zNq672 => k_asm); (case zaq672 => rfl); (case zbq672 => rfl); k_whole; intro h' mk F' N'; (try k_sweep)))
  k_with "LeaveK" => (k_dflt (refine' leaveK_ ?k1q673 ?k2q673 ?_; (case k1q673 => k_asm); (case k2q673 => k_asm); k_whole); intro kF kN; (try dsimp only [InitBack]); (try refine ⟨rfl, ?_⟩))
  k_with "mine kst" => (intro z h1 h2 h3; (try dsimp +zetaDelta only [kstB]); (try simp only [List.forall_mem_cons, List.not_mem_nil, false_implies, implies_true, and_true, ne_eq] at h2); first | rfl | (simp [h1]; done) | (simp [h1, h2]; done) | ((try simp only [List.contains_cons, List.contains_nil, Bool.or_false, Bool.or_eq_false_iff, beq_eq_false_iff_ne, ne_eq] at h3); first | (simp [h1, h3]; done) | (simp [h1, h2, h3]; done)))
  k_with "mine same3" => (k_dflt (refine sn_end3 ?_; (repeat (first | (with_reducible exact sn_refl) | (refine' sn_in ?_ ?hpq675 ?hsq675; (case hpq675 => exact rfl); (case hsq675 => exact rfl)) | (refine' sn_upd ?_ ?hxq675; (case hxq675 => exact rfl)))); done))
  k_with "mine ksw" => (intro z h2 h3; (try dsimp +zetaDelta only [kstB]); (try simp only [List.forall_mem_cons, List.not_mem_nil, false_implies, implies_true, and_true, ne_eq] at h2); (try simp only [List.contains_cons, List.contains_nil, Bool.or_false, Bool.or_eq_false_iff, beq_eq_false_iff_ne, ne_eq] at h3); first | rfl | (simp [h2]; done) | (simp [h3]; done) | (simp [h2, h3]; done))
  k_with "mine same" => (k_dflt (refine sn_end ?_; (repeat (first | (with_reducible exact sn_refl) | (refine' sn_in ?_ ?hpq677 ?hsq677; (case hpq677 => exact rfl); (case hsq677 => exact rfl)) | (refine' sn_upd ?_ ?hxq677; (case hxq677 => exact rfl)))); done))
  w_top off
  trivial
theorem Mine.kw_mTold_1 : True := by
  k_with "call type:int" => ((with_reducible show wpAny _ _ (call (Value.type "int") [Value.str _ _, Value.int _ _]) _ _ _); refine call_int16 (by first | assumption | exact isHx_mem (by assumption) | exact isOc_isHx (by assumption)) ?_)
  k_with "call ref" => (k_dflt (show wpAny _ _ (call (Value.ref 233) [_]) _ _ _); k_dflt (refine' hex_escape_ok ?zzB ?zzF ?zzX ?zzT ?zzk ?zzp ?zzu ?zzN ?zzhx ?_; walk_at "mine tail"; (case zzhx => omega)); intro _ h' tk' F' N')
  k_with "call ref" => (k_dflt (show wpAny _ _ (call (Value.ref 240) [_, _]) _ _ _); k_dflt (refine' escaped_sign_ok ?zzB ?zzF ?zzX ?zzT ?zzk ?zzp ?zzu ?zzN ?zzhx ?_; walk_at "mine tail"; (case zzhx => omega)); intro _ h' tk' F' N')
  trivial
namespace Mine
theorem told_drop {h₀ h : Heap} {L : Addr} {a b c : Addr × Obj} {news : List (Addr × Obj)} (N : News h₀ L h (a :: b :: c :: news)) : News h₀ L h (a :: news) := fun p hp => by
  apply N p
  simp only [List.mem_cons] at hp ⊢
  rcases hp with h | h <;> simp [h]
set_option maxHeartbeats 1600000 in
theorem told_ok {w : World} {mean : ExcName → Option Value} {mg mb : PySem.Str → Option Value} {dp un : Nat} {gd : Option (List Code)} {cn : PySem.Str} {cs : Scope} {a : Addr} {ccd : Value} {cl : List (PySem.Str × Addr)} {outer : List Env} {A₀ : Around} {base h₀ : Heap} {L : Addr} {m : PySem.Str → Option Value} {s : Shared} {Q E : Value → Shared → Prop} {news : List (Addr × Obj)} (B : Below A₀ base outer h₀) (F : Fr h₀ L s.heap m) (X : (Mine.hd.heap_1_39 w.params).In h₀) (T : Top Mine.hd.view_1_40 lo mean mg mb h₀) (hk : cs.kind = .function) (hdp : dp + 5 < recursionLimit) (hun : un + 50 < cLine) (N : News h₀ L s.heap news) {x dx : Addr} {k1 k2 : Int} {v1 v2 v3 : Tok} {wo : List Nat} {wt : Wth} {wv : Value} (hw : wt.is wv) (h1 : (x, instObj 279 dx) ∈ news) (h2 : (dx, stepD k1 k2 v1 v2 v3 wo wv) ∈ news)
  (ret : ∀ (t : Addr) (h' : Heap) (tk' : Nat), Fr h₀ L h' m → News h₀ L h' ((t, { cls := .type "tuple", data := .seq #[.str (tx wo) v2, wv] }) :: news) → (∀ p ∈ news, p.1 < t) → Q (.ref t) { s with heap := h', toks := tk' })
  : wpAny (model PySem.Challenge.rw_nn0359_01.row.prog w) (ktrTop dp un gd cn cs L a ccd cl outer) (call (.ref 269) [.ref x]) Q E s := by
  have N2 : News h₀ L s.heap [(x, instObj 279 dx), (dx, stepD k1 k2 v1 v2 v3 wo wv)] := fun p hp => by
    rcases List.mem_cons.mp hp with rfl | hp
    · exact N _ h1
    · rw [List.mem_singleton.mp hp]; exact N _ h2
  have N3 : News h₀ L s.heap ((x, instObj 279 dx) :: (dx, stepD k1 k2 v1 v2 v3 wo wv) :: news) := nm_news N h1 (nm_news N h2 N)
  clear N N2
  cases wt with
  | no =>
    obtain rfl : wv = .none := hw
    refine wpAny_call ?_
    k_dflt walk_at "mine enter"
    walk_at "mine steps"
    rename _ ∧ _ ∧ _ => l1
    exact ret _ _ _ (by assumption) (told_drop (by assumption)) (ktn_ltOf l1.2.2)
  | txt l =>
    obtain ⟨tv, rfl⟩ := hw
    refine wpAny_call ?_
    k_dflt walk_at "mine enter"
    walk_at "mine steps"
    rename _ ∧ _ ∧ _ => l1
    exact ret _ _ _ (by assumption) (told_drop (by assumption)) (ktn_ltOf l1.2.2)
  | num k =>
    obtain ⟨tv, rfl⟩ := hw
    refine wpAny_call ?_
    k_dflt walk_at "mine enter"
    walk_at "mine steps"
    rename _ ∧ _ ∧ _ => l1
    exact ret _ _ _ (by assumption) (told_drop (by assumption)) (ktn_ltOf l1.2.2)
end Mine
theorem Mine.kw_Told_1 : True := by
  k_with "call ref" => (k_dflt (show wpAny _ _ (call (Value.ref 269) [_]) _ _ _); k_dflt (refine' told_ok ?zzB ?zzF ?zzX ?zzT ?zzk ?zzp ?zzu ?zzN ?zzhw ?zzh1 ?zzh2 ?_; walk_at "mine tail"; (case zzhw => assumption); (case zzh1 => k_mem); (case zzh2 => k_mem)); (intro t7 h7 tk7 F7 N7 l7))
  trivial
end
section
theorem Mine.wr_Show : True := by
  k_with_none
  k_with "call ref" => k_extra "call ref last"
  k_with "om" => with_reducible first | assumption | exact Nat.add_sub_cancel_left _ _ | exact Int.ofNat_lt.mpr (by assumption) | exact Int.ofNat_le.mpr (by assumption) | exact Int.ofNat_lt.mp (by assumption) | exact Int.ofNat_le.mp (by assumption) | exact o_lt (by assumption) | exact o_nlt (by assumption) | exact o_63 (by assumption) (by assumption) (by with_unfolding_all exact rfl) | exact o_s2 (by assumption) | exact o_s1 (by assumption) (by assumption) | exact o_s3 (by assumption) (by assumption) | exact o_mt (by assumption) | exact o_f1 (by assumption) | exact Nat.le_of_lt (by assumption) | exact Nat.not_le.mp (by assumption) | exact o_sub (by assumption) | exact o_big1 (by assumption) (by with_unfolding_all exact rfl) | exact Nat.le_trans (Nat.le_add_right _ _) (by assumption) | exact Int.natCast_nonneg _ | exact Nat.le_trans (by assumption) (by assumption) | exact o_big (by assumption) (by assumption) (by with_unfolding_all exact rfl) | exact o_ltM (by assumption) (by assumption) | exact o_tr (by assumption) (by assumption) (by assumption) | exact Nat.lt_of_lt_of_le (by assumption) (by assumption) | exact Nat.lt_of_le_of_lt (by assumption) (by assumption) | exact Nat.ne_of_lt (by assumption) | exact Nat.ne_of_gt (by assumption) | exact o_mm (by assumption) | exact o_mm2 (by assumption) (by assumption) | exact o_mn | exact o_ml (by assumption) (by assumption) | exact o_and (by assumption) | rfl
  k_with "kst" => k_extra "mine kst"
  k_with "kst" => k_extra "mine same3"
  k_with "ksw" => k_extra "mine ksw"
  k_with "ksw" => k_extra "mine same"
  k_with "mine enter" => (refine' code_def ?k1q682 ?k2q682 ?k3q682 ?k4q682 ?k5q682 ?kAq682 ?kFq682 ?kKq682 ?k6q682 ?k7q682 ?k8q682 ?k9q682 ?kBq682 ?_ ?c2q682 ?c3q682 ?c4q682 ?c5q682; (case kAq682 => exact rfl); (case kFq682 => exact rfl); (case kKq682 => first | exact rfl | assumption); (case k1q682 => k_asm); (case k2q682 => k_asm); (case k3q682 => k_asm); (case k4q682 => k_asm); (case k5q682 => k_asm); (case k6q682 => k_is); (case k7q682 => k_is); (case k8q682 => first | (refine' rm0 ?rhq682; (case rhq682 => assumption)) | (refine' rm1 ?rhq682 ?rlq682; (case rhq682 => assumption); (case rlq682 => exact rfl)) | (refine' rm2 ?rhq682 ?rlq682; (case rhq682 => assumption); (case rlq682 => exact rfl)) | ktr_room); (case k9q682 => first | exact BindsTo.of_eq rfl | exact binds_K (by k_in) rfl (by k_is) rfl rfl rfl); (case c5q682 => decide); (case kBq682 => exact locs rfl); (case c2q682 => exact rfl); (case c3q682 => exact rfl); (case c4q682 => exact rfl); k_whole; intro g' L' h' FG'; (refine (?_ : let mk := _; Fr _ _ _ mk → _)); intro mk F' N' B' X' T'; (refine (?_ : let nk := _; let ak := _; let qk := _; let ek := _; let sk := _; wpAny _ ak (execs _ nk) qk ek sk)); intro nk ak qk ek sk)
  k_with "subscriptTail Name Attribute str int" => ((with_reducible show wpAny _ _ (subscriptTail _ _ (Value.str _ _) (Value.int _ _)) _ _ _); refine item_str (fitsSsize_of (N := 9223372036854775808) (by omega) (by omega) (Int.le_refl _)) (by omega) (by omega) ?_; intro _)
  k_with "mine inline" => (k_dflt (first | (refine' call_cls ?k1q684 ?k2q684 ?k3q684 ?k4q684 ?k5q684 ?k6q684 ?_; (case k1q684 => k_asm); (case k2q684 => k_asm); (case k3q684 => k_asm); (case k4q684 => k_is); (case k5q684 => k_is); (case k6q684 => k_is); k_whole; intro x' d' h' F' N' l1 l2; (try k_lt l1); (try k_lt2 l2); (try k_sweep); walk_at "mine enter") | (refine wpAny_call ?_; walk_at "mine enter")))
  k_with "ite" => first | with_reducible refine ite_tt ?_ | with_reducible refine ite_ff ?_
  k_with "mine room" => first | (refine' rm2 ?rhq686 ?rlq686; (case rhq686 => assumption); (case rlq686 => exact rfl)) | decide +kernel | omega | (simp only [depth_deeper, units_deeper]; omega) | (dsimp only [ktrTop]; omega) | (dsimp only [Around.deeper, ktrTop]; omega) | ktr_room | ktr_units
  k_with "mine tail" => ((case zzB => k_asm); (case zzF => k_asm); (case zzX => k_asm); (case zzT => k_asm); (case zzN => k_asm); (case zzk => first | exact rfl | assumption); (case zzp => walk_at "mine room"); (case zzu => walk_at "mine room"))
  k_with "isTrue Compare" => (k_here; first | ((with_reducible show wpAny _ _ (isTrue (PySem.Expr.Compare (PySem.Expr.Name _ _) [PySem.CmpOp.Eq] [PySem.Expr.Constant (PySem.Const.str _) _ _] _) _ _) _ _ _); k_dflt (refine' tst_eq ?zaq688 ?zbq688 ?zcq688 ?zmq688 ?zFq688 ?zvq688 ?_; (case zFq688 => k_asm); (case zaq688 => rfl); (case zbq688 => rfl); (case zcq688 => decide); (case zvq688 => rfl); (case zmq688 => with_unfolding_all rfl); k_whole)) | ((with_reducible show wpAny _ _ (isTrue (PySem.Expr.Compare (PySem.Expr.Name _ _) [PySem.CmpOp.NotEq] [PySem.Expr.Constant (PySem.Const.str _) _ _] _) _ _) _ _ _); k_dflt (refine' tst_ne ?zaq688 ?zbq688 ?zcq688 ?zmq688 ?zFq688 ?zvq688 ?_; (case zFq688 => k_asm); (case zaq688 => rfl); (case zbq688 => rfl); (case zcq688 => decide); (case zvq688 => rfl); (case zmq688 => with_unfolding_all rfl); k_whole)))
  k_with "eval BinOp" => (k_here; (with_reducible show wpAny _ _ (eval (PySem.Expr.BinOp (PySem.Expr.Name _ _) PySem.Operator.Add (PySem.Expr.Constant (PySem.Const.int _) _ _) _) _) _ _ _); k_dflt (refine' add_nc ?zaq689 ?zbq689 ?zcq689 ?zFq689 ?zvq689 ?_; (case zFq689 => k_asm); (case zaq689 => rfl); (case zbq689 => rfl); (case zcq689 => decide); (case zvq689 => rfl); k_whole))
  k_with "mine steps" => repeat' (first | ((first | (fail_if_success (fail_if_success k_unfold)) | (fail_if_success (fail_if_success k_fold))); (refine (?_ : let qk := _; let sk := _; wpAny _ _ _ qk _ sk)); intro qk sk) | ((fail_if_success (fail_if_success k_unfold)); (refine (?_ : let sk := _; LeaveK _ _ _ _ _ _ sk)); intro sk) | (k_unfold; (try dsimp only)) | walk1 | (k_end; wrow_close) | (dsimp only [List.nil_append, List.cons_append]; walk1) | (leave1; (try dsimp only)) | fail "no step")
  k_with "execs cons" => (with_reducible refine wpAny_execs_cons ?_)
  k_with "eval Name" => (k_dflt (refine' nmL ?zaq692 ?zbq692 ?zdq692 ?zFq692 ?zvq692 ?_; (case zFq692 => k_asm); (case zaq692 => rfl); (case zbq692 => rfl); (case zvq692 => rfl); (case zdq692 => decide); k_whole))
  k_with "storeName" => (k_dflt (refine' stL ?zaq693 ?zbq693 ?zFq693 ?zNq693 ?_; (case zFq693 => k_asm); (case zNq693 => k_asm); (case zaq693 => rfl); (case zbq693 => rfl); k_whole; intro h' mk F' N'; (try k_sweep)))
  k_with "LeaveK" => (k_dflt (refine' leaveK_ ?k1q694 ?k2q694 ?_; (case k1q694 => k_asm); (case k2q694 => k_asm); k_whole); intro kF kN; (try dsimp only [InitBack]); (try refine ⟨rfl, ?_⟩))
  k_with "mine kst" => (intro z h1 h2 h3; (try dsimp +zetaDelta only [kstB]); (try simp only [List.forall_mem_cons, List.not_mem_nil, false_implies, implies_true, and_true, ne_eq] at h2); first | rfl | (simp [h1]; done) | (simp [h1, h2]; done) | ((try simp only [List.contains_cons, List.contains_nil, Bool.or_false, Bool.or_eq_false_iff, beq_eq_false_iff_ne, ne_eq] at h3); first | (simp [h1, h3]; done) | (simp [h1, h2, h3]; done)))
  k_with "mine same3" => (k_dflt (refine sn_end3 ?_; (repeat (first | (with_reducible exact sn_refl) | (refine' sn_in ?_ ?hpq696 ?hsq696; (case hpq696 => exact rfl); (case hsq696 => exact rfl)) | (refine' sn_upd ?_ ?hxq696; (case hxq696 => exact rfl)))); done))
  k_with "mine ksw" => (intro z h2 h3; (try dsimp +zetaDelta only [kstB]); (try simp only [List.forall_mem_cons, List.not_mem_nil, false_implies, implies_true, and_true, ne_eq] at h2); (try simp only [List.contains_cons, List.contains_nil, Bool.or_false, Bool.or_eq_false_iff, beq_eq_false_iff_ne, ne_eq] at h3); first | rfl | (simp [h2]; done) | (simp [h3]; done) | (simp [h2, h3]; done))
  k_with "mine same" => (k_dflt (refine sn_end ?_; (repeat (first | (with_reducible exact sn_refl) | (refine' sn_in ?_ ?hpq698 ?hsq698; (case hpq698 => exact rfl); (case hsq698 => exact rfl)) | (refine' sn_upd ?_ ?hxq698; (case hxq698 => exact rfl)))); done))
  w_top off
  trivial
theorem Mine.kw_mShow_1 : True := by
  k_with "call type:int" => ((with_reducible show wpAny _ _ (call (Value.type "int") [Value.str _ _, Value.int _ _]) _ _ _); refine call_int16 (by first | assumption | exact isHx_mem (by assumption) | exact isOc_isHx (by assumption)) ?_)
  k_with "call ref" => (k_dflt (show wpAny _ _ (call (Value.ref 233) [_]) _ _ _); k_dflt (refine' hex_escape_ok ?zzB ?zzF ?zzX ?zzT ?zzk ?zzp ?zzu ?zzN ?zzhx ?_; walk_at "mine tail"; (case zzhx => omega)); intro _ h' tk' F' N')
  k_with "call ref" => (k_dflt (show wpAny _ _ (call (Value.ref 240) [_, _]) _ _ _); k_dflt (refine' escaped_sign_ok ?zzB ?zzF ?zzX ?zzT ?zzk ?zzp ?zzu ?zzN ?zzhx ?_; walk_at "mine tail"; (case zzhx => omega)); intro _ h' tk' F' N')
  k_with "call ref" => (k_dflt (show wpAny _ _ (call (Value.ref 269) [_]) _ _ _); k_dflt (refine' told_ok ?zzB ?zzF ?zzX ?zzT ?zzk ?zzp ?zzu ?zzN ?zzhw ?zzh1 ?zzh2 ?_; walk_at "mine tail"; (case zzhw => assumption); (case zzh1 => k_mem); (case zzh2 => k_mem)); (intro t7 h7 tk7 F7 N7 l7))
  trivial
namespace Mine
set_option maxHeartbeats 1600000 in
theorem show_ok {w : World} {mean : ExcName → Option Value} {mg mb : PySem.Str → Option Value} {dp un : Nat} {gd : Option (List Code)} {cn : PySem.Str} {cs : Scope} {a : Addr} {ccd : Value} {cl : List (PySem.Str × Addr)} {outer : List Env} {A₀ : Around} {base h₀ : Heap} {L : Addr} {m : PySem.Str → Option Value} {s : Shared} {Q E : Value → Shared → Prop} {news : List (Addr × Obj)} (B : Below A₀ base outer h₀) (F : Fr h₀ L s.heap m) (X : (Mine.hd.heap_1_39 w.params).In h₀) (T : Top Mine.hd.view_1_40 lo mean mg mb h₀) (hk : cs.kind = .function) (hdp : dp + 5 < recursionLimit) (hun : un + 50 < cLine) (N : News h₀ L s.heap news) {x dx : Addr} {k1 k2 : Int} {v1 v2 v3 : Tok} {wo : List Nat} {wt : Wth} {wv : Value} (hw : wt.is wv) (h1 : (x, instObj 279 dx) ∈ news) (h2 : (dx, stepD k1 k2 v1 v2 v3 wo wv) ∈ news) (hwl : (tx wo).length ≤ 100000) (hsm : wt.small)
  (ret : ∀ (t : Tok) (h' : Heap) (tk' : Nat), Fr h₀ L h' m → News h₀ L h' news → Q (.str (tx (showS (wo, wt))) t) { s with heap := h', toks := tk' })
  : wpAny (model PySem.Challenge.rw_nn0359_01.row.prog w) (ktrTop dp un gd cn cs L a ccd cl outer) (call (.ref 276) [.ref x]) Q E s := by
  have N3 : News h₀ L s.heap ((x, instObj 279 dx) :: (dx, stepD k1 k2 v1 v2 v3 wo wv) :: news) := nm_news N h1 (nm_news N h2 N)
  clear N
  cases wt with
  | no =>
    obtain rfl : wv = .none := hw
    refine wpAny_call ?_
    k_dflt walk_at "mine enter"
    walk_at "mine steps"
    exact ret _ _ _ (by assumption) (news_tl (news_tl (by assumption)))
  | txt l =>
    obtain ⟨tv, rfl⟩ := hw
    have hll : (tx l).length ≤ 100000 := by rw [tx_len]; exact hsm
    refine wpAny_call ?_
    k_dflt walk_at "mine enter"
    walk_at "mine steps"
    rw [show_txt]
    exact ret _ _ _ (by assumption) (news_tl (news_tl (by assumption)))
  | num k =>
    obtain ⟨tv, rfl⟩ := hw
    have hk0 : k < 1000000 := hsm
    refine wpAny_call ?_
    k_dflt walk_at "mine enter"
    walk_at "mine steps"
    rw [show_num]
    exact ret _ _ _ (by assumption) (news_tl (news_tl (by assumption)))
end Mine
theorem Mine.kw_Show_1 : True := by
  k_with "call ref" => (k_dflt (show wpAny _ _ (call (Value.ref 276) [_]) _ _ _); k_dflt (refine' show_ok ?zzB ?zzF ?zzX ?zzT ?zzk ?zzp ?zzu ?zzN ?zzhw ?zzh1 ?zzh2 ?zzhwl ?zzhsm ?_; walk_at "mine tail"; (case zzhw => assumption); (case zzh1 => k_mem); (case zzh2 => k_mem); (case zzhwl => assumption); (case zzhsm => assumption)); (intro t7 h7 tk7 F7 N7))
  trivial
end
section
theorem Mine.wr_Shows : True := by
  k_with_none
  k_with "call ref" => k_extra "call ref last"
  k_with "om" => with_reducible first | assumption | exact Nat.add_sub_cancel_left _ _ | exact Int.ofNat_lt.mpr (by assumption) | exact Int.ofNat_le.mpr (by assumption) | exact Int.ofNat_lt.mp (by assumption) | exact Int.ofNat_le.mp (by assumption) | exact o_lt (by assumption) | exact o_nlt (by assumption) | exact o_63 (by assumption) (by assumption) (by with_unfolding_all exact rfl) | exact o_s2 (by assumption) | exact o_s1 (by assumption) (by assumption) | exact o_s3 (by assumption) (by assumption) | exact o_mt (by assumption) | exact o_f1 (by assumption) | exact Nat.le_of_lt (by assumption) | exact Nat.not_le.mp (by assumption) | exact o_sub (by assumption) | exact o_big1 (by assumption) (by with_unfolding_all exact rfl) | exact Nat.le_trans (Nat.le_add_right _ _) (by assumption) | exact Int.natCast_nonneg _ | exact Nat.le_trans (by assumption) (by assumption) | exact o_big (by assumption) (by assumption) (by with_unfolding_all exact rfl) | exact o_ltM (by assumption) (by assumption) | exact o_tr (by assumption) (by assumption) (by assumption) | exact Nat.lt_of_lt_of_le (by assumption) (by assumption) | exact Nat.lt_of_le_of_lt (by assumption) (by assumption) | exact Nat.ne_of_lt (by assumption) | exact Nat.ne_of_gt (by assumption) | exact o_mm (by assumption) | exact o_mm2 (by assumption) (by assumption) | exact o_mn | exact o_ml (by assumption) (by assumption) | exact o_and (by assumption) | rfl
  k_with "kst" => k_extra "mine kst"
  k_with "kst" => k_extra "mine same3"
  k_with "ksw" => k_extra "mine ksw"
  k_with "ksw" => k_extra "mine same"
  k_with "mine enter" => (refine' code_def ?k1q705 ?k2q705 ?k3q705 ?k4q705 ?k5q705 ?kAq705 ?kFq705 ?kKq705 ?k6q705 ?k7q705 ?k8q705 ?k9q705 ?kBq705 ?_ ?c2q705 ?c3q705 ?c4q705 ?c5q705; (case kAq705 => exact rfl); (case kFq705 => exact rfl); (case kKq705 => first | exact rfl | assumption); (case k1q705 => k_asm); (case k2q705 => k_asm); (case k3q705 => k_asm); (case k4q705 => k_asm); (case k5q705 => k_asm); (case k6q705 => k_is); (case k7q705 => k_is); (case k8q705 => first | (refine' rm0 ?rhq705; (case rhq705 => assumption)) | (refine' rm1 ?rhq705 ?rlq705; (case rhq705 => assumption); (case rlq705 => exact rfl)) | (refine' rm2 ?rhq705 ?rlq705; (case rhq705 => assumption); (case rlq705 => exact rfl)) | ktr_room); (case k9q705 => first | exact BindsTo.of_eq rfl | exact binds_K (by k_in) rfl (by k_is) rfl rfl rfl); (case c5q705 => decide); (case kBq705 => exact locs rfl); (case c2q705 => exact rfl); (case c3q705 => exact rfl); (case c4q705 => exact rfl); k_whole; intro g' L' h' FG'; (refine (?_ : let mk := _; Fr _ _ _ mk → _)); intro mk F' N' B' X' T'; (refine (?_ : let nk := _; let ak := _; let qk := _; let ek := _; let sk := _; wpAny _ ak (execs _ nk) qk ek sk)); intro nk ak qk ek sk)
  k_with "subscriptTail Name Attribute str int" => ((with_reducible show wpAny _ _ (subscriptTail _ _ (Value.str _ _) (Value.int _ _)) _ _ _); refine item_str (fitsSsize_of (N := 9223372036854775808) (by omega) (by omega) (Int.le_refl _)) (by omega) (by omega) ?_; intro _)
  k_with "mine inline" => (k_dflt (first | (refine' call_cls ?k1q707 ?k2q707 ?k3q707 ?k4q707 ?k5q707 ?k6q707 ?_; (case k1q707 => k_asm); (case k2q707 => k_asm); (case k3q707 => k_asm); (case k4q707 => k_is); (case k5q707 => k_is); (case k6q707 => k_is); k_whole; intro x' d' h' F' N' l1 l2; (try k_lt l1); (try k_lt2 l2); (try k_sweep); walk_at "mine enter") | (refine wpAny_call ?_; walk_at "mine enter")))
  k_with "ite" => first | with_reducible refine ite_tt ?_ | with_reducible refine ite_ff ?_
  k_with "mine room" => first | (refine' rm2 ?rhq709 ?rlq709; (case rhq709 => assumption); (case rlq709 => exact rfl)) | decide +kernel | omega | (simp only [depth_deeper, units_deeper]; omega) | (dsimp only [ktrTop]; omega) | (dsimp only [Around.deeper, ktrTop]; omega) | ktr_room | ktr_units
  k_with "mine tail" => ((case zzB => k_asm); (case zzF => k_asm); (case zzX => k_asm); (case zzT => k_asm); (case zzN => k_asm); (case zzk => first | exact rfl | assumption); (case zzp => walk_at "mine room"); (case zzu => walk_at "mine room"))
  k_with "isTrue Compare" => (k_here; first | ((with_reducible show wpAny _ _ (isTrue (PySem.Expr.Compare (PySem.Expr.Name _ _) [PySem.CmpOp.Eq] [PySem.Expr.Constant (PySem.Const.str _) _ _] _) _ _) _ _ _); k_dflt (refine' tst_eq ?zaq711 ?zbq711 ?zcq711 ?zmq711 ?zFq711 ?zvq711 ?_; (case zFq711 => k_asm); (case zaq711 => rfl); (case zbq711 => rfl); (case zcq711 => decide); (case zvq711 => rfl); (case zmq711 => with_unfolding_all rfl); k_whole)) | ((with_reducible show wpAny _ _ (isTrue (PySem.Expr.Compare (PySem.Expr.Name _ _) [PySem.CmpOp.NotEq] [PySem.Expr.Constant (PySem.Const.str _) _ _] _) _ _) _ _ _); k_dflt (refine' tst_ne ?zaq711 ?zbq711 ?zcq711 ?zmq711 ?zFq711 ?zvq711 ?_; (case zFq711 => k_asm); (case zaq711 => rfl); (case zbq711 => rfl); (case zcq711 => decide); (case zvq711 => rfl); (case zmq711 => with_unfolding_all rfl); k_whole)))
  k_with "eval BinOp" => (k_here; (with_reducible show wpAny _ _ (eval (PySem.Expr.BinOp (PySem.Expr.Name _ _) PySem.Operator.Add (PySem.Expr.Constant (PySem.Const.int _) _ _) _) _) _ _ _); k_dflt (refine' add_nc ?zaq712 ?zbq712 ?zcq712 ?zFq712 ?zvq712 ?_; (case zFq712 => k_asm); (case zaq712 => rfl); (case zbq712 => rfl); (case zcq712 => decide); (case zvq712 => rfl); k_whole))
  k_with "mine steps" => repeat' (first | ((first | (fail_if_success (fail_if_success k_unfold)) | (fail_if_success (fail_if_success k_fold))); (refine (?_ : let qk := _; let sk := _; wpAny _ _ _ qk _ sk)); intro qk sk) | ((fail_if_success (fail_if_success k_unfold)); (refine (?_ : let sk := _; LeaveK _ _ _ _ _ _ sk)); intro sk) | (k_unfold; (try dsimp only)) | walk1 | (k_end; wrow_close) | (dsimp only [List.nil_append, List.cons_append]; walk1) | (leave1; (try dsimp only)) | fail "no step")
  k_with "execs cons" => (with_reducible refine wpAny_execs_cons ?_)
  k_with "eval Name" => (k_dflt (refine' nmL ?zaq715 ?zbq715 ?zdq715 ?zFq715 ?zvq715 ?_; (case zFq715 => k_asm); (case zaq715 => rfl); (case zbq715 => rfl); (case zvq715 => rfl); (case zdq715 => decide); k_whole))
  k_with "storeName" => (k_dflt (refine' stL ?zaq716 ?zbq716 ?zFq716 ?zNq716 ?_; (case zFq716 => k_asm); (case zNq716 => k_asm); (case zaq716 => rfl); (case zbq716 => rfl); k_whole; intro h' mk F' N'; (try k_sweep)))
  k_with "LeaveK" => (k_dflt (refine' leaveK_ ?k1q717 ?k2q717 ?_; (case k1q717 => k_asm); (case k2q717 => k_asm); k_whole); intro kF kN; (try dsimp only [InitBack]); (try refine ⟨rfl, ?_⟩))
  k_with "mine kst" => (intro z h1 h2 h3; (try dsimp +zetaDelta only [kstB]); (try simp only [List.forall_mem_cons, List.not_mem_nil, false_implies, implies_true, and_true, ne_eq] at h2); first | rfl | (simp [h1]; done) | (simp [h1, h2]; done) | ((try simp only [List.contains_cons, List.contains_nil, Bool.or_false, Bool.or_eq_false_iff, beq_eq_false_iff_ne, ne_eq] at h3); first | (simp [h1, h3]; done) | (simp [h1, h2, h3]; done)))
  k_with "mine same3" => (k_dflt (refine sn_end3 ?_; (repeat (first | (with_reducible exact sn_refl) | (refine' sn_in ?_ ?hpq719 ?hsq719; (case hpq719 => exact rfl); (case hsq719 => exact rfl)) | (refine' sn_upd ?_ ?hxq719; (case hxq719 => exact rfl)))); done))
  k_with "mine ksw" => (intro z h2 h3; (try dsimp +zetaDelta only [kstB]); (try simp only [List.forall_mem_cons, List.not_mem_nil, false_implies, implies_true, and_true, ne_eq] at h2); (try simp only [List.contains_cons, List.contains_nil, Bool.or_false, Bool.or_eq_false_iff, beq_eq_false_iff_ne, ne_eq] at h3); first | rfl | (simp [h2]; done) | (simp [h3]; done) | (simp [h2, h3]; done))
  k_with "mine same" => (k_dflt (refine sn_end ?_; (repeat (first | (with_reducible exact sn_refl) | (refine' sn_in ?_ ?hpq721 ?hsq721; (case hpq721 => exact rfl); (case hsq721 => exact rfl)) | (refine' sn_upd ?_ ?hxq721; (case hxq721 => exact rfl)))); done))
  w_top off
  trivial
theorem Mine.kw_mShows_1 : True := by
  k_with "call type:int" => ((with_reducible show wpAny _ _ (call (Value.type "int") [Value.str _ _, Value.int _ _]) _ _ _); refine call_int16 (by first | assumption | exact isHx_mem (by assumption) | exact isOc_isHx (by assumption)) ?_)
  k_with "call ref" => (k_dflt (show wpAny _ _ (call (Value.ref 233) [_]) _ _ _); k_dflt (refine' hex_escape_ok ?zzB ?zzF ?zzX ?zzT ?zzk ?zzp ?zzu ?zzN ?zzhx ?_; walk_at "mine tail"; (case zzhx => omega)); intro _ h' tk' F' N')
  k_with "call ref" => (k_dflt (show wpAny _ _ (call (Value.ref 240) [_, _]) _ _ _); k_dflt (refine' escaped_sign_ok ?zzB ?zzF ?zzX ?zzT ?zzk ?zzp ?zzu ?zzN ?zzhx ?_; walk_at "mine tail"; (case zzhx => omega)); intro _ h' tk' F' N')
  k_with "call ref" => (k_dflt (show wpAny _ _ (call (Value.ref 269) [_]) _ _ _); k_dflt (refine' told_ok ?zzB ?zzF ?zzX ?zzT ?zzk ?zzp ?zzu ?zzN ?zzhw ?zzh1 ?zzh2 ?_; walk_at "mine tail"; (case zzhw => assumption); (case zzh1 => k_mem); (case zzh2 => k_mem)); (intro t7 h7 tk7 F7 N7 l7))
  k_with "call ref" => (k_dflt (show wpAny _ _ (call (Value.ref 276) [_]) _ _ _); k_dflt (refine' show_ok ?zzB ?zzF ?zzX ?zzT ?zzk ?zzp ?zzu ?zzN ?zzhw ?zzh1 ?zzh2 ?zzhwl ?zzhsm ?_; walk_at "mine tail"; (case zzhw => assumption); (case zzh1 => k_mem); (case zzh2 => k_mem); (case zzhwl => assumption); (case zzhsm => assumption)); (intro t7 h7 tk7 F7 N7))
  k_with "eval Name" => (k_here; (with_reducible show wpAny _ _ (eval (Expr.Name _ _) (compEnvC _ _ _ _)) _ _ _); k_dflt (refine ld_cell (by k_asm) (by rfl) (by k_mem) (by first | rfl | assumption) ?_))
  k_with "mine cells" => (refine' code_defC ?k1q728 ?k2q728 ?k3q728 ?k4q728 ?k5q728 ?kAq728 ?kFq728 ?kKq728 ?k6q728 ?k7q728 ?k8q728 ?k9q728 ?kBq728 ?kDq728 ?_ ?c2q728 ?c3q728 ?c4q728; (case kAq728 => exact rfl); (case kFq728 => exact rfl); (case kKq728 => first | exact rfl | assumption); (case k1q728 => k_asm); (case k2q728 => k_asm); (case k3q728 => k_asm); (case k4q728 => k_asm); (case k5q728 => k_asm); (case k6q728 => k_is); (case k7q728 => k_is); (case k8q728 => first | (refine' rm0 ?rhq728; (case rhq728 => assumption)) | (refine' rm1 ?rhq728 ?rlq728; (case rhq728 => assumption); (case rlq728 => exact rfl)) | (refine' rm2 ?rhq728 ?rlq728; (case rhq728 => assumption); (case rlq728 => exact rfl)) | ktr_room); (case k9q728 => first | exact BindsTo.of_eq rfl | exact binds_K (by k_in) rfl (by k_is) rfl rfl rfl); (case kBq728 => exact rfl); (case kDq728 => decide +kernel); (case c2q728 => exact rfl); (case c3q728 => exact rfl); (case c4q728 => exact rfl); k_whole; intro g' L' h' tk' cells' FG'; (refine (?_ : let mk := _; Fr _ _ _ mk → _)); intro mk F' N' Y' B' X' T' l1; (try k_lt l1); k_cells Y'; (try simp only [List.cons_append, List.nil_append] at N'); (refine (?_ : let nk := _; let ak := _; let qk := _; let ek := _; let sk := _; wpAny _ ak (execs _ nk) qk ek sk)); intro nk ak qk ek sk)
  trivial
namespace Mine
theorem sr_mem {rs : List SR} {r : SR} (h : r ∈ rs) : (r.x, instObj 279 r.dx) ∈ srL rs ∧ (r.dx, stepD r.k1 r.k2 r.v1 r.v2 r.v3 r.wo r.wv) ∈ srL rs := by
  induction rs with
  | nil => cases h
  | cons q rs ih =>
    rcases List.mem_cons.mp h with e | h
    · rw [← e]; exact ⟨.head _, .tail _ (.head _)⟩
    · exact ⟨.tail _ (.tail _ (ih h).1), .tail _ (.tail _ (ih h).2)⟩
theorem sum_le {k : Nat} : ∀ ns : List Nat, (∀ n ∈ ns, n ≤ k) → ns.sum ≤ k * ns.length
  | [], _ => Nat.zero_le _
  | n :: ns, h => by
    have := sum_le ns fun a ha => h a (.tail _ ha)
    have := h n (.head _)
    rw [List.sum_cons, List.length_cons, Nat.mul_succ]
    omega
theorem refs_at {rs : List SR} {i : Nat} {v : Value} (h : (srRefs rs).toArray[i]? = some v) : ∃ r, rs.reverse[i]? = some r ∧ v = Value.ref r.x := by
  rw [List.getElem?_toArray, srRefs, List.getElem?_map] at h
  rcases e : rs.reverse[i]? with _ | r
  · rw [e] at h; cases h
  · rw [e] at h; injection h with h; exact ⟨r, rfl, h.symm⟩
theorem Mine.kw_Shows_1 : True := by
  k_with "eval ListComp" => (k_here; k_dflt (refine LCg.ListComp_U (F₀ := by k_asm) (by rfl) (by decide) (by rfl) (by decide) (by rfl) ?_))
  trivial
set_option maxHeartbeats 1600000 in
theorem shows_ok {w : World} {mean : ExcName → Option Value} {mg mb : PySem.Str → Option Value} {dp un : Nat} {gd : Option (List Code)} {cn : PySem.Str} {cs : Scope} {a : Addr} {ccd : Value} {cl : List (PySem.Str × Addr)} {outer : List Env} {A₀ : Around} {base h₀ : Heap} {L : Addr} {m : PySem.Str → Option Value} {s : Shared} {Q E : Value → Shared → Prop} {news : List (Addr × Obj)} (B : Below A₀ base outer h₀) (F : Fr h₀ L s.heap m) (X : (Mine.hd.heap_1_39 w.params).In h₀) (T : Top Mine.hd.view_1_40 lo mean mg mb h₀) (hk : cs.kind = .function) (hdp : dp + 10 < recursionLimit) (hun : un + 100 < cLine) (N : News h₀ L s.heap news) {ls : Addr} {nn : Nat} {rs : List SR} (hl : (ls, W.listOf (srRefs rs).toArray nn) ∈ news) (hs : ∀ p ∈ srL rs, p ∈ news) (hw : ∀ r ∈ rs, r.wt.is r.wv) (hok : ∀ r ∈ rs, StepOk 206 r.st) (hlen : rs.length ≤ 200)
  (ret : ∀ (t : Tok) (h' : Heap) (tk' : Nat), Fr h₀ L h' m → News h₀ L h' news → Q (.str (tx (showL (rs.reverse.map SR.st))) t) { s with heap := h', toks := tk' }) : wpAny (model PySem.Challenge.rw_nn0359_01.row.prog w) (ktrTop dp un gd cn cs L a ccd cl outer) (call (.ref 316) [.ref ls]) Q E s := by
  have N3 : News h₀ L s.heap ((ls, W.listOf (srRefs rs).toArray nn) :: news) := nm_news N hl N
  have hsz : (srRefs rs).toArray.size ≤ sizeLine := by
    rw [List.size_toArray, srRefs_len, sizeLine_eq]
    omega
  have hjl : (((rs.reverse.map fun r => showS r.st).map tx).map (·.length)).sum + (rs.reverse.map fun r => showS r.st).length ≤ 1048576 := by
    have h1 := sum_le (k := 222) (((rs.reverse.map fun r => showS r.st).map tx).map (·.length)) (fun n hn => by
      rw [List.map_map, List.map_map] at hn
      obtain ⟨r, hr, rfl⟩ := List.mem_map.mp hn
      have := (showS_all (hok r (List.mem_reverse.mp hr))).2.2.1
      show (tx (showS r.st)).length ≤ 222
      rw [tx_len]; exact this)
    simp only [List.length_map, List.length_reverse] at h1 ⊢
    omega
  clear N
  (k_with "CompSrc Call nil ref" => (k_dflt (refine LCg.CompSrc.ledger (by rfl) (by k_asm) (by k_asm) (by k_mem) hsz ?_; intro g'; refine comp_any (xs := rs.reverse) (fun r => Value.ref r.x) (fun done ys nw => nw = (ls, W.listOf (srRefs rs).toArray nn) :: news ∧ StrsAre ys ((done.map fun r => showS r.st).map tx)) (by simp) (fun i v _ hv => refs_at hv) (fun r done ys nw I' oI' C' oC' D' m' h' tk' E' hr' hk' hC' hx' F' N' off' ne' => ?_) (fun ys nw hk => ?_) ⟨rfl, .nil⟩; (obtain ⟨hnw, hk'⟩ := hk'; subst hnw; have hrm := List.mem_reverse.mp hr'; have hwr := hw r hrm; obtain ⟨hr1, hr2⟩ := sr_mem hrm; obtain ⟨-, -, -, hwo6, hsm9⟩ := showS_all (hok r hrm); have hsm8 := hsm9 (by decide); have hwl8 : (tx r.wo).length ≤ 100000 := (by rw [tx_len]; exact Nat.le_trans hwo6 (by decide)); have N9 := nm_news N' (.tail _ (.tail _ (.tail _ (.tail _ (hs _ hr1))))) (nm_news N' (.tail _ (.tail _ (.tail _ (.tail _ (hs _ hr2))))) N'); clear N'); rotate_left; (obtain ⟨hnw, hk8⟩ := hk; subst hnw; clear hs hw hok); rotate_left)))
  (k_with "CompEnd str" => (k_dflt (refine LCg.CompEnd.intro (by assumption) (by assumption) _ (fun _ hp => .tail _ (.tail _ hp)) (by assumption) (.inr ⟨_, .head _, rfl, _, rfl⟩) ⟨rfl, ?_⟩; rw [List.map_append, List.map_append]; exact strs_snoc hk')))
  (k_with "call builtin:str.join" => (k_dflt (refine join_lst (ls := rs.reverse.map fun r => showS r.st) (by assumption) (by k_mem) hk8 (by decide +kernel) hjl ?_; intro _ _; (try dsimp only))))
  refine wpAny_call ?_
  k_dflt walk_at "mine enter"
  walk_at "mine steps"
  rw [show tl (PySem.Str.ofString "; ") = [59, 32] from by decide +kernel]
  have e : glue [59, 32] (rs.reverse.map fun r => showS r.st) = showL (rs.reverse.map SR.st) := by rw [showL, List.map_map]; rfl
  rw [e]
  exact ret _ _ _ (by assumption) (news_tl (news_tl (by assumption)))
end Mine
theorem Mine.kw_Shows_2 : True := by
  k_with "call ref" => (k_dflt (show wpAny _ _ (call (Value.ref 316) [_]) _ _ _); k_dflt (refine' shows_ok ?zzB ?zzF ?zzX ?zzT ?zzk ?zzp ?zzu ?zzN ?zzhl ?zzhs ?zzhw ?zzhok ?zzhlen ?_; walk_at "mine tail"; (case zzhl => k_mem); (case zzhs => assumption); (case zzhw => assumption); (case zzhok => assumption); (case zzhlen => assumption)); (intro t7 h7 tk7 F7 N7))
  trivial
end
section
set_option maxRecDepth 100000
namespace Mine
open PySem.Calls
set_option maxRecDepth 100000
theorem lex_tailB : lexTail.contains (.type "BaseException") = true := by decide +kernel
/-- what the ledger holds of our exception once it is caught -/
inductive CaughtL (e : Addr) (j : Nat) (news : List (Addr × Obj)) : Prop
  | mk (oe : Obj) (dx x pdx : Addr) (k1 k2 : Int) (u1 u2 : Tok) (wh : PySem.Str) (u : Tok) (h1 h2 h3 : Int) (t1 t2 t3 t4 t5 t6 : Tok) (vs : Array Value) (a0 : news = [(e, oe), (dx, dictOf [⟨k1, .str (PySem.Str.ofString "what") u1, .str wh u⟩, ⟨k2, .str (PySem.Str.ofString "at") u2, .ref x⟩] 2), (x, instObj 46 pdx), (pdx, posD h1 h2 h3 t1 t2 t3 t4 t5 t6 (j : Int) ((j : Int) + 1))]) (a1 : oe.cls = .ref 95) (a2 : oe.dict = some dx) (a3 : oe.data = .fields vs) (a4 : vs[2]? = some .none)
section
variable {prog : Program} {w : World} {A₀ : Around} {E : Value → Shared → Prop} {s' : Shared} {h₀ h : Heap} {outer : List Env} {L a e : Addr} {m mg mb : PySem.Str → Option Value} {name n x : PySem.Str} {scope : Scope} {cd : Value} {Q : Flow → Shared → Prop} {p : Program} {loose : List PySem.Str} {KF : Frag} {np pos : Pos} {b₀ : Stmt} {suite : List Stmt} {rest : List ExceptHandler} {j : Nat}
theorem lex_caught (K : Below A₀ h₀ outer h₀) (F : Fr h₀ L h m) (hsm : h.UpToSlots s'.heap) (R : LexedAt h₀ (envOf name scope L a cd :: outer) e j s'.heap)
    (X : KF.In h₀) (T : TopRead p loose mg mb h₀) (ex : nsIn KF mainGlobals x = some (some (.ref 95))) (hC : KF.lookup 95 = some lexO)
    (k : ∀ h' news₂ tk, Fr h₀ L h' (fun y => if y = n then some (.ref e) else m y) → News h₀ L h' news₂ → CaughtL e j news₂ →
      wpAny (model prog w) ((A₀.deeper (envOf name scope L a cd)).mark (some (.ref e))) (execs (b₀ :: suite) (envOf name scope L a cd))
        (fun f s₄ => wpAny (model prog w) (A₀.deeper (envOf name scope L a cd)) (do bindName (envOf name scope L a cd) n .none; unbindBehindTheSuite (envOf name scope L a cd) n pos) (fun _ s₅ => Q f s₅) E s₄)
        (AsSuiteRaised (model prog w) ((A₀.deeper (envOf name scope L a cd)).mark (some (.ref e))) (envOf name scope L a cd) n pos (notedBy (model prog w) ((A₀.deeper (envOf name scope L a cd)).mark (some (.ref e))) (envOf name scope L a cd) (cameBackBy (model prog w) (A₀.deeper (envOf name scope L a cd)) (envOf name scope L a cd) E)))
        { s' with heap := h', toks := tk })
    (hk : scope.kind = .function := by rfl) (hlo : (envOf name scope L a cd).kindOf n = some .local := by rfl) (hx : (envOf name scope L a cd).kindOf x = some .globalImplicit := by rfl) (hd : (x == ("__debug__" : Str)) = false := by decide) :
    wpAny (model prog w) (A₀.deeper (envOf name scope L a cd)) (noteFrame (.ref e) (envOf name scope L a cd))
      (fun _ s₂ => wpAny (model prog w) (A₀.deeper (envOf name scope L a cd)) (setFlight (.ref e) none) (fun _ s₃ =>
        wpAny (model prog w) (A₀.deeper (envOf name scope L a cd)) (handleBy (.ref e) (envOf name scope L a cd) (.ExceptHandler (some (.Name x np)) (some n) (b₀ :: suite) pos :: rest)) Q E s₃) E s₂) E s' := by
  refine (?_ : let gk := _; gk); intro gk
  obtain ⟨dx, px, pdx, k1, k2, u1, u2, wh, u, h1, h2, h3, t1, t2, t3, t4, t5, t6, B, hB, hl, hfl⟩ := R
  have hL : B.get? L = none := by
    obtain ⟨_, ⟨L', _, hf, hn', _⟩, _⟩ := hfl.2.2.1
    obtain rfl : L = L' := Option.some.inj hf
    exact hn'
  refine (?_ : gk); k_unfold
  refine noteD2 (Around.frames_deeper K.stack) rfl hfl fun h₄ hfl₄ hsm₄ => ?_
  refine flightD (o? := none) hfl₄ fun h₅ hfl₅ hsm₅' => ?_
  have hsm₅ := hsm₄.trans hsm₅'
  have st₅ : h₀.StaysIn h₅ := fun b o q => hfl₅.1 b o (hB b o q)
  have F₅ := F.of_stays st₅ (hsm.trans hsm₅)
  refine (?_ : let gk := _; gk); intro gk
  obtain ⟨oe, vs, T', oT, ts, hob, hobc, -⟩ := hfl₅.2.2.2
  refine (?_ : gk); k_unfold
  refine wpAny_handleBy_cons (codeAny_handlers_test (name_K F₅ X T ex ?_ hk hx hd)) (by intro q; cases q)
  have hC₅ : h₅.get? 95 = some lexO := F₅.keep _ _ (X _ _ hC)
  refine wpAny_excMatches_sub_self hC₅ hob hobc lex_tailB (codeAny_handlers_suite_as ?_)
  refine flightD (o? := none) hfl₅ fun h₆ hfl₆ hsm₆ => ?_
  have st₆ : h₀.StaysIn h₆ := fun b o q => hfl₆.1 b o (hB b o q)
  have F₆ := F.of_stays st₆ ((hsm.trans hsm₅).trans hsm₆)
  refine (?_ : let gk := _; gk); intro gk
  obtain ⟨oe6, vs6, T6, oT6, ts6, he6, hc6, hd6, hdt6, -, -, -, -, -, -, h26⟩ := hfl₆.2.2.2
  have hen : h₀.get? e = none := by
    rcases q : h₀.get? e with _ | o
    · rfl
    · have := hB _ _ q; rw [hfl₆.2.1] at this; cases this
  have heL : e ≠ L := fun z => by
    obtain ⟨o, es, ep, ho, hod, _⟩ := F₆.ns
    rw [← z, he6] at ho
    injection ho with ho
    rw [← ho, hdt6] at hod; cases hod
  have Nl : News h₀ L h₆ [(e, oe6), (dx, dictOf [⟨k1, .str (PySem.Str.ofString "what") u1, .str wh u⟩, ⟨k2, .str (PySem.Str.ofString "at") u2, .ref px⟩] 2), (px, instObj 46 pdx), (pdx, posD h1 h2 h3 t1 t2 t3 t4 t5 t6 (j : Int) ((j : Int) + 1))] := fun q hq => by
    rcases List.mem_cons.mp hq with rfl | hq
    · exact ⟨he6, heL, hen⟩
    · exact ⟨hfl₆.1 _ _ (hl q hq).1, (fun z => by have := (hl q hq).1; rw [z, hL] at this; cases this), (hl q hq).2⟩
  refine (?_ : gk); k_unfold
  exact stN F₆ Nl (fun h₇ F₇ N₇ => k h₇ _ _ F₇ N₇ ⟨_, _, _, _, _, _, _, _, _, _, _, _, _, _, _, _, _, _, _, _, rfl, hc6, hd6, hdt6, h26⟩) hk hlo
end
end Mine
end
section
set_option maxRecDepth 100000
namespace Mine
open PySem.Calls PySem.Builtin PySem.Builtin.ObjectAttr
set_option maxRecDepth 100000
section
variable {M : Model} {A : Around} {E : Value → Shared → Prop} {h : Heap} {g : Array GenState} {d : Drawn} {t : Nat} {os : OsState}
theorem lex_check_ga {e : Addr} {oe : Obj} {nameV : Value} {Q : Unit → Shared → Prop} (hC : h.get? 95 = some lexO) (hx : h.get? e = some oe) (hc : oe.cls = .ref 95) (hq : Q () ⟨h, g, d, t, os⟩) :
    wpAny M A (checkBuiltinCall "BaseException.__getattribute__" ⟨[.ref e, nameV], []⟩) Q E ⟨h, g, d, t, os⟩ := by
  have hk : builtinKind "BaseException.__getattribute__" = some .slot := by decide +kernel
  have hsplit : splitId "BaseException.__getattribute__" = some ("BaseException", "__getattribute__") := by decide +kernel
  have ha := PySem.F.args_bexc_ga (.ref e) nameV
  simp only [checkBuiltinCall, hk, hsplit]
  refine wpAny_bind ?_
  · unfold isInstance
    repeat (first | (with_reducible refine wpAny_loadPart_at hx ?_; rw [hc]) | (with_reducible refine wpAny_isSubtype_exc hC ?_; rw [lex_hasB]) | wp_step)
    exact hq
end
section
variable {prog : Program} {w : World} {A : Around} {E : Value → Shared → Prop} {s : Shared} {K : Frag} {h₀ : Heap} {L x dx : Addr} {m : PySem.Str → Option Value} {news : List (Addr × Obj)} {ox : Obj} {vs : Array Value} {es : List DictEntry} {n : Nat} {name : PySem.Str}
theorem lex_inst (N : News h₀ L s.heap news) (hx : (x, ox) ∈ news) (hc : ox.cls = .ref 95) (hdd : ox.dict = some dx) (hdt : ox.data = .fields vs) (hd : (dx, dictOf es n) ∈ news) : InstAt s.heap x ox 95 (some (dictOf es n)) :=
  ⟨(N _ hx).1, hc, by unfold notCls; rw [hdt], by rw [hdd]; exact (N _ hd).1⟩
theorem lex_get {expr : Bool} {v : Value} {Q : Value → Shared → Prop} (F : Fr h₀ L s.heap m) (N : News h₀ L s.heap news) (X₀ : K.In h₀) (hC : K.lookup 95 = some lexO)
    (hx : (x, ox) ∈ news) (hc : ox.cls = .ref 95) (hdd : ox.dict = some dx) (hdt : ox.data = .fields vs) (hd : (dx, dictOf es n) ∈ news)
    (hga : findIn K (.ref 95) "__getattribute__" = some (some (.builtin "BaseException.__getattribute__"))) (hk : findIn K (.ref 95) "__getattr__" = some none) (hn : findIn K (.ref 95) name = some none) (hh : hasDictIn K 95 = true)
    (hl : getL name es = some (some v)) (hv : handedIn v = true) (h : Q v { s with toks := s.toks + 1 }) : wpAny (model prog w) A (getAttr (.ref x) name expr) Q E s := by
  have I := lex_inst N hx hc hdd hdt hd
  have X := X₀.keeps F.keep
  obtain ⟨hp, g, d, t, os⟩ := s
  have hCC := X _ _ hC
  have L0 := I.type (M := model prog w)
  have L1 := looks_findIn (M := model prog w) X hga
  have L2 := looks_findIn (M := model prog w) X hk
  have L3 := looks_find (M := model prog w) X I (findObj_own hh hn rfl hl)
  have FB := PySem.F.attr_Exception
  unfold getAttr getAttrBy
  refine wpAny_bind (wpAny_mkText (wpAny_holding (wpAny_bind (L0.at (wpAny_bind (L1.at ?_))))))
  dsimp only
  rw [if_neg (by decide +kernel)]
  unfold getAttrByItsOwn hookBefore
  rw [if_pos (by rfl)]
  refine wpAny_bind (L2.at ?_)
  refine wpAny_bind (wpAny_attempt (wpAny_holding ?_))
  unfold callGetattribute
  rw [if_neg (by cases expr <;> decide +kernel)]
  unfold boundAndCalled
  refine wpAny_bind ?_
  rw [FB.ga.bind]
  refine wpAny_pure ?_
  dsimp only
  refine wpAny_call (codeAny_call_builtin FB.ga.plain PySem.F.entry_bexc_ga (lex_check_ga hCC (N _ hx).1 hc ?_))
  unfold Builtin.«object.__getattribute__» slotArgs attrName
  refine wpAny_bind (wpAny_pure (a := (Value.ref x, [Value.str name t])) ?_)
  dsimp only
  refine wpAny_bind (wpAny_pure (wpAny_bind (L0.at (wpAny_bind (L3.at ?_)))))
  refine wpAny_pure ?_
  dsimp only
  rw [handedOut_of hv]
  exact wpAny_pure h
theorem lex_method {pl : Sem Bool} {f : Addr} {Q : Value × List Value → Shared → Prop} (F : Fr h₀ L s.heap m) (N : News h₀ L s.heap news) (X₀ : K.In h₀)
    (hx : (x, ox) ∈ news) (hc : ox.cls = .ref 95) (hdd : ox.dict = some dx) (hdt : ox.data = .fields vs) (hd : (dx, dictOf es n) ∈ news)
    (hga : findIn K (.ref 95) "__getattribute__" = some (some (.builtin "BaseException.__getattribute__"))) (hk : findIn K (.ref 95) "__getattr__" = some none)
    (hf : findIn K (.ref 95) name = some (some (.ref f))) (ht : typeIn K (.ref f) = some (.type "function")) (hl : getL name es = some none) (h : Q (.ref f, [.ref x]) s) : wpAny (model prog w) A (getMethod (.ref x) name pl) Q E s := by
  have I := lex_inst N hx hc hdd hdt hd
  have X := X₀.keeps F.keep
  have hs : shadowIn (some (dictOf es n)) name = some false := by show (lookIn name (dictOf es n)).map _ = _; rw [lookIn_dict, hl]; rfl
  have hcan : Manifest.canonical "BaseException.__getattribute__" = "object.__getattribute__" := by decide +kernel
  unfold getMethod specialOf
  refine wpAny_bind (wpAny_bind (I.type.here ((looks_findIn X hga).here ?_)))
  dsimp only
  rw [hcan, if_neg (by decide)]
  refine wpAny_bind (wpAny_bind (I.type.here ((looks_findIn X hk).here ?_)))
  refine wpAny_bind (wpAny_bind (I.type.here ((looks_findIn X hf).here (wpAny_bind ((looks_typeIn X ht).here ?_)))))
  rw [if_neg (by decide +kernel)]
  refine wpAny_bind (wpAny_loadPart I.at_ ?_)
  rw [hdd]
  obtain ⟨r, a, b⟩ := Option.map_eq_some_iff.mp hs
  refine wpAny_bind (wpAny_bind (wpAny_loadPart (N _ hd).1 ?_))
  rw [nsLook_of a]
  refine wpAny_pure ?_
  rw [b]
  exact wpAny_bind (wpAny_rule (wpAny_pure h))
end
end Mine
end
section
set_option maxRecDepth 100000
namespace Mine
open PySem.Calls PySem.Builtin
set_option maxRecDepth 100000
theorem unchain_entry : entryFor table "proto.unchain" = some Builtin.«proto.unchain» := entryFor_of_tree (by kernel_rfl)
section
variable {prog : Program} {w : World} {A : Around} {E : Value → Shared → Prop} {s : Shared}
/-- a new exception raised where another is being handled, whose own context is empty -/
theorem raise_ctx {α : Type} {a e : Addr} {oa oe : Obj} {va ve : Array Value} {Q : α → Shared → Prop} (hh : A.handled = some (.ref e)) (hne : e ≠ a) (he : s.heap.get? e = some oe) (hde : oe.data = .fields ve) (h2 : ve[2]? = some .none)
    (ha : s.heap.get? a = some oa) (hda : oa.data = .fields va) (hz : 2 < va.size) (h : E (.ref a) { s with heap := s.heap.update a (Obj.mapFields (·.setIfInBounds 2 (.ref e))) }) :
    wpAny (model prog w) A (raiseNew (.ref a) : Sem α) Q E s := by
  unfold raiseNew
  refine wpAny_bind (wpAny_handled ?_)
  rw [hh]
  have hb : (Value.ref e != Value.ref a) = true := by simp [hne]
  simp only [hb, if_true]
  refine wpAny_bind (wpAny_holding (runValue_entry unchain_entry ?_))
  unfold Builtin.«proto.unchain»
  refine wpAny_bind (wpAny_field he hde h2 ?_)
  rw [if_pos (show (Value.none == Value.none) = true from rfl)]
  refine wpAny_bind (wpAny_pure (wpAny_pure ⟨_, rfl, ?_⟩))
  refine wpAny_bind ?_
  show wpAny _ _ (updateField a 2 (Value.ref e)) _ _ s
  unfold updateField
  refine wpAny_bind (wpAny_load ha ?_)
  rw [hda]
  refine wpAny_ite_true (decide_eq_true hz) ?_
  exact wpAny_update ha (wpAny_throw h)
/-- a tuple's walk is over, where an exception is being handled -/
theorem tup_over {e it t : Addr} {i : Nat} {items : Array Value} {oe : Obj} {ve : Array Value} {Q : Option Value → Shared → Prop} (hh : A.handled = some (.ref e)) (he : s.heap.get? e = some oe) (hde : oe.data = .fields ve) (h2 : ve[2]? = some .none)
    (hei : e ≠ it) (hit : IsTupIter s.heap it t i) (ht : IsTup s.heap t items) (hx : items[i]? = none) (hQ : ∀ h', Heap.ExtBut it s.heap h' → Q none { s with heap := h' }) : wpAny (model prog w) A (pyNext (.ref it)) Q E s := by
  obtain ⟨o, ho, hc, hd⟩ := id hit
  obtain ⟨ol, hol, _, nl, hdl⟩ := ht
  unfold pyNext
  refine wpAny_bind (wpAny_attempt (wpAny_callSpecial?_slot (name := Str.ofString "__next__") hit.typeIs slot_tupleiter_next (wpAny_call_entry slot_tupleiter_next hit.typeIs entry_tupleiter_next ?_ (args_tupleiter_next _))))
  show wpAny _ _ (field (.ref it) 0 >>= _) _ _ s
  refine wpAny_bind (wpAny_field ho hd (x := .ref t) rfl ?_)
  show wpAny _ _ (if (Value.ref t == Value.none) = true then _ else _) _ _ s
  rw [if_neg (show ¬ ((Value.ref t == Value.none) = true) from Bool.false_ne_true)]
  show wpAny _ _ (field (.ref it) 1 >>= _) _ _ s
  refine wpAny_bind (wpAny_field ho hd (x := .int i 0) rfl ?_)
  show wpAny _ _ (seqItems? (.ref t) >>= _) _ _ s
  refine wpAny_bind (wpAny_seqItems hol hdl ?_)
  simp only [Int.toNat_natCast, hx]
  refine wpAny_bind (wpAny_rule (wpAny_bind (wpAny_setField ho hd (by simp) ?_)))
  show wpAny _ _ (newExc (.type "StopIteration") [] >>= _) _ _ _
  refine wpAny_bind ?_
  simp only [newExc, newTuple]
  refine wpAny_bind (wpAny_newObj_type ?_ (by size_fits))
  refine wpAny_bind (m := firstArgMember _ _) (wpAny_of_eq (a := Value.none) (by first | rfl | (simp only [firstArgMember]; rfl)) ?_)
  refine wpAny_newObj_type ?_ (by size_fits)
  have hk : ∀ b o', b ≠ it → s.heap.get? b = some o' → (s.heap.update it (Obj.mapFields fun x => x.setIfInBounds 0 Value.none)).get? b = some o' := fun b o' hb ho' => (Heap.get?_update_other _ _ (Ne.symm hb)).trans ho'
  have hk2 : ∀ (X : Obj) b o', b ≠ it → s.heap.get? b = some o' → ((s.heap.update it (Obj.mapFields fun x => x.setIfInBounds 0 Value.none)).push X).get? b = some o' := fun X b o' hb ho' => Heap.get?_push_of_some _ (hk b o' hb ho')
  refine raise_ctx (show A.in1.handled = some (.ref e) from hh) (Nat.ne_of_lt (Heap.lt_size (hk2 _ e oe hei he))) (Heap.get?_push_of_some _ (hk2 _ e oe hei he)) hde h2 (Heap.get?_push_size _ rfl) rfl (by rw [Array.size_append]; exact Nat.lt_of_lt_of_le (show 2 < 6 by decide) (Nat.le_add_right 6 _)) ?_
  refine wpAny_bind (wpAny_isInstance (T := "StopIteration") (b := true) ⟨_, Heap.get?_update_self _ (Heap.get?_push_size _ rfl) rfl, rfl⟩ isSubtype_stop ?_)
  refine wpAny_pure (hQ _ fun b o' hb ho' => ?_)
  have h9 := hk2 { cls := .type "tuple", data := .seq #[] } b o' hb ho'
  rw [Heap.get?_update_other _ _ (Nat.ne_of_gt (Heap.lt_size h9))]
  exact Heap.get?_push_of_some _ h9
/-- a tuple unpacked, where an exception is being handled -/
theorem unpack_ctx {e t : Addr} {items : Array Value} {oe : Obj} {ve : Array Value} {targets : List (Bool × (Value → Sem Unit))} {Q : Unit → Shared → Prop} (hh : A.handled = some (.ref e)) (he : s.heap.get? e = some oe) (hde : oe.data = .fields ve) (h2 : ve[2]? = some .none) (ht : IsTup s.heap t items)
    (hn : targets.length = items.size) (hstar : targets.findIdx? (·.1) = none)
    (h : ∀ h', Heap.ExtBut s.heap.objs.size s.heap h' → wpAny (model prog w) A (assignInOrder (targets.map (·.2)) items.toList) Q E { s with heap := h' }) : wpAny (model prog w) A (unpack (.ref t) targets) Q E s := by
  have hlt : t ≠ s.heap.objs.size := by obtain ⟨o, ho, _⟩ := ht; exact Nat.ne_of_lt (Heap.lt_size ho)
  have hle : e ≠ s.heap.objs.size := Nat.ne_of_lt (Heap.lt_size he)
  unfold unpack
  rw [hn, hstar]
  refine wpAny_bind (wpAny_holding ?_)
  unfold unpackItems notIterableAtAll
  refine wpAny_bind (wpAny_bind (wpAny_specialOf ht.typeIs slot_tuple_iter.lookup (wpAny_pure ?_)))
  simp only [Bool.false_eq_true, if_false]
  refine wpAny_bind (wpAny_holding (iter_tuple ht ?_))
  refine wpAny_bind (wpAny_holding (draw_tuple hlt items.size 0 _ _ ⟨_, Heap.get?_push_size _ rfl, rfl, rfl⟩ (ht.push _) (by omega) fun h₁ hit₁ hs₁ => ?_))
  rw [List.drop_zero, List.take_of_length_le (by simp), if_neg (by simp)]
  refine wpAny_bind (wpAny_holding (tup_over hh (hs₁.extBut e oe hle (Heap.get?_push_of_some _ he)) hde h2 hle hit₁ ((ht.push _).extBut hs₁.extBut hlt) (by simp) fun h₂ he₂ => ?_))
  simp only [Option.isSome_none, Bool.false_eq_true, if_false]
  exact wpAny_pure (h h₂ fun b o hb eb => he₂ b o hb (hs₁.extBut b o hb (Heap.get?_push_of_some _ eb)))
theorem unpack_K {env : Env} {h₀ : Heap} {L e t : Addr} {m : PySem.Str → Option Value} {news : List (Addr × Obj)} {oe : Obj} {ve vt : Array Value} {n : Nat} {elts : List Expr} {k} {pos : Pos} {Q : Unit → Shared → Prop} (F : Fr h₀ L s.heap m) (N : News h₀ L s.heap news) (hh : A.handled = some (.ref e)) (he : (e, oe) ∈ news) (hde : oe.data = .fields ve) (h2 : ve[2]? = some .none)
    (ht : (t, ({ cls := .type "tuple", data := .seq vt n } : Obj)) ∈ news) (hn : (assignEach elts env).length = vt.size) (hstar : (assignEach elts env).findIdx? (·.1) = none)
    (h : ∀ h', Fr h₀ L h' m → News h₀ L h' news → wpAny (model prog w) A (assignInOrder ((assignEach elts env).map (·.2)) vt.toList) Q E { s with heap := h' }) : wpAny (model prog w) A (assign (.Tuple elts k pos) env (.ref t)) Q E s := by
  rw [assign_Tuple]
  exact wpAny_bind (wpAny_standAt (unpack_ctx hh (N _ he).1 hde h2 ⟨_, (N _ ht).1, rfl, n, rfl⟩ hn hstar fun h' hx => h h' (F.extBut hx (Nat.le_refl _)) (N.extBut hx (Nat.le_refl _))))
end
end Mine
end
section
set_option maxRecDepth 100000
namespace Mine
theorem str_okL {l : List Nat} (h : ∀ c ∈ l, c < 512) : PyData.strOk (tx l) = true := by
  unfold PyData.strOk tx
  rw [List.all_toArray, List.all_eq_true]
  intro c hc
  exact decide_eq_true (Nat.lt_trans (h c hc) (by decide))
theorem dat_ok {b : Nat} {st : List Nat × Wth} (h : StepOk b st) : kqdOk 8 (datSt st) = true := by
  obtain ⟨h1, -⟩ := showS_all h
  obtain ⟨wo, wt⟩ := st
  have hw : ∀ c ∈ wo, c < 512 := fun c hc => (h1 c (by cases wt <;> simp [showS, hc])).1
  have e1 := str_okL hw
  cases wt with
  | no => simp [datSt, datW, kqdOk, e1]
  | txt l =>
    have e2 := str_okL (l := l) fun c hc => (h1 c (by simp [showS, hc])).1
    simp [datSt, datW, kqdOk, e1, e2]
  | num k => simp [datSt, datW, kqdOk, e1]
theorem dats_ok {l : Sts} (h : ∀ s ∈ l, StepOk 206 s) : ∀ d ∈ l.map datSt, kqdOk 8 d = true := fun d hd => by
  obtain ⟨s, hs, rfl⟩ := List.mem_map.mp hd
  exact dat_ok (h s hs)
theorem steps_len_go {T : List Nat} (hT : ∀ c ∈ T, c < 512) : ∀ (f : Nat) (acc : Sts) (n : Nat) (l : Sts), acc.length ≤ n → n ≤ T.length → stepsGo T f acc n = .ok l → l.length ≤ T.length
  | 0, _, _, _, _, _, h => by cases h
  | f + 1, acc, n, l, ha, hn, h => by
    simp only [stepsGo] at h
    have h0 := run_drop_end T isBl n hn
    split at h
    · split at h
      · cases h
      · injection h with h; rw [← h, List.length_reverse]; omega
    · rename_i hne
      split at h
      · cases h
      · split at h
        · cases h
        · rename_i st e he
          have hlt : n + run isBl (T.drop n) < T.length := by
            rcases Nat.lt_or_ge (n + run isBl (T.drop n)) T.length with h1 | h1
            · exact h1
            · exact absurd (List.drop_eq_nil_of_le h1) hne
          obtain ⟨e1, e2⟩ := stepR_pos (fun c hc => hT c (List.mem_of_mem_drop hc)) he
          rw [List.length_drop] at e2
          have h3 := run_drop_end T isBl e (by omega)
          split at h
          · exact steps_len_go hT f _ _ l (by simp only [List.length_cons]; omega) h3 h
          · rename_i hne2
            have hlt2 : e + run isBl (T.drop e) < T.length := by
              rcases Nat.lt_or_ge (e + run isBl (T.drop e)) T.length with h1 | h1
              · exact h1
              · exact absurd (List.drop_eq_nil_of_le h1) hne2
            split at h
            · exact steps_len_go hT f _ _ l (by simp only [List.length_cons]; omega) (by omega) h
            · cases h
theorem steps_len {T : List Nat} {l : Sts} (hT : ∀ c ∈ T, c < 512) (h : stepsR T 0 = .ok l) : l.length ≤ T.length := steps_len_go hT _ _ _ _ (Nat.le_refl _) (Nat.zero_le _) h
end Mine
end
section
set_option maxRecDepth 100000
namespace Mine
theorem rs_facts {rs : List SR} {l : Sts} (hst : rs.reverse.map SR.st = l) (hok : ∀ s ∈ l, StepOk 206 s) (hl : l.length ≤ 200) :
    (∀ r ∈ rs, StepOk 206 r.st) ∧ rs.length ≤ 200 ∧ (srRefs rs).toArray.size ≤ sizeLine ∧ rs.reverse.map (fun r => datSt r.st) = l.map datSt ∧ showL (rs.reverse.map SR.st) = showL l := by
  have hlen : rs.length = l.length := by rw [← hst, List.length_map, List.length_reverse]
  refine ⟨fun r hr => hok _ (by rw [← hst]; exact List.mem_map.mpr ⟨r, List.mem_reverse.mpr hr, rfl⟩), by omega, ?_, ?_, by rw [hst]⟩
  · rw [List.size_toArray, srRefs_len, sizeLine_eq]; omega
  · rw [← hst, List.map_map]; rfl
theorem dat_wv {tn : List (Addr × Obj)} {wt : Wth} {wv : Value} (h : wt.is wv) : DatIn tn wv (datW wt) := by
  cases wt with
  | no => rw [show wv = .none from h]; exact .none
  | txt l => obtain ⟨t2, rfl⟩ := h; exact .str _ _
  | num k => obtain ⟨t2, rfl⟩ := h; exact .int _ _
/-- a turn's end of [one.told() for one in ..] -/
theorem told_end {h₀ h' : Heap} {L t ls I C D : Addr} {m : PySem.Str → Option Value} {s : Shared} {a b : Addr × Obj} {oI oC oD : Obj} {its : Array Value} {nn : Nat} {tn base : List (Addr × Obj)} {wo : List Nat} {wt : Wth} {wv : Value} {v2 : Tok} {n : Nat} {ys : List Value} {ds X : List Dat} {tk' : Nat} (hX : X = ds ++ [datSt (wo, wt)])
    (F : Fr h₀ L h' m) (N : News h₀ L h' ((t, ({ cls := .type "tuple", data := .seq #[.str (tx wo) v2, wv] n } : Obj)) :: a :: b :: (I, oI) :: (C, oC) :: (D, oD) :: (tn ++ base)))
    (lt : ∀ p ∈ a :: b :: (I, oI) :: (C, oC) :: (D, oD) :: (tn ++ base), @LT.lt Nat _ p.1 t) (off : LCg.Off3 I C D (tn ++ base)) (hls : (ls, ({ cls := .type "list", data := .seq its nn } : Obj)) ∈ base) (D9 : DatAll tn ys ds) (hw : wt.is wv) :
    LCg.CompEnd h₀ L m s I oI C oC D oD (LCg.SrcAt h₀ ls its) (fun y nw' => ∃ tn', nw' = tn' ++ base ∧ DatAll tn' (ys ++ [y]) X) (.ref t) { s with heap := h', toks := tk' } := by
  subst hX
  refine LCg.CompEnd.intro F N ((t, ({ cls := .type "tuple", data := .seq #[.str (tx wo) v2, wv] n } : Obj)) :: (tn ++ base)) (fun p hp => ?_) (LCg.Off3.of fun p hp => ?_) (.inr ⟨_, .tail _ (List.mem_append_right _ hls), rfl, _, rfl⟩)
    ⟨(t, _) :: tn, rfl, DatAll.append (DatAll.mono (fun p hp => .tail _ hp) D9) (DatAll.one (DatIn.tuple (vs := [.str (tx wo) v2, wv]) (.head _) (.cons (.str _ _) (.cons (dat_wv hw) .nil))))⟩
  · simp only [List.mem_cons] at hp ⊢
    rcases hp with h | h | h | h | h <;> simp [h]
  · rcases List.mem_cons.mp hp with rfl | hp
    · exact ⟨Nat.ne_of_gt (lt (I, oI) (by simp)), Nat.ne_of_gt (lt (C, oC) (by simp)), Nat.ne_of_gt (lt (D, oD) (by simp))⟩
    · exact LCg.Off3.mem off p hp
theorem shows2 {w : World} {mean : ExcName → Option Value} {mg mb : PySem.Str → Option Value} {dp un : Nat} {gd : Option (List Code)} {cn : PySem.Str} {cs : Scope} {a : Addr} {ccd : Value} {cl : List (PySem.Str × Addr)} {outer : List Env} {A₀ : Around} {base h₀ : Heap} {L : Addr} {m : PySem.Str → Option Value} {s : Shared} {Q E : Value → Shared → Prop} {news : List (Addr × Obj)} (B : Below A₀ base outer h₀) (F : Fr h₀ L s.heap m) (X : (Mine.hd.heap_1_39 w.params).In h₀) (T : Top Mine.hd.view_1_40 lo mean mg mb h₀) (hk : cs.kind = .function) (hdp : dp + 10 < recursionLimit) (hun : un + 100 < cLine) (N : News h₀ L s.heap news) {ls : Addr} {nn : Nat} {rs : List SR} {z : List Nat} (hl : (ls, W.listOf (srRefs rs).toArray nn) ∈ news) (hs : ∀ p ∈ srL rs, p ∈ news) (hw : ∀ r ∈ rs, r.wt.is r.wv) (hok : ∀ r ∈ rs, StepOk 206 r.st) (hlen : rs.length ≤ 200) (hz : showL (rs.reverse.map SR.st) = z)
  (ret : ∀ (t : Tok) (h' : Heap) (tk' : Nat), Fr h₀ L h' m → News h₀ L h' news → Q (.str (tx z) t) { s with heap := h', toks := tk' }) : wpAny (model PySem.Challenge.rw_nn0359_01.row.prog w) (ktrTop dp un gd cn cs L a ccd cl outer) (call (.ref 316) [.ref ls]) Q E s :=
  shows_ok B F X T hk hdp hun N hl hs hw hok hlen (by rw [hz]; exact ret)
end Mine
end
section
set_option maxRecDepth 100000
namespace Mine
theorem law_end {cl : PySem.Str → Option Addr} {mean : ExcName → Option Value} {vs : List Int} {s₁ s' : Shared} {L : Addr} {m : PySem.Str → Option Value} {b : Bool} (hb : b = true)
    (F : Fr s₁.heap L s'.heap m) (hg : s'.gens = #[]) (hos : s'.os = s₁.os) :
    GoodW PySem.Challenge.rw_nn0359_01.row.claim cl mean [ofPy (PyData.list (List.map PyData.int vs))] s₁ (.ok (.ret (.bool b))) s' := by
  subst hb
  exact goodW_bool F hg (raisesW_false (by wrow_none_raised)) (by wrow_post) hos
end Mine
end
section
theorem Mine.wr_Law : True := by
  k_with_none
  k_with "call ref" => k_extra "call ref last"
  k_with "om" => with_reducible first | assumption | exact Nat.add_sub_cancel_left _ _ | exact Int.ofNat_lt.mpr (by assumption) | exact Int.ofNat_le.mpr (by assumption) | exact Int.ofNat_lt.mp (by assumption) | exact Int.ofNat_le.mp (by assumption) | exact o_lt (by assumption) | exact o_nlt (by assumption) | exact o_63 (by assumption) (by assumption) (by with_unfolding_all exact rfl) | exact o_s2 (by assumption) | exact o_s1 (by assumption) (by assumption) | exact o_s3 (by assumption) (by assumption) | exact o_mt (by assumption) | exact o_f1 (by assumption) | exact Nat.le_of_lt (by assumption) | exact Nat.not_le.mp (by assumption) | exact o_sub (by assumption) | exact o_big1 (by assumption) (by with_unfolding_all exact rfl) | exact Nat.le_trans (Nat.le_add_right _ _) (by assumption) | exact Int.natCast_nonneg _ | exact Nat.le_trans (by assumption) (by assumption) | exact o_big (by assumption) (by assumption) (by with_unfolding_all exact rfl) | exact o_ltM (by assumption) (by assumption) | exact o_tr (by assumption) (by assumption) (by assumption) | exact Nat.lt_of_lt_of_le (by assumption) (by assumption) | exact Nat.lt_of_le_of_lt (by assumption) (by assumption) | exact Nat.ne_of_lt (by assumption) | exact Nat.ne_of_gt (by assumption) | exact o_mm (by assumption) | exact o_mm2 (by assumption) (by assumption) | exact o_mn | exact o_ml (by assumption) (by assumption) | exact o_and (by assumption) | rfl
  k_with "kst" => k_extra "mine kst"
  k_with "kst" => k_extra "mine same3"
  k_with "ksw" => k_extra "mine ksw"
  k_with "ksw" => k_extra "mine same"
  k_with "mine enter" => (refine' code_def ?k1q767 ?k2q767 ?k3q767 ?k4q767 ?k5q767 ?kAq767 ?kFq767 ?kKq767 ?k6q767 ?k7q767 ?k8q767 ?k9q767 ?kBq767 ?_ ?c2q767 ?c3q767 ?c4q767 ?c5q767; (case kAq767 => exact rfl); (case kFq767 => exact rfl); (case kKq767 => first | exact rfl | assumption); (case k1q767 => k_asm); (case k2q767 => k_asm); (case k3q767 => k_asm); (case k4q767 => k_asm); (case k5q767 => k_asm); (case k6q767 => k_is); (case k7q767 => k_is); (case k8q767 => first | (refine' rm0 ?rhq767; (case rhq767 => assumption)) | (refine' rm1 ?rhq767 ?rlq767; (case rhq767 => assumption); (case rlq767 => exact rfl)) | (refine' rm2 ?rhq767 ?rlq767; (case rhq767 => assumption); (case rlq767 => exact rfl)) | ktr_room); (case k9q767 => first | exact BindsTo.of_eq rfl | exact binds_K (by k_in) rfl (by k_is) rfl rfl rfl); (case c5q767 => decide); (case kBq767 => exact locs rfl); (case c2q767 => exact rfl); (case c3q767 => exact rfl); (case c4q767 => exact rfl); k_whole; intro g' L' h' FG'; (refine (?_ : let mk := _; Fr _ _ _ mk → _)); intro mk F' N' B' X' T'; (refine (?_ : let nk := _; let ak := _; let qk := _; let ek := _; let sk := _; wpAny _ ak (execs _ nk) qk ek sk)); intro nk ak qk ek sk)
  k_with "subscriptTail Name Attribute str int" => ((with_reducible show wpAny _ _ (subscriptTail _ _ (Value.str _ _) (Value.int _ _)) _ _ _); refine item_str (fitsSsize_of (N := 9223372036854775808) (by omega) (by omega) (Int.le_refl _)) (by omega) (by omega) ?_; intro _)
  k_with "mine inline" => (k_dflt (first | (refine' call_cls ?k1q769 ?k2q769 ?k3q769 ?k4q769 ?k5q769 ?k6q769 ?_; (case k1q769 => k_asm); (case k2q769 => k_asm); (case k3q769 => k_asm); (case k4q769 => k_is); (case k5q769 => k_is); (case k6q769 => k_is); k_whole; intro x' d' h' F' N' l1 l2; (try k_lt l1); (try k_lt2 l2); (try k_sweep); walk_at "mine enter") | (refine wpAny_call ?_; walk_at "mine enter")))
  k_with "ite" => first | with_reducible refine ite_tt ?_ | with_reducible refine ite_ff ?_
  k_with "mine room" => first | (refine' rm2 ?rhq771 ?rlq771; (case rhq771 => assumption); (case rlq771 => exact rfl)) | decide +kernel | omega | (simp only [depth_deeper, units_deeper]; omega) | (dsimp only [ktrTop]; omega) | (dsimp only [Around.deeper, ktrTop]; omega) | ktr_room | ktr_units
  k_with "mine tail" => ((case zzB => k_asm); (case zzF => k_asm); (case zzX => k_asm); (case zzT => k_asm); (case zzN => k_asm); (case zzk => first | exact rfl | assumption); (case zzp => walk_at "mine room"); (case zzu => walk_at "mine room"))
  k_with "isTrue Compare" => (k_here; first | ((with_reducible show wpAny _ _ (isTrue (PySem.Expr.Compare (PySem.Expr.Name _ _) [PySem.CmpOp.Eq] [PySem.Expr.Constant (PySem.Const.str _) _ _] _) _ _) _ _ _); k_dflt (refine' tst_eq ?zaq773 ?zbq773 ?zcq773 ?zmq773 ?zFq773 ?zvq773 ?_; (case zFq773 => k_asm); (case zaq773 => rfl); (case zbq773 => rfl); (case zcq773 => decide); (case zvq773 => rfl); (case zmq773 => with_unfolding_all rfl); k_whole)) | ((with_reducible show wpAny _ _ (isTrue (PySem.Expr.Compare (PySem.Expr.Name _ _) [PySem.CmpOp.NotEq] [PySem.Expr.Constant (PySem.Const.str _) _ _] _) _ _) _ _ _); k_dflt (refine' tst_ne ?zaq773 ?zbq773 ?zcq773 ?zmq773 ?zFq773 ?zvq773 ?_; (case zFq773 => k_asm); (case zaq773 => rfl); (case zbq773 => rfl); (case zcq773 => decide); (case zvq773 => rfl); (case zmq773 => with_unfolding_all rfl); k_whole)))
  k_with "eval BinOp" => (k_here; (with_reducible show wpAny _ _ (eval (PySem.Expr.BinOp (PySem.Expr.Name _ _) PySem.Operator.Add (PySem.Expr.Constant (PySem.Const.int _) _ _) _) _) _ _ _); k_dflt (refine' add_nc ?zaq774 ?zbq774 ?zcq774 ?zFq774 ?zvq774 ?_; (case zFq774 => k_asm); (case zaq774 => rfl); (case zbq774 => rfl); (case zcq774 => decide); (case zvq774 => rfl); k_whole))
  k_with "mine steps" => repeat' (first | ((first | (fail_if_success (fail_if_success k_unfold)) | (fail_if_success (fail_if_success k_fold))); (refine (?_ : let qk := _; let sk := _; wpAny _ _ _ qk _ sk)); intro qk sk) | ((fail_if_success (fail_if_success k_unfold)); (refine (?_ : let sk := _; LeaveK _ _ _ _ _ _ sk)); intro sk) | (k_unfold; (try dsimp only)) | walk1 | (k_end; wrow_close) | (dsimp only [List.nil_append, List.cons_append]; walk1) | (leave1; (try dsimp only)) | fail "no step")
  k_with "execs cons" => (with_reducible refine wpAny_execs_cons ?_)
  k_with "eval Name" => (k_dflt (refine' nmL ?zaq777 ?zbq777 ?zdq777 ?zFq777 ?zvq777 ?_; (case zFq777 => k_asm); (case zaq777 => rfl); (case zbq777 => rfl); (case zvq777 => rfl); (case zdq777 => decide); k_whole))
  k_with "storeName" => (k_dflt (refine' stL ?zaq778 ?zbq778 ?zFq778 ?zNq778 ?_; (case zFq778 => k_asm); (case zNq778 => k_asm); (case zaq778 => rfl); (case zbq778 => rfl); k_whole; intro h' mk F' N'; (try k_sweep)))
  k_with "LeaveK" => (k_dflt (refine' leaveK_ ?k1q779 ?k2q779 ?_; (case k1q779 => k_asm); (case k2q779 => k_asm); k_whole); intro kF kN; (try dsimp only [InitBack]); (try refine ⟨rfl, ?_⟩))
  k_with "mine kst" => (intro z h1 h2 h3; (try dsimp +zetaDelta only [kstB]); (try simp only [List.forall_mem_cons, List.not_mem_nil, false_implies, implies_true, and_true, ne_eq] at h2); first | rfl | (simp [h1]; done) | (simp [h1, h2]; done) | ((try simp only [List.contains_cons, List.contains_nil, Bool.or_false, Bool.or_eq_false_iff, beq_eq_false_iff_ne, ne_eq] at h3); first | (simp [h1, h3]; done) | (simp [h1, h2, h3]; done)))
  k_with "mine same3" => (k_dflt (refine sn_end3 ?_; (repeat (first | (with_reducible exact sn_refl) | (refine' sn_in ?_ ?hpq781 ?hsq781; (case hpq781 => exact rfl); (case hsq781 => exact rfl)) | (refine' sn_upd ?_ ?hxq781; (case hxq781 => exact rfl)))); done))
  k_with "mine ksw" => (intro z h2 h3; (try dsimp +zetaDelta only [kstB]); (try simp only [List.forall_mem_cons, List.not_mem_nil, false_implies, implies_true, and_true, ne_eq] at h2); (try simp only [List.contains_cons, List.contains_nil, Bool.or_false, Bool.or_eq_false_iff, beq_eq_false_iff_ne, ne_eq] at h3); first | rfl | (simp [h2]; done) | (simp [h3]; done) | (simp [h2, h3]; done))
  k_with "mine same" => (k_dflt (refine sn_end ?_; (repeat (first | (with_reducible exact sn_refl) | (refine' sn_in ?_ ?hpq783 ?hsq783; (case hpq783 => exact rfl); (case hsq783 => exact rfl)) | (refine' sn_upd ?_ ?hxq783; (case hxq783 => exact rfl)))); done))
  w_top off
  trivial
theorem Mine.kw_mLaw_1 : True := by
  k_with "call ref" => (k_dflt (show wpAny _ _ (call (Value.ref 323) []) _ _ _); k_dflt (refine' names_ok ?zzB ?zzF ?zzX ?zzT ?zzk ?zzp ?zzu ?zzN ?_; walk_at "mine tail"); (intro ln7 n17 n27 n37 h7 tk7 F7 N7))
  k_with "compareOp NotIn str ref" => (k_here; k_dflt (refine' notin_nms ?Nq785 ?mq785 ?eq785 ?_; (case Nq785 => k_asm); (case mq785 => k_mem); (case eq785 => with_reducible assumption)); dsimp only [Bool.not_true, Bool.not_false])
  k_with "call ref" => (k_dflt (show wpAny _ _ (call (Value.ref 362) [_]) _ _ _); k_dflt (refine' lread_err ?zzB ?zzF ?zzX ?zzT ?zzk ?zzp ?zzu ?zzN ?zzhlen ?zzhas ?zzhK ?_; walk_at "mine tail"; (case zzhlen => assumption); (case zzhas => assumption); (case zzhK => assumption)); (intro t7 h7 tk7 F7; (have N7 := news_nil F7)))
  k_with "call ref" => (k_dflt (show wpAny _ _ (call (Value.ref 362) [_]) _ _ _); k_dflt (refine' lread_good ?zzB ?zzF ?zzX ?zzT ?zzk ?zzp ?zzu ?zzN ?zzhlen ?zzhas ?zzhK ?_; walk_at "mine tail"; (case zzhlen => assumption); (case zzhas => assumption); (case zzhK => assumption)); (intro sl7 ts7 vs7 nn7 h7 tk7 D7 F7 N7))
  k_with "getAttr ref" => (k_here; k_dflt (refine' lex_get ?Fq788 ?Nq788 ?Xq788 ?Cq788 ?xq788 ?cq788 ?ddq788 ?dtq788 ?dq788 ?gaq788 ?kq788 ?nq788 ?hq788 ?lq788 ?vq788 ?_; (case cq788 => assumption); (case ddq788 => assumption); (case dtq788 => assumption); (case Fq788 => k_asm); (case Nq788 => k_asm); (case Xq788 => k_asm); (case Cq788 => k_is); (case xq788 => k_mem); (case dq788 => k_mem); (case gaq788 => k_is); (case kq788 => k_is); (case nq788 => k_is); (case hq788 => k_is); (case lq788 => k_get); (case vq788 => k_handed)))
  k_with "getMethod ref" => (k_here; k_dflt (refine' lex_method ?Fq789 ?Nq789 ?Xq789 ?xq789 ?cq789 ?ddq789 ?dtq789 ?dq789 ?gaq789 ?kq789 ?nq789 ?hq789 ?lq789 ?_; (case cq789 => assumption); (case ddq789 => assumption); (case dtq789 => assumption); (case Fq789 => k_asm); (case Nq789 => k_asm); (case Xq789 => k_asm); (case xq789 => k_mem); (case dq789 => k_mem); (case gaq789 => k_is); (case kq789 => k_is); (case nq789 => k_is); (case hq789 => k_is); (case lq789 => k_get)))
  trivial
namespace Mine
theorem cut_mark {M : Model} {A : Around} {E : Value → Shared → Prop} {s₀ : Shared} {t : Sem Flow} {σ : Type} {h₀ : Heap} {L : Addr} {s : Shared} {Led : σ → List (Addr × Obj)} {ps : σ → List (PySem.Str × Value)} {stored : List PySem.Str} {m₀ : PySem.Str → Option Value} {P : σ → Prop} {Q : Flow → Shared → Prop} (h : wpAny M A t (CutPost h₀ L s Led ps stored m₀ P Q) E s₀) : wpAny M A t (CutPost h₀ L s Led ps stored m₀ P Q) E s₀ := h
theorem wants_cases {v : Nat} (h : v < 10) : ∃ wa t, (wa = Want.kind ∨ wa = Want.num ∨ wa = Want.cond ∨ wa = Want.no) ∧ wantsL[v]? = some (.str (PySem.Str.ofString wa.txt) t) := by
  rcases v with _ | _ | _ | _ | _ | _ | _ | _ | _ | _ | v
  · exact ⟨.kind, _, .inl rfl, rfl⟩
  · exact ⟨.num, _, .inr (.inl rfl), rfl⟩
  · exact ⟨.cond, _, .inr (.inr (.inl rfl)), rfl⟩
  · exact ⟨.no, _, .inr (.inr (.inr rfl)), rfl⟩
  · exact ⟨.cond, _, .inr (.inr (.inl rfl)), rfl⟩
  · exact ⟨.no, _, .inr (.inr (.inr rfl)), rfl⟩
  · exact ⟨.no, _, .inr (.inr (.inr rfl)), rfl⟩
  · exact ⟨.no, _, .inr (.inr (.inr rfl)), rfl⟩
  · exact ⟨.no, _, .inr (.inr (.inr rfl)), rfl⟩
  · exact ⟨.no, _, .inr (.inr (.inr rfl)), rfl⟩
  · omega
theorem here1 {α : Type} {x : PySem.Str} {a b : α} : (if x = x then a else b) = a := if_pos rfl
noncomputable abbrev nOf {v k : Nat} (_ : v < k) : Nat := v
theorem draw_led {sr ce : Addr} {o2 : Obj} {own : List (Addr × Obj)} (h : OwnOff own [sr, ce]) (hc : ce ≠ sr) : ∀ p ∈ (ce, o2) :: own, p.1 ≠ sr := fun p hp => by
  rcases List.mem_cons.mp hp with rfl | hp
  · exact hc
  · exact h p hp sr (.head _)
theorem Mine.kw_Law_1 : True := by
  k_with "exec Assign" => ((with_reducible show wpAny _ _ (exec (Stmt.Assign _ (Expr.List _ _) _) _) _ _ _); k_extra "src")
  k_with "CutPost" => (dsimp only [CutPost])
  k_with "CutEnd" => k_extra "cutend"
  k_with "CutEnd cons" => k_extra "cutend"
  k_with "InvEndN" => k_extra "turnend"
  k_with "pyIter ref" => k_extra "loop"
  k_with "exec If" => ((with_reducible show wpAny _ _ (exec (Stmt.If (Expr.BoolOp _ _ _) _ _ _) _) _ _ _); k_extra "ifs1")
  k_with "exec If" => ((with_reducible show wpAny _ _ (exec (Stmt.If (Expr.Compare (Expr.Name _ _) _ _ _) _ _ _) _) _ _ _); k_extra "ifs2")
  k_with "binaryOp Add str str" => (k_dflt ((refine' add_good ?aq737 ?bq737 ?cq737 ?_; (case aq737 => first | assumption | exact good_sp | exact good_nil | exact GoodT.cutTo (by assumption) | exact GoodT.cutFrom (by assumption)); (case bq737 => first | assumption | exact good_sp | exact GoodT.cutFrom (by assumption)); (case cq737 => omega); intro _ _ _ _)))
  k_with "subscriptTail Name Name ref int" => (k_here; (with_reducible show wpAny _ _ (subscriptTail _ _ (Value.ref _) (Value.int _ _)) _ _ _); k_dflt ((refine' tab_good ?Fq738 ?Xq738 ?lq738 ?gq738 ?pq738 ?qq738 ?zq738 ?_ ?bq738; ((case Fq738 => k_asm)); ((case Xq738 => k_asm)); ((case lq738 => k_is)); ((case gq738 => with_reducible first | exact words_goodV | exact lits_goodV | exact worths_goodV | exact between_goodV | exact set_goodV)); ((case pq738 => first | omega | l_bnd)); ((case qq738 => ((simp only [List.length_cons, List.length_nil]); first | omega | l_bnd))); ((case zq738 => exact Nat.le_of_ble_eq_true rfl)); ((case bq738 => with_unfolding_all rfl)); intro _ _ _)))
  k_with "subscriptTail Name BinOp ref int" => (k_here; (with_reducible show wpAny _ _ (subscriptTail _ _ (Value.ref _) (Value.int _ _)) _ _ _); k_dflt ((refine' tab_good ?Fq739 ?Xq739 ?lq739 ?gq739 ?pq739 ?qq739 ?zq739 ?_ ?bq739; ((case Fq739 => k_asm)); ((case Xq739 => k_asm)); ((case lq739 => k_is)); ((case gq739 => with_reducible first | exact words_goodV | exact lits_goodV | exact worths_goodV | exact between_goodV | exact set_goodV)); ((case pq739 => first | omega | l_bnd)); ((case qq739 => ((simp only [List.length_cons, List.length_nil]); first | omega | l_bnd))); ((case zq739 => exact Nat.le_of_ble_eq_true rfl)); ((case bq739 => with_unfolding_all rfl)); intro _ _ _)))
  k_with "subscriptTail Name Call ref int" => (k_here; (with_reducible show wpAny _ _ (subscriptTail _ _ (Value.ref _) (Value.int _ _)) _ _ _); k_dflt ((refine' tab_good ?Fq740 ?Xq740 ?lq740 ?gq740 ?pq740 ?qq740 ?zq740 ?_ ?bq740; ((case Fq740 => k_asm)); ((case Xq740 => k_asm)); ((case lq740 => k_is)); ((case gq740 => with_reducible first | exact words_goodV | exact lits_goodV | exact worths_goodV | exact between_goodV | exact set_goodV)); ((case pq740 => first | omega | l_bnd)); ((case qq740 => ((simp only [List.length_cons, List.length_nil]); first | omega | l_bnd))); ((case zq740 => exact Nat.le_of_ble_eq_true rfl)); ((case bq740 => with_unfolding_all rfl)); intro _ _ _)))
  k_with "subscriptTail Name Name ref int" => (k_here; k_dflt (refine' topTup_fact ?Fq741 ?Xq741 ?lq741 ?xq741 ?zq741 ?_ ?sq741; (case Fq741 => k_asm); (case Xq741 => k_asm); (case lq741 => k_is); (case xq741 => assumption); (case zq741 => exact Nat.le_of_ble_eq_true rfl); (case sq741 => with_unfolding_all rfl)))
  k_with "call ref" => (k_dflt (show wpAny _ _ (call (Value.ref 336) [_, .int 3 _]) _ _ _); k_dflt (refine' draw_ok (lim := 3) ?zzB ?zzF ?zzX ?zzT ?zzk ?zzp ?zzu ?zzN ?zzU ?zzhc ?zzhi ?zzhne ?zzh60 ?zzha2 ?zzhl ?zzhl2 ?_; walk_at "mine tail"; (case zzU => k_updF); (case zzhc => k_mem); (case zzhi => assumption); (case zzhne => assumption); (case zzh60 => assumption); (case zzha2 => omega); (case zzhl => decide); (case zzhl2 => decide)); (intro v7 u7 w7 n7 h7 tk7 hv7 F7 N7))
  k_with "call ref" => (k_dflt (show wpAny _ _ (call (Value.ref 336) [_, .int 10 _]) _ _ _); k_dflt (refine' draw_ok (lim := 10) ?zzB ?zzF ?zzX ?zzT ?zzk ?zzp ?zzu ?zzN ?zzU ?zzhc ?zzhi ?zzhne ?zzh60 ?zzha2 ?zzhl ?zzhl2 ?_; walk_at "mine tail"; (case zzU => k_updF); (case zzhc => k_mem); (case zzhi => assumption); (case zzhne => assumption); (case zzh60 => assumption); (case zzha2 => omega); (case zzhl => decide); (case zzhl2 => decide)); (intro v7 u7 w7 n7 h7 tk7 hv7 F7 N7))
  k_with "call ref" => (k_dflt (show wpAny _ _ (call (Value.ref 336) [_, .int 21 _]) _ _ _); k_dflt (refine' draw_ok (lim := 21) ?zzB ?zzF ?zzX ?zzT ?zzk ?zzp ?zzu ?zzN ?zzU ?zzhc ?zzhi ?zzhne ?zzh60 ?zzha2 ?zzhl ?zzhl2 ?_; walk_at "mine tail"; (case zzU => k_updF); (case zzhc => k_mem); (case zzhi => assumption); (case zzhne => assumption); (case zzh60 => assumption); (case zzha2 => omega); (case zzhl => decide); (case zzhl2 => decide)); (intro v7 u7 w7 n7 h7 tk7 hv7 F7 N7))
  k_with "call ref" => (k_dflt (show wpAny _ _ (call (Value.ref 336) [_, .int 6 _]) _ _ _); k_dflt (refine' draw_ok (lim := 6) ?zzB ?zzF ?zzX ?zzT ?zzk ?zzp ?zzu ?zzN ?zzU ?zzhc ?zzhi ?zzhne ?zzh60 ?zzha2 ?zzhl ?zzhl2 ?_; walk_at "mine tail"; (case zzU => k_updF); (case zzhc => k_mem); (case zzhi => assumption); (case zzhne => assumption); (case zzh60 => assumption); (case zzha2 => omega); (case zzhl => decide); (case zzhl2 => decide)); (intro v7 u7 w7 n7 h7 tk7 hv7 F7 N7))
  k_with "call ref" => (k_dflt (show wpAny _ _ (call (Value.ref 336) [_, .int 40 _]) _ _ _); k_dflt (refine' draw_ok (lim := 40) ?zzB ?zzF ?zzX ?zzT ?zzk ?zzp ?zzu ?zzN ?zzU ?zzhc ?zzhi ?zzhne ?zzh60 ?zzha2 ?zzhl ?zzhl2 ?_; walk_at "mine tail"; (case zzU => k_updF); (case zzhc => k_mem); (case zzhi => assumption); (case zzhne => assumption); (case zzh60 => assumption); (case zzha2 => omega); (case zzhl => decide); (case zzhl2 => decide)); (intro v7 u7 w7 n7 h7 tk7 hv7 F7 N7))
  k_with "call ref" => (k_dflt (show wpAny _ _ (call (Value.ref 336) [_, .int 7 _]) _ _ _); k_dflt (refine' draw_ok (lim := 7) ?zzB ?zzF ?zzX ?zzT ?zzk ?zzp ?zzu ?zzN ?zzU ?zzhc ?zzhi ?zzhne ?zzh60 ?zzha2 ?zzhl ?zzhl2 ?_; walk_at "mine tail"; (case zzU => k_updF); (case zzhc => k_mem); (case zzhi => assumption); (case zzhne => assumption); (case zzh60 => assumption); (case zzha2 => omega); (case zzhl => decide); (case zzhl2 => decide)); (intro v7 u7 w7 n7 h7 tk7 hv7 F7 N7))
  k_with "mine mem" => (repeat (first | exact List.Mem.head _ | (refine List.mem_cons_of_mem _ ?_) | (refine List.mem_append_right _ ?_)))
  k_with "mine srm" => (intro p hp; (repeat (first | exact List.mem_append_left _ hp | (refine List.mem_cons_of_mem _ ?_) | (refine List.mem_append_right _ ?_))))
  k_with "call ref" => ((with_reducible show wpAny _ _ (call _ _) _ _ _); k_dflt (show wpAny _ _ (call (Value.ref 79) [_]) _ _ _); walk_at "mine inline")
  k_with "call ref" => ((with_reducible show wpAny _ _ (call _ _) _ _ _); k_dflt (show wpAny _ _ (call (Value.ref 43) [_]) _ _ _); walk_at "mine inline")
  k_with "compareOp NotEq ref ref" => ((k_dflt ((refine' kqd_ne ?Nq752 ?aq752 ?bq752 ?cq752 ?dq752 ?eq752 ?fq752 ?gq752 ?iq752 ?jq752 ?kq752 ?lq752 ?mq752 ?nq752 ?_; ((case Nq752 => k_asm)); ((case aq752 => first | k_mem | walk_at "mine mem")); (case bq752 => rfl); (case cq752 => rfl); ((case dq752 => with_reducible assumption)); ((case eq752 => walk_at "mine srm")); ((case fq752 => first | k_mem | walk_at "mine mem")); (case gq752 => rfl); (case iq752 => rfl); ((case jq752 => with_reducible assumption)); ((case kq752 => walk_at "mine srm")); ((case lq752 => with_reducible assumption)); ((case mq752 => with_reducible assumption)); ((case nq752 => ke_room))))); (simp only [eq_self, decide_true, Bool.not_true]))
  k_with "compareOp Eq ref ref" => ((k_dflt ((refine' kqd_eq ?Nq753 ?aq753 ?bq753 ?cq753 ?dq753 ?eq753 ?fq753 ?gq753 ?iq753 ?jq753 ?kq753 ?lq753 ?mq753 ?nq753 ?_; ((case Nq753 => k_asm)); ((case aq753 => first | k_mem | walk_at "mine mem")); (case bq753 => rfl); (case cq753 => rfl); ((case dq753 => with_reducible assumption)); ((case eq753 => walk_at "mine srm")); ((case fq753 => first | k_mem | walk_at "mine mem")); (case gq753 => rfl); (case iq753 => rfl); ((case jq753 => with_reducible assumption)); ((case kq753 => walk_at "mine srm")); ((case lq753 => with_reducible assumption)); ((case mq753 => with_reducible assumption)); ((case nq753 => ke_room))))); (simp only [eq_self, decide_true, Bool.not_true]))
  k_with "call ref" => (k_dflt (show wpAny _ _ (call (Value.ref 311) [_, _]) _ _ _); k_dflt (refine' read_err ?zzB ?zzF ?zzX ?zzT ?zzk ?zzp ?zzu ?zzN ?zzhlen ?zzhl ?zzhnl ?zzhas ?zzhK ?_; walk_at "mine tail"; (case zzhlen => assumption); (case zzhl => k_mem); (case zzhnl => assumption); (case zzhas => assumption); (case zzhK => assumption)); intro e7 g7 h7 tk7 FG7 U7 R7)
  k_with "call ref" => (k_dflt (show wpAny _ _ (call (Value.ref 311) [_, _]) _ _ _); k_dflt (refine' read_good ?zzB ?zzF ?zzX ?zzT ?zzk ?zzp ?zzu ?zzN ?zzhlen ?zzhl ?zzhnl ?zzhas ?zzhK ?_; walk_at "mine tail"; (case zzhlen => assumption); (case zzhl => k_mem); (case zzhnl => assumption); (case zzhas => assumption); (case zzhK => assumption)); (intro ls7 nn7 rs7 h7 tk7 hst7 his7 hle7 F7 N7; (obtain ⟨hok7, hrl7, hsz7, hdt7, hsh7⟩ := rs_facts hst7 (by assumption) (by assumption))))
  k_with "call ref" => (k_dflt (show wpAny _ _ (call (Value.ref 316) [_]) _ _ _); k_dflt (refine' shows2 ?zzB ?zzF ?zzX ?zzT ?zzk ?zzp ?zzu ?zzN ?zzhl ?zzhs ?zzhw ?zzhok ?zzhlen ?zzhz ?_; walk_at "mine tail"; (case zzhl => walk_at "mine mem"); (case zzhs => walk_at "mine srm"); (case zzhw => assumption); (case zzhok => assumption); (case zzhlen => assumption); (case zzhz => assumption)); (intro t7 h7 tk7 F7 N7))
  k_with "call ref" => (k_dflt (show wpAny _ _ (call (Value.ref 269) [_]) _ _ _); k_dflt (refine' told_ok ?zzB ?zzF ?zzX ?zzT ?zzk ?zzp ?zzu ?zzN ?zzhw ?zzh1 ?zzh2 ?_; walk_at "mine tail"; (case zzhw => assumption); (case zzh1 => k_mem); (case zzh2 => k_mem)); (intro t7 h7 tk7 F7 N7 l7))
  k_with "noteFrame ref" => ((k_dflt ((refine' lex_caught ?Kq758 ?Fq758 ?sq758 ?Rq758 ?Xq758 ?Tq758 ?exq758 ?hCq758 ?_; (case Kq758 => k_asm); (case sq758 => assumption); (case Rq758 => assumption); (case Fq758 => assumption); (case Xq758 => k_asm); (case Tq758 => first | k_asm | assumption); (case exq758 => k_is); (case hCq758 => k_is)))); (intro h7 news7 tk7 F7 N7 C7); (have C8 := C7); (obtain ⟨oe, dx, x, pdx, k1, k2, u1, u2, wh, u, h1, h2, h3, t1, t2, t3, t4, t5, t6, vs, hN8, hc1, hc2, hc3, hc4⟩ := C8); (subst hN8))
  k_with "getMethod ref" => (k_here; k_dflt (refine' lex_method ?Fq759 ?Nq759 ?Xq759 ?xq759 ?cq759 ?ddq759 ?dtq759 ?dq759 ?gaq759 ?kq759 ?nq759 ?hq759 ?lq759 ?_; ((case cq759 => assumption)); ((case ddq759 => assumption)); ((case dtq759 => assumption)); ((case Fq759 => k_asm)); ((case Nq759 => k_asm)); ((case Xq759 => k_asm)); ((case xq759 => k_mem)); ((case dq759 => k_mem)); ((case gaq759 => k_is)); ((case kq759 => k_is)); ((case nq759 => k_is)); ((case hq759 => k_is)); ((case lq759 => k_get))))
  k_with "assign Tuple" => (k_here; (with_reducible show wpAny _ _ (assign (Expr.Tuple _ _ _) _ (Value.ref _)) _ _ _); k_dflt ((refine' unpack_K ?Fq760 ?Nq760 ?hhq760 ?heq760 ?hdeq760 ?h2q760 ?htq760 ?hnq760 ?hsq760 ?_; ((case Fq760 => k_asm)); ((case Nq760 => k_asm)); ((case hhq760 => exact rfl)); ((case heq760 => k_mem)); ((case hdeq760 => assumption)); ((case h2q760 => assumption)); ((case htq760 => k_mem)); ((case hnq760 => exact rfl)); ((case hsq760 => exact rfl)))); intro h' F' N'; (try k_sweep))
  k_with "eval ListComp" => (k_here; k_dflt (refine LCg.ListComp_U (F₀ := by k_asm) (by rfl) (by decide) (by rfl) (by decide) (by rfl) ?_))
  k_with "CompSrc Name ref" => k_extra "csrc"
  k_with "CompSrc" => k_extra "csrc"
  k_with "CompEnd ref" => k_extra "cend"
  k_with "GoodW" => (k_dflt (refine' law_end ?eaq765 ?ebq765 ?ecq765 ?edq765; (case ebq765 => assumption); (case ecq765 => assumption); (case edq765 => rfl); (case eaq765 => first | exact beq_self_eq_true _ | (rw [beq_iff_eq]; omega))))
  trivial
theorem law_rd : callerA.depth + 1 + 60 < recursionLimit := by decide +kernel
theorem law_ru : callerA.units + 3 + 600 < cLine := by decide +kernel
theorem law_rm {a b N M : Nat} (h : a + N < M) (l : Nat.ble b N = true) : a + b < M := Nat.lt_of_le_of_lt (Nat.add_le_add_left (Nat.le_of_ble_eq_true l) a) h
theorem Mine.kw_Law_2 : True := by
  k_with "mine room" => first | exact law_rm law_rd rfl | exact law_rm law_ru rfl
  trivial
set_option maxHeartbeats 16000000 in
theorem the_law : PySem.Challenge.rw_nn0359_01.Holds := hd.run (by
  (k_with "src" => (k_dflt ((
    (fail_if_success (with_reducible refine cut_mark ?_))
    refine cut_exec (σ := Addr × Addr × List Value × List Int × Nat × Nat × Tok) (fun q => [(q.1, W.listOf #[.ref q.2.1, .int ((0 : Nat) : Int) q.2.2.2.2.2.2] q.2.2.2.2.1), (q.2.1, W.listOf q.2.2.1.toArray q.2.2.2.2.2.1)]) (fun q => [(PySem.Str.ofString "source", .ref q.1)]) [] (fun q => IntsAre q.2.2.1 q.2.2.2.1 ∧ 0 < q.2.2.2.1.length ∧ q.2.2.2.1.length ≤ 60 ∧ q.2.1 ≠ q.1) (by k_asm) ?_ ?_
    rotate_left
    refine unt7 fun sr ce vs ns n1 n2 u1 u8 h8 tk8 hp8 F8 N8 => ?_
    refine (?_ : let gk := _; gk)
    intro gk
    obtain ⟨hi9, hn9, hn60, hce9⟩ := hp8
    dsimp only at hi9 hn9 hn60 hce9 N8
    refine frk F8 ?_
    clear F8
    intro mk F8
    refine (?_ : gk)
    k_unfold
    (try dsimp only)
    (try k_fold)))))
  (k_with "ifs2" => (k_dflt ((
    (fail_if_success (with_reducible refine cut_mark ?_))
    refine cut_exec (σ := PySem.Str × Tok) (fun _ => []) (fun q => [(PySem.Str.ofString "text", .str q.1 q.2)]) [] (fun q => GoodT q.1 160) (by k_asm) ?_ ?_
    rotate_left
    refine unt2 fun TX uT u8 h8 tk8 hgT F8 N8 => ?_
    refine (?_ : let gk := _; gk)
    intro gk
    dsimp only at hgT N8
    refine frk F8 ?_
    clear F8
    intro mk F8
    have hlT : TX.length ≤ 200 := Nat.le_trans hgT.len (by decide)
    have hlT2 : TX.length ≤ 100000 := Nat.le_trans hgT.len (by decide)
    have hasT := hgT.asc
    have hasT2 : ∀ x ∈ tl TX, x < 512 := fun x hx => Nat.lt_trans (hasT x hx) (by decide)
    have hnlT := hgT.nl
    clear hgT
    rcases hS : stepsR (tl TX) 0 with j | l
    rotate_left
    have hl9 := steps_len hasT2 hS
    have hl200 : l.length ≤ 200 := Nat.le_trans hl9 (by rw [← len_tl]; exact hlT)
    obtain ⟨hok, hS2, hlo2, hnl2, hlen2⟩ := back_all hasT2 (by rw [← len_tl]; exact hlT) hS hl200
    have hkq := dats_ok hok
    rw [← tl_tx (showL l)] at hS2 hlo2 hnl2
    rw [← tx_len] at hlen2
    clear hl9
    rotate_left
    all_goals (try (refine (?_ : gk); k_unfold))
    all_goals (try dsimp only)
    all_goals (try k_fold)))))
  (k_with "csrc" => (k_dflt ((
    rename News _ _ _ _ => n8
    rename List SR => rs
    ((refine LCg.CompSrc.ledger (by rfl) (by k_asm) (by k_asm) (by k_mem) (by assumption) ?_))
    intro g'
    ((refine comp_any (xs := rs.reverse) (fun r => Value.ref r.x) (fun done ys nw => ∃ tn, nw = tn ++ nwOf n8 ∧ DatAll tn ys (done.map fun r => datSt r.st)) (by simp) (fun i v _ hv => refs_at hv) (fun r done ys nw I' oI' C' oC' D' m' h' tk' E' hr' hk' hC' hx' F' N' off' ne' => ?_) (fun ys nw hk => ?_) ⟨[], rfl, .nil⟩))
    obtain ⟨tn, hnw, hk'⟩ := hk'
    subst hnw
    have hrm := List.mem_reverse.mp hr'
    ((have hwr : r.wt.is r.wv := (by assumption : ∀ r ∈ rs, r.wt.is r.wv) r hrm))
    obtain ⟨hr1, hr2⟩ := sr_mem hrm
    ((have N9 := nm_news N' (.tail _ (.tail _ (.tail _ (List.mem_append_right _ (.tail _ (List.mem_append_left _ hr1)))))) (nm_news N' (.tail _ (.tail _ (.tail _ (List.mem_append_right _ (.tail _ (List.mem_append_left _ hr2)))))) N')))
    clear N'
    rotate_left
    obtain ⟨tn, hnw, hk8⟩ := hk
    subst hnw
    ((rw [(by assumption : rs.reverse.map (fun r => datSt r.st) = l.map datSt)] at hk8))
    rotate_left
    (all_goals (try k_fold))))))
  (k_with "cend" => (k_dflt ((refine' told_end ?e0 ?e1 ?e2 ?e3 ?e4 ?e5 ?e6 ?e7; ((case e1 => assumption)); ((case e2 => assumption)); ((case e6 => exact hk')); ((case e7 => exact hwr)); ((case e3 => assumption)); ((case e4 => assumption)); ((case e5 => k_mem)); ((case e0 => (rw [List.map_append]; rfl)))))))
  (k_with "cutend" => (k_dflt ((
    refine' cut_end (x9, tx9) ?c1 ?c2 ?c3 ?c4 ?c5 ?c6
    (case c1 => assumption)
    (case c2 => assumption)
    (case c3 => exact List.forall_mem_nil _)
    (case c4 => kst_all)
    (case c5 => ksw_same)
    (case c6 => exact GoodT.mono (by assumption) (by decide))))))
  (k_with "cutend" => (k_dflt ((
    refine' cut_end (_, _) ?c1 ?c2 ?c3 ?c4 ?c5 ?c6
    (case c1 => assumption)
    (case c2 => assumption)
    (case c3 => exact List.forall_mem_nil _)
    (case c4 => ((refine List.forall_mem_cons.mpr ⟨?_, List.forall_mem_nil _⟩); (try dsimp only); (exact here1)))
    (case c5 => (intro z h2 h3; exact if_neg (h2 _ (List.Mem.head _))))
    (case c6 => exact GoodT.mono (by assumption) (by decide))))))
  (k_with "cutend" => (k_dflt ((
    refine' cut_end (_, _, _, _, _, _, _) ?c1 ?c2 ?c3 ?c4 ?c5 ?c6
    (case c1 => assumption)
    (case c2 => assumption)
    (case c3 => exact List.forall_mem_cons.mpr ⟨by k_mem, List.forall_mem_cons.mpr ⟨by k_mem, List.forall_mem_nil _⟩⟩)
    (case c4 => kst_all)
    (case c5 => ksw_same)
    (case c6 => exact ⟨by first | assumption | exact .cons _ _ .nil, by first | assumption | exact Nat.le_of_ble_eq_true rfl, by first | exact Nat.le_of_ble_eq_true rfl | (rw [List.length_map]; omega), by first | exact Nat.ne_of_lt (And.left (by assumption)) | assumption⟩)))))
  (k_with "loop" => (k_dflt ((
    rename IsRange _ _ _ _ _ _ _ _ => rgX
    (rename @LT.lt Nat _ _ 3 => hv3)
    with_unfolding_all refine' kst_range (n := 1 + nOf hv3) (σ := PySem.Str × Tok × Nat × Nat × Tok) (fun q => [(sr, W.listOf #[.ref ce, .int (q.2.2.1 : Int) q.2.2.2.2] q.2.2.2.1), (ce, W.listOf vs.toArray n2)]) (fun q => [(PySem.Str.ofString "text", .str q.1 q.2.1)]) (fun _ => True) [PySem.Str.ofString "which", PySem.Str.ofString "worth", PySem.Str.ofString "literal"] (fun pre q => GoodT q.1 (25 * pre.length) ∧ q.2.2.1 ≤ 1 + 5 * pre.length) (PySem.Str.ofString "", _, 1, _, _) ?k1 ?k2 ?k3 ?k4 ?k5 ?k6 trivial ?k7 ?k8 ?_ ?_
    (case k1 => rfl)
    (case k2 => exact rgX)
    (case k3 => exact small_one (by omega) (by omega) (by omega) (by omega))
    (case k4 => rw [rangeSize_nat]; unfold nOf; omega)
    (case k5 => assumption)
    (case k6 => with_unfolding_all assumption)
    (case k7 => (((refine List.forall_mem_cons.mpr ⟨?_, List.forall_mem_nil _⟩)); ((try dsimp only)); ((exact here1))))
    (case k8 => exact ⟨good_nil, Nat.le_refl _⟩)

    rotate_left

    (refine unt5 fun x9 tx9 at9 n9 w9 u9 h9 tk9 _ hp9 F9 N9 => ?_)
    refine (?_ : let gk := _; gk)
    intro gk
    (have hg9 := hp9.1; have ha9 := hp9.2; clear hp9)
    (rw [rangeKs_length] at hg9 ha9)
    (dsimp only at hg9 ha9 N9)
    (refine frk F9 ?_; clear F9; intro mk F9)
    refine (?_ : gk)
    k_unfold
    rotate_left

    (refine unt5 fun x9 tx9 at9 n9 w9 pre k t u9 h9 tk9 own hk9 hpl hoff _ hp9 F9 N9 => ?_)
    refine (?_ : let gk := _; gk)
    intro gk
    (have hg9 := hp9.1; have ha9 := hp9.2; clear hp9)
    (dsimp only at hg9 ha9 N9)
    (have hoff2 : ∀ p ∈ (ce, W.listOf vs.toArray n2) :: own, p.1 ≠ sr := draw_led hoff hce9)
    (refine frk F9 ?_; clear F9; intro mk F9)
    (have hpl2 : pre.length ≤ 2 := by have h := hv3; unfold nOf at hpl; omega)
    (simp only [List.cons_append, List.nil_append] at N9)
    clear hoff hpl
    refine (?_ : gk)
    k_unfold
    (try dsimp only)
    (try k_fold)
    rotate_left
    (have hg8 : GoodT x9 75 := hg9.mono (by have h := hv3; unfold nOf; omega))
    have hl8 : x9.length ≤ 100000 := Nat.le_trans hg8.len (by decide)
    (have ha8 : at9 ≤ 16 := by have h := hv3; unfold nOf at ha9; omega)
    clear hg9 ha9
    (try dsimp only)
    (try k_fold)
    rotate_left))))
  (k_with "ifs1" => (k_dflt ((
    (fail_if_success (have := hW9))
    (rename @LT.lt Nat _ _ 10 => hwA)
    revert hwA
    (rename @LT.lt Nat _ _ 10 => hwB)
    intro hwA
    obtain ⟨wa, tw, hwa, hW9⟩ := wants_cases hwB
    rcases hwa with rfl | rfl | rfl | rfl
    all_goals dsimp only [Want.txt] at hW9))))
  (k_with "turnend" => (k_dflt ((
    refine' kst_end (_, _, _, _, _) ?c1 ?c2 ?c3 ?c4 ?c5 trivial ?c6 ?c7 ?c8
    (case c1 => assumption)
    (case c2 => assumption)
    ((case c3 => exact List.forall_mem_cons.mpr ⟨by k_mem, List.forall_mem_cons.mpr ⟨by k_mem, List.forall_mem_nil _⟩⟩))
    ((case c4 => exact fun p hp => .tail _ (.tail _ hp)))
    ((case c5 => rfl))
    ((case c6 => ((refine List.forall_mem_cons.mpr ⟨?_, List.forall_mem_nil _⟩); (try dsimp only); (exact here1))))
    ((case c7 => ((intro z h1 h2 h3); (have h4 := h2 _ (List.Mem.head _)); (dsimp only at h4); (have h5 := h3); (simp only [List.contains_cons, List.contains_nil, Bool.or_false, Bool.or_eq_false_iff, beq_eq_false_iff_ne, ne_eq] at h5); (obtain ⟨h6, h7, h8⟩ := h5); (try dsimp +zetaDelta only [kstB]); (simp only [if_neg h1, if_neg h4, if_neg h6, if_neg h7, if_neg h8, h3, Bool.false_eq_true, if_false]))))
    ((case c8 => (refine ⟨GoodT.mono (by assumption) ?_, ?_⟩; (simp only [List.length_append, List.length_cons, List.length_nil]; omega); (simp only [List.length_append, List.length_cons, List.length_nil]; omega))))))))
  k_go0
  have hA9 := law_rd
  have hB9 := law_ru
  (refine (?_ : let nk := _; let ak := _; let qk := _; let ek := _; let sk := _; wpAny _ ak (execs _ nk) qk ek sk))
  intro nk ak qk ek sk
  walk_at "mine steps")
end Mine
end
theorem PySem.Challenge.cw_nn0359_01_holds : PySem.Challenge.rw_nn0359_01.Holds :=
  Mine.the_law
