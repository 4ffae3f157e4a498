import PyProof.Rows.All
import Wide.All
import OpenK.AllK
import Wide.FinOn
import PySem.Challenge.RW_xm0953_01
open PySem PySem.W PyProof.Rows
set_option Elab.async false
set_option maxRecDepth 100000
set_option maxHeartbeats 8000000
namespace Mine
/-! the head, once: the run of the top -/
section
local macro_rules | `(tactic| refine $f:ident $args*) => do
    unless f.getId.eraseMacroScopes == `PySem.W.holds_open do Lean.Macro.throwUnsupported
    let mut as : Lean.TSyntaxArray `term := #[]
    let mut k : Nat := 0
    for a in args do
      if a.raw.isOfKind `Lean.Parser.Term.syntheticHole then
        if k == 0 then as := as.push (← `(And.left x)) else if k == 1 then as := as.push ⟨a.raw⟩ else as := as.push (← `(And.right x))
        k := k + 1
      else as := as.push (⟨a.raw⟩ : Lean.TSyntax `term)
    `(tactic| refine (fun (x : And _ _) => $f $as*) ?hc)
open_top hk for PySem.Challenge.rw_xm0953_01
end
def walkT : Prop := (fun {A B H : Prop} (_ : A ∧ B → H) => B) hk
section
local macro_rules | `(tactic| refine $f:ident $args*) => do
    unless f.getId.eraseMacroScopes == `PySem.W.holds_open do Lean.Macro.throwUnsupported
    let mut as : Lean.TSyntaxArray `term := #[]
    let mut k : Nat := 0
    for a in args do
      if a.raw.isOfKind `Lean.Parser.Term.syntheticHole then
        k := k + 1
        if k == 3 then as := as.push (Lean.mkIdent `walk) else as := as.push ⟨a.raw⟩
      else as := as.push (⟨a.raw⟩ : Lean.TSyntax `term)
    `(tactic| refine (($f $as*) : OpenRow.Holds _))
theorem toWalk {A B H W : Prop} (_ : A ∧ B → H) (e : B → W) (b : B) : W := e b
/-! names taken ahead, so that no twin of the head's own constants is laid (each would weigh much) -/
theorem hd.tw10024716035694756283 : True := trivial
theorem hd.tw10030107230732127627 : True := trivial
theorem hd.tw10052582895069201126 : True := trivial
theorem hd.tw10111801491309104144 : True := trivial
theorem hd.tw1011335219593555734 : True := trivial
theorem hd.tw1013155817946168525 : True := trivial
theorem hd.tw10170382586518783626 : True := trivial
theorem hd.tw10216474801634566288 : True := trivial
theorem hd.tw10246146449241189800 : True := trivial
theorem hd.tw10403243965636340961 : True := trivial
theorem hd.tw10424393626065333798 : True := trivial
theorem hd.tw10458740792067480800 : True := trivial
theorem hd.tw10525666975642140466 : True := trivial
theorem hd.tw10583446816852156582 : True := trivial
theorem hd.tw10603584201595350602 : True := trivial
theorem hd.tw10614716105012338702 : True := trivial
theorem hd.tw10678649693572172417 : True := trivial
theorem hd.tw10743916045514856203 : True := trivial
theorem hd.tw10752148897807903841 : True := trivial
theorem hd.tw10784824025267889561 : True := trivial
theorem hd.tw10792051664901133789 : True := trivial
theorem hd.tw10879034167726328663 : True := trivial
theorem hd.tw10949625832625181284 : True := trivial
theorem hd.tw10957212852122400357 : True := trivial
theorem hd.tw1097998534492414930 : True := trivial
theorem hd.tw11054480109507316185 : True := trivial
theorem hd.tw11117797201346649052 : True := trivial
theorem hd.tw11128854368766332075 : True := trivial
theorem hd.tw11151547217846952531 : True := trivial
theorem hd.tw11162318198679636149 : True := trivial
theorem hd.tw11210553801493137410 : True := trivial
theorem hd.tw11213053971927718326 : True := trivial
theorem hd.tw11232374478483605306 : True := trivial
theorem hd.tw11251137523995926341 : True := trivial
theorem hd.tw1129884963351977449 : True := trivial
theorem hd.tw11319097763535126812 : True := trivial
theorem hd.tw11389486352061984695 : True := trivial
theorem hd.tw11402939732021071671 : True := trivial
theorem hd.tw11465210709893060100 : True := trivial
theorem hd.tw11513968764499736323 : True := trivial
theorem hd.tw11631947586910100387 : True := trivial
theorem hd.tw11652457597714270106 : True := trivial
theorem hd.tw11660266114150955751 : True := trivial
theorem hd.tw11893437276241958245 : True := trivial
theorem hd.tw11917015161858427179 : True := trivial
theorem hd.tw11953376511379268794 : True := trivial
theorem hd.tw12023040214023829324 : True := trivial
theorem hd.tw12070051907170230399 : True := trivial
theorem hd.tw12092154237167983948 : True := trivial
theorem hd.tw12112201142124510154 : True := trivial
theorem hd.tw12113243949977362033 : True := trivial
theorem hd.tw1222794163293265305 : True := trivial
theorem hd.tw12271959270614036898 : True := trivial
theorem hd.tw12399718760709695909 : True := trivial
theorem hd.tw1241404454085649124 : True := trivial
theorem hd.tw12588582704262371052 : True := trivial
theorem hd.tw12629568148972539762 : True := trivial
theorem hd.tw12631932088317031055 : True := trivial
theorem hd.tw12901994302517312135 : True := trivial
theorem hd.tw13181700845877081190 : True := trivial
theorem hd.tw13217225542625558698 : True := trivial
theorem hd.tw13225837485096350037 : True := trivial
theorem hd.tw13267510147771200024 : True := trivial
theorem hd.tw13277076834127875243 : True := trivial
theorem hd.tw13330244855972007585 : True := trivial
theorem hd.tw13368278939475635651 : True := trivial
theorem hd.tw13409441903868389331 : True := trivial
theorem hd.tw13431754692932380062 : True := trivial
theorem hd.tw13483081372092288885 : True := trivial
theorem hd.tw13609717118414637909 : True := trivial
theorem hd.tw1361877798171713420 : True := trivial
theorem hd.tw13723031510162244379 : True := trivial
theorem hd.tw13783031573616600631 : True := trivial
theorem hd.tw13828106393651249627 : True := trivial
theorem hd.tw1382963296337349011 : True := trivial
theorem hd.tw13903934854276604550 : True := trivial
theorem hd.tw13919464512627920130 : True := trivial
theorem hd.tw13933652083044930433 : True := trivial
theorem hd.tw1409312971732116557 : True := trivial
theorem hd.tw14103535550066685397 : True := trivial
theorem hd.tw14168552714766633299 : True := trivial
theorem hd.tw14176624398918483544 : True := trivial
theorem hd.tw14271239626962372787 : True := trivial
theorem hd.tw14294001040229213422 : True := trivial
theorem hd.tw14353793391729792155 : True := trivial
theorem hd.tw1439246655266547700 : True := trivial
theorem hd.tw14400467628812073631 : True := trivial
theorem hd.tw14457593812595234344 : True := trivial
theorem hd.tw14478148883734587675 : True := trivial
theorem hd.tw1452849714261714991 : True := trivial
theorem hd.tw14553816603554493358 : True := trivial
theorem hd.tw14560493823538711346 : True := trivial
theorem hd.tw14620637471214046174 : True := trivial
theorem hd.tw14705683404202351889 : True := trivial
theorem hd.tw14892549342360969540 : True := trivial
theorem hd.tw14896477498954680388 : True := trivial
theorem hd.tw14955159897011116063 : True := trivial
theorem hd.tw14960593345356199642 : True := trivial
theorem hd.tw15030894091695109418 : True := trivial
theorem hd.tw15042006015671813226 : True := trivial
theorem hd.tw15043168886218598503 : True := trivial
theorem hd.tw1506431575118746342 : True := trivial
theorem hd.tw15089522573102190283 : True := trivial
theorem hd.tw15103106377680225435 : True := trivial
theorem hd.tw15153279154761372571 : True := trivial
theorem hd.tw15166520500009309586 : True := trivial
theorem hd.tw15344866539931968096 : True := trivial
theorem hd.tw15367242080415987702 : True := trivial
theorem hd.tw15368132723985388332 : True := trivial
theorem hd.tw15508949281206285077 : True := trivial
theorem hd.tw15527848837575444561 : True := trivial
theorem hd.tw15529170255622000948 : True := trivial
theorem hd.tw15595854959937240912 : True := trivial
theorem hd.tw15615420239508185596 : True := trivial
theorem hd.tw15616948245753086127 : True := trivial
theorem hd.tw15673258824015622330 : True := trivial
theorem hd.tw15683763237869141255 : True := trivial
theorem hd.tw15759970867653108152 : True := trivial
theorem hd.tw15790720579355451973 : True := trivial
theorem hd.tw1580110805410547442 : True := trivial
theorem hd.tw15837987909243819085 : True := trivial
theorem hd.tw1589133516308662214 : True := trivial
theorem hd.tw15990741470632014444 : True := trivial
theorem hd.tw1600037746751723098 : True := trivial
theorem hd.tw16011055738799735888 : True := trivial
theorem hd.tw16037735763661986305 : True := trivial
theorem hd.tw16056359734778111409 : True := trivial
theorem hd.tw16064382804478563927 : True := trivial
theorem hd.tw16091413853298234908 : True := trivial
theorem hd.tw16154546982801380032 : True := trivial
theorem hd.tw16171809288044610508 : True := trivial
theorem hd.tw16194383521188589630 : True := trivial
theorem hd.tw16211521421427940678 : True := trivial
theorem hd.tw16259696140248634718 : True := trivial
theorem hd.tw16299908979028503884 : True := trivial
theorem hd.tw16339271979029011412 : True := trivial
theorem hd.tw16412773359747925120 : True := trivial
theorem hd.tw16432713993328977331 : True := trivial
theorem hd.tw16473244170626142550 : True := trivial
theorem hd.tw16477043939570097188 : True := trivial
theorem hd.tw16634568088961857937 : True := trivial
theorem hd.tw16640546478005224243 : True := trivial
theorem hd.tw16649331688326792143 : True := trivial
theorem hd.tw16722109127936396110 : True := trivial
theorem hd.tw16772102934027710169 : True := trivial
theorem hd.tw16794629799341752650 : True := trivial
theorem hd.tw16853341256802265648 : True := trivial
theorem hd.tw16894668238130281675 : True := trivial
theorem hd.tw16904818350239718627 : True := trivial
theorem hd.tw16920754564084929960 : True := trivial
theorem hd.tw16945582573551092051 : True := trivial
theorem hd.tw16970440968685349367 : True := trivial
theorem hd.tw17047115858639842297 : True := trivial
theorem hd.tw17062030032774818151 : True := trivial
theorem hd.tw17087091549796120035 : True := trivial
theorem hd.tw17183224562656869120 : True := trivial
theorem hd.tw17252143746492648416 : True := trivial
theorem hd.tw17330945745186091897 : True := trivial
theorem hd.tw17387473266821786944 : True := trivial
theorem hd.tw17420951861521290806 : True := trivial
theorem hd.tw17447410573909459338 : True := trivial
theorem hd.tw17574625026820762457 : True := trivial
theorem hd.tw17588044629489971554 : True := trivial
theorem hd.tw17599816209265215132 : True := trivial
theorem hd.tw1760603350576429475 : True := trivial
theorem hd.tw17606422857730326317 : True := trivial
theorem hd.tw17650839729002327288 : True := trivial
theorem hd.tw17672654358674132775 : True := trivial
theorem hd.tw17673860158736603733 : True := trivial
theorem hd.tw17681399029576232318 : True := trivial
theorem hd.tw17711083657039698284 : True := trivial
theorem hd.tw17714235663813219645 : True := trivial
theorem hd.tw17893044597097874663 : True := trivial
theorem hd.tw17901334829092211166 : True := trivial
theorem hd.tw17903497710992402801 : True := trivial
theorem hd.tw17948085552500728524 : True := trivial
theorem hd.tw17950676927832955104 : True := trivial
theorem hd.tw17975533764899295144 : True := trivial
theorem hd.tw1800889605409440832 : True := trivial
theorem hd.tw18093812233618175256 : True := trivial
theorem hd.tw18103342009636024947 : True := trivial
theorem hd.tw18185175575083235020 : True := trivial
theorem hd.tw18219297243305740317 : True := trivial
theorem hd.tw18241275227582772068 : True := trivial
theorem hd.tw18245042118932799458 : True := trivial
theorem hd.tw18264374347568628810 : True := trivial
theorem hd.tw18293732401869909652 : True := trivial
theorem hd.tw18300207936620678264 : True := trivial
theorem hd.tw18322514126500204803 : True := trivial
theorem hd.tw18343703819029505601 : True := trivial
theorem hd.tw1836080755315867724 : True := trivial
theorem hd.tw1847840615245081061 : True := trivial
theorem hd.tw1865391376527767206 : True := trivial
theorem hd.tw1882180444382439491 : True := trivial
theorem hd.tw189712035060473897 : True := trivial
theorem hd.tw1997569388931296116 : True := trivial
theorem hd.tw2068664650715991707 : True := trivial
theorem hd.tw2101469004524951375 : True := trivial
theorem hd.tw2114630138375439770 : True := trivial
theorem hd.tw212345690472687942 : True := trivial
theorem hd.tw2167537188350426706 : True := trivial
theorem hd.tw2195365466389143174 : True := trivial
theorem hd.tw2216850387143573719 : True := trivial
theorem hd.tw22551697357593593 : True := trivial
theorem hd.tw2274498078352570744 : True := trivial
theorem hd.tw2323474266016966308 : True := trivial
theorem hd.tw2327210489368252092 : True := trivial
theorem hd.tw2329189449893159454 : True := trivial
theorem hd.tw2352750151352029642 : True := trivial
theorem hd.tw2386827423013361158 : True := trivial
theorem hd.tw2391449824757734642 : True := trivial
theorem hd.tw2442259710966052079 : True := trivial
theorem hd.tw2478488760367284492 : True := trivial
theorem hd.tw2608437505485318709 : True := trivial
theorem hd.tw2708950531961675432 : True := trivial
theorem hd.tw2887051446865420828 : True := trivial
theorem hd.tw2930668341846507884 : True := trivial
theorem hd.tw2999033326186475339 : True := trivial
theorem hd.tw3008623586974134963 : True := trivial
theorem hd.tw3039998526598829958 : True := trivial
theorem hd.tw307737655149646647 : True := trivial
theorem hd.tw3109861748172591687 : True := trivial
theorem hd.tw3182187488490625086 : True := trivial
theorem hd.tw3219085151875037572 : True := trivial
theorem hd.tw3229955645248102723 : True := trivial
theorem hd.tw3259873300814134281 : True := trivial
theorem hd.tw3429492842335990350 : True := trivial
theorem hd.tw3443669649825651883 : True := trivial
theorem hd.tw3451239065008710300 : True := trivial
theorem hd.tw3452082135128663414 : True := trivial
theorem hd.tw3480954088277226078 : True := trivial
theorem hd.tw3493717111155160527 : True := trivial
theorem hd.tw3530705653197291679 : True := trivial
theorem hd.tw3571134770919094901 : True := trivial
theorem hd.tw3646829019195819677 : True := trivial
theorem hd.tw3789350110615891812 : True := trivial
theorem hd.tw3795277891434052102 : True := trivial
theorem hd.tw3828038474966422129 : True := trivial
theorem hd.tw3915529967508079626 : True := trivial
theorem hd.tw3919010098100093602 : True := trivial
theorem hd.tw395138700845864316 : True := trivial
theorem hd.tw3953601041324332601 : True := trivial
theorem hd.tw4014540891139286612 : True := trivial
theorem hd.tw4015398097383911347 : True := trivial
theorem hd.tw4065347644161347641 : True := trivial
theorem hd.tw4086058157674990017 : True := trivial
theorem hd.tw4172343393113369950 : True := trivial
theorem hd.tw4225703048834024713 : True := trivial
theorem hd.tw4272726840584523970 : True := trivial
theorem hd.tw4297731678662094536 : True := trivial
theorem hd.tw4315991029959535628 : True := trivial
theorem hd.tw432457690288141553 : True := trivial
theorem hd.tw4360684699965382250 : True := trivial
theorem hd.tw4377701919642642989 : True := trivial
theorem hd.tw4478166936697009375 : True := trivial
theorem hd.tw4478964076566166474 : True := trivial
theorem hd.tw4494801613693538912 : True := trivial
theorem hd.tw461538923250603899 : True := trivial
theorem hd.tw4702841417184801058 : True := trivial
theorem hd.tw4706079058837389440 : True := trivial
theorem hd.tw4851647983119433812 : True := trivial
theorem hd.tw4870687313549177768 : True := trivial
theorem hd.tw4971549296188076032 : True := trivial
theorem hd.tw4993660671451451078 : True := trivial
theorem hd.tw5036846961687405229 : True := trivial
theorem hd.tw5130813555471234732 : True := trivial
theorem hd.tw5174551420813472067 : True := trivial
theorem hd.tw5190246844813560578 : True := trivial
theorem hd.tw5278057926702712004 : True := trivial
theorem hd.tw5282504435634884242 : True := trivial
theorem hd.tw5343241284826551009 : True := trivial
theorem hd.tw5363564295841288755 : True := trivial
theorem hd.tw5366084841770067474 : True := trivial
theorem hd.tw5373601922739893978 : True := trivial
theorem hd.tw541196102884509978 : True := trivial
theorem hd.tw5416991563250132298 : True := trivial
theorem hd.tw5511420028821071320 : True := trivial
theorem hd.tw5562173858411828344 : True := trivial
theorem hd.tw5567388512258382067 : True := trivial
theorem hd.tw5608270528595127837 : True := trivial
theorem hd.tw5635641802508607975 : True := trivial
theorem hd.tw5657824000916062451 : True := trivial
theorem hd.tw5732804406350252772 : True := trivial
theorem hd.tw5902613922787404954 : True := trivial
theorem hd.tw5961118342813265553 : True := trivial
theorem hd.tw5987830557187376847 : True := trivial
theorem hd.tw6038821095411175016 : True := trivial
theorem hd.tw6060742912462422084 : True := trivial
theorem hd.tw6082411064634330575 : True := trivial
theorem hd.tw6116078890732820446 : True := trivial
theorem hd.tw6164396464334811476 : True := trivial
theorem hd.tw6184460063843016694 : True := trivial
theorem hd.tw6264232113106981867 : True := trivial
theorem hd.tw6291416237084387574 : True := trivial
theorem hd.tw6293948785866598258 : True := trivial
theorem hd.tw6305734824756694309 : True := trivial
theorem hd.tw6394381022753523788 : True := trivial
theorem hd.tw6407587892757256292 : True := trivial
theorem hd.tw6411954120941647267 : True := trivial
theorem hd.tw6442067068224118133 : True := trivial
theorem hd.tw6528754448969337418 : True := trivial
theorem hd.tw6545403380812914513 : True := trivial
theorem hd.tw6555240042291301478 : True := trivial
theorem hd.tw6598312636042714100 : True := trivial
theorem hd.tw6663896369628448293 : True := trivial
theorem hd.tw6767318904944593275 : True := trivial
theorem hd.tw6785817131721698500 : True := trivial
theorem hd.tw6820862383352777685 : True := trivial
theorem hd.tw6830512106363814048 : True := trivial
theorem hd.tw6838551448383532254 : True := trivial
theorem hd.tw6924109203229866365 : True := trivial
theorem hd.tw6969160765537744556 : True := trivial
theorem hd.tw6990203504111849199 : True := trivial
theorem hd.tw6998783941825042932 : True := trivial
theorem hd.tw7023726343779634624 : True := trivial
theorem hd.tw7028611270464810887 : True := trivial
theorem hd.tw7082855905992002993 : True := trivial
theorem hd.tw7085514621470718492 : True := trivial
theorem hd.tw7120233287515763914 : True := trivial
theorem hd.tw728884934406724761 : True := trivial
theorem hd.tw7289634563603522867 : True := trivial
theorem hd.tw7294075314067506599 : True := trivial
theorem hd.tw7296583596125217682 : True := trivial
theorem hd.tw7366208706002141716 : True := trivial
theorem hd.tw7519716089354478335 : True := trivial
theorem hd.tw7540655947842036084 : True := trivial
theorem hd.tw758273949599710562 : True := trivial
theorem hd.tw7679216977031593725 : True := trivial
theorem hd.tw7752767780024739350 : True := trivial
theorem hd.tw7754304195085646258 : True := trivial
theorem hd.tw7763873220885509757 : True := trivial
theorem hd.tw7914949630228597729 : True := trivial
theorem hd.tw8025032847418708242 : True := trivial
theorem hd.tw8074594152155103352 : True := trivial
theorem hd.tw8117029840178788049 : True := trivial
theorem hd.tw8134915037123179040 : True := trivial
theorem hd.tw8228950375871286339 : True := trivial
theorem hd.tw8343274005884668182 : True := trivial
theorem hd.tw8356816923877370021 : True := trivial
theorem hd.tw8434480475457530406 : True := trivial
theorem hd.tw8457440626546761165 : True := trivial
theorem hd.tw8458067239894703972 : True := trivial
theorem hd.tw8545014587354053640 : True := trivial
theorem hd.tw8671608845466749128 : True := trivial
theorem hd.tw8727321023445011275 : True := trivial
theorem hd.tw8732188552807035984 : True := trivial
theorem hd.tw8735263284916673568 : True := trivial
theorem hd.tw8770205317985620760 : True := trivial
theorem hd.tw8879563391730754479 : True := trivial
theorem hd.tw8934143017859847078 : True := trivial
theorem hd.tw8959176491354863721 : True := trivial
theorem hd.tw8960069828448710407 : True := trivial
theorem hd.tw8977307856219701671 : True := trivial
theorem hd.tw8990313861142287110 : True := trivial
theorem hd.tw921402611603131450 : True := trivial
theorem hd.tw922143313871775805 : True := trivial
theorem hd.tw9277588360372424766 : True := trivial
theorem hd.tw9345676750909349944 : True := trivial
theorem hd.tw9345929723534960622 : True := trivial
theorem hd.tw9386895884608548742 : True := trivial
theorem hd.tw9427301549700849589 : True := trivial
theorem hd.tw9430268157657104642 : True := trivial
theorem hd.tw9557236495431379559 : True := trivial
theorem hd.tw9641152695372364146 : True := trivial
theorem hd.tw9657781627882305391 : True := trivial
theorem hd.tw9741134391959003819 : True := trivial
theorem hd.tw9748044761591592747 : True := trivial
theorem hd.tw9759069670290863418 : True := trivial
theorem hd.tw9783614193127449063 : True := trivial
theorem hd.tw978945382295711627 : True := trivial
theorem hd.tw991583007596301734 : True := trivial
theorem hd.tw9960721518486171458 : True := trivial
set_option Elab.async true in
theorem hd (walk : walkT) : PySem.Challenge.rw_xm0953_01.Holds := by
  w_on
  o_law
  o_head (kHook hk.heap_39 [nat_lit 2, nat_lit 3, nat_lit 15, nat_lit 18, nat_lit 23, nat_lit 24, nat_lit 25, nat_lit 27, nat_lit 28, nat_lit 30, nat_lit 31, nat_lit 32, nat_lit 33, nat_lit 34, nat_lit 35, nat_lit 45, nat_lit 46, nat_lit 47, nat_lit 48, nat_lit 49, nat_lit 59, nat_lit 61, nat_lit 62, nat_lit 64, nat_lit 65, nat_lit 66, nat_lit 67, nat_lit 68, nat_lit 69, nat_lit 70, nat_lit 80, nat_lit 82, nat_lit 83, nat_lit 85, nat_lit 86, nat_lit 87, nat_lit 88, nat_lit 89, nat_lit 90, nat_lit 91, nat_lit 94, nat_lit 96, nat_lit 97, nat_lit 99, nat_lit 100, nat_lit 101, nat_lit 103, nat_lit 104, nat_lit 106, nat_lit 107, nat_lit 108, nat_lit 110, nat_lit 111, nat_lit 113, nat_lit 114, nat_lit 115, nat_lit 117, nat_lit 118, nat_lit 120, nat_lit 121, nat_lit 122, nat_lit 124, nat_lit 125, nat_lit 127, nat_lit 128, nat_lit 129, nat_lit 131, nat_lit 132, nat_lit 134, nat_lit 135, nat_lit 136, nat_lit 138, nat_lit 139, nat_lit 141, nat_lit 142, nat_lit 143, nat_lit 144, nat_lit 145, nat_lit 146, nat_lit 148, nat_lit 149, nat_lit 151, nat_lit 152, nat_lit 153, nat_lit 155, nat_lit 156, nat_lit 158, nat_lit 159, nat_lit 160, nat_lit 162, nat_lit 163, nat_lit 165, nat_lit 166, nat_lit 167, nat_lit 169, nat_lit 170, nat_lit 172, nat_lit 173, nat_lit 174, nat_lit 176, nat_lit 177, nat_lit 179, nat_lit 180, nat_lit 181, nat_lit 183, nat_lit 184, nat_lit 186, nat_lit 187, nat_lit 188, nat_lit 190, nat_lit 191, nat_lit 193, nat_lit 194, nat_lit 195, nat_lit 197, nat_lit 198, nat_lit 200, nat_lit 201, nat_lit 202, nat_lit 204, nat_lit 205, nat_lit 207, nat_lit 208, nat_lit 209, nat_lit 211, nat_lit 212, nat_lit 214, nat_lit 215, nat_lit 216, nat_lit 218, nat_lit 219, nat_lit 221, nat_lit 222, nat_lit 223, nat_lit 225, nat_lit 226, nat_lit 228, nat_lit 229, nat_lit 230, nat_lit 232, nat_lit 233, nat_lit 235, nat_lit 236, nat_lit 237, nat_lit 239, nat_lit 240, nat_lit 242, nat_lit 243, nat_lit 244, nat_lit 246, nat_lit 247, nat_lit 249, nat_lit 250, nat_lit 251, nat_lit 253, nat_lit 254, nat_lit 256, nat_lit 257, nat_lit 258, nat_lit 260, nat_lit 261, nat_lit 263, nat_lit 264, nat_lit 265, nat_lit 267, nat_lit 268, nat_lit 270, nat_lit 271, nat_lit 272, nat_lit 274, nat_lit 275, nat_lit 277, nat_lit 278, nat_lit 279, nat_lit 281, nat_lit 282, nat_lit 284, nat_lit 285, nat_lit 286, nat_lit 288, nat_lit 289, nat_lit 291, nat_lit 292, nat_lit 293, nat_lit 295, nat_lit 296, nat_lit 298, nat_lit 299, nat_lit 300, nat_lit 302, nat_lit 303, nat_lit 305, nat_lit 306, nat_lit 307, nat_lit 309, nat_lit 310, nat_lit 312, nat_lit 313, nat_lit 314, nat_lit 316, nat_lit 317, nat_lit 319, nat_lit 320, nat_lit 321, nat_lit 323, nat_lit 324, nat_lit 326, nat_lit 327, nat_lit 328, nat_lit 330, nat_lit 331, nat_lit 333, nat_lit 334, nat_lit 335, nat_lit 337, nat_lit 338, nat_lit 340, nat_lit 341, nat_lit 342, nat_lit 344, nat_lit 345, nat_lit 347, nat_lit 348, nat_lit 356, nat_lit 358, nat_lit 359, nat_lit 361, nat_lit 362, nat_lit 363, nat_lit 365, nat_lit 366, nat_lit 368, nat_lit 369, nat_lit 370, nat_lit 372, nat_lit 373, nat_lit 375, nat_lit 376, nat_lit 377, nat_lit 379, nat_lit 380, nat_lit 382, nat_lit 383, nat_lit 384, nat_lit 385, nat_lit 386, nat_lit 387, nat_lit 388, nat_lit 391, nat_lit 393, nat_lit 394, nat_lit 396, nat_lit 397, nat_lit 398, nat_lit 401, nat_lit 402] (fun _ => by kernel_rfl))
  (case hw => w_witness2)
end

section -- M1

theorem tupK {K : Frag} {h₀ h : Heap} {L a : Addr} {m : Str → Option Value} {sl : Array (Option Value)} {d : Option Addr} {items : Array Value} {n : Nat} (F : Fr h₀ L h m) (X : K.In h₀) (e : K.lookup a = some ⟨.type "tuple", d, .seq items n, sl⟩) : IsTup h a items := ⟨_, F.keep _ _ (X _ _ e), rfl, n, rfl⟩
local macro_rules | `(tactic| walk_at "compareOp NotIn str ref") => `(tactic| (k_here; (with_reducible show wpAny _ _ (compareOp CmpOp.NotIn (Value.str _ _) (Value.ref _)) _ _ _); (with_unfolding_all refine' notin_tuple_strs ?k1 ?k2 ?_; (case k1 => exact tupK (by k_asm) (by k_asm) (by k_is)); (case k2 => kde_strs); k_whole)))
local macro_rules | `(tactic| walk_at "compareOp Eq ref str") => `(tactic| (k_here; (with_reducible show wpAny _ _ (compareOp CmpOp.Eq (Value.ref _) (Value.str _ _)) _ _ _); k_dflt (refine eq_dataH (by ke_read) (by ke_read) (by ke_shaped) (by ke_shaped) (by ktr_units) ?_); ke_norm))
def Held (P : Prop) : Prop := P
theorem Held.out {P : Prop} (h : Held P) : P := h
local macro_rules | `(tactic| walk_at "InvEndN") => `(tactic| (goal_has PySem.W.KstS; refine Held.out ?_))
local macro_rules | `(tactic| walk_at "call ref") => `(tactic| (k_here; k_dflt (refine wpAny_call ?_; (refine' code_def ?k1 ?k2 ?k3 ?k4 ?k5 ?kA ?kF ?kK ?k6 ?k7 ?k8 ?k9 ?kB ?_ ?c2 ?c3 ?c4 ?c5; (case kA => exact rfl); (case kF => exact rfl); (case kK => first | assumption | exact rfl); (case k1 => k_asm); (case k2 => k_asm); (case k3 => k_asm); (case k4 => k_asm); (case k5 => k_asm); (case k6 => k_is); (case k7 => k_is); (case k8 => ktr_room); (case k9 => exact BindsTo.of_eq rfl); (case c5 => decide); (case kB => exact locs rfl); (case c2 => exact rfl); (case c3 => exact rfl); (case c4 => exact rfl); k_whole; intro g' L' h' FG' F' N' B' X' T'; (try dsimp only); (try k_lift B'); (try k_fold)))))
theorem mpInv {row wd : Str} {kPre : List Int} {kN st : Int} (kEq : kN = 0 + (kPre.length : Int)) (h1 : st = (kPre.length : Int)) (h2 : ∀ j : Nat, j < kPre.length → (Txt.slice row (some (j : Int)) (some ((j : Int) + (wd.length : Int))) == wd) = false)
    (h3 : (Txt.slice row (some kN) (some (kN + (wd.length : Int))) == wd) = false) :
    st + 1 = (((kPre ++ [kN]).length : Nat) : Int) ∧ ∀ j : Nat, j < (kPre ++ [kN]).length → (Txt.slice row (some (j : Int)) (some ((j : Int) + (wd.length : Int))) == wd) = false := by
  refine ⟨by simp only [List.length_append, List.length_cons, List.length_nil]; omega, fun j hj => ?_⟩
  simp only [List.length_append, List.length_cons, List.length_nil] at hj
  by_cases h : j < kPre.length
  · exact h2 j h
  · have e : kN = (j : Int) := by omega
    rw [← e]; exact h3
def hasWord (row wd : Str) : Bool := (List.range (row.length + 1)).any fun k => Txt.slice row (some (k : Int)) (some ((k : Int) + (wd.length : Int))) == wd
theorem hasWord_yes {row wd : Str} {kPre : List Int} {kN : Int} (kEq : kN = 0 + (kPre.length : Int)) (kLt : kPre.length < ((row.length : Int) + 1 - 0).toNat) (h : (Txt.slice row (some kN) (some (kN + (wd.length : Int))) == wd) = true) : hasWord row wd = true := by
  refine List.any_eq_true.mpr ⟨kPre.length, List.mem_range.mpr (by omega), ?_⟩
  have e : kN = (kPre.length : Int) := by omega
  rw [← e]; exact h
theorem hasWord_no {row wd : Str} {n : Nat} (hn : n = ((row.length : Int) + 1 - 0).toNat) (h : ∀ j : Nat, j < (rangeKs 0 n).length → (Txt.slice row (some (j : Int)) (some ((j : Int) + (wd.length : Int))) == wd) = false) : hasWord row wd = false := by
  refine List.any_eq_false.mpr fun k hk => ?_
  rw [h k (by rw [rangeKs_length]; have := List.mem_range.mp hk; omega)]
  exact Bool.false_ne_true
theorem mp_spec (prog : Program) (w : World) (mean : ExcName → Option Value) (mg mb : Str → Option Value)
   (dp un : Nat) (gd : Option (List Code)) (cn : Str) (cs : Scope) (a : Addr) (ccd : Value) (cl : List (Str × Addr)) (outer : List Env) (A₀ : Around) (base h₀ : Heap) (L : Addr) (m : Str → Option Value) (s : Shared) (Q E : Value → Shared → Prop)
   (rest : List (Addr × Obj)) (x dx nd : Addr) (wd row : Str) (tc tw tr t1 t2 t3 t4 t5 t6 u2 u4 u5 : Tok) (v1 v3 v6 : Value)
   (B : Below A₀ base outer h₀) (F : Fr h₀ L s.heap m) (X : (hk.heap_39 w.params).In h₀)
   (N : News h₀ L s.heap ((x, instObj 386 dx) :: (dx, dictOf [⟨PyData.keyHash w.params "values", .str "values" t1, v1⟩, ⟨PyData.keyHash w.params "limit", .str "limit" t2, .int 9999 u2⟩, ⟨PyData.keyHash w.params "refused", .str "refused" t3, v3⟩, ⟨PyData.keyHash w.params "width", .str "width" t4, .int 64 u4⟩, ⟨PyData.keyHash w.params "steps", .str "steps" t5, .int 0 u5⟩, ⟨PyData.keyHash w.params "log", .str "log" t6, v6⟩] 6) :: (nd, ({ cls := .type "tuple", data := .seq #[.str "chars" tc, .str wd tw] } : Obj)) :: rest))
   (hx : @LT.lt Nat _ dx x) (hn : @LT.lt Nat _ nd dx) (hrest : ∀ p ∈ rest, p.1 < dx)
   (T : Top hk.view_39 (looseW hk.view_39 [Str.ofString "SnobolError", Str.ofString "plain_count"]) mean mg mb h₀) (hk : cs.kind = .function)
   (hdp : dp + 20 < recursionLimit) (hun : un + 100 < cLine)
   (hlr : row.length ≤ 100) (hlw : wd.length ≤ 100)
   (hret : ∀ (r : Value) h' tk', (hasWord row wd = true ∧ (∃ D, r = .ref D)) ∨ (hasWord row wd = false ∧ r = .none) → Fr h₀ L h' m → News h₀ L h' ((nd, ({ cls := .type "tuple", data := .seq #[.str "chars" tc, .str wd tw] } : Obj)) :: rest) → Q r { s with heap := h', toks := tk' }) :
   wpAny (model prog w) (ktrTop dp un gd cn cs L a ccd cl outer) (call (.ref 299) [.ref nd, .str row tr, .bool false, .ref x]) Q E s := by
  (k_with "pyIter ref" => k_state (fun pre st => st = (pre.length : Int) ∧ ∀ j : Nat, j < pre.length → (Txt.slice row (some (j : Int)) (some ((j : Int) + (wd.length : Int))) == wd) = false) "host.steps")
  refine wpAny_call ?_
  k_dflt cell_enter
  k_steps
  · refine hret _ _ _ (Or.inl ⟨hasWord_yes (by assumption) (by assumption) (by assumption), _, rfl⟩) (by assumption) ?_
    rename News _ _ _ _ => nE'
    intro p hp
    refine nE' p ?_
    rcases List.mem_cons.mp hp with rfl | hp
    · k_mem
    · repeat (first | exact List.mem_append.mpr (Or.inl hp) | refine List.Mem.tail _ ?_)
  · unfold Held
    rename News _ _ _ _ => nE'
    refine' kst_end (?c1, ?c2) (by assumption) nE' ?hn ?ho ?ha ?hf ?hk ?hr ?hp
    case hn =>
      dsimp only
      refine List.forall_mem_cons.mpr ⟨by k_mem, List.forall_mem_cons.mpr ⟨by k_mem, List.forall_mem_cons.mpr ⟨by k_mem, ?_⟩⟩⟩
      intro p9 hp9
      repeat (first | exact List.mem_append.mpr (Or.inl hp9) | refine List.Mem.tail _ ?_)
    case ho =>
      intro p9 hp9
      repeat (first | exact List.mem_append.mpr (Or.inr hp9) | refine List.Mem.tail _ ?_)
    case ha => rfl
    case hf => trivial
    case hk => exact List.forall_mem_nil _
    case hr =>
      kst_same
    case hp =>
      exact mpInv (by assumption) (by assumption) (by assumption) (by assumption)
  · refine hret _ _ _ (Or.inr ⟨hasWord_no rfl (by assumption), rfl⟩) (by assumption) ?_
    rename News _ _ _ _ => nE'
    intro p hp
    refine nE' p ?_
    rcases List.mem_cons.mp hp with rfl | hp
    · k_mem
    · repeat (first | exact hp | refine List.Mem.tail _ ?_)
end

section -- M2
theorem gentoks {M : Model} {A : Around} {α : Type} {t : Sem α} {Q : α → Shared → Prop} {E : Value → Shared → Prop} {h : Heap} {g : Array GenState} {d : Drawn} {n : Nat} {os : OsState} (k : ∀ tk, @LT.lt Nat _ n tk → wpAny M A t Q E ⟨h, g, d, tk, os⟩) : wpAny M A t Q E ⟨h, g, d, n + 1, os⟩ := k _ (Nat.lt_succ_self n)

/-- the text of a list of digits -/
def txt (R : List Nat) : Str := ⟨(R.map (48 + ·)).toArray⟩
/-- the order of the signs that _law_order makes -/
def ordL : Nat → Nat → List Nat
  | 2, _ => [1, 0]
  | 3, t => if t % 2 = 0 then [1, 2, 0] else [2, 1, 0]
  | 4, 0 => [1, 2, 3, 0]
  | 4, 1 => [2, 1, 3, 0]
  | 4, 2 => [3, 1, 2, 0]
  | 4, 3 => [1, 3, 2, 0]
  | 4, 4 => [2, 3, 1, 0]
  | 4, _ => [3, 2, 1, 0]
  | _, _ => []
abbrev LoSpec (prog : Program) (w : World) (K T : Int) : Prop := ∀ (mean : ExcName → Option Value) (mg mb : Str → Option Value)
   (dp un : Nat) (gd : Option (List Code)) (cn : Str) (cs : Scope) (a : Addr) (ccd : Value) (cl : List (Str × Addr)) (outer : List Env) (A₀ : Around) (base h₀ : Heap) (L : Addr) (m : Str → Option Value) (s : Shared) (Q E : Value → Shared → Prop)
   (news : List (Addr × Obj)) (t1 t2 : Tok)
   (_ : Below A₀ base outer h₀) (_ : Fr h₀ L s.heap m) (_ : (hk.heap_39 w.params).In h₀)
   (_ : News h₀ L s.heap news)
   (_ : Top hk.view_39 (looseW hk.view_39 [Str.ofString "SnobolError", Str.ofString "plain_count"]) mean mg mb h₀) (_ : cs.kind = .function)
   (_ : dp + 20 < recursionLimit) (_ : un + 100 < cLine)
   (_ : ∀ (t : Tok) h' tk', Fr h₀ L h' m → News h₀ L h' news → Q (.str (txt (ordL K.toNat T.toNat)) t) { s with heap := h', toks := tk' }),
   wpAny (model prog w) (ktrTop dp un gd cn cs L a ccd cl outer) (call (.ref 397) [.int K t1, .int T t2]) Q E s
section
local macro_rules | `(tactic| walk_at "execs cons") => `(tactic| (k_here; with_reducible (refine gentoks ?_); intro tk htk; (try dsimp only at htk); (try k_fold)))
local macro_rules | `(tactic| walk_at "execs nil") => `(tactic| (k_here; with_reducible (refine gentoks ?_); intro tk htk; (try dsimp only at htk); (try k_fold)))
local macro_rules | `(tactic| walk_at "call builtin:str.replace") => `(tactic| (k_here; (refine SC.replaceW (by (show @Ne Nat _ _); (try dsimp only); omega) (by (show @Ne Nat _ _); (try dsimp only); omega) (by (show @Ne Nat _ _); (try dsimp only); omega) (by decide) (by decide) (by decide) ?_); intro _ _))
theorem lo_20 (prog : Program) (w : World) : LoSpec prog w 2 0 := by
  intro mean mg mb dp un gd cn cs a ccd cl outer A₀ base h₀ L m s Q E news t1 t2 B F X N TT hk hdp hun hret
  refine wpAny_call ?_
  k_dflt cell_enter
  k_steps
  refine cb_retS (Q := Q) hret ?e1 ?e2 ?e3
  case e1 => decide
  case e2 => k_asm
  rename News _ _ _ _ => nE'
  exact cb_drop nE' (by intro p hp; (repeat (first | exact hp | refine List.Mem.tail _ ?_)))
theorem lo_21 (prog : Program) (w : World) : LoSpec prog w 2 1 := by
  intro mean mg mb dp un gd cn cs a ccd cl outer A₀ base h₀ L m s Q E news t1 t2 B F X N TT hk hdp hun hret
  refine wpAny_call ?_
  k_dflt cell_enter
  k_steps
  refine cb_retS (Q := Q) hret ?e1 ?e2 ?e3
  case e1 => decide
  case e2 => k_asm
  rename News _ _ _ _ => nE'
  exact cb_drop nE' (by intro p hp; (repeat (first | exact hp | refine List.Mem.tail _ ?_)))
theorem lo_22 (prog : Program) (w : World) : LoSpec prog w 2 2 := by
  intro mean mg mb dp un gd cn cs a ccd cl outer A₀ base h₀ L m s Q E news t1 t2 B F X N TT hk hdp hun hret
  refine wpAny_call ?_
  k_dflt cell_enter
  k_steps
  refine cb_retS (Q := Q) hret ?e1 ?e2 ?e3
  case e1 => decide
  case e2 => k_asm
  rename News _ _ _ _ => nE'
  exact cb_drop nE' (by intro p hp; (repeat (first | exact hp | refine List.Mem.tail _ ?_)))
theorem lo_23 (prog : Program) (w : World) : LoSpec prog w 2 3 := by
  intro mean mg mb dp un gd cn cs a ccd cl outer A₀ base h₀ L m s Q E news t1 t2 B F X N TT hk hdp hun hret
  refine wpAny_call ?_
  k_dflt cell_enter
  k_steps
  refine cb_retS (Q := Q) hret ?e1 ?e2 ?e3
  case e1 => decide
  case e2 => k_asm
  rename News _ _ _ _ => nE'
  exact cb_drop nE' (by intro p hp; (repeat (first | exact hp | refine List.Mem.tail _ ?_)))
theorem lo_24 (prog : Program) (w : World) : LoSpec prog w 2 4 := by
  intro mean mg mb dp un gd cn cs a ccd cl outer A₀ base h₀ L m s Q E news t1 t2 B F X N TT hk hdp hun hret
  refine wpAny_call ?_
  k_dflt cell_enter
  k_steps
  refine cb_retS (Q := Q) hret ?e1 ?e2 ?e3
  case e1 => decide
  case e2 => k_asm
  rename News _ _ _ _ => nE'
  exact cb_drop nE' (by intro p hp; (repeat (first | exact hp | refine List.Mem.tail _ ?_)))
theorem lo_25 (prog : Program) (w : World) : LoSpec prog w 2 5 := by
  intro mean mg mb dp un gd cn cs a ccd cl outer A₀ base h₀ L m s Q E news t1 t2 B F X N TT hk hdp hun hret
  refine wpAny_call ?_
  k_dflt cell_enter
  k_steps
  refine cb_retS (Q := Q) hret ?e1 ?e2 ?e3
  case e1 => decide
  case e2 => k_asm
  rename News _ _ _ _ => nE'
  exact cb_drop nE' (by intro p hp; (repeat (first | exact hp | refine List.Mem.tail _ ?_)))
theorem lo_30 (prog : Program) (w : World) : LoSpec prog w 3 0 := by
  intro mean mg mb dp un gd cn cs a ccd cl outer A₀ base h₀ L m s Q E news t1 t2 B F X N TT hk hdp hun hret
  refine wpAny_call ?_
  k_dflt cell_enter
  k_steps
  refine cb_retS (Q := Q) hret ?e1 ?e2 ?e3
  case e1 => decide
  case e2 => k_asm
  rename News _ _ _ _ => nE'
  exact cb_drop nE' (by intro p hp; (repeat (first | exact hp | refine List.Mem.tail _ ?_)))
theorem lo_31 (prog : Program) (w : World) : LoSpec prog w 3 1 := by
  intro mean mg mb dp un gd cn cs a ccd cl outer A₀ base h₀ L m s Q E news t1 t2 B F X N TT hk hdp hun hret
  refine wpAny_call ?_
  k_dflt cell_enter
  k_steps
  refine cb_retS (Q := Q) hret ?e1 ?e2 ?e3
  case e1 => decide
  case e2 => k_asm
  rename News _ _ _ _ => nE'
  exact cb_drop nE' (by intro p hp; (repeat (first | exact hp | refine List.Mem.tail _ ?_)))
theorem lo_32 (prog : Program) (w : World) : LoSpec prog w 3 2 := by
  intro mean mg mb dp un gd cn cs a ccd cl outer A₀ base h₀ L m s Q E news t1 t2 B F X N TT hk hdp hun hret
  refine wpAny_call ?_
  k_dflt cell_enter
  k_steps
  refine cb_retS (Q := Q) hret ?e1 ?e2 ?e3
  case e1 => decide
  case e2 => k_asm
  rename News _ _ _ _ => nE'
  exact cb_drop nE' (by intro p hp; (repeat (first | exact hp | refine List.Mem.tail _ ?_)))
theorem lo_33 (prog : Program) (w : World) : LoSpec prog w 3 3 := by
  intro mean mg mb dp un gd cn cs a ccd cl outer A₀ base h₀ L m s Q E news t1 t2 B F X N TT hk hdp hun hret
  refine wpAny_call ?_
  k_dflt cell_enter
  k_steps
  refine cb_retS (Q := Q) hret ?e1 ?e2 ?e3
  case e1 => decide
  case e2 => k_asm
  rename News _ _ _ _ => nE'
  exact cb_drop nE' (by intro p hp; (repeat (first | exact hp | refine List.Mem.tail _ ?_)))
theorem lo_34 (prog : Program) (w : World) : LoSpec prog w 3 4 := by
  intro mean mg mb dp un gd cn cs a ccd cl outer A₀ base h₀ L m s Q E news t1 t2 B F X N TT hk hdp hun hret
  refine wpAny_call ?_
  k_dflt cell_enter
  k_steps
  refine cb_retS (Q := Q) hret ?e1 ?e2 ?e3
  case e1 => decide
  case e2 => k_asm
  rename News _ _ _ _ => nE'
  exact cb_drop nE' (by intro p hp; (repeat (first | exact hp | refine List.Mem.tail _ ?_)))
theorem lo_35 (prog : Program) (w : World) : LoSpec prog w 3 5 := by
  intro mean mg mb dp un gd cn cs a ccd cl outer A₀ base h₀ L m s Q E news t1 t2 B F X N TT hk hdp hun hret
  refine wpAny_call ?_
  k_dflt cell_enter
  k_steps
  refine cb_retS (Q := Q) hret ?e1 ?e2 ?e3
  case e1 => decide
  case e2 => k_asm
  rename News _ _ _ _ => nE'
  exact cb_drop nE' (by intro p hp; (repeat (first | exact hp | refine List.Mem.tail _ ?_)))
theorem lo_40 (prog : Program) (w : World) : LoSpec prog w 4 0 := by
  intro mean mg mb dp un gd cn cs a ccd cl outer A₀ base h₀ L m s Q E news t1 t2 B F X N TT hk hdp hun hret
  refine wpAny_call ?_
  k_dflt cell_enter
  k_steps
  refine cb_retS (Q := Q) hret ?e1 ?e2 ?e3
  case e1 => decide
  case e2 => k_asm
  rename News _ _ _ _ => nE'
  exact cb_drop nE' (by intro p hp; (repeat (first | exact hp | refine List.Mem.tail _ ?_)))
theorem lo_41 (prog : Program) (w : World) : LoSpec prog w 4 1 := by
  intro mean mg mb dp un gd cn cs a ccd cl outer A₀ base h₀ L m s Q E news t1 t2 B F X N TT hk hdp hun hret
  refine wpAny_call ?_
  k_dflt cell_enter
  k_steps
  refine cb_retS (Q := Q) hret ?e1 ?e2 ?e3
  case e1 => decide
  case e2 => k_asm
  rename News _ _ _ _ => nE'
  exact cb_drop nE' (by intro p hp; (repeat (first | exact hp | refine List.Mem.tail _ ?_)))
theorem lo_42 (prog : Program) (w : World) : LoSpec prog w 4 2 := by
  intro mean mg mb dp un gd cn cs a ccd cl outer A₀ base h₀ L m s Q E news t1 t2 B F X N TT hk hdp hun hret
  refine wpAny_call ?_
  k_dflt cell_enter
  k_steps
  refine cb_retS (Q := Q) hret ?e1 ?e2 ?e3
  case e1 => decide
  case e2 => k_asm
  rename News _ _ _ _ => nE'
  exact cb_drop nE' (by intro p hp; (repeat (first | exact hp | refine List.Mem.tail _ ?_)))
theorem lo_43 (prog : Program) (w : World) : LoSpec prog w 4 3 := by
  intro mean mg mb dp un gd cn cs a ccd cl outer A₀ base h₀ L m s Q E news t1 t2 B F X N TT hk hdp hun hret
  refine wpAny_call ?_
  k_dflt cell_enter
  k_steps
  refine cb_retS (Q := Q) hret ?e1 ?e2 ?e3
  case e1 => decide
  case e2 => k_asm
  rename News _ _ _ _ => nE'
  exact cb_drop nE' (by intro p hp; (repeat (first | exact hp | refine List.Mem.tail _ ?_)))
theorem lo_44 (prog : Program) (w : World) : LoSpec prog w 4 4 := by
  intro mean mg mb dp un gd cn cs a ccd cl outer A₀ base h₀ L m s Q E news t1 t2 B F X N TT hk hdp hun hret
  refine wpAny_call ?_
  k_dflt cell_enter
  k_steps
  refine cb_retS (Q := Q) hret ?e1 ?e2 ?e3
  case e1 => decide
  case e2 => k_asm
  rename News _ _ _ _ => nE'
  exact cb_drop nE' (by intro p hp; (repeat (first | exact hp | refine List.Mem.tail _ ?_)))
theorem lo_45 (prog : Program) (w : World) : LoSpec prog w 4 5 := by
  intro mean mg mb dp un gd cn cs a ccd cl outer A₀ base h₀ L m s Q E news t1 t2 B F X N TT hk hdp hun hret
  refine wpAny_call ?_
  k_dflt cell_enter
  k_steps
  refine cb_retS (Q := Q) hret ?e1 ?e2 ?e3
  case e1 => decide
  case e2 => k_asm
  rename News _ _ _ _ => nE'
  exact cb_drop nE' (by intro p hp; (repeat (first | exact hp | refine List.Mem.tail _ ?_)))
end
theorem lo_spec (prog : Program) (w : World) (K T : Int) (hK2 : 2 ≤ K) (hK4 : K ≤ 4) (hT0 : 0 ≤ T) (hT6 : T < 6) : LoSpec prog w K T := by
  obtain rfl | rfl | rfl : K = 2 ∨ K = 3 ∨ K = 4 := by omega
  · obtain rfl | rfl | rfl | rfl | rfl | rfl : T = 0 ∨ T = 1 ∨ T = 2 ∨ T = 3 ∨ T = 4 ∨ T = 5 := by omega
    · exact lo_20 prog w
    · exact lo_21 prog w
    · exact lo_22 prog w
    · exact lo_23 prog w
    · exact lo_24 prog w
    · exact lo_25 prog w
  · obtain rfl | rfl | rfl | rfl | rfl | rfl : T = 0 ∨ T = 1 ∨ T = 2 ∨ T = 3 ∨ T = 4 ∨ T = 5 := by omega
    · exact lo_30 prog w
    · exact lo_31 prog w
    · exact lo_32 prog w
    · exact lo_33 prog w
    · exact lo_34 prog w
    · exact lo_35 prog w
  · obtain rfl | rfl | rfl | rfl | rfl | rfl : T = 0 ∨ T = 1 ∨ T = 2 ∨ T = 3 ∨ T = 4 ∨ T = 5 := by omega
    · exact lo_40 prog w
    · exact lo_41 prog w
    · exact lo_42 prog w
    · exact lo_43 prog w
    · exact lo_44 prog w
    · exact lo_45 prog w
end

section -- L1
def lawDef : Stmt := PySem.Challenge.pw_xm0953_01.main.body.getLastD (.Pass ⟨0, 0, 0, 0⟩)
def bodyOf : Stmt → List Stmt
  | .FunctionDef _ _ b _ _ _ _ _ _ _ => b
  | _ => []
def scopeOf : Stmt → Option Scope
  | .FunctionDef _ _ _ _ _ _ sc _ _ _ => some sc
  | _ => none
def loopOf : Stmt → List Stmt
  | .While _ b _ _ => b
  | _ => []
def lawBody : List Stmt := bodyOf lawDef
def whileStmt : Stmt := lawBody.getD 5 (.Pass ⟨0, 0, 0, 0⟩)
def turnStmt (i : Nat) : Stmt := (loopOf whileStmt).getD i (.Pass ⟨0, 0, 0, 0⟩)
theorem exec_as {M : Model} {A : Around} {env : Env} {Q : Flow → Shared → Prop} {E : Value → Shared → Prop} {s : Shared} {st st' : Stmt} (e : st = st') (h : wpAny M A (exec st' env) Q E s) : wpAny M A (exec st env) Q E s := by rw [e]; exact h
/-- the number that the digits tell -/
def numOf (K : Nat) (D : List Nat) : Nat := D.foldl (fun a d => K * a + d) 0
abbrev lawCl (L : Addr) : List (Str × Addr) := [(Str.ofString "row", L + 1 + 1), (Str.ofString "size", L + 1)]

theorem ldX {M : Model} {A : Around} {E : Value → Shared → Prop} {s : Shared} {h₀ : Heap} {L a : Addr} {m : Str → Option Value} {cn : Str} {cs : Scope} {ccd : Value} {cl : List (Str × Addr)} {x : Str} {pos : Pos} {v : Value} {Q : Value → Shared → Prop}
    (F : Fr h₀ L s.heap m) (hv : m x = some v) (h : Q v s) (hk : cs.kind = .function := by rfl) (hx : (envX cn cs L a ccd cl).kindOf x = some .local := by rfl) (hd : (x == ("__debug__" : Str)) = false := by decide) :
    wpAny M A (eval (.Name x pos) (envX cn cs L a ccd cl)) Q E s := nameX_L F hv h hk hx hd
theorem ktn_subR {news own : List (Addr × Obj)} : ∀ p ∈ own, p ∈ news ++ own := fun _ h => List.mem_append.mpr (.inr h)
theorem codes_txt (D : List Nat) : KStt.codes (txt D) = D.map fun d => ((48 + d : Nat) : Int) := by
  unfold KStt.codes txt
  simp [List.map_map, Function.comp_def]
theorem cut_at {D D1 D2 : List Nat} {n : Nat} {pre post : List Int} (e : KStt.codes (txt D) = pre ++ (n : Int) :: post) (hD : D = D1 ++ D2) (hp : pre = D1.map fun d => ((48 + d : Nat) : Int)) : ∃ d D3, D2 = d :: D3 ∧ n = 48 + d := by
  rw [codes_txt, hD, hp, List.map_append] at e
  have e' := List.append_cancel_left e
  cases D2 with
  | nil => cases e'
  | cons d D3 =>
    simp only [List.map_cons, List.cons.injEq] at e'
    exact ⟨d, D3, rfl, by have := e'.1; omega⟩
theorem numOf_snoc (K : Nat) (D : List Nat) (d : Nat) : numOf K (D ++ [d]) = K * numOf K D + d := by
  unfold numOf; rw [List.foldl_append]; rfl
theorem numOf_le {K : Nat} {D : List Nat} (hD : ∀ d ∈ D, d ≤ 3) (hl : D.length ≤ 1) : numOf K D ≤ 3 := by
  match D, hl with
  | [], _ => exact Nat.zero_le _
  | [d], _ => have := hD d (.head _); simpa [numOf] using this
theorem nb_loop (prog : Program) (w : World) (mean : ExcName → Option Value) (mg mb : Str → Option Value)
   (dp un : Nat) (gd : Option (List Code)) (cs : Scope) (a : Addr) (ccd : Value) (outer : List Env) (A₀ : Around) (base h₀ : Heap) (L : Addr) (m : Str → Option Value) (s : Shared) (Q : Flow → Shared → Prop) (E : Value → Shared → Prop)
   (news : List (Addr × Obj)) (K : Nat) (D : List Nat) (t1 t2 t3 : Tok) (hcs : scopeOf lawDef = some cs)
   (B : Below A₀ base outer h₀) (F : Fr h₀ L s.heap m) (X : (hk.heap_39 w.params).In h₀) (N : News h₀ L s.heap news)
   (TT : Top hk.view_39 (looseW hk.view_39 [Str.ofString "SnobolError", Str.ofString "plain_count"]) mean mg mb h₀)
   (hdp : dp + 40 < recursionLimit) (hun : un + 200 < cLine)
   (hE : PassesOwn (model prog w) (ktrTop dp un gd "law" cs L a ccd (lawCl L) outer) (envX "law" cs L a ccd (lawCl L)) E)
   (hm1 : m "last" = some (.str (txt D) t1)) (hm2 : m "kinds" = some (.int K t2)) (hm3 : m "number" = some (.int 0 t3))
   (hD : ∀ d ∈ D, d ≤ 3) (hK : K ≤ 4) (hDl : D.length ≤ 2)
   (hQ : ∀ h' tk' m' t, m' "number" = some (.int (numOf K D) t) → (∀ z, z ≠ Str.ofString "sign" → z ≠ Str.ofString "number" → m' z = m z) → Fr h₀ L h' m' → News h₀ L h' news → Q .next { s with heap := h', toks := tk' }) :
   wpAny (model prog w) (ktrTop dp un gd "law" cs L a ccd (lawCl L) outer) (exec (turnStmt 1) (envX "law" cs L a ccd (lawCl L))) Q E s := by
  have e : scopeOf lawDef = some ⟨_, _, _, _, _⟩ := rfl
  rw [e] at hcs
  cases hcs
  clear e
  refine exec_as (st' := .For _ _ _ _ _) rfl ?_
  refine For_invVF F rfl rfl ?_ (hE := hE)
  have hkm : ∀ z, kstB m [(Str.ofString "last", .str (txt D) t1), (Str.ofString "kinds", .int K t2), (Str.ofString "number", .int 0 t3)] z = m z := by
    intro z
    refine kstB_eq ?_ (fun _ => rfl)
    intro p hp
    rcases List.mem_cons.mp hp with rfl | hp
    · exact hm1
    rcases List.mem_cons.mp hp with rfl | hp
    · exact hm2
    rw [List.mem_singleton.mp hp]
    exact hm3
  have F2 : Fr h₀ L s.heap (kstB m [(Str.ofString "last", .str (txt D) t1), (Str.ofString "kinds", .int K t2), (Str.ofString "number", .int 0 t3)]) := by
    rw [funext hkm]; exact F
  clear F
  dsimp only [kstB] at F2
  refine ldX F2 rfl ?_
  refine KStt.kst_text (σ := Int × Tok) (fun _ => news) (fun c => [(Str.ofString "number", .int c.1 c.2)]) (fun _ => True) []
    (fun pre c => ∃ D1 D2, D = D1 ++ D2 ∧ pre = (D1.map fun d => ((48 + d : Nat) : Int)) ∧ c.1 = (numOf K D1 : Int)) (0, t3) rfl F2 N trivial (List.forall_mem_cons.mpr ⟨rfl, List.forall_mem_nil _⟩) ⟨[], D, rfl, rfl, rfl⟩ ?_ ?_
  · rintro ⟨c1, c2⟩ pre post n t u h tk own e off _ ⟨D1, D2, hD', hp, hc⟩ F3 N3
    obtain ⟨d, D3, rfl, rfl⟩ := cut_at e hD' hp
    have hd : d ≤ 3 := hD d (by rw [hD']; simp)
    have hc3 : c1 ≤ 3 := by
      have := numOf_le (K := K) (D := D1) (fun x hx => hD x (by rw [hD']; simp [hx])) (by have := congrArg List.length hD'; simp at this; omega)
      dsimp only at hc; omega
    have hc0 : 0 ≤ c1 := by dsimp only at hc; omega
    clear F2 N hm1 hm2 hm3 off
    dsimp only [kstB] at F3
    simp only [List.contains_nil, Bool.false_eq_true, if_false] at F3
    have hA : D = (D1 ++ [d]) ++ D3 := by rw [hD', List.append_assoc]; rfl
    have hB : pre ++ [((48 + d : Nat) : Int)] = (D1 ++ [d]).map fun d => ((48 + d : Nat) : Int) := by rw [hp, List.map_append]; rfl
    have hC : (K : Int) * c1 + ((d : Nat) : Int) = (numOf K (D1 ++ [d]) : Int) := by rw [numOf_snoc]; dsimp only at hc; rw [hc]; push_cast; rfl
    obtain rfl | rfl | rfl | rfl : d = 0 ∨ d = 1 ∨ d = 2 ∨ d = 3 := by omega
    all_goals
      k_steps
      refine' kst_end (_, _) (by k_asm) (by k_asm) ktn_subA ktn_subR rfl trivial (List.forall_mem_cons.mpr ⟨rfl, List.forall_mem_nil _⟩) ?hr ⟨_, D3, hA, hB, hC⟩
      case hr =>
        intro z h1 h2 _
        have h3 := h2 _ (.head _)
        dsimp only at h3
        simp only [h1, h3, if_false]
  · rintro ⟨c1, c2⟩ u h tk _ ⟨D1, D2, hD', hp, hc⟩ F3 N3
    have hl : D2 = [] := by
      rw [codes_txt] at hp
      have h1 := congrArg List.length hD'
      have h2 := congrArg List.length hp
      simp only [List.length_map, List.length_append] at h1 h2
      exact List.length_eq_zero_iff.mp (by omega)
    subst hl
    rw [List.append_nil] at hD'
    subst hD'
    dsimp only at hc
    subst hc
    refine hQ h tk _ c2 ?_ ?_ F3 N3
    · rfl
    · intro z h1 h2
      dsimp only [kstB]
      simp only [h1, h2, if_false, List.contains_nil, Bool.false_eq_true]
      have h3 := hkm z
      dsimp only [kstB] at h3
      simp only [h2, if_false] at h3
      exact h3
end

section -- P1
open PySem.Builtin PySem.Builtin.Str
/-! texts of digits: slices, words, «is in it» -/
theorem txt_inj {a b : List Nat} (h : txt a = txt b) : a = b := by
  have h1 : a.map (48 + ·) = b.map (48 + ·) := by
    have := congrArg (fun x : Str => x.cps.toList) h
    simpa [txt] using this
  exact (List.map_inj_right (fun x y (e : 48 + x = 48 + y) => by omega)).mp h1
theorem txt_length (D : List Nat) : (txt D).length = D.length := by simp [txt, PySem.Str.length]
theorem txt_cps (D : List Nat) : (txt D).cps.toList = D.map (48 + ·) := by simp [txt]
theorem indices_min {n : Nat} {i j : Int} (hi : 0 ≤ i) (hj : (n : Int) ≤ j) : strSliceIndices (some i) (some j) 1 n = strSliceIndices (some i) (some (n : Int)) 1 n := by
  have h0 : ¬ i < 0 := by omega
  have h1 : ¬ j < 0 := by omega
  have h2 : ¬ ((n : Int) < 0) := by omega
  have h3 : (1 : Int) > 0 := by decide
  simp only [strSliceIndices, h0, h1, h2, h3, if_false, if_true, Int.min_eq_right hj, Int.min_self]
theorem slice_end {x : Str} {i j : Int} (hi : 0 ≤ i) (hj : (x.length : Int) ≤ j) : Txt.slice x (some i) (some j) = Txt.slice x (some i) (some (x.length : Int)) := by
  unfold Txt.slice
  rw [indices_min hi hj]
theorem slice_txt (R : List Nat) (i n : Nat) (hi : i ≤ R.length) : Txt.slice (txt R) (some (i : Int)) (some ((i : Int) + (n : Int))) = txt ((R.drop i).take n) := by
  have hl := txt_length R
  by_cases h : i + n ≤ R.length
  · have e := eq_of_beq (slice_closes (x := txt R) (i := (i : Int)) (j := (i : Int) + (n : Int)) ⟨by omega, by omega, by rw [txt_cps, List.length_map]; omega⟩)
    rw [e, txt_cps]
    have e2 : ((i : Int) + (n : Int) - (i : Int)).toNat = n := by omega
    rw [e2, Int.toNat_natCast, ← List.map_drop, ← List.map_take]
    rfl
  · rw [slice_end (by omega) (by omega), hl]
    have e := eq_of_beq (slice_closes (x := txt R) (i := (i : Int)) (j := (R.length : Int)) ⟨by omega, by omega, by rw [txt_cps, List.length_map]; omega⟩)
    rw [e, txt_cps]
    have e2 : ((R.length : Int) - (i : Int)).toNat = R.length - i := by omega
    rw [e2, Int.toNat_natCast, ← List.map_drop, ← List.map_take]
    have e3 : (R.drop i).take (R.length - i) = (R.drop i).take n := by
      rw [List.take_of_length_le (by rw [List.length_drop]; omega), List.take_of_length_le (by rw [List.length_drop]; omega)]
    rw [e3]
    rfl
theorem slice_txt_from (R : List Nat) (i : Nat) (hi : i ≤ R.length) : Txt.slice (txt R) (some (i : Int)) none = txt (R.drop i) := by
  rw [slice_from_eq (b := (R.length : Int)) (by omega) (by rw [txt_length]; omega) (by rw [txt_length]), txt_cps]
  have e2 : ((R.length : Int) - (i : Int)).toNat = R.length - i := by omega
  rw [e2, Int.toNat_natCast, ← List.map_drop, ← List.map_take, List.take_of_length_le (by rw [List.length_drop]; omega)]
  rfl
/-- the words of one size in a row -/
def words (n : Nat) (R : List Nat) : List (List Nat) := (List.range (R.length - n + 1)).map fun i => (R.drop i).take n
theorem mem_words {n : Nat} {R u : List Nat} : u ∈ words n R ↔ ∃ i, i ≤ R.length - n ∧ (R.drop i).take n = u := by
  unfold words
  rw [List.mem_map]
  constructor
  · rintro ⟨i, hi, e⟩
    exact ⟨i, by have := List.mem_range.mp hi; omega, e⟩
  · rintro ⟨i, hi, e⟩
    exact ⟨i, List.mem_range.mpr (by omega), e⟩
theorem hasWord_txt {n : Nat} {R u : List Nat} (hu : u.length = n) (hn : n ≤ R.length) : hasWord (txt R) (txt u) = decide (u ∈ words n R) := by
  unfold hasWord
  rw [txt_length, txt_length, hu, Bool.eq_iff_iff, List.any_eq_true, decide_eq_true_iff, mem_words]
  constructor
  · rintro ⟨k, hk, e⟩
    have hk' := List.mem_range.mp hk
    rw [slice_txt R k n (by omega)] at e
    have e' := txt_inj (eq_of_beq e)
    refine ⟨k, ?_, e'⟩
    have := congrArg List.length e'
    rw [List.length_take, List.length_drop, hu] at this
    omega
  · rintro ⟨k, hk, e⟩
    refine ⟨k, List.mem_range.mpr (by omega), ?_⟩
    rw [slice_txt R k n (by omega), e]
    exact beq_self_eq_true _
theorem rangeKs_words {n : Nat} {R : List Nat} (hn : n ≤ R.length) : ((rangeKs 0 ((((R.length : Int) - (n : Int)) + 1 - 0).toNat)).map fun k => Txt.slice (txt R) (some k) (some (k + (n : Int)))) = (words n R).map txt := by
  have e : (((R.length : Int) - (n : Int)) + 1 - 0).toNat = R.length - n + 1 := by omega
  rw [e]
  unfold words rangeKs
  rw [List.map_map, List.map_map]
  refine List.map_congr_left fun i hi => ?_
  have := List.mem_range.mp hi
  simp only [Function.comp_apply, Int.zero_add]
  exact slice_txt R i n (by omega)
theorem strs_of_carried : ∀ {vs : List Value} {ts : List Str}, CarriedAll vs (ts.map PyData.str) → StrsAre vs ts
  | _, [], h => by cases h; exact .nil
  | _, t :: r, h => by
    cases h with
    | cons h1 h2 =>
      cases h1
      exact .cons _ _ (strs_of_carried h2)
end

section -- S1
/-! a set made of a list of unlike texts: its size is the list's -/
section
variable {prog : Program} {w : World} {A : Around} {E : Value → Shared → Prop} {s : Shared} {R : Result → Shared → Prop} {I : Addr} {fp wr : List Addr} {G : Array GenState → Array GenState → Prop} {n : Nat} {P : Nat → Value → Prop} {St : Nat → Shared → Prop}

abbrev among (ts : List Str) (i : Nat) : Str → Bool := fun k => decide (k ∈ ts.take i)

theorem setOf_as {h : Heap} {a : Addr} {S S' : Str → Bool} {k k' : Nat} (H : h.SetOf (PySem.strKind prog w) a S k) (e : ∀ x, S x = S' x) (ek : k = k') : h.SetOf (PySem.strKind prog w) a S' k' := by
  have : S = S' := funext e
  subst this; subst ek; exact H

theorem setOf_moved {h h' : Heap} {a : Addr} {S : Str → Bool} {k : Nat} (H : h.SetOf (PySem.strKind prog w) a S k) (m : ∀ o, h.get? a = some o → h'.get? a = some o) : h'.SetOf (PySem.strKind prog w) a S k := by
  obtain ⟨o, es, ep, tb, ho, rest⟩ := H
  exact ⟨o, es, ep, tb, m o ho, rest⟩

theorem texts_loop (W : WalksS prog w A.in1 I fp wr G n P St) (S : Addr) (hSf : S ∉ fp) (ts : List Str) (hts : ts.length = n) (hnd : ts.Nodup)
    (hval : ∀ i v, P i v → ∃ x t, ts[i]? = some x ∧ v = .str x t) (hb : n + 1 < scanBound) :
    ∀ (j i : Nat) (s : Shared), n - i = j → i ≤ n → St i s → s.heap.SetOf (PySem.strKind prog w) S (among ts i) i →
      (∀ s', Moved (S :: wr) G s s' → s'.heap.SetOf (PySem.strKind prog w) S (among ts n) n → R (.ok (.ret .none)) s') →
      codeAny (model prog w) A (.builtin "set.update.loop" ⟨[.ref S, .ref I], []⟩) R s := by
  have hSw : S ∉ wr := fun h => hSf (W.sub _ h)
  have hsub : ∀ b ∈ wr, b ∈ S :: wr := fun b hb => List.mem_cons_of_mem _ hb
  intro j
  induction j with
  | zero =>
    intro i s hj hi hst hS hR
    obtain rfl : i = n := by omega
    refine codeAny_builtin F.entry_set_update_loop ?_
    rw [Around.under_plainId F.plain_set_update_loop _]
    show wpAny _ A.in1 (pyNext (.ref I) >>= _) _ _ s
    refine wpAny_bind (W.done s _ _ hst fun s' hm => ?_)
    show wpAny _ A.in1 (ret Value.none) _ _ s'
    exact wpAny_pure (hR s' (hm.mono hsub) (setOf_moved hS fun o ho => hm.heap S o hSw ho))
  | succ j ih =>
    intro i s hj hi hst hS hR
    have hlt : i < n := by omega
    refine codeAny_builtin F.entry_set_update_loop ?_
    rw [Around.under_plainId F.plain_set_update_loop _]
    show wpAny _ A.in1 (pyNext (.ref I) >>= _) _ _ s
    refine wpAny_bind (W.item i s _ _ hlt hst fun v s' hP hst' hm => ?_)
    obtain ⟨x, t, hx, rfl⟩ := hval i v hP
    have hS' := setOf_moved (h' := s'.heap) hS fun o ho => hm.heap S o hSw ho
    show wpAny _ A.in1 (holding [Value.str x t] (setAdd S (.str x t)) >>= _) _ _ s'
    refine wpAny_bind (wpAny_holding ?_)
    unfold setAdd
    refine wpAny_holding (wpAny_bind ((PySem.strKind prog w).pyHash (k := x) (strKind_is _ _ _ _) ?_))
    refine wpAny_setAddHashed_of (knd := PySem.strKind prog w) (s := { s' with toks := s'.toks + 1 }) (strKind_is _ _ _ _) rfl hS' (by omega) fun h' hsb hS2 => ?_
    have hnew : among ts i x = false := by
      refine decide_eq_false fun hm => ?_
      obtain ⟨q, hq, e⟩ := List.mem_take_iff_getElem.mp hm
      have hi' : i < ts.length := by omega
      have e2 : ts[i] = x := by
        have := List.getElem?_eq_getElem hi'
        rw [hx] at this; exact (Option.some.inj this).symm
      have hq' : q < i := by omega
      have := (List.nodup_iff_pairwise_ne.mp hnd)
      have hne := List.pairwise_iff_getElem.mp this q i (by omega) hi' hq'
      exact hne (by rw [e, e2])
    rw [hnew] at hS2
    have hSi : h'.SetOf (PySem.strKind prog w) S (among ts (i + 1)) (i + 1) := by
      refine setOf_as hS2 (fun k => ?_) rfl
      show (decide (k ∈ ts.take i) || decide (k = x)) = decide (k ∈ ts.take (i + 1))
      rw [List.take_add_one, hx]
      by_cases h1 : k ∈ ts.take i <;> by_cases h2 : k = x <;> simp [h1, h2]
    refine wpAny_pure ⟨plainId_quiet F.plain_set_update_loop _, ih (i + 1) _ (by omega) hlt (W.frame _ s' _ _ hst' (Nat.le_succ _) fun b hb o e => ?_) hSi fun s'' hm'' hS'' => ?_⟩
    · rw [hsb.2 b (fun h : b = S => hSf (by rw [← h]; exact hb))]; exact e
    · refine hR s'' (Moved.trans W.gtrans ((hm.mono hsub).then_heap (Nat.le_succ _) fun b o hb e => ?_) hm'') hS''
      rw [hsb.2 b (fun h : b = S => hb (by rw [h]; exact List.mem_cons_self))]; exact e
end
section
variable {prog : Program} {w : World} {A : Around} {E : Value → Shared → Prop} {s : Shared}
theorem texts_at : ∀ {vs : List Value} {ts : List Str}, StrsAre vs ts → ∀ (i : Nat) (v : Value), vs[i]? = some v → ∃ x t, ts[i]? = some x ∧ v = .str x t
  | _, _, .nil, i, v, h => by simp at h
  | _, _, .cons y t r, 0, v, h => by simp at h; exact ⟨y, t, rfl, h.symm⟩
  | _, _, .cons y t r, i + 1, v, h => by
    simp only [List.getElem?_cons_succ] at h ⊢
    exact texts_at r i v h
abbrev setAt0 (led : Bool) : Obj := { cls := .type "set", dict := none, data := .set #[] 0 (.fresh 0 0 led) }

theorem set_init_walk {S l : Addr} {it : Array Value} {nl : Nat} {od : Option Addr} {sl : Array (Option Value)} {led : Bool} {Q : Fin → Shared → Prop} (hS : s.heap.get? S = some (setAt0 led)) (hl : s.heap.get? l = some ⟨.type "list", od, .seq it nl, sl⟩)
    (h : wpAny (model prog w) A (pyIter (.ref l)) (fun a s' => wpAny (model prog w) A (runValue (.builtin "set.update.loop" ⟨[.ref S, a], []⟩)) (fun _ s' => Q (.done (.ret .none)) s') E s') E s) :
    wpAny (model prog w) A (Builtin.«set.__init__» ⟨[.ref S, .ref l], []⟩) Q E s := by
  have hsls := F.sub_list_set
  have hslf := F.sub_list_frozenset
  have hne : (Value.type "list" == Value.type "dict") = false := by decide
  unfold Builtin.«set.__init__» noKeywords Builtin.Frozenset.updateFrom
  revert h
  generalize pyIter = PI
  intro h
  wp_walk
  refine wpAny_mono h (fun a s' h' => wpAny_bind (wpAny_mono h' (fun _ s'' h'' => wpAny_pure (wpAny_pure h'')) fun _ _ x => x)) fun _ _ x => x

theorem set_of_texts {l : Addr} {items : List Value} {ts : List Str} {Q : Value → Shared → Prop} (hh : A.handled = none) (hl : s.heap.IsList l items.toArray) (hi : StrsAre items ts) (hnd : ts.Nodup) (hb : ts.length + 1 < scanBound)
    (h : ∀ (D : Addr) (h' : Heap) (tk : Nat), D = s.heap.objs.size → h'.SetOf (PySem.strKind prog w) D (among ts ts.length) ts.length → (∀ b o, b < D → s.heap.get? b = some o → h'.get? b = some o) → Q (.ref D) { s with heap := h', toks := tk }) :
    wpAny (model prog w) A (call (.type "set") [.ref l]) Q E s := by
  obtain ⟨c, tl, hmro⟩ := F.called_set.mro
  have hmade := F.called_set.made
  have hsub := F.called_set.sub
  have h1 := F.called_set.notType
  have h2 := F.called_set.canCreate
  have hct := F.typeCall_set_1 (.ref l)
  refine wpAny_call (codeAny_of_tree ?_)
  show wpAny _ _ (callAny (.type "set") _) _ _ _
  refine wpAny_pure ⟨Code.quiet_builtin _ (by decide +kernel), codeAny_builtin F.entry_type_call ?_⟩
  rw [Around.under_plain (weight_type_call_type "set" [.ref l] []) rfl]
  repeat (any_goals (first | assumption | wp_step))
  refine codeAny_mono (code_set_new_1 (.ref l) (E := E) (Q₁ := fun obj s₁ => ∃ led : Bool, obj = .ref s.heap.objs.size ∧ s₁ = { s with heap := s.heap.push (setAt0 led) }) fun led => ⟨led, rfl, rfl⟩) fun r s₁ hr => ?_
  match r, hr with
  | .error e, hr => exact hr
  | .ok (.ret obj), hr =>
    obtain ⟨led, rfl, rfl⟩ := hr
    have hS : (s.heap.push (setAt0 led)).get? s.heap.objs.size = some (setAt0 led) := Heap.get?_push_size _ rfl
    have hT : Shared.TypeIs { s with heap := s.heap.push (setAt0 led) } (.ref s.heap.objs.size) "set" := ⟨_, hS, rfl⟩
    have hli := F.called_set.init.lookup
    have hbi := F.called_set.init.bind (.ref s.heap.objs.size)
    repeat (any_goals (first | assumption | wp_step))
    refine codeAny_mono (codeAny_call_builtin (R := wants (fun r s₂ => r = .none ∧ ∃ h' tk, s₂ = { s with heap := h', toks := tk } ∧ h'.SetOf (PySem.strKind prog w) s.heap.objs.size (among ts ts.length) ts.length ∧
        (∀ b o, b < s.heap.objs.size → s.heap.get? b = some o → h'.get? b = some o)) E) F.called_set.init.plain F.entry_set_init (check_set_init_1 hT ?_)) fun r₂ s₂ hr₂ => ?_
    · obtain ⟨⟨ocls, odict, odata, oslots⟩, hol, hcl, nl, hdl⟩ := hl
      dsimp only at hcl hdl
      subst hcl
      subst hdl
      have hol' : (s.heap.push (setAt0 led)).get? l = some ⟨.type "list", odict, .seq items.toArray nl, oslots⟩ := Heap.get?_push_of_some _ hol
      have hl1 : (s.heap.push (setAt0 led)).IsList l items.toArray := ⟨_, hol', rfl, nl, rfl⟩
      refine set_init_walk hS hol' ?_
      refine wpAny_pyIter_list hl1 (wpAny_runValue ?_)
      have hlS : l < s.heap.objs.size := Heap.lt_size hol
      have hsz : (s.heap.push (setAt0 led)).objs.size = s.heap.objs.size + 1 := Heap.size_push ..
      have hneI : l ≠ (s.heap.push (setAt0 led)).objs.size := by rw [hsz]; exact Nat.ne_of_lt (Nat.lt_succ_of_lt hlS)
      have hSf : s.heap.objs.size ∉ [(s.heap.push (setAt0 led)).objs.size, l] := by
        rw [hsz]
        simp only [List.mem_cons, List.not_mem_nil, or_false, not_or]
        exact ⟨Nat.ne_of_lt (Nat.lt_succ_self _), Nat.ne_of_gt hlS⟩
      have hn : items.toArray.size = ts.length := by rw [List.size_toArray]; exact hi.length
      have hh3 : A.in1.in1.in1.handled = none := by simp [hh]
      refine texts_loop ((Walks.list hh3 _ l hneI items.toArray).toS) s.heap.objs.size hSf ts hn.symm hnd (fun i v hv => texts_at hi i v (by simpa using hv)) (by rw [hn]; exact hb) (items.toArray.size - 0) 0 _ (by omega) (Nat.zero_le _)
        ⟨⟨_, Heap.get?_push_size _ rfl, rfl, rfl⟩, hl1.push _⟩ ?_ ?_
      · exact setOf_as ((setObjOf_fresh (knd := PySem.strKind prog w) led).setOf (Heap.get?_push_of_some _ hS) (by unfold scanBound; omega)) (fun _ => by simp [among]) rfl
      · rintro ⟨h', g', d', tk', os'⟩ hm hS'
        obtain rfl : g' = s.gens := hm.gens
        obtain rfl : d' = s.drawn := hm.drawn
        obtain rfl : os' = s.os := hm.os
        rw [hn] at hS'
        refine ⟨rfl, h', tk', rfl, hS', fun b o hb e => ?_⟩
        refine hm.heap b o ?_ (Heap.get?_push_of_some _ (Heap.get?_push_of_some _ e))
        simp only [List.mem_cons, List.not_mem_nil, or_false, not_or]
        exact ⟨Nat.ne_of_lt hb, by rw [hsz]; exact Nat.ne_of_lt (Nat.lt_succ_of_lt hb)⟩
    · match r₂, hr₂ with
      | .error e, hr₂ => exact hr₂
      | .ok (.ret r), hr₂ =>
        obtain ⟨rfl, h', tk, rfl, hS', hk'⟩ := hr₂
        repeat (any_goals (first | assumption | wp_step))
        exact h _ _ _ rfl hS' hk'
theorem set_of_textsN {h₀ : Heap} {L l : Addr} {m : Str → Option Value} {news : List (Addr × Obj)} {items : List Value} {ts : List Str} {c : Nat} {Q : Value → Shared → Prop} (F : Fr h₀ L s.heap m) (N : News h₀ L s.heap news) (hm : (l, listOf items.toArray c) ∈ news)
    (hh : A.handled = none) (hi : StrsAre items ts) (hnd : ts.Nodup) (hb : ts.length + 1 < scanBound)
    (h : ∀ D h' tk o, Fr h₀ L h' m → News h₀ L h' ((D, o) :: news) → (∀ p ∈ news, p.1 < D) → o.SetObjOf (PySem.strKind prog w) (among ts ts.length) ts.length → Q (.ref D) { s with heap := h', toks := tk }) :
    wpAny (model prog w) A (call (.type "set") [.ref l]) Q E s := by
  refine set_of_texts hh (N.isList hm) hi hnd hb fun D h' tk hD hS hk => ?_
  obtain ⟨o, ho, hso⟩ := hS.objOf
  obtain ⟨oL, _, _, hL, _⟩ := F.ns
  have hLlt : L < D := by rw [hD]; exact Heap.lt_size hL
  refine h D h' tk o ⟨F.ns.at' fun o' e => hk L o' hLlt e, fun b o' e => hk b o' (by rw [hD]; exact Heap.lt_size (F.keep b o' e)) (F.keep b o' e), F.above⟩ (fun p hp => ?_) (fun p hp => by rw [hD]; exact Heap.lt_size (N p hp).1) hso
  rcases List.mem_cons.mp hp with rfl | hp
  · refine ⟨ho, Nat.ne_of_gt hLlt, ?_⟩
    cases hq : h₀.get? D with
    | none => rfl
    | some o' =>
      have := Heap.lt_size (F.keep _ _ hq)
      rw [hD] at this
      exact absurd this (Nat.lt_irrefl _)
  · have z := N p hp
    exact ⟨hk _ _ (by rw [hD]; exact Heap.lt_size z.1) z.1, z.2⟩
theorem len_of_set {h₀ : Heap} {L D : Addr} {o : Obj} {news : List (Addr × Obj)} {ts : List Str} {Q : Value → Shared → Prop} (N : News h₀ L s.heap ((D, o) :: news)) (ho : o.SetObjOf (PySem.strKind prog w) (among ts ts.length) ts.length) (hfit : (ts.length : Int) < 2 ^ 63)
    (h : Q (.int ts.length (s.toks + 1)) { s with toks := s.toks + 1 + 1 }) : wpAny (model prog w) A (call (.builtin "len") [.ref D]) Q E s := len_sl1 (own := []) N ho hfit h
end
end

section -- L2
theorem fm6 (x : Int) : 0 ≤ Int.fmod x 6 ∧ Int.fmod x 6 < 6 := ⟨Int.fmod_nonneg_of_pos _ (by decide), Int.fmod_lt_of_pos _ (by decide)⟩
theorem p6 (n : Nat) : (6 : Int) ^ n ≠ 0 := by
  have : (0 : Int) < 6 ^ n := Int.pow_pos (by decide)
  omega
theorem p7 {n : Nat} (h : n ≤ 3) : ((6 : Int) ^ ((n : Int).toNat)).natAbs < 1073741824 := by
  obtain rfl | rfl | rfl | rfl : n = 0 ∨ n = 1 ∨ n = 2 ∨ n = 3 := by omega
  all_goals decide
theorem txt_snoc (D : List Nat) (d : Nat) : txt (D ++ [d]) = txt D ++ Str.mk #[48 + d] := by
  refine PySem.Str.ext' (Array.toList_inj.mp ?_)
  rw [PySem.Str.cps_append, Array.toList_append]
  simp [txt]
theorem txt_len (D : List Nat) : (txt D).length = D.length := by simp [txt, PySem.Str.length]
/-- the order that the law draws for the vertex -/
def ordAt (K : Nat) (c1 : Int) (v : List Nat) : List Nat := ordL K ((c1.fdiv (6 ^ (numOf K v))).fmod 6).toNat
section
local macro_rules | `(tactic| k_room) => `(tactic| ktr_room)
local macro_rules | `(tactic| walk_at "call ref") => `(tactic| (k_here; (with_reducible show wpAny _ _ (call (Value.ref 299) _) _ _ _); refine Held.out ?_))
local macro_rules | `(tactic| walk_at "call ref") => `(tactic| (k_here; (with_reducible show wpAny _ _ (call (Value.ref 397) _) _ _ _); refine Held.out ?_))
local macro_rules | `(tactic| walk_at "binaryOp FloorDiv int int") => `(tactic| (k_here; (with_reducible refine floordiv_int (by assumption) ?_ (Or.inl (PyProof.noPylong_small (by assumption))))))
theorem ord_loop (prog : Program) (w : World) (mean : ExcName → Option Value) (mg mb : Str → Option Value)
   (dp un : Nat) (gd : Option (List Code)) (cs : Scope) (a : Addr) (ccd : Value) (outer : List Env) (A₀ : Around) (base h₀ : Heap) (L : Addr) (m : Str → Option Value) (s : Shared) (Q : Flow → Shared → Prop) (E : Value → Shared → Prop)
   (oRow oSize : Obj) (lc : Addr) (ws : List Value) (ns : List Int) (nn K num : Nat) (c1 : Int) (v R : List Nat) (t1 t2 t3 t4 : Tok) (hcs : scopeOf lawDef = some cs)
   (B : Below A₀ base outer h₀) (F : Fr h₀ L s.heap m) (X : (hk.heap_39 w.params).In h₀) (N : News h₀ L s.heap [(L + 1 + 1, oRow), (L + 1, oSize), (lc, listOf ws.toArray nn)])
   (TT : Top hk.view_39 (looseW hk.view_39 [Str.ofString "SnobolError", Str.ofString "plain_count"]) mean mg mb h₀)
   (hdp : dp + 40 < recursionLimit) (hun : un + 200 < cLine)
   (hE : PassesOwn (model prog w) (ktrTop dp un gd "law" cs L a ccd (lawCl L) outer) (envX "law" cs L a ccd (lawCl L)) E)
   (hm1 : m "last" = some (.str (txt v) t1)) (hm2 : m "kinds" = some (.int K t2)) (hm3 : m "number" = some (.int num t3)) (hm4 : m "cells" = some (.ref lc)) (hm5 : m "goes_on" = some (.bool false))
   (hK : 2 ≤ K ∧ K ≤ 4) (hnum : num = numOf K v) (hnum3 : num ≤ 3) (hvl : v.length ≤ 2) (hRl : R.length ≤ 20) (hrow : oRow.data = .cell (some (.str (txt R) t4)))
   (hws : IntsAre ws ns) (hns : ns.length = 2) (hc1 : ns.getD 1 0 = c1) (hlc : @LT.lt Nat _ (L + 1 + 1) lc)
   (hQ0 : (∀ d ∈ ordAt K c1 v, hasWord (txt R) (txt (v ++ [d])) = true) → ∀ h' tk' m', (∀ z, z ≠ Str.ofString "sign" → m' z = m z) → Fr h₀ L h' m' → News h₀ L h' [(L + 1 + 1, oRow), (L + 1, oSize), (lc, listOf ws.toArray nn)] → Q .next { s with heap := h', toks := tk' })
   (hQ1 : ∀ d pre post, ordAt K c1 v = pre ++ d :: post → (∀ e ∈ pre, hasWord (txt R) (txt (v ++ [e])) = true) → hasWord (txt R) (txt (v ++ [d])) = false → ∀ h' tk' m' oRow' t', oRow'.data = .cell (some (.str (txt (R ++ [d])) t')) → (∀ z, z ≠ Str.ofString "sign" → z ≠ Str.ofString "goes_on" → m' z = m z) → m' "goes_on" = some (.bool true) → Fr h₀ L h' m' →
      News h₀ L h' [(L + 1 + 1, oRow'), (L + 1, oSize), (lc, listOf ws.toArray nn)] → Q .next { s with heap := h', toks := tk' }) :
   wpAny (model prog w) (ktrTop dp un gd "law" cs L a ccd (lawCl L) outer) (exec (turnStmt 2) (envX "law" cs L a ccd (lawCl L))) Q E s := by
  have e : scopeOf lawDef = some ⟨_, _, _, _, _⟩ := rfl
  rw [e] at hcs
  cases hcs
  clear e
  refine exec_as (st' := .For _ _ _ _ _) rfl ?_
  refine For_invVF F rfl rfl ?_ (hE := hE)
  have hkm : ∀ z, kstB m [(Str.ofString "last", .str (txt v) t1), (Str.ofString "kinds", .int K t2), (Str.ofString "number", .int num t3), (Str.ofString "cells", .ref lc), (Str.ofString "goes_on", .bool false)] z = m z := by
    intro z
    refine kstB_eq ?_ (fun _ => rfl)
    simp only [List.forall_mem_cons, List.not_mem_nil, false_implies, implies_true, and_true]
    exact ⟨hm1, hm2, hm3, hm4, hm5⟩
  have F2 : Fr h₀ L s.heap (kstB m [(Str.ofString "last", .str (txt v) t1), (Str.ofString "kinds", .int K t2), (Str.ofString "number", .int num t3), (Str.ofString "cells", .ref lc), (Str.ofString "goes_on", .bool false)]) := by
    rw [funext hkm]; exact F
  clear F
  dsimp only [kstB] at F2
  have hp6 : (6 : Int) ^ ((num : Int).toNat) ≠ 0 := p6 _
  have hp7 : ((6 : Int) ^ ((num : Int).toNat)).natAbs < 1073741824 := p7 hnum3
  have hws2 : ws.length = 2 := by rw [hws.length]; exact hns
  k_steps
  unfold Held
  refine lo_spec prog w (K : Int) _ (by omega) (by omega) (fm6 _).1 (fm6 _).2 mean mg mb dp un gd _ _ a ccd _ outer A₀ base h₀ L _ _ _ _ _ t2 _ B F2 X N TT rfl (by omega) (by omega) ?_
  intro t9 h9 tk9 F9 N9
  have hord : ordL (K : Int).toNat (((ns.getD (Int.toNat 1) 0).fdiv (6 ^ ((num : Int).toNat))).fmod 6).toNat = ordAt K c1 v := by
    unfold ordAt; rw [← hnum, ← hc1]; rfl
  rw [hord]
  clear hord N F2 hp6 hp7
  refine KStt.kst_text (σ := Unit) (fun _ => [(L + 1 + 1, oRow), (L + 1, oSize), (lc, listOf ws.toArray nn)]) (fun _ => []) (fun _ => True) []
    (fun pre _ => ∃ D1 D2, ordAt K c1 v = D1 ++ D2 ∧ pre = (D1.map fun d => ((48 + d : Nat) : Int)) ∧ ∀ e ∈ D1, hasWord (txt R) (txt (v ++ [e])) = true) () rfl F9 N9 trivial (List.forall_mem_nil _) ⟨[], _, rfl, rfl, List.forall_mem_nil _⟩ ?_ ?_
  · rintro ⟨⟩ pre post n t u h tk own e off _ ⟨D1, D2, hD', hp, hc⟩ F3 N3
    obtain ⟨d, D3, rfl, rfl⟩ := cut_at e hD' hp
    clear F9 N9 hm1 hm2 hm3 hm4 hm5
    simp only [List.map_cons, List.map_nil] at off
    try dsimp only [kstB] at F3
    simp only [List.contains_nil, Bool.false_eq_true, if_false] at F3
    simp only [List.cons_append, List.nil_append] at N3
    try dsimp only [envX] at N3 F3
    have hl1 : (txt v).length ≤ 2 := by rw [txt_len]; exact hvl
    have hl2 : (Str.mk #[48 + d]).length ≤ 1 := Nat.le_refl _
    have hl3 : (txt R).length ≤ 20 := by rw [txt_len]; exact hRl
    k_steps
    unfold Held
    rename @LT.lt Nat _ _ _ ∧ @LT.lt Nat _ _ _ ∧ @LT.lt Nat _ _ _ ∧ @LT.lt Nat _ _ _ ∧ @LT.lt Nat _ _ _ ∧ @LT.lt Nat _ _ _ ∧ AllLt _ own => hlt
    rename News _ _ _ _ => nE'
    rename Fr _ _ _ _ => fE'
    refine' mp_spec prog w mean mg mb dp un gd _ _ a ccd _ outer A₀ base h₀ L _ _ _ _ ((L + 1 + 1, oRow) :: (L + 1, oSize) :: (lc, listOf ws.toArray nn) :: own) _ _ _ (txt v ++ Str.mk #[48 + d]) (txt R) _ _ _ _ _ _ _ _ _ _ _ _ _ _ _ B fE' X (kst_newsOf nE' ?sub) ?hx ?hn ?hrest TT ?hk ?hdp ?hun ?hlr ?hlw ?ret
    case sub =>
      refine List.forall_mem_cons.mpr ⟨by k_mem, List.forall_mem_cons.mpr ⟨by k_mem, List.forall_mem_cons.mpr ⟨by k_mem, ?_⟩⟩⟩
      intro p hp
      repeat (first | exact hp | refine List.Mem.tail _ ?_)
    case hx => assumption
    case hk => rfl
    case hdp => omega
    case hun => omega
    case hlr => omega
    case hlw => omega
    case hn => exact hlt.2.2.1
    case hrest => exact ktn_ltOf (show AllLt _ _ from ⟨hlt.2.2.2.1, hlt.2.2.2.2.1, hlt.2.2.2.2.2.1, hlt.2.2.2.2.2.2⟩)
    case ret =>
      intro r h9 tk9 hr F9 N9
      clear fE' nE' hlt
      rename PyProof.V.FlatPairs _ _ _ => zq1
      clear zq1
      rename PyProof.V.FlatPairs _ _ _ => zq1
      clear zq1
      rename Obj.IsDictOf _ _ _ => zq1
      clear zq1
      rename Obj.IsDictOf _ _ _ => zq1
      clear zq1
      obtain ⟨hw, D, rfl⟩ | ⟨hw, rfl⟩ := hr
      · dsimp only
        k_steps
        rw [← txt_snoc] at hw
        refine kst_end () F9 N9 (fun p hp => List.Mem.tail _ (show p ∈ [(L + 1 + 1, oRow), (L + 1, oSize), (lc, listOf ws.toArray nn)] ++ own from List.mem_append.mpr (Or.inl hp))) (fun p hp => List.Mem.tail _ (show p ∈ [(L + 1 + 1, oRow), (L + 1, oSize), (lc, listOf ws.toArray nn)] ++ own from List.mem_append.mpr (Or.inr hp))) rfl trivial (List.forall_mem_nil _) ?hr ⟨D1 ++ [d], D3, ?h1, ?h2, ?h3⟩
        case hr =>
          intro z h1 _ _
          simp only [h1, if_false]
        case h1 => rw [hD', List.append_assoc]; rfl
        case h2 => rw [hp, List.map_append]; rfl
        case h3 =>
          intro e he
          rcases List.mem_append.mp he with he | he
          · exact hc e he
          · rw [List.mem_singleton.mp he]; exact hw
      · dsimp only
        k_steps
        rename Obj.data _ = Data.cell _ => dE'
        rename News _ _ _ _ => nE'
        rename Fr _ _ _ _ => fE'
        rw [← txt_snoc] at hw dE'
        refine hQ1 d D1 D3 hD' hc hw _ _ _ _ _ dE' ?_ ?_ fE' ?_
        · intro z h1 h2
          have h3 := hkm z
          dsimp only [kstB] at h3
          simp only [h2, if_false] at h3
          simp only [h1, h2, if_false]
          exact h3
        · rfl
        · intro p hp
          refine nE' p (.tail _ (.tail _ ?_))
          exact (show p ∈ [(L + 1 + 1, _), (L + 1, oSize), (lc, listOf ws.toArray nn)] ++ own from List.mem_append.mpr (Or.inl hp))
  · rintro ⟨⟩ u h tk _ ⟨D1, D2, hD', hp, hc⟩ F3 N3
    have hl : D2 = [] := by
      rw [codes_txt] at hp
      have h1 := congrArg List.length hD'
      have h2 := congrArg List.length hp
      simp only [List.length_map, List.length_append] at h1 h2
      exact List.length_eq_zero_iff.mp (by omega)
    subst hl
    rw [List.append_nil] at hD'
    refine hQ0 (by rw [hD']; exact hc) h tk _ ?_ F3 N3
    intro z h1
    dsimp only [kstB]
    simp only [h1, if_false, List.contains_nil, Bool.false_eq_true]
    exact hkm z
end
end

section -- L3
theorem nodup_txt {l : List (List Nat)} (h : l.Nodup) : (l.map txt).Nodup := List.pairwise_map.mpr (h.imp fun hne e => hne (txt_inj e))
section
local macro_rules | `(tactic| k_room) => `(tactic| ktr_room)
theorem st0 (prog : Program) (w : World) (mean : ExcName → Option Value) (mg mb : Str → Option Value)
   (dp un : Nat) (gd : Option (List Code)) (cs : Scope) (a : Addr) (ccd : Value) (outer : List Env) (A₀ : Around) (base h₀ : Heap) (L : Addr) (m : Str → Option Value) (s : Shared) (Q : Flow → Shared → Prop) (E : Value → Shared → Prop)
   (oRow oSize : Obj) (lc : Addr) (ws : List Value) (nn n : Nat) (R : List Nat) (t4 t5 : Tok) (hcs : scopeOf lawDef = some cs)
   (B : Below A₀ base outer h₀) (F : Fr h₀ L s.heap m) (X : (hk.heap_39 w.params).In h₀) (N : News h₀ L s.heap [(L + 1 + 1, oRow), (L + 1, oSize), (lc, listOf ws.toArray nn)])
   (TT : Top hk.view_39 (looseW hk.view_39 [Str.ofString "SnobolError", Str.ofString "plain_count"]) mean mg mb h₀)
   (hdp : dp + 40 < recursionLimit) (hun : un + 200 < cLine)
   (hE : PassesOwn (model prog w) (ktrTop dp un gd "law" cs L a ccd (lawCl L) outer) (envX "law" cs L a ccd (lawCl L)) E)
   (hn1 : 1 ≤ n) (hnR : n ≤ R.length) (hRl : R.length ≤ 20) (hrow : oRow.data = .cell (some (.str (txt R) t4))) (hsize : oSize.data = .cell (some (.int n t5)))
   (hlc : @LT.lt Nat _ (L + 1 + 1) lc)
   (hQ : ∀ h' tk' m' tl tn, m' (Str.ofString "last") = some (.str (txt (R.drop (R.length - n + 1))) tl) → m' (Str.ofString "number") = some (.int 0 tn) → m' (Str.ofString "goes_on") = some (.bool false) → (∀ z, z ≠ Str.ofString "last" → z ≠ Str.ofString "number" → z ≠ Str.ofString "goes_on" → m' z = m z) → Fr h₀ L h' m' → News h₀ L h' [(L + 1 + 1, oRow), (L + 1, oSize), (lc, listOf ws.toArray nn)] → Q .next { s with heap := h', toks := tk' }) :
   wpAny (model prog w) (ktrTop dp un gd "law" cs L a ccd (lawCl L) outer) (exec (turnStmt 0) (envX "law" cs L a ccd (lawCl L))) Q E s := by
  have e : scopeOf lawDef = some ⟨_, _, _, _, _⟩ := rfl
  rw [e] at hcs
  cases hcs
  clear e
  refine exec_as (st' := .Assign _ _ _) rfl ?_
  have hl3 : (txt R).length ≤ 20 := by simp [txt, PySem.Str.length]; exact hRl
  k_steps
  rename News _ _ _ _ => nE'
  rename Fr _ _ _ _ => fE'
  have e : Txt.slice (txt R) (some (((txt R).length : Int) - (n : Int) + 1)) none = txt (R.drop (R.length - n + 1)) := by
    have e1 : ((txt R).length : Int) - (n : Int) + 1 = ((R.length - n + 1 : Nat) : Int) := by rw [txt_length]; omega
    rw [e1]
    exact slice_txt_from R _ (by omega)
  rw [e] at fE'
  refine hQ _ _ _ _ _ rfl rfl rfl ?_ fE' (fun p hp => nE' p (.tail _ hp))
  intro z h1 h2 h3
  simp only [h1, h2, h3, if_false]
local macro_rules | `(tactic| walk_at "CompSrc") => `(tactic| (refine Held.out ?_))
theorem st34 (prog : Program) (w : World) (mean : ExcName → Option Value) (mg mb : Str → Option Value)
   (dp un : Nat) (gd : Option (List Code)) (cs : Scope) (a : Addr) (ccd : Value) (outer : List Env) (A₀ : Around) (base h₀ : Heap) (L : Addr) (m : Str → Option Value) (s : Shared) (Q : Flow → Shared → Prop) (E : Value → Shared → Prop)
   (oRow oSize : Obj) (lc : Addr) (ws : List Value) (nn n : Nat) (R : List Nat) (t4 t5 : Tok) (hcs : scopeOf lawDef = some cs)
   (B : Below A₀ base outer h₀) (F : Fr h₀ L s.heap m) (X : (hk.heap_39 w.params).In h₀) (N : News h₀ L s.heap [(L + 1 + 1, oRow), (L + 1, oSize), (lc, listOf ws.toArray nn)])
   (TT : Top hk.view_39 (looseW hk.view_39 [Str.ofString "SnobolError", Str.ofString "plain_count"]) mean mg mb h₀)
   (hdp : dp + 40 < recursionLimit) (hun : un + 200 < cLine)
   (hE : PassesOwn (model prog w) (ktrTop dp un gd "law" cs L a ccd (lawCl L) outer) (envX "law" cs L a ccd (lawCl L)) E)
   (hn1 : 1 ≤ n) (hnR : n ≤ R.length) (hRl : R.length ≤ 20) (hrow : oRow.data = .cell (some (.str (txt R) t4))) (hsize : oSize.data = .cell (some (.int n t5)))
   (hlc : @LT.lt Nat _ (L + 1 + 1) lc) (hnd : (words n R).Nodup)
   (hQ : ∀ h' tk' m' D ys, m' (Str.ofString "words") = some (.ref D) → StrsAre ys ((words n R).map txt) → (∀ z, z ≠ Str.ofString "words" → m' z = m z) → Fr h₀ L h' m' → News h₀ L h' [(D, LCg.lst ys), (L + 1 + 1, oRow), (L + 1, oSize), (lc, listOf ws.toArray nn)] → Q .next { s with heap := h', toks := tk' }) :
   wpAny (model prog w) (ktrTop dp un gd "law" cs L a ccd (lawCl L) outer) (execs [turnStmt 3, turnStmt 4] (envX "law" cs L a ccd (lawCl L))) Q E s := by
  have e : scopeOf lawDef = some ⟨_, _, _, _, _⟩ := rfl
  rw [e] at hcs
  cases hcs
  clear e
  have e3 : turnStmt 3 = .Assign _ _ _ := rfl
  have e4 : turnStmt 4 = .If _ _ _ _ := rfl
  rw [e3, e4]
  clear e3 e4
  have hl3 : (txt R).length ≤ 20 := by simp [txt, PySem.Str.length]; exact hRl
  have hl4 : (txt R).length = R.length := by simp [txt, PySem.Str.length]
  k_steps
  unfold Held
  refine LCg.CompSrc.range (by rfl) (by k_asm) (by k_asm) (by assumption) (small_one (by omega) (by omega) (by omega) (by omega)) (rangeSize_nat _ _) (by rw [PySem.sizeLine_eq]; omega) ?_
  intro g'
  refine' kct_range (fun k => Txt.slice (txt R) (some k) (some (k + (n : Int)))) (fun k' t' I' oI' C' oC' D' m' ys' h' tk' E' hlo' hhi' hC' hx' F' N' off' ne' => ?_) ?_
  · simp only [LCg.Off3, and_true] at off'
    intro hMark'
    k_steps
  · unfold KPfDone
    intro ys hys hlen
    have hsl : ((rangeKs 0 ((((txt R).length : Int) - (n : Int)) + 1 - 0).toNat).map fun k => PyData.str (Txt.slice (txt R) (some k) (some (k + (n : Int))))) = ((words n R).map txt).map PyData.str := by
      rw [hl4, ← rangeKs_words hnR, List.map_map]; rfl
    rw [hsl] at hys
    have hS := strs_of_carried hys
    have hwl : (words n R).length ≤ 20 := by unfold words; rw [List.length_map, List.length_range]; omega
    have hnd2 : ((words n R).map txt).Nodup := nodup_txt hnd
    clear hys hsl hlen
    unfold LCg.FinA
    intro D hh tk F3 N3 off
    simp only [LCg.Off1, and_true] at off
    k_steps
    have hwl2 : ((words n R).map txt).length ≤ 20 := by rw [List.length_map]; exact hwl
    refine set_of_textsN F3 N3 (.head _) rfl hS hnd2 (by unfold scanBound; omega) ?_
    intro D2 h2 tk2 o2 F4 N4 l4 ho2
    dsimp only
    k_steps
    · exfalso
      rename _ ≠ _ => hbad
      exact hbad rfl
    · rename News _ _ _ _ => nE'
      rename StrsAre _ _ => sE'
      refine hQ _ _ _ D ys rfl sE' ?_ F4 (fun p hp => nE' p (.tail _ hp))
      intro z h1
      simp only [h1, if_false]
end
end

section -- P2
/-! the plain law: a row made greedily, nought last, holds each word once and ends as it began -/
/-- the i-th word -/
def wd (n : Nat) (R : List Nat) (i : Nat) : List Nat := (R.drop i).take n
theorem wd_length {n i : Nat} {R : List Nat} (h : i + n ≤ R.length) : (wd n R i).length = n := by
  unfold wd; rw [List.length_take, List.length_drop]; omega
theorem wd_mem {n i : Nat} {R : List Nat} (h : i ≤ R.length - n) : wd n R i ∈ words n R := mem_words.mpr ⟨i, h, rfl⟩
theorem wd_unique {n i j : Nat} {R : List Nat} (hnd : (words n R).Nodup) (hi : i ≤ R.length - n) (hj : j ≤ R.length - n) (e : wd n R i = wd n R j) : i = j := by
  have key : ∀ a b, a < b → b ≤ R.length - n → wd n R a ≠ wd n R b := by
    intro a b hab hb
    have h := List.pairwise_iff_getElem.mp hnd a b (by unfold words; rw [List.length_map, List.length_range]; omega) (by unfold words; rw [List.length_map, List.length_range]; omega) hab
    unfold words at h
    rw [List.getElem_map, List.getElem_map, List.getElem_range, List.getElem_range] at h
    exact h
  rcases Nat.lt_trichotomy i j with h | h | h
  · exact absurd e (key i j h hj)
  · exact h
  · exact absurd e.symm (key j i h hi)
theorem wd_front {m i : Nat} {R : List Nat} (h : i < R.length) : wd (m + 1) R i = R.getD i 0 :: wd m R (i + 1) := by
  unfold wd
  rw [List.drop_eq_getElem_cons h, List.take_succ_cons, List.getD_eq_getElem?_getD, List.getElem?_eq_getElem h]
  rfl
theorem wd_back {m i : Nat} {R : List Nat} (h : i + m < R.length) : wd (m + 1) R i = wd m R i ++ [R.getD (i + m) 0] := by
  unfold wd
  rw [List.take_add_one, List.getElem?_drop, List.getD_eq_getElem?_getD, List.getElem?_eq_getElem h]
  rfl
/-- a list without a double that is as long as the numbers below K, all below K, holds each -/
theorem all_of_full {K : Nat} {l : List Nat} (hnd : l.Nodup) (hlt : ∀ a ∈ l, a < K) (hlen : K ≤ l.length) : ∀ a, a < K → a ∈ l := by
  intro a ha
  refine Classical.byContradiction fun hn => ?_
  have h1 : (a :: l).Nodup := List.nodup_cons.mpr ⟨hn, hnd⟩
  have h2 := List.Nodup.length_le_of_subset h1 (l₂ := List.range K) (fun x hx => List.mem_range.mpr (by
    rcases List.mem_cons.mp hx with rfl | hx
    · exact ha
    · exact hlt x hx))
  rw [List.length_range, List.length_cons] at h2
  omega
theorem le_of_below {K : Nat} {l : List Nat} (hnd : l.Nodup) (hlt : ∀ a ∈ l, a < K) : l.length ≤ K := by
  have h2 := List.Nodup.length_le_of_subset hnd (l₂ := List.range K) (fun x hx => List.mem_range.mpr (hlt x hx))
  rwa [List.length_range] at h2

section
variable {K m : Nat} {R : List Nat}
/-- places behind the first one at which y stands: no more than K; if K, each sign stands ahead of y -/
theorem ahead (hnd : (words (m + 1) R).Nodup) (hR : m + 1 ≤ R.length) (hd : ∀ d ∈ R, d < K) {y : List Nat} {ps : List Nat} (hp : ps.Nodup) (h1 : ∀ i ∈ ps, 1 ≤ i ∧ i ≤ R.length - m ∧ wd m R i = y) :
    ps.length ≤ K ∧ (K ≤ ps.length → ∀ a, a < K → (a :: y) ∈ words (m + 1) R) := by
  have hw : ∀ i ∈ ps, wd (m + 1) R (i - 1) = R.getD (i - 1) 0 :: y := by
    intro i hi
    obtain ⟨a, b, c⟩ := h1 i hi
    rw [wd_front (by omega), show i - 1 + 1 = i by omega, c]
  have hl : (ps.map fun i => R.getD (i - 1) 0).Nodup := by
    refine List.pairwise_map.mpr (List.Pairwise.imp_of_mem (fun {i j} hi hj hne e => ?_) hp)
    have e2 : wd (m + 1) R (i - 1) = wd (m + 1) R (j - 1) := by rw [hw i hi, hw j hj, e]
    have h3 := h1 i hi
    have h4 := h1 j hj
    have := wd_unique hnd (by omega) (by omega) e2
    omega
  have hlt : ∀ a ∈ ps.map (fun i => R.getD (i - 1) 0), a < K := by
    intro a ha
    obtain ⟨i, hi, rfl⟩ := List.mem_map.mp ha
    have h3 := h1 i hi
    have hi' : i - 1 < R.length := by omega
    rw [List.getD_eq_getElem?_getD, List.getElem?_eq_getElem hi']
    exact hd _ (List.getElem_mem hi')
  refine ⟨by have := le_of_below hl hlt; rwa [List.length_map] at this, fun hK a ha => ?_⟩
  obtain ⟨i, hi, rfl⟩ := List.mem_map.mp (all_of_full hl hlt (by rw [List.length_map]; exact hK) a ha)
  rw [← hw i hi]
  have := h1 i hi
  exact wd_mem (by omega)
/-- the places of the words y d -/
theorem places (hnd : (words (m + 1) R).Nodup) (hR : m + 1 ≤ R.length) {y : List Nat} (hy : y.length = m) (hall : ∀ d, d < K → y ++ [d] ∈ words (m + 1) R) :
    ∃ ps : List Nat, ps.Nodup ∧ ps.length = K ∧ ∀ i ∈ ps, i ≤ R.length - (m + 1) ∧ wd m R i = y := by
  have hc : ∀ d, ∃ i, d < K → i ≤ R.length - (m + 1) ∧ wd (m + 1) R i = y ++ [d] := by
    intro d
    by_cases h : d < K
    · obtain ⟨i, h1, h2⟩ := mem_words.mp (hall d h)
      exact ⟨i, fun _ => ⟨h1, h2⟩⟩
    · exact ⟨0, fun h' => absurd h' h⟩
  refine ⟨(List.range K).map fun d => (hc d).choose, ?_, by rw [List.length_map, List.length_range], ?_⟩
  · refine List.pairwise_map.mpr (List.Pairwise.imp_of_mem (fun {a b} ha hb hne e => ?_) (List.nodup_range (n := K)))
    have h1 := (hc a).choose_spec (List.mem_range.mp ha)
    have h2 := (hc b).choose_spec (List.mem_range.mp hb)
    rw [e] at h1
    have := h1.2.symm.trans h2.2
    exact hne (by simpa using this)
  · intro i hi
    obtain ⟨d, hd, rfl⟩ := List.mem_map.mp hi
    have h1 := (hc d).choose_spec (List.mem_range.mp hd)
    refine ⟨h1.1, ?_⟩
    have h2 := h1.2
    rw [wd_back (by omega)] at h2
    exact (List.append_inj h2 (by rw [wd_length (by omega), hy])).1
/-- what holds between the turns -/
structure Inv (K m : Nat) (R : List Nat) : Prop where
  len : m + 1 ≤ R.length
  below : ∀ d ∈ R, d < K
  starts : wd m R 0 = List.replicate m 0
  unlike : (words (m + 1) R).Nodup
  last0 : ∀ y : List Nat, y.length = m → y ++ [0] ∈ words (m + 1) R → y = List.replicate m 0 ∨ ∀ d, d < K → y ++ [d] ∈ words (m + 1) R
/-- the last signs -/
abbrev tl (m : Nat) (R : List Nat) : List Nat := R.drop (R.length - m)
theorem tl_wd (h : m ≤ R.length) : tl m R = wd m R (R.length - m) := by
  unfold wd
  rw [List.take_of_length_le (by rw [List.length_drop]; omega)]
theorem enter_all (I : Inv K m R) {y : List Nat} (hy : y.length = m) (hall : ∀ d, d < K → y ++ [d] ∈ words (m + 1) R) (h0 : y ≠ List.replicate m 0) : ∀ a, a < K → (a :: y) ∈ words (m + 1) R := by
  obtain ⟨ps, hp, hl, h1⟩ := places I.unlike I.len hy hall
  refine (ahead I.unlike I.len I.below hp fun i hi => ?_).2 (Nat.le_of_eq hl.symm)
  obtain ⟨a, b⟩ := h1 i hi
  have hl := I.len
  refine ⟨?_, by omega, b⟩
  rcases Nat.eq_zero_or_pos i with h | h
  · subst h
    exact absurd (b.symm.trans I.starts) h0
  · exact h
theorem stuck (I : Inv K m R) (hall : ∀ d, d < K → tl m R ++ [d] ∈ words (m + 1) R) : tl m R = List.replicate m 0 ∧ ∀ a, a < K → (a :: List.replicate m 0) ∈ words (m + 1) R := by
  have hR := I.len
  have hy : (tl m R).length = m := by rw [List.length_drop]; omega
  obtain ⟨ps, hp, hl, h1⟩ := places I.unlike I.len hy hall
  have hlast : wd m R (R.length - m) = tl m R := (tl_wd (by omega)).symm
  have hnew : R.length - m ∉ ps := fun h => by have := (h1 _ h).1; omega
  have hp2 : ((R.length - m) :: ps).Nodup := List.nodup_cons.mpr ⟨hnew, hp⟩
  have e0 : tl m R = List.replicate m 0 := by
    refine Classical.byContradiction fun h0 => ?_
    have := (ahead (y := tl m R) I.unlike I.len I.below hp2 fun i hi => by
      rcases List.mem_cons.mp hi with rfl | hi
      · exact ⟨by omega, Nat.le_refl _, hlast⟩
      · obtain ⟨a, b⟩ := h1 i hi
        refine ⟨?_, by omega, b⟩
        rcases Nat.eq_zero_or_pos i with h | h
        · subst h
          exact absurd (b.symm.trans I.starts) h0
        · exact h).1
    rw [List.length_cons] at this
    omega
  refine ⟨e0, ?_⟩
  have hp3 := hp2.erase 0
  refine (ahead (ps := ((R.length - m) :: ps).erase 0) I.unlike I.len I.below hp3 fun i hi => ?_).2 ?_
  · obtain ⟨hi0, hi⟩ := (List.Nodup.mem_erase_iff hp2).mp hi
    rw [← e0]
    rcases List.mem_cons.mp hi with rfl | hi
    · exact ⟨by omega, Nat.le_refl _, hlast⟩
    · obtain ⟨a, b⟩ := h1 i hi
      exact ⟨by omega, by omega, b⟩
  · rw [List.length_erase, List.length_cons]
    split <;> omega
theorem all_words (I : Inv K m R) (hall : ∀ d, d < K → tl m R ++ [d] ∈ words (m + 1) R) : ∀ j, j ≤ m → ∀ z : List Nat, z.length = j → (∀ d ∈ z, d < K) → ∀ a, a < K → (a :: (z ++ List.replicate (m - j) 0)) ∈ words (m + 1) R := by
  obtain ⟨_, hB⟩ := stuck I hall
  intro j
  induction j with
  | zero =>
    intro _ z hz _ a ha
    rw [List.length_eq_zero_iff.mp hz]
    exact hB a ha
  | succ j ih =>
    intro hj z hz hd a ha
    match z, hz with
    | b :: z', hz' =>
      rw [List.length_cons] at hz'
      have h1 := ih (by omega) z' (by omega) (fun d h => hd d (.tail _ h)) b (hd b (.head _))
      have e : b :: (z' ++ List.replicate (m - j) 0) = (b :: z' ++ List.replicate (m - (j + 1)) 0) ++ [0] := by
        rw [show m - j = (m - (j + 1)) + 1 by omega, List.replicate_succ']
        simp
      rw [e] at h1
      have hl : (b :: z' ++ List.replicate (m - (j + 1)) 0).length = m := by
        rw [List.length_append, List.length_cons, List.length_replicate]; omega
      by_cases h0 : b :: z' ++ List.replicate (m - (j + 1)) 0 = List.replicate m 0
      · rw [h0]; exact hB a ha
      · rcases I.last0 _ hl h1 with h2 | h2
        · exact absurd h2 h0
        · exact enter_all I hl h2 h0 a ha
/-- all words of one size -/
def allW (K : Nat) : Nat → List (List Nat)
  | 0 => [[]]
  | n + 1 => (List.range K).flatMap fun a => (allW K n).map (a :: ·)
theorem allW_length : ∀ n, (allW K n).length = K ^ n
  | 0 => rfl
  | n + 1 => by
    have ih := allW_length n
    rw [allW, List.length_flatMap, Nat.pow_succ]
    simp only [List.length_map, ih]
    rw [List.map_const', List.sum_replicate_nat, List.length_range, Nat.mul_comm]
theorem mem_allW : ∀ {n : Nat} {u : List Nat}, u ∈ allW K n ↔ u.length = n ∧ ∀ d ∈ u, d < K
  | 0, u => by
    rw [allW, List.mem_singleton]
    constructor
    · rintro rfl
      exact ⟨rfl, fun _ h => nomatch h⟩
    · exact fun h => List.length_eq_zero_iff.mp h.1
  | n + 1, u => by
    rw [allW, List.mem_flatMap]
    constructor
    · rintro ⟨a, ha, h⟩
      obtain ⟨t, ht, rfl⟩ := List.mem_map.mp h
      obtain ⟨h1, h2⟩ := mem_allW.mp ht
      refine ⟨by rw [List.length_cons, h1], fun d hd => ?_⟩
      rcases List.mem_cons.mp hd with rfl | hd
      · exact List.mem_range.mp ha
      · exact h2 d hd
    · rintro ⟨h1, h2⟩
      match u, h1 with
      | a :: t, h1 =>
        exact ⟨a, List.mem_range.mpr (h2 a (.head _)), List.mem_map.mpr ⟨t, mem_allW.mpr ⟨by simpa using h1, fun d hd => h2 d (.tail _ hd)⟩, rfl⟩⟩
theorem nodup_allW : ∀ n, (allW K n).Nodup
  | 0 => by rw [allW]; exact List.nodup_cons.mpr ⟨List.not_mem_nil, List.nodup_nil⟩
  | n + 1 => by
    have ih := nodup_allW n
    rw [allW, List.flatMap, List.nodup_iff_pairwise_ne, List.pairwise_flatten]
    refine ⟨fun l hl => ?_, ?_⟩
    · obtain ⟨a, _, rfl⟩ := List.mem_map.mp hl
      exact List.pairwise_map.mpr (ih.imp fun hne e => hne (by simpa using e))
    · refine List.pairwise_map.mpr ((List.nodup_range (n := K)).imp fun {a b} hne x hx y hy e => ?_)
      obtain ⟨x', _, rfl⟩ := List.mem_map.mp hx
      obtain ⟨y', _, rfl⟩ := List.mem_map.mp hy
      exact hne (by simp at e; exact e.1)
theorem words_below (I : Inv K m R) : ∀ u ∈ words (m + 1) R, u ∈ allW K (m + 1) := by
  intro u hu
  obtain ⟨i, hi, rfl⟩ := mem_words.mp hu
  have hR := I.len
  exact mem_allW.mpr ⟨wd_length (R := R) (by omega), fun d hd => I.below d (List.mem_of_mem_drop (List.mem_of_mem_take hd))⟩
theorem words_le (I : Inv K m R) : (words (m + 1) R).length ≤ K ^ (m + 1) := by
  rw [← allW_length]
  exact List.Nodup.length_le_of_subset I.unlike (words_below I)
theorem words_len : (words (m + 1) R).length = R.length - (m + 1) + 1 := by unfold words; rw [List.length_map, List.length_range]
theorem row_le (I : Inv K m R) : R.length ≤ K ^ (m + 1) + m := by
  have h := words_le I
  have hR := I.len
  rw [words_len] at h
  omega
/-- the end -/
theorem inv_done (I : Inv K m R) (hall : ∀ d, d < K → tl m R ++ [d] ∈ words (m + 1) R) : (words (m + 1) R).length = K ^ (m + 1) ∧ tl m R = List.replicate m 0 := by
  refine ⟨Nat.le_antisymm (words_le I) ?_, (stuck I hall).1⟩
  rw [← allW_length]
  refine List.Nodup.length_le_of_subset (nodup_allW _) fun u hu => ?_
  obtain ⟨h1, h2⟩ := mem_allW.mp hu
  match u, h1 with
  | a :: z, h1 =>
    have := all_words I hall m (Nat.le_refl _) z (by simpa using h1) (fun d hd => h2 d (.tail _ hd)) a (h2 a (.head _))
    simpa using this
theorem words_snoc (h : m + 1 ≤ R.length) (d : Nat) : words (m + 1) (R ++ [d]) = words (m + 1) R ++ [tl m R ++ [d]] := by
  unfold words
  have e : (R ++ [d]).length - (m + 1) + 1 = (R.length - (m + 1) + 1) + 1 := by rw [List.length_append, List.length_singleton]; omega
  rw [e, List.range_succ, List.map_append]
  congr 1
  · refine List.map_congr_left fun i hi => ?_
    have := List.mem_range.mp hi
    rw [List.drop_append_of_le_length (by omega), List.take_append_of_le_length (by rw [List.length_drop]; omega)]
  · rw [List.map_singleton, List.drop_append_of_le_length (by omega), List.take_of_length_le (by rw [List.length_append, List.length_drop, List.length_singleton]; omega)]
    rw [show R.length - (m + 1) + 1 = R.length - m by omega]
/-- a turn -/
theorem inv_step (I : Inv K m R) {d : Nat} (hd : d < K) (hnew : tl m R ++ [d] ∉ words (m + 1) R) (h0 : d = 0 → ∀ e, e ≠ 0 → e < K → tl m R ++ [e] ∈ words (m + 1) R) : Inv K m (R ++ [d]) := by
  have hw := words_snoc I.len d
  have hR := I.len
  have hy : (tl m R).length = m := by rw [List.length_drop]; omega
  refine ⟨by rw [List.length_append]; omega, fun e he => ?_, ?_, ?_, fun y hyl hm => ?_⟩
  · rcases List.mem_append.mp he with he | he
    · exact I.below e he
    · rw [List.mem_singleton.mp he]; exact hd
  · rw [← I.starts]
    unfold wd
    rw [List.drop_zero, List.drop_zero, List.take_append_of_le_length (by omega)]
  · rw [hw]
    exact List.nodup_append.mpr ⟨I.unlike, List.nodup_cons.mpr ⟨List.not_mem_nil, List.nodup_nil⟩, fun a ha b hb e => hnew (by rw [← List.mem_singleton.mp hb, ← e]; exact ha)⟩
  · rw [hw] at hm ⊢
    rcases List.mem_append.mp hm with hm | hm
    · rcases I.last0 y hyl hm with h | h
      · exact .inl h
      · exact .inr fun e he => List.mem_append.mpr (.inl (h e he))
    · have e := List.mem_singleton.mp hm
      obtain ⟨e1, e2⟩ := List.append_inj e (by rw [hyl, hy])
      have ed : d = 0 := by simpa using e2.symm
      refine .inr fun x hx => ?_
      by_cases hx0 : x = 0
      · refine List.mem_append.mpr (.inr ?_)
        rw [e1, hx0, ed]
        exact .head _
      · rw [e1]
        exact List.mem_append.mpr (.inl (h0 ed x hx0 hx))
/-- the start -/
theorem inv_start (hK : 0 < K) : Inv K m (List.replicate (m + 1) 0) := by
  have hw : words (m + 1) (List.replicate (m + 1) 0) = [List.replicate (m + 1) 0] := by
    unfold words
    rw [List.length_replicate, show m + 1 - (m + 1) + 1 = 1 by omega]
    show [(List.drop 0 (List.replicate (m + 1) 0)).take (m + 1)] = _
    rw [List.drop_zero, List.take_of_length_le (by rw [List.length_replicate]; exact Nat.le_refl _)]
  refine ⟨by rw [List.length_replicate]; exact Nat.le_refl _, fun d h => by rw [List.eq_of_mem_replicate h]; exact hK, ?_, ?_, fun y hy hm => .inl ?_⟩
  · unfold wd
    rw [List.drop_zero, List.take_replicate, Nat.min_eq_left (by omega)]
  · rw [hw]
    exact List.nodup_cons.mpr ⟨List.not_mem_nil, List.nodup_nil⟩
  · rw [hw] at hm
    have e := List.mem_singleton.mp hm
    rw [List.replicate_succ'] at e
    exact (List.append_inj e (by rw [hy, List.length_replicate])).1
end
end

section -- T1
/-! the orders that _law_order makes -/
theorem split0 : ∀ {q pre post : List Nat}, 0 ∉ q → pre ++ 0 :: post = q ++ [0] → pre = q
  | [], [], _, _, _ => rfl
  | [], b :: pre, post, _, e => by
    simp at e
  | a :: q, [], post, h, e => by
    simp only [List.nil_append, List.cons_append, List.cons.injEq] at e
    exact absurd (List.mem_cons.mpr (Or.inl e.1)) h
  | a :: q, b :: pre, post, h, e => by
    simp only [List.cons_append, List.cons.injEq] at e
    rw [e.1, split0 (fun h' => h (.tail _ h')) e.2]
def ordGood (K T : Nat) : Bool := match (ordL K T).getLast? with
  | some 0 => !((ordL K T).dropLast.contains 0) && (List.range K).all (fun d => (ordL K T).contains d) && (ordL K T).all (fun d => decide (d < K))
  | _ => false
theorem ord_good {K T : Nat} (hK2 : 2 ≤ K) (hK4 : K ≤ 4) (hT : T < 6) : ordGood K T = true := by
  obtain rfl | rfl | rfl : K = 2 ∨ K = 3 ∨ K = 4 := by omega
  all_goals (obtain rfl | rfl | rfl | rfl | rfl | rfl : T = 0 ∨ T = 1 ∨ T = 2 ∨ T = 3 ∨ T = 4 ∨ T = 5 := by omega)
  all_goals decide
theorem ord_facts {K T : Nat} (h : ordGood K T = true) : (∀ d, d < K → d ∈ ordL K T) ∧ (∀ d ∈ ordL K T, d < K) ∧ ∀ pre post, ordL K T = pre ++ 0 :: post → ∀ e, e ≠ 0 → e < K → e ∈ pre := by
  unfold ordGood at h
  split at h
  · rename_i hl
    simp only [Bool.and_eq_true, Bool.not_eq_true', List.all_eq_true, List.contains_iff_mem, decide_eq_true_iff, List.mem_range] at h
    obtain ⟨⟨h1, h2⟩, h3⟩ := h
    have h1' : 0 ∉ (ordL K T).dropLast := fun hm => by
      rw [← List.contains_iff_mem] at hm
      rw [hm] at h1
      cases h1
    have e : ordL K T = (ordL K T).dropLast ++ [0] := by
      obtain ⟨ys, hy⟩ := List.getLast?_eq_some_iff.mp hl
      rw [hy, List.dropLast_concat]
    refine ⟨h2, h3, fun pre post hp x hx0 hxK => ?_⟩
    have hq := split0 h1' (hp.symm.trans e)
    rw [hq]
    have := h2 x hxK
    rw [e] at this
    rcases List.mem_append.mp this with h | h
    · exact h
    · exact absurd (List.mem_singleton.mp h) hx0
  · cases h
theorem numOf_lt {K : Nat} (hK : 0 < K) : ∀ {v : List Nat}, (∀ d ∈ v, d < K) → numOf K v < K ^ v.length := by
  have key : ∀ (v : List Nat) (a n : Nat), a < K ^ n → (∀ d ∈ v, d < K) → v.foldl (fun a d => K * a + d) a < K ^ (n + v.length) := by
    intro v
    induction v with
    | nil => intro a n h _; simpa using h
    | cons d v ih =>
      intro a n h hd
      rw [List.foldl_cons, List.length_cons, show n + (v.length + 1) = (n + 1) + v.length by omega]
      refine ih _ _ ?_ fun x hx => hd x (.tail _ hx)
      have h1 := hd d (.head _)
      have h2 : K * (a + 1) ≤ K * K ^ n := Nat.mul_le_mul_left K h
      rw [Nat.mul_succ] at h2
      rw [Nat.pow_succ, Nat.mul_comm (K ^ n) K]
      omega
  intro v hd
  have := key v 0 0 (by simp) hd
  simpa [numOf] using this

theorem while_spec (prog : Program) (w : World) (mean : ExcName → Option Value) (mg mb : Str → Option Value)
   (dp un : Nat) (gd : Option (List Code)) (cs : Scope) (a : Addr) (ccd : Value) (outer : List Env) (A₀ : Around) (base h₀ : Heap) (L : Addr) (m₀ : Str → Option Value) (s : Shared) (Q : Flow → Shared → Prop) (E : Value → Shared → Prop)
   (oRow oSize : Obj) (lc : Addr) (ws : List Value) (ns : List Int) (nn K m : Nat) (c1 : Int) (t2 t4 t5 : Tok) (hcs : scopeOf lawDef = some cs)
   (B : Below A₀ base outer h₀) (F : Fr h₀ L s.heap m₀) (X : (hk.heap_39 w.params).In h₀) (N : News h₀ L s.heap [(L + 1 + 1, oRow), (L + 1, oSize), (lc, listOf ws.toArray nn)])
   (TT : Top hk.view_39 (looseW hk.view_39 [Str.ofString "SnobolError", Str.ofString "plain_count"]) mean mg mb h₀)
   (hdp : dp + 40 < recursionLimit) (hun : un + 200 < cLine)
   (hE : PassesOwn (model prog w) (ktrTop dp un gd "law" cs L a ccd (lawCl L) outer) (envX "law" cs L a ccd (lawCl L)) E)
   (hm2 : m₀ "kinds" = some (.int K t2)) (hm4 : m₀ "cells" = some (.ref lc)) (hm5 : m₀ "goes_on" = some (.bool true))
   (hK2 : 2 ≤ K) (hK4 : K ≤ 4) (hm : m ≤ 2) (hKm : K ^ m ≤ 4) (hKn : K ^ (m + 1) ≤ 16)
   (hrow : oRow.data = .cell (some (.str (txt (List.replicate (m + 1) 0)) t4))) (hsize : oSize.data = .cell (some (.int ((m + 1 : Nat) : Int) t5)))
   (hws : IntsAre ws ns) (hns : ns.length = 2) (hc1 : ns.getD 1 0 = c1) (hlc : @LT.lt Nat _ (L + 1 + 1) lc)
   (hQ : ∀ h' tk' m' D ys R oRow' t', m + 1 ≤ R.length → R.length ≤ 18 → (words (m + 1) R).length = K ^ (m + 1) → tl m R = List.replicate m 0 → StrsAre ys ((words (m + 1) R).map txt) → m' (Str.ofString "words") = some (.ref D) → m' (Str.ofString "kinds") = some (.int K t2) → oRow'.data = .cell (some (.str (txt R) t')) →
      Fr h₀ L h' m' → News h₀ L h' [(D, LCg.lst ys), (L + 1 + 1, oRow'), (L + 1, oSize)] → Q .next { s with heap := h', toks := tk' }) :
   wpAny (model prog w) (ktrTop dp un gd "law" cs L a ccd (lawCl L) outer) (exec whileStmt (envX "law" cs L a ccd (lawCl L))) Q E s := by
  refine exec_as (st' := .While (.Name (Str.ofString "goes_on") _) [turnStmt 0, turnStmt 1, turnStmt 2, turnStmt 3, turnStmt 4] [] _) rfl ?_
  refine While_inv2 (fun k m₁ news₁ => ∃ (R : List Nat) (go : Bool) (oR : Obj) (t : Tok), Inv K m R ∧ k = 2 * (18 - R.length) + (if go then 1 else 0) ∧ m₁ "kinds" = some (.int K t2) ∧ m₁ "cells" = some (.ref lc) ∧ m₁ "goes_on" = some (.bool go) ∧
      oR.data = .cell (some (.str (txt R) t)) ∧ (∀ p ∈ [(L + 1 + 1, oR), (L + 1, oSize), (lc, listOf ws.toArray nn)], p ∈ news₁) ∧
      (go = false → (∀ d, d < K → tl m R ++ [d] ∈ words (m + 1) R) ∧ ∃ D ys, StrsAre ys ((words (m + 1) R).map txt) ∧ m₁ "words" = some (.ref D) ∧ (D, LCg.lst ys) ∈ news₁)) F N
    ⟨_, true, oRow, t4, inv_start (by omega), rfl, hm2, hm4, hm5, hrow, fun p hp => hp, fun h => nomatch h⟩ ?_ hE
  rintro k m₁ news₁ h₁ tk₁ F₁ N₁ ⟨R, go, oR, t, I, rfl, hk1, hk2, hk3, hR, hin, hend⟩
  have hlen := I.len
  have hle := row_le I
  have hRl : R.length ≤ 18 := by omega
  have N₂ : News h₀ L h₁ [(L + 1 + 1, oR), (L + 1, oSize), (lc, listOf ws.toArray nn)] := fun p hp => N₁ p (hin p hp)
  have hc' := hcs
  have e : scopeOf lawDef = some ⟨_, _, _, _, _⟩ := rfl
  rw [e] at hc'
  cases hc'
  clear e
  refine isTrue_plain (ldX F₁ hk3 (wpAny_truthy_bool ?_))
  cases go with
  | false =>
    simp only [Bool.false_eq_true, if_false]
    obtain ⟨hall, D, ys, hys, hw, hD⟩ := hend rfl
    obtain ⟨d1, d2⟩ := inv_done I hall
    refine hQ _ _ _ D ys R oR t hlen hRl d1 d2 hys hw hk1 hR F₁ fun p hp => ?_
    simp only [List.mem_cons, List.not_mem_nil, or_false] at hp
    rcases hp with rfl | rfl | rfl
    · exact N₁ _ hD
    · exact N₂ _ (.head _)
    · exact N₂ _ (.tail _ (.head _))
  | true =>
    simp only [if_true]
    have hdR : R.length - (m + 1) + 1 = R.length - m := by omega
    have hvl : (tl m R).length = m := by rw [List.length_drop]; omega
    have hvK : ∀ d ∈ tl m R, d < K := fun d hd => I.below d (List.mem_of_mem_drop hd)
    have hnum := numOf_lt (by omega) hvK
    rw [hvl] at hnum
    have hT : ((c1.fdiv (6 ^ (numOf K (tl m R)))).fmod 6).toNat < 6 := by
      have := fm6 (c1.fdiv (6 ^ (numOf K (tl m R))))
      omega
    obtain ⟨o1, o2, o3⟩ := ord_facts (ord_good hK2 hK4 hT)
    -- the first statement
    refine wpAny_execs_cons ?_
    refine st0 prog w mean mg mb dp un gd _ a ccd outer A₀ base h₀ L m₁ _ _ E oR oSize lc ws nn (m + 1) R t t5 hcs B F₁ X N₂ TT hdp hun hE (by omega) hlen (by omega) hR hsize hlc ?_
    intro h2 tk2 m2 tla tnu a1 a2 a3 a4 F2 N2
    rw [hdR] at a1
    show wpAny _ _ (execs _ _) _ _ _
    -- the second
    refine wpAny_execs_cons ?_
    refine nb_loop prog w mean mg mb dp un gd _ a ccd outer A₀ base h₀ L m2 _ _ E _ K (tl m R) tla t2 tnu hcs B F2 X N2 TT hdp hun hE a1 ((a4 _ (by decide) (by decide) (by decide)).trans hk1) a2 (fun d hd => by have := hvK d hd; omega) hK4 (by omega) ?_
    intro h3 tk3 m3 tn3 b1 b2 F3 N3
    show wpAny _ _ (execs _ _) _ _ _
    -- the third
    refine wpAny_execs_cons ?_
    refine ord_loop prog w mean mg mb dp un gd _ a ccd outer A₀ base h₀ L m3 _ _ E oR oSize lc ws ns nn K (numOf K (tl m R)) c1 (tl m R) R tla t2 tn3 t hcs B F3 X N3 TT hdp hun hE ((b2 _ (by decide) (by decide)).trans a1) ((b2 _ (by decide) (by decide)).trans ((a4 _ (by decide) (by decide) (by decide)).trans hk1)) b1
      ((b2 _ (by decide) (by decide)).trans ((a4 _ (by decide) (by decide) (by decide)).trans hk2)) ((b2 _ (by decide) (by decide)).trans a3) ⟨hK2, hK4⟩ rfl (by omega) (by omega) (by omega) hR hws hns hc1 hlc ?_ ?_
    · -- no sign left
      intro hex h4 tk4 m4 c2 F4 N4
      show wpAny _ _ (execs _ _) _ _ _
      have hall : ∀ d, d < K → tl m R ++ [d] ∈ words (m + 1) R := fun d hd => by
        have := hex d (o1 d hd)
        rw [hasWord_txt (n := m + 1) (by rw [List.length_append, hvl]; rfl) hlen] at this
        exact of_decide_eq_true this
      refine st34 prog w mean mg mb dp un gd _ a ccd outer A₀ base h₀ L m4 _ _ E oR oSize lc ws nn (m + 1) R t t5 hcs B F4 X N4 TT hdp hun hE (by omega) hlen (by omega) hR hsize hlc I.unlike ?_
      intro h5 tk5 m5 D ys e1 e2 e3 F5 N5
      refine ⟨h5, tk5, m5, _, 2 * (18 - R.length) + 0, rfl, F5, N5, by omega, R, false, oR, t, I, rfl, ?_, ?_, ?_, hR, fun p hp => .tail _ hp, fun _ => ⟨hall, D, ys, e2, e1, .head _⟩⟩
      · exact (e3 _ (by decide)).trans ((c2 _ (by decide)).trans ((b2 _ (by decide) (by decide)).trans ((a4 _ (by decide) (by decide) (by decide)).trans hk1)))
      · exact (e3 _ (by decide)).trans ((c2 _ (by decide)).trans ((b2 _ (by decide) (by decide)).trans ((a4 _ (by decide) (by decide) (by decide)).trans hk2)))
      · exact (e3 _ (by decide)).trans ((c2 _ (by decide)).trans ((b2 _ (by decide) (by decide)).trans a3))
    · -- a sign d
      intro d pre post hod hpre hnot h4 tk4 m4 oR' t' c1' c2 c3 F4 N4
      show wpAny _ _ (execs _ _) _ _ _
      have hw : ∀ x, (hasWord (txt R) (txt (tl m R ++ [x]))) = decide (tl m R ++ [x] ∈ words (m + 1) R) := fun x => hasWord_txt (n := m + 1) (by rw [List.length_append, hvl]; rfl) hlen
      rw [hw] at hnot
      have hdK : d < K := o2 d (by show d ∈ ordAt K c1 (tl m R); rw [hod]; simp)
      have I' : Inv K m (R ++ [d]) := inv_step I hdK (of_decide_eq_false hnot) fun h0 x hx0 hxK => by
        subst h0
        have := hpre x (o3 pre post hod x hx0 hxK)
        rw [hw] at this
        exact of_decide_eq_true this
      have hlen' := I'.len
      have hle' := row_le I'
      have hRl' : (R ++ [d]).length ≤ 18 := by omega
      refine st34 prog w mean mg mb dp un gd _ a ccd outer A₀ base h₀ L m4 _ _ E oR' oSize lc ws nn (m + 1) (R ++ [d]) t' t5 hcs B F4 X N4 TT hdp hun hE (by omega) hlen' (by omega) c1' hsize hlc I'.unlike ?_
      intro h5 tk5 m5 D ys e1 e2 e3 F5 N5
      refine ⟨h5, tk5, m5, _, 2 * (18 - (R ++ [d]).length) + 1, rfl, F5, N5, ?_, R ++ [d], true, oR', t', I', rfl, ?_, ?_, ?_, c1', fun p hp => .tail _ hp, fun h => nomatch h⟩
      · rw [List.length_append, List.length_singleton] at hRl' ⊢
        show 2 * (18 - (R.length + 1)) + 1 < 2 * (18 - R.length) + 1
        omega
      · exact (e3 _ (by decide)).trans ((c2 _ (by decide) (by decide)).trans ((b2 _ (by decide) (by decide)).trans ((a4 _ (by decide) (by decide) (by decide)).trans hk1)))
      · exact (e3 _ (by decide)).trans ((c2 _ (by decide) (by decide)).trans ((b2 _ (by decide) (by decide)).trans ((a4 _ (by decide) (by decide) (by decide)).trans hk2)))
      · exact (e3 _ (by decide)).trans c3
end

section -- R1
def retStmt : Stmt := lawBody.getD 6 (.Pass ⟨0, 0, 0, 0⟩)
theorem mul0 {m : Nat} (h : m ≤ 3) : Txt.mul (Str.ofString "0") (m : Int) = txt (List.replicate m 0) := by
  obtain rfl | rfl | rfl | rfl : m = 0 ∨ m = 1 ∨ m = 2 ∨ m = 3 := by omega
  all_goals decide
theorem fr_as {h₀ h : Heap} {L : Addr} {m m' : Str → Option Value} (F : Fr h₀ L h m) (e : ∀ z, m z = m' z) : Fr h₀ L h m' := (funext e : m = m') ▸ F
theorem ret_true {Q : Flow → Shared → Prop} {b : Bool} {S : Shared} (h : b = true) (hq : Q (.ret (.bool true)) S) : Q (.ret (.bool b)) S := by rw [h]; exact hq
section
local macro_rules | `(tactic| k_room) => `(tactic| ktr_room)
theorem ret_spec (prog : Program) (w : World) (mean : ExcName → Option Value) (mg mb : Str → Option Value)
   (dp un : Nat) (gd : Option (List Code)) (cs : Scope) (a : Addr) (ccd : Value) (outer : List Env) (A₀ : Around) (base h₀ : Heap) (L : Addr) (m₀ : Str → Option Value) (s : Shared) (Q : Flow → Shared → Prop) (E : Value → Shared → Prop)
   (oRow oSize : Obj) (D : Addr) (ys : List Value) (K m : Nat) (R : List Nat) (t2 t4 t5 : Tok) (hcs : scopeOf lawDef = some cs)
   (B : Below A₀ base outer h₀) (F : Fr h₀ L s.heap m₀) (X : (hk.heap_39 w.params).In h₀) (N : News h₀ L s.heap [(D, LCg.lst ys), (L + 1 + 1, oRow), (L + 1, oSize)])
   (TT : Top hk.view_39 (looseW hk.view_39 [Str.ofString "SnobolError", Str.ofString "plain_count"]) mean mg mb h₀)
   (hdp : dp + 40 < recursionLimit) (hun : un + 200 < cLine)
   (hm1 : m₀ "words" = some (.ref D)) (hm2 : m₀ "kinds" = some (.int K t2))
   (hK4 : K ≤ 4) (hm : m ≤ 2) (hR : m + 1 ≤ R.length) (hRl : R.length ≤ 18)
   (hrow : oRow.data = .cell (some (.str (txt R) t4))) (hsize : oSize.data = .cell (some (.int ((m + 1 : Nat) : Int) t5)))
   (hys : StrsAre ys ((words (m + 1) R).map txt)) (hlen : (words (m + 1) R).length = K ^ (m + 1)) (htl : tl m R = List.replicate m 0)
   (hQ : ∀ h' tk', Fr h₀ L h' m₀ → News h₀ L h' [(D, LCg.lst ys), (L + 1 + 1, oRow), (L + 1, oSize)] → Q (.ret (.bool true)) { s with heap := h', toks := tk' }) :
   wpAny (model prog w) (ktrTop dp un gd "law" cs L a ccd (lawCl L) outer) (exec retStmt (envX "law" cs L a ccd (lawCl L))) Q E s := by
  have e : scopeOf lawDef = some ⟨_, _, _, _, _⟩ := rfl
  rw [e] at hcs
  cases hcs
  clear e
  refine exec_as (st' := .Return _ _) rfl ?_
  have hkm : ∀ z, kstB m₀ [(Str.ofString "words", .ref D), (Str.ofString "kinds", .int K t2)] z = m₀ z := by
    intro z
    refine kstB_eq ?_ (fun _ => rfl)
    simp only [List.forall_mem_cons, List.not_mem_nil, false_implies, implies_true, and_true]
    exact ⟨hm1, hm2⟩
  have F2 : Fr h₀ L s.heap (kstB m₀ [(Str.ofString "words", .ref D), (Str.ofString "kinds", .int K t2)]) := by
    rw [funext hkm]; exact F
  clear F
  dsimp only [kstB] at F2
  have hl3 : (txt R).length ≤ 18 := by rw [txt_length]; exact hRl
  have hl5 : ((words (m + 1) R).map txt).length ≤ 18 := by rw [List.length_map, words_len]; omega
  k_steps
  · rename News _ _ _ _ => nE'
    rename Fr _ _ _ _ => fE'
    have e1 : Txt.slice (txt R) (some (((txt R).length : Int) - ((m + 1 : Nat) : Int) + 1)) none = txt (List.replicate m 0) := by
      have e2 : ((txt R).length : Int) - ((m + 1 : Nat) : Int) + 1 = ((R.length - m : Nat) : Int) := by rw [txt_length]; omega
      rw [e2, slice_txt_from R _ (by omega)]
      exact congrArg txt htl
    have e3 : Txt.mul (Str.ofString "0") (((m + 1 : Nat) : Int) - 1) = txt (List.replicate m 0) := by
      rw [show ((m + 1 : Nat) : Int) - 1 = (m : Int) by omega]
      exact mul0 (by omega)
    exact ret_true (Q := Q) (by rw [e1, e3]; exact beq_self_eq_true _) (hQ _ _ (fr_as fE' hkm) nE')
  · exfalso
    rename _ ≠ _ => hbad
    apply hbad
    rw [List.length_map, hlen, Int.toNat_natCast]
    push_cast
    rfl
end
end

section -- F1
local macro_rules | `(tactic| walk_at "exec While") => `(tactic| (refine Held.out ?_))
local macro_rules | `(tactic| walk_at "subscriptTail Name Slice ref ref") => `(tactic| (k_here; (with_reducible show wpAny _ _ (subscriptTail _ (PySem.Expr.Slice (some _) none none _) (Value.ref _) (Value.ref _)) _ _ _); k_dflt (refine' kmk_slice_ints ?zzF ?zzN ?zzl ?zzp ?zzq ?zzi ?zzm ?zzc ?_ ?zzs ?zzt ?zzz; (case zzF => k_asm); (case zzN => k_asm); (case zzl => kmk_list); (case zzp => kmk_part); (case zzq => kmk_part); (case zzi => l_ints); (case zzm => exact kmk_from (by l_ints) (Int.natCast_nonneg _)); (case zzc => kmk_len); (case zzs => with_unfolding_all rfl); (case zzt => kmk_pure); (case zzz => kmk_size)); intro D' ws' h' F' N' l1 hI' hC' hL'; (try k_lt l1); (try k_sweep)))
theorem cells_facts {ws : List Value} {sc : List Int} (_h : IntsAre ws (List.map (fun k' => if k' < 0 then -k' else k') (List.take 2 sc) ++ List.drop (((List.take 2 sc).length : Int)).toNat [6, 0])) :
    (List.map (fun k' => if k' < 0 then -k' else k') (List.take 2 sc) ++ List.drop (((List.take 2 sc).length : Int)).toNat [6, 0]).length = 2 ∧ 0 ≤ (List.map (fun k' => if k' < 0 then -k' else k') (List.take 2 sc) ++ List.drop (((List.take 2 sc).length : Int)).toNat [6, 0]).getD (Int.toNat 0) 0 := by
  match sc with
  | [] => exact ⟨rfl, by decide⟩
  | [x] =>
    refine ⟨rfl, ?_⟩
    show 0 ≤ (if x < 0 then -x else x)
    split <;> omega
  | x :: y :: r =>
    refine ⟨rfl, ?_⟩
    show 0 ≤ (if x < 0 then -x else x)
    split <;> omega
theorem nums1 {c0 : Int} (h0 : 0 ≤ c0) : ∃ m : Nat, m ≤ 2 ∧ 1 + (c0.fdiv 3).fmod 3 = ((m + 1 : Nat) : Int) := by
  have h1 : 0 ≤ (c0.fdiv 3).fmod 3 := Int.fmod_nonneg_of_pos _ (by decide)
  have h2 : (c0.fdiv 3).fmod 3 < 3 := Int.fmod_lt_of_pos _ (by decide)
  exact ⟨((c0.fdiv 3).fmod 3).toNat, by omega, by omega⟩
theorem nums2 {c0 : Int} (_h0 : 0 ≤ c0) : ∃ m K : Nat, m ≤ 1 ∧ 2 ≤ K ∧ K ≤ 4 ∧ 1 + (c0.fdiv 3).fmod 2 = ((m + 1 : Nat) : Int) ∧ 2 + c0.fmod 3 = (K : Int) := by
  have h1 : 0 ≤ (c0.fdiv 3).fmod 2 := Int.fmod_nonneg_of_pos _ (by decide)
  have h2 : (c0.fdiv 3).fmod 2 < 2 := Int.fmod_lt_of_pos _ (by decide)
  have h3 : 0 ≤ c0.fmod 3 := Int.fmod_nonneg_of_pos _ (by decide)
  have h4 : c0.fmod 3 < 3 := Int.fmod_lt_of_pos _ (by decide)
  exact ⟨((c0.fdiv 3).fmod 2).toNat, (2 + c0.fmod 3).toNat, by omega, by omega, by omega, by omega, by omega⟩
theorem cell_str {o : Obj} {x y : Str} {t : Tok} (h : o.data = .cell (some (.str x t))) (e : x = y) : o.data = .cell (some (.str y t)) := by rw [h, e]
theorem cell_int {o : Obj} {x y : Int} {t : Tok} (h : o.data = .cell (some (.int x t))) (e : x = y) : o.data = .cell (some (.int y t)) := by rw [h, e]
theorem post_true (args : List WData) : PySem.Challenge.rw_xm0953_01.row.post.value PySem.Challenge.rw_xm0953_01.row.records { args := args, res := some (.bool true), after := args } = some (.bool true) :=
  (w_eq_bool (k := true) (l := true) (w_res rfl) w_lit : (WTm.eq .res (.lit (.bool true))).value PySem.Challenge.rw_xm0953_01.row.records { args := args, res := some (.bool true), after := args } = some (.bool (true == true)))
theorem un_ok : callerA.units + 3 + 200 < cLine := by have := cLine_is; simp only [units_caller]; omega
theorem pow2 {m : Nat} (h : m ≤ 2) : 2 ^ m ≤ 4 ∧ 2 ^ (m + 1) ≤ 16 := by
  obtain rfl | rfl | rfl : m = 0 ∨ m = 1 ∨ m = 2 := by omega
  all_goals decide
theorem powK {K m : Nat} (hK : K ≤ 4) (h : m ≤ 1) : K ^ m ≤ 4 ∧ K ^ (m + 1) ≤ 16 := by
  obtain rfl | rfl : m = 0 ∨ m = 1 := by omega
  · exact ⟨by simp, by simp; omega⟩
  · exact ⟨by simpa using hK, Nat.pow_le_pow_left hK 2⟩
theorem fin : PySem.Challenge.rw_xm0953_01.Holds := hd (by
  refine toWalk hk (fun h => h) ?_
  k_go0
  k_steps
  all_goals unfold Held
  · rename IntsAre _ (_ ++ _) => hws
    rename Obj.data _ = Data.cell (some (Value.str _ _)) => hdr
    rename Obj.data _ = Data.cell (some (Value.int _ _)) => hds
    rename 2 + _ = (2 : Int) => ha
    rename Fr _ _ _ _ => fE
    rename News _ _ _ _ => nE
    obtain ⟨hl2, h0⟩ := cells_facts hws
    obtain ⟨m, hm, hX⟩ := nums1 h0
    have hmul := (congrArg (Txt.mul (Str.ofString "0")) hX).trans (mul0 (m := m + 1) (Nat.succ_le_succ hm))
    have hdr2 := cell_str hdr hmul
    have hds2 := cell_int hds hX
    clear hdr hds hmul
    refine' while_spec _ _ _ _ _ _ _ _ _ _ _ _ _ _ _ _ _ _ _ _ _ _ _ _ _ _ 2 m _ _ _ _ ?hcs ?zB fE ?zX (kst_newsOf nE ?sub) ?zT ?hdp ?hun ?hE ?hm2 ?hm4 ?hm5 (by omega) (by omega) (by omega) ?hKm ?hKn ?hrow ?hsize ?hws ?hns ?hc1 ?hlc ?hQ
    case hm4 => rfl
    case hm5 => rfl
    case hm2 => exact congrArg (fun x => some (Value.int x _)) ha
    case hcs => rfl
    case zB => assumption
    case zX => assumption
    case sub => exact List.forall_mem_cons.mpr ⟨by k_mem, List.forall_mem_cons.mpr ⟨by k_mem, List.forall_mem_cons.mpr ⟨by k_mem, List.forall_mem_nil _⟩⟩⟩
    case zT => assumption
    case hdp => decide
    case hun => exact un_ok
    case hE => passes_own
    case hKm => exact (pow2 hm).1
    case hKn => exact (pow2 hm).2
    case hrow => exact hdr2
    case hsize => exact hds2
    case hws => exact hws
    case hns => exact hl2
    case hc1 => rfl
    case hlc => omega
    case hQ =>
      intro h5 tk5 m5 D ys R oR t5 q1 q2 q3 q4 q5 q6 q7 q8 F5 N5
      clear fE nE
      show wpAny _ _ (execs _ _) _ _ _
      refine wpAny_execs_cons ?_
      refine' ret_spec _ _ _ _ _ _ _ _ _ _ _ _ _ _ _ _ _ _ _ _ _ _ D ys _ m R _ _ _ ?hcs ?zB F5 ?zX N5 ?zT ?hdp ?hun q6 q7 (by omega) (by omega) q1 q2 q8 ?hsize q5 q3 q4 ?hQ
      case hcs => rfl
      case zB => assumption
      case zX => assumption
      case zT => assumption
      case hdp => decide
      case hun => exact un_ok
      case hsize => exact hds2
      case hQ =>
        intro h6 tk6 F6 N6
        dsimp only
        refine goodW_bool F6 (by assumption) (raisesW_false allW_false_nil) (postW_of (X := true) ?p1 ?p2 ?p3)
        case p1 => rfl
        case p2 => exact post_true _
        case p3 => rfl
  · rename IntsAre _ (_ ++ _) => hws
    rename Obj.data _ = Data.cell (some (Value.str _ _)) => hdr
    rename Obj.data _ = Data.cell (some (Value.int _ _)) => hds
    rename Fr _ _ _ _ => fE
    rename News _ _ _ _ => nE
    obtain ⟨hl2, h0⟩ := cells_facts hws
    obtain ⟨m, K, hm, hK2, hK4, hX, ha⟩ := nums2 h0
    have hmul := (congrArg (Txt.mul (Str.ofString "0")) hX).trans (mul0 (m := m + 1) (Nat.le_succ_of_le (Nat.succ_le_succ hm)))
    have hdr2 := cell_str hdr hmul
    have hds2 := cell_int hds hX
    clear hdr hds hmul
    refine' while_spec _ _ _ _ _ _ _ _ _ _ _ _ _ _ _ _ _ _ _ _ _ _ _ _ _ _ K m _ _ _ _ ?hcs ?zB fE ?zX (kst_newsOf nE ?sub) ?zT ?hdp ?hun ?hE ?hm2 ?hm4 ?hm5 (by omega) (by omega) (by omega) ?hKm ?hKn ?hrow ?hsize ?hws ?hns ?hc1 ?hlc ?hQ
    case hm4 => rfl
    case hm5 => rfl
    case hm2 => exact congrArg (fun x => some (Value.int x _)) ha
    case hcs => rfl
    case zB => assumption
    case zX => assumption
    case sub => exact List.forall_mem_cons.mpr ⟨by k_mem, List.forall_mem_cons.mpr ⟨by k_mem, List.forall_mem_cons.mpr ⟨by k_mem, List.forall_mem_nil _⟩⟩⟩
    case zT => assumption
    case hdp => decide
    case hun => exact un_ok
    case hE => passes_own
    case hKm => exact (powK hK4 hm).1
    case hKn => exact (powK hK4 hm).2
    case hrow => exact hdr2
    case hsize => exact hds2
    case hws => exact hws
    case hns => exact hl2
    case hc1 => rfl
    case hlc => omega
    case hQ =>
      intro h5 tk5 m5 D ys R oR t5 q1 q2 q3 q4 q5 q6 q7 q8 F5 N5
      clear fE nE
      show wpAny _ _ (execs _ _) _ _ _
      refine wpAny_execs_cons ?_
      refine' ret_spec _ _ _ _ _ _ _ _ _ _ _ _ _ _ _ _ _ _ _ _ _ _ D ys _ m R _ _ _ ?hcs ?zB F5 ?zX N5 ?zT ?hdp ?hun q6 q7 (by omega) (by omega) q1 q2 q8 ?hsize q5 q3 q4 ?hQ
      case hcs => rfl
      case zB => assumption
      case zX => assumption
      case zT => assumption
      case hdp => decide
      case hun => exact un_ok
      case hsize => exact hds2
      case hQ =>
        intro h6 tk6 F6 N6
        dsimp only
        refine goodW_bool F6 (by assumption) (raisesW_false allW_false_nil) (postW_of (X := true) ?p1 ?p2 ?p3)
        case p1 => rfl
        case p2 => exact post_true _
        case p3 => rfl
)
end

end Mine
theorem PySem.Challenge.cw_xm0953_01_holds : PySem.Challenge.rw_xm0953_01.Holds :=
  Mine.fin

