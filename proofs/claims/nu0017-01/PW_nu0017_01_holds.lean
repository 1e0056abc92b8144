import PyProof.Rows.All
import Wide.All
import OpenK.AllK
import Wide.FinOn
import PySem.Challenge.RW_nu0017_01
open PySem PySem.W PySem.Calls PyProof.Rows
set_option Elab.async false
set_option maxRecDepth 100000
set_option maxHeartbeats 8000000
set_option rowWalk.seconds 0
set_option compiler.extract_closed false
namespace Mine
theorem pinn {L C P : Prop} (_ : L) (_ : C) (h : P) : P := h
def keepT {W P : Prop} (T L : Prop) (_ : L → T → W → P) : Prop := T
noncomputable def tp : Prop := by
  refine' keepT (W := PySem.Challenge.rw_nu0017_01.row.wellSaid = true) (P := PySem.Challenge.rw_nu0017_01.row.Holds) _ _ (fun l t k => ?f)
  case f =>
    refine' pinn ?hl ?hc ?body
    case body =>
      k_head
      case hw => w_witness2
    case hl => exact l
    case hc => exact t
theorem hd.tw10458740792067480800 : True := trivial
theorem hd.tw9499510787657705874 : True := trivial
theorem hd.tw15790720579355451973 : True := trivial
theorem hd.tw2887051446865420828 : True := trivial
theorem hd.tw8977307856219701671 : True := trivial
theorem hd.tw3039998526598829958 : True := trivial
theorem hd.tw12112201142124510154 : True := trivial
theorem hd.tw1771153747555333606 : True := trivial
theorem hd.tw4494801613693538912 : True := trivial
theorem hd.tw3451239065008710300 : True := trivial
theorem hd.tw13790719812936386609 : True := trivial
theorem hd.tw16970440968685349367 : True := trivial
theorem hd.tw9741134391959003819 : True := trivial
theorem hd.tw8228950375871286339 : True := trivial
theorem hd.tw15508949281206285077 : True := trivial
theorem hd.tw17650839729002327288 : True := trivial
theorem hd.tw15616948245753086127 : True := trivial
theorem hd.tw5366084841770067474 : True := trivial
theorem hd.tw16473244170626142550 : True := trivial
theorem hd.tw9427301549700849589 : True := trivial
theorem hd.tw14960593345356199642 : True := trivial
theorem hd.tw15615537253650120727 : True := trivial
theorem hd.tw1589133516308662214 : True := trivial
theorem hd.tw14176624398918483544 : True := trivial
theorem hd.tw7914949630228597729 : True := trivial
theorem hd.tw15852365999677673905 : True := trivial
theorem hd.tw11128854368766332075 : True := trivial
theorem hd.tw4365409018781482717 : True := trivial
theorem hd.tw6785817131721698500 : True := trivial
theorem hd.tw17599816209265215132 : True := trivial
theorem hd.tw395138700845864316 : True := trivial
theorem hd.tw6082411064634330575 : True := trivial
theorem hd.tw3789350110615891812 : True := trivial
theorem hd.tw15967140613478806237 : True := trivial
theorem hd.tw5039511866229312098 : True := trivial
theorem hd.tw18343703819029505601 : True := trivial
theorem hd.tw6291416237084387574 : True := trivial
theorem hd.tw8789358453043137523 : True := trivial
theorem hd.tw11232374478483605306 : True := trivial
theorem hd.tw11251137523995926341 : True := trivial
theorem hd.tw16299908979028503884 : True := trivial
theorem hd.tw2380272775587480882 : True := trivial
theorem hd.tw5282504435634884242 : True := trivial
theorem hd.tw13483081372092288885 : True := trivial
theorem hd.tw7510230149288206974 : True := trivial
theorem hd.tw5608270528595127837 : True := trivial
theorem hd.tw10879034167726328663 : True := trivial
theorem hd.tw10614716105012338702 : True := trivial
theorem hd.tw18293851220164018083 : True := trivial
theorem hd.tw2167537188350426706 : True := trivial
theorem hd.tw12647368939536790636 : True := trivial
theorem hd.tw10949625832625181284 : True := trivial
theorem hd.tw5343241284826551009 : True := trivial
theorem hd.tw17177331786930743035 : True := trivial
theorem hd.tw15990741470632014444 : True := trivial
theorem hd.tw17447410573909459338 : True := trivial
theorem hd.tw11465210709893060100 : True := trivial
theorem hd.tw15642763164714097627 : True := trivial
theorem hd.tw5978321128707920903 : True := trivial
theorem hd.tw22551697357593593 : True := trivial
theorem hd.tw17948085552500728524 : True := trivial
theorem hd.tw13372043803930879067 : True := trivial
theorem hd.tw16412773359747925120 : True := trivial
theorem hd.tw3381375190539634487 : True := trivial
theorem hd.tw18166333605607142505 : True := trivial
theorem hd.tw11319097763535126812 : True := trivial
theorem hd.tw15673258824015622330 : True := trivial
theorem hd.tw17054507655720011243 : True := trivial
theorem hd.tw9557236495431379559 : True := trivial
theorem hd.tw2867327485932766208 : True := trivial
theorem hd.tw1011335219593555734 : True := trivial
theorem hd.tw10601615944963115059 : True := trivial
theorem hd.tw14103535550066685397 : True := trivial
theorem hd.tw9566141503761928105 : True := trivial
theorem hd.tw6982297934935202809 : True := trivial
theorem hd.tw17714235663813219645 : True := trivial
theorem hd.tw3182187488490625086 : True := trivial
theorem hd.tw17901334829092211166 : True := trivial
theorem hd.tw8428860471423672150 : True := trivial
theorem hd.tw11136197038861592535 : True := trivial
theorem hd.tw5961118342813265553 : True := trivial
theorem hd.tw3915529967508079626 : True := trivial
theorem hd.tw18300207936620678264 : True := trivial
theorem hd.tw8343274005884668182 : True := trivial
theorem hd.tw7975485470687201451 : True := trivial
theorem hd.tw5148922909946612681 : True := trivial
theorem hd.tw17903497710992402801 : True := trivial
theorem hd.tw2129695795049404400 : True := trivial
theorem hd.tw7184745663730752293 : True := trivial
theorem hd.tw3229955645248102723 : True := trivial
theorem hd.tw7519716089354478335 : True := trivial
theorem hd.tw10792051664901133789 : True := trivial
theorem hd.tw11652457597714270106 : True := trivial
theorem hd.tw7754304195085646258 : True := trivial
theorem hd.tw4014540891139286612 : True := trivial
theorem hd.tw4297731678662094536 : True := trivial
theorem hd.tw16064382804478563927 : True := trivial
theorem hd.tw15344866539931968096 : True := trivial
theorem hd.tw15042006015671813226 : True := trivial
theorem hd.tw4272726840584523970 : True := trivial
theorem hd.tw2114630138375439770 : True := trivial
theorem hd.tw16853341256802265648 : True := trivial
theorem hd.tw10424393626065333798 : True := trivial
theorem hd.tw4172343393113369950 : True := trivial
theorem hd.tw11893437276241958245 : True := trivial
theorem hd.tw18322514126500204803 : True := trivial
theorem hd.tw3480954088277226078 : True := trivial
theorem hd.tw16194383521188589630 : True := trivial
theorem hd.tw3259873300814134281 : True := trivial
theorem hd.tw189712035060473897 : True := trivial
theorem hd.tw9386895884608548742 : True := trivial
theorem hd.tw402640490398009360 : True := trivial
theorem hd.tw6123773746684550334 : True := trivial
theorem hd.tw6264232113106981867 : True := trivial
theorem hd.tw14560493823538711346 : True := trivial
theorem hd.tw6164396464334811476 : True := trivial
theorem hd.tw6442067068224118133 : True := trivial
theorem hd.tw2068664650715991707 : True := trivial
theorem hd.tw14478148883734587675 : True := trivial
theorem hd.tw15103106377680225435 : True := trivial
theorem hd.tw1798425829259240090 : True := trivial
theorem hd.tw6838551448383532254 : True := trivial
theorem hd.tw17213754286329925777 : True := trivial
theorem hd.tw12614811148066621264 : True := trivial
theorem hd.tw2216850387143573719 : True := trivial
theorem hd.tw7355570028127101125 : True := trivial
theorem hd.tw4993660671451451078 : True := trivial
theorem hd.tw8025032847418708242 : True := trivial
theorem hd.tw17606422857730326317 : True := trivial
theorem hd.tw4086058157674990017 : True := trivial
theorem hd.tw4851647983119433812 : True := trivial
theorem hd.tw307737655149646647 : True := trivial
theorem hd.tw5902613922787404954 : True := trivial
theorem hd.tw5781342201191254626 : True := trivial
theorem hd.tw11319892378374348655 : True := trivial
theorem hd.tw10114223749520855954 : True := trivial
theorem hd.tw10111801491309104144 : True := trivial
theorem hd.tw6411954120941647267 : True := trivial
theorem hd.tw10525666975642140466 : True := trivial
theorem hd.tw16828841361933241965 : True := trivial
theorem hd.tw15089522573102190283 : True := trivial
theorem hd.tw16722109127936396110 : True := trivial
theorem hd.tw11032806212648032379 : True := trivial
theorem hd.tw17047115858639842297 : True := trivial
theorem hd.tw3452082135128663414 : True := trivial
theorem hd.tw9430268157657104642 : True := trivial
theorem hd.tw16091413853298234908 : True := trivial
theorem hd.tw17950676927832955104 : True := trivial
theorem hd.tw1241404454085649124 : True := trivial
theorem hd.tw6598312636042714100 : True := trivial
theorem hd.tw10216474801634566288 : True := trivial
theorem hd.tw1382963296337349011 : True := trivial
theorem hd.tw17183224562656869120 : True := trivial
theorem hd.tw991583007596301734 : True := trivial
theorem hd.tw7294075314067506599 : True := trivial
theorem hd.tw4402725079659364252 : True := trivial
theorem hd.tw14620637471214046174 : True := trivial
theorem hd.tw3008623586974134963 : True := trivial
theorem hd.tw18093812233618175256 : True := trivial
theorem hd.tw728884934406724761 : True := trivial
theorem hd.tw4115565904173853331 : True := trivial
theorem hd.tw5190246844813560578 : True := trivial
theorem hd.tw4971549296188076032 : True := trivial
theorem hd.tw8047900516022102942 : True := trivial
theorem hd.tw13866372431405929976 : True := trivial
theorem hd.tw7296583596125217682 : True := trivial
theorem hd.tw3219085151875037572 : True := trivial
theorem hd.tw13225837485096350037 : True := trivial
theorem hd.tw4856431653887292112 : True := trivial
theorem hd.tw9345929723534960622 : True := trivial
theorem hd.tw5363564295841288755 : True := trivial
theorem hd.tw17998730803704875426 : True := trivial
theorem hd.tw2603259988358896889 : True := trivial
theorem hd.tw16634568088961857937 : True := trivial
theorem hd.tw8990313861142287110 : True := trivial
theorem hd.tw15527848837575444561 : True := trivial
theorem hd.tw11953376511379268794 : True := trivial
theorem hd.tw18103342009636024947 : True := trivial
theorem hd.tw16007149819294483003 : True := trivial
theorem hd.tw13181700845877081190 : True := trivial
theorem hd.tw1013155817946168525 : True := trivial
theorem hd.tw16259696140248634718 : True := trivial
theorem hd.tw1847840615245081061 : True := trivial
theorem hd.tw3109861748172591687 : True := trivial
theorem hd.tw4225703048834024713 : True := trivial
theorem hd.tw10170382586518783626 : True := trivial
theorem hd.tw1506431575118746342 : True := trivial
theorem hd.tw3919010098100093602 : True := trivial
theorem hd.tw9277588360372424766 : True := trivial
theorem hd.tw13770079208771991547 : True := trivial
theorem hd.tw3157586796548022136 : True := trivial
theorem hd.tw8117029840178788049 : True := trivial
theorem hd.tw15166520500009309586 : True := trivial
theorem hd.tw15416985209724490359 : True := trivial
theorem hd.tw8732188552807035984 : True := trivial
theorem hd.tw15837987909243819085 : True := trivial
theorem hd.tw15759970867653108152 : True := trivial
theorem hd.tw10603584201595350602 : True := trivial
theorem hd.tw12588582704262371052 : True := trivial
theorem hd.tw17711083657039698284 : True := trivial
theorem hd.tw1413172679324656950 : True := trivial
theorem hd.tw4015398097383911347 : True := trivial
theorem hd.tw922143313871775805 : True := trivial
theorem hd.tw6767318904944593275 : True := trivial
theorem hd.tw10784824025267889561 : True := trivial
theorem hd.tw5732804406350252772 : True := trivial
theorem hd.tw17673860158736603733 : True := trivial
theorem hd.tw10752148897807903841 : True := trivial
theorem hd.tw3646829019195819677 : True := trivial
theorem hd.tw12399718760709695909 : True := trivial
theorem hd.tw12092154237167983948 : True := trivial
theorem hd.tw7068711184596962023 : True := trivial
theorem hd.tw9345676750909349944 : True := trivial
theorem hd.tw17387473266821786944 : True := trivial
theorem hd.tw6528754448969337418 : True := trivial
theorem hd.tw2999033326186475339 : True := trivial
theorem hd.tw6394381022753523788 : True := trivial
theorem hd.tw14705683404202351889 : True := trivial
theorem hd.tw12487502673411948298 : True := trivial
theorem hd.tw6293948785866598258 : True := trivial
theorem hd.tw8671608845466749128 : True := trivial
theorem hd.tw4478964076566166474 : True := trivial
theorem hd.tw16211521421427940678 : True := trivial
theorem hd.tw1439246655266547700 : True := trivial
theorem hd.tw17062030032774818151 : True := trivial
theorem hd.tw10258999931320997221 : True := trivial
theorem hd.tw11513968764499736323 : True := trivial
theorem hd.tw461538923250603899 : True := trivial
theorem hd.tw12023040214023829324 : True := trivial
theorem hd.tw6196171512934965099 : True := trivial
theorem hd.tw3143712602261400420 : True := trivial
theorem hd.tw6819123309680001836 : True := trivial
theorem hd.tw5278057926702712004 : True := trivial
theorem hd.tw16868993833207775613 : True := trivial
theorem hd.tw16945582573551092051 : True := trivial
theorem hd.tw8735263284916673568 : True := trivial
theorem hd.tw14955159897011116063 : True := trivial
theorem hd.tw12901994302517312135 : True := trivial
theorem hd.tw6990203504111849199 : True := trivial
theorem hd.tw16345102440705955213 : True := trivial
theorem hd.tw15153279154761372571 : True := trivial
theorem hd.tw13919464512627920130 : True := trivial
theorem hd.tw17087091549796120035 : True := trivial
theorem hd.tw3828038474966422129 : True := trivial
theorem hd.tw7752767780024739350 : True := trivial
theorem hd.tw11754176132448286083 : True := trivial
theorem hd.tw9960721518486171458 : True := trivial
theorem hd.tw978945382295711627 : True := trivial
theorem hd.tw758273949599710562 : True := trivial
theorem hd.tw1129884963351977449 : True := trivial
theorem hd.tw1359830224848277088 : True := trivial
theorem hd.tw8306517001111904617 : True := trivial
theorem hd.tw8959176491354863721 : True := trivial
theorem hd.tw13609717118414637909 : True := trivial
theorem hd.tw11917015161858427179 : True := trivial
theorem hd.tw13828106393651249627 : True := trivial
theorem hd.tw17901807376057305687 : True := trivial
theorem hd.tw17252143746492648416 : True := trivial
theorem hd.tw14457593812595234344 : True := trivial
theorem hd.tw1222794163293265305 : True := trivial
theorem hd.tw18291419657060728153 : True := trivial
theorem hd.tw12113243949977362033 : True := trivial
theorem hd.tw4706079058837389440 : True := trivial
theorem hd.tw6820862383352777685 : True := trivial
theorem hd.tw8112040973832200146 : True := trivial
theorem hd.tw2327210489368252092 : True := trivial
theorem hd.tw9673543361469618366 : True := trivial
theorem hd.tw8960069828448710407 : True := trivial
theorem hd.tw15411387601460861337 : True := trivial
theorem hd.tw7028611270464810887 : True := trivial
theorem hd.tw1836080755315867724 : True := trivial
theorem hd.tw15368132723985388332 : True := trivial
theorem hd.tw14353793391729792155 : True := trivial
theorem hd.tw13518370688599389936 : True := trivial
theorem hd.tw5130813555471234732 : True := trivial
theorem hd.tw17574625026820762457 : True := trivial
theorem hd.tw6305734824756694309 : True := trivial
theorem hd.tw14168552714766633299 : True := trivial
theorem hd.tw7366208706002141716 : True := trivial
theorem hd.tw17672654358674132775 : True := trivial
theorem hd.tw9657781627882305391 : True := trivial
theorem hd.tw10403243965636340961 : True := trivial
theorem hd.tw18219297243305740317 : True := trivial
theorem hd.tw15595854959937240912 : True := trivial
theorem hd.tw16056359734778111409 : True := trivial
theorem hd.tw11631947586910100387 : True := trivial
theorem hd.tw1800889605409440832 : True := trivial
theorem hd.tw11663121198720446835 : True := trivial
theorem hd.tw12936449754285732098 : True := trivial
theorem hd.tw16920754564084929960 : True := trivial
theorem hd.tw17330945745186091897 : True := trivial
theorem hd.tw4360684699965382250 : True := trivial
theorem hd.tw6545403380812914513 : True := trivial
theorem hd.tw2404053395309592108 : True := trivial
theorem hd.tw2478488760367284492 : True := trivial
theorem hd.tw9748044761591592747 : True := trivial
theorem hd.tw3759623122121258479 : True := trivial
theorem hd.tw8727321023445011275 : True := trivial
theorem hd.tw2195365466389143174 : True := trivial
theorem hd.tw1760603350576429475 : True := trivial
theorem hd.tw16037735763661986305 : True := trivial
theorem hd.tw17258206423299326598 : True := trivial
theorem hd.tw4377701919642642989 : True := trivial
theorem hd.tw3493717111155160527 : True := trivial
theorem hd.tw3530705653197291679 : True := trivial
theorem hd.tw3356348503547310380 : True := trivial
theorem hd.tw14892549342360969540 : True := trivial
theorem hd.tw6663896369628448293 : True := trivial
theorem hd.tw7540655947842036084 : True := trivial
theorem hd.tw6931407450589930559 : True := trivial
theorem hd.tw13903934854276604550 : True := trivial
theorem hd.tw6555240042291301478 : True := trivial
theorem hd.tw8226494294326810461 : True := trivial
theorem hd.tw6830512106363814048 : True := trivial
theorem hd.tw18264374347568628810 : True := trivial
theorem hd.tw17681399029576232318 : True := trivial
theorem hd.tw5657824000916062451 : True := trivial
theorem hd.tw5567388512258382067 : True := trivial
theorem hd.tw11162318198679636149 : True := trivial
theorem hd.tw7023726343779634624 : True := trivial
theorem hd.tw7082855905992002993 : True := trivial
theorem hd.tw3571134770919094901 : True := trivial
theorem hd.tw5174551420813472067 : True := trivial
theorem hd.tw8457440626546761165 : True := trivial
theorem hd.tw13330244855972007585 : True := trivial
set_option Elab.async true in
theorem hd (t : tp) : PySem.Challenge.rw_nu0017_01.Holds := by
  refine' pinn trivial ?hc ?body
  case body =>
    w_on
    o_law
    o_head (kHook tp.heap_1 [2, 3, 15, 17, 18, 20, 21, 22, 29, 31, 32, 34, 35, 36, 37, 38, 39, 42, 49, 50, 51, 54, 56, 57, 59, 60, 61, 62, 64, 65, 67, 68, 69, 71, 72, 74, 75, 76, 78, 79, 81, 82, 83, 85, 86, 88, 89, 90, 92, 93, 95, 96, 97, 99, 100, 102, 103, 104, 106, 107, 109, 110, 111, 113, 114, 116, 117, 118, 120, 121, 123, 124, 132, 134, 135, 137, 138, 139, 141, 142, 144, 145, 146, 148, 149, 151, 152, 153, 155, 156, 158, 159, 160, 162, 163, 165, 166, 167, 169, 170, 172, 173, 174, 176, 177, 179, 180, 181, 182, 183, 184, 185, 195, 197, 198, 200, 201, 202, 204, 205, 207, 208, 209, 211, 212, 214, 215, 216, 218, 219, 221, 222, 223, 225, 226, 228, 229, 230, 231, 232, 233, 234, 237, 239, 240, 242, 243, 244, 246, 247, 249, 250, 251, 253, 254, 256, 257, 258, 260, 261, 263, 264, 265, 267, 268, 270, 271, 279, 281, 282, 284, 285, 286, 287, 288, 289, 290, 293, 295, 296, 298, 299, 300, 302, 303, 305, 306, 307, 309, 310, 312, 313, 314, 316, 317, 319, 320, 321, 323, 324, 326, 327, 328, 330, 331, 333, 334, 335, 338, 339, 340, 343, 344, 345, 348, 349] (fun _ => by kernel_rfl))
    case hw => w_witness2
  case hc => exact t
theorem behind_hd : True := trivial
theorem off0 : True := by
  w_top off
  trivial
def Stop (P : Prop) : Prop := P
theorem stop_intro {P : Prop} (h : Stop P) : P := h
theorem stop_out {P : Prop} (h : P) : Stop P := h
theorem fill0 (w : World) (h : Heap) : PySem.Challenge.rw_nu0017_01.Holds → (tp.heap_1 w.params).In h → True := by
  k_fill
  intros
  trivial
theorem an1 { q r : Prop} (h : q ∧ r) : q := h.1
theorem an2 {p1 q r : Prop} (h : p1 ∧ q ∧ r) : q := h.2.1
theorem an3 {p1 p2 q r : Prop} (h : p1 ∧ p2 ∧ q ∧ r) : q := h.2.2.1
theorem an4 {p1 p2 p3 q r : Prop} (h : p1 ∧ p2 ∧ p3 ∧ q ∧ r) : q := h.2.2.2.1
theorem an5 {p1 p2 p3 p4 q r : Prop} (h : p1 ∧ p2 ∧ p3 ∧ p4 ∧ q ∧ r) : q := h.2.2.2.2.1
theorem an6 {p1 p2 p3 p4 p5 q r : Prop} (h : p1 ∧ p2 ∧ p3 ∧ p4 ∧ p5 ∧ q ∧ r) : q := h.2.2.2.2.2.1
theorem an7 {p1 p2 p3 p4 p5 p6 q r : Prop} (h : p1 ∧ p2 ∧ p3 ∧ p4 ∧ p5 ∧ p6 ∧ q ∧ r) : q := h.2.2.2.2.2.2.1
theorem an8 {p1 p2 p3 p4 p5 p6 p7 q r : Prop} (h : p1 ∧ p2 ∧ p3 ∧ p4 ∧ p5 ∧ p6 ∧ p7 ∧ q ∧ r) : q := h.2.2.2.2.2.2.2.1
theorem an9 {p1 p2 p3 p4 p5 p6 p7 p8 q r : Prop} (h : p1 ∧ p2 ∧ p3 ∧ p4 ∧ p5 ∧ p6 ∧ p7 ∧ p8 ∧ q ∧ r) : q := h.2.2.2.2.2.2.2.2.1
theorem an10 {p1 p2 p3 p4 p5 p6 p7 p8 p9 q r : Prop} (h : p1 ∧ p2 ∧ p3 ∧ p4 ∧ p5 ∧ p6 ∧ p7 ∧ p8 ∧ p9 ∧ q ∧ r) : q := h.2.2.2.2.2.2.2.2.2.1
theorem an11 {p1 p2 p3 p4 p5 p6 p7 p8 p9 p10 q r : Prop} (h : p1 ∧ p2 ∧ p3 ∧ p4 ∧ p5 ∧ p6 ∧ p7 ∧ p8 ∧ p9 ∧ p10 ∧ q ∧ r) : q := h.2.2.2.2.2.2.2.2.2.2.1
theorem an12 {p1 p2 p3 p4 p5 p6 p7 p8 p9 p10 p11 q r : Prop} (h : p1 ∧ p2 ∧ p3 ∧ p4 ∧ p5 ∧ p6 ∧ p7 ∧ p8 ∧ p9 ∧ p10 ∧ p11 ∧ q ∧ r) : q := h.2.2.2.2.2.2.2.2.2.2.2.1
theorem an13 {p1 p2 p3 p4 p5 p6 p7 p8 p9 p10 p11 p12 q r : Prop} (h : p1 ∧ p2 ∧ p3 ∧ p4 ∧ p5 ∧ p6 ∧ p7 ∧ p8 ∧ p9 ∧ p10 ∧ p11 ∧ p12 ∧ q ∧ r) : q := h.2.2.2.2.2.2.2.2.2.2.2.2.1
theorem al2 {p1 q : Prop} (h : p1 ∧ q) : q := h.2
theorem al3 {p1 p2 q : Prop} (h : p1 ∧ p2 ∧ q) : q := h.2.2
theorem al4 {p1 p2 p3 q : Prop} (h : p1 ∧ p2 ∧ p3 ∧ q) : q := h.2.2.2
theorem al5 {p1 p2 p3 p4 q : Prop} (h : p1 ∧ p2 ∧ p3 ∧ p4 ∧ q) : q := h.2.2.2.2
theorem al6 {p1 p2 p3 p4 p5 q : Prop} (h : p1 ∧ p2 ∧ p3 ∧ p4 ∧ p5 ∧ q) : q := h.2.2.2.2.2
theorem al7 {p1 p2 p3 p4 p5 p6 q : Prop} (h : p1 ∧ p2 ∧ p3 ∧ p4 ∧ p5 ∧ p6 ∧ q) : q := h.2.2.2.2.2.2
theorem al8 {p1 p2 p3 p4 p5 p6 p7 q : Prop} (h : p1 ∧ p2 ∧ p3 ∧ p4 ∧ p5 ∧ p6 ∧ p7 ∧ q) : q := h.2.2.2.2.2.2.2
theorem al9 {p1 p2 p3 p4 p5 p6 p7 p8 q : Prop} (h : p1 ∧ p2 ∧ p3 ∧ p4 ∧ p5 ∧ p6 ∧ p7 ∧ p8 ∧ q) : q := h.2.2.2.2.2.2.2.2
theorem al10 {p1 p2 p3 p4 p5 p6 p7 p8 p9 q : Prop} (h : p1 ∧ p2 ∧ p3 ∧ p4 ∧ p5 ∧ p6 ∧ p7 ∧ p8 ∧ p9 ∧ q) : q := h.2.2.2.2.2.2.2.2.2
theorem al11 {p1 p2 p3 p4 p5 p6 p7 p8 p9 p10 q : Prop} (h : p1 ∧ p2 ∧ p3 ∧ p4 ∧ p5 ∧ p6 ∧ p7 ∧ p8 ∧ p9 ∧ p10 ∧ q) : q := h.2.2.2.2.2.2.2.2.2.2
theorem al12 {p1 p2 p3 p4 p5 p6 p7 p8 p9 p10 p11 q : Prop} (h : p1 ∧ p2 ∧ p3 ∧ p4 ∧ p5 ∧ p6 ∧ p7 ∧ p8 ∧ p9 ∧ p10 ∧ p11 ∧ q) : q := h.2.2.2.2.2.2.2.2.2.2.2
theorem al13 {p1 p2 p3 p4 p5 p6 p7 p8 p9 p10 p11 p12 q : Prop} (h : p1 ∧ p2 ∧ p3 ∧ p4 ∧ p5 ∧ p6 ∧ p7 ∧ p8 ∧ p9 ∧ p10 ∧ p11 ∧ p12 ∧ q) : q := h.2.2.2.2.2.2.2.2.2.2.2.2
theorem rm0 {d k L : Nat} (h : d + k < L) : d < L := Nat.lt_of_le_of_lt (Nat.le_add_right d k) h
theorem rm1 {d k a L : Nat} (h : d + k < L) (e : Nat.ble a k = true) : d + a < L := Nat.lt_of_le_of_lt (Nat.add_le_add_left (Nat.le_of_ble_eq_true e) d) h
theorem rm2 {d k a b L : Nat} (h : d + k < L) (e : Nat.ble (a + b) k = true) : d + a + b < L := Nat.add_assoc d a b ▸ rm1 h e
theorem rm3 {d k a b c L : Nat} (h : d + k < L) (e : Nat.ble (a + b + c) k = true) : d + a + b + c < L := by
  rw [Nat.add_assoc d a b, Nat.add_assoc d (a + b) c]; exact rm1 h e
theorem na0 {d J K : Int} {B : Nat} (h1 : J ≤ d) (h2 : d < K) (e : K ≤ (B : Int)) (f : -(B : Int) < J) : d.natAbs < B := by omega
theorem na1 {d J K : Int} {B : Nat} (h1 : J < d) (h2 : d < K) (e : K ≤ (B : Int)) (f : -(B : Int) ≤ J) : d.natAbs < B := by omega
theorem na2 {d J K : Int} {B : Nat} (h1 : J ≤ d) (h2 : d ≤ K) (e : K < (B : Int)) (f : -(B : Int) < J) : d.natAbs < B := by omega
theorem na3 {d J K : Int} {B : Nat} (h1 : J < d) (h2 : d ≤ K) (e : K < (B : Int)) (f : -(B : Int) ≤ J) : d.natAbs < B := by omega
theorem na4 {c d J K : Int} {B : Nat} (h1 : J ≤ d) (h2 : d < K) (e : c + K ≤ (B : Int)) (f : -(B : Int) < c + J) : (c + d).natAbs < B := by omega
theorem units_make (A : Around) (C : Addr) (vals : List Value) : (A.under (.builtin "type.__call__" ⟨.ref C :: vals, []⟩)).units = A.units + 1 := rfl
local macro_rules | `(tactic| walk_at "fact") => `(tactic| with_reducible first | assumption | exact an1 (by assumption) | exact an2 (by assumption) | exact an3 (by assumption) | exact an4 (by assumption) | exact an5 (by assumption) | exact an6 (by assumption) | exact an7 (by assumption) | exact an8 (by assumption) | exact an9 (by assumption) | exact an10 (by assumption) | exact an11 (by assumption) | exact an12 (by assumption) | exact an13 (by assumption) | exact al2 (by assumption) | exact al3 (by assumption) )
local macro_rules | `(tactic| walk_at "last") => `(tactic| first | assumption | exact al2 (by assumption) | exact al3 (by assumption) | exact al4 (by assumption) | exact al5 (by assumption) | exact al6 (by assumption) | exact al7 (by assumption) | exact al8 (by assumption) | exact al9 (by assumption) | exact al10 (by assumption) | exact al11 (by assumption) | exact al12 (by assumption) | exact al13 (by assumption) )
local macro_rules | `(tactic| k_ne) => `(tactic| (refine neN ?_; (try dsimp only); first | (refine Nat.ne_of_lt ?_; walk_at "fact") | (refine Nat.ne_of_gt ?_; walk_at "fact") | walk_at "fact" | (refine Ne.symm ?_; walk_at "fact") | omega))
local macro_rules | `(tactic| walk_at "room") => `(tactic| with_reducible first | exact rm2 (by assumption) (by decide) | exact rm1 (by assumption) (by decide) | exact rm3 (by assumption) (by decide) | decide)
local macro_rules | `(tactic| ktr_room) => `(tactic| first | walk_at "room" | (dsimp only [depth_under_make, depth_in1, depth_deeper, ktrTop]; first | walk_at "room" | omega))
local macro_rules | `(tactic| ktr_units) => `(tactic| first | walk_at "room" | ((try simp only [units_make, units_in1, units_deeper, Around.mark_units, units_caller]); (try dsimp only [ktrTop]); first | walk_at "room" | omega))
local macro_rules | `(tactic| walk_at "na") => `(tactic| first | exact na0 (by walk_at "fact") (by walk_at "fact") (by decide) (by decide) | exact na1 (by walk_at "fact") (by walk_at "fact") (by decide) (by decide) | exact na2 (by walk_at "fact") (by walk_at "fact") (by decide) (by decide) | exact na3 (by walk_at "fact") (by walk_at "fact") (by decide) (by decide) | exact na4 (by walk_at "fact") (by walk_at "fact") (by decide) (by decide) | decide | omega)
local macro_rules | `(tactic| walk_at "ar") => `(tactic| first | walk_at "fact" | decide | walk_at "na")
local macro_rules | `(tactic| walk_at "arl") => `(tactic| first | decide | omega | (simp only [List.length_cons, List.length_nil]; omega))
local macro_rules | `(tactic| walk_at "as") => `(tactic| first | with_reducible assumption | assumption)
local macro_rules | `(tactic| walk_at "hk") => `(tactic| first | exact rfl | assumption)
local macro_rules | `(tactic| walk_at "nuM") => `(tactic| try (with_reducible rename AllLt _ _ => l9; dsimp only [AllLt] at l9))
local macro_rules | `(tactic| walk_at "nuL") => `(tactic| (intros; (try dsimp only); walk_at "nuM"; (try k_sweep); (try k_fold)))
local macro_rules | `(tactic| o_head ($a, $f:ident)) => `(tactic| (k_here; (with_reducible show wpAny _ _ (call (Value.ref $a) _) _ _ _); k_dflt (refine' $f (by k_asm) (by k_asm) (by k_asm) (by k_asm) (by k_asm) (by walk_at "hk") (by ktr_room) (by ktr_units) ?_; k_whole)))
local macro_rules | `(tactic| o_head ($a, $f:ident $ps*)) => `(tactic| (k_here; (with_reducible show wpAny _ _ (call (Value.ref $a) _) _ _ _); k_dflt (refine' $f (by k_asm) (by k_asm) (by k_asm) (by k_asm) (by k_asm) (by walk_at "hk") (by ktr_room) (by ktr_units) $ps* ?_; k_whole)))
local macro_rules | `(tactic| walk_at "nuS") => `(tactic| (k_here; (with_reducible show wpAny _ _ (subscriptTail _ _ (Value.ref _) (Value.int _ _)) _ _ _)))
local macro_rules | `(tactic| walk_at "nuN") => `(tactic| (k_here; (with_reducible show wpAny _ _ (call (Value.builtin "len") [Value.ref _]) _ _ _)))
local macro_rules | `(tactic| walk_at "nuT") => `(tactic| (k_here; (with_reducible show wpAny _ _ (call (Value.type _) [Value.ref _]) _ _ _)))
theorem gcd_step {f g : Int} (hf : 0 ≤ f) (hg : 0 < g) : Int.gcd g (Int.fmod f g) = Int.gcd f g := by
  rw [Int.fmod_eq_emod_of_nonneg _ (Int.le_of_lt hg)]
  rw [Int.emod_def, Int.sub_eq_add_neg, ← Int.mul_neg, Int.gcd_add_mul_left_right, Int.gcd_comm]
section
local macro_rules | `(tactic| walk_at "exec While Compare cons nil") => `(tactic| refine stop_intro ?_)
theorem t_gcd {w : World} {mean : ExcName → Option Value} {mg mb : Str → Option Value} {dp un : Nat} {gd : Option (List Code)} {cn : Str} {cs : Scope} {a : Addr} {ccd : Value} {cl : List (Str × Addr)} {outer : List Env} {A₀ : Around} {base h₀ : Heap} {L : Addr} {m : Str → Option Value} {s : Shared} {Q E : Value → Shared → Prop} {news : List (Addr × Obj)} (B : Below A₀ base outer h₀) (F : Fr h₀ L s.heap m) (X : (tp.heap_1 w.params).In h₀) (N : News h₀ L s.heap news) (T : Top tp.view_1 (looseW tp.view_1 [Str.ofString "fraction"]) mean mg mb h₀) (hk : cs.kind = .function)
  (hdp : dp + 5 < recursionLimit) (hun : un + 40 < cLine) {n d : Int} {tn td : Tok} (hd0 : 0 < d)
  (hret : ∀ (g : Int) (t : Tok) (h' : Heap) (tk' : Nat), g = Int.gcd n d → 0 < g → g ≤ d → Fr h₀ L h' m → News h₀ L h' news → Q (.int g t) { s with heap := h', toks := tk' }) :
  wpAny (model PySem.Challenge.rw_nu0017_01.row.prog w) (ktrTop dp un gd cn cs L a ccd cl outer) (call (.ref 60) [.int n tn, .int d td]) Q E s := by
  refine wpAny_call ?_
  k_dflt cell_enter
  k_steps
  refine stop_out ?_
  rename Fr _ _ _ _ => F1
  rename News _ _ _ _ => N1
  refine' ksw_while (σ := Int × Int × Tok × Tok) (fun _ => news) (fun c => [(Str.ofString "first", .int c.1 c.2.2.1), (Str.ofString "second", .int c.2.1 c.2.2.2)]) (fun _ => True) [] (fun c => 0 ≤ c.1 ∧ 0 ≤ c.2.1 ∧ Int.gcd c.1 c.2.1 = Int.gcd n d) (fun c => c.2.1.toNat) (if n < 0 then -n else n, d, _, _) F1 (fun p hp => N1 p (.tail _ hp)) trivial ?k0 ?p0 ?turn
  case k0 => kst_all
  case p0 => 
    refine ⟨?_, Int.le_of_lt hd0, ?_⟩
    · dsimp only; split <;> omega
    · dsimp only; split
      · rw [Int.neg_gcd]
      · rfl
  case turn =>
    intro c u h tk _ hp F' N'
    obtain ⟨f, g, t1, t2⟩ := c
    dsimp only at hp ⊢
    dsimp only [kstB] at F'
    k_steps
    · rename Fr _ _ _ _ => F1
      rename News _ _ _ _ => N1
      rename 0 < g => hg
      refine ksw_end (g, Int.fmod f g, _, _) F1 N1 (fun p hp => .tail _ hp) trivial (by kst_all) (by ksw_same) ⟨?_, ?_, ?_⟩ ?_
      · exact Int.le_of_lt hg
      · exact Int.fmod_nonneg_of_pos _ hg
      · dsimp only; rw [gcd_step hp.1 hg]; exact hp.2.2
      · dsimp only
        have := Int.fmod_lt_of_pos f hg
        have := Int.fmod_nonneg_of_pos f hg
        omega
    · rename ¬ (0 < g) => hg
      have e : g = 0 := by omega
      subst e
      have e2 : f = Int.gcd n d := by
        rw [← hp.2.2, Int.gcd_zero_right]; omega
      have e3 : 0 < f := by
        rw [e2]
        have := Int.gcd_pos_of_ne_zero_right n (b := d) (by omega)
        omega
      exact hret _ _ _ _ e2 e3 (by rw [e2]; have := Int.gcd_le_right n (b := d) hd0; omega) (by assumption) (by assumption)

end
abbrev fo (q : Rat) (t1 t2 : Tok) : Obj := { cls := .type "tuple", data := .seq #[.int q.num t1, .int (q.den : Int) t2] }
def Bd (k : Nat) (q : Rat) : Prop := q.num.natAbs < 2 ^ k ∧ q.den < 2 ^ k
theorem mulOk9 {x y : Int} (hx : x.natAbs < 2 ^ 200) (hy : y.natAbs < 2 ^ 200) : IntMulOk x y := by
  have key : ∀ z : Int, z.natAbs < 2 ^ 200 → Builtin.Int.intBits z ≤ 200 := by
    intro z hz
    unfold Builtin.Int.intBits
    split
    · exact Nat.zero_le _
    · rename_i h0
      have h0' : z.natAbs ≠ 0 := by intro e; apply h0; simp; omega
      have : z.natAbs.log2 < 200 := (Nat.log2_lt h0').mpr hz
      omega
  exact IntMulOk.of_le (key x hx) (key y hy) (by decide)
theorem npl9 {x y : Int} (hy : y.natAbs < 2 ^ 200) : Builtin.divisionGoesByPylong x y = false := by
  refine PyProof.noPylong_of_log2 ?_
  by_cases h0 : y.natAbs = 0
  · rw [h0]; decide +kernel
  · have : y.natAbs.log2 < 200 := (Nat.log2_lt h0).mpr hy
    omega
theorem allLt_ne {d : Nat} {l : List (Addr × Obj)} (h : AllLt d l) : ∀ p ∈ l, p.1 ≠ d := by
  induction l with
  | nil => intro p hp; cases hp
  | cons x r ih =>
    unfold AllLt at h
    intro p hp
    rcases List.mem_cons.mp hp with e | hp
    · rw [e]; exact Nat.ne_of_lt h.1
    · exact ih h.2 p hp
theorem allLt_mono {d e : Nat} {l : List (Addr × Obj)} (h : AllLt d l) (hde : d ≤ e) : AllLt e l := by
  induction l with
  | nil => trivial
  | cons x r ih =>
    unfold AllLt at h ⊢
    exact ⟨Nat.lt_of_lt_of_le h.1 hde, ih h.2⟩
theorem newTuple_F {M : Model} {A : Around} {E : Value → Shared → Prop} {s : Shared} {h₀ : Heap} {L : Addr} {m : Str → Option Value} {news : List (Addr × Obj)} {vs : List Value} {Q : Value → Shared → Prop} (F : Fr h₀ L s.heap m) (N : News h₀ L s.heap news)
    (h : ∀ D h', Fr h₀ L h' m → News h₀ L h' ((D, { cls := .type "tuple", data := .seq vs.toArray }) :: news) → (∀ p ∈ news, p.1 < D) → Q (.ref D) { s with heap := h' }) (hsz : vs.length ≤ sizeLine := by size_fits) :
    wpAny M A (newTuple vs) Q E s := newTuple_N F N (fun h' F' N' => h _ h' F' N' (fun p hp => Heap.lt_size (N p hp).1)) hsz
theorem fo_divInt {n d g : Int} (hd : 0 < d) (e : g = (Int.gcd n d : Nat)) : (Rat.divInt n d).num = n.fdiv g ∧ ((Rat.divInt n d).den : Int) = d.fdiv g ∧ (n.fdiv g).natAbs ≤ n.natAbs ∧ g ≤ d := by
  have hg : 0 < g := by
    have := Int.gcd_pos_of_ne_zero_right n (b := d) (by omega)
    omega
  have hs : d.sign = 1 := Int.sign_eq_one_of_pos hd
  have h1 : (Rat.divInt n d).num = n.fdiv g := by
    rw [Rat.num_divInt, hs, Int.gcd_comm, e, Int.fdiv_eq_ediv_of_nonneg _ (by omega)]
    simp
  have hn0 : d ≠ 0 := by omega
  refine ⟨h1, ?_, ?_, ?_⟩
  · rw [Rat.den_divInt, if_neg hn0, Int.gcd_comm, e, Int.fdiv_eq_ediv_of_nonneg _ (by omega)]
    rw [Int.natCast_ediv]
    congr 1
    omega
  · rw [Int.fdiv_eq_ediv_of_nonneg _ (by omega)]
    exact Int.natAbs_ediv_le_natAbs n g
  · rw [e]
    have := Int.gcd_le_right n (b := d) hd
    omega
local macro_rules | `(tactic| walk_at "call ref") => `(tactic| (k_here; refine wpAny_call ?_; (k_dflt (refine' code_def ?k1 ?k2 ?k3 ?k4 ?k5 ?kA ?kF ?kK ?k6 ?k7 ?k8 ?k9 ?kB ?_ ?c2 ?c3 ?c4 ?c5; (case kA => exact rfl); (case kF => exact rfl); (case kK => first | assumption | exact rfl); (case k1 => k_asm); (case k2 => k_asm); (case k3 => k_asm); (case k4 => k_asm); (case k5 => k_asm); (case k6 => k_is); (case k7 => k_is); (case k8 => ktr_room); (case k9 => first | exact BindsTo.of_eq rfl | exact binds_K (by k_in) rfl (by k_is) rfl rfl rfl); (case c5 => decide); (case kB => exact locs rfl); (case c2 => exact rfl); (case c3 => exact rfl); (case c4 => exact rfl); k_whole; intro g' L' h' FG' F' N' B' X' T'; (try dsimp only); (try k_lift B'); (try k_fold)))))
local macro_rules | `(tactic| walk_at "newTuple") => `(tactic| (k_here; k_dflt (refine' newTuple_F (by k_asm) (by k_asm) ?_ (by size_fits); k_whole); intro d' h' F' N' l1; (replace l1 := allLt_of l1); (try dsimp only [AllLt] at l1); (try k_sweep)))
local macro_rules | `(tactic| walk_at "binaryOp FloorDiv int int") => `(tactic| (k_here; with_reducible refine floordiv_int (by walk_at "na") ?_ (Or.inl (npl9 (by walk_at "na")))))
local macro_rules | `(tactic| walk_at "binaryOp Mult int int") => `(tactic| (k_here; with_reducible refine mul_int ?_ (mulOk9 (by walk_at "na") (by walk_at "na"))))
local macro_rules | `(tactic| k_mem) => `(tactic| assumption)
local macro_rules | `(tactic| walk_at "call ref") => `(tactic| (o_head (60, t_gcd (by walk_at "ar")); walk_at "nuL"))
theorem t_frac {w : World} {mean : ExcName → Option Value} {mg mb : Str → Option Value} {dp un : Nat} {gd : Option (List Code)} {cn : Str} {cs : Scope} {a : Addr} {ccd : Value} {cl : List (Str × Addr)} {outer : List Env} {A₀ : Around} {base h₀ : Heap} {L : Addr} {m : Str → Option Value} {s : Shared} {Q E : Value → Shared → Prop} {news : List (Addr × Obj)} (B : Below A₀ base outer h₀) (F : Fr h₀ L s.heap m) (X : (tp.heap_1 w.params).In h₀) (N : News h₀ L s.heap news) (T : Top tp.view_1 (looseW tp.view_1 [Str.ofString "fraction"]) mean mg mb h₀) (hk : cs.kind = .function)
  (hdp : dp + 10 < recursionLimit) (hun : un + 80 < cLine) {n d : Int} {tn td : Tok} (hd0 : 0 < d) (hdb : d < 2 ^ 200)
  (hret : ∀ (D : Addr) (t1 t2 : Tok) (h' : Heap) (tk' : Nat), Fr h₀ L h' m → News h₀ L h' ((D, fo (Rat.divInt n d) t1 t2) :: news) → AllLt D news → Q (.ref D) { s with heap := h', toks := tk' }) :
  wpAny (model PySem.Challenge.rw_nu0017_01.row.prog w) (ktrTop dp un gd cn cs L a ccd cl outer) (call (.ref 68) [.int n tn, .int d td]) Q E s := by
  have key := fun g e => fo_divInt (n := n) (d := d) (g := g) hd0 e
  refine wpAny_call ?_
  (k_dflt (refine' code_def ?k1 ?k2 ?k3 ?k4 ?k5 ?kA ?kF ?kK ?k6 ?k7 ?k8 ?k9 ?kB ?_ ?c2 ?c3 ?c4 ?c5; (case kA => exact rfl); (case kF => exact rfl); (case kK => first | assumption | exact rfl); (case k1 => k_asm); (case k2 => k_asm); (case k3 => k_asm); (case k4 => k_asm); (case k5 => k_asm); (case k6 => k_is); (case k7 => k_is); (case k8 => ktr_room); (case k9 => first | exact BindsTo.of_eq rfl | exact binds_K (by k_in) rfl (by k_is) rfl rfl rfl); (case c5 => decide); (case kB => exact locs rfl); (case c2 => exact rfl); (case c3 => exact rfl); (case c4 => exact rfl); k_whole; intro g' L' h' FG' F' N' B' X' T'; (try dsimp only); (try k_lift B'); (try k_fold)))
  k_steps
  · exfalso; omega
  · rename _ = _ => e
    obtain ⟨k1, k2, -, -⟩ := key _ e
    rename News _ _ _ _ => N1
    rw [← k1, ← k2] at N1
    exact hret _ _ _ _ _ (by assumption) N1 (by (walk_at "last"))
local macro_rules | `(tactic| walk_at "call ref") => `(tactic| (o_head (68, t_frac (by walk_at "ar") (by walk_at "ar")); walk_at "nuL"))
theorem t_frac1 {w : World} {mean : ExcName → Option Value} {mg mb : Str → Option Value} {dp un : Nat} {gd : Option (List Code)} {cn : Str} {cs : Scope} {a : Addr} {ccd : Value} {cl : List (Str × Addr)} {outer : List Env} {A₀ : Around} {base h₀ : Heap} {L : Addr} {m : Str → Option Value} {s : Shared} {Q E : Value → Shared → Prop} {news : List (Addr × Obj)} (B : Below A₀ base outer h₀) (F : Fr h₀ L s.heap m) (X : (tp.heap_1 w.params).In h₀) (N : News h₀ L s.heap news) (T : Top tp.view_1 (looseW tp.view_1 [Str.ofString "fraction"]) mean mg mb h₀) (hk : cs.kind = .function)
  (hdp : dp + 15 < recursionLimit) (hun : un + 120 < cLine) {n : Int} {tn : Tok}
  (hret : ∀ (D : Addr) (t1 t2 : Tok) (h' : Heap) (tk' : Nat), Fr h₀ L h' m → News h₀ L h' ((D, fo (n : Rat) t1 t2) :: news) → AllLt D news → Q (.ref D) { s with heap := h', toks := tk' }) :
  wpAny (model PySem.Challenge.rw_nu0017_01.row.prog w) (ktrTop dp un gd cn cs L a ccd cl outer) (call (.ref 68) [.int n tn]) Q E s := by
  have key : Rat.divInt n 1 = (n : Rat) := by rw [Rat.divInt_eq_div]; rw [Rat.div_def]; show (n : Rat) * (1 : Rat)⁻¹ = n; grind
  rw [← key] at hret
  have kk := fun g e => fo_divInt (n := n) (d := 1) (g := g) (by omega) e
  refine wpAny_call ?_
  (k_dflt (refine' code_def ?k1 ?k2 ?k3 ?k4 ?k5 ?kA ?kF ?kK ?k6 ?k7 ?k8 ?k9 ?kB ?_ ?c2 ?c3 ?c4 ?c5; (case kA => exact rfl); (case kF => exact rfl); (case kK => first | assumption | exact rfl); (case k1 => k_asm); (case k2 => k_asm); (case k3 => k_asm); (case k4 => k_asm); (case k5 => k_asm); (case k6 => k_is); (case k7 => k_is); (case k8 => ktr_room); (case k9 => first | exact BindsTo.of_eq rfl | exact binds_K (by k_in) rfl (by k_is) rfl rfl rfl); (case c5 => decide); (case kB => exact locs rfl); (case c2 => exact rfl); (case c3 => exact rfl); (case c4 => exact rfl); k_whole; intro g' L' h' FG' F' N' B' X' T'; (try dsimp only); (try k_lift B'); (try k_fold)))
  k_steps
  · rename _ = _ => e
    obtain ⟨k1, k2, -, -⟩ := kk _ e
    rename News _ _ _ _ => N1
    rw [← k1, ← k2] at N1
    exact hret _ _ _ _ _ (by assumption) N1 (by (walk_at "last"))
theorem pos_den (q r : Rat) : 0 < (q.den : Int) * (r.den : Int) := Int.mul_pos (by have := q.den_pos; omega) (by have := r.den_pos; omega)
theorem bd_den {q r : Rat} (hq : Bd 99 q) (hr : Bd 99 r) : (q.den : Int) * (r.den : Int) < 2 ^ 200 := by
  have h1 : q.den * r.den ≤ 2 ^ 99 * 2 ^ 99 := Nat.mul_le_mul (Nat.le_of_lt hq.2) (Nat.le_of_lt hr.2)
  have h2 : ((q.den * r.den : Nat) : Int) < 2 ^ 200 := by omega
  simpa using h2
theorem plus_key (q r : Rat) : Rat.divInt (q.num * r.den + r.num * q.den) (q.den * r.den) = q + r := by
  rw [← Rat.divInt_add_divInt _ _ (by have := q.den_pos; omega) (by have := r.den_pos; omega), Rat.num_divInt_den, Rat.num_divInt_den]
theorem minus_key (q r : Rat) : Rat.divInt (q.num * r.den - r.num * q.den) (q.den * r.den) = q - r := by
  rw [← Rat.divInt_sub_divInt _ _ (by have := q.den_pos; omega) (by have := r.den_pos; omega), Rat.num_divInt_den, Rat.num_divInt_den]
theorem times_key (q r : Rat) : Rat.divInt (q.num * r.num) (q.den * r.den) = q * r := by
  rw [← Rat.divInt_mul_divInt, Rat.num_divInt_den, Rat.num_divInt_den]
theorem div_key (q r : Rat) : Rat.divInt (q.num * r.den) (q.den * r.num) = q / r := by
  rw [Rat.div_def, ← Rat.divInt_mul_divInt, Rat.num_divInt_den, ← Rat.inv_divInt, Rat.num_divInt_den]
theorem t_plus {w : World} {mean : ExcName → Option Value} {mg mb : Str → Option Value} {dp un : Nat} {gd : Option (List Code)} {cn : Str} {cs : Scope} {a : Addr} {ccd : Value} {cl : List (Str × Addr)} {outer : List Env} {A₀ : Around} {base h₀ : Heap} {L : Addr} {m : Str → Option Value} {s : Shared} {Q E : Value → Shared → Prop} {news : List (Addr × Obj)} (B : Below A₀ base outer h₀) (F : Fr h₀ L s.heap m) (X : (tp.heap_1 w.params).In h₀) (N : News h₀ L s.heap news) (T : Top tp.view_1 (looseW tp.view_1 [Str.ofString "fraction"]) mean mg mb h₀) (hk : cs.kind = .function)
  (hdp : dp + 15 < recursionLimit) (hun : un + 120 < cLine) {x y : Addr} {q r : Rat} {a1 a2 b1 b2 : Tok} (hx : (x, fo q a1 a2) ∈ news) (hy : (y, fo r b1 b2) ∈ news) (hq : Bd 99 q) (hr : Bd 99 r)
  (hret : ∀ (D : Addr) (t1 t2 : Tok) (h' : Heap) (tk' : Nat), Fr h₀ L h' m → News h₀ L h' ((D, fo (q + r) t1 t2) :: news) → AllLt D news → Q (.ref D) { s with heap := h', toks := tk' }) :
  wpAny (model PySem.Challenge.rw_nu0017_01.row.prog w) (ktrTop dp un gd cn cs L a ccd cl outer) (call (.ref 75) [.ref x, .ref y]) Q E s := by
  have hp := pos_den q r
  have hb := bd_den hq hr
  obtain ⟨q1, q2⟩ := hq
  obtain ⟨r1, r2⟩ := hr
  rw [← plus_key] at hret
  refine wpAny_call ?_
  (k_dflt (refine' code_def ?k1 ?k2 ?k3 ?k4 ?k5 ?kA ?kF ?kK ?k6 ?k7 ?k8 ?k9 ?kB ?_ ?c2 ?c3 ?c4 ?c5; (case kA => exact rfl); (case kF => exact rfl); (case kK => first | assumption | exact rfl); (case k1 => k_asm); (case k2 => k_asm); (case k3 => k_asm); (case k4 => k_asm); (case k5 => k_asm); (case k6 => k_is); (case k7 => k_is); (case k8 => ktr_room); (case k9 => first | exact BindsTo.of_eq rfl | exact binds_K (by k_in) rfl (by k_is) rfl rfl rfl); (case c5 => decide); (case kB => exact locs rfl); (case c2 => exact rfl); (case c3 => exact rfl); (case c4 => exact rfl); k_whole; intro g' L' h' FG' F' N' B' X' T'; (try dsimp only); (try k_lift B'); (try k_fold)))
  k_steps
  · exact hret _ _ _ _ _ (by assumption) (by assumption) (by (walk_at "last"))
theorem t_minus {w : World} {mean : ExcName → Option Value} {mg mb : Str → Option Value} {dp un : Nat} {gd : Option (List Code)} {cn : Str} {cs : Scope} {a : Addr} {ccd : Value} {cl : List (Str × Addr)} {outer : List Env} {A₀ : Around} {base h₀ : Heap} {L : Addr} {m : Str → Option Value} {s : Shared} {Q E : Value → Shared → Prop} {news : List (Addr × Obj)} (B : Below A₀ base outer h₀) (F : Fr h₀ L s.heap m) (X : (tp.heap_1 w.params).In h₀) (N : News h₀ L s.heap news) (T : Top tp.view_1 (looseW tp.view_1 [Str.ofString "fraction"]) mean mg mb h₀) (hk : cs.kind = .function)
  (hdp : dp + 15 < recursionLimit) (hun : un + 120 < cLine) {x y : Addr} {q r : Rat} {a1 a2 b1 b2 : Tok} (hx : (x, fo q a1 a2) ∈ news) (hy : (y, fo r b1 b2) ∈ news) (hq : Bd 99 q) (hr : Bd 99 r)
  (hret : ∀ (D : Addr) (t1 t2 : Tok) (h' : Heap) (tk' : Nat), Fr h₀ L h' m → News h₀ L h' ((D, fo (q - r) t1 t2) :: news) → AllLt D news → Q (.ref D) { s with heap := h', toks := tk' }) :
  wpAny (model PySem.Challenge.rw_nu0017_01.row.prog w) (ktrTop dp un gd cn cs L a ccd cl outer) (call (.ref 82) [.ref x, .ref y]) Q E s := by
  have hp := pos_den q r
  have hb := bd_den hq hr
  obtain ⟨q1, q2⟩ := hq
  obtain ⟨r1, r2⟩ := hr
  rw [← minus_key] at hret
  refine wpAny_call ?_
  (k_dflt (refine' code_def ?k1 ?k2 ?k3 ?k4 ?k5 ?kA ?kF ?kK ?k6 ?k7 ?k8 ?k9 ?kB ?_ ?c2 ?c3 ?c4 ?c5; (case kA => exact rfl); (case kF => exact rfl); (case kK => first | assumption | exact rfl); (case k1 => k_asm); (case k2 => k_asm); (case k3 => k_asm); (case k4 => k_asm); (case k5 => k_asm); (case k6 => k_is); (case k7 => k_is); (case k8 => ktr_room); (case k9 => first | exact BindsTo.of_eq rfl | exact binds_K (by k_in) rfl (by k_is) rfl rfl rfl); (case c5 => decide); (case kB => exact locs rfl); (case c2 => exact rfl); (case c3 => exact rfl); (case c4 => exact rfl); k_whole; intro g' L' h' FG' F' N' B' X' T'; (try dsimp only); (try k_lift B'); (try k_fold)))
  k_steps
  · exact hret _ _ _ _ _ (by assumption) (by assumption) (by (walk_at "last"))
theorem t_times {w : World} {mean : ExcName → Option Value} {mg mb : Str → Option Value} {dp un : Nat} {gd : Option (List Code)} {cn : Str} {cs : Scope} {a : Addr} {ccd : Value} {cl : List (Str × Addr)} {outer : List Env} {A₀ : Around} {base h₀ : Heap} {L : Addr} {m : Str → Option Value} {s : Shared} {Q E : Value → Shared → Prop} {news : List (Addr × Obj)} (B : Below A₀ base outer h₀) (F : Fr h₀ L s.heap m) (X : (tp.heap_1 w.params).In h₀) (N : News h₀ L s.heap news) (T : Top tp.view_1 (looseW tp.view_1 [Str.ofString "fraction"]) mean mg mb h₀) (hk : cs.kind = .function)
  (hdp : dp + 15 < recursionLimit) (hun : un + 120 < cLine) {x y : Addr} {q r : Rat} {a1 a2 b1 b2 : Tok} (hx : (x, fo q a1 a2) ∈ news) (hy : (y, fo r b1 b2) ∈ news) (hq : Bd 99 q) (hr : Bd 99 r)
  (hret : ∀ (D : Addr) (t1 t2 : Tok) (h' : Heap) (tk' : Nat), Fr h₀ L h' m → News h₀ L h' ((D, fo (q * r) t1 t2) :: news) → AllLt D news → Q (.ref D) { s with heap := h', toks := tk' }) :
  wpAny (model PySem.Challenge.rw_nu0017_01.row.prog w) (ktrTop dp un gd cn cs L a ccd cl outer) (call (.ref 89) [.ref x, .ref y]) Q E s := by
  have hp := pos_den q r
  have hb := bd_den hq hr
  obtain ⟨q1, q2⟩ := hq
  obtain ⟨r1, r2⟩ := hr
  rw [← times_key] at hret
  refine wpAny_call ?_
  (k_dflt (refine' code_def ?k1 ?k2 ?k3 ?k4 ?k5 ?kA ?kF ?kK ?k6 ?k7 ?k8 ?k9 ?kB ?_ ?c2 ?c3 ?c4 ?c5; (case kA => exact rfl); (case kF => exact rfl); (case kK => first | assumption | exact rfl); (case k1 => k_asm); (case k2 => k_asm); (case k3 => k_asm); (case k4 => k_asm); (case k5 => k_asm); (case k6 => k_is); (case k7 => k_is); (case k8 => ktr_room); (case k9 => first | exact BindsTo.of_eq rfl | exact binds_K (by k_in) rfl (by k_is) rfl rfl rfl); (case c5 => decide); (case kB => exact locs rfl); (case c2 => exact rfl); (case c3 => exact rfl); (case c4 => exact rfl); k_whole; intro g' L' h' FG' F' N' B' X' T'; (try dsimp only); (try k_lift B'); (try k_fold)))
  k_steps
  · exact hret _ _ _ _ _ (by assumption) (by assumption) (by (walk_at "last"))
theorem t_divided {w : World} {mean : ExcName → Option Value} {mg mb : Str → Option Value} {dp un : Nat} {gd : Option (List Code)} {cn : Str} {cs : Scope} {a : Addr} {ccd : Value} {cl : List (Str × Addr)} {outer : List Env} {A₀ : Around} {base h₀ : Heap} {L : Addr} {m : Str → Option Value} {s : Shared} {Q E : Value → Shared → Prop} {news : List (Addr × Obj)} (B : Below A₀ base outer h₀) (F : Fr h₀ L s.heap m) (X : (tp.heap_1 w.params).In h₀) (N : News h₀ L s.heap news) (T : Top tp.view_1 (looseW tp.view_1 [Str.ofString "fraction"]) mean mg mb h₀) (hk : cs.kind = .function)
  (hdp : dp + 15 < recursionLimit) (hun : un + 120 < cLine) {x y : Addr} {q r : Rat} {a1 a2 b1 b2 : Tok} (hx : (x, fo q a1 a2) ∈ news) (hy : (y, fo r b1 b2) ∈ news) (hq : Bd 99 q) (hr : Bd 99 r) (hr0 : 0 < r)
  (hret : ∀ (D : Addr) (t1 t2 : Tok) (h' : Heap) (tk' : Nat), Fr h₀ L h' m → News h₀ L h' ((D, fo (q / r) t1 t2) :: news) → AllLt D news → Q (.ref D) { s with heap := h', toks := tk' }) :
  wpAny (model PySem.Challenge.rw_nu0017_01.row.prog w) (ktrTop dp un gd cn cs L a ccd cl outer) (call (.ref 96) [.ref x, .ref y]) Q E s := by
  have hn : 0 < r.num := by
    have h1 := Rat.num_nonneg.mpr (Rat.le_of_lt hr0)
    have h2 : r.num ≠ 0 := fun e => by rw [Rat.num_eq_zero.mp e] at hr0; exact absurd hr0 (by decide)
    omega
  have hp : 0 < (q.den : Int) * r.num := Int.mul_pos (by have := q.den_pos; omega) hn
  have hb : (q.den : Int) * r.num < 2 ^ 200 := by
    have h1 : q.den * r.num.natAbs ≤ 2 ^ 99 * 2 ^ 99 := Nat.mul_le_mul (Nat.le_of_lt hq.2) (Nat.le_of_lt hr.1)
    have h2 : ((q.den * r.num.natAbs : Nat) : Int) < 2 ^ 200 := by omega
    rw [Int.natCast_mul] at h2
    rwa [show ((r.num.natAbs : Nat) : Int) = r.num from by omega] at h2
  obtain ⟨q1, q2⟩ := hq
  obtain ⟨r1, r2⟩ := hr
  rw [← div_key] at hret
  refine wpAny_call ?_
  (k_dflt (refine' code_def ?k1 ?k2 ?k3 ?k4 ?k5 ?kA ?kF ?kK ?k6 ?k7 ?k8 ?k9 ?kB ?_ ?c2 ?c3 ?c4 ?c5; (case kA => exact rfl); (case kF => exact rfl); (case kK => first | assumption | exact rfl); (case k1 => k_asm); (case k2 => k_asm); (case k3 => k_asm); (case k4 => k_asm); (case k5 => k_asm); (case k6 => k_is); (case k7 => k_is); (case k8 => ktr_room); (case k9 => first | exact BindsTo.of_eq rfl | exact binds_K (by k_in) rfl (by k_is) rfl rfl rfl); (case c5 => decide); (case kB => exact locs rfl); (case c2 => exact rfl); (case c3 => exact rfl); (case c4 => exact rfl); k_whole; intro g' L' h' FG' F' N' B' X' T'; (try dsimp only); (try k_lift B'); (try k_fold)))
  k_steps
  · exfalso; omega
  · exact hret _ _ _ _ _ (by assumption) (by assumption) (by (walk_at "last"))
theorem t_negated {w : World} {mean : ExcName → Option Value} {mg mb : Str → Option Value} {dp un : Nat} {gd : Option (List Code)} {cn : Str} {cs : Scope} {a : Addr} {ccd : Value} {cl : List (Str × Addr)} {outer : List Env} {A₀ : Around} {base h₀ : Heap} {L : Addr} {m : Str → Option Value} {s : Shared} {Q E : Value → Shared → Prop} {news : List (Addr × Obj)} (B : Below A₀ base outer h₀) (F : Fr h₀ L s.heap m) (X : (tp.heap_1 w.params).In h₀) (N : News h₀ L s.heap news) (T : Top tp.view_1 (looseW tp.view_1 [Str.ofString "fraction"]) mean mg mb h₀) (hk : cs.kind = .function)
  (hdp : dp + 15 < recursionLimit) (hun : un + 120 < cLine) {x : Addr} {q : Rat} {a1 a2 : Tok} (hx : (x, fo q a1 a2) ∈ news)
  (hret : ∀ (D : Addr) (t1 t2 : Tok) (h' : Heap) (tk' : Nat), Fr h₀ L h' m → News h₀ L h' ((D, fo (-q) t1 t2) :: news) → AllLt D news → Q (.ref D) { s with heap := h', toks := tk' }) :
  wpAny (model PySem.Challenge.rw_nu0017_01.row.prog w) (ktrTop dp un gd cn cs L a ccd cl outer) (call (.ref 103) [.ref x]) Q E s := by
  refine wpAny_call ?_
  (k_dflt (refine' code_def ?k1 ?k2 ?k3 ?k4 ?k5 ?kA ?kF ?kK ?k6 ?k7 ?k8 ?k9 ?kB ?_ ?c2 ?c3 ?c4 ?c5; (case kA => exact rfl); (case kF => exact rfl); (case kK => first | assumption | exact rfl); (case k1 => k_asm); (case k2 => k_asm); (case k3 => k_asm); (case k4 => k_asm); (case k5 => k_asm); (case k6 => k_is); (case k7 => k_is); (case k8 => ktr_room); (case k9 => first | exact BindsTo.of_eq rfl | exact binds_K (by k_in) rfl (by k_is) rfl rfl rfl); (case c5 => decide); (case kB => exact locs rfl); (case c2 => exact rfl); (case c3 => exact rfl); (case c4 => exact rfl); k_whole; intro g' L' h' FG' F' N' B' X' T'; (try dsimp only); (try k_lift B'); (try k_fold)))
  k_steps
  · exact hret _ _ _ _ _ (by assumption) (by assumption) (by (walk_at "last"))
theorem cmp_z (q r : Rat) (z : Int) (h1 : 0 < z ↔ 0 < q.num * r.den - r.num * q.den) (h2 : z < 0 ↔ q.num * r.den - r.num * q.den < 0) : (z ≤ 0 ↔ q ≤ r) ∧ (0 ≤ z ↔ r ≤ q) := by
  rw [Rat.le_iff, Rat.le_iff]
  constructor <;> constructor <;> intro h <;> omega
theorem t_sign {w : World} {mean : ExcName → Option Value} {mg mb : Str → Option Value} {dp un : Nat} {gd : Option (List Code)} {cn : Str} {cs : Scope} {a : Addr} {ccd : Value} {cl : List (Str × Addr)} {outer : List Env} {A₀ : Around} {base h₀ : Heap} {L : Addr} {m : Str → Option Value} {s : Shared} {Q E : Value → Shared → Prop} {news : List (Addr × Obj)} (B : Below A₀ base outer h₀) (F : Fr h₀ L s.heap m) (X : (tp.heap_1 w.params).In h₀) (N : News h₀ L s.heap news) (T : Top tp.view_1 (looseW tp.view_1 [Str.ofString "fraction"]) mean mg mb h₀) (hk : cs.kind = .function)
  (hdp : dp + 15 < recursionLimit) (hun : un + 120 < cLine) {x : Addr} {n d : Int} {tn td : Tok} (hx : (x, ({ cls := .type "tuple", data := .seq #[.int n tn, .int d td] } : Obj)) ∈ news)
  (hret : ∀ (z : Int) (t : Tok) (h' : Heap) (tk' : Nat), (0 < z ↔ 0 < n) → (z < 0 ↔ n < 0) → Fr h₀ L h' m → News h₀ L h' news → Q (.int z t) { s with heap := h', toks := tk' }) :
  wpAny (model PySem.Challenge.rw_nu0017_01.row.prog w) (ktrTop dp un gd cn cs L a ccd cl outer) (call (.ref 110) [.ref x]) Q E s := by
  refine wpAny_call ?_
  (k_dflt (refine' code_def ?k1 ?k2 ?k3 ?k4 ?k5 ?kA ?kF ?kK ?k6 ?k7 ?k8 ?k9 ?kB ?_ ?c2 ?c3 ?c4 ?c5; (case kA => exact rfl); (case kF => exact rfl); (case kK => first | assumption | exact rfl); (case k1 => k_asm); (case k2 => k_asm); (case k3 => k_asm); (case k4 => k_asm); (case k5 => k_asm); (case k6 => k_is); (case k7 => k_is); (case k8 => ktr_room); (case k9 => first | exact BindsTo.of_eq rfl | exact binds_K (by k_in) rfl (by k_is) rfl rfl rfl); (case c5 => decide); (case kB => exact locs rfl); (case c2 => exact rfl); (case c3 => exact rfl); (case c4 => exact rfl); k_whole; intro g' L' h' FG' F' N' B' X' T'; (try dsimp only); (try k_lift B'); (try k_fold)))
  k_steps
  · exact hret _ _ _ _ (by constructor <;> intro _ <;> omega) (by constructor <;> intro _ <;> omega) (by assumption) (by assumption)
  · exact hret _ _ _ _ (by constructor <;> intro _ <;> omega) (by constructor <;> intro _ <;> omega) (by assumption) (by assumption)
  · exact hret _ _ _ _ (by constructor <;> intro _ <;> omega) (by constructor <;> intro _ <;> omega) (by assumption) (by assumption)
section
local macro_rules | `(tactic| walk_at "call ref") => `(tactic| (o_head (110, t_sign (by k_mem)); walk_at "nuL"))
theorem t_compare {w : World} {mean : ExcName → Option Value} {mg mb : Str → Option Value} {dp un : Nat} {gd : Option (List Code)} {cn : Str} {cs : Scope} {a : Addr} {ccd : Value} {cl : List (Str × Addr)} {outer : List Env} {A₀ : Around} {base h₀ : Heap} {L : Addr} {m : Str → Option Value} {s : Shared} {Q E : Value → Shared → Prop} {news : List (Addr × Obj)} (B : Below A₀ base outer h₀) (F : Fr h₀ L s.heap m) (X : (tp.heap_1 w.params).In h₀) (N : News h₀ L s.heap news) (T : Top tp.view_1 (looseW tp.view_1 [Str.ofString "fraction"]) mean mg mb h₀) (hk : cs.kind = .function)
  (hdp : dp + 20 < recursionLimit) (hun : un + 160 < cLine) {x y : Addr} {q r : Rat} {a1 a2 b1 b2 : Tok} (hx : (x, fo q a1 a2) ∈ news) (hy : (y, fo r b1 b2) ∈ news) (hq : Bd 99 q) (hr : Bd 99 r)
  (hret : ∀ (z : Int) (t : Tok) (h' : Heap) (tk' : Nat), (z ≤ 0 ↔ q ≤ r) → (0 ≤ z ↔ r ≤ q) → Fr h₀ L h' m → News h₀ L h' news → Q (.int z t) { s with heap := h', toks := tk' }) :
  wpAny (model PySem.Challenge.rw_nu0017_01.row.prog w) (ktrTop dp un gd cn cs L a ccd cl outer) (call (.ref 117) [.ref x, .ref y]) Q E s := by
  have k := cmp_z q r
  obtain ⟨q1, q2⟩ := hq
  obtain ⟨r1, r2⟩ := hr
  refine wpAny_call ?_
  (k_dflt (refine' code_def ?k1 ?k2 ?k3 ?k4 ?k5 ?kA ?kF ?kK ?k6 ?k7 ?k8 ?k9 ?kB ?_ ?c2 ?c3 ?c4 ?c5; (case kA => exact rfl); (case kF => exact rfl); (case kK => first | assumption | exact rfl); (case k1 => k_asm); (case k2 => k_asm); (case k3 => k_asm); (case k4 => k_asm); (case k5 => k_asm); (case k6 => k_is); (case k7 => k_is); (case k8 => ktr_room); (case k9 => first | exact BindsTo.of_eq rfl | exact binds_K (by k_in) rfl (by k_is) rfl rfl rfl); (case c5 => decide); (case kB => exact locs rfl); (case c2 => exact rfl); (case c3 => exact rfl); (case c4 => exact rfl); k_whole; intro g' L' h' FG' F' N' B' X' T'; (try dsimp only); (try k_lift B'); (try k_fold)))
  k_steps
  · rename (_ < 0 ↔ _ < 0) => e2
    rename (0 < _ ↔ 0 < _) => e1
    obtain ⟨c1, c2⟩ := k _ e1 e2
    rename News _ _ _ _ => N1
    exact hret _ _ _ _ c1 c2 (by assumption) (fun p hp => N1 p (.tail _ hp))

end
theorem root_a {k f : Int} (hk : 0 ≤ k) (hf : 0 < f) : k ≤ Int.fdiv (f + Int.fdiv (k * k) f) 2 := by
  rw [Int.fdiv_eq_ediv_of_nonneg _ (by omega), Int.fdiv_eq_ediv_of_nonneg _ (Int.le_of_lt hf)]
  generalize hd : k * k / f = d
  have h1 : k * k < (d + 1) * f := by rw [← hd]; exact Int.lt_mul_of_ediv_lt hf (by omega)
  have h2 : ¬ (f + d ≤ 2 * k - 1) := by
    intro h
    have h3 : (d + 1) * f ≤ (2 * k - f) * f := Int.mul_le_mul_of_nonneg_right (by omega) (Int.le_of_lt hf)
    have h4 : 0 ≤ (k - f) * (k - f) := by
      rcases Int.le_total 0 (k - f) with h | h
      · exact Int.mul_nonneg h h
      · exact Int.mul_nonneg_of_nonpos_of_nonpos h h
    grind
  omega
theorem root_b {k f : Int} (hk : 0 ≤ k) (hf : k < f) : Int.fdiv (f + Int.fdiv (k * k) f) 2 < f := by
  rw [Int.fdiv_eq_ediv_of_nonneg _ (by omega), Int.fdiv_eq_ediv_of_nonneg _ (by omega)]
  have h1 : k * k / f < f := by
    apply Int.ediv_lt_of_lt_mul (by omega)
    have h2 : k * k ≤ k * f := Int.mul_le_mul_of_nonneg_left (by omega) hk
    have h3 : k * f < f * f := Int.mul_lt_mul_of_pos_right hf (by omega)
    omega
  omega
theorem root_c {k f : Int} (hk : 0 ≤ k) (hf : 0 ≤ f) (h : f * f ≤ k * k) : f ≤ k := by
  rcases Int.lt_or_le k f with h1 | h1
  · exfalso
    have h2 : k * k ≤ k * f := Int.mul_le_mul_of_nonneg_left (by omega) hk
    have h3 : k * f < f * f := Int.mul_lt_mul_of_pos_right h1 (by omega)
    omega
  · exact h1
theorem root_d {k f : Int} (hk : 0 ≤ k) (hf : 0 ≤ f) (h : k * k < f * f) : k < f := by
  rcases Int.lt_or_le k f with h1 | h1
  · exact h1
  · exfalso
    have h2 : f * f ≤ k * f := Int.mul_le_mul_of_nonneg_right h1 hf
    have h3 : k * f ≤ k * k := Int.mul_le_mul_of_nonneg_left h1 hk
    omega
theorem root_e {k f : Int} (hk : 0 ≤ k) (hf : 0 < f) (hb : f < 2 ^ 60) (hkb : k < 2 ^ 40) : 0 ≤ Int.fdiv (k * k) f ∧ Int.fdiv (k * k) f < 2 ^ 80 := by
  rw [Int.fdiv_eq_ediv_of_nonneg _ (Int.le_of_lt hf)]
  have h1 : k * k < 2 ^ 80 := by
    have h2 : k * k ≤ k * 2 ^ 40 := Int.mul_le_mul_of_nonneg_left (by omega) hk
    omega
  have h0 : 0 ≤ k * k := Int.mul_nonneg hk hk
  exact ⟨Int.ediv_nonneg h0 (Int.le_of_lt hf), Int.lt_of_le_of_lt (Int.ediv_le_self _ h0) h1⟩
section
local macro_rules | `(tactic| walk_at "padNuE0") => `(tactic| skip)
local macro_rules | `(tactic| walk_at "exec While Compare cons nil") => `(tactic| refine stop_intro ?_)
theorem t_root {w : World} {mean : ExcName → Option Value} {mg mb : Str → Option Value} {dp un : Nat} {gd : Option (List Code)} {cn : Str} {cs : Scope} {a : Addr} {ccd : Value} {cl : List (Str × Addr)} {outer : List Env} {A₀ : Around} {base h₀ : Heap} {L : Addr} {m : Str → Option Value} {s : Shared} {Q E : Value → Shared → Prop} {news : List (Addr × Obj)} (B : Below A₀ base outer h₀) (F : Fr h₀ L s.heap m) (X : (tp.heap_1 w.params).In h₀) (N : News h₀ L s.heap news) (T : Top tp.view_1 (looseW tp.view_1 [Str.ofString "fraction"]) mean mg mb h₀) (hk : cs.kind = .function)
  (hdp : dp + 5 < recursionLimit) (hun : un + 40 < cLine) {n k : Int} {tn : Tok} (hn : n = k * k) (hk0 : 0 ≤ k) (hkb : k < 2 ^ 40)
  (hret : ∀ (t : Tok) (h' : Heap) (tk' : Nat), Fr h₀ L h' m → News h₀ L h' news → Q (.int k t) { s with heap := h', toks := tk' }) :
  wpAny (model PySem.Challenge.rw_nu0017_01.row.prog w) (ktrTop dp un gd cn cs L a ccd cl outer) (call (.ref 124) [.int n tn]) Q E s := by
  have hn0 : 0 ≤ n := by rw [hn]; exact Int.mul_nonneg hk0 hk0
  refine wpAny_call ?_
  (k_dflt (refine' code_def ?k1 ?k2 ?k3 ?k4 ?k5 ?kA ?kF ?kK ?k6 ?k7 ?k8 ?k9 ?kB ?_ ?c2 ?c3 ?c4 ?c5; (case kA => exact rfl); (case kF => exact rfl); (case kK => first | assumption | exact rfl); (case k1 => k_asm); (case k2 => k_asm); (case k3 => k_asm); (case k4 => k_asm); (case k5 => k_asm); (case k6 => k_is); (case k7 => k_is); (case k8 => ktr_room); (case k9 => first | exact BindsTo.of_eq rfl | exact binds_K (by k_in) rfl (by k_is) rfl rfl rfl); (case c5 => decide); (case kB => exact locs rfl); (case c2 => exact rfl); (case c3 => exact rfl); (case c4 => exact rfl); k_whole; intro g' L' h' FG' F' N' B' X' T'; (try dsimp only); (try k_lift B'); (try k_fold)))
  k_steps
  · have e0 : k = 0 := by
      have h1 : k * k = 0 := by omega
      rcases Int.mul_eq_zero.mp h1 with h | h <;> exact h
    subst e0
    exact hret _ _ _ (by assumption) (by assumption)
  have hk1 : 1 ≤ k := by
    rcases Int.lt_or_le 0 k with h | h
    · omega
    · exfalso
      have e0 : k = 0 := by omega
      subst e0
      omega
  refine stop_out ?_
  rename Fr _ _ _ _ => F1
  rename News _ _ _ _ => N1
  refine' ksw_while (σ := Int × Tok) (fun _ => news) (fun c => [(Str.ofString "found", .int c.1 c.2)]) (fun _ => True) [] (fun c => 1 ≤ c.1 ∧ c.1 ≤ 2 * k) (fun c => (2 * k - c.1).toNat) (1, _) F1 N1 trivial ?k0 ?p0 ?turn
  case k0 => kst_all
  case p0 => dsimp only; omega
  case turn =>
    clear F1 N1
    intro c u h tk _ hp F' N'
    obtain ⟨f, t1⟩ := c
    dsimp only at hp ⊢
    dsimp only [kstB] at F'
    obtain ⟨p1, p2⟩ := hp
    k_steps
    · rename Fr _ _ _ _ => F1
      rename News _ _ _ _ => N1
      rename f * f ≤ n => hc
      have := root_c (k := k) (f := f) hk0 (by omega) (by rw [← hn]; exact hc)
      exact ksw_end (f * 2, _) F1 N1 (fun p hp => hp) trivial (by kst_all) (by ksw_same) (by dsimp only; omega) (by dsimp only; omega)
    · refine stop_out ?_
      rename ¬ (f * f ≤ n) => hc
      have hf := root_d (k := k) (f := f) hk0 (by omega) (by omega)
      rename Fr _ _ _ _ => F1
      rename News _ _ _ _ => N1
      refine' ksw_while (σ := Int × Tok × Tok) (fun _ => news) (fun c => [(Str.ofString "found", .int c.1 c.2.1), (Str.ofString "lower", .int (Int.fdiv (c.1 + Int.fdiv n c.1) 2) c.2.2)]) (fun _ => True) [] (fun c => k ≤ c.1 ∧ c.1 < 2 ^ 60) (fun c => c.1.toNat) (f, _, _) F1 N1 trivial ?k0 ?p0 ?turn
      case k0 => kst_all
      case p0 => dsimp only; omega
      case turn =>
        clear F1 N1
        intro c u h tk _ hp F' N'
        obtain ⟨f2, t1, t2⟩ := c
        dsimp only at hp ⊢
        dsimp only [kstB] at F'
        obtain ⟨r1, r2⟩ := hp
        have a1 := root_a (k := k) (f := f2) hk0 (by omega)
        rw [← hn] at a1
        have b1 : ∀ x, k < x → Int.fdiv (x + Int.fdiv n x) 2 < x := fun x hx => by rw [hn]; exact root_b hk0 hx
        generalize hl : Int.fdiv (f2 + Int.fdiv n f2) 2 = lo at F' a1
        k_steps
        · have e : f2 = k := by
            rcases Int.lt_or_le k f2 with h9 | h9
            · have := b1 f2 h9
              omega
            · omega
          rw [e]
          exact hret _ _ _ (by assumption) (by assumption)

end
local macro_rules | `(tactic| k_all) => `(tactic| first | exact fun p hp => Nat.ne_of_lt ((‹∀ (p : Addr × Obj), p ∈ _ → p.1 < _› : ∀ (p : Addr × Obj), p ∈ _ → p.1 < _) p hp) | assumption | exact allLt_ne (by (walk_at "last")))
section
local macro_rules | `(tactic| walk_at "padNuF0") => `(tactic| skip)
local macro_rules | `(tactic| walk_at "padNuF1") => `(tactic| skip)
local macro_rules | `(tactic| walk_at "call ref") => `(tactic| (o_head (124, t_root (by walk_at "as") (by walk_at "ar") (by walk_at "ar")); walk_at "nuL"))
abbrev po (x y : Int) (t1 t2 : Tok) : Obj := { cls := .type "tuple", data := .seq #[.int x t1, .int y t2] }
abbrev pr (x y : Addr) : Obj := { cls := .type "tuple", data := .seq #[.ref x, .ref y] }
abbrev sdO (P : Params) (one way : Addr) (len beg : Int) (k1 k2 k3 k4 tl tb : Tok) : Obj :=
  dictOf [⟨PyData.keyHash P (Str.ofString "one"), .str (Str.ofString "one") k1, .ref one⟩, ⟨PyData.keyHash P (Str.ofString "way"), .str (Str.ofString "way") k2, .ref way⟩,
    ⟨PyData.keyHash P (Str.ofString "length"), .str (Str.ofString "length") k3, .int len tl⟩, ⟨PyData.keyHash P (Str.ofString "begin"), .str (Str.ofString "begin") k4, .int beg tb⟩] 4
theorem t_init {w : World} {mean : ExcName → Option Value} {mg mb : Str → Option Value} {dp un : Nat} {gd : Option (List Code)} {cn : Str} {cs : Scope} {a : Addr} {ccd : Value} {cl : List (Str × Addr)} {outer : List Env} {A₀ : Around} {base h₀ : Heap} {L : Addr} {m : Str → Option Value} {s : Shared} {Q E : Value → Shared → Prop} {news : List (Addr × Obj)} (B : Below A₀ base outer h₀) (F : Fr h₀ L s.heap m) (X : (tp.heap_1 w.params).In h₀) (N : News h₀ L s.heap news) (T : Top tp.view_1 (looseW tp.view_1 [Str.ofString "fraction"]) mean mg mb h₀) (hk : cs.kind = .function)
  (hdp : dp + 10 < recursionLimit) (hun : un + 80 < cLine) {p q : Addr} {ox oy px py len beg : Int} {a1 a2 b1 b2 tb : Tok} (hp : (p, po ox oy a1 a2) ∈ news) (hq : (q, po px py b1 b2) ∈ news)
  (hl : (px - ox) * (px - ox) + (py - oy) * (py - oy) = len * len) (hl0 : 0 ≤ len) (hlb : len < 2 ^ 40) (h1 : (px - ox).natAbs < 2 ^ 40) (h2 : (py - oy).natAbs < 2 ^ 40)
  (hret : ∀ (x dx wy : Addr) (w1 w2 k1 k2 k3 k4 tl : Tok) (h' : Heap) (tk' : Nat), Fr h₀ L h' m → News h₀ L h' ((wy, po (px - ox) (py - oy) w1 w2) :: (x, instObj 232 dx) :: (dx, sdO w.params p wy len beg k1 k2 k3 k4 tl tb) :: news) → AllLt wy news → AllLt x news → AllLt dx news → dx < x → x < wy → Q (.ref x) { s with heap := h', toks := tk' }) :
  wpAny (model PySem.Challenge.rw_nu0017_01.row.prog w) (ktrTop dp un gd cn cs L a ccd cl outer) (call (.ref 232) [.ref p, .ref q, .int beg tb]) Q E s := by
  k_dflt (refine' call_cls ?k1 ?k2 ?k3 ?k4 ?k5 ?k6 ?_; (case k1 => k_asm); (case k2 => k_asm); (case k3 => k_asm); (case k4 => k_is); (case k5 => k_is); (case k6 => k_is); k_whole)
  intro x' d' h' F' N' l1 l2
  replace l1 := allLt_of l1
  replace l2 := ltN l2
  (k_dflt (refine' code_def ?k1 ?k2 ?k3 ?k4 ?k5 ?kA ?kF ?kK ?k6 ?k7 ?k8 ?k9 ?kB ?_ ?c2 ?c3 ?c4 ?c5; (case kA => exact rfl); (case kF => exact rfl); (case kK => first | assumption | exact rfl); (case k1 => k_asm); (case k2 => k_asm); (case k3 => k_asm); (case k4 => k_asm); (case k5 => k_asm); (case k6 => k_is); (case k7 => k_is); (case k8 => ktr_room); (case k9 => first | exact BindsTo.of_eq rfl | exact binds_K (by k_in) rfl (by k_is) rfl rfl rfl); (case c5 => decide); (case kB => exact locs rfl); (case c2 => exact rfl); (case c3 => exact rfl); (case c4 => exact rfl); k_whole; intro g' L' h' FG' F' N' B' X' T'; (try dsimp only); (try k_lift B'); (try k_fold)))
  k_steps
  rename _ < _ ∧ _ < _ ∧ AllLt _ news => l3
  refine hret _ _ _ _ _ _ _ _ _ _ _ _ (by assumption) (by assumption) l3.2.2 (allLt_mono l1 (Nat.le_of_lt l2)) l1 l2 l3.1

end
theorem Bd_mono {j k : Nat} {q : Rat} (h : Bd j q) (hjk : j ≤ k) : Bd k q :=
  ⟨Nat.lt_of_lt_of_le h.1 (Nat.pow_le_pow_right (by decide) hjk), Nat.lt_of_lt_of_le h.2 (Nat.pow_le_pow_right (by decide) hjk)⟩
theorem Bd_divInt {k : Nat} {n d : Int} (hn : n.natAbs < 2 ^ k) (hd : 0 < d) (hdk : d < 2 ^ k) : Bd k (Rat.divInt n d) := by
  obtain ⟨h1, h2, h3, _⟩ := fo_divInt (n := n) (d := d) hd rfl
  have hg : (0 : Int) < (Int.gcd n d : Nat) := by
    have := Int.gcd_pos_of_ne_zero_right n (b := d) (by omega)
    omega
  refine ⟨?_, ?_⟩
  · rw [h1]; omega
  · have h4 : d.fdiv (Int.gcd n d : Nat) ≤ d := by
      rw [Int.fdiv_eq_ediv_of_nonneg _ (by omega)]
      exact Int.ediv_le_self _ (by omega)
    have h5 : ((2 ^ k : Nat) : Int) = (2 : Int) ^ k := by simp
    omega
theorem Bd_int {k : Nat} {n : Int} (hn : n.natAbs < 2 ^ k) (hk : 0 < k) : Bd k (n : Rat) := by
  refine ⟨by simpa using hn, ?_⟩
  rw [Rat.den_intCast]
  exact Nat.one_lt_two_pow (by omega)
theorem bd_aux {a b j k : Nat} (ha : a < 2 ^ j) (hb : b < 2 ^ k) : a * b < 2 ^ (j + k) := by
  rw [Nat.pow_add]
  exact Nat.mul_lt_mul'' ha hb
theorem natAbs_lt_pow {n : Int} {k : Nat} (h : n.natAbs < 2 ^ k) : -(2 ^ k : Int) < n ∧ n < 2 ^ k := by
  have h5 : ((2 ^ k : Nat) : Int) = (2 : Int) ^ k := by simp
  omega
theorem Bd_of_divInt {k : Nat} {n d : Int} {q : Rat} (e : Rat.divInt n d = q) (hn : n.natAbs < 2 ^ k) (hd : 0 < d) (hdk : d.natAbs < 2 ^ k) : Bd k q := by
  rw [← e]
  exact Bd_divInt hn hd (by have h5 : ((2 ^ k : Nat) : Int) = (2 : Int) ^ k := by simp
                            omega)
theorem Bd_mul {j k : Nat} {q r : Rat} (hq : Bd j q) (hr : Bd k r) : Bd (j + k) (q * r) := by
  refine Bd_of_divInt (times_key q r) ?_ (pos_den q r) ?_
  · rw [Int.natAbs_mul]; exact bd_aux hq.1 hr.1
  · rw [Int.natAbs_mul]; simpa using bd_aux hq.2 hr.2
theorem Bd_neg {j : Nat} {q : Rat} (hq : Bd j q) : Bd j (-q) := by
  refine ⟨?_, ?_⟩
  · rw [Rat.neg_num, Int.natAbs_neg]; exact hq.1
  · rw [Rat.neg_den]; exact hq.2
theorem bd_sum {j k : Nat} {q r : Rat} (hq : Bd j q) (hr : Bd k r) : (q.num * r.den).natAbs < 2 ^ (j + k) ∧ (r.num * q.den).natAbs < 2 ^ (j + k) ∧ ((q.den : Int) * r.den).natAbs < 2 ^ (j + k + 1) := by
  refine ⟨?_, ?_, ?_⟩
  · rw [Int.natAbs_mul]; simpa using bd_aux hq.1 hr.2
  · rw [Int.natAbs_mul, Nat.add_comm]; simpa using bd_aux hr.1 hq.2
  · rw [Int.natAbs_mul]
    refine Nat.lt_of_lt_of_le (by simpa using bd_aux hq.2 hr.2) (Nat.pow_le_pow_right (by decide) (Nat.le_succ _))
theorem Bd_add {j k : Nat} {q r : Rat} (hq : Bd j q) (hr : Bd k r) : Bd (j + k + 1) (q + r) := by
  obtain ⟨h1, h2, h3⟩ := bd_sum hq hr
  refine Bd_of_divInt (plus_key q r) ?_ (pos_den q r) h3
  rw [Nat.pow_succ]; omega
theorem Bd_sub {j k : Nat} {q r : Rat} (hq : Bd j q) (hr : Bd k r) : Bd (j + k + 1) (q - r) := by
  obtain ⟨h1, h2, h3⟩ := bd_sum hq hr
  refine Bd_of_divInt (minus_key q r) ?_ (pos_den q r) h3
  rw [Nat.pow_succ]; omega
theorem Bd_inv {k : Nat} {r : Rat} (hk : 0 < k) (hr : Bd k r) : Bd k r⁻¹ := by
  refine ⟨?_, ?_⟩
  · rw [Rat.num_inv, Int.natAbs_mul]
    have h1 : r.num.sign.natAbs ≤ 1 := by
      rcases Int.lt_trichotomy r.num 0 with h | h | h
      · rw [Int.sign_eq_neg_one_of_neg h]; decide
      · rw [h]; decide
      · rw [Int.sign_eq_one_of_pos h]; decide
    have h2 : r.num.sign.natAbs * (r.den : Int).natAbs ≤ 1 * (r.den : Int).natAbs := Nat.mul_le_mul_right _ h1
    have h3 := hr.2
    omega
  · rw [Rat.den_inv]
    split
    · exact Nat.one_lt_two_pow (by omega)
    · exact hr.1
theorem Bd_pos {k : Nat} {r : Rat} (hr : Bd k r) : 0 < k := by
  rcases Nat.eq_zero_or_pos k with h | h
  · subst h
    have := hr.2
    have := r.den_pos
    omega
  · exact h
theorem Bd_div {j k : Nat} {q r : Rat} (hq : Bd j q) (hr : Bd k r) : Bd (j + k) (q / r) := by
  rw [Rat.div_def]
  exact Bd_mul hq (Bd_inv (Bd_pos hr) hr)
local macro_rules | `(tactic| walk_at "Bd") => `(tactic| with_reducible first | assumption | (first | apply Bd_add | apply Bd_sub | apply Bd_mul | apply Bd_div | apply Bd_neg) <;> walk_at "Bd")
local macro_rules | `(tactic| walk_at "Bd99") => `(tactic| (refine' Bd_mono ?nuu1 ?nuu2; (case nuu1 => walk_at "Bd"); (case nuu2 => decide)))
local macro_rules | `(tactic| walk_at "call ref") => `(tactic| (o_head (68, t_frac1); walk_at "nuL"))
local macro_rules | `(tactic| walk_at "call ref") => `(tactic| (o_head (75, t_plus (by k_mem) (by k_mem) (by walk_at "Bd99") (by walk_at "Bd99")); walk_at "nuL"))
local macro_rules | `(tactic| walk_at "call ref") => `(tactic| (o_head (82, t_minus (by k_mem) (by k_mem) (by walk_at "Bd99") (by walk_at "Bd99")); walk_at "nuL"))
local macro_rules | `(tactic| walk_at "call ref") => `(tactic| (o_head (89, t_times (by k_mem) (by k_mem) (by walk_at "Bd99") (by walk_at "Bd99")); walk_at "nuL"))
local macro_rules | `(tactic| walk_at "call ref") => `(tactic| (o_head (96, t_divided (by k_mem) (by k_mem) (by walk_at "Bd99") (by walk_at "Bd99") (by walk_at "as")); walk_at "nuL"))
local macro_rules | `(tactic| walk_at "call ref") => `(tactic| (o_head (103, t_negated (by k_mem)); walk_at "nuL"))
local macro_rules | `(tactic| walk_at "call ref") => `(tactic| (o_head (117, t_compare (by k_mem) (by k_mem) (by walk_at "Bd99") (by walk_at "Bd99")); walk_at "nuL"))
theorem t_holds {w : World} {mean : ExcName → Option Value} {mg mb : Str → Option Value} {dp un : Nat} {gd : Option (List Code)} {cn : Str} {cs : Scope} {a : Addr} {ccd : Value} {cl : List (Str × Addr)} {outer : List Env} {A₀ : Around} {base h₀ : Heap} {L : Addr} {m : Str → Option Value} {s : Shared} {Q E : Value → Shared → Prop} {news : List (Addr × Obj)} (B : Below A₀ base outer h₀) (F : Fr h₀ L s.heap m) (X : (tp.heap_1 w.params).In h₀) (N : News h₀ L s.heap news) (T : Top tp.view_1 (looseW tp.view_1 [Str.ofString "fraction"]) mean mg mb h₀) (hk : cs.kind = .function)
  (hdp : dp + 30 < recursionLimit) (hun : un + 240 < cLine) {x dx one wy D : Addr} {len beg : Int} {k1 k2 k3 k4 tl tb a1 a2 : Tok} {q : Rat} (hx : (x, instObj 232 dx) ∈ news) (hd : (dx, sdO w.params one wy len beg k1 k2 k3 k4 tl tb) ∈ news)
  (hD : (D, fo q a1 a2) ∈ news) (hq : Bd 30 q) (hb : Bd 30 ((beg : Int) : Rat)) (hb2 : Bd 30 ((beg + len : Int) : Rat))
  (hret : ∀ (b : Bool) (h' : Heap) (tk' : Nat), (b = true ↔ ((beg : Int) : Rat) ≤ q ∧ q ≤ ((beg + len : Int) : Rat)) → Fr h₀ L h' m → News h₀ L h' news → Q (.bool b) { s with heap := h', toks := tk' }) :
  wpAny (model PySem.Challenge.rw_nu0017_01.row.prog w) (ktrTop dp un gd cn cs L a ccd cl outer) (call (.ref 215) [.ref x, .ref D]) Q E s := by
  refine wpAny_call ?_
  (k_dflt (refine' code_def ?k1 ?k2 ?k3 ?k4 ?k5 ?kA ?kF ?kK ?k6 ?k7 ?k8 ?k9 ?kB ?_ ?c2 ?c3 ?c4 ?c5; (case kA => exact rfl); (case kF => exact rfl); (case kK => first | assumption | exact rfl); (case k1 => k_asm); (case k2 => k_asm); (case k3 => k_asm); (case k4 => k_asm); (case k5 => k_asm); (case k6 => k_is); (case k7 => k_is); (case k8 => ktr_room); (case k9 => first | exact BindsTo.of_eq rfl | exact binds_K (by k_in) rfl (by k_is) rfl rfl rfl); (case c5 => decide); (case kB => exact locs rfl); (case c2 => exact rfl); (case c3 => exact rfl); (case c4 => exact rfl); k_whole; intro g' L' h' FG' F' N' B' X' T'; (try dsimp only); (try k_lift B'); (try k_fold)))
  k_steps
  · rename (_ ≤ 0 ↔ ((beg : Int) : Rat) ≤ q) => e1
    rename (0 ≤ _ ↔ q ≤ ((beg + len : Int) : Rat)) => e2
    rename News _ _ _ _ => N1
    rename _ ≤ 0 => e3
    refine hret _ _ _ ?_ (by assumption) (fun p hp => N1 p (.tail _ (.tail _ hp)))
    rw [decide_eq_true_eq]
    exact ⟨fun h => ⟨e1.mp e3, e2.mp h⟩, fun h => e2.mpr h.2⟩
  · rename (_ ≤ 0 ↔ _) => e1
    rename ¬ (_ ≤ 0) => e3
    rename News _ _ _ _ => N1
    refine hret _ _ _ ?_ (by assumption) (fun p hp => N1 p (.tail _ hp))
    rw [decide_eq_true_eq]
    exact ⟨fun h => absurd h e3, fun h => e1.mpr h.1⟩
theorem t_point_at {w : World} {mean : ExcName → Option Value} {mg mb : Str → Option Value} {dp un : Nat} {gd : Option (List Code)} {cn : Str} {cs : Scope} {a : Addr} {ccd : Value} {cl : List (Str × Addr)} {outer : List Env} {A₀ : Around} {base h₀ : Heap} {L : Addr} {m : Str → Option Value} {s : Shared} {Q E : Value → Shared → Prop} {news : List (Addr × Obj)} (B : Below A₀ base outer h₀) (F : Fr h₀ L s.heap m) (X : (tp.heap_1 w.params).In h₀) (N : News h₀ L s.heap news) (T : Top tp.view_1 (looseW tp.view_1 [Str.ofString "fraction"]) mean mg mb h₀) (hk : cs.kind = .function)
  (hdp : dp + 30 < recursionLimit) (hun : un + 240 < cLine) {x dx one wy D : Addr} {len beg ox oy wx wy' : Int} {k1 k2 k3 k4 tl tb a1 a2 o1 o2 w1 w2 : Tok} {q : Rat} (hx : (x, instObj 232 dx) ∈ news) (hd : (dx, sdO w.params one wy len beg k1 k2 k3 k4 tl tb) ∈ news)
  (hone : (one, po ox oy o1 o2) ∈ news) (hway : (wy, po wx wy' w1 w2) ∈ news)
  (hD : (D, fo q a1 a2) ∈ news) (hq : Bd 14 q) (hb : Bd 12 ((beg : Int) : Rat)) (hlen : Bd 11 ((len : Int) : Rat)) (hl0 : 0 < ((len : Int) : Rat)) (bx : Bd 11 ((ox : Int) : Rat)) (by' : Bd 11 ((oy : Int) : Rat)) (cx : Bd 11 ((wx : Int) : Rat)) (cy : Bd 11 ((wy' : Int) : Rat))
  (hret : ∀ (R D1 D2 : Addr) (t1 t2 t3 t4 : Tok) (h' : Heap) (tk' : Nat), Fr h₀ L h' m → News h₀ L h' ((R, pr D1 D2) :: (D2, fo ((oy : Rat) + (q - (beg : Rat)) / (len : Rat) * (wy' : Rat)) t3 t4) :: (D1, fo ((ox : Rat) + (q - (beg : Rat)) / (len : Rat) * (wx : Rat)) t1 t2) :: news) → D1 < D2 → D2 < R → AllLt D1 news → AllLt D2 news → AllLt R news → Q (.ref R) { s with heap := h', toks := tk' }) :
  wpAny (model PySem.Challenge.rw_nu0017_01.row.prog w) (ktrTop dp un gd cn cs L a ccd cl outer) (call (.ref 222) [.ref x, .ref D]) Q E s := by
  refine wpAny_call ?_
  (k_dflt (refine' code_def ?k1 ?k2 ?k3 ?k4 ?k5 ?kA ?kF ?kK ?k6 ?k7 ?k8 ?k9 ?kB ?_ ?c2 ?c3 ?c4 ?c5; (case kA => exact rfl); (case kF => exact rfl); (case kK => first | assumption | exact rfl); (case k1 => k_asm); (case k2 => k_asm); (case k3 => k_asm); (case k4 => k_asm); (case k5 => k_asm); (case k6 => k_is); (case k7 => k_is); (case k8 => ktr_room); (case k9 => first | exact BindsTo.of_eq rfl | exact binds_K (by k_in) rfl (by k_is) rfl rfl rfl); (case c5 => decide); (case kB => exact locs rfl); (case c2 => exact rfl); (case c3 => exact rfl); (case c4 => exact rfl); k_whole; intro g' L' h' FG' F' N' B' X' T'; (try dsimp only); (try k_lift B'); (try k_fold)))
  k_steps
  rename News _ _ _ _ => N1
  exact hret _ _ _ _ _ _ _ _ _ (by assumption) (cb_drop N1 (by kcj_all)) (ltN (by walk_at "ar")) (ltN (by walk_at "ar")) (by (walk_at "last")) (by (walk_at "last")) (by (walk_at "last"))
theorem t_turn {w : World} {mean : ExcName → Option Value} {mg mb : Str → Option Value} {dp un : Nat} {gd : Option (List Code)} {cn : Str} {cs : Scope} {a : Addr} {ccd : Value} {cl : List (Str × Addr)} {outer : List Env} {A₀ : Around} {base h₀ : Heap} {L : Addr} {m : Str → Option Value} {s : Shared} {Q E : Value → Shared → Prop} {news : List (Addr × Obj)} (B : Below A₀ base outer h₀) (F : Fr h₀ L s.heap m) (X : (tp.heap_1 w.params).In h₀) (N : News h₀ L s.heap news) (T : Top tp.view_1 (looseW tp.view_1 [Str.ofString "fraction"]) mean mg mb h₀) (hk : cs.kind = .function)
  (hdp : dp + 30 < recursionLimit) (hun : un + 240 < cLine) {x dx one wy : Addr} {len beg wx wy' : Int} {k1 k2 k3 k4 tl tb w1 w2 : Tok} (hx : (x, instObj 232 dx) ∈ news) (hd : (dx, sdO w.params one wy len beg k1 k2 k3 k4 tl tb) ∈ news)
  (hway : (wy, po wx wy' w1 w2) ∈ news) (hl0 : 0 < len) (hl1 : len < 2 ^ 20)
  (hret : ∀ (R D1 D2 : Addr) (t1 t2 t3 t4 : Tok) (h' : Heap) (tk' : Nat), Fr h₀ L h' m → News h₀ L h' ((R, pr D1 D2) :: (D2, fo (Rat.divInt wy' len) t3 t4) :: (D1, fo (Rat.divInt wx len) t1 t2) :: news) → D1 < D2 → D2 < R → AllLt D1 news → AllLt D2 news → AllLt R news → Q (.ref R) { s with heap := h', toks := tk' }) :
  wpAny (model PySem.Challenge.rw_nu0017_01.row.prog w) (ktrTop dp un gd cn cs L a ccd cl outer) (call (.ref 229) [.ref x]) Q E s := by
  refine wpAny_call ?_
  (k_dflt (refine' code_def ?k1 ?k2 ?k3 ?k4 ?k5 ?kA ?kF ?kK ?k6 ?k7 ?k8 ?k9 ?kB ?_ ?c2 ?c3 ?c4 ?c5; (case kA => exact rfl); (case kF => exact rfl); (case kK => first | assumption | exact rfl); (case k1 => k_asm); (case k2 => k_asm); (case k3 => k_asm); (case k4 => k_asm); (case k5 => k_asm); (case k6 => k_is); (case k7 => k_is); (case k8 => ktr_room); (case k9 => first | exact BindsTo.of_eq rfl | exact binds_K (by k_in) rfl (by k_is) rfl rfl rfl); (case c5 => decide); (case kB => exact locs rfl); (case c2 => exact rfl); (case c3 => exact rfl); (case c4 => exact rfl); k_whole; intro g' L' h' FG' F' N' B' X' T'; (try dsimp only); (try k_lift B'); (try k_fold)))
  k_steps
  rename News _ _ _ _ => N1
  rename _ < _ ∧ _ < _ ∧ AllLt _ news => l3
  rename _ < _ ∧ AllLt _ news => l2
  exact hret _ _ _ _ _ _ _ _ _ (by assumption) N1 l2.1 l3.1 (by assumption) l2.2 l3.2.2
theorem t_middle {w : World} {mean : ExcName → Option Value} {mg mb : Str → Option Value} {dp un : Nat} {gd : Option (List Code)} {cn : Str} {cs : Scope} {a : Addr} {ccd : Value} {cl : List (Str × Addr)} {outer : List Env} {A₀ : Around} {base h₀ : Heap} {L : Addr} {m : Str → Option Value} {s : Shared} {Q E : Value → Shared → Prop} {news : List (Addr × Obj)} (B : Below A₀ base outer h₀) (F : Fr h₀ L s.heap m) (X : (tp.heap_1 w.params).In h₀) (N : News h₀ L s.heap news) (T : Top tp.view_1 (looseW tp.view_1 [Str.ofString "fraction"]) mean mg mb h₀) (hk : cs.kind = .function)
  (hdp : dp + 30 < recursionLimit) (hun : un + 240 < cLine) {x dx S C : Addr} {gl adv beg gr : Int} {k1 k2 k3 tg ta tb a1 a2 c1 c2 tgr : Tok} {q r : Rat} (hx : (x, instObj 288 dx) ∈ news)
  (hd : (dx, dictOf [⟨PyData.keyHash w.params (Str.ofString "glyph"), .str (Str.ofString "glyph") k1, .int gl tg⟩, ⟨PyData.keyHash w.params (Str.ofString "advance"), .str (Str.ofString "advance") k2, .int adv ta⟩, ⟨PyData.keyHash w.params (Str.ofString "begin"), .str (Str.ofString "begin") k3, .int beg tb⟩] 3) ∈ news)
  (hS : (S, fo q a1 a2) ∈ news) (hC : (C, fo r c1 c2) ∈ news) (hq : Bd 10 q) (hr : Bd 10 r) (ha : Bd 11 (Rat.divInt adv 2)) (hb : Bd 10 ((beg : Int) : Rat)) (hg : Bd 10 ((gr : Int) : Rat))
  (hret : ∀ (D : Addr) (t1 t2 : Tok) (h' : Heap) (tk' : Nat), Fr h₀ L h' m → News h₀ L h' ((D, fo ((q + r * (((beg : Int) : Rat) + Rat.divInt adv 2)) * ((gr : Int) : Rat)) t1 t2) :: news) → AllLt D news → Q (.ref D) { s with heap := h', toks := tk' }) :
  wpAny (model PySem.Challenge.rw_nu0017_01.row.prog w) (ktrTop dp un gd cn cs L a ccd cl outer) (call (.ref 271) [.ref x, .ref S, .ref C, .int gr tgr]) Q E s := by
  refine wpAny_call ?_
  (k_dflt (refine' code_def ?k1 ?k2 ?k3 ?k4 ?k5 ?kA ?kF ?kK ?k6 ?k7 ?k8 ?k9 ?kB ?_ ?c2 ?c3 ?c4 ?c5; (case kA => exact rfl); (case kF => exact rfl); (case kK => first | assumption | exact rfl); (case k1 => k_asm); (case k2 => k_asm); (case k3 => k_asm); (case k4 => k_asm); (case k5 => k_asm); (case k6 => k_is); (case k7 => k_is); (case k8 => ktr_room); (case k9 => first | exact BindsTo.of_eq rfl | exact binds_K (by k_in) rfl (by k_is) rfl rfl rfl); (case c5 => decide); (case kB => exact locs rfl); (case c2 => exact rfl); (case c3 => exact rfl); (case c4 => exact rfl); k_whole; intro g' L' h' FG' F' N' B' X' T'; (try dsimp only); (try k_lift B'); (try k_fold)))
  k_steps
  rename News _ _ _ _ => N1
  exact hret _ _ _ _ _ (by assumption) (cb_drop N1 (by kcj_all)) (by (walk_at "last"))
abbrev mxO (P : Params) (a b c d e f : Addr) (k1 k2 k3 k4 k5 k6 : Tok) : Obj :=
  dictOf [⟨PyData.keyHash P (Str.ofString "a"), .str (Str.ofString "a") k1, .ref a⟩, ⟨PyData.keyHash P (Str.ofString "b"), .str (Str.ofString "b") k2, .ref b⟩, ⟨PyData.keyHash P (Str.ofString "c"), .str (Str.ofString "c") k3, .ref c⟩,
    ⟨PyData.keyHash P (Str.ofString "d"), .str (Str.ofString "d") k4, .ref d⟩, ⟨PyData.keyHash P (Str.ofString "e"), .str (Str.ofString "e") k5, .ref e⟩, ⟨PyData.keyHash P (Str.ofString "f"), .str (Str.ofString "f") k6, .ref f⟩] 6
theorem t_minit {w : World} {mean : ExcName → Option Value} {mg mb : Str → Option Value} {dp un : Nat} {gd : Option (List Code)} {cn : Str} {cs : Scope} {a : Addr} {ccd : Value} {cl : List (Str × Addr)} {outer : List Env} {A₀ : Around} {base h₀ : Heap} {L : Addr} {m : Str → Option Value} {s : Shared} {Q E : Value → Shared → Prop} {news : List (Addr × Obj)} (B : Below A₀ base outer h₀) (F : Fr h₀ L s.heap m) (X : (tp.heap_1 w.params).In h₀) (N : News h₀ L s.heap news) (T : Top tp.view_1 (looseW tp.view_1 [Str.ofString "fraction"]) mean mg mb h₀) (hk : cs.kind = .function)
  (hdp : dp + 10 < recursionLimit) (hun : un + 80 < cLine) {A1 B1 C1 D1 E1 F1 : Addr}
  (hret : ∀ (x dx : Addr) (k1 k2 k3 k4 k5 k6 : Tok) (h' : Heap) (tk' : Nat), Fr h₀ L h' m → News h₀ L h' ((x, instObj 183 dx) :: (dx, mxO w.params A1 B1 C1 D1 E1 F1 k1 k2 k3 k4 k5 k6) :: news) → AllLt x news → AllLt dx news → dx < x → Q (.ref x) { s with heap := h', toks := tk' }) :
  wpAny (model PySem.Challenge.rw_nu0017_01.row.prog w) (ktrTop dp un gd cn cs L a ccd cl outer) (call (.ref 183) [.ref A1, .ref B1, .ref C1, .ref D1, .ref E1, .ref F1]) Q E s := by
  k_dflt (refine' call_cls ?k1 ?k2 ?k3 ?k4 ?k5 ?k6 ?_; (case k1 => k_asm); (case k2 => k_asm); (case k3 => k_asm); (case k4 => k_is); (case k5 => k_is); (case k6 => k_is); k_whole)
  intro x' d' h' F' N' l1 l2
  replace l1 := allLt_of l1
  replace l2 := ltN l2
  (k_dflt (refine' code_def ?k1 ?k2 ?k3 ?k4 ?k5 ?kA ?kF ?kK ?k6 ?k7 ?k8 ?k9 ?kB ?_ ?c2 ?c3 ?c4 ?c5; (case kA => exact rfl); (case kF => exact rfl); (case kK => first | assumption | exact rfl); (case k1 => k_asm); (case k2 => k_asm); (case k3 => k_asm); (case k4 => k_asm); (case k5 => k_asm); (case k6 => k_is); (case k7 => k_is); (case k8 => ktr_room); (case k9 => first | exact BindsTo.of_eq rfl | exact binds_K (by k_in) rfl (by k_is) rfl rfl rfl); (case c5 => decide); (case kB => exact locs rfl); (case c2 => exact rfl); (case c3 => exact rfl); (case c4 => exact rfl); k_whole; intro g' L' h' FG' F' N' B' X' T'; (try dsimp only); (try k_lift B'); (try k_fold)))
  k_steps
  exact hret _ _ _ _ _ _ _ _ _ _ (by assumption) (by assumption) (allLt_mono l1 (Nat.le_of_lt l2)) l1 l2
section
local macro_rules | `(tactic| walk_at "call ref") => `(tactic| (o_head (183, t_minit); intro x9 d9 t9 u9 v9 w9 y9 z9 h9 tk9 F9 N9 l9 m9 n9; (try dsimp only); (replace n9 := ltN n9); walk_at "nuM"; walk_at "nuM"; (try k_sweep); (try k_fold)))
theorem t_turned {w : World} {mean : ExcName → Option Value} {mg mb : Str → Option Value} {dp un : Nat} {gd : Option (List Code)} {cn : Str} {cs : Scope} {a : Addr} {ccd : Value} {cl : List (Str × Addr)} {outer : List Env} {A₀ : Around} {base h₀ : Heap} {L : Addr} {m : Str → Option Value} {s : Shared} {Q E : Value → Shared → Prop} {news : List (Addr × Obj)} (B : Below A₀ base outer h₀) (F : Fr h₀ L s.heap m) (X : (tp.heap_1 w.params).In h₀) (N : News h₀ L s.heap news) (T : Top tp.view_1 (looseW tp.view_1 [Str.ofString "fraction"]) mean mg mb h₀) (hk : cs.kind = .function)
  (hdp : dp + 40 < recursionLimit) (hun : un + 320 < cLine) {S H T' P C Z X1 Y1 : Addr} {a1 a2 b1 b2 c1 c2 d1 d2 e1 e2 f1 f2 : Tok} {sc ha co si px py : Rat}
  (hS : (S, fo sc a1 a2) ∈ news) (hH : (H, fo ha b1 b2) ∈ news) (hT : (T', pr C Z) ∈ news) (hC : (C, fo co c1 c2) ∈ news) (hZ : (Z, fo si d1 d2) ∈ news) (hP : (P, pr X1 Y1) ∈ news) (hX : (X1, fo px e1 e2) ∈ news) (hY : (Y1, fo py f1 f2) ∈ news)
  (bS : Bd 4 sc) (bH : Bd 10 ha) (bC : Bd 11 co) (bZ : Bd 11 si) (bX : Bd 60 px) (bY : Bd 60 py)
  (hret : ∀ (x dx A1 B1 D1 E1 F1 G1 : Addr) (k1 k2 k3 k4 k5 k6 ta ta' tb tb' tc tc' td td' te te' tf tf' : Tok) (h' : Heap) (tk' : Nat), Fr h₀ L h' m →
    News h₀ L h' ((x, instObj 183 dx) :: (dx, mxO w.params A1 B1 D1 E1 F1 G1 k1 k2 k3 k4 k5 k6) :: (A1, fo (sc * co) ta ta') :: (B1, fo (sc * si) tb tb') :: (D1, fo (sc * si) tc tc') :: (E1, fo (-(sc * co)) td td') :: (F1, fo (px - co * (sc * ha)) te te') :: (G1, fo (py - si * (sc * ha)) tf tf') :: news) → Q (.ref x) { s with heap := h', toks := tk' }) :
  wpAny (model PySem.Challenge.rw_nu0017_01.row.prog w) (ktrTop dp un gd cn cs L a ccd cl outer) (call (.ref 264) [.ref S, .ref H, .ref T', .ref P]) Q E s := by
  refine wpAny_call ?_
  (k_dflt (refine' code_def ?k1 ?k2 ?k3 ?k4 ?k5 ?kA ?kF ?kK ?k6 ?k7 ?k8 ?k9 ?kB ?_ ?c2 ?c3 ?c4 ?c5; (case kA => exact rfl); (case kF => exact rfl); (case kK => first | assumption | exact rfl); (case k1 => k_asm); (case k2 => k_asm); (case k3 => k_asm); (case k4 => k_asm); (case k5 => k_asm); (case k6 => k_is); (case k7 => k_is); (case k8 => ktr_room); (case k9 => first | exact BindsTo.of_eq rfl | exact binds_K (by k_in) rfl (by k_is) rfl rfl rfl); (case c5 => decide); (case kB => exact locs rfl); (case c2 => exact rfl); (case c3 => exact rfl); (case c4 => exact rfl); k_whole; intro g' L' h' FG' F' N' B' X' T'; (try dsimp only); (try k_lift B'); (try k_fold)))
  k_steps
  rename News _ _ _ _ => N1
  exact hret _ _ _ _ _ _ _ _ _ _ _ _ _ _ _ _ _ _ _ _ _ _ _ _ _ _ _ _ (by assumption) (cb_drop N1 (by kcj_all))
theorem t_vector {w : World} {mean : ExcName → Option Value} {mg mb : Str → Option Value} {dp un : Nat} {gd : Option (List Code)} {cn : Str} {cs : Scope} {a : Addr} {ccd : Value} {cl : List (Str × Addr)} {outer : List Env} {A₀ : Around} {base h₀ : Heap} {L : Addr} {m : Str → Option Value} {s : Shared} {Q E : Value → Shared → Prop} {news : List (Addr × Obj)} (B : Below A₀ base outer h₀) (F : Fr h₀ L s.heap m) (X : (tp.heap_1 w.params).In h₀) (N : News h₀ L s.heap news) (T : Top tp.view_1 (looseW tp.view_1 [Str.ofString "fraction"]) mean mg mb h₀) (hk : cs.kind = .function)
  (hdp : dp + 30 < recursionLimit) (hun : un + 240 < cLine) {x dx A1 B1 D1 E1 F1 G1 P X1 Y1 : Addr} {k1 k2 k3 k4 k5 k6 ta ta' tb tb' tc tc' td td' e1 e2 f1 f2 : Tok} {ra rb rc rd px py : Rat}
  (hx : (x, instObj 183 dx) ∈ news) (hd : (dx, mxO w.params A1 B1 D1 E1 F1 G1 k1 k2 k3 k4 k5 k6) ∈ news)
  (hA : (A1, fo ra ta ta') ∈ news) (hB : (B1, fo rb tb tb') ∈ news) (hC : (D1, fo rc tc tc') ∈ news) (hD : (E1, fo rd td td') ∈ news) (hP : (P, pr X1 Y1) ∈ news) (hX : (X1, fo px e1 e2) ∈ news) (hY : (Y1, fo py f1 f2) ∈ news)
  (bA : Bd 15 ra) (bB : Bd 15 rb) (bC : Bd 15 rc) (bD : Bd 15 rd) (bX : Bd 10 px) (bY : Bd 10 py)
  (hret : ∀ (R P1 P2 : Addr) (t1 t2 t3 t4 : Tok) (h' : Heap) (tk' : Nat), Fr h₀ L h' m → News h₀ L h' ((R, pr P1 P2) :: (P2, fo (rb * px + rd * py) t3 t4) :: (P1, fo (ra * px + rc * py) t1 t2) :: news) → Q (.ref R) { s with heap := h', toks := tk' }) :
  wpAny (model PySem.Challenge.rw_nu0017_01.row.prog w) (ktrTop dp un gd cn cs L a ccd cl outer) (call (.ref 152) [.ref x, .ref P]) Q E s := by
  refine wpAny_call ?_
  (k_dflt (refine' code_def ?k1 ?k2 ?k3 ?k4 ?k5 ?kA ?kF ?kK ?k6 ?k7 ?k8 ?k9 ?kB ?_ ?c2 ?c3 ?c4 ?c5; (case kA => exact rfl); (case kF => exact rfl); (case kK => first | assumption | exact rfl); (case k1 => k_asm); (case k2 => k_asm); (case k3 => k_asm); (case k4 => k_asm); (case k5 => k_asm); (case k6 => k_is); (case k7 => k_is); (case k8 => ktr_room); (case k9 => first | exact BindsTo.of_eq rfl | exact binds_K (by k_in) rfl (by k_is) rfl rfl rfl); (case c5 => decide); (case kB => exact locs rfl); (case c2 => exact rfl); (case c3 => exact rfl); (case c4 => exact rfl); k_whole; intro g' L' h' FG' F' N' B' X' T'; (try dsimp only); (try k_lift B'); (try k_fold)))
  k_steps
  rename News _ _ _ _ => N1
  exact hret _ _ _ _ _ _ _ _ _ (by assumption) (cb_drop N1 (by kcj_all))
local macro_rules | `(tactic| walk_at "call ref") => `(tactic| (o_head (152, t_vector (by k_mem) (by k_mem) (by k_mem) (by k_mem) (by k_mem) (by k_mem) (by k_mem) (by k_mem) (by k_mem) (by walk_at "Bd99") (by walk_at "Bd99") (by walk_at "Bd99") (by walk_at "Bd99") (by walk_at "Bd99") (by walk_at "Bd99")); walk_at "nuL"))
theorem t_point {w : World} {mean : ExcName → Option Value} {mg mb : Str → Option Value} {dp un : Nat} {gd : Option (List Code)} {cn : Str} {cs : Scope} {a : Addr} {ccd : Value} {cl : List (Str × Addr)} {outer : List Env} {A₀ : Around} {base h₀ : Heap} {L : Addr} {m : Str → Option Value} {s : Shared} {Q E : Value → Shared → Prop} {news : List (Addr × Obj)} (B : Below A₀ base outer h₀) (F : Fr h₀ L s.heap m) (X : (tp.heap_1 w.params).In h₀) (N : News h₀ L s.heap news) (T : Top tp.view_1 (looseW tp.view_1 [Str.ofString "fraction"]) mean mg mb h₀) (hk : cs.kind = .function)
  (hdp : dp + 40 < recursionLimit) (hun : un + 320 < cLine) {x dx A1 B1 D1 E1 F1 G1 P X1 Y1 : Addr} {k1 k2 k3 k4 k5 k6 ta ta' tb tb' tc tc' td td' te te' tf tf' e1 e2 f1 f2 : Tok} {ra rb rc rd re rf px py : Rat}
  (hx : (x, instObj 183 dx) ∈ news) (hd : (dx, mxO w.params A1 B1 D1 E1 F1 G1 k1 k2 k3 k4 k5 k6) ∈ news)
  (hA : (A1, fo ra ta ta') ∈ news) (hB : (B1, fo rb tb tb') ∈ news) (hC : (D1, fo rc tc tc') ∈ news) (hD : (E1, fo rd td td') ∈ news) (hE : (F1, fo re te te') ∈ news) (hF : (G1, fo rf tf tf') ∈ news) (hP : (P, pr X1 Y1) ∈ news) (hX : (X1, fo px e1 e2) ∈ news) (hY : (Y1, fo py f1 f2) ∈ news)
  (bA : Bd 15 ra) (bB : Bd 15 rb) (bC : Bd 15 rc) (bD : Bd 15 rd) (bE : Bd 99 re) (bF : Bd 99 rf) (bX : Bd 10 px) (bY : Bd 10 py)
  (hret : ∀ (R P1 P2 : Addr) (t1 t2 t3 t4 : Tok) (h' : Heap) (tk' : Nat), Fr h₀ L h' m → News h₀ L h' ((R, pr P1 P2) :: (P2, fo (rb * px + rd * py + rf) t3 t4) :: (P1, fo (ra * px + rc * py + re) t1 t2) :: news) → Q (.ref R) { s with heap := h', toks := tk' }) :
  wpAny (model PySem.Challenge.rw_nu0017_01.row.prog w) (ktrTop dp un gd cn cs L a ccd cl outer) (call (.ref 159) [.ref x, .ref P]) Q E s := by
  refine wpAny_call ?_
  (k_dflt (refine' code_def ?k1 ?k2 ?k3 ?k4 ?k5 ?kA ?kF ?kK ?k6 ?k7 ?k8 ?k9 ?kB ?_ ?c2 ?c3 ?c4 ?c5; (case kA => exact rfl); (case kF => exact rfl); (case kK => first | assumption | exact rfl); (case k1 => k_asm); (case k2 => k_asm); (case k3 => k_asm); (case k4 => k_asm); (case k5 => k_asm); (case k6 => k_is); (case k7 => k_is); (case k8 => ktr_room); (case k9 => first | exact BindsTo.of_eq rfl | exact binds_K (by k_in) rfl (by k_is) rfl rfl rfl); (case c5 => decide); (case kB => exact locs rfl); (case c2 => exact rfl); (case c3 => exact rfl); (case c4 => exact rfl); k_whole; intro g' L' h' FG' F' N' B' X' T'; (try dsimp only); (try k_lift B'); (try k_fold)))
  k_steps
  rename News _ _ _ _ => N1
  exact hret _ _ _ _ _ _ _ _ _ (by assumption) (cb_drop N1 (by kcj_all))

end
inductive Pick (d : Addr) (o : Obj) : List (Addr × Obj) → List (Addr × Obj) → Prop
  | head {r} : (∀ p ∈ r, p.1 ≠ d) → Pick d o ((d, o) :: r) r
  | tail {p r r'} : p.1 ≠ d → Pick d o r r' → Pick d o (p :: r) (p :: r')
theorem Pick.facts {d : Addr} {o : Obj} {l r : List (Addr × Obj)} (h : Pick d o l r) : (d, o) ∈ l ∧ (∀ p ∈ r, p ∈ l) ∧ (∀ p ∈ r, p.1 ≠ d) ∧ ∀ p ∈ l, p = (d, o) ∨ p ∈ r := by
  induction h with
  | head h => exact ⟨.head _, fun p hp => .tail _ hp, h, fun p hp => by
      rcases List.mem_cons.mp hp with e | e
      · exact .inl e
      · exact .inr e⟩
  | tail h _ ih =>
    obtain ⟨a, b, c, d⟩ := ih
    refine ⟨.tail _ a, fun p hp => ?_, fun p hp => ?_, fun p hp => ?_⟩
    · rcases List.mem_cons.mp hp with e | e
      · rw [e]; exact .head _
      · exact .tail _ (b p e)
    · rcases List.mem_cons.mp hp with e | e
      · rw [e]; exact h
      · exact c p e
    · rcases List.mem_cons.mp hp with e | e
      · exact .inr (e ▸ .head _)
      · rcases d p e with e | e
        · exact .inl e
        · exact .inr (.tail _ e)
theorem CompEnd_pick {h₀ : Heap} {L I C D : Addr} {m : Str → Option Value} {s₁ : Shared} {oI oC oD : Obj} {S : List (Addr × Obj) → Prop} {rest : Value → List (Addr × Obj) → Prop} {y : Value} {h' : Heap} {tk : Nat} {all r1 r2 r3 : List (Addr × Obj)}
    (F : Fr h₀ L h' m) (N : News h₀ L h' all) (p1 : Pick I oI all r1) (p2 : Pick C oC r1 r2) (p3 : Pick D oD r2 r3) (hS : S r3) (r : rest y r3) :
    LCg.CompEnd h₀ L m s₁ I oI C oC D oD S rest y { s₁ with heap := h', toks := tk } := by
  obtain ⟨a1, b1, c1, -⟩ := p1.facts
  obtain ⟨a2, b2, c2, -⟩ := p2.facts
  obtain ⟨a3, b3, c3, -⟩ := p3.facts
  refine LCg.CompEnd.intro F N r3 (fun p hp => ?_) (LCg.Off3.of fun p hp => ⟨c1 p (b2 p (b3 p hp)), c2 p (b3 p hp), c3 p hp⟩) hS r
  rcases List.mem_cons.mp hp with rfl | hp
  · exact a1
  rcases List.mem_cons.mp hp with rfl | hp
  · exact b1 _ a2
  rcases List.mem_cons.mp hp with rfl | hp
  · exact b1 _ (b2 _ a3)
  · exact b1 _ (b2 _ (b3 _ hp))
def TupAt (ax : Addr) (its : Array Value) (news : List (Addr × Obj)) : Prop := ∃ o, (ax, o) ∈ news ∧ o.cls = .type "tuple" ∧ ∃ n, o.data = .seq its n
theorem TupAt.tup {h₀ h : Heap} {L ax : Addr} {its : Array Value} {news : List (Addr × Obj)} (x : TupAt ax its news) (N : News h₀ L h news) : h.IsTuple ax its := by
  obtain ⟨o, hm, r⟩ := x
  exact ⟨o, (N _ hm).1, r⟩
section
variable {prog : Program} {w : World} {A : Around} {E : Value → Shared → Prop} {s : Shared} {h₀ : Heap} {L : Addr} {m : Str → Option Value} {env : Env}
def SrcT (prog : Program) (w : World) (A : Around) (h₀ : Heap) (L : Addr) (m : Str → Option Value) (env : Env) (elt : Expr) (x : Str) (scope : Scope) (cl : List (Str × Addr)) (Fin : Shared → List Value → List (Addr × Obj) → Prop) (xv : Value) (s₁ : Shared) : Prop :=
  ∃ ax its news, xv = .ref ax ∧ A.handled = none ∧ Fr h₀ L s₁.heap m ∧ News h₀ L s₁.heap news ∧ TupAt ax its news ∧ its.size ≤ sizeLine ∧
    ∀ s₂ : Shared, (∃ h, s₂ = { s₁ with heap := h }) → LCg.CompRest prog w A h₀ L m env elt x scope cl s₂ (TupAt ax its) (fun i v => its[i]? = some v) (Fin s₂) its.size 0 [] news
theorem SrcT.ledger {elt : Expr} {x : Str} {scope : Scope} {cl : List (Str × Addr)} {Fin : Shared → List Value → List (Addr × Obj) → Prop} {ax : Addr} {its : Array Value} {k : Nat} {news : List (Addr × Obj)} {s₁ : Shared}
    (hh : A.handled = none) (F : Fr h₀ L s₁.heap m) (N : News h₀ L s₁.heap news) (hm : (ax, ({ cls := .type "tuple", data := .seq its k } : Obj)) ∈ news) (hsz : its.size ≤ sizeLine)
    (h : ∀ g, LCg.CompRest prog w A h₀ L m env elt x scope cl { s₁ with heap := g } (TupAt ax its) (fun i v => its[i]? = some v) (Fin { s₁ with heap := g }) its.size 0 [] news) :
    SrcT prog w A h₀ L m env elt x scope cl Fin (.ref ax) s₁ := ⟨ax, its, news, rfl, hh, F, N, ⟨_, hm, rfl, _, rfl⟩, hsz, fun _ ⟨g, e⟩ => e ▸ h g⟩
theorem tup_st {ax I : Addr} {its : Array Value} : ∀ i (h h' : Heap) (o : Obj) (nw : List (Addr × Obj)), (h.IsTupleIter I ax i ∧ h.IsTuple ax its) → h.get? I = some o → h'.get? I = some o → (∀ b o, h₀.get? b = some o → h'.get? b = some o) → News h₀ L h' nw → TupAt ax its nw → (h'.IsTupleIter I ax i ∧ h'.IsTuple ax its) :=
  fun i h h' o nw st e e' k N S => ⟨by obtain ⟨o', q, r⟩ := st.1; rw [e] at q; cases q; exact ⟨o, e', r⟩, S.tup N⟩
theorem ListComp_T {elt iter : Expr} {x : Str} {px : Pos} {scope : Scope} {cl : List (Str × Addr)} {pos : Pos} {Q : Value → Shared → Prop} (F₀ : Fr h₀ L s.heap m)
    (hclos : closureFor scope env = pure cl) (hcell : ∀ y ∈ scope.names, y.2 ≠ .cell) (hkind : scope.kind = .function)
    (hnames : ∀ y ∈ scope.names, y.2 = .local → scope.names.lookup y.1 = some .local) (hx : scope.names.lookup x = some .local)
    (h : wpAny (model prog w) A (eval iter env) (SrcT prog w A h₀ L m env elt x scope cl (fun s₂ => LCg.FinE h₀ L m s₂ Q)) E s)
    (hs : ∀ x, foldedSetIterable iter env x = pure x := by intro _; rfl) :
    wpAny (model prog w) A (eval (.ListComp elt [⟨.Name x px, iter, [], 0⟩] scope pos) env) Q E s := by
  rw [eval_ListComp]
  refine wpAny_comprehension_free (use := none) rfl hs hclos hkind hnames (wpAny_mono h (fun xv s₁ h₁ => ?_) fun _ _ e => e)
  rcases h₁ with ⟨ax, its, news, rfl, hh, F, N, S, hsz, R⟩
  have hl := S.tup N
  have hlt : ax < s₁.heap.objs.size := by obtain ⟨_, e, _⟩ := hl; exact Heap.lt_size e
  refine wpAny_pyIter_tuple hl ?_
  have up : ∀ b o, s₁.heap.get? b = some o → (s₁.heap.push { cls := .type "tuple_iterator", data := .fields #[.ref ax, .int 0 0] }).get? b = some o := fun b o e => Heap.get?_push_of_some _ e
  refine LCg.block_U (Walks.tuple hh s₁.heap.objs.size ax (Nat.ne_of_lt hlt) its) hsz (fun i h st => by obtain ⟨o, e, _⟩ := st.1; exact ⟨o, e⟩) tup_st hcell hkind hx ⟨⟨_, Heap.get?_push_size _ rfl, rfl, rfl⟩, hl.at fun o e => up _ o e⟩ (fun b hb => ?_)
    (F.keeps up) (N.grown up) (Nat.ne_of_lt F.ns.lt) (next_is_new F) (fun p hp => Nat.ne_of_lt (Heap.lt_size (N p hp).1)) S (R _ ⟨_, rfl⟩) ?_
  · show b < (s₁.heap.push _).objs.size
    rw [Heap.size_push]
    rcases List.mem_cons.mp hb with rfl | hb
    · exact Nat.lt_succ_self _
    · rw [List.mem_singleton.mp hb]; exact Nat.lt_succ_of_lt hlt
  · intro D C h' tk m' ys news' F' N' o1 hn hC₀ hD₀ hCL hDL hCD offC fin
    refine ⟨m', hn, fun h'' hs'' => fin D h'' tk (F'.change hs'' hCL hC₀) (fun p hp => ?_) o1⟩
    refine ⟨hs''.extBut _ _ ?_ (N' p hp).1, (N' p hp).2⟩
    rcases List.mem_cons.mp hp with rfl | hp
    · exact Ne.symm hCD
    · exact offC p hp
end
local macro_rules | `(tactic| walk_at "call ref") => `(tactic| (o_head (264, t_turned (by k_mem) (by k_mem) (by k_mem) (by k_mem) (by k_mem) (by k_mem) (by k_mem) (by k_mem) (by walk_at "Bd99") (by walk_at "Bd99") (by walk_at "Bd99") (by walk_at "Bd99") (by walk_at "Bd99") (by walk_at "Bd99")); walk_at "nuL"))
local macro_rules | `(tactic| walk_at "call ref") => `(tactic| (o_head (159, t_point (by k_mem) (by k_mem) (by k_mem) (by k_mem) (by k_mem) (by k_mem) (by k_mem) (by k_mem) (by k_mem) (by k_mem) (by k_mem) (by walk_at "Bd99") (by walk_at "Bd99") (by walk_at "Bd99") (by walk_at "Bd99") (by walk_at "Bd99") (by walk_at "Bd99") (by walk_at "Bd99") (by walk_at "Bd99")); walk_at "nuL"))
local macro_rules | `(tactic| walk_at "call ref") => `(tactic| (o_head (152, t_vector (by k_mem) (by k_mem) (by k_mem) (by k_mem) (by k_mem) (by k_mem) (by k_mem) (by k_mem) (by k_mem) (by walk_at "Bd99") (by walk_at "Bd99") (by walk_at "Bd99") (by walk_at "Bd99") (by walk_at "Bd99") (by walk_at "Bd99")); walk_at "nuL"))
local macro_rules | `(tactic| k_all) => `(tactic| first | exact fun p hp => (LCg.Off3.mem (by (walk_at "last")) p hp).1 | exact fun p hp => (LCg.Off3.mem (by (walk_at "last")) p hp).2.1 | exact fun p hp => (LCg.Off3.mem (by (walk_at "last")) p hp).2.2)
local macro_rules | `(tactic| walk_at "pick") => `(tactic| first | (refine' Pick.head ?nua; (case nua => k_all)) | (refine' Pick.tail ?nua ?nub; (case nua => k_ne); (case nub => walk_at "pick")))
local macro_rules | `(tactic| walk_at "CompEnd") => `(tactic| (k_here; k_dflt (refine' CompEnd_pick ?nuF ?nuN ?nup1 ?nup2 ?nup3 ?nuhS ?_; (case nuF => assumption); (case nuN => assumption); (case nup1 => walk_at "pick"); (case nup2 => walk_at "pick"); (case nup3 => walk_at "pick"); (case nuhS => first | lcg_src | exact ⟨_, by k_mem, rfl, _, rfl⟩))))
local macro_rules | `(tactic| walk_at "SrcT") => `(tactic| (k_here; k_dflt (refine SrcT.ledger (by rfl) (by k_asm) (by k_asm) (by k_mem) (by first | size_fits | exact Nat.le_of_ble_eq_true rfl) ?_; intro g'; lcg_lit)))
section
local macro_rules | `(tactic| walk_at "eval ListComp") => `(tactic| (k_here; k_dflt (refine ListComp_T (F₀ := by k_asm) (by rfl) (by decide) (by rfl) (by decide) (by rfl) ?_)))
theorem t_mright {w : World} {mean : ExcName → Option Value} {mg mb : Str → Option Value} {dp un : Nat} {gd : Option (List Code)} {cn : Str} {cs : Scope} {a : Addr} {ccd : Value} {cl : List (Str × Addr)} {outer : List Env} {A₀ : Around} {base h₀ : Heap} {L : Addr} {m : Str → Option Value} {s : Shared} {Q E : Value → Shared → Prop} {news : List (Addr × Obj)} (B : Below A₀ base outer h₀) (F : Fr h₀ L s.heap m) (X : (tp.heap_1 w.params).In h₀) (N : News h₀ L s.heap news) (T : Top tp.view_1 (looseW tp.view_1 [Str.ofString "fraction"]) mean mg mb h₀) (hk : cs.kind = .function)
  (hdp : dp + 60 < recursionLimit) (hun : un + 500 < cLine) {S T' P C Z X1 Y1 : Addr} {adv : Int} {tadv a1 a2 c1 c2 d1 d2 e1 e2 f1 f2 : Tok} {sc co si px py : Rat}
  (hS : (S, fo sc a1 a2) ∈ news) (hT : (T', pr C Z) ∈ news) (hC : (C, fo co c1 c2) ∈ news) (hZ : (Z, fo si d1 d2) ∈ news) (hP : (P, pr X1 Y1) ∈ news) (hX : (X1, fo px e1 e2) ∈ news) (hY : (Y1, fo py f1 f2) ∈ news)
  (bS : Bd 4 sc) (bH : Bd 10 (Rat.divInt adv 2)) (bC : Bd 11 co) (bZ : Bd 11 si) (bX : Bd 60 px) (bY : Bd 60 py)
  (hret : ∀ (h' : Heap) (tk' : Nat), Fr h₀ L h' m → News h₀ L h' news → Q (.bool true) { s with heap := h', toks := tk' }) :
  wpAny (model PySem.Challenge.rw_nu0017_01.row.prog w) (ktrTop dp un gd cn cs L a ccd cl outer) (call (.ref 344) [.ref S, .int adv tadv, .ref T', .ref P]) Q E s := by
  have b0 : Bd 1 ((0 : Int) : Rat) := Bd_int (by decide) (by decide)
  have b1 : Bd 1 ((1 : Int) : Rat) := Bd_int (by decide) (by decide)
  have b2 : Bd 1 ((-1 : Int) : Rat) := Bd_int (by decide) (by decide)
  have z0 : ((0 : Int) : Rat) = 0 := rfl
  have z1 : ((1 : Int) : Rat) = 1 := rfl
  have z2 : ((-1 : Int) : Rat) = -1 := rfl
  have e1 : sc * co * Rat.divInt adv 2 + sc * si * ((0 : Int) : Rat) + (px - co * (sc * Rat.divInt adv 2)) = px := by rw [z0]; grind
  have e2 : sc * si * Rat.divInt adv 2 + -(sc * co) * ((0 : Int) : Rat) + (py - si * (sc * Rat.divInt adv 2)) = py := by rw [z0]; grind
  have e3 : sc * co * ((1 : Int) : Rat) + sc * si * ((0 : Int) : Rat) = sc * co := by rw [z0, z1]; grind
  have e4 : sc * si * ((1 : Int) : Rat) + -(sc * co) * ((0 : Int) : Rat) = sc * si := by rw [z0, z1]; grind
  have e5 : sc * co * ((0 : Int) : Rat) + sc * si * ((1 : Int) : Rat) = sc * si := by rw [z0, z1]; grind
  have e6 : sc * si * ((0 : Int) : Rat) + -(sc * co) * ((1 : Int) : Rat) = ((-1 : Int) : Rat) * (sc * co) := by rw [z0, z1, z2]; grind
  clear z0 z1 z2
  refine wpAny_call ?_
  (k_dflt (refine' code_defC ?k1 ?k2 ?k3 ?k4 ?k5 ?kA ?kF ?kK ?k6 ?k7 ?k8 ?k9 ?kB ?kD ?_ ?c2 ?c3 ?c4; (case kA => exact rfl); (case kF => exact rfl); (case kK => first | assumption | exact rfl); (case k1 => k_asm); (case k2 => k_asm); (case k3 => k_asm); (case k4 => k_asm); (case k5 => k_asm); (case k6 => k_is); (case k7 => k_is); (case k8 => ktr_room); (case k9 => first | exact BindsTo.of_eq rfl | exact binds_K (by k_in) rfl (by k_is) rfl rfl rfl); (case kB => exact rfl); (case kD => decide +kernel); (case c2 => exact rfl); (case c3 => exact rfl); (case c4 => exact rfl); k_whole; intro g' L' h' tk' cells' FG' F' N' Y' B' X' T' l1; (replace l1 := allLt_of l1); (try simp only [AllLt, and_true] at l1); k_cells Y'; (try simp only [List.cons_append, List.nil_append] at N'); (try dsimp only); (try k_lift B'); (try k_fold)))
  k_steps
  · rename News _ _ _ _ => N1
    rw [e5, e6]
    simp only [beq_self_eq_true, Bool.and_self]
    exact hret _ _ (by assumption) (cb_drop N1 (by kcj_all))
  · rename _ = false => h9
    rw [e3, e4] at h9
    simp only [beq_self_eq_true, Bool.and_self] at h9
    cases h9
  · rename _ = false => h9
    rw [e1, e2] at h9
    simp only [beq_self_eq_true, Bool.and_self] at h9
    cases h9

end
theorem nu_item {prog : Program} {w : World} {A : Around} {E : Value → Shared → Prop} {s : Shared} {h₀ : Heap} {L : Addr} {news : List (Addr × Obj)} {value slice : PySem.Expr} {l : Addr} {vs : List Value} {n : Nat} {k : Int} {u : Tok} {v : Value} {Q : Value → Shared → Prop}
    (N : News h₀ L s.heap news) (hm : (l, ({ cls := .type "list", data := .seq vs.toArray n } : Obj)) ∈ news) (h0 : 0 ≤ k) (hhi : k < 2 ^ 62) (hx : vs[k.toNat]? = some v) (h : Q v s)
    (hs : subscripted slice false (.ref l) (.int k u) = operate [.ref l, .int k u] (getItem (.ref l) (.int k u)) := by with_unfolding_all rfl) :
    wpAny (model prog w) A (subscriptTail value slice (.ref l) (.int k u)) Q E s := by
  have hl : s.heap.IsList l vs.toArray := ⟨_, (N _ hm).1, rfl, _, rfl⟩
  exact tail_any hl.typeIs slot_list_getitem.lookup (wpAny_getItem_list hl h0 (by omega) (by simpa using hx) h) hs
theorem nu_len {prog : Program} {w : World} {A : Around} {E : Value → Shared → Prop} {s : Shared} {h₀ : Heap} {L : Addr} {news : List (Addr × Obj)} {l : Addr} {vs : List Value} {n : Nat} {Q : Value → Shared → Prop}
    (N : News h₀ L s.heap news) (hm : (l, ({ cls := .type "list", data := .seq vs.toArray n } : Obj)) ∈ news) (hz : vs.length < 2 ^ 20)
    (h : Q (.int (vs.length : Int) (s.toks + 1)) { s with toks := s.toks + 1 + 1 }) : wpAny (model prog w) A (call (.builtin "len") [.ref l]) Q E s :=
  len_list (items := vs.toArray) ⟨_, (N _ hm).1, rfl, _, rfl⟩ (by rw [List.size_toArray]; omega) (by rw [List.size_toArray]; exact h)
local macro_rules | `(tactic| walk_at "nuz") => `(tactic| first | walk_at "fact" | decide | omega | (simp only [List.length_append, List.length_cons, List.length_nil, List.length_take]; omega))
local macro_rules | `(tactic| walk_at "nuI") => `(tactic| (walk_at "nuS"; k_dflt (refine' nu_item ?nuN ?nuhm ?nuh0 ?nuh1 ?nuhx ?_; (case nuN => k_asm); (case nuhm => k_mem); (case nuhx => walk_at "hk"); (case nuh0 => walk_at "nuz"); (case nuh1 => walk_at "nuz"); k_whole)))
local macro_rules | `(tactic| walk_at "subscriptTail Name Name ref int") => `(tactic| walk_at "nuI")
local macro_rules | `(tactic| walk_at "call builtin:len") => `(tactic| (walk_at "nuN"; k_dflt (refine' nu_len (by k_asm) (by k_mem) (by walk_at "nuz") ?_; k_whole)))
local macro_rules | `(tactic| walk_at "subscriptTail Name BinOp") => `(tactic| walk_at "nuI")
section
local macro_rules | `(tactic| walk_at "CompSrc") => `(tactic| (k_here; k_dflt (refine LCg.CompSrc.range (by rfl) (by k_asm) (by k_asm) (by assumption) (by first | decide | rfl) (by first | rfl | decide) (by first | size_fits | exact Nat.le_of_ble_eq_true rfl) ?_; intro g'; lcg_lit)))
theorem t_pright {w : World} {mean : ExcName → Option Value} {mg mb : Str → Option Value} {dp un : Nat} {gd : Option (List Code)} {cn : Str} {cs : Scope} {a : Addr} {ccd : Value} {cl : List (Str × Addr)} {outer : List Env} {A₀ : Around} {base h₀ : Heap} {L : Addr} {m : Str → Option Value} {s : Shared} {Q E : Value → Shared → Prop} {news : List (Addr × Obj)} (B : Below A₀ base outer h₀) (F : Fr h₀ L s.heap m) (X : (tp.heap_1 w.params).In h₀) (N : News h₀ L s.heap news) (T : Top tp.view_1 (looseW tp.view_1 [Str.ofString "fraction"]) mean mg mb h₀) (hk : cs.kind = .function)
  (hdp : dp + 40 < recursionLimit) (hun : un + 400 < cLine) {P D1 D2 SP p1 p2 : Addr} {vs : List Value} {ep : Nat} {num many len ox oy px py : Int} {tn tm tl tp a1 a2 b1 b2 c1 c2 d1 d2 : Tok} {r1 r2 : Rat}
  (hP : (P, pr D1 D2) ∈ news) (hD1 : (D1, fo r1 a1 a2) ∈ news) (hD2 : (D2, fo r2 b1 b2) ∈ news)
  (hS : (SP, ({ cls := .type "list", data := .seq vs.toArray ep } : Obj)) ∈ news) (hn0 : 0 ≤ num) (hn1 : num < vs.length) (hvs : vs.length < 100)
  (hv1 : vs[num.toNat]? = some (.ref p1)) (hv2 : vs[(Int.fmod (num + 1) vs.length).toNat]? = some (.ref p2)) (hp1 : (p1, po ox oy c1 c2) ∈ news) (hp2 : (p2, po px py d1 d2) ∈ news)
  (hl0 : 0 < len) (hl1 : len < 2 ^ 20) (hm : many.natAbs < 2 ^ 20) (ho : ox.natAbs < 2 ^ 20) (ho' : oy.natAbs < 2 ^ 20) (hp : px.natAbs < 2 ^ 20) (hp' : py.natAbs < 2 ^ 20)
  (e1 : r1 = Rat.divInt (ox * len * 4 + (px - ox) * many) (len * 4)) (e2 : r2 = Rat.divInt (oy * len * 4 + (py - oy) * many) (len * 4))
  (hret : ∀ (h' : Heap) (tk' : Nat), Fr h₀ L h' m → News h₀ L h' news → Q (.bool true) { s with heap := h', toks := tk' }) :
  wpAny (model PySem.Challenge.rw_nu0017_01.row.prog w) (ktrTop dp un gd cn cs L a ccd cl outer) (call (.ref 339) [.ref P, .ref SP, .int num tn, .int many tm, .int len tl, .int 4 tp]) Q E s := by
  have q1 : (ox * len).natAbs < 2 ^ 40 := by rw [Int.natAbs_mul]; exact bd_aux (b := len.natAbs) (k := 20) ho (by omega)
  have q2 : (oy * len).natAbs < 2 ^ 40 := by rw [Int.natAbs_mul]; exact bd_aux (b := len.natAbs) (k := 20) ho' (by omega)
  replace q1 := natAbs_lt_pow q1
  replace q2 := natAbs_lt_pow q2
  replace hm := natAbs_lt_pow hm
  replace ho := natAbs_lt_pow ho
  replace ho' := natAbs_lt_pow ho'
  replace hp := natAbs_lt_pow hp
  replace hp' := natAbs_lt_pow hp'
  have f1 := Int.fmod_nonneg_of_pos (num + 1) (b := (vs.length : Int)) (by omega)
  have f2 := Int.fmod_lt_of_pos (num + 1) (b := (vs.length : Int)) (by omega)
  subst e1
  subst e2
  refine wpAny_call ?_
  (k_dflt (refine' code_defC ?k1 ?k2 ?k3 ?k4 ?k5 ?kA ?kF ?kK ?k6 ?k7 ?k8 ?k9 ?kB ?kD ?_ ?c2 ?c3 ?c4; (case kA => exact rfl); (case kF => exact rfl); (case kK => first | assumption | exact rfl); (case k1 => k_asm); (case k2 => k_asm); (case k3 => k_asm); (case k4 => k_asm); (case k5 => k_asm); (case k6 => k_is); (case k7 => k_is); (case k8 => ktr_room); (case k9 => first | exact BindsTo.of_eq rfl | exact binds_K (by k_in) rfl (by k_is) rfl rfl rfl); (case kB => exact rfl); (case kD => decide +kernel); (case c2 => exact rfl); (case c3 => exact rfl); (case c4 => exact rfl); k_whole; intro g' L' h' tk' cells' FG' F' N' Y' B' X' T' l1; (replace l1 := allLt_of l1); (try simp only [AllLt, and_true] at l1); k_cells Y'; (try simp only [List.cons_append, List.nil_append] at N'); (try dsimp only); (try k_lift B'); (try k_fold)))
  have l2 : AllLt (L' + 1) news := allLt_mono l1 (by omega)
  have l3 : AllLt (L' + 2) news := allLt_mono l1 (by omega)
  have l4 : AllLt (L' + 3) news := allLt_mono l1 (by omega)
  have l5 : AllLt (L' + 4) news := allLt_mono l1 (by omega)
  have l6 : AllLt (L' + 5) news := allLt_mono l1 (by omega)
  k_steps
  rename News _ _ _ _ => N1
  exact hret _ _ (by assumption) (cb_drop N1 (by kcj_all))

end
def due : List Int → Int → Nat → Int → Option (Nat × Int)
  | [], _, _, _ => none
  | l :: r, b, k, d => if 0 < l ∧ b * 4 ≤ d ∧ d ≤ (b + l) * 4 then some (k, d - b * 4) else due r (b + l) (k + 1) d
local macro_rules | `(tactic| walk_at "pyIter ref") => `(tactic| refine stop_intro ?_)
section
local macro_rules | `(tactic| walk_at "InvEndN") => `(tactic| refine stop_intro ?_)
theorem due_cons (l : Int) (r : List Int) (b : Int) (k : Nat) (d : Int) : due (l :: r) b k d = if 0 < l ∧ b * 4 ≤ d ∧ d ≤ (b + l) * 4 then some (k, d - b * 4) else due r (b + l) (k + 1) d := rfl
theorem due_nil (b : Int) (k : Nat) (d : Int) : due [] b k d = none := rfl
theorem t_due {w : World} {mean : ExcName → Option Value} {mg mb : Str → Option Value} {dp un : Nat} {gd : Option (List Code)} {cn : Str} {cs : Scope} {a : Addr} {ccd : Value} {cl : List (Str × Addr)} {outer : List Env} {A₀ : Around} {base h₀ : Heap} {L : Addr} {m : Str → Option Value} {s : Shared} {Q E : Value → Shared → Prop} {news : List (Addr × Obj)} (B : Below A₀ base outer h₀) (F : Fr h₀ L s.heap m) (X : (tp.heap_1 w.params).In h₀) (N : News h₀ L s.heap news) (T : Top tp.view_1 (looseW tp.view_1 [Str.ofString "fraction"]) mean mg mb h₀) (hk : cs.kind = .function)
  (hdp : dp + 20 < recursionLimit) (hun : un + 200 < cLine) {LL : Addr} {vs : List Value} {ls : List Int} {ep : Nat} {d : Int} {td tp : Tok}
  (hL : (LL, ({ cls := .type "list", data := .seq vs.toArray ep } : Obj)) ∈ news) (hi : IntsAre vs ls) (hn : ls.length < 100)
  (hb : ∀ x ∈ ls, 0 ≤ x ∧ x < 2 ^ 11)
  (hret0 : due ls 0 0 d = none → ∀ (h' : Heap) (tk' : Nat), Fr h₀ L h' m → News h₀ L h' news → Q .none { s with heap := h', toks := tk' })
  (hret1 : ∀ k r, due ls 0 0 d = some (k, r) → ∀ (D : Addr) (t1 t2 : Tok) (h' : Heap) (tk' : Nat), Fr h₀ L h' m → News h₀ L h' ((D, ({ cls := .type "list", data := .seq #[.int (k : Int) t1, .int r t2] } : Obj)) :: news) → AllLt D news → Q (.ref D) { s with heap := h', toks := tk' }) :
  wpAny (model PySem.Challenge.rw_nu0017_01.row.prog w) (ktrTop dp un gd cn cs L a ccd cl outer) (call (.ref 334) [.ref LL, .int d td, .int 4 tp]) Q E s := by
  have hlen := hi.length
  have hit : ∀ i x, ls[i]? = some x → ∃ t, vs[i]? = some (Value.int x t) := fun i x h => hi.get i x h
  refine wpAny_call ?_
  (k_dflt (refine' code_def ?k1 ?k2 ?k3 ?k4 ?k5 ?kA ?kF ?kK ?k6 ?k7 ?k8 ?k9 ?kB ?_ ?c2 ?c3 ?c4 ?c5; (case kA => exact rfl); (case kF => exact rfl); (case kK => first | assumption | exact rfl); (case k1 => k_asm); (case k2 => k_asm); (case k3 => k_asm); (case k4 => k_asm); (case k5 => k_asm); (case k6 => k_is); (case k7 => k_is); (case k8 => ktr_room); (case k9 => first | exact BindsTo.of_eq rfl | exact binds_K (by k_in) rfl (by k_is) rfl rfl rfl); (case c5 => decide); (case kB => exact locs rfl); (case c2 => exact rfl); (case c3 => exact rfl); (case c4 => exact rfl); k_whole; intro g' L' h' FG' F' N' B' X' T'; (try dsimp only); (try k_lift B'); (try k_fold)))
  k_steps
  refine stop_out ?_
  rename Fr _ _ _ _ => F1
  rename News _ _ _ _ => N1
  rename IsRange _ _ _ _ _ _ _ _ => R1
  refine kst_range (σ := Int × Tok) (n := ls.length) (fun _ => news) (fun c => [(Str.ofString "begin", .int c.1 c.2)]) (fun _ => True) [Str.ofString "end"] (fun pre c => (0 ≤ c.1 ∧ c.1 ≤ 2 ^ 11 * (pre.length : Int)) ∧ due ls 0 0 d = due (ls.drop pre.length) c.1 pre.length d) (0, _) rfl R1 (small_one (by omega) (by omega) (by omega) (by omega)) (by rw [rangeSize_nat]; omega) F1 N1 trivial (by kst_all) ?p0 ?turn ?done
  case p0 => exact ⟨by simp, by simp⟩
  case turn =>
    clear F1 N1
    intro c pre k t u h tk own e hlt hoff _ hp F' N'
    obtain ⟨b, tb⟩ := c
    dsimp only at hp N'
    dsimp only [kstB] at F'
    have hL' : (LL, ({ cls := .type "list", data := .seq vs.toArray ep } : Obj)) ∈ news ++ own := List.mem_append_left _ hL
    obtain ⟨t9, hx⟩ := hit pre.length ls[pre.length] (by simp [hlt])
    have hx' : vs[k.toNat]? = some (Value.int ls[pre.length] t9) := by
      rw [show k.toNat = pre.length by omega]; exact hx
    have hb9 := hb ls[pre.length] (List.getElem_mem hlt)
    generalize hl9 : ls[pre.length] = l9 at *
    have hd9 : ls.drop pre.length = l9 :: ls.drop (pre.length + 1) := by rw [← hl9]; exact List.drop_eq_getElem_cons hlt
    obtain ⟨p1, p2⟩ := hp
    rw [hd9, due_cons] at p2
    k_steps
    · rename News _ _ _ _ => N1
      have e9 : (k : Int) = ((pre.length : Nat) : Int) := by omega
      rw [if_pos ⟨by assumption, by assumption, by assumption⟩] at p2
      have hN : News h₀ L _ _ := cb_drop N1 (by
        intro p hp
        rcases List.mem_cons.mp hp with rfl | hp
        · exact .head _
        · exact .tail _ (List.mem_append_left _ hp))
      rw [e9] at hN
      exact hret1 _ _ p2 _ _ _ _ _ (by assumption) hN (by rename (∀ (p : Addr × Obj), p ∈ news ++ own → p.1 < _) => l1; exact allLt_of fun p hp => l1 p (List.mem_append_left _ hp))
    all_goals (
      refine stop_out ?_
      rename News _ _ _ _ => N1
      rename Fr _ _ _ _ => F1
      rw [if_neg (by omega)] at p2
      refine InvEndN.intro F1 N1 ⟨(b + l9, _), rfl, trivial, by kst_all, by kst_same, ?_⟩ rfl (fun p hp => List.mem_append_left _ hp) (fun p hp => List.mem_append_right _ hp)
      refine ⟨?_, ?_⟩
      · dsimp only; rw [List.length_append]; simp only [List.length_singleton]; omega
      · dsimp only; rw [List.length_append]; exact p2)
  case done =>
    intro c u h tk _ hp F' N'
    dsimp only [kstB] at F'
    have hl9 : (rangeKs 0 ls.length).length = ls.length := rangeKs_length _ _
    rw [hl9, List.drop_length] at hp
    obtain ⟨-, p2⟩ := hp
    rw [due_nil] at p2
    k_steps
    exact hret0 p2 _ _ (by assumption) (by assumption)

end
def NuEnd (h₀ : Heap) (L : Addr) (J : (Str → Option Value) → List (Addr × Obj) → Prop) (I : Addr) (oI : Obj) (s₁ s₂ : Shared) : Prop :=
  ∃ h' tk m' nx all, s₂ = { s₁ with heap := h', toks := tk } ∧ Fr h₀ L h' m' ∧ News h₀ L h' all ∧ (I, oI) ∈ all ∧ (∀ p ∈ nx, p ∈ all) ∧ (∀ p ∈ nx, p.1 ≠ I) ∧ J m' nx
def NuPost (h₀ : Heap) (L : Addr) (J : (Str → Option Value) → List (Addr × Obj) → Prop) (I : Addr) (oI : Obj) (s₁ : Shared) (Q : Flow → Shared → Prop) (f : Flow) (s₂ : Shared) : Prop :=
  match f with
  | .ret v => Q (.ret v) s₂
  | .brk => Q .next s₂
  | _ => NuEnd h₀ L J I oI s₁ s₂
section
variable {prog : Program} {w : World} {A : Around} {E : Value → Shared → Prop} {s : Shared} {env : Env} {h₀ : Heap} {x : Str} {body : List Stmt} {Q : Flow → Shared → Prop}
theorem NuEnd.intro {L : Addr} {J : (Str → Option Value) → List (Addr × Obj) → Prop} {I : Addr} {oI : Obj} {s₁ : Shared} {h' : Heap} {tk : Nat} {m' : Str → Option Value} {all : List (Addr × Obj)} (nx : List (Addr × Obj))
    (F : Fr h₀ L h' m') (N : News h₀ L h' all) (hI : (I, oI) ∈ all) (hn : ∀ p ∈ nx, p ∈ all) (ho : ∀ p ∈ nx, p.1 ≠ I) (hj : J m' nx) : NuEnd h₀ L J I oI s₁ { s₁ with heap := h', toks := tk } := ⟨h', tk, m', nx, all, rfl, F, N, hI, hn, ho, hj⟩
theorem nu_range {r : Addr} {b₀ : Int} {t₀ u₀ v₀ : Tok} {n : Nat} {m₀ : Str → Option Value} {news : List (Addr × Obj)} (J : Nat → (Str → Option Value) → List (Addr × Obj) → Prop)
    (hh : A.handled = none) (hr : IsRange s.heap r 0 b₀ 1 t₀ u₀ v₀) (hsmall : Builtin.Range.small 0 b₀ 1 = true) (hn : Builtin.Range.rangeSize 0 b₀ 1 = (n : Int)) (F : Fr h₀ env.locals s.heap m₀) (N : News h₀ env.locals s.heap news) (hj : J 0 m₀ news)
    (turn : ∀ i t m₁ news₁ h tk I oI, i < n → (∀ p ∈ news₁, p.1 ≠ I) → J i m₁ news₁ → Fr h₀ env.locals h (fun y => if y = x then some (.int (i : Int) t) else m₁ y) → News h₀ env.locals h ((I, oI) :: news₁) →
      wpAny (model prog w) A (execs body env) (NuPost h₀ env.locals (J (i + 1)) I oI { s with heap := h, toks := tk } Q) E { s with heap := h, toks := tk })
    (done : ∀ m₁ news₁ h tk, J n m₁ news₁ → Fr h₀ env.locals h m₁ → News h₀ env.locals h news₁ → Q .next { s with heap := h, toks := tk }) :
    wpAny (model prog w) A (pyIter (.ref r)) (fun it s₂ => LoopAtV prog w A h₀ env x body Q E it s₂) E s := by
  refine wpAny_pyIter_range hr hsmall ?_
  have W : Walks prog w A s.heap.objs.size [s.heap.objs.size] [s.heap.objs.size] n (fun i v => ∃ t, v = .int (0 + (i : Int)) t)
      (fun i h => IsRangeIter h s.heap.objs.size (0 + (i : Nat) * 1) ((n : Int) - (i : Nat)) 1) := LCg.range_walks hh 0 n
  refine ⟨_, _, _, n, _, _, m₀, news, J, rfl, W, ?_, ?_, ?_, (by show IsRangeIter _ _ _ _ _; rw [hn]; simpa using Heap.get?_push_size _ rfl), F.push _, (fun p hp => ⟨Heap.get?_push_of_some _ (N p hp).1, (N p hp).2⟩), hj, ?_, ?_⟩
  · intro hm
    exact absurd F.ns.lt ((List.mem_singleton.mp hm) ▸ Nat.lt_irrefl _)
  · intro b hb
    rw [List.mem_singleton.mp hb]
    exact next_is_new F
  · intro p hp hI
    exact absurd (Heap.lt_size (N p hp).1) ((List.mem_singleton.mp hI) ▸ Nat.lt_irrefl _)
  · rintro i v m₁ news₁ s₁ own ⟨hh', tk', rfl⟩ hin ⟨t, hP⟩ hJ hoff hown hget hfp hst F₁ N₁
    have hI0 : h₀.get? s.heap.objs.size = none := next_is_new F
    obtain ⟨oI, hst'⟩ : ∃ o, hh'.get? s.heap.objs.size = some o := ⟨_, hst⟩
    have hIown := hfp _ (List.mem_singleton.mpr rfl) hI0 _ hst'
    have hoff' : ∀ p ∈ news₁, p.1 ≠ s.heap.objs.size := fun p hp e => hoff p hp (List.mem_singleton.mpr e)
    have hv : v = .int (i : Int) t := by rw [hP]; simp
    subst hv
    have N₂ : News h₀ env.locals hh' ((s.heap.objs.size, oI) :: news₁) := fun p hp => by
      rcases List.mem_cons.mp hp with e | hp
      · rw [e]; exact N₁ _ (List.mem_append.mpr (.inl hIown))
      · exact N₁ p (List.mem_append.mpr (.inr hp))
    refine wpAny_mono (turn i t m₁ news₁ hh' tk' _ _ hin hoff' hJ F₁ N₂) (fun f s₂ p => ?_) fun _ _ e => e
    have fin : NuEnd h₀ env.locals (J (i + 1)) s.heap.objs.size oI { s with heap := hh', toks := tk' } s₂ → LoopStepU h₀ env.locals [s.heap.objs.size] own (J (i + 1)) { s with heap := hh', toks := tk' } .next s₂ := by
      rintro ⟨h', tk, m', nx, all, e, F', N', hI, hn', ho, hm⟩
      refine ⟨rfl, h', tk, m', nx, e, F', fun p hp => ?_, fun p hp hq => ho p hp (List.mem_singleton.mp hq), hm⟩
      rcases List.mem_append.mp hp with h | h
      · have h1 : p.1 = s.heap.objs.size := List.mem_singleton.mp (hown p h)
        have h2 := hget p h
        rw [h1] at h2
        have h3 : some p.2 = some oI := h2.symm.trans hst'
        have h4 : p = (s.heap.objs.size, oI) := Prod.ext h1 (Option.some.inj h3)
        rw [h4]
        exact N' _ hI
      · exact N' p (hn' p h)
    cases f with
    | ret v => exact .ret p
    | brk => exact .brk p
    | next => exact .next (fin p)
    | cont => exact .cont (fin p)
  · rintro h' tk m' news' F' N' _ hJ
    exact done m' news' h' tk hJ F' N'
theorem nu_list {l : Addr} {vs : List Value} {nn : Nat} {m₀ : Str → Option Value} {news : List (Addr × Obj)} (J : Nat → (Str → Option Value) → List (Addr × Obj) → Prop)
    (hh : A.handled = none) (hJl : ∀ i m nx, J i m nx → (l, ({ cls := .type "list", data := .seq vs.toArray nn } : Obj)) ∈ nx) (F : Fr h₀ env.locals s.heap m₀) (N : News h₀ env.locals s.heap news) (hj : J 0 m₀ news)
    (turn : ∀ i v m₁ news₁ h tk I oI, i < vs.length → vs[i]? = some v → (∀ p ∈ news₁, p.1 ≠ I) → J i m₁ news₁ → Fr h₀ env.locals h (fun y => if y = x then some v else m₁ y) → News h₀ env.locals h ((I, oI) :: news₁) →
      wpAny (model prog w) A (execs body env) (NuPost h₀ env.locals (J (i + 1)) I oI { s with heap := h, toks := tk } Q) E { s with heap := h, toks := tk })
    (done : ∀ m₁ news₁ h tk, J vs.length m₁ news₁ → Fr h₀ env.locals h m₁ → News h₀ env.locals h news₁ → Q .next { s with heap := h, toks := tk }) :
    wpAny (model prog w) A (pyIter (.ref l)) (fun it s₂ => LoopAtV prog w A h₀ env x body Q E it s₂) E s := by
  have hl := hJl 0 m₀ news hj
  have hol : s.heap.get? l = some _ := (N _ hl).1
  have hls : s.heap.IsList l vs.toArray := ⟨_, hol, rfl, nn, rfl⟩
  have hne : l ≠ s.heap.objs.size := Nat.ne_of_lt (Heap.lt_size hol)
  refine wpAny_pyIter_list hls ?_
  have W := Walks.list (prog := prog) (w := w) hh s.heap.objs.size l hne vs.toArray
  have hlen : vs.toArray.size = vs.length := by simp
  rw [hlen] at W
  refine ⟨_, _, _, vs.length, _, _, m₀, news, J, rfl, W, ?_, ?_, ?_, ⟨⟨_, Heap.get?_push_size _ rfl, rfl, rfl⟩, hls.at fun o e => Heap.get?_push_of_some _ e⟩, F.push _, (fun p hp => ⟨Heap.get?_push_of_some _ (N p hp).1, (N p hp).2⟩), hj, ?_, ?_⟩
  · intro hm
    rcases List.mem_cons.mp hm with e | hm
    · exact absurd F.ns.lt (e ▸ Nat.lt_irrefl _)
    · exact (N _ hl).2.1 ((List.mem_singleton.mp hm).symm)
  · intro b hb
    rw [List.mem_singleton.mp hb]
    exact next_is_new F
  · intro p hp hI
    exact absurd (Heap.lt_size (N p hp).1) ((List.mem_singleton.mp hI) ▸ Nat.lt_irrefl _)
  · rintro i v m₁ news₁ s₁ own ⟨hh', tk', rfl⟩ hin hP hJ hoff hown hget hfp hst F₁ N₁
    have hI0 : h₀.get? s.heap.objs.size = none := next_is_new F
    obtain ⟨⟨oI, hst', _⟩, _⟩ := id hst
    have hIown := hfp _ (List.mem_cons.mpr (.inl rfl)) hI0 _ hst'
    have hoff' : ∀ p ∈ news₁, p.1 ≠ s.heap.objs.size := fun p hp e => hoff p hp (List.mem_singleton.mpr e)
    have hv : vs[i]? = some v := by simpa using hP
    have N₂ : News h₀ env.locals hh' ((s.heap.objs.size, oI) :: news₁) := fun p hp => by
      rcases List.mem_cons.mp hp with e | hp
      · rw [e]; exact N₁ _ (List.mem_append.mpr (.inl hIown))
      · exact N₁ p (List.mem_append.mpr (.inr hp))
    have hlo : hh'.get? l = some _ := (N₁ _ (List.mem_append.mpr (.inr (hJl i m₁ news₁ hJ)))).1
    refine wpAny_mono (turn i v m₁ news₁ hh' tk' _ _ hin hv hoff' hJ F₁ N₂) (fun f s₂ p => ?_) fun _ _ e => e
    have fin : NuEnd h₀ env.locals (J (i + 1)) s.heap.objs.size oI { s with heap := hh', toks := tk' } s₂ → LoopStepU h₀ env.locals [s.heap.objs.size] own (J (i + 1)) { s with heap := hh', toks := tk' } .next s₂ := by
      rintro ⟨h', tk, m', nx, all, e, F', N', hI, hn', ho, hm⟩
      refine ⟨rfl, h', tk, m', nx, e, F', fun p hp => ?_, fun p hp hq => ho p hp (List.mem_singleton.mp hq), hm⟩
      rcases List.mem_append.mp hp with h | h
      · have h2 := hget p h
        rcases List.mem_cons.mp (hown p h) with h1 | h1
        · have h2' : hh'.get? s.heap.objs.size = some p.2 := h1 ▸ h2
          have h4 : p = (s.heap.objs.size, oI) := Prod.ext h1 (Option.some.inj (h2'.symm.trans hst'))
          rw [h4]
          exact N' _ hI
        · have h1' : p.1 = l := List.mem_singleton.mp h1
          have h2' : hh'.get? l = some p.2 := h1' ▸ h2
          have h4 : p = (l, _) := Prod.ext h1' (Option.some.inj (h2'.symm.trans hlo))
          rw [h4]
          exact N' _ (hn' _ (hJl (i + 1) m' nx hm))
      · exact N' p (hn' p h)
    cases f with
    | ret v => exact .ret p
    | brk => exact .brk p
    | next => exact .next (fin p)
    | cont => exact .cont (fin p)
  · rintro h' tk m' news' F' N' _ hJ
    exact done m' news' h' tk hJ F' N'
def NuS {σ : Type} (Led : σ → List (Addr × Obj)) (ps : σ → List (Str × Value)) (x : Str) (stored : List Str) (m₀ : Str → Option Value) (P : Nat → σ → Prop) (i : Nat) (m : Str → Option Value) (nx : List (Addr × Obj)) : Prop :=
  ∃ c, nx = Led c ∧ (∀ p ∈ ps c, m p.1 = some p.2) ∧ (∀ z, z ≠ x → (∀ p ∈ ps c, z ≠ p.1) → stored.contains z = false → m z = m₀ z) ∧ P i c
theorem nu_rangeS {σ : Type} {r : Addr} {b₀ : Int} {t₀ u₀ v₀ : Tok} {n : Nat} {m₀ : Str → Option Value} (Led : σ → List (Addr × Obj)) (ps : σ → List (Str × Value)) (stored : List Str) (P : Nat → σ → Prop) (c₀ : σ)
    (hh : A.handled = none) (hr : IsRange s.heap r 0 b₀ 1 t₀ u₀ v₀) (hsmall : Builtin.Range.small 0 b₀ 1 = true) (hn : Builtin.Range.rangeSize 0 b₀ 1 = (n : Int)) (F : Fr h₀ env.locals s.heap m₀) (N : News h₀ env.locals s.heap (Led c₀)) (hk : ∀ p ∈ ps c₀, m₀ p.1 = some p.2) (hp : P 0 c₀)
    (turn : ∀ (c : σ) i t (u : Str → Option Value) h tk I oI, i < n → (∀ p ∈ Led c, p.1 ≠ I) → P i c → Fr h₀ env.locals h (fun y => if y = x then some (.int (i : Int) t) else kstB (fun z => if stored.contains z then u z else m₀ z) (ps c) y) → News h₀ env.locals h ((I, oI) :: Led c) →
      wpAny (model prog w) A (execs body env) (NuPost h₀ env.locals (NuS Led ps x stored m₀ P (i + 1)) I oI { s with heap := h, toks := tk } Q) E { s with heap := h, toks := tk })
    (done : ∀ (c : σ) (u : Str → Option Value) h tk, P n c → Fr h₀ env.locals h (fun y => if y = x then u y else kstB (fun z => if stored.contains z then u z else m₀ z) (ps c) y) → News h₀ env.locals h (Led c) → Q .next { s with heap := h, toks := tk }) :
    wpAny (model prog w) A (pyIter (.ref r)) (fun it s₂ => LoopAtV prog w A h₀ env x body Q E it s₂) E s := by
  refine nu_range (NuS Led ps x stored m₀ P) hh hr hsmall hn F N ⟨c₀, rfl, hk, fun _ _ _ _ => rfl, hp⟩ ?_ ?_
  · rintro i t m₁ news₁ h tk I oI hin hoff ⟨c, rfl, h1, h2, hp'⟩ F₁ N₁
    exact turn c i t m₁ h tk I oI hin hoff hp' (kst_fr h1 h2 F₁) N₁
  · rintro m₁ news₁ h tk ⟨c, rfl, h1, h2, hp'⟩ F₁ N₁
    exact done c m₁ h tk hp' (kst_frOut h1 h2 F₁) N₁
theorem nu_listS {σ : Type} {l : Addr} {vs : List Value} {nn : Nat} {m₀ : Str → Option Value} (Led : σ → List (Addr × Obj)) (ps : σ → List (Str × Value)) (stored : List Str) (P : Nat → σ → Prop) (c₀ : σ)
    (hh : A.handled = none) (hl : ∀ c, (l, ({ cls := .type "list", data := .seq vs.toArray nn } : Obj)) ∈ Led c) (F : Fr h₀ env.locals s.heap m₀) (N : News h₀ env.locals s.heap (Led c₀)) (hk : ∀ p ∈ ps c₀, m₀ p.1 = some p.2) (hp : P 0 c₀)
    (turn : ∀ (c : σ) i v (u : Str → Option Value) h tk I oI, i < vs.length → vs[i]? = some v → (∀ p ∈ Led c, p.1 ≠ I) → P i c → Fr h₀ env.locals h (fun y => if y = x then some v else kstB (fun z => if stored.contains z then u z else m₀ z) (ps c) y) → News h₀ env.locals h ((I, oI) :: Led c) →
      wpAny (model prog w) A (execs body env) (NuPost h₀ env.locals (NuS Led ps x stored m₀ P (i + 1)) I oI { s with heap := h, toks := tk } Q) E { s with heap := h, toks := tk })
    (done : ∀ (c : σ) (u : Str → Option Value) h tk, P vs.length c → Fr h₀ env.locals h (fun y => if y = x then u y else kstB (fun z => if stored.contains z then u z else m₀ z) (ps c) y) → News h₀ env.locals h (Led c) → Q .next { s with heap := h, toks := tk }) :
    wpAny (model prog w) A (pyIter (.ref l)) (fun it s₂ => LoopAtV prog w A h₀ env x body Q E it s₂) E s := by
  refine nu_list (NuS Led ps x stored m₀ P) hh (fun i m nx h => by obtain ⟨c, rfl, _⟩ := h; exact hl c) F N ⟨c₀, rfl, hk, fun _ _ _ _ => rfl, hp⟩ ?_ ?_
  · rintro i v m₁ news₁ h tk I oI hin hv hoff ⟨c, rfl, h1, h2, hp'⟩ F₁ N₁
    have F₂ : Fr h₀ env.locals h (fun y => if y = x then some v else kstB (fun z => if stored.contains z then m₁ z else m₀ z) (ps c) y) := by
      have em : (fun y => if y = x then some v else kstB (fun z => if stored.contains z then m₁ z else m₀ z) (ps c) y) = fun y => if y = x then some v else m₁ y := by
        funext y
        by_cases hy : y = x
        · rw [if_pos hy, if_pos hy]
        · rw [if_neg hy, if_neg hy]
          exact kst_off h1 h2 hy
      rw [em]
      exact F₁
    exact turn c i v m₁ h tk I oI hin hv hoff hp' F₂ N₁
  · rintro m₁ news₁ h tk ⟨c, rfl, h1, h2, hp'⟩ F₁ N₁
    exact done c m₁ h tk hp' (kst_frOut h1 h2 F₁) N₁
end
structure Sd where
  ox : Int
  oy : Int
  wx : Int
  wy : Int
  len : Int
  beg : Int
def SdIn (P : Params) (news : List (Addr × Obj)) (x : Addr) (S : Sd) : Prop :=
  ∃ dx one wy k1 k2 k3 k4 tl tb o1 o2 w1 w2, (x, instObj 232 dx) ∈ news ∧ (dx, sdO P one wy S.len S.beg k1 k2 k3 k4 tl tb) ∈ news ∧ (one, po S.ox S.oy o1 o2) ∈ news ∧ (wy, po S.wx S.wy w1 w2) ∈ news
theorem SdIn.mono {P : Params} {news news' : List (Addr × Obj)} {x : Addr} {S : Sd} (h : SdIn P news x S) (hs : ∀ p ∈ news, p ∈ news') : SdIn P news' x S := by
  obtain ⟨dx, one, wy, k1, k2, k3, k4, tl, tb, o1, o2, w1, w2, h1, h2, h3, h4⟩ := h
  exact ⟨dx, one, wy, k1, k2, k3, k4, tl, tb, o1, o2, w1, w2, hs _ h1, hs _ h2, hs _ h3, hs _ h4⟩
def SdsIn (P : Params) (news : List (Addr × Obj)) (vs : List Value) (Ss : List Sd) : Prop := vs.length = Ss.length ∧ ∀ (i : Nat) (S : Sd), Ss[i]? = some S → ∃ x, vs[i]? = some (Value.ref x) ∧ SdIn P news x S
theorem SdsIn.mono {P : Params} {news news' : List (Addr × Obj)} {vs : List Value} {Ss : List Sd} (h : SdsIn P news vs Ss) (hs : ∀ p ∈ news, p ∈ news') : SdsIn P news' vs Ss :=
  ⟨h.1, fun i S e => by obtain ⟨x, h1, h2⟩ := h.2 i S e; exact ⟨x, h1, h2.mono hs⟩⟩
def Sd.holds (S : Sd) (q : Rat) : Prop := ((S.beg : Int) : Rat) ≤ q ∧ q ≤ ((S.beg + S.len : Int) : Rat)
local macro_rules | `(tactic| walk_at "NuPost") => `(tactic| dsimp only [NuPost])
local macro_rules | `(tactic| walk_at "NuEnd") => `(tactic| refine stop_intro ?_)
local macro_rules | `(tactic| walk_at "call ref") => `(tactic| (o_head (215, t_holds (by k_mem) (by k_mem) (by k_mem) (by walk_at "Bd99") (by walk_at "Bd99") (by walk_at "Bd99")); walk_at "nuL"))
local macro_rules | `(tactic| walk_at "nuFor") => `(tactic| (k_here; (rename Fr _ _ _ _ => lF'); (with_unfolding_all refine' For_invVF lF' ?nuk1 ?nuk2 ?_; (case nuk1 => exact rfl); (case nuk2 => exact rfl); k_whole)))
local macro_rules | `(tactic| walk_at "exec For Name Name cons nil") => `(tactic| walk_at "nuFor")
local macro_rules | `(tactic| walk_at "exec For Name Call cons nil") => `(tactic| walk_at "nuFor")
local macro_rules | `(tactic| walk_at "exec For Name List cons nil") => `(tactic| walk_at "nuFor")
theorem t_sideat {w : World} {mean : ExcName → Option Value} {mg mb : Str → Option Value} {dp un : Nat} {gd : Option (List Code)} {cn : Str} {cs : Scope} {a : Addr} {ccd : Value} {cl : List (Str × Addr)} {outer : List Env} {A₀ : Around} {base h₀ : Heap} {L : Addr} {m : Str → Option Value} {s : Shared} {Q E : Value → Shared → Prop} {news : List (Addr × Obj)} (B : Below A₀ base outer h₀) (F : Fr h₀ L s.heap m) (X : (tp.heap_1 w.params).In h₀) (N : News h₀ L s.heap news) (T : Top tp.view_1 (looseW tp.view_1 [Str.ofString "fraction"]) mean mg mb h₀) (hk : cs.kind = .function)
  (hdp : dp + 40 < recursionLimit) (hun : un + 400 < cLine) {SL D : Addr} {vs : List Value} {Ss : List Sd} {ep : Nat} {q : Rat} {a1 a2 : Tok}
  (hS : (SL, ({ cls := .type "list", data := .seq vs.toArray ep } : Obj)) ∈ news) (hD : (D, fo q a1 a2) ∈ news) (hq : Bd 30 q) (hSs : SdsIn w.params news vs Ss)
  (hb : ∀ S ∈ Ss, Bd 30 ((S.beg : Int) : Rat) ∧ Bd 30 ((S.beg + S.len : Int) : Rat))
  (hret0 : (∀ (j : Nat) (S : Sd), Ss[j]? = some S → ¬ S.holds q) → ∀ (h' : Heap) (tk' : Nat), Fr h₀ L h' m → News h₀ L h' news → Q .none { s with heap := h', toks := tk' })
  (hret1 : ∀ (i : Nat) (S : Sd) (x : Addr), Ss[i]? = some S → vs[i]? = some (Value.ref x) → SdIn w.params news x S → S.holds q → (∀ (j : Nat) (S' : Sd), j < i → Ss[j]? = some S' → ¬ S'.holds q) → ∀ (h' : Heap) (tk' : Nat), Fr h₀ L h' m → News h₀ L h' news → Q (.ref x) { s with heap := h', toks := tk' }) :
  wpAny (model PySem.Challenge.rw_nu0017_01.row.prog w) (ktrTop dp un gd cn cs L a ccd cl outer) (call (.ref 257) [.ref SL, .ref D]) Q E s := by
  refine wpAny_call ?_
  (k_dflt (refine' code_def ?k1 ?k2 ?k3 ?k4 ?k5 ?kA ?kF ?kK ?k6 ?k7 ?k8 ?k9 ?kB ?_ ?c2 ?c3 ?c4 ?c5; (case kA => exact rfl); (case kF => exact rfl); (case kK => first | assumption | exact rfl); (case k1 => k_asm); (case k2 => k_asm); (case k3 => k_asm); (case k4 => k_asm); (case k5 => k_asm); (case k6 => k_is); (case k7 => k_is); (case k8 => ktr_room); (case k9 => first | exact BindsTo.of_eq rfl | exact binds_K (by k_in) rfl (by k_is) rfl rfl rfl); (case c5 => decide); (case kB => exact locs rfl); (case c2 => exact rfl); (case c3 => exact rfl); (case c4 => exact rfl); k_whole; intro g' L' h' FG' F' N' B' X' T'; (try dsimp only); (try k_lift B'); (try k_fold)))
  k_steps
  refine stop_out ?_
  rename Fr _ _ _ _ => F1
  rename News _ _ _ _ => N1
  refine nu_listS (σ := Unit) (vs := vs) (nn := ep) (fun _ => news) (fun _ => []) [] (fun i _ => ∀ (j : Nat) (S : Sd), j < i → Ss[j]? = some S → ¬ S.holds q) () rfl (fun _ => hS) F1 N1 (by kst_all) (fun _ _ h => absurd h (Nat.not_lt_zero _)) ?turn ?done
  case turn =>
    clear F1 N1
    rintro _ i v u h tk I oI hlt hv hoff hno F' N'
    dsimp only [kstB] at F'
    have hlt2 : i < Ss.length := by rw [← hSs.1]; exact hlt
    have hgs : Ss[i]? = some Ss[i] := by simp [hlt2]
    obtain ⟨b1, b2⟩ := hb Ss[i] (List.getElem_mem hlt2)
    obtain ⟨x, hx, hin⟩ := hSs.2 i Ss[i] hgs
    generalize Ss[i] = S at *
    have hv2 := hv
    rw [hx] at hv
    cases hv
    have hin2 := hin
    obtain ⟨dx, one, wy, k1, k2, k3, k4, tl, tb, o1, o2, w1, w2, h1, h2, h3, h4⟩ := hin
    k_steps
    · rename (_ ↔ _ ∧ _) => e9
      rename _ = true => e8
      rename News _ _ _ _ => N1
      exact hret1 i S x hgs hx hin2 (e9.mp e8) hno _ _ (by assumption) (cb_drop N1 (fun p hp => .tail _ hp))
    · refine stop_out ?_
      rename (_ ↔ _ ∧ _) => e9
      rename _ = false => e8
      rename News _ _ _ _ => N1
      rename Fr _ _ _ _ => F1
      refine NuEnd.intro news F1 N1 (.head _) (fun p hp => .tail _ hp) hoff ⟨(), rfl, by kst_all, by kst_same, ?_⟩
      intro j S' hj hS'
      rcases Nat.lt_or_ge j i with h9 | h9
      · exact hno j S' h9 hS'
      · have : j = i := by omega
        subst this
        rw [hgs] at hS'
        cases hS'
        exact fun hh => by rw [e9.mpr hh] at e8; cases e8
  case done =>
    rintro _ u h tk hno F' N'
    dsimp only [kstB] at F'
    k_steps
    refine hret0 (fun j S hS' => hno j S ?_ hS') _ _ (by assumption) (by assumption)
    rw [hSs.1]
    exact (List.getElem?_eq_some_iff.mp hS').1
section
variable {prog : Program} {w : World} {A : Around} {E : Value → Shared → Prop} {s : Shared}
theorem adjust_1 (n : Nat) (hn : 1 ≤ n) : Builtin.Slice.sliceAdjust none (some (1 : Int)) 1 (n : Int) = (0, 1) := by
  unfold Builtin.Slice.sliceAdjust
  have h1 : ¬ ((1 : Int) < 0) := by omega
  simp only [h1, if_false]
  congr 1
  omega
theorem places_1 : Builtin.Slice.slicePlaces (0 : Int) (1 : Int) 1 = 1 := by decide
theorem sliceApplied_1 {sl : Addr} {n : Nat} {u : Tok} {Q : Int × Int × Nat → Shared → Prop} (hs : s.heap.IsSliceOf sl .none (.int 1 u) .none) (hn : 1 ≤ n) (h : Q (0, 1, 1) s) :
    wpAny (model prog w) A (Builtin.Slice.sliceApplied (.ref sl) (pure (n : Int))) Q E s := by
  obtain ⟨os, hos, hcs, hds⟩ := id hs
  unfold Builtin.Slice.sliceApplied Builtin.Slice.sliceFields
  refine wpAny_bind (wpAny_bind (wpAny_field hos hds (x := .none) rfl (wpAny_bind (wpAny_field hos hds (x := .int 1 u) rfl (wpAny_bind (wpAny_field hos hds (x := .none) rfl (wpAny_pure ?_)))))))
  refine wpAny_bind (slicePart_none ?_)
  show wpAny _ _ (if ((1 : Int) == 0) = true then _ else _) _ _ s
  rw [if_neg (by decide)]
  refine wpAny_bind (slicePart_none (wpAny_bind (slicePart_int (wpAny_bind (wpAny_pure ?_)))))
  show wpAny _ _ (match Builtin.Slice.sliceAdjust none (some (1 : Int)) 1 (n : Int) with | (lo, hi) => pure (lo, (1 : Int), Builtin.Slice.slicePlaces lo hi 1)) _ _ s
  rw [adjust_1 n hn]
  show wpAny _ _ (pure ((0 : Int), (1 : Int), Builtin.Slice.slicePlaces (0 : Int) (1 : Int) 1)) _ _ s
  rw [places_1]
  exact wpAny_pure h
theorem pick_1 (xs : Array Value) : ((List.range 1).filterMap fun (k : Nat) => xs[((0 : Int) + (k : Int) * 1).toNat]?).toArray = (xs.toList.take 1).toArray := by
  obtain ⟨l⟩ := xs
  cases l with
  | nil => rfl
  | cons x r => rfl
theorem getItem_tuple_1 {t sl : Addr} {items : Array Value} {u : Tok} {Q : Value → Shared → Prop} (ht : IsTup s.heap t items) (hs : s.heap.IsSliceOf sl .none (.int 1 u) .none) (h2 : 2 ≤ items.size)
    (h : Q (.ref s.heap.objs.size) { s with heap := s.heap.push { cls := .type "tuple", data := .seq (items.toList.take 1).toArray } })
    (hsz : items.size ≤ sizeLine) : wpAny (model prog w) A (getItem (.ref t) (.ref sl)) Q E s := by
  have hdrop : sizeOk (.seq (items.toList.take 1).toArray) := by
    show (items.toList.take 1).toArray.size ≤ sizeLine
    rw [List.size_toArray, List.length_take, Array.length_toList]
    omega
  obtain ⟨os, hos, hcs, hds⟩ := id hs
  have hTs : s.TypeIs (.ref sl) "slice" := ⟨os, hos, hcs⟩
  unfold getItem
  try with_reducible refine wpAny_holding ?_
  first | refine wpAny_bind (wpAny_pure ?_) | skip
  refine wpAny_bind (wpAny_sequenceKey ht.typeIs (by decide) ?_)
  refine wpAny_bind (wpAny_callSpecial?_slot (name := Str.ofString "__getitem__") ht.typeIs slot_tuple_getitem
    (wpAny_call_entry slot_tuple_getitem ht.typeIs entry_tuple_getitem ?_ (args_tuple_getitem _ _)))
  show wpAny _ _ (Builtin.Tuple.tupleItemsOf (.ref t) >>= _) _ _ s
  refine wpAny_bind (tupleItemsOf_ ht ?_)
  refine wpAny_bind (wpAny_typeOf hTs ?_)
  rw [if_pos (by decide)]
  refine wpAny_bind (sliceApplied_1 hs (by omega) ?_)
  have hno : ¬ (((0 : Int) == 0 && (1 : Int) == 1 && ((1 : Nat) == items.size)) = true) := by
    have : ((1 : Nat) == items.size) = false := by rw [beq_eq_false_iff_ne]; omega
    rw [this]; simp
  show wpAny _ _ (if ((0 : Int) == 0 && (1 : Int) == 1 && ((1 : Nat) == items.size)) = true then _ else _) _ _ s
  rw [if_neg hno, pick_1 items]
  first
    | exact wpAny_bind (m := Builtin.Tuple.tupleExact _) (wpAny_newObj_type (wpAny_pure ⟨_, rfl, wpAny_pure h⟩) hdrop)
    | exact wpAny_bind (m := Builtin.Tuple.tupleExact _) (wpAny_newObj_type (wpAny_bind (wpAny_pure (wpAny_pure ⟨_, rfl, wpAny_pure h⟩))) hdrop)
    | exact wpAny_bind (wpAny_bind (m := Builtin.Tuple.tupleExact _) (wpAny_newObj_type (wpAny_pure (wpAny_pure ⟨_, rfl, wpAny_pure h⟩)) hdrop))
    | exact wpAny_bind (wpAny_bind (m := Builtin.Tuple.tupleExact _) (wpAny_newObj_type (wpAny_pure ⟨_, rfl, wpAny_pure h⟩) hdrop))
end
theorem nu_slice1 {prog : Program} {w : World} {A : Around} {E : Value → Shared → Prop} {s : Shared} {h₀ : Heap} {L : Addr} {m : Str → Option Value} {news : List (Addr × Obj)} {value slice : PySem.Expr} {t : Addr} {vs : List Value} {n : Nat} {u : Tok} {Q : Value → Shared → Prop}
    (F : Fr h₀ L s.heap m) (N : News h₀ L s.heap news) (hm : (t, ({ cls := .type "tuple", data := .seq vs.toArray n } : Obj)) ∈ news) (h2 : 2 ≤ vs.length) (hz : vs.length < 1000)
    (h : ∀ D h', Fr h₀ L h' m → News h₀ L h' ((D, { cls := .type "tuple", data := .seq (vs.take 1).toArray }) :: news) → AllLt D news → Q (.ref D) { s with heap := h' })
    (hs : subscripted slice false (.ref t) (.ref s.heap.objs.size) = operate [.ref s.heap.objs.size, .ref t] (getItem (.ref t) (.ref s.heap.objs.size)) := by with_unfolding_all rfl)
    (hg : ∀ r, letTemporaryGo value (.ref t) r = pure () := by intro _; with_unfolding_all rfl) :
    wpAny (model prog w) A (subscriptTail value slice (.ref t) (.ref s.heap.objs.size)) Q E { s with heap := s.heap.push { cls := .type "slice", data := .fields #[.none, .int 1 u, .none] } } := by
  have ht : IsTup s.heap t vs.toArray := ⟨_, (N _ hm).1, rfl, _, rfl⟩
  have ht' : IsTup (s.heap.push { cls := .type "slice", data := .fields #[.none, .int 1 u, .none] }) t vs.toArray := ht.keeps fun _ _ e => Heap.get?_push_of_some _ e
  refine subscriptTail_ops (s := { s with heap := s.heap.push { cls := .type "slice", data := .fields #[.none, .int 1 u, .none] } }) ht'.typeIs slot_tuple_getitem.lookup
    (getItem_tuple_1 ht' (Heap.IsSliceOf.new ..) (by simpa using h2) ?_ (by rw [sizeLine_eq, List.size_toArray]; omega)) hs hg
  have N1 := News.push (F.push { cls := .type "slice", data := .fields #[.none, .int 1 u, .none] }) (N.grown fun _ _ e => Heap.get?_push_of_some _ e) { cls := .type "tuple", data := .seq (vs.toArray.toList.take 1).toArray }
  rw [Heap.size_push] at N1
  show Q (.ref (s.heap.push _).objs.size) _
  rw [Heap.size_push]
  exact h _ _ ((F.push _).push _) N1 (allLt_of fun p hp => Nat.lt_succ_of_lt (Heap.lt_size (N p hp).1))
theorem nu_add {prog : Program} {w : World} {A : Around} {E : Value → Shared → Prop} {s : Shared} {h₀ : Heap} {L : Addr} {m : Str → Option Value} {news : List (Addr × Obj)} {a b : Addr} {vs us : List Value} {n1 n2 : Nat} {Q : Value → Shared → Prop}
    (F : Fr h₀ L s.heap m) (N : News h₀ L s.heap news) (ha : (a, ({ cls := .type "list", data := .seq vs.toArray n1 } : Obj)) ∈ news) (hb : (b, ({ cls := .type "list", data := .seq us.toArray n2 } : Obj)) ∈ news) (hz : vs.length + us.length < 1000)
    (h : ∀ D h', Fr h₀ L h' m → News h₀ L h' ((D, ({ cls := .type "list", data := .seq (vs ++ us).toArray } : Obj)) :: news) → AllLt D news → Q (.ref D) { s with heap := h' }) : wpAny (model prog w) A (binaryOp .Add (.ref a) (.ref b)) Q E s :=
  add_lists F N ⟨_, (N _ ha).1, rfl, _, rfl⟩ ⟨_, (N _ hb).1, rfl, _, rfl⟩ (fun h' F' N' => h _ h' F' N' (allLt_of fun p hp => Heap.lt_size (N p hp).1)) (by rw [sizeLine_eq]; omega)
theorem nu_list_of_tup {prog : Program} {w : World} {A : Around} {E : Value → Shared → Prop} {s : Shared} {h₀ : Heap} {L : Addr} {m : Str → Option Value} {news : List (Addr × Obj)} {b : Addr} {vs : List Value} {n1 : Nat} {Q : Value → Shared → Prop}
    (F : Fr h₀ L s.heap m) (N : News h₀ L s.heap news) (hb : (b, ({ cls := .type "tuple", data := .seq vs.toArray n1 } : Obj)) ∈ news) (hz : vs.length < 1000)
    (h : ∀ D c h', Fr h₀ L h' m → News h₀ L h' ((D, ({ cls := .type "list", data := .seq vs.toArray c } : Obj)) :: news) → AllLt D news → Q (.ref D) { s with heap := h' }) : wpAny (model prog w) A (call (.type "list") [.ref b]) Q E s :=
  kup_listOfT F N hb (zs := vs) rfl (fun D c h' F' N' l1 => h D c h' F' N' (allLt_of l1)) (by rw [sizeLine_eq]; show vs.length ≤ _; omega)
def SpIn (news : List (Addr × Obj)) (vs : List Value) (ps : List (Int × Int)) : Prop := vs.length = ps.length ∧ ∀ (i : Nat) (p : Int × Int), ps[i]? = some p → ∃ a t1 t2, vs[i]? = some (Value.ref a) ∧ (a, po p.1 p.2 t1 t2) ∈ news
def sideOf (qs : List (Int × Int)) (lens : List Int) (i : Nat) : Sd :=
  ⟨(qs.getD i (0, 0)).1, (qs.getD i (0, 0)).2, (qs.getD (i + 1) (0, 0)).1 - (qs.getD i (0, 0)).1, (qs.getD (i + 1) (0, 0)).2 - (qs.getD i (0, 0)).2, lens.getD i 0, (lens.take i).sum⟩
def sidesUp (qs : List (Int × Int)) (lens : List Int) (i : Nat) : List Sd := ((List.range i).filter fun j => decide (0 < lens.getD j 0)).map (sideOf qs lens)
def ring (ps : List (Int × Int)) (c : Bool) : List (Int × Int) := if c then ps ++ ps.take 1 else ps
theorem SpIn.mono {news news' : List (Addr × Obj)} {vs : List Value} {ps : List (Int × Int)} (h : SpIn news vs ps) (hs : ∀ p ∈ news, p ∈ news') : SpIn news' vs ps :=
  ⟨h.1, fun i p e => by obtain ⟨a, t1, t2, h1, h2⟩ := h.2 i p e; exact ⟨a, t1, t2, h1, hs _ h2⟩⟩
theorem SpIn.append {news : List (Addr × Obj)} {vs us : List Value} {ps qs : List (Int × Int)} (h : SpIn news vs ps) (g : SpIn news us qs) : SpIn news (vs ++ us) (ps ++ qs) := by
  refine ⟨by rw [List.length_append, List.length_append, h.1, g.1], fun i p e => ?_⟩
  rcases Nat.lt_or_ge i ps.length with hi | hi
  · rw [List.getElem?_append_left hi] at e
    rw [List.getElem?_append_left (by rw [h.1]; exact hi)]
    exact h.2 i p e
  · rw [List.getElem?_append_right hi] at e
    rw [List.getElem?_append_right (by rw [h.1]; exact hi), h.1]
    exact g.2 _ p e
theorem SpIn.take {news : List (Addr × Obj)} {vs : List Value} {ps : List (Int × Int)} (h : SpIn news vs ps) (k : Nat) : SpIn news (vs.take k) (ps.take k) := by
  refine ⟨by rw [List.length_take, List.length_take, h.1], fun i p e => ?_⟩
  rw [List.getElem?_take] at e ⊢
  split at e
  · rename_i hi
    rw [if_pos hi]
    exact h.2 i p e
  · cases e
theorem SpIn.nil {news : List (Addr × Obj)} : SpIn news [] [] := ⟨rfl, fun _ _ e => by simp at e⟩
theorem sidesUp_succ (qs : List (Int × Int)) (lens : List Int) (i : Nat) : sidesUp qs lens (i + 1) = sidesUp qs lens i ++ (if 0 < lens.getD i 0 then [sideOf qs lens i] else []) := by
  unfold sidesUp
  rw [List.range_succ, List.filter_append, List.map_append]
  congr 1
  by_cases h : 0 < lens.getD i 0
  · rw [if_pos h, List.filter_cons_of_pos (by simpa using h)]; rfl
  · rw [if_neg h, List.filter_cons_of_neg (by simpa using h)]; rfl
theorem SdsIn.append {P : Params} {news : List (Addr × Obj)} {vs us : List Value} {Ss Ts : List Sd} (h : SdsIn P news vs Ss) (g : SdsIn P news us Ts) : SdsIn P news (vs ++ us) (Ss ++ Ts) := by
  refine ⟨by rw [List.length_append, List.length_append, h.1, g.1], fun i p e => ?_⟩
  rcases Nat.lt_or_ge i Ss.length with hi | hi
  · rw [List.getElem?_append_left hi] at e
    rw [List.getElem?_append_left (by rw [h.1]; exact hi)]
    exact h.2 i p e
  · rw [List.getElem?_append_right hi] at e
    rw [List.getElem?_append_right (by rw [h.1]; exact hi), h.1]
    exact g.2 _ p e
theorem SdsIn.one {P : Params} {news : List (Addr × Obj)} {x : Addr} {S : Sd} (h : SdIn P news x S) : SdsIn P news [.ref x] [S] := by
  refine ⟨rfl, fun i S' e => ?_⟩
  cases i with
  | zero => simp at e; subst e; exact ⟨x, rfl, h⟩
  | succ i => simp at e
theorem SdsIn.nil {P : Params} {news : List (Addr × Obj)} : SdsIn P news [] [] := ⟨rfl, fun _ _ e => by simp at e⟩
theorem split3 {h₀ h : Heap} {L a b c : Addr} {oa ob oc : Obj} {rest : List (Addr × Obj)} (N : News h₀ L h ((a, oa) :: (b, ob) :: (c, oc) :: rest)) : ∃ led0, led0 = (c, oc) :: rest ∧ News h₀ L h ((b, ob) :: led0) ∧ (c, oc) ∈ led0 :=
  ⟨_, rfl, fun p hp => N p (.tail _ hp), .head _⟩
theorem allLt_mem {d : Nat} {l : List (Addr × Obj)} (h : AllLt d l) : ∀ p ∈ l, p.1 < d := by
  induction l with
  | nil => intro p hp; cases hp
  | cons x r ih =>
    unfold AllLt at h
    intro p hp
    rcases List.mem_cons.mp hp with e | hp
    · rw [e]; exact h.1
    · exact ih h.2 p hp
structure PsSt where
  ch : List (Addr × Obj)
  fs : List Value
  ep : Nat
  beg : Int
  tb : Tok
theorem ps_turn1 {P : Params} {h₀ h' : Heap} {L FL wy x dx a1 I : Addr} {oI : Obj} {m' m₀ : Str → Option Value} {s₁ : Shared} {tk : Nat} {ch led0 : List (Addr × Obj)} {fs : List Value} {ep i : Nat} {ox oy px py len beg : Int} {w1 w2 k1 k2 k3 k4 tl tb t1 t2 tb2 : Tok} {qs : List (Int × Int)} {lens : List Int} {stored : List Str}
    (F : Fr h₀ L h' m') (N : News h₀ L h' ((wy, po (px - ox) (py - oy) w1 w2) :: (x, instObj 232 dx) :: (dx, sdO P a1 wy len beg k1 k2 k3 k4 tl tb) :: (I, oI) :: (FL, listOf (fs.toArray.push (.ref x)) (ep + 1)) :: (ch ++ led0)))
    (hm1 : (a1, po ox oy t1 t2) ∈ ch ++ led0) (hsu : sidesUp qs lens (i + 1) = sidesUp qs lens i ++ [⟨ox, oy, px - ox, py - oy, len, beg⟩]) (p2 : fs.length ≤ i) (p3 : SdsIn P (ch ++ led0) fs (sidesUp qs lens i)) (p4 : ∀ p ∈ ch, FL < p.1)
    (hI : I ≠ FL) (hoffT : ∀ p ∈ ch ++ led0, p.1 ≠ I) (lw : FL < wy) (lx : FL < x) (ld : FL < dx) (nw : wy ≠ I) (nx : x ≠ I) (nd : dx ≠ I) (hts : (lens.take (i + 1)).sum = beg + len)
    (hk : ∀ p ∈ [(Str.ofString "begin", Value.int (beg + len) tb2)], m' p.1 = some p.2) (hr : ∀ z, z ≠ Str.ofString "at" → (∀ p ∈ [(Str.ofString "begin", Value.int (beg + len) tb2)], z ≠ p.1) → stored.contains z = false → m' z = m₀ z) :
    NuEnd h₀ L (NuS (fun c : PsSt => (FL, ({ cls := .type "list", data := .seq c.fs.toArray c.ep } : Obj)) :: (c.ch ++ led0)) (fun c => [(Str.ofString "begin", .int c.beg c.tb)]) (Str.ofString "at") stored m₀ (fun i c => c.beg = (lens.take i).sum ∧ c.fs.length ≤ i ∧ SdsIn P (c.ch ++ led0) c.fs (sidesUp qs lens i) ∧ ∀ p ∈ c.ch, FL < p.1) (i + 1)) I oI s₁ { s₁ with heap := h', toks := tk } := by
  refine NuEnd.intro _ F N (.tail _ (.tail _ (.tail _ (.head _)))) ?_ ?_ ⟨⟨(wy, po (px - ox) (py - oy) w1 w2) :: (x, instObj 232 dx) :: (dx, sdO P a1 wy len beg k1 k2 k3 k4 tl tb) :: ch, fs ++ [.ref x], ep + 1, beg + len, tb2⟩, rfl, hk, hr, hts.symm, ?_, ?_, ?_⟩
  · intro p hp
    rcases List.mem_cons.mp hp with rfl | hp
    · rw [← List.push_toArray]; exact .tail _ (.tail _ (.tail _ (.tail _ (.head _))))
    simp only [List.cons_append, List.mem_cons] at hp ⊢
    rcases hp with h | h | h | h
    · exact .inl h
    · exact .inr (.inl h)
    · exact .inr (.inr (.inl h))
    · exact .inr (.inr (.inr (.inr (.inr h))))
  · intro p hp
    rcases List.mem_cons.mp hp with rfl | hp
    · exact Ne.symm hI
    simp only [List.cons_append, List.mem_cons] at hp
    rcases hp with rfl | rfl | rfl | h
    · exact nw
    · exact nx
    · exact nd
    · exact hoffT p h
  · simp only [List.length_append, List.length_cons, List.length_nil]; omega
  · rw [hsu]
    have up : ∀ p ∈ ch ++ led0, p ∈ ((wy, po (px - ox) (py - oy) w1 w2) :: (x, instObj 232 dx) :: (dx, sdO P a1 wy len beg k1 k2 k3 k4 tl tb) :: ch) ++ led0 := fun p hp => .tail _ (.tail _ (.tail _ hp))
    refine (p3.mono up).append (SdsIn.one ⟨dx, a1, wy, k1, k2, k3, k4, tl, tb, t1, t2, w1, w2, .tail _ (.head _), .tail _ (.tail _ (.head _)), up _ hm1, .head _⟩)
  · intro p hp
    simp only [List.mem_cons] at hp
    rcases hp with rfl | rfl | rfl | h
    · exact lw
    · exact lx
    · exact ld
    · exact p4 p h
local macro_rules | `(tactic| walk_at "nuA") => `(tactic| (intros; walk_at "nuM"; (try k_sweep)))
local macro_rules | `(tactic| walk_at "call type:list") => `(tactic| (walk_at "nuT"; k_dflt (refine' nu_list_of_tup (by k_asm) (by k_asm) (by k_mem) (by walk_at "nuz") ?_); walk_at "nuA"))
local macro_rules | `(tactic| walk_at "binaryOp Add ref ref") => `(tactic| (k_here; k_dflt (refine' nu_add (by k_asm) (by k_asm) (by k_mem) (by k_mem) (by walk_at "nuz") ?_); walk_at "nuA"))
local macro_rules | `(tactic| walk_at "subscriptTail Name Slice ref ref") => `(tactic| (k_here; (with_reducible show wpAny _ _ (subscriptTail _ (PySem.Expr.Slice none (some _) none _) (Value.ref _) (Value.ref _)) _ _ _); k_dflt (refine' nu_slice1 (by k_asm) (by k_asm) (by k_mem) (by walk_at "nuz") (by walk_at "nuz") ?_); walk_at "nuA"))
local macro_rules | `(tactic| walk_at "subscriptTail Name Constant ref int") => `(tactic| walk_at "nuI")
section
local macro_rules | `(tactic| walk_at "call ref") => `(tactic| (o_head (232, t_init (by k_mem) (by k_mem) (by walk_at "as") (by walk_at "ar") (by walk_at "ar") (by walk_at "ar") (by walk_at "ar")); intro x9 d9 y9 a9 b9 c9 e9 f9 g9 i9 h9 tk9 F9 N9 l9 m9 n9 o9 q9; (try dsimp only); (replace o9 := ltN o9); (replace q9 := ltN q9); walk_at "nuM"; walk_at "nuM"; walk_at "nuM"; (try k_sweep); (try k_fold)))
inductive TkP (h₀ : Heap) (L : Addr) (m : Str → Option Value) (all : List (Addr × Obj)) (its : List Value) (s : Shared) : Value → Shared → Prop
  | mk {X : Addr} {h' : Heap} {tk' : Nat} (F : Fr h₀ L h' m) (N : News h₀ L h' ((X, ({ cls := .type "tuple", data := .seq its.toArray } : Obj)) :: all)) (l : AllLt X all) : TkP h₀ L m all its s (.ref X) { s with heap := h', toks := tk' }
theorem merge_tk {w : World} {A : Around} {x : Sem Value} {Q E : Value → Shared → Prop} {s : Shared} {h₀ : Heap} {L : Addr} {m : Str → Option Value} {all : List (Addr × Obj)} {its : List Value}
    (F : Fr h₀ L s.heap m) (N : News h₀ L s.heap all) (h1 : wpAny (model PySem.Challenge.rw_nu0017_01.row.prog w) A x (TkP h₀ L m all its s) E s)
    (h2 : ∀ (X : Addr) (h' : Heap) (tk' : Nat), Fr h₀ L h' m → News h₀ L h' ((X, ({ cls := .type "tuple", data := .seq its.toArray } : Obj)) :: all) → AllLt X all → Q (.ref X) { s with heap := h', toks := tk' }) :
    wpAny (model PySem.Challenge.rw_nu0017_01.row.prog w) A x Q E s := by
  refine wpAny_mono h1 (fun v s' h => ?_) fun _ _ e => e
  cases h with
  | mk F' N' l => exact h2 _ _ _ F' N' l
local macro_rules | `(tactic| walk_at "eval IfExp") => `(tactic| (k_here; refine stop_intro ?_))
theorem t_psides {w : World} {mean : ExcName → Option Value} {mg mb : Str → Option Value} {dp un : Nat} {gd : Option (List Code)} {cn : Str} {cs : Scope} {a : Addr} {ccd : Value} {cl : List (Str × Addr)} {outer : List Env} {A₀ : Around} {base h₀ : Heap} {L : Addr} {m : Str → Option Value} {s : Shared} {Q E : Value → Shared → Prop} {news : List (Addr × Obj)} (B : Below A₀ base outer h₀) (F : Fr h₀ L s.heap m) (X : (tp.heap_1 w.params).In h₀) (N : News h₀ L s.heap news) (T : Top tp.view_1 (looseW tp.view_1 [Str.ofString "fraction"]) mean mg mb h₀) (hk : cs.kind = .function)
  (hdp : dp + 40 < recursionLimit) (hun : un + 400 < cLine) {CT TT : Addr} {vs : List Value} {ps : List (Int × Int)} {lens : List Int} {c : Bool}
  (hC : (CT, ({ cls := .type "tuple", data := .seq #[.ref TT, .bool c] } : Obj)) ∈ news) (hT : (TT, ({ cls := .type "tuple", data := .seq vs.toArray } : Obj)) ∈ news) (hSp : SpIn news vs ps) (hps : ps.length < 50) (hps0 : 2 ≤ ps.length)
  (hn : lens.length + 1 = (ring ps c).length) (hl : ∀ i, i < lens.length → let S := sideOf (ring ps c) lens i; S.wx * S.wx + S.wy * S.wy = S.len * S.len ∧ 0 ≤ S.len ∧ S.len < 2 ^ 11)
  (hb : ∀ p ∈ ps, p.1.natAbs < 2 ^ 10 ∧ p.2.natAbs < 2 ^ 10)
  (hret : ∀ (F : Addr) (fs : List Value) (ep : Nat) (all : List (Addr × Obj)) (h' : Heap) (tk' : Nat), Fr h₀ L h' m → News h₀ L h' all → (∀ p ∈ news, p ∈ all) → (F, ({ cls := .type "list", data := .seq fs.toArray ep } : Obj)) ∈ all → SdsIn w.params all fs (sidesUp (ring ps c) lens lens.length) → (∀ p ∈ all, p ∈ news ∨ ∀ q ∈ news, q.1 < p.1) → Q (.ref F) { s with heap := h', toks := tk' }) :
  wpAny (model PySem.Challenge.rw_nu0017_01.row.prog w) (ktrTop dp un gd cn cs L a ccd cl outer) (call (.ref 243) [.ref CT]) Q E s := by
  have hvl := hSp.1
  refine wpAny_call ?_
  (k_dflt (refine' code_def ?k1 ?k2 ?k3 ?k4 ?k5 ?kA ?kF ?kK ?k6 ?k7 ?k8 ?k9 ?kB ?_ ?c2 ?c3 ?c4 ?c5; (case kA => exact rfl); (case kF => exact rfl); (case kK => first | assumption | exact rfl); (case k1 => k_asm); (case k2 => k_asm); (case k3 => k_asm); (case k4 => k_asm); (case k5 => k_asm); (case k6 => k_is); (case k7 => k_is); (case k8 => ktr_room); (case k9 => first | exact BindsTo.of_eq rfl | exact binds_K (by k_in) rfl (by k_is) rfl rfl rfl); (case c5 => decide); (case kB => exact locs rfl); (case c2 => exact rfl); (case c3 => exact rfl); (case c4 => exact rfl); k_whole; intro g' L' h' FG' F' N' B' X' T'; (try dsimp only); (try k_lift B'); (try k_fold)))
  have hql : ∀ c, (ring ps c).length < 120 := by (intro c; cases c <;> simp [ring] <;> omega)
  k_steps
  refine stop_out ?_
  obtain ⟨its, hits⟩ : ∃ its, its = (if c then vs.take 1 else []) := ⟨_, rfl⟩
  have hitl : its.length ≤ 1 := by (subst hits; split <;> simp <;> omega)
  refine merge_tk (its := its) (by k_asm) (by k_asm) ?_ ?_
  · subst hits
    with_reducible refine IfExp_ ?_
    cases c
    all_goals k_steps
    all_goals rename News _ _ _ _ => NQ
    all_goals rename _ < _ ∧ AllLt _ _ => lQ
    all_goals exact TkP.mk (by k_asm) NQ lQ
  intro X hX tkX FX NX lX
  dsimp only
  k_steps
  · refine stop_out ?_
    rename_i FL xA lF dT xB lD xC xD xE F1 N1 xF xG xH xI xJ R1 F2 R3 R4
    obtain ⟨led0, e0, N2, hSPL⟩ := split3 R3
    have hsub : ∀ p ∈ news, p ∈ led0 := by (intro p hp; rw [e0]; exact .tail _ (.tail _ (.tail _ (.tail _ hp))))
    have hab : AllLt FL led0 := by (rw [e0]; exact lF)
    have hold : ∀ p ∈ led0, p ∈ news ∨ ∀ q ∈ news, q.1 < p.1 := by (
      rw [e0]
      intro p hp
      rcases List.mem_cons.mp hp with rfl | hp
      · exact .inr (allLt_mem (by (walk_at "last")))
      rcases List.mem_cons.mp hp with rfl | hp
      · exact .inr (allLt_mem (by (walk_at "last")))
      rcases List.mem_cons.mp hp with rfl | hp
      · exact .inr (allLt_mem (by (walk_at "last")))
      rcases List.mem_cons.mp hp with rfl | hp
      · exact .inr (allLt_mem (by (walk_at "last")))
      · exact .inl hp)
    have hQ : SpIn led0 (vs ++ its) (ring ps c) := by
      subst hits
      cases c
      · have := hSp.mono hsub
        simpa [ring] using this
      · exact (hSp.append (hSp.take 1)).mono hsub
    have hbq : ∀ q ∈ ring ps c, q.1.natAbs < 2 ^ 10 ∧ q.2.natAbs < 2 ^ 10 := by
      cases c
      · exact hb
      · intro q hq
        rcases List.mem_append.mp (show q ∈ ps ++ ps.take 1 from hq) with h | h
        · exact hb q h
        · exact hb q (List.mem_of_mem_take h)
    replace hql := hql c
    clear hT hSp hvl hb hits hC
    generalize vs ++ its = qvs at *
    generalize ring ps c = qs at *
    clear e0 N1 F1 lD
    have hqn := hQ.1
    refine nu_rangeS (σ := PsSt) (n := lens.length) (fun c => (FL, ({ cls := .type "list", data := .seq c.fs.toArray c.ep } : Obj)) :: (c.ch ++ led0)) (fun c => [(Str.ofString "begin", .int c.beg c.tb)]) [Str.ofString "side"] (fun i c => c.beg = (lens.take i).sum ∧ c.fs.length ≤ i ∧ SdsIn w.params (c.ch ++ led0) c.fs (sidesUp qs lens i) ∧ ∀ p ∈ c.ch, FL < p.1) ⟨[], [], 0, 0, _⟩ rfl R1 (small_one (by omega) (by omega) (by omega) (by omega)) (by rw [rangeSize_nat]; omega) F2 N2 (by kst_all) ⟨rfl, Nat.le_refl _, SdsIn.nil, fun _ h => nomatch h⟩ ?turn ?done
    case turn =>
      clear F2 N2 R3 R4 R1
      intro c i t u h tk I oI hin hoff hp F' N'
      obtain ⟨ch, fs, ep, beg, tb⟩ := c
      obtain ⟨p1, p2, p3, p4⟩ := hp
      dsimp only at p1 p2 p3 p4 N' hoff
      dsimp only [kstB] at F'
      obtain ⟨m1, m2, m3⟩ := hl i hin
      have hi1 : i < qs.length := by omega
      have hi2 : i + 1 < qs.length := by omega
      obtain ⟨b1, b2⟩ := hbq qs[i] (List.getElem_mem hi1)
      obtain ⟨b3, b4⟩ := hbq qs[i + 1] (List.getElem_mem hi2)
      obtain ⟨a1, t1, t2, hx1, hm1⟩ := hQ.2 i qs[i] (by simp [hi1])
      obtain ⟨a2, t3, t4, hx2, hm2⟩ := hQ.2 (i + 1) qs[i + 1] (by simp [hi2])
      have g1 : qs.getD i (0, 0) = qs[i] := by simp [hi1]
      have g2 : qs.getD (i + 1) (0, 0) = qs[i + 1] := by simp [hi2]
      have g3 : lens.getD i 0 = lens[i] := by simp [hin]
      have hsu := sidesUp_succ qs lens i
      have hts : (lens.take (i + 1)).sum = (lens.take i).sum + lens.getD i 0 := by
        rw [List.take_add_one, List.getElem?_eq_getElem hin, g3, List.sum_append]; simp only [Option.toList_some, List.sum_cons, List.sum_nil]; omega
      rw [← p1] at hts
      have hso : sideOf qs lens i = ⟨qs[i].1, qs[i].2, qs[i + 1].1 - qs[i].1, qs[i + 1].2 - qs[i].2, lens.getD i 0, beg⟩ := by
        unfold sideOf; rw [g1, g2, p1]
      rw [hso] at m1 m2 m3 hsu
      dsimp only at m1 m2 m3
      generalize lens.getD i 0 = len at *
      generalize qs[i] = q1 at *
      generalize qs[i + 1] = q2 at *
      obtain ⟨ox, oy⟩ := q1
      obtain ⟨px, py⟩ := q2
      dsimp only at m1 m2 m3 hsu b1 b2 b3 b4 hm1 hm2
      have c1 : (px - ox).natAbs < 2 ^ 40 := by omega
      have c2 : (py - oy).natAbs < 2 ^ 40 := by omega
      clear b1 b2 b3 b4 g1 g2 g3 hso
      have m4 : len < 2 ^ 40 := by omega
      have hx1' : qvs[((i : Nat) : Int).toNat]? = some (Value.ref a1) := by simpa using hx1
      have hx2' : qvs[(((i : Nat) : Int) + 1).toNat]? = some (Value.ref a2) := by
        rw [show (((i : Nat) : Int) + 1).toNat = i + 1 by omega]; exact hx2
      have hm1' : (a1, po ox oy t1 t2) ∈ ch ++ led0 := List.mem_append_right _ hm1
      have hm2' : (a2, po px py t3 t4) ∈ ch ++ led0 := List.mem_append_right _ hm2
      have hSPL' := List.mem_append_right ch hSPL
      have hoffI : I ≠ FL := fun e => hoff _ (.head _) e.symm
      have hoffT : ∀ p ∈ ch ++ led0, p.1 ≠ I := fun p hp => hoff p (.tail _ hp)
      have hoffF : ∀ p ∈ ch ++ led0, p.1 ≠ FL := fun p hp => by
        rcases List.mem_append.mp hp with h | h
        · exact fun e => Nat.lt_irrefl _ (e ▸ p4 p h)
        · exact allLt_ne hab p h
      have hfl : fs.length < 200 := by omega
      k_steps
      · refine stop_out ?_
        rename News _ _ _ _ => N1
        rename Fr _ _ _ _ => F1
        rename 0 < len => hlen
        exact ps_turn1 F1 N1 hm1' (by rw [hsu, if_pos hlen]) p2 p3 p4 hoffI hoffT (ltN (by omega)) (ltN (by omega)) (ltN (by omega)) (neN (by omega)) (neN (by omega)) (neN (by omega)) hts (by kst_all) (by kst_same)
      · refine stop_out ?_
        rename News _ _ _ _ => N1
        rename Fr _ _ _ _ => F1
        rename ¬ (0 < len) => hlen
        have hl0 : len = 0 := by omega
        refine NuEnd.intro _ F1 N1 (by k_mem) ?_ ?_ ⟨⟨ch, fs, ep, beg, _⟩, rfl, by kst_all, by kst_same, by rw [hts, hl0, Int.add_zero], Nat.le_succ_of_le p2, ?_, p4⟩
        · exact fun p hp => .tail _ (.tail _ (.tail _ (.tail _ hp)))
        · exact hoff
        · rw [hsu, if_neg hlen, List.append_nil]; exact p3
    case done =>
      clear F2 N2 R3 R4 R1
      intro c u h tk hp F' N'
      obtain ⟨ch, fs, ep, beg, tb⟩ := c
      obtain ⟨p1, p2, p3, p4⟩ := hp
      dsimp only at p1 p2 p3 p4 N'
      dsimp only [kstB] at F'
      k_steps
      rename News _ _ _ _ => N1
      refine hret FL fs ep _ _ _ (by assumption) N1 (fun p hp => .tail _ (List.mem_append_right _ (hsub p hp))) (.head _) (p3.mono fun p hp => .tail _ hp) (fun p hp => ?_)
      rcases List.mem_cons.mp hp with rfl | hp
      · exact .inr fun q hq => allLt_mem hab q (hsub q hq)
      rcases List.mem_append.mp hp with hp | hp
      · exact .inr fun q hq => Nat.lt_trans (allLt_mem hab q (hsub q hq)) (p4 p hp)
      · exact hold p hp

end
theorem nu_ne_nil {prog : Program} {w : World} {A : Around} {E : Value → Shared → Prop} {s : Shared} {h₀ : Heap} {L : Addr} {news : List (Addr × Obj)} {a b : Addr} {vs : List Value} {n1 n2 : Nat} {Q : Value → Shared → Prop}
    (N : News h₀ L s.heap news) (ha : (a, ({ cls := .type "list", data := .seq vs.toArray n1 } : Obj)) ∈ news) (hb : (b, ({ cls := .type "list", data := .seq #[] n2 } : Obj)) ∈ news) (hz : vs.length ≠ 0) (hu : A.units < cLine) (h : Q (.bool true) s) :
    wpAny (model prog w) A (compareOp .NotEq (.ref a) (.ref b)) Q E s :=
  PySem.SeqAt.RcNeAt.lists_lengths (l := a) (b := b) ⟨_, (N _ ha).1, rfl, _, rfl⟩ ⟨_, (N _ hb).1, rfl, _, rfl⟩ (by simpa using hz) hu prog w E Q h
theorem nu_last {prog : Program} {w : World} {A : Around} {E : Value → Shared → Prop} {s : Shared} {h₀ : Heap} {L : Addr} {news : List (Addr × Obj)} {value slice : PySem.Expr} {l : Addr} {vs : List Value} {n : Nat} {u : Tok} {v : Value} {Q : Value → Shared → Prop}
    (N : News h₀ L s.heap news) (hm : (l, ({ cls := .type "list", data := .seq vs.toArray n } : Obj)) ∈ news) (hz : vs.length < 1000) (hx : vs.getLast? = some v) (h : Q v s)
    (hs : subscripted slice false (.ref l) (.int (-1) u) = operate [.ref l, .int (-1) u] (getItem (.ref l) (.int (-1) u)) := by with_unfolding_all rfl) :
    wpAny (model prog w) A (subscriptTail value slice (.ref l) (.int (-1) u)) Q E s := by
  have hl : s.heap.IsList l vs.toArray := ⟨_, (N _ hm).1, rfl, _, rfl⟩
  have h0 : vs ≠ [] := fun e => by rw [e] at hx; cases hx
  have h1 : 0 < vs.length := List.length_pos_iff.mpr h0
  rw [List.getLast?_eq_getElem?] at hx
  refine tail_any hl.typeIs slot_list_getitem.lookup (wpAny_getItem_list_neg hl (by decide) ?_ (by decide) ?_ h) hs
  · simp; omega
  · rw [List.getElem?_toArray, List.size_toArray, show ((-1 : Int) + (vs.length : Nat)).toNat = vs.length - 1 by omega]
    exact hx
section
local macro_rules | `(tactic| walk_at "padNuQ0") => `(tactic| skip)
local macro_rules | `(tactic| walk_at "compareOp NotEq ref ref") => `(tactic| (k_here; k_dflt (refine' nu_ne_nil (by k_asm) (by k_mem) (by k_mem) (by walk_at "ar") (by ktr_units) ?_; k_whole)))
local macro_rules | `(tactic| walk_at "subscriptTail Name UnaryOp") => `(tactic| (k_here; k_dflt (refine' nu_last (by k_asm) (by k_mem) (by walk_at "nuz") (by assumption) ?_; k_whole)))
theorem t_plen {w : World} {mean : ExcName → Option Value} {mg mb : Str → Option Value} {dp un : Nat} {gd : Option (List Code)} {cn : Str} {cs : Scope} {a : Addr} {ccd : Value} {cl : List (Str × Addr)} {outer : List Env} {A₀ : Around} {base h₀ : Heap} {L : Addr} {m : Str → Option Value} {s : Shared} {Q E : Value → Shared → Prop} {news : List (Addr × Obj)} (B : Below A₀ base outer h₀) (F : Fr h₀ L s.heap m) (X : (tp.heap_1 w.params).In h₀) (N : News h₀ L s.heap news) (T : Top tp.view_1 (looseW tp.view_1 [Str.ofString "fraction"]) mean mg mb h₀) (hk : cs.kind = .function)
  (hdp : dp + 40 < recursionLimit) (hun : un + 400 < cLine) {SL : Addr} {vs : List Value} {Ss : List Sd} {S : Sd} {ep : Nat}
  (hS : (SL, ({ cls := .type "list", data := .seq vs.toArray ep } : Obj)) ∈ news) (hSs : SdsIn w.params news vs Ss) (hn : vs.length < 100) (hl : Ss.getLast? = some S)
  (hret : ∀ (t : Tok) (h' : Heap) (tk' : Nat), Fr h₀ L h' m → News h₀ L h' news → Q (.int (S.beg + S.len) t) { s with heap := h', toks := tk' }) :
  wpAny (model PySem.Challenge.rw_nu0017_01.row.prog w) (ktrTop dp un gd cn cs L a ccd cl outer) (call (.ref 250) [.ref SL]) Q E s := by
  have h0 : Ss ≠ [] := fun e => by rw [e] at hl; cases hl
  have h1 : Ss.length ≠ 0 := fun e => h0 (List.length_eq_zero_iff.mp e)
  have h2 : vs.length ≠ 0 := by rw [hSs.1]; exact h1
  have hl2 := hl
  rw [List.getLast?_eq_getElem?] at hl2
  obtain ⟨x, hx, hin⟩ := hSs.2 _ S hl2
  rw [← hSs.1, ← List.getLast?_eq_getElem?] at hx
  obtain ⟨dx, one, wy, k1, k2, k3, k4, tl, tb, o1, o2, w1, w2, i1, i2, i3, i4⟩ := hin
  refine wpAny_call ?_
  (k_dflt (refine' code_def ?k1 ?k2 ?k3 ?k4 ?k5 ?kA ?kF ?kK ?k6 ?k7 ?k8 ?k9 ?kB ?_ ?c2 ?c3 ?c4 ?c5; (case kA => exact rfl); (case kF => exact rfl); (case kK => first | assumption | exact rfl); (case k1 => k_asm); (case k2 => k_asm); (case k3 => k_asm); (case k4 => k_asm); (case k5 => k_asm); (case k6 => k_is); (case k7 => k_is); (case k8 => ktr_room); (case k9 => first | exact BindsTo.of_eq rfl | exact binds_K (by k_in) rfl (by k_is) rfl rfl rfl); (case c5 => decide); (case kB => exact locs rfl); (case c2 => exact rfl); (case c3 => exact rfl); (case c4 => exact rfl); k_whole; intro g' L' h' FG' F' N' B' X' T'; (try dsimp only); (try k_lift B'); (try k_fold)))
  k_steps
  rename News _ _ _ _ => N1
  exact hret _ _ _ (by assumption) (cb_drop N1 (by kcj_all))

end
abbrev srcO (a b : Int) (t1 t2 : Tok) (ep : Nat) : Obj := { cls := .type "list", data := .seq #[.int a t1, .int b t2] ep }
theorem t_take {w : World} {mean : ExcName → Option Value} {mg mb : Str → Option Value} {dp un : Nat} {gd : Option (List Code)} {cn : Str} {cs : Scope} {a : Addr} {ccd : Value} {cl : List (Str × Addr)} {outer : List Env} {A₀ : Around} {base h₀ : Heap} {L : Addr} {m : Str → Option Value} {s : Shared} {Q E : Value → Shared → Prop} {news : List (Addr × Obj)} (B : Below A₀ base outer h₀) (F : Fr h₀ L s.heap m) (X : (tp.heap_1 w.params).In h₀) {src : Addr} {s0 s1 : Int} {t0 t1 : Tok} {ep : Nat} (N : News h₀ L s.heap ((src, srcO s0 s1 t0 t1 ep) :: news)) (T : Top tp.view_1 (looseW tp.view_1 [Str.ofString "fraction"]) mean mg mb h₀) (hk : cs.kind = .function)
  (hdp : dp + 20 < recursionLimit) (hun : un + 200 < cLine) {top : Int} {tt : Tok} (hoff : ∀ p ∈ news, p.1 ≠ src) (htop : 0 < top) (htop2 : top < 2 ^ 40) (h0 : 0 ≤ s0) (h1 : 0 ≤ s1) (h2 : s1 < 2147483647)
  (hret : ∀ (d s0' s1' : Int) (t t0' t1' : Tok) (ep' : Nat) (h' : Heap) (tk' : Nat), 0 ≤ d → d < top → 0 ≤ s0' → 0 ≤ s1' → s1' < 2147483647 → Fr h₀ L h' m → News h₀ L h' ((src, srcO s0' s1' t0' t1' ep') :: news) → Q (.int d t) { s with heap := h', toks := tk' }) :
  wpAny (model PySem.Challenge.rw_nu0017_01.row.prog w) (ktrTop dp un gd cn cs L a ccd cl outer) (call (.ref 306) [.ref src, .int top tt]) Q E s := by
  refine wpAny_call ?_
  (k_dflt (refine' code_def ?k1 ?k2 ?k3 ?k4 ?k5 ?kA ?kF ?kK ?k6 ?k7 ?k8 ?k9 ?kB ?_ ?c2 ?c3 ?c4 ?c5; (case kA => exact rfl); (case kF => exact rfl); (case kK => first | assumption | exact rfl); (case k1 => k_asm); (case k2 => k_asm); (case k3 => k_asm); (case k4 => k_asm); (case k5 => k_asm); (case k6 => k_is); (case k7 => k_is); (case k8 => ktr_room); (case k9 => first | exact BindsTo.of_eq rfl | exact binds_K (by k_in) rfl (by k_is) rfl rfl rfl); (case c5 => decide); (case kB => exact locs rfl); (case c2 => exact rfl); (case c3 => exact rfl); (case c4 => exact rfl); k_whole; intro g' L' h' FG' F' N' B' X' T'; (try dsimp only); (try k_lift B'); (try k_fold)))
  k_steps
  · rename News _ _ _ _ => N1
    refine hret _ _ _ _ _ _ _ _ _ (Int.fmod_nonneg_of_pos _ htop) (Int.fmod_lt_of_pos _ htop) ?_ h1 h2 (by assumption) N1
    rw [Int.fdiv_eq_ediv_of_nonneg _ (Int.le_of_lt htop)]
    exact Int.ediv_nonneg h0 (Int.le_of_lt htop)
  · rename News _ _ _ _ => N1
    exact hret _ _ _ _ _ _ _ _ _ (Int.fmod_nonneg_of_pos _ htop) (Int.fmod_lt_of_pos _ htop) h0 (Int.fmod_nonneg_of_pos _ (by omega)) (Int.fmod_lt_of_pos _ (by omega)) (by assumption) N1
theorem nu_lenB {prog : Program} {w : World} {A : Around} {E : Value → Shared → Prop} {s : Shared} {h₀ : Heap} {L : Addr} {m : Str → Option Value} {l : Addr} {vs : List Value} {z : Int} {Q : Value → Shared → Prop}
    (F : Fr h₀ L s.heap m) (hl : h₀.IsList l vs.toArray) (hz : (vs.length : Int) = z ∧ z < 2 ^ 20)
    (h : Q (.int z (s.toks + 1)) { s with toks := s.toks + 1 + 1 }) : wpAny (model prog w) A (call (.builtin "len") [.ref l]) Q E s :=
  len_list (items := vs.toArray) (stays_list F.keep hl) (by rw [List.size_toArray]; omega) (by rw [List.size_toArray, hz.1]; exact h)
theorem nu_itemB {prog : Program} {w : World} {A : Around} {E : Value → Shared → Prop} {s : Shared} {h₀ : Heap} {L : Addr} {m : Str → Option Value} {value slice : PySem.Expr} {l : Addr} {vs : List Value} {k : Int} {u : Tok} {v : Value} {Q : Value → Shared → Prop}
    (F : Fr h₀ L s.heap m) (hl : h₀.IsList l vs.toArray) (h0 : 0 ≤ k) (hhi : k < 2 ^ 62) (hx : vs[k.toNat]? = some v) (h : Q v s)
    (hs : subscripted slice false (.ref l) (.int k u) = operate [.ref l, .int k u] (getItem (.ref l) (.int k u)) := by with_unfolding_all rfl) :
    wpAny (model prog w) A (subscriptTail value slice (.ref l) (.int k u)) Q E s := by
  have hl' := stays_list F.keep hl
  exact tail_any hl'.typeIs slot_list_getitem.lookup (wpAny_getItem_list hl' h0 (by omega) (by simpa using hx) h) hs
section
local macro_rules | `(tactic| walk_at "padNuR0") => `(tactic| skip)
local macro_rules | `(tactic| walk_at "padNuR1") => `(tactic| skip)
local macro_rules | `(tactic| walk_at "call builtin:len") => `(tactic| (walk_at "nuN"; k_dflt (refine' nu_lenB (by k_asm) (by assumption) (by assumption) ?_; k_whole)))
local macro_rules | `(tactic| walk_at "subscriptTail Name Name ref int") => `(tactic| (walk_at "nuS"; k_dflt (refine' nu_itemB ?nuF ?nuhl ?nuh0 ?nuh1 ?nuhx ?_; (case nuF => k_asm); (case nuhl => assumption); (case nuhx => exact rfl); (case nuh0 => walk_at "ar"); (case nuh1 => walk_at "ar"); k_whole)))
theorem pool_nonneg (n : Int) (p : Prop) [Decidable p] : 0 ≤ (if -1 - n > n then -1 - n else n) * (if p then (1 : Int) else 0) := by
  split <;> split <;> omega
theorem t_pool {w : World} {mean : ExcName → Option Value} {mg mb : Str → Option Value} {dp un : Nat} {gd : Option (List Code)} {cn : Str} {cs : Scope} {a : Addr} {ccd : Value} {cl : List (Str × Addr)} {outer : List Env} {A₀ : Around} {base h₀ : Heap} {L : Addr} {m : Str → Option Value} {s : Shared} {Q E : Value → Shared → Prop} {news : List (Addr × Obj)} (B : Below A₀ base outer h₀) (F : Fr h₀ L s.heap m) (X : (tp.heap_1 w.params).In h₀) (N : News h₀ L s.heap news) (T : Top tp.view_1 (looseW tp.view_1 [Str.ofString "fraction"]) mean mg mb h₀) (hk : cs.kind = .function)
  (hdp : dp + 20 < recursionLimit) (hun : un + 200 < cLine) {l : Addr} {vs : List Value} {ns : List Int} {tk0 : Tok} (hl : h₀.IsList l vs.toArray) (hi : IntsAre vs ns) (hn : ns.length < 100)
  (hret : ∀ (D : Addr) (s0 s1 : Int) (t0 t1 : Tok) (ep : Nat) (h' : Heap) (tk' : Nat), 0 ≤ s0 → 0 ≤ s1 → s1 < 2147483647 → Fr h₀ L h' m → News h₀ L h' ((D, srcO s0 s1 t0 t1 ep) :: news) → AllLt D news → Q (.ref D) { s with heap := h', toks := tk' }) :
  wpAny (model PySem.Challenge.rw_nu0017_01.row.prog w) (ktrTop dp un gd cn cs L a ccd cl outer) (call (.ref 299) [.ref l, .int 0 tk0]) Q E s := by
  have hL0 := hi.length
  obtain ⟨z, hz⟩ : ∃ z : Int, (vs.length : Int) = z ∧ z < 2 ^ 20 := ⟨_, rfl, by omega⟩
  refine wpAny_call ?_
  (k_dflt (refine' code_def ?k1 ?k2 ?k3 ?k4 ?k5 ?kA ?kF ?kK ?k6 ?k7 ?k8 ?k9 ?kB ?_ ?c2 ?c3 ?c4 ?c5; (case kA => exact rfl); (case kF => exact rfl); (case kK => first | assumption | exact rfl); (case k1 => k_asm); (case k2 => k_asm); (case k3 => k_asm); (case k4 => k_asm); (case k5 => k_asm); (case k6 => k_is); (case k7 => k_is); (case k8 => ktr_room); (case k9 => first | exact BindsTo.of_eq rfl | exact binds_K (by k_in) rfl (by k_is) rfl rfl rfl); (case c5 => decide); (case kB => exact locs rfl); (case c2 => exact rfl); (case c3 => exact rfl); (case c4 => exact rfl); k_whole; intro g' L' h' FG' F' N' B' X' T'; (try dsimp only); (try k_lift B'); (try k_fold)))
  have hlg : g'.IsList l vs.toArray := stays_list FG'.keep hl
  clear hl
  cases hi with
  | nil =>
    have hz0 : z = 0 := by simpa using hz.1.symm
    k_steps
    rename News _ _ _ _ => N1
    rename (∀ (p : Addr × Obj), p ∈ news → p.1 < _) => l1
    exact hret _ _ _ _ _ _ _ _ (pool_nonneg _ _) (Int.fmod_nonneg_of_pos _ (by omega)) (Int.fmod_lt_of_pos _ (by omega)) (by assumption) N1 (allLt_of l1)
  | cons n t r =>
    have hz0 : 0 < z := by have := hz.1; simp only [List.length_cons] at this; omega
    clear hL0
    k_steps
    rename News _ _ _ _ => N1
    rename (∀ (p : Addr × Obj), p ∈ news → p.1 < _) => l1
    exact hret _ _ _ _ _ _ _ _ (pool_nonneg _ _) (Int.fmod_nonneg_of_pos _ (by omega)) (Int.fmod_lt_of_pos _ (by omega)) (by assumption) N1 (allLt_of l1)

end
theorem Pick.news {h₀ h : Heap} {L d : Addr} {o : Obj} {l r : List (Addr × Obj)} (N : News h₀ L h l) (p : Pick d o l r) : News h₀ L h ((d, o) :: r) := by
  obtain ⟨a, b, -, -⟩ := p.facts
  intro q hq
  rcases List.mem_cons.mp hq with rfl | hq
  · exact N _ a
  · exact N _ (b _ hq)
theorem t_takeP {w : World} {mean : ExcName → Option Value} {mg mb : Str → Option Value} {dp un : Nat} {gd : Option (List Code)} {cn : Str} {cs : Scope} {a : Addr} {ccd : Value} {cl : List (Str × Addr)} {outer : List Env} {A₀ : Around} {base h₀ : Heap} {L : Addr} {m : Str → Option Value} {s : Shared} {Q E : Value → Shared → Prop} {news : List (Addr × Obj)} (B : Below A₀ base outer h₀) (F : Fr h₀ L s.heap m) (X : (tp.heap_1 w.params).In h₀) (N : News h₀ L s.heap news) (T : Top tp.view_1 (looseW tp.view_1 [Str.ofString "fraction"]) mean mg mb h₀) (hk : cs.kind = .function)
  (hdp : dp + 20 < recursionLimit) (hun : un + 200 < cLine) {src : Addr} {s0 s1 : Int} {t0 t1 : Tok} {ep : Nat} {rest : List (Addr × Obj)} (pk : Pick src (srcO s0 s1 t0 t1 ep) news rest) {top : Int} {tt : Tok} (htop : 0 < top) (htop2 : top < 2 ^ 40) (h0 : 0 ≤ s0) (h1 : 0 ≤ s1) (h2 : s1 < 2147483647)
  (hret : ∀ (d s0' s1' : Int) (t t0' t1' : Tok) (ep' : Nat) (h' : Heap) (tk' : Nat), 0 ≤ d → d < top → 0 ≤ s0' → 0 ≤ s1' → s1' < 2147483647 → Fr h₀ L h' m → News h₀ L h' ((src, srcO s0' s1' t0' t1' ep') :: rest) → Q (.int d t) { s with heap := h', toks := tk' }) :
  wpAny (model PySem.Challenge.rw_nu0017_01.row.prog w) (ktrTop dp un gd cn cs L a ccd cl outer) (call (.ref 306) [.ref src, .int top tt]) Q E s :=
  t_take B F X (pk.news N) T hk hdp hun pk.facts.2.2.1 htop htop2 h0 h1 h2 hret
theorem nu_itemE {prog : Program} {w : World} {A : Around} {E : Value → Shared → Prop} {s : Shared} {h₀ : Heap} {L : Addr} {news : List (Addr × Obj)} {value slice : PySem.Expr} {l : Addr} {vs : List Value} {n : Nat} {k : Int} {u : Tok} {Q : Value → Shared → Prop}
    (N : News h₀ L s.heap news) (hm : (l, ({ cls := .type "list", data := .seq vs.toArray n } : Obj)) ∈ news) (h0 : 0 ≤ k) (hhi : k < vs.length) (hz : vs.length < 1000) (h : ∀ v, vs[k.toNat]? = some v → Q v s)
    (hs : subscripted slice false (.ref l) (.int k u) = operate [.ref l, .int k u] (getItem (.ref l) (.int k u)) := by with_unfolding_all rfl) :
    wpAny (model prog w) A (subscriptTail value slice (.ref l) (.int k u)) Q E s := by
  have hk : k.toNat < vs.length := by omega
  exact nu_item N hm h0 (by omega) (List.getElem?_eq_getElem hk) (h _ (List.getElem?_eq_getElem hk)) hs
local macro_rules | `(tactic| walk_at "call ref") => `(tactic| (o_head (306, t_takeP (by walk_at "pick") (by walk_at "ar") (by walk_at "ar") (by walk_at "ar") (by walk_at "ar") (by walk_at "ar")); walk_at "nuL"))
local macro_rules | `(tactic| walk_at "subscriptTail Name UnaryOp") => `(tactic| (k_here; k_dflt (refine' nu_last (by k_asm) (by k_mem) (by walk_at "nuz") (by assumption) ?_; k_whole)))
local macro_rules | `(tactic| walk_at "call type:range") => `(tactic| (k_here; (rename Fr _ _ _ _ => F'); (rename News _ _ _ _ => N'); (with_unfolding_all refine range1_rows F' N' ?_; intro _ _ _ _ _ _ _ _ _)))
section
local macro_rules | `(tactic| walk_at "padNuS0") => `(tactic| skip)
local macro_rules | `(tactic| walk_at "subscriptTail Name Call") => `(tactic| (walk_at "nuS"; k_dflt (refine' nu_itemE (by k_asm) (by k_mem) (by walk_at "ar") (by walk_at "ar") (by walk_at "ar") ?_); intro v9 e9))
theorem t_one {w : World} {mean : ExcName → Option Value} {mg mb : Str → Option Value} {dp un : Nat} {gd : Option (List Code)} {cn : Str} {cs : Scope} {a : Addr} {ccd : Value} {cl : List (Str × Addr)} {outer : List Env} {A₀ : Around} {base h₀ : Heap} {L : Addr} {m : Str → Option Value} {s : Shared} {Q E : Value → Shared → Prop} {news : List (Addr × Obj)} (B : Below A₀ base outer h₀) (F : Fr h₀ L s.heap m) (X : (tp.heap_1 w.params).In h₀) (N : News h₀ L s.heap news) (T : Top tp.view_1 (looseW tp.view_1 [Str.ofString "fraction"]) mean mg mb h₀) (hk : cs.kind = .function)
  (hdp : dp + 40 < recursionLimit) (hun : un + 400 < cLine) {src TH : Addr} {s0 s1 : Int} {t0 t1 : Tok} {ep ep2 : Nat} {rest : List (Addr × Obj)} (pk : Pick src (srcO s0 s1 t0 t1 ep) news rest) {vs : List Value} (hm : (TH, ({ cls := .type "list", data := .seq vs.toArray ep2 } : Obj)) ∈ rest) (hv0 : 0 < vs.length) (hv1 : vs.length < 100) (h0 : 0 ≤ s0) (h1 : 0 ≤ s1) (h2 : s1 < 2147483647)
  (hret : ∀ (k : Nat) (v : Value) (s0' s1' : Int) (t0' t1' : Tok) (ep' : Nat) (h' : Heap) (tk' : Nat), vs[k]? = some v → 0 ≤ s0' → 0 ≤ s1' → s1' < 2147483647 → Fr h₀ L h' m → News h₀ L h' ((src, srcO s0' s1' t0' t1' ep') :: rest) → Q v { s with heap := h', toks := tk' }) :
  wpAny (model PySem.Challenge.rw_nu0017_01.row.prog w) (ktrTop dp un gd cn cs L a ccd cl outer) (call (.ref 313) [.ref src, .ref TH]) Q E s := by
  have hoff := pk.facts.2.2.1
  replace N := pk.news N
  clear pk
  refine wpAny_call ?_
  (k_dflt (refine' code_def ?k1 ?k2 ?k3 ?k4 ?k5 ?kA ?kF ?kK ?k6 ?k7 ?k8 ?k9 ?kB ?_ ?c2 ?c3 ?c4 ?c5; (case kA => exact rfl); (case kF => exact rfl); (case kK => first | assumption | exact rfl); (case k1 => k_asm); (case k2 => k_asm); (case k3 => k_asm); (case k4 => k_asm); (case k5 => k_asm); (case k6 => k_is); (case k7 => k_is); (case k8 => ktr_room); (case k9 => first | exact BindsTo.of_eq rfl | exact binds_K (by k_in) rfl (by k_is) rfl rfl rfl); (case c5 => decide); (case kB => exact locs rfl); (case c2 => exact rfl); (case c3 => exact rfl); (case c4 => exact rfl); k_whole; intro g' L' h' FG' F' N' B' X' T'; (try dsimp only); (try k_lift B'); (try k_fold)))
  k_steps
  rename News _ _ _ _ => N1
  rename _[_]? = some _ => e9
  refine hret _ _ _ _ _ _ _ _ _ e9 ?_ ?_ ?_ (by assumption) N1 <;> assumption

end
abbrev tri (x y z : Int) (t1 t2 t3 : Tok) : Obj := { cls := .type "tuple", data := .seq #[.int x t1, .int y t2, .int z t3] }
theorem getD_appL {α : Type} (l r : List α) (d : α) {i : Nat} (h : i < l.length) : (l ++ r).getD i d = l.getD i d := by
  rw [List.getD_eq_getElem?_getD, List.getD_eq_getElem?_getD, List.getElem?_append_left h]
theorem getD_appR {α : Type} (l r : List α) (d : α) {i : Nat} (h : l.length ≤ i) : (l ++ r).getD i d = r.getD (i - l.length) d := by
  rw [List.getD_eq_getElem?_getD, List.getD_eq_getElem?_getD, List.getElem?_append_right h]
def PInv (i : Nat) (ps : List (Int × Int)) (ls : List Int) : Prop :=
  ps.length = i + 1 ∧ ls.length = i ∧ (0 < i → 0 < ls.getD 0 0) ∧ (∀ j, j < i → let S := sideOf ps ls j; S.wx * S.wx + S.wy * S.wy = S.len * S.len ∧ 0 ≤ S.len ∧ S.len ≤ 78) ∧ ∀ p ∈ ps, p.1.natAbs ≤ 10 + 72 * i ∧ p.2.natAbs ≤ 10 + 72 * i
theorem PInv.start {x y : Int} (hx : -10 ≤ x ∧ x ≤ 10) (hy : -10 ≤ y ∧ y ≤ 10) : PInv 0 [(x, y)] [] := by
  refine ⟨rfl, rfl, fun h => absurd h (Nat.lt_irrefl _), fun j h => absurd h (Nat.not_lt_zero _), fun p hp => ?_⟩
  rw [List.mem_singleton.mp hp]
  constructor <;> dsimp only <;> omega
theorem PInv.step {i : Nat} {ps : List (Int × Int)} {ls : List Int} (h : PInv i ps ls) {lx ly dx dy l k : Int} (hlast : ps.getD i (0, 0) = (lx, ly)) (hs : dx * dx + dy * dy = l * l) (hl0 : 0 ≤ l) (hl1 : l ≤ 13) (hl2 : i = 0 → 0 < l) (hk0 : 1 ≤ k) (hk1 : k ≤ 6) (hdx : -12 ≤ dx ∧ dx ≤ 12) (hdy : -12 ≤ dy ∧ dy ≤ 12) :
    PInv (i + 1) (ps ++ [(lx + k * dx, ly + k * dy)]) (ls ++ [k * l]) := by
  obtain ⟨h1, h2, h3, h4, h5⟩ := h
  have hkl0 : 0 ≤ k * l := Int.mul_nonneg (by omega) hl0
  have hkl1 : k * l ≤ 6 * 13 := Int.mul_le_mul hk1 hl1 hl0 (by omega)
  have kb : ∀ z : Int, -12 ≤ z ∧ z ≤ 12 → -72 ≤ k * z ∧ k * z ≤ 72 := by
    intro z hz
    have e1 : k * z ≤ k * 12 := Int.mul_le_mul_of_nonneg_left hz.2 (by omega)
    have e2 : k * (-12) ≤ k * z := Int.mul_le_mul_of_nonneg_left hz.1 (by omega)
    omega
  have hlm : (lx, ly) ∈ ps := by
    have hi : i < ps.length := by omega
    have : ps.getD i (0, 0) = ps[i] := by simp [hi]
    rw [← hlast, this]
    exact List.getElem_mem hi
  refine ⟨by simp [h1], by simp [h2], fun _ => ?_, fun j hj => ?_, fun p hp => ?_⟩
  · cases i with
    | zero =>
      have : ls = [] := List.length_eq_zero_iff.mp h2
      subst this
      have := Int.mul_pos (show 0 < k by omega) (hl2 rfl)
      simpa using this
    | succ i =>
      have := h3 (Nat.succ_pos _)
      rw [getD_appL _ _ _ (by omega)]
      exact this
  · rcases Nat.lt_or_ge j i with hji | hji
    · have e : sideOf (ps ++ [(lx + k * dx, ly + k * dy)]) (ls ++ [k * l]) j = sideOf ps ls j := by
        unfold sideOf
        rw [getD_appL _ _ _ (by omega), getD_appL _ _ _ (by omega), getD_appL _ _ _ (by omega), List.take_append_of_le_length (by omega)]
      rw [e]
      exact h4 j hji
    · have hj2 : j = i := by omega
      subst hj2
      have e1 : (ps ++ [(lx + k * dx, ly + k * dy)]).getD j (0, 0) = (lx, ly) := by rw [getD_appL _ _ _ (by omega)]; exact hlast
      have e2 : (ps ++ [(lx + k * dx, ly + k * dy)]).getD (j + 1) (0, 0) = (lx + k * dx, ly + k * dy) := by
        rw [getD_appR _ _ _ (by omega), h1, Nat.sub_self]; rfl
      have e3 : (ls ++ [k * l]).getD j 0 = k * l := by
        rw [getD_appR _ _ _ (by omega), h2, Nat.sub_self]; rfl
      unfold sideOf
      rw [e1, e2, e3]
      dsimp only
      refine ⟨?_, hkl0, by omega⟩
      have a1 : lx + k * dx - lx = k * dx := by omega
      have a2 : ly + k * dy - ly = k * dy := by omega
      rw [a1, a2]
      have : k * l * (k * l) = k * k * (l * l) := by grind
      rw [this, ← hs]
      grind
  · obtain ⟨b1, b2⟩ := h5 _ hlm
    have c1 := kb dx hdx
    have c2 := kb dy hdy
    dsimp only at b1 b2
    rcases List.mem_append.mp hp with hp | hp
    · obtain ⟨d1, d2⟩ := h5 p hp
      omega
    · rw [List.mem_singleton.mp hp]
      dsimp only
      omega
theorem lp_split {h₀ h : Heap} {L src WL dT LN SP d0 w1 w2 w3 w4 w5 w6 w7 w8 w9 : Addr} {os oW oT oL oS o0 ow1 ow2 ow3 ow4 ow5 ow6 ow7 ow8 ow9 : Obj} {rest : List (Addr × Obj)} (N : News h₀ L h ((src, os) :: (WL, oW) :: (w9, ow9) :: (w8, ow8) :: (w7, ow7) :: (w6, ow6) :: (w5, ow5) :: (w4, ow4) :: (w3, ow3) :: (w2, ow2) :: (w1, ow1) :: (dT, oT) :: (LN, oL) :: (SP, oS) :: (d0, o0) :: rest)) :
    ∃ led0, led0 = (WL, oW) :: (w9, ow9) :: (w8, ow8) :: (w7, ow7) :: (w6, ow6) :: (w5, ow5) :: (w4, ow4) :: (w3, ow3) :: (w2, ow2) :: (w1, ow1) :: (dT, oT) :: (d0, o0) :: rest ∧ News h₀ L h ((src, os) :: (SP, oS) :: (LN, oL) :: led0) ∧ (WL, oW) ∈ led0 ∧ (w1, ow1) ∈ led0 ∧ (w2, ow2) ∈ led0 ∧ (w3, ow3) ∈ led0 ∧ (w4, ow4) ∈ led0 ∧ (w5, ow5) ∈ led0 ∧ (w6, ow6) ∈ led0 ∧ (w7, ow7) ∈ led0 ∧ (w8, ow8) ∈ led0 ∧ (w9, ow9) ∈ led0 ∧ (d0, o0) ∈ led0 := by
  refine ⟨_, rfl, fun p hp => N p ?_, ?_⟩
  · simp only [List.mem_cons] at hp ⊢
    rcases hp with h | h | h | h | h | h | h | h | h | h | h | h | h | h | h | h <;> simp [h]
  · simp
def WayOk (led : List (Addr × Obj)) (k : Nat) (v : Value) : Prop := ∃ a dx dy l t1 t2 t3, v = .ref a ∧ (a, tri dx dy l t1 t2 t3) ∈ led ∧ dx * dx + dy * dy = l * l ∧ 0 ≤ l ∧ l ≤ 13 ∧ (-12 ≤ dx ∧ dx ≤ 12) ∧ (-12 ≤ dy ∧ dy ≤ 12) ∧ (k < 8 → 0 < l)
theorem WayOk.mono {led led' : List (Addr × Obj)} {k : Nat} {v : Value} (h : WayOk led k v) (hs : ∀ p ∈ led, p ∈ led') : WayOk led' k v := by
  obtain ⟨a, dx, dy, l, u1, u2, u3, h1, h2, h3⟩ := h
  exact ⟨a, dx, dy, l, u1, u2, u3, h1, hs _ h2, h3⟩
theorem lp_eight {a1 a2 a3 a4 a5 a6 a7 a8 a9 v : Value} {k : Nat} (e : [a1, a2, a3, a4, a5, a6, a7, a8][k]? = some v) : k < 8 ∧ [a1, a2, a3, a4, a5, a6, a7, a8, a9][k]? = some v := by
  have hk : k < 8 := by simpa using (List.getElem?_eq_some_iff.mp e).1
  refine ⟨hk, ?_⟩
  rw [show [a1, a2, a3, a4, a5, a6, a7, a8, a9] = [a1, a2, a3, a4, a5, a6, a7, a8] ++ [a9] from rfl, List.getElem?_append_left (by simpa using hk)]
  exact e
theorem lp_done {h₀ h : Heap} {L R src SPL LNL : Addr} {oR os oS oL : Obj} {tl : List (Addr × Obj)} (N : News h₀ L h ((R, oR) :: (src, os) :: (SPL, oS) :: (LNL, oL) :: tl)) (h1 : R ≠ src) (h2 : SPL ≠ src) (h3 : LNL ≠ src) (h4 : ∀ p ∈ tl, p.1 ≠ src) :
    ∃ all, News h₀ L h ((src, os) :: all) ∧ (∀ p ∈ tl, p ∈ all) ∧ (∀ p ∈ all, p.1 ≠ src) ∧ (R, oR) ∈ all ∧ (SPL, oS) ∈ all ∧ (LNL, oL) ∈ all := by
  refine ⟨(R, oR) :: (SPL, oS) :: (LNL, oL) :: tl, fun p hp => N p ?_, fun p hp => .tail _ (.tail _ (.tail _ hp)), fun p hp => ?_, .head _, .tail _ (.head _), .tail _ (.tail _ (.head _))⟩
  · simp only [List.mem_cons] at hp ⊢
    rcases hp with h | h | h | h | h <;> simp [h]
  · simp only [List.mem_cons] at hp
    rcases hp with rfl | rfl | rfl | h
    · exact h1
    · exact h2
    · exact h3
    · exact h4 p h
theorem lp_start {led0 : List (Addr × Obj)} {PT : Addr} {x y : Int} {t1 t2 : Tok} (hPT : (PT, po x y t1 t2) ∈ led0) (hx : -10 ≤ x ∧ x ≤ 10) (hy : -10 ≤ y ∧ y ≤ 10) : PInv 0 [(x, y)] [] ∧ SpIn led0 [Value.ref PT] [(x, y)] :=
  ⟨PInv.start hx hy, ⟨rfl, fun i p e => by
    cases i with
    | zero => cases e; exact ⟨PT, _, _, rfl, hPT⟩
    | succ i => simp at e⟩⟩
structure LpSt where
  ch : List (Addr × Obj)
  vs : List Value
  lv : List Value
  ps : List (Int × Int)
  ls : List Int
  s0 : Int
  s1 : Int
  t0 : Tok
  t1 : Tok
  ep : Nat
  e2 : Nat
  e3 : Nat
theorem intsAre_snoc {vs : List Value} {ns : List Int} (h : IntsAre vs ns) (x : Int) (t : Tok) : IntsAre (vs ++ [.int x t]) (ns ++ [x]) := by
  induction h with
  | nil => exact .cons _ _ .nil
  | cons n t _ ih => exact .cons _ _ ih
theorem lp_turn1 {h₀ h' : Heap} {L src SPL LNL D I : Addr} {oI : Obj} {m' m₀ : Str → Option Value} {s₁ : Shared} {tk : Nat} {ch led0 : List (Addr × Obj)} {vs lv : List Value} {ps : List (Int × Int)} {ls : List Int} {e e2 e3 i : Nat} {lx ly dx dy l k a b : Int} {tA tB tC t0 t1 : Tok} {stored : List Str}
    {all : List (Addr × Obj)} (F : Fr h₀ L h' m') (N : News h₀ L h' all) (hD : (D, po (lx + k * dx) (ly + k * dy) tA tB) ∈ all) (hsr : (src, srcO a b t0 t1 e) ∈ all) (hII : (I, oI) ∈ all) (hSS : (SPL, listOf (vs.toArray.push (.ref D)) (e2 + 1)) ∈ all) (hLL : (LNL, listOf (lv.toArray.push (.int (k * l) tC)) (e3 + 1)) ∈ all) (hrest : ∀ p ∈ ch ++ led0, p ∈ all)
    (p1 : PInv i ps ls) (p2 : SpIn (ch ++ led0) vs ps) (p3 : IntsAre lv ls) (ha : 0 ≤ a) (hb : 0 ≤ b) (hb2 : b < 2147483647) (p7 : ∀ p ∈ ch, p.1 ≠ src ∧ p.1 ≠ SPL ∧ p.1 ≠ LNL)
    (n1 : src ≠ I) (n2 : SPL ≠ I) (n3 : LNL ≠ I) (n4 : ∀ p ∈ ch ++ led0, p.1 ≠ I) (n5 : D ≠ src) (n6 : D ≠ SPL) (n7 : D ≠ LNL) (n8 : D ≠ I)
    (hlast : ps.getD i (0, 0) = (lx, ly)) (hs : dx * dx + dy * dy = l * l) (hl0 : 0 ≤ l) (hl1 : l ≤ 13) (hl2 : i = 0 → 0 < l) (hk0 : 1 ≤ k) (hk1 : k ≤ 6) (hdx : -12 ≤ dx ∧ dx ≤ 12) (hdy : -12 ≤ dy ∧ dy ≤ 12)
    (hr : ∀ z, z ≠ Str.ofString "turn" → (∀ p ∈ ([] : List (Str × Value)), z ≠ p.1) → stored.contains z = false → m' z = m₀ z) :
    NuEnd h₀ L (NuS (fun c : LpSt => (src, srcO c.s0 c.s1 c.t0 c.t1 c.ep) :: (SPL, ({ cls := .type "list", data := .seq c.vs.toArray c.e2 } : Obj)) :: (LNL, ({ cls := .type "list", data := .seq c.lv.toArray c.e3 } : Obj)) :: (c.ch ++ led0)) (fun _ => []) (Str.ofString "turn") stored m₀
      (fun i c => PInv i c.ps c.ls ∧ SpIn (c.ch ++ led0) c.vs c.ps ∧ IntsAre c.lv c.ls ∧ (0 ≤ c.s0 ∧ 0 ≤ c.s1 ∧ c.s1 < 2147483647) ∧ ∀ p ∈ c.ch, p.1 ≠ src ∧ p.1 ≠ SPL ∧ p.1 ≠ LNL) (i + 1)) I oI s₁ { s₁ with heap := h', toks := tk } := by
  have up : ∀ p ∈ ch ++ led0, p ∈ ((D, po (lx + k * dx) (ly + k * dy) tA tB) :: ch) ++ led0 := fun p hp => .tail _ hp
  refine NuEnd.intro _ F N hII ?_ ?_ ⟨⟨(D, po (lx + k * dx) (ly + k * dy) tA tB) :: ch, vs ++ [.ref D], lv ++ [.int (k * l) tC], ps ++ [(lx + k * dx, ly + k * dy)], ls ++ [k * l], a, b, t0, t1, e, e2 + 1, e3 + 1⟩, rfl, (by intro p hp; cases hp), hr, PInv.step p1 hlast hs hl0 hl1 hl2 hk0 hk1 hdx hdy, (p2.mono up).append ⟨rfl, fun j p hj => ?_⟩, intsAre_snoc p3 _ _, ⟨ha, hb, hb2⟩, ?_⟩
  · intro p hp
    rcases List.mem_cons.mp hp with rfl | hp
    · exact hsr
    rcases List.mem_cons.mp hp with rfl | hp
    · rw [← List.push_toArray]; exact hSS
    rcases List.mem_cons.mp hp with rfl | hp
    · rw [← List.push_toArray]; exact hLL
    rcases List.mem_cons.mp hp with rfl | hp
    · exact hD
    · exact hrest p hp
  · intro p hp
    rcases List.mem_cons.mp hp with rfl | hp
    · exact n1
    rcases List.mem_cons.mp hp with rfl | hp
    · exact n2
    rcases List.mem_cons.mp hp with rfl | hp
    · exact n3
    rcases List.mem_cons.mp hp with rfl | hp
    · exact n8
    · exact n4 p hp
  · cases j with
    | zero => cases hj; exact ⟨D, tA, tB, rfl, .head _⟩
    | succ j => simp at hj
  · intro p hp
    rcases List.mem_cons.mp hp with rfl | hp
    · exact ⟨n5, n6, n7⟩
    · exact p7 p hp
def WayP (h₀ : Heap) (L : Addr) (m : Str → Option Value) (l0 l1 l2 l3 : Addr × Obj) (ch led0 : List (Addr × Obj)) (i : Nat) (s : Shared) (v : Value) (s' : Shared) : Prop :=
  ∃ (X : Addr) (its : List Value) (n : Nat) (ch' : List (Addr × Obj)) (h' : Heap) (tk' : Nat), v = .ref X ∧ s' = { s with heap := h', toks := tk' } ∧ Fr h₀ L h' m ∧ News h₀ L h' (l0 :: l1 :: l2 :: l3 :: (ch' ++ led0)) ∧ (∀ p ∈ ch, p ∈ ch') ∧
    (∀ p ∈ ch', p.1 ≠ l0.1 ∧ p.1 ≠ l1.1 ∧ p.1 ≠ l2.1 ∧ p.1 ≠ l3.1) ∧ (X, ({ cls := .type "list", data := .seq its.toArray n } : Obj)) ∈ ch' ++ led0 ∧ (0 < its.length ∧ its.length < 20) ∧ ∀ k v, its[k]? = some v → WayOk (ch' ++ led0) k v ∧ (i = 0 → k < 8)
theorem merge_way {w : World} {A : Around} {x : Sem Value} {Q E : Value → Shared → Prop} {s : Shared} {h₀ : Heap} {L : Addr} {m : Str → Option Value} {l0 l1 l2 l3 : Addr × Obj} {ch led0 : List (Addr × Obj)} {i : Nat}
    (F : Fr h₀ L s.heap m) (N : News h₀ L s.heap (l0 :: l1 :: l2 :: l3 :: (ch ++ led0)))
    (h1 : wpAny (model PySem.Challenge.rw_nu0017_01.row.prog w) A x (WayP h₀ L m l0 l1 l2 l3 ch led0 i s) E s)
    (h2 : ∀ (X : Addr) (its : List Value) (n : Nat) (ch' : List (Addr × Obj)) (h' : Heap) (tk' : Nat), (∀ p ∈ ch, p ∈ ch') → (∀ p ∈ ch', p.1 ≠ l0.1 ∧ p.1 ≠ l1.1 ∧ p.1 ≠ l2.1 ∧ p.1 ≠ l3.1) → (X, ({ cls := .type "list", data := .seq its.toArray n } : Obj)) ∈ ch' ++ led0 → 0 < its.length ∧ its.length < 20 →
      (∀ k v, its[k]? = some v → WayOk (ch' ++ led0) k v ∧ (i = 0 → k < 8)) → Fr h₀ L h' m → News h₀ L h' (l0 :: l1 :: l2 :: l3 :: (ch' ++ led0)) → Q (.ref X) { s with heap := h', toks := tk' }) :
    wpAny (model PySem.Challenge.rw_nu0017_01.row.prog w) A x Q E s := by
  refine wpAny_mono h1 (fun v s' h => ?_) fun _ _ e => e
  obtain ⟨X, its, n, ch', h', tk', rfl, rfl, F', N', b, c0, c1, c2, c3⟩ := h
  exact h2 X its n ch' h' tk' b c0 c1 c2 c3 F' N'
theorem way_more {h₀ h' : Heap} {L D : Addr} {o : Obj} {l0 l1 l2 l3 : Addr × Obj} {r : List (Addr × Obj)} (N : News h₀ L h' ((D, o) :: l0 :: l1 :: l2 :: l3 :: r)) : News h₀ L h' (l0 :: l1 :: l2 :: l3 :: (D, o) :: r) := fun p hp => N p (by
  simp only [List.mem_cons] at hp ⊢
  rcases hp with h | h | h | h | h | h
  · exact .inr (.inl h)
  · exact .inr (.inr (.inl h))
  · exact .inr (.inr (.inr (.inl h)))
  · exact .inr (.inr (.inr (.inr (.inl h))))
  · exact .inl h
  · exact .inr (.inr (.inr (.inr (.inr h)))))
local macro_rules | `(tactic| walk_at "call ref") => `(tactic| (o_head (313, t_one (by walk_at "pick") (by k_mem) (by walk_at "arl") (by walk_at "arl") (by walk_at "ar") (by walk_at "ar") (by walk_at "ar")); walk_at "nuL"))
section
local macro_rules | `(tactic| walk_at "padNuU0") => `(tactic| skip)
local macro_rules | `(tactic| walk_at "eval IfExp") => `(tactic| (k_here; refine stop_intro ?_))
theorem t_lpath {w : World} {mean : ExcName → Option Value} {mg mb : Str → Option Value} {dp un : Nat} {gd : Option (List Code)} {cn : Str} {cs : Scope} {a : Addr} {ccd : Value} {cl : List (Str × Addr)} {outer : List Env} {A₀ : Around} {base h₀ : Heap} {L : Addr} {m : Str → Option Value} {s : Shared} {Q E : Value → Shared → Prop} {news : List (Addr × Obj)} (B : Below A₀ base outer h₀) (F : Fr h₀ L s.heap m) (X : (tp.heap_1 w.params).In h₀) (N : News h₀ L s.heap news) (T : Top tp.view_1 (looseW tp.view_1 [Str.ofString "fraction"]) mean mg mb h₀) (hk : cs.kind = .function)
  (hdp : dp + 60 < recursionLimit) (hun : un + 600 < cLine) {src : Addr} {s0 s1 : Int} {t0 t1 : Tok} {ep : Nat} {rest : List (Addr × Obj)} (pk : Pick src (srcO s0 s1 t0 t1 ep) news rest) (h0 : 0 ≤ s0) (h1 : 0 ≤ s1) (h2 : s1 < 2147483647)
  (hret : ∀ (R SPL LNL : Addr) (vs lsv : List Value) (ps : List (Int × Int)) (ls : List Int) (e1 e2 e3 : Nat) (i : Nat) (s0' s1' : Int) (t0' t1' : Tok) (ep' : Nat) (all : List (Addr × Obj)) (h' : Heap) (tk' : Nat), 1 ≤ i → i ≤ 4 → PInv i ps ls → 0 ≤ s0' → 0 ≤ s1' → s1' < 2147483647 → Fr h₀ L h' m → News h₀ L h' ((src, srcO s0' s1' t0' t1' ep') :: all) → (∀ p ∈ rest, p ∈ all) → (∀ p ∈ all, p.1 ≠ src) →
    (R, ({ cls := .type "list", data := .seq #[.ref SPL, .ref LNL] e1 } : Obj)) ∈ all → (SPL, ({ cls := .type "list", data := .seq vs.toArray e2 } : Obj)) ∈ all → (LNL, ({ cls := .type "list", data := .seq lsv.toArray e3 } : Obj)) ∈ all → SpIn all vs ps → IntsAre lsv ls → Q (.ref R) { s with heap := h', toks := tk' }) :
  wpAny (model PySem.Challenge.rw_nu0017_01.row.prog w) (ktrTop dp un gd cn cs L a ccd cl outer) (call (.ref 320) [.ref src]) Q E s := by
  have hoff := pk.facts.2.2.1
  replace N := pk.news N
  clear pk
  refine wpAny_call ?_
  (k_dflt (refine' code_def ?k1 ?k2 ?k3 ?k4 ?k5 ?kA ?kF ?kK ?k6 ?k7 ?k8 ?k9 ?kB ?_ ?c2 ?c3 ?c4 ?c5; (case kA => exact rfl); (case kF => exact rfl); (case kK => first | assumption | exact rfl); (case k1 => k_asm); (case k2 => k_asm); (case k3 => k_asm); (case k4 => k_asm); (case k5 => k_asm); (case k6 => k_is); (case k7 => k_is); (case k8 => ktr_room); (case k9 => first | exact BindsTo.of_eq rfl | exact binds_K (by k_in) rfl (by k_is) rfl rfl rfl); (case c5 => decide); (case kB => exact locs rfl); (case c2 => exact rfl); (case c3 => exact rfl); (case c4 => exact rfl); k_whole; intro g' L' h' FG' F' N' B' X' T'; (try dsimp only); (try k_lift B'); (try k_fold)))
  k_steps
  refine stop_out ?_
  rename_i DT xz1 lDT xz2 xz3 xz4 xz5 PT xz6 lPT SPL xa1 lSP LNL xa2 lLN dTL xa3 lTL xa4 xa5 xa6 xk1 w1 xb1 lw1 w2 xb2 lw2 w3 xb3 lw3 w4 xb4 lw4 w5 xb5 lw5 w6 xb6 lw6 w7 xb7 lw7 w8 xb8 lw8 w9 xb9 lw9 WL xc1 lWL xc2 dd ss rr tt9 uu9 vv9 ee9 hh9 tkk9 ha9 hb9 hc9 hf9 hg9 FF NN hr tkr tr1 tr2 tr3 R1 F2 R3 R4
  obtain ⟨led0, e0, N2, hWL, hw1, hw2, hw3, hw4, hw5, hw6, hw7, hw8, hw9, hPT⟩ := lp_split R3
  have hsub : ∀ p ∈ rest, p ∈ led0 := by (intro p hp; rw [e0]; simp [hp])
  have hne : ∀ p ∈ led0, p.1 ≠ src ∧ p.1 ≠ SPL ∧ p.1 ≠ LNL := by
    rw [e0]
    intro p hp
    simp only [List.mem_cons] at hp
    rcases hp with rfl | rfl | rfl | rfl | rfl | rfl | rfl | rfl | rfl | rfl | rfl | rfl | rfl | hp
    all_goals first | exact ⟨(by k_ne), (by k_ne), (by k_ne)⟩ | exact ⟨hoff p hp, allLt_ne (by (walk_at "last")) p hp, allLt_ne (by (walk_at "last")) p hp⟩
  have hs1 : src < SPL ∧ SPL < LNL ∧ src < LNL := ⟨ltN (by walk_at "ar"), ltN (by walk_at "ar"), ltN (by walk_at "ar")⟩
  have hS0 := lp_start hPT (by omega) (by omega)
  have hways : ∀ (k : Nat) (v : Value), [Value.ref w1, .ref w2, .ref w3, .ref w4, .ref w5, .ref w6, .ref w7, .ref w8, .ref w9][k]? = some v → WayOk led0 k v := by
    intro k v e
    match k, e with
    | 0, e => cases e; exact ⟨w1, 1, 0, 1, _, _, _, rfl, hw1, by decide, by decide, by decide, by decide, by decide, by decide⟩
    | 1, e => cases e; exact ⟨w2, 0, 1, 1, _, _, _, rfl, hw2, by decide, by decide, by decide, by decide, by decide, by decide⟩
    | 2, e => cases e; exact ⟨w3, (-1), 0, 1, _, _, _, rfl, hw3, by decide, by decide, by decide, by decide, by decide, by decide⟩
    | 3, e => cases e; exact ⟨w4, 0, (-1), 1, _, _, _, rfl, hw4, by decide, by decide, by decide, by decide, by decide, by decide⟩
    | 4, e => cases e; exact ⟨w5, 3, 4, 5, _, _, _, rfl, hw5, by decide, by decide, by decide, by decide, by decide, by decide⟩
    | 5, e => cases e; exact ⟨w6, (-4), 3, 5, _, _, _, rfl, hw6, by decide, by decide, by decide, by decide, by decide, by decide⟩
    | 6, e => cases e; exact ⟨w7, (-3), (-4), 5, _, _, _, rfl, hw7, by decide, by decide, by decide, by decide, by decide, by decide⟩
    | 7, e => cases e; exact ⟨w8, 12, (-5), 13, _, _, _, rfl, hw8, by decide, by decide, by decide, by decide, by decide, by decide⟩
    | 8, e => cases e; exact ⟨w9, 0, 0, 0, _, _, _, rfl, hw9, by decide, by decide, by decide, by decide, by decide, by decide⟩
    | k + 9, e => simp at e
  clear e0 lDT lPT lSP lLN lTL lw1 lw2 lw3 lw4 lw5 lw6 lw7 lw8 lw9 lWL R3 NN FF R4
  obtain ⟨hP0, hSp0⟩ := hS0
  obtain ⟨nn, hnn⟩ : ∃ nn : Nat, (nn : Int) = 1 + dd := ⟨(1 + dd).toNat, by omega⟩
  refine nu_rangeS (σ := LpSt) (n := nn) (fun c => (src, srcO c.s0 c.s1 c.t0 c.t1 c.ep) :: (SPL, ({ cls := .type "list", data := .seq c.vs.toArray c.e2 } : Obj)) :: (LNL, ({ cls := .type "list", data := .seq c.lv.toArray c.e3 } : Obj)) :: (c.ch ++ led0)) (fun _ => []) [Str.ofString "across", Str.ofString "down", Str.ofString "length", Str.ofString "k"]
    (fun i c => PInv i c.ps c.ls ∧ SpIn (c.ch ++ led0) c.vs c.ps ∧ IntsAre c.lv c.ls ∧ (0 ≤ c.s0 ∧ 0 ≤ c.s1 ∧ c.s1 < 2147483647) ∧ ∀ p ∈ c.ch, p.1 ≠ src ∧ p.1 ≠ SPL ∧ p.1 ≠ LNL) ⟨[], [Value.ref PT], [], _, [], _, _, _, _, _, 0, 0⟩ rfl R1 (small_one (by omega) (by omega) (by omega) (by omega)) (by rw [rangeSize_nat]; omega) F2 N2 (by kst_all) ⟨hP0, hSp0, .nil, ⟨hc9, hf9, hg9⟩, fun _ h => nomatch h⟩ ?turn ?done
  case turn =>
    clear F2 N2 R1 hP0 hSp0
    intro c i t u h tk I oI hin hoffI hp F' N'
    obtain ⟨ch, vs, lv, ps, ls, s0', s1', t0', t1', ep', e2, e3⟩ := c
    obtain ⟨p1, p2, p3, ⟨p4, p5, p6⟩, p7⟩ := hp
    dsimp only at p1 p2 p3 p4 p5 p6 p7 N' hoffI
    dsimp only [kstB] at F'
    have hI1 := neN (show src ≠ I from hoffI _ (.head _))
    have hI2 := neN (show SPL ≠ I from hoffI _ (.tail _ (.head _)))
    have hI3 := neN (show LNL ≠ I from hoffI _ (.tail _ (.tail _ (.head _))))
    have hI4 : ∀ p ∈ ch ++ led0, p.1 ≠ I := fun p hp => hoffI p (.tail _ (.tail _ (.tail _ hp)))
    have hne2 : ∀ p ∈ ch ++ led0, p.1 ≠ src ∧ p.1 ≠ SPL ∧ p.1 ≠ LNL := fun p hp => (List.mem_append.mp hp).elim (p7 p) (hne p)
    have hn1 : ∀ p ∈ ch ++ led0, p.1 ≠ src := fun p hp => (hne2 p hp).1
    have hn2 : ∀ p ∈ ch ++ led0, p.1 ≠ SPL := fun p hp => (hne2 p hp).2.1
    have hn3 : ∀ p ∈ ch ++ led0, p.1 ≠ LNL := fun p hp => (hne2 p hp).2.2
    have hs2 := neN (show src ≠ SPL from Nat.ne_of_lt hs1.1)
    have hs3 := neN (show SPL ≠ LNL from Nat.ne_of_lt hs1.2.1)
    have hs4 := neN (show src ≠ LNL from Nat.ne_of_lt hs1.2.2)
    have hWL' := List.mem_append_right ch hWL
    have hways' := fun (k : Nat) (v : Value) e => (hways k v e).mono (fun p hp => List.mem_append_right ch hp)
    have hpl : i < ps.length := by have := p1.1; omega
    obtain ⟨al, tl1, tl2, hal, hal2⟩ := p2.2 i ps[i] (by simp [hpl])
    have hgd : ps.getD i (0, 0) = ps[i] := by simp [hpl]
    have hlast : vs.getLast? = some (.ref al) := by
      rw [List.getLast?_eq_getElem?, p2.1, p1.1, Nat.add_sub_cancel]; exact hal
    have hbl := p1.2.2.2.2 ps[i] (List.getElem_mem hpl)
    have hvl : vs.length < 20 := by rw [p2.1, p1.1]; omega
    have hll : lv.length < 20 := by rw [p3.length, p1.2.1]; omega
    generalize ps[i] = lastp at *
    obtain ⟨lx, ly⟩ := lastp
    dsimp only at hal2 hbl
    have hi4 : i < 4 := by omega
    k_steps
    refine stop_out ?_
    refine merge_way (i := i) (by k_asm) (by k_asm) ?_ ?_
    · with_reducible refine IfExp_ ?_
      k_steps
      · rename 0 < ((i : Nat) : Int) => hi9
        exact ⟨WL, _, _, ch, _, _, rfl, rfl, by assumption, by assumption, fun _ h => h, fun p hp => ⟨hI4 p (List.mem_append_left _ hp), p7 p hp⟩, hWL', ⟨Nat.zero_lt_succ _, Nat.le_of_ble_eq_true rfl⟩, fun k v e => ⟨hways' k v e, fun z => absurd z (by omega)⟩⟩
      · rename ¬ (0 < ((i : Nat) : Int)) => hi9
        rename News _ _ _ _ => N9
        exact ⟨_, _, _, (_, _) :: ch, _, _, rfl, rfl, by assumption, way_more N9, fun _ h => .tail _ h, fun p hp => by
          rcases List.mem_cons.mp hp with rfl | hp
          · exact ⟨(by k_ne), (by k_ne), (by k_ne), (by k_ne)⟩
          · exact ⟨hI4 p (List.mem_append_left _ hp), p7 p hp⟩, .head _, ⟨Nat.zero_lt_succ _, Nat.le_of_ble_eq_true rfl⟩, fun k v e => ⟨(hways' k v (lp_eight (a9 := .ref w9) e).2).mono (fun _ h => .tail _ h), fun _ => (lp_eight (a9 := .ref w9) e).1⟩⟩
    clear hWL' hways' p7 hne2 hn1 hn2 hn3 N' F'
    intro WX its nx ch' hA tkA hup p7' hWX hlen hway FA NA
    have hup' : ∀ p ∈ ch ++ led0, p ∈ ch' ++ led0 := fun p hp => (List.mem_append.mp hp).elim (fun h => List.mem_append_left _ (hup p h)) (fun h => List.mem_append_right _ h)
    replace p2 := p2.mono hup'
    replace hal2 := hup' _ hal2
    have p7 : ∀ p ∈ ch', p.1 ≠ src ∧ p.1 ≠ SPL ∧ p.1 ≠ LNL := fun p hp => (p7' p hp).2
    replace hI4 : ∀ p ∈ ch' ++ led0, p.1 ≠ I := fun p hp => (List.mem_append.mp hp).elim (fun h => (p7' p h).1) (fun h => hI4 p (List.mem_append_right _ h))
    have hne2 : ∀ p ∈ ch' ++ led0, p.1 ≠ src ∧ p.1 ≠ SPL ∧ p.1 ≠ LNL := fun p hp => (List.mem_append.mp hp).elim (p7 p) (hne p)
    have hn1 : ∀ p ∈ ch' ++ led0, p.1 ≠ src := fun p hp => (hne2 p hp).1
    have hn2 : ∀ p ∈ ch' ++ led0, p.1 ≠ SPL := fun p hp => (hne2 p hp).2.1
    have hn3 : ∀ p ∈ ch' ++ led0, p.1 ≠ LNL := fun p hp => (hne2 p hp).2.2
    clear hup hup' p7'
    dsimp only
    k_steps
    rename _[_]? = some _ => e9
    obtain ⟨⟨a9, dx, dy, l, u1, u2, u3, rfl, hm9, q1, q2, q3, q4, q5, q6⟩, q8⟩ := hway _ _ e9
    have q7 : i = 0 → 0 < l := fun e => q6 (q8 e)
    k_steps
    refine stop_out ?_
    rename News _ _ _ _ => N1
    rename Fr _ _ _ _ => F1
    exact lp_turn1 F1 N1 (by k_mem) (by k_mem) (by k_mem) (by k_mem) (by k_mem) (by intro p hp; simp only [List.mem_cons]; simp [hp]) p1 p2 p3 (by assumption) (by assumption) (by assumption) p7 hI1 hI2 hI3 hI4 (by k_ne) (by k_ne) (by k_ne) (by k_ne) hgd q1 q2 q3 q7 (by omega) (by omega) q4 q5 (by kst_same)
  case done =>
    clear F2 N2 R1 hP0 hSp0
    intro c u h tk hp F' N'
    obtain ⟨ch, vs, lv, ps, ls, s0', s1', t0', t1', ep', e2, e3⟩ := c
    obtain ⟨p1, p2, p3, ⟨p4, p5, p6⟩, p7⟩ := hp
    dsimp only at p1 p2 p3 p4 p5 p6 p7 N'
    dsimp only [kstB] at F'
    k_steps
    rename News _ _ _ _ => N1
    have hR : ∀ p ∈ ch ++ led0, p.1 ≠ src := fun p hp => (List.mem_append.mp hp).elim (fun h => (p7 p h).1) (fun h => (hne p h).1)
    rename _ < _ ∧ _ < _ ∧ _ < _ ∧ AllLt _ _ => lR
    obtain ⟨all, M1, M2, M3, M4, M5, M6⟩ := lp_done N1 (by k_ne) (Ne.symm (Nat.ne_of_lt hs1.1)) (Ne.symm (Nat.ne_of_lt hs1.2.2)) hR
    exact hret _ SPL LNL vs lv ps ls _ e2 e3 nn s0' s1' _ _ _ all _ _ (by omega) (by omega) p1 p4 p5 p6 (by assumption) M1 (fun p hp => M2 p (List.mem_append_right _ (hsub p hp))) M3 M4 M5 M6 (p2.mono M2) p3

end
def CInv (c : Bool) (ps : List (Int × Int)) (ls : List Int) : Prop :=
  ls.length + 1 = (ring ps c).length ∧ 2 ≤ ps.length ∧ ls.length ≤ 6 ∧ 0 < ls.getD 0 0 ∧ (∀ j, j < ls.length → let S := sideOf (ring ps c) ls j; S.wx * S.wx + S.wy * S.wy = S.len * S.len ∧ 0 ≤ S.len ∧ S.len ≤ 600) ∧ ∀ p ∈ ps, p.1.natAbs ≤ 298 ∧ p.2.natAbs ≤ 298
theorem CInv.open' {i : Nat} {ps : List (Int × Int)} {ls : List Int} (h : PInv i ps ls) (h1 : 1 ≤ i) (h4 : i ≤ 4) : CInv false ps ls := by
  obtain ⟨a1, a2, a3, a4, a5⟩ := h
  refine ⟨?_, by omega, by omega, a3 (by omega), fun j hj => ?_, fun p hp => ?_⟩
  · show ls.length + 1 = ps.length; omega
  · obtain ⟨b1, b2, b3⟩ := a4 j (by omega)
    exact ⟨b1, b2, Int.le_trans b3 (by decide)⟩
  · have := a5 p hp; omega
theorem CInv.close {i : Nat} {ps : List (Int × Int)} {ls : List Int} (h : PInv i ps ls) (h1 : 1 ≤ i) (h4 : i ≤ 4) {x y tx ty a b : Int} (hf : ps.getD 0 (0, 0) = (x, y)) (hl : ps.getD i (0, 0) = (tx, ty)) (ha : 0 ≤ a ∧ (a = x - tx ∨ a = tx - x)) (hb : 0 ≤ b ∧ (b = y - ty ∨ b = ty - y)) :
    CInv true (ps ++ [(x, ty)]) (ls ++ [a, b]) := by
  obtain ⟨a1, a2, a3, a4, a5⟩ := h
  have hring : ring (ps ++ [(x, ty)]) true = ps ++ [(x, ty), (x, y)] := by
    show (ps ++ [(x, ty)]) ++ (ps ++ [(x, ty)]).take 1 = _
    obtain ⟨p, r, rfl⟩ : ∃ p r, ps = p :: r := by
      cases ps with
      | nil => simp at a1
      | cons p r => exact ⟨p, r, rfl⟩
    simp at hf
    subst hf
    simp
  have mem : ∀ j, j < ps.length → ps.getD j (0, 0) ∈ ps := fun j hj => by
    have : ps.getD j (0, 0) = ps[j] := by simp [hj]
    rw [this]; exact List.getElem_mem hj
  have m0 := a5 _ (mem 0 (by omega))
  have mi := a5 _ (mem i (by omega))
  rw [hf] at m0
  rw [hl] at mi
  dsimp only at m0 mi
  refine ⟨by rw [hring]; simp [a1, a2], by simp; omega, by simp; omega, ?_, fun j hj => ?_, fun p hp => ?_⟩
  · rw [getD_appL _ _ _ (by omega)]; exact a3 (by omega)
  · rw [hring]
    rw [List.length_append] at hj
    simp only [List.length_cons, List.length_nil] at hj
    rcases Nat.lt_or_ge j i with hji | hji
    · have e : sideOf (ps ++ [(x, ty), (x, y)]) (ls ++ [a, b]) j = sideOf ps ls j := by
        unfold sideOf
        rw [getD_appL _ _ _ (by omega), getD_appL _ _ _ (by omega), getD_appL _ _ _ (by omega), List.take_append_of_le_length (by omega)]
      rw [e]
      obtain ⟨b1, b2, b3⟩ := a4 j hji
      exact ⟨b1, b2, Int.le_trans b3 (by decide)⟩
    · have sq : ∀ z u : Int, (z = u ∨ z = -u) → u * u = z * z := by
        intro z u h
        rcases h with h | h
        · rw [h]
        · rw [h]; grind
      rcases Nat.lt_or_ge j (i + 1) with hj2 | hj2
      · have hj3 : j = i := by omega
        subst hj3
        have e1 : (ps ++ [(x, ty), (x, y)]).getD j (0, 0) = (tx, ty) := by rw [getD_appL _ _ _ (by omega)]; exact hl
        have e2 : (ps ++ [(x, ty), (x, y)]).getD (j + 1) (0, 0) = (x, ty) := by rw [getD_appR _ _ _ (by omega), a1, Nat.sub_self]; rfl
        have e3 : (ls ++ [a, b]).getD j 0 = a := by rw [getD_appR _ _ _ (by omega), a2, Nat.sub_self]; rfl
        unfold sideOf
        rw [e1, e2, e3]
        dsimp only
        refine ⟨?_, ha.1, by omega⟩
        rw [Int.sub_self, Int.mul_zero, Int.add_zero]
        exact sq a (x - tx) (by omega)
      · have hj3 : j = i + 1 := by omega
        subst hj3
        have e1 : (ps ++ [(x, ty), (x, y)]).getD (i + 1) (0, 0) = (x, ty) := by rw [getD_appR _ _ _ (by omega), a1, Nat.sub_self]; rfl
        have e2 : (ps ++ [(x, ty), (x, y)]).getD (i + 1 + 1) (0, 0) = (x, y) := by rw [getD_appR _ _ _ (by omega), a1, show i + 1 + 1 - (i + 1) = 1 by omega]; rfl
        have e3 : (ls ++ [a, b]).getD (i + 1) 0 = b := by rw [getD_appR _ _ _ (by omega), a2, show i + 1 - i = 1 by omega]; rfl
        unfold sideOf
        rw [e1, e2, e3]
        dsimp only
        refine ⟨?_, hb.1, by omega⟩
        rw [Int.sub_self, Int.mul_zero, Int.zero_add]
        exact sq b (y - ty) (by omega)
  · rcases List.mem_append.mp hp with hp | hp
    · have := a5 p hp; omega
    · rw [List.mem_singleton.mp hp]; dsimp only; omega
theorem intsAre_app {vs us : List Value} {ns ms : List Int} (h : IntsAre vs ns) (g : IntsAre us ms) : IntsAre (vs ++ us) (ns ++ ms) := by
  induction h with
  | nil => exact g
  | cons n t _ ih => exact .cons _ _ ih
theorem cl1 {h₀ h : Heap} {L R src : Addr} {oR os : Obj} {tl : List (Addr × Obj)} (N : News h₀ L h ((R, oR) :: (src, os) :: tl)) (h1 : R ≠ src) (h4 : ∀ p ∈ tl, p.1 ≠ src) :
    ∃ all, News h₀ L h ((src, os) :: all) ∧ (∀ p ∈ tl, p ∈ all) ∧ (∀ p ∈ all, p.1 ≠ src) ∧ (R, oR) ∈ all := by
  refine ⟨(R, oR) :: tl, fun p hp => N p ?_, fun p hp => .tail _ hp, fun p hp => ?_, .head _⟩
  · simp only [List.mem_cons] at hp ⊢
    rcases hp with h | h | h <;> simp [h]
  · simp only [List.mem_cons] at hp
    rcases hp with rfl | h
    · exact h1
    · exact h4 p h
theorem cl2 {h₀ h : Heap} {L R D1 D2 x3 x4 x5 x6 src : Addr} {oR o1 o2 o3 o4 o5 o6 os : Obj} {tl : List (Addr × Obj)} (N : News h₀ L h ((R, oR) :: (D1, o1) :: (D2, o2) :: (x3, o3) :: (x4, o4) :: (x5, o5) :: (x6, o6) :: (src, os) :: tl)) (h1 : R ≠ src) (h2 : D1 ≠ src) (h3 : D2 ≠ src) (h5 : x5 ≠ src) (h4 : ∀ p ∈ tl, p.1 ≠ src) :
    ∃ all, News h₀ L h ((src, os) :: all) ∧ (∀ p ∈ tl, p ∈ all) ∧ (∀ p ∈ all, p.1 ≠ src) ∧ (R, oR) ∈ all ∧ (D1, o1) ∈ all ∧ (D2, o2) ∈ all ∧ (x5, o5) ∈ all := by
  refine ⟨(R, oR) :: (D1, o1) :: (D2, o2) :: (x5, o5) :: tl, fun p hp => N p ?_, fun p hp => .tail _ (.tail _ (.tail _ (.tail _ hp))), fun p hp => ?_, .head _, .tail _ (.head _), .tail _ (.tail _ (.head _)), .tail _ (.tail _ (.tail _ (.head _)))⟩
  · simp only [List.mem_cons] at hp ⊢
    rcases hp with h | h | h | h | h | h <;> simp [h]
  · simp only [List.mem_cons] at hp
    rcases hp with rfl | rfl | rfl | rfl | h
    · exact h1
    · exact h2
    · exact h3
    · exact h5
    · exact h4 p h
theorem SpIn.one {news : List (Addr × Obj)} {a : Addr} {x y : Int} {t1 t2 : Tok} (h : (a, po x y t1 t2) ∈ news) : SpIn news [Value.ref a] [(x, y)] :=
  ⟨rfl, fun i p e => by
    cases i with
    | zero => cases e; exact ⟨a, _, _, rfl, h⟩
    | succ i => simp at e⟩
theorem max_abs (a b : Int) : 0 ≤ (if b - a > a - b then b - a else a - b) ∧ ((if b - a > a - b then b - a else a - b) = a - b ∨ (if b - a > a - b then b - a else a - b) = b - a) := by
  split <;> omega
theorem t_closed {w : World} {mean : ExcName → Option Value} {mg mb : Str → Option Value} {dp un : Nat} {gd : Option (List Code)} {cn : Str} {cs : Scope} {a : Addr} {ccd : Value} {cl : List (Str × Addr)} {outer : List Env} {A₀ : Around} {base h₀ : Heap} {L : Addr} {m : Str → Option Value} {s : Shared} {Q E : Value → Shared → Prop} {news : List (Addr × Obj)} (B : Below A₀ base outer h₀) (F : Fr h₀ L s.heap m) (X : (tp.heap_1 w.params).In h₀) (N : News h₀ L s.heap news) (T : Top tp.view_1 (looseW tp.view_1 [Str.ofString "fraction"]) mean mg mb h₀) (hk : cs.kind = .function)
  (hdp : dp + 60 < recursionLimit) (hun : un + 600 < cLine) {src SPL LNL : Addr} {s0 s1 : Int} {t0 t1 : Tok} {ep e2 e3 : Nat} {rest : List (Addr × Obj)} {vs lv : List Value} {ps : List (Int × Int)} {ls : List Int} {i : Nat} (pk : Pick src (srcO s0 s1 t0 t1 ep) news rest) (h0 : 0 ≤ s0) (h1 : 0 ≤ s1) (h2 : s1 < 2147483647)
  (hS : (SPL, ({ cls := .type "list", data := .seq vs.toArray e2 } : Obj)) ∈ rest) (hLn : (LNL, ({ cls := .type "list", data := .seq lv.toArray e3 } : Obj)) ∈ rest) (hSp : SpIn rest vs ps) (hLs : IntsAre lv ls) (hP : PInv i ps ls) (hi1 : 1 ≤ i) (hi4 : i ≤ 4)
  (hret : ∀ (R SP' LN' : Addr) (c : Bool) (vs' lv' : List Value) (ps' : List (Int × Int)) (ls' : List Int) (e1 e2 e3 : Nat) (s0' s1' : Int) (t0' t1' : Tok) (ep' : Nat) (all : List (Addr × Obj)) (h' : Heap) (tk' : Nat), CInv c ps' ls' → 0 ≤ s0' → 0 ≤ s1' → s1' < 2147483647 → Fr h₀ L h' m → News h₀ L h' ((src, srcO s0' s1' t0' t1' ep') :: all) → (∀ p ∈ rest, p ∈ all) → (∀ p ∈ all, p.1 ≠ src) →
    (R, ({ cls := .type "list", data := .seq #[.ref SP', .bool c, .ref LN'] e1 } : Obj)) ∈ all → (SP', ({ cls := .type "list", data := .seq vs'.toArray e2 } : Obj)) ∈ all → (LN', ({ cls := .type "list", data := .seq lv'.toArray e3 } : Obj)) ∈ all → SpIn all vs' ps' → IntsAre lv' ls' → Q (.ref R) { s with heap := h', toks := tk' }) :
  wpAny (model PySem.Challenge.rw_nu0017_01.row.prog w) (ktrTop dp un gd cn cs L a ccd cl outer) (call (.ref 327) [.ref src, .ref SPL, .ref LNL]) Q E s := by
  have hoff := pk.facts.2.2.1
  replace N := pk.news N
  clear pk
  obtain ⟨a0, u1, u2, hv0, hm0⟩ := hSp.2 0 (ps.getD 0 (0, 0)) (by have := hP.1; simp [show 0 < ps.length by omega])
  obtain ⟨al, u3, u4, hvl, hml⟩ := hSp.2 i (ps.getD i (0, 0)) (by have := hP.1; simp [show i < ps.length by omega])
  have hlast : vs.getLast? = some (.ref al) := by
    rw [List.getLast?_eq_getElem?, hSp.1, hP.1, Nat.add_sub_cancel]; exact hvl
  have hv0' : vs[(0 : Int).toNat]? = some (Value.ref a0) := hv0
  obtain ⟨x, y, hxy⟩ : ∃ x y, ps.getD 0 (0, 0) = (x, y) := ⟨_, _, rfl⟩
  obtain ⟨tx, ty, htxy⟩ : ∃ x y, ps.getD i (0, 0) = (x, y) := ⟨_, _, rfl⟩
  rw [hxy] at hm0
  rw [htxy] at hml
  dsimp only at hm0 hml
  have hvn : vs.length < 20 := by rw [hSp.1, hP.1]; omega
  have hln : lv.length < 20 := by rw [hLs.length, hP.2.1]; omega
  have hLs3 := fun (_ : Unit) => hLs
  have hLs2 := fun {us ms} => @intsAre_app lv us ls ms hLs
  refine wpAny_call ?_
  (k_dflt (refine' code_def ?k1 ?k2 ?k3 ?k4 ?k5 ?kA ?kF ?kK ?k6 ?k7 ?k8 ?k9 ?kB ?_ ?c2 ?c3 ?c4 ?c5; (case kA => exact rfl); (case kF => exact rfl); (case kK => first | assumption | exact rfl); (case k1 => k_asm); (case k2 => k_asm); (case k3 => k_asm); (case k4 => k_asm); (case k5 => k_asm); (case k6 => k_is); (case k7 => k_is); (case k8 => ktr_room); (case k9 => first | exact BindsTo.of_eq rfl | exact binds_K (by k_in) rfl (by k_is) rfl rfl rfl); (case c5 => decide); (case kB => exact locs rfl); (case c2 => exact rfl); (case c3 => exact rfl); (case c4 => exact rfl); k_whole; intro g' L' h' FG' F' N' B' X' T'; (try dsimp only); (try k_lift B'); (try k_fold)))
  k_steps
  · rename News _ _ _ _ => N1
    obtain ⟨all, M1, M2, M3, M4⟩ := cl1 N1 (by k_ne) hoff
    refine hret _ SPL LNL false vs lv ps ls _ e2 e3 _ _ _ _ _ all _ _ (CInv.open' hP hi1 hi4) ?_ ?_ ?_ (by assumption) M1 M2 M3 M4 (M2 _ hS) (M2 _ hLn) (hSp.mono M2) (hLs3 ()) <;> assumption
  · rename News _ _ _ _ => N1
    obtain ⟨all, M1, M2, M3, M4, M5, M6, M7⟩ := cl2 N1 (by k_ne) (by k_ne) (by k_ne) (by k_ne) hoff
    refine hret _ _ _ true _ _ _ _ _ _ _ _ _ _ _ _ all _ _ (CInv.close hP hi1 hi4 hxy htxy (max_abs x tx) (max_abs y ty)) ?_ ?_ ?_ (by assumption) M1 M2 M3 M4 M6 M5 ((hSp.mono M2).append (SpIn.one M7)) (hLs2 (.cons _ _ (.cons _ _ .nil))) <;> assumption
section
variable {prog : Program} {w : World} {A : Around} {s : Shared} {h₀ : Heap} {L : Addr} {m : Str → Option Value} {env : Env}
theorem CompEnd_mono {s₁ : Shared} {I C D : Addr} {oI oC oD : Obj} {S : List (Addr × Obj) → Prop} {r r' : Value → List (Addr × Obj) → Prop} {y : Value} {s₂ : Shared} (h : LCg.CompEnd h₀ L m s₁ I oI C oC D oD S r y s₂) (hr : ∀ y n, r y n → r' y n) : LCg.CompEnd h₀ L m s₁ I oI C oC D oD S r' y s₂ := by
  obtain ⟨h', tk, n, e, F, N, o, hS, hR⟩ := h
  exact ⟨h', tk, n, e, F, N, o, hS, hr _ _ hR⟩
theorem RestT_ind {ct elt : Expr} {x : Str} {scope : Scope} {cl : List (Str × Addr)} {S : List (Addr × Obj) → Prop} {P : Nat → Value → Prop} {Fin : List Value → List (Addr × Obj) → Prop} {n : Nat} {news : List (Addr × Obj)} (J : Nat → List Value → Prop)
    (turn : ∀ i ys, i < n → J i ys → ∀ v I oI C oC D m₂ h tk (E' : Value → Shared → Prop), P i v → LCg.NsObj oC m₂ → m₂ x = some v → Fr h₀ L h m → News h₀ L h ((I, oI) :: (C, oC) :: (D, LCg.lst ys) :: news) → LCg.Off3 I C D news → ((@Ne Nat I C) ∧ (@Ne Nat I D) ∧ (@Ne Nat C D)) →
      wpAny (model prog w) A (isTrue ct (compEnvC scope cl C env) (eval ct (compEnvC scope cl C env))) (fun ok s' => if ok = true then
        wpAny (model prog w) A (eval elt (compEnvC scope cl C env)) (LCg.CompEnd h₀ L m { s with heap := h, toks := tk } I oI C oC D (LCg.lst ys) S (fun y news' => news' = news ∧ J (i + 1) (ys ++ [y]))) E' s'
        else LCg.CompEnd h₀ L m { s with heap := h, toks := tk } I oI C oC D (LCg.lst ys) S (fun _ news' => news' = news ∧ J (i + 1) ys) Value.none s') E' { s with heap := h, toks := tk })
    (done : ∀ ys, J n ys → Fin ys news) : ∀ k i ys, i + k = n → J i ys → LCt.CompRestT prog w A h₀ L m env ct elt x scope cl s S P Fin k i ys news
  | 0, i, ys, e, hj => LCt.CompRestT.zero (done ys (by rw [← e]; exact hj))
  | k + 1, i, ys, e, hj => LCt.CompRestT.succ fun v I oI C oC D m₂ h tk E' a1 a2 a3 a4 a5 a6 a7 =>
      wpAny_mono (turn i ys (by omega) hj v I oI C oC D m₂ h tk E' a1 a2 a3 a4 a5 a6 a7) (fun ok s' hs => by
        cases ok with
        | true =>
          simp only [if_true] at hs ⊢
          exact wpAny_mono hs (fun y s₂ hc => CompEnd_mono hc fun y nw ⟨e1, e2⟩ => by rw [e1]; exact RestT_ind J turn done k (i + 1) _ (by omega) e2) fun _ _ e => e
        | false =>
          simp only [Bool.false_eq_true, if_false] at hs ⊢
          exact CompEnd_mono hs fun y nw ⟨e1, e2⟩ => by rw [e1]; exact RestT_ind J turn done k (i + 1) _ (by omega) e2) fun _ _ e => e
theorem Rest_ind {elt : Expr} {x : Str} {scope : Scope} {cl : List (Str × Addr)} {S : List (Addr × Obj) → Prop} {P : Nat → Value → Prop} {Fin : List Value → List (Addr × Obj) → Prop} {n : Nat} {news : List (Addr × Obj)} (J : Nat → List Value → Prop)
    (turn : ∀ i ys, i < n → J i ys → ∀ v I oI C oC D m₂ h tk (E' : Value → Shared → Prop), P i v → LCg.NsObj oC m₂ → m₂ x = some v → Fr h₀ L h m → News h₀ L h ((I, oI) :: (C, oC) :: (D, LCg.lst ys) :: news) → LCg.Off3 I C D news → ((@Ne Nat I C) ∧ (@Ne Nat I D) ∧ (@Ne Nat C D)) →
      wpAny (model prog w) A (eval elt (compEnvC scope cl C env)) (LCg.CompEnd h₀ L m { s with heap := h, toks := tk } I oI C oC D (LCg.lst ys) S (fun y news' => news' = news ∧ J (i + 1) (ys ++ [y]))) E' { s with heap := h, toks := tk })
    (done : ∀ ys, J n ys → Fin ys news) : ∀ k i ys, i + k = n → J i ys → LCg.CompRest prog w A h₀ L m env elt x scope cl s S P Fin k i ys news
  | 0, i, ys, e, hj => LCg.CompRest.zero (done ys (by rw [← e]; exact hj))
  | k + 1, i, ys, e, hj => LCg.CompRest.succ fun v I oI C oC D m₂ h tk E' a1 a2 a3 a4 a5 a6 a7 =>
      wpAny_mono (turn i ys (by omega) hj v I oI C oC D m₂ h tk E' a1 a2 a3 a4 a5 a6 a7) (fun y s' hs =>
        CompEnd_mono hs fun y nw ⟨e1, e2⟩ => by rw [e1]; exact Rest_ind J turn done k (i + 1) _ (by omega) e2) fun _ _ e => e
end
theorem CInv.psides {c : Bool} {ps : List (Int × Int)} {ls : List Int} (h : CInv c ps ls) : ps.length < 50 ∧ (∀ i, i < ls.length → let S := sideOf (ring ps c) ls i; S.wx * S.wx + S.wy * S.wy = S.len * S.len ∧ 0 ≤ S.len ∧ S.len < 2 ^ 11) ∧ (∀ p ∈ ps, p.1.natAbs < 2 ^ 10 ∧ p.2.natAbs < 2 ^ 10) ∧ (∀ x ∈ ls, 0 ≤ x ∧ x < 2 ^ 11) := by
  obtain ⟨a1, a2, a3, a4, a5, a6⟩ := h
  refine ⟨?_, fun i hi => ?_, fun p hp => ?_, fun x hx => ?_⟩
  · have : ps.length ≤ (ring ps c).length := by cases c <;> simp [ring]
    omega
  · obtain ⟨b1, b2, b3⟩ := a5 i hi
    exact ⟨b1, b2, by omega⟩
  · have := a6 p hp; omega
  · obtain ⟨i, hi, e⟩ := List.getElem_of_mem hx
    obtain ⟨b1, b2, b3⟩ := a5 i hi
    have e2 : (sideOf (ring ps c) ls i).len = x := by show ls.getD i 0 = x; simp [hi, e]
    rw [e2] at b2 b3
    omega
theorem CInv.sides_ne {c : Bool} {ps : List (Int × Int)} {ls : List Int} (h : CInv c ps ls) : sidesUp (ring ps c) ls ls.length ≠ [] := by
  obtain ⟨a1, a2, a3, a4, a5, a6⟩ := h
  have h0 : 0 < ls.length := by
    rcases Nat.eq_zero_or_pos ls.length with e | e
    · rw [List.length_eq_zero_iff.mp e] at a4; simp at a4
    · exact e
  intro e
  have := List.map_eq_nil_iff.mp e
  have hm : 0 ∈ (List.range ls.length).filter fun j => decide (0 < ls.getD j 0) := List.mem_filter.mpr ⟨List.mem_range.mpr h0, decide_eq_true a4⟩
  rw [this] at hm; cases hm
theorem CInv.len_pos {c : Bool} {ps : List (Int × Int)} {ls : List Int} (h : CInv c ps ls) : 0 < ls.length := by
  obtain ⟨a1, a2, a3, a4, a5, a6⟩ := h
  rcases Nat.eq_zero_or_pos ls.length with e | e
  · rw [List.length_eq_zero_iff.mp e] at a4; simp at a4
  · exact e
def wholeOf (ls : List Int) (i : Nat) : List Nat := (List.range i).filter fun j => decide (0 < ls.getD j 0)
theorem wholeOf_succ (ls : List Int) (i : Nat) : wholeOf ls (i + 1) = if 0 < ls.getD i 0 then wholeOf ls i ++ [i] else wholeOf ls i := by
  unfold wholeOf
  rw [List.range_succ, List.filter_append, List.filter_cons, List.filter_nil]
  by_cases h : 0 < ls.getD i 0
  · rw [if_pos h, if_pos (decide_eq_true h)]
  · rw [if_neg h, if_neg (by rw [decide_eq_true_eq]; exact h), List.append_nil]
theorem nu_sum {prog : Program} {w : World} {A : Around} {E : Value → Shared → Prop} {s : Shared} {h₀ : Heap} {L : Addr} {m : Str → Option Value} {news : List (Addr × Obj)} {l : Addr} {vs : List Value} {ns : List Int} {n : Nat} {Q : Value → Shared → Prop} (hh : A.handled = none) (F : Fr h₀ L s.heap m) (N : News h₀ L s.heap news) (hm : (l, ({ cls := .type "list", data := .seq vs.toArray n } : Obj)) ∈ news) (hi : IntsAre vs ns)
    (h : ∀ h' tk t', Fr h₀ L h' m → News h₀ L h' news → Q (.int ns.sum t') { s with heap := h', toks := tk }) : wpAny (model prog w) A (call (.builtin "sum") [.ref l]) Q E s :=
  LSm.sum_ints F N hh ⟨_, (N _ hm).1, rfl, _, rfl⟩ hi h
theorem sum_bound : ∀ (ls : List Int), (∀ x ∈ ls, 0 ≤ x ∧ x < 2 ^ 11) → 0 ≤ ls.sum ∧ ls.sum ≤ 2048 * ls.length
  | [], _ => by simp
  | x :: r, h => by
    have h1 := h x (.head _)
    have h2 := sum_bound r fun y hy => h y (.tail _ hy)
    rw [List.sum_cons, List.length_cons]
    omega
theorem take_sum_succ (ls : List Int) (n : Nat) : (ls.take (n + 1)).sum = (ls.take n).sum + ls.getD n 0 := by
  rw [List.take_succ, List.sum_append]
  congr 1
  cases h : ls[n]? with
  | none => simp [h]
  | some x => simp [h]
theorem sidesUpW_succ (qs : List (Int × Int)) (ls : List Int) (n : Nat) : sidesUp qs ls (n + 1) = if 0 < ls.getD n 0 then sidesUp qs ls n ++ [sideOf qs ls n] else sidesUp qs ls n := by
  show (wholeOf ls (n + 1)).map _ = _
  rw [wholeOf_succ]
  by_cases h : 0 < ls.getD n 0
  · rw [if_pos h, if_pos h, List.map_append]; rfl
  · rw [if_neg h, if_neg h]; rfl
theorem sidesUp_last (qs : List (Int × Int)) (ls : List Int) (h0 : ∀ x ∈ ls, 0 ≤ x) : ∀ n, sidesUp qs ls n ≠ [] → ∃ S, (sidesUp qs ls n).getLast? = some S ∧ S.beg + S.len = (ls.take n).sum
  | 0, h => absurd rfl h
  | n + 1, h => by
    rw [sidesUpW_succ] at h ⊢
    by_cases hp : 0 < ls.getD n 0
    · rw [if_pos hp]
      exact ⟨sideOf qs ls n, List.getLast?_concat, (take_sum_succ ls n).symm⟩
    · rw [if_neg hp] at h ⊢
      obtain ⟨S, e, hs⟩ := sidesUp_last qs ls h0 n h
      refine ⟨S, e, ?_⟩
      rw [hs, take_sum_succ]
      have : ls.getD n 0 = 0 := by
        rcases Nat.lt_or_ge n ls.length with hl | hl
        · have := h0 (ls.getD n 0) (by simp [hl])
          omega
        · simp [hl]
      omega
theorem holds_iff (S : Sd) (d : Int) : S.holds (Rat.divInt d 4) ↔ S.beg * 4 ≤ d ∧ d ≤ (S.beg + S.len) * 4 := by
  unfold Sd.holds
  have e : Rat.divInt d 4 = (d : Rat) / 4 := Rat.divInt_eq_div d 4
  have l1 : ∀ b : Int, ((b : Int) : Rat) ≤ (d : Rat) / 4 ↔ b * 4 ≤ d := fun b => by
    rw [← Rat.intCast_le_intCast, Rat.intCast_mul]
    have : ((4 : Int) : Rat) = 4 := rfl
    rw [this]
    constructor <;> intro h <;> grind
  have l2 : ∀ b : Int, (d : Rat) / 4 ≤ ((b : Int) : Rat) ↔ d ≤ b * 4 := fun b => by
    rw [← Rat.intCast_le_intCast, Rat.intCast_mul]
    have : ((4 : Int) : Rat) = 4 := rfl
    rw [this]
    constructor <;> intro h <;> grind
  rw [e, l1, l2]
theorem due_spec (qs : List (Int × Int)) (ls : List Int) (d : Int) (q : Rat) (hq : q = Rat.divInt d 4) : ∀ m k, k + m = ls.length → (∀ j, j < k → 0 < ls.getD j 0 → ¬ (sideOf qs ls j).holds q) →
    match due (ls.drop k) (ls.take k).sum k d with
    | none => ∀ j, j < ls.length → 0 < ls.getD j 0 → ¬ (sideOf qs ls j).holds q
    | some (k', r) => k' < ls.length ∧ 0 < ls.getD k' 0 ∧ r = d - (ls.take k').sum * 4 ∧ (sideOf qs ls k').holds q ∧ ∀ j, j < k' → 0 < ls.getD j 0 → ¬ (sideOf qs ls j).holds q
  | 0, k, e, h => by
    rw [show ls.drop k = [] from List.drop_eq_nil_of_le (by omega), due_nil]
    intro j hj
    exact h j (by omega)
  | m + 1, k, e, h => by
    have hk : k < ls.length := by omega
    rw [List.drop_eq_getElem_cons hk, due_cons]
    have hg : ls.getD k 0 = ls[k] := by simp [hk]
    have hi : (sideOf qs ls k).holds q ↔ (ls.take k).sum * 4 ≤ d ∧ d ≤ ((ls.take k).sum + ls[k]) * 4 := by
      rw [hq, holds_iff]; unfold sideOf; rw [hg]
    by_cases hc : 0 < ls[k] ∧ (ls.take k).sum * 4 ≤ d ∧ d ≤ ((ls.take k).sum + ls[k]) * 4
    · rw [if_pos hc]
      exact ⟨hk, by rw [hg]; exact hc.1, rfl, hi.mpr hc.2, h⟩
    · rw [if_neg hc]
      have := due_spec qs ls d q hq m (k + 1) (by omega) (fun j hj hp => by
        rcases Nat.lt_or_ge j k with h1 | h1
        · exact h j h1 hp
        · have : j = k := by omega
          subst this
          intro hh
          exact hc ⟨by rw [← hg]; exact hp, hi.mp hh⟩)
      rw [take_sum_succ, hg] at this
      exact this
theorem side_mem {qs : List (Int × Int)} {ls : List Int} {i : Nat} {S : Sd} (h : (sidesUp qs ls ls.length)[i]? = some S) : ∃ k, (wholeOf ls ls.length)[i]? = some k ∧ k < ls.length ∧ 0 < ls.getD k 0 ∧ S = sideOf qs ls k := by
  unfold sidesUp at h
  rw [List.getElem?_map] at h
  obtain ⟨k, e, rfl⟩ := Option.map_eq_some_iff.mp h
  have hm := List.mem_filter.mp (List.mem_of_getElem? e)
  exact ⟨k, e, List.mem_range.mp hm.1, of_decide_eq_true hm.2, rfl⟩
theorem side_bounds {qs : List (Int × Int)} {ls : List Int} (h : ∀ x ∈ ls, 0 ≤ x ∧ x < 2 ^ 11) (hn : ls.length ≤ 6) {i : Nat} {S : Sd} (e : (sidesUp qs ls ls.length)[i]? = some S) : 0 < S.len ∧ S.len < 2 ^ 11 ∧ 0 ≤ S.beg ∧ S.beg < 2 ^ 14 := by
  obtain ⟨k, -, h1, h2, rfl⟩ := side_mem e
  have a := h (ls.getD k 0) (by simp [h1])
  have b := sum_bound (ls.take k) (fun x hx => h x (List.mem_of_mem_take hx))
  have c : (ls.take k).length ≤ ls.length := by rw [List.length_take]; exact Nat.min_le_right _ _
  refine ⟨h2, a.2, ?_, ?_⟩ <;> (show _ ; unfold sideOf; dsimp only; omega)
theorem side_none {qs : List (Int × Int)} {ls : List Int} {d : Int} (h : due ls 0 0 d = none) {j : Nat} {S : Sd} (e : (sidesUp qs ls ls.length)[j]? = some S) : ¬ S.holds (Rat.divInt d 4) := by
  have := due_spec qs ls d _ rfl ls.length 0 (Nat.zero_add _) (fun j hj => absurd hj (Nat.not_lt_zero _))
  rw [show ls.drop 0 = ls from rfl, show (ls.take 0).sum = 0 from rfl, h] at this
  obtain ⟨k, -, h1, h2, rfl⟩ := side_mem e
  exact this k h1 h2
theorem side_some {qs : List (Int × Int)} {ls : List Int} {d r : Int} {k : Nat} (h : due ls 0 0 d = some (k, r)) :
    k < ls.length ∧ 0 < ls.getD k 0 ∧ r = d - (ls.take k).sum * 4 ∧ 0 ≤ r ∧ r ≤ ls.getD k 0 * 4 ∧ (¬ ∀ (j : Nat) (S : Sd), (sidesUp qs ls ls.length)[j]? = some S → ¬ S.holds (Rat.divInt d 4)) ∧
    ∀ (i : Nat) (S : Sd), (sidesUp qs ls ls.length)[i]? = some S → S.holds (Rat.divInt d 4) → (∀ (j : Nat) (S' : Sd), j < i → (sidesUp qs ls ls.length)[j]? = some S' → ¬ S'.holds (Rat.divInt d 4)) → S = sideOf qs ls k := by
  have := due_spec qs ls d _ rfl ls.length 0 (Nat.zero_add _) (fun j hj => absurd hj (Nat.not_lt_zero _))
  rw [show ls.drop 0 = ls from rfl, show (ls.take 0).sum = 0 from rfl, h] at this
  obtain ⟨h1, h2, h3, h4, h5⟩ := this
  have h4' := (holds_iff _ _).mp h4
  have hkm : k ∈ wholeOf ls ls.length := List.mem_filter.mpr ⟨List.mem_range.mpr h1, decide_eq_true h2⟩
  obtain ⟨i', hi', ei'⟩ := List.getElem_of_mem hkm
  have es : (sidesUp qs ls ls.length)[i']? = some (sideOf qs ls k) := by
    show ((wholeOf ls ls.length).map _)[i']? = _
    rw [List.getElem?_map, List.getElem?_eq_getElem hi', ei']; rfl
  refine ⟨h1, h2, h3, ?_, ?_, fun hn => hn i' _ es h4, fun i S e hS hf => ?_⟩
  · have : (sideOf qs ls k).beg = (ls.take k).sum := rfl
    omega
  · have e1 : (sideOf qs ls k).beg = (ls.take k).sum := rfl
    have e2 : (sideOf qs ls k).len = ls.getD k 0 := rfl
    omega
  · obtain ⟨k2, ek2, g1, g2, rfl⟩ := side_mem e
    rcases Nat.lt_trichotomy k2 k with hl | he | hg
    · exact absurd hS (h5 k2 hl g2)
    · rw [he]
    · exfalso
      have hpw : List.Pairwise (· < ·) (wholeOf ls ls.length) := List.Pairwise.filter _ List.pairwise_lt_range
      have hi : i < (wholeOf ls ls.length).length := (List.getElem?_eq_some_iff.mp ek2).1
      have ei : (wholeOf ls ls.length)[i] = k2 := (List.getElem?_eq_some_iff.mp ek2).2
      rcases Nat.lt_trichotomy i' i with q | q | q
      · exact hf i' _ q es h4
      · subst q; omega
      · have := List.pairwise_iff_getElem.mp hpw i i' hi hi' q
        omega
theorem point_eq {ox wx len beg part r : Int} (hl : 0 < len) (hr : r = part - beg * 4) : (ox : Rat) + (Rat.divInt part 4 - (beg : Rat)) / (len : Rat) * (wx : Rat) = Rat.divInt (ox * len * 4 + wx * r) (len * 4) := by
  rw [Rat.divInt_eq_div, Rat.divInt_eq_div, hr]
  have h0 : ((len : Int) : Rat) ≠ 0 := by
    intro h
    have : len = 0 := Rat.intCast_inj.mp (by rw [h]; rfl)
    omega
  have h4 : ((4 : Int) : Rat) = 4 := rfl
  simp only [Rat.intCast_add, Rat.intCast_mul, Rat.intCast_sub, h4]
  grind
theorem ring_at {c : Bool} {ps : List (Int × Int)} {n k : Nat} (h2 : 2 ≤ ps.length) (hn : n + 1 = (ring ps c).length) (hk : k < n) :
    k < ps.length ∧ (ring ps c).getD k (0, 0) = ps.getD k (0, 0) ∧ (ring ps c).getD (k + 1) (0, 0) = ps.getD ((k + 1) % ps.length) (0, 0) := by
  cases c with
  | false =>
    have : n + 1 = ps.length := hn
    refine ⟨by omega, rfl, ?_⟩
    rw [Nat.mod_eq_of_lt (by omega)]; rfl
  | true =>
    have hl : n = ps.length := by
      have : n + 1 = (ps ++ ps.take 1).length := hn
      rw [List.length_append, List.length_take] at this
      omega
    refine ⟨by omega, getD_appL _ _ _ (by omega), ?_⟩
    rcases Nat.lt_or_ge (k + 1) ps.length with h | h
    · rw [Nat.mod_eq_of_lt h]; exact getD_appL _ _ _ h
    · have e : k + 1 = ps.length := by omega
      rw [e, Nat.mod_self]
      show (ps ++ ps.take 1).getD ps.length (0, 0) = _
      rw [getD_appR _ _ _ (Nat.le_refl _), Nat.sub_self]
      cases ps with
      | nil => simp at h2
      | cons p r => rfl
theorem fmod_at (k n : Nat) : (Int.fmod ((k : Int) + 1) (n : Int)).toNat = (k + 1) % n := by
  rw [Int.fmod_eq_emod_of_nonneg _ (Int.natCast_nonneg n)]
  have : ((k : Int) + 1) % (n : Int) = (((k + 1) % n : Nat) : Int) := by rw [Int.natCast_emod]; rfl
  rw [this]; rfl
theorem CInv.nth {c : Bool} {ps : List (Int × Int)} {ls : List Int} (h : CInv c ps ls) {k : Nat} (hk : k < ls.length) :
    k < ps.length ∧ (k + 1) % ps.length < ps.length ∧ sideOf (ring ps c) ls k = ⟨(ps.getD k (0, 0)).1, (ps.getD k (0, 0)).2, (ps.getD ((k + 1) % ps.length) (0, 0)).1 - (ps.getD k (0, 0)).1, (ps.getD ((k + 1) % ps.length) (0, 0)).2 - (ps.getD k (0, 0)).2, ls.getD k 0, (ls.take k).sum⟩ := by
  obtain ⟨b1, b2, b3⟩ := ring_at h.2.1 h.1 hk
  refine ⟨b1, Nat.mod_lt _ (by omega), ?_⟩
  unfold sideOf
  rw [b2, b3]
theorem t_sideat0 {w : World} {mean : ExcName → Option Value} {mg mb : Str → Option Value} {dp un : Nat} {gd : Option (List Code)} {cn : Str} {cs : Scope} {a : Addr} {ccd : Value} {cl : List (Str × Addr)} {outer : List Env} {A₀ : Around} {base h₀ : Heap} {L : Addr} {m : Str → Option Value} {s : Shared} {Q E : Value → Shared → Prop} {news : List (Addr × Obj)} (B : Below A₀ base outer h₀) (F : Fr h₀ L s.heap m) (X : (tp.heap_1 w.params).In h₀) (N : News h₀ L s.heap news) (T : Top tp.view_1 (looseW tp.view_1 [Str.ofString "fraction"]) mean mg mb h₀) (hk : cs.kind = .function)
  (hdp : dp + 40 < recursionLimit) (hun : un + 400 < cLine) {SL D : Addr} {vs : List Value} {Ss : List Sd} {ep : Nat} {q : Rat} {a1 a2 : Tok}
  (hS : (SL, ({ cls := .type "list", data := .seq vs.toArray ep } : Obj)) ∈ news) (hD : (D, fo q a1 a2) ∈ news) (hq : Bd 30 q) (hSs : SdsIn w.params news vs Ss)
  (hb : ∀ S ∈ Ss, Bd 30 ((S.beg : Int) : Rat) ∧ Bd 30 ((S.beg + S.len : Int) : Rat)) (hno : ∀ (j : Nat) (S : Sd), Ss[j]? = some S → ¬ S.holds q)
  (hret : ∀ (h' : Heap) (tk' : Nat), Fr h₀ L h' m → News h₀ L h' news → Q .none { s with heap := h', toks := tk' }) :
  wpAny (model PySem.Challenge.rw_nu0017_01.row.prog w) (ktrTop dp un gd cn cs L a ccd cl outer) (call (.ref 257) [.ref SL, .ref D]) Q E s :=
  t_sideat B F X N T hk hdp hun hS hD hq hSs hb (fun _ => hret) (fun i S _ e _ _ hh _ => absurd hh (hno i S e))
theorem t_sideat1 {w : World} {mean : ExcName → Option Value} {mg mb : Str → Option Value} {dp un : Nat} {gd : Option (List Code)} {cn : Str} {cs : Scope} {a : Addr} {ccd : Value} {cl : List (Str × Addr)} {outer : List Env} {A₀ : Around} {base h₀ : Heap} {L : Addr} {m : Str → Option Value} {s : Shared} {Q E : Value → Shared → Prop} {news : List (Addr × Obj)} (B : Below A₀ base outer h₀) (F : Fr h₀ L s.heap m) (X : (tp.heap_1 w.params).In h₀) (N : News h₀ L s.heap news) (T : Top tp.view_1 (looseW tp.view_1 [Str.ofString "fraction"]) mean mg mb h₀) (hk : cs.kind = .function)
  (hdp : dp + 40 < recursionLimit) (hun : un + 400 < cLine) {SL D : Addr} {vs : List Value} {Ss : List Sd} {ep : Nat} {q : Rat} {a1 a2 : Tok} {S0 : Sd} {rest : List (Addr × Obj)}
  (hS : (SL, ({ cls := .type "list", data := .seq vs.toArray ep } : Obj)) ∈ news) (hD : (D, fo q a1 a2) ∈ news) (hq : Bd 30 q) (hSs : SdsIn w.params rest vs Ss) (hsub : ∀ p ∈ rest, p ∈ news)
  (hb : ∀ S ∈ Ss, Bd 30 ((S.beg : Int) : Rat) ∧ Bd 30 ((S.beg + S.len : Int) : Rat)) (hne : ¬ ∀ (j : Nat) (S : Sd), Ss[j]? = some S → ¬ S.holds q)
  (huq : ∀ (i : Nat) (S : Sd), Ss[i]? = some S → S.holds q → (∀ (j : Nat) (S' : Sd), j < i → Ss[j]? = some S' → ¬ S'.holds q) → S = S0)
  (hret : ∀ (x : Addr), SdIn w.params rest x S0 → ∀ (h' : Heap) (tk' : Nat), Fr h₀ L h' m → News h₀ L h' news → Q (.ref x) { s with heap := h', toks := tk' }) :
  wpAny (model PySem.Challenge.rw_nu0017_01.row.prog w) (ktrTop dp un gd cn cs L a ccd cl outer) (call (.ref 257) [.ref SL, .ref D]) Q E s :=
  t_sideat B F X N T hk hdp hun hS hD hq (hSs.mono hsub) hb (fun h => absurd h hne) (fun i S x e hv _ hh hf h' tk' F N => by
    obtain ⟨x', h1, h2⟩ := hSs.2 i S e
    rw [hv] at h1
    cases h1
    exact hret x (huq i S e hh hf ▸ h2) h' tk' F N)
theorem t_due0 {w : World} {mean : ExcName → Option Value} {mg mb : Str → Option Value} {dp un : Nat} {gd : Option (List Code)} {cn : Str} {cs : Scope} {a : Addr} {ccd : Value} {cl : List (Str × Addr)} {outer : List Env} {A₀ : Around} {base h₀ : Heap} {L : Addr} {m : Str → Option Value} {s : Shared} {Q E : Value → Shared → Prop} {news : List (Addr × Obj)} (B : Below A₀ base outer h₀) (F : Fr h₀ L s.heap m) (X : (tp.heap_1 w.params).In h₀) (N : News h₀ L s.heap news) (T : Top tp.view_1 (looseW tp.view_1 [Str.ofString "fraction"]) mean mg mb h₀) (hk : cs.kind = .function)
  (hdp : dp + 20 < recursionLimit) (hun : un + 200 < cLine) {LL : Addr} {vs : List Value} {ls : List Int} {ep : Nat} {d : Int} {td tp : Tok}
  (hL : (LL, ({ cls := .type "list", data := .seq vs.toArray ep } : Obj)) ∈ news) (hi : IntsAre vs ls) (hn : ls.length < 100)
  (hb : ∀ x ∈ ls, 0 ≤ x ∧ x < 2 ^ 11) (he : due ls 0 0 d = none)
  (hret : ∀ (h' : Heap) (tk' : Nat), Fr h₀ L h' m → News h₀ L h' news → Q .none { s with heap := h', toks := tk' }) :
  wpAny (model PySem.Challenge.rw_nu0017_01.row.prog w) (ktrTop dp un gd cn cs L a ccd cl outer) (call (.ref 334) [.ref LL, .int d td, .int 4 tp]) Q E s :=
  t_due B F X N T hk hdp hun hL hi hn hb (fun _ => hret) (fun k r e => by rw [he] at e; cases e)
theorem t_due1 {w : World} {mean : ExcName → Option Value} {mg mb : Str → Option Value} {dp un : Nat} {gd : Option (List Code)} {cn : Str} {cs : Scope} {a : Addr} {ccd : Value} {cl : List (Str × Addr)} {outer : List Env} {A₀ : Around} {base h₀ : Heap} {L : Addr} {m : Str → Option Value} {s : Shared} {Q E : Value → Shared → Prop} {news : List (Addr × Obj)} (B : Below A₀ base outer h₀) (F : Fr h₀ L s.heap m) (X : (tp.heap_1 w.params).In h₀) (N : News h₀ L s.heap news) (T : Top tp.view_1 (looseW tp.view_1 [Str.ofString "fraction"]) mean mg mb h₀) (hk : cs.kind = .function)
  (hdp : dp + 20 < recursionLimit) (hun : un + 200 < cLine) {LL : Addr} {vs : List Value} {ls : List Int} {ep : Nat} {d : Int} {td tp : Tok} {k : Nat} {r : Int}
  (hL : (LL, ({ cls := .type "list", data := .seq vs.toArray ep } : Obj)) ∈ news) (hi : IntsAre vs ls) (hn : ls.length < 100)
  (hb : ∀ x ∈ ls, 0 ≤ x ∧ x < 2 ^ 11) (he : due ls 0 0 d = some (k, r))
  (hret : ∀ (D : Addr) (t1 t2 : Tok) (h' : Heap) (tk' : Nat), Fr h₀ L h' m → News h₀ L h' ((D, ({ cls := .type "list", data := .seq #[.int (k : Int) t1, .int r t2] } : Obj)) :: news) → AllLt D news → Q (.ref D) { s with heap := h', toks := tk' }) :
  wpAny (model PySem.Challenge.rw_nu0017_01.row.prog w) (ktrTop dp un gd cn cs L a ccd cl outer) (call (.ref 334) [.ref LL, .int d td, .int 4 tp]) Q E s :=
  t_due B F X N T hk hdp hun hL hi hn hb (fun e => by rw [he] at e; cases e) (fun k' r' e => by rw [he] at e; cases e; exact hret)
abbrev LedP (ca : Addr) (o : Obj) (src : Addr) (r : List (Addr × Obj)) (c : Int × Int × Tok × Tok × Nat) : List (Addr × Obj) := (ca, o) :: (src, srcO c.1 c.2.1 c.2.2.1 c.2.2.2.1 c.2.2.2.2) :: r
theorem lp_end {h₀ : Heap} {L ca src I : Addr} {o oI : Obj} {rst all : List (Addr × Obj)} {s₁ : Shared} {h' : Heap} {tk : Nat} {m' m₀ : Str → Option Value} {a b : Int} {t0 t1 : Tok} {e i : Nat} {x : Str} {stored : List Str}
    (F : Fr h₀ L h' m') (N : News h₀ L h' all) (hI : (I, oI) ∈ all) (hca : (ca, o) ∈ all) (hsrc : (src, srcO a b t0 t1 e) ∈ all) (hr : ∀ p ∈ rst, p ∈ all) (n1 : @Ne Nat ca I) (n2 : @Ne Nat src I) (n3 : ∀ p ∈ rst, p.1 ≠ I) (g0 : 0 ≤ a) (g1 : 0 ≤ b) (g2 : b < 2147483647)
    (hs : ∀ z, z ≠ x → (∀ p ∈ ([] : List (Str × Value)), z ≠ p.1) → stored.contains z = false → m' z = m₀ z) :
    NuEnd h₀ L (NuS (LedP ca o src rst) (fun _ => []) x stored m₀ (fun _ c => 0 ≤ c.1 ∧ 0 ≤ c.2.1 ∧ c.2.1 < 2147483647) i) I oI s₁ { s₁ with heap := h', toks := tk } := by
  refine NuEnd.intro (LedP ca o src rst (a, b, t0, t1, e)) F N hI (fun p hp => ?_) (fun p hp => ?_) ⟨(a, b, t0, t1, e), rfl, by kst_all, hs, g0, g1, g2⟩
  · rcases List.mem_cons.mp hp with h | hp
    · rw [h]; exact hca
    rcases List.mem_cons.mp hp with h | hp
    · rw [h]; exact hsrc
    · exact hr p hp
  · rcases List.mem_cons.mp hp with h | hp
    · rw [h]; exact n1
    rcases List.mem_cons.mp hp with h | hp
    · rw [h]; exact n2
    · exact n3 p hp
theorem CInv.lens {c : Bool} {ps : List (Int × Int)} {ls : List Int} (h : CInv c ps ls) : ∀ x ∈ ls, 0 ≤ x ∧ x ≤ 600 := fun x hx => by
  obtain ⟨j, hj, e⟩ := List.getElem_of_mem hx
  have := (h.2.2.2.2.1 j hj).2
  have e2 : (sideOf (ring ps c) ls j).len = x := by
    show ls.getD j 0 = x
    rw [← e]; simp [hj]
  rw [e2] at this
  exact this
theorem sum_bound6 : ∀ (ls : List Int), (∀ x ∈ ls, 0 ≤ x ∧ x ≤ 600) → 0 ≤ ls.sum ∧ ls.sum ≤ 600 * ls.length
  | [], _ => by simp
  | x :: r, h => by
    have h1 := h x (.head _)
    have h2 := sum_bound6 r fun y hy => h y (.tail _ hy)
    rw [List.sum_cons, List.length_cons]
    omega
theorem CInv.turn {c : Bool} {ps : List (Int × Int)} {ls : List Int} (h : CInv c ps ls) {k : Nat} (hk : k < ls.length) (hl : 0 < ls.getD k 0) :
    ∃ ox oy px py L : Int, sideOf (ring ps c) ls k = ⟨ox, oy, px - ox, py - oy, L, (ls.take k).sum⟩ ∧ ls.getD k 0 = L ∧ ps[k]? = some (ox, oy) ∧ ps[(k + 1) % ps.length]? = some (px, py) ∧ 0 < L ∧ L ≤ 600 ∧ 0 ≤ (ls.take k).sum ∧ (ls.take k).sum ≤ 3000 ∧
      ox.natAbs ≤ 298 ∧ oy.natAbs ≤ 298 ∧ px.natAbs ≤ 298 ∧ py.natAbs ≤ 298 := by
  obtain ⟨a1, a2, a3⟩ := h.nth hk
  obtain ⟨b1, b2⟩ := h.lens (ls.getD k 0) (by simp [hk])
  have hp := h.2.2.2.2.2
  have g1 : ps[k]? = some (ps.getD k (0, 0)) := by simp [a1]
  have g2 : ps[(k + 1) % ps.length]? = some (ps.getD ((k + 1) % ps.length) (0, 0)) := by simp [a2]
  have p1 := hp _ (List.mem_of_getElem? g1)
  have p2 := hp _ (List.mem_of_getElem? g2)
  have s1 := sum_bound6 (ls.take k) (fun x hx => h.lens x (List.mem_of_mem_take hx))
  rw [List.length_take, Nat.min_eq_left (Nat.le_of_lt hk)] at s1
  have h6 := h.2.2.1
  exact ⟨_, _, _, _, _, a3, rfl, g1, g2, hl, b2, s1.1, by omega, p1.1, p1.2, p2.1, p2.2⟩
theorem t_point1 {w : World} {mean : ExcName → Option Value} {mg mb : Str → Option Value} {dp un : Nat} {gd : Option (List Code)} {cn : Str} {cs : Scope} {a : Addr} {ccd : Value} {cl : List (Str × Addr)} {outer : List Env} {A₀ : Around} {base h₀ : Heap} {L : Addr} {m : Str → Option Value} {s : Shared} {Q E : Value → Shared → Prop} {news : List (Addr × Obj)} (B : Below A₀ base outer h₀) (F : Fr h₀ L s.heap m) (X : (tp.heap_1 w.params).In h₀) (N : News h₀ L s.heap news) (T : Top tp.view_1 (looseW tp.view_1 [Str.ofString "fraction"]) mean mg mb h₀) (hk : cs.kind = .function)
  (hdp : dp + 30 < recursionLimit) (hun : un + 240 < cLine) {x dx one wy D : Addr} {len beg ox oy px py pv rr : Int} {k1 k2 k3 k4 tl tb a1 a2 o1 o2 w1 w2 : Tok} (hx : (x, instObj 232 dx) ∈ news) (hd : (dx, sdO w.params one wy len beg k1 k2 k3 k4 tl tb) ∈ news)
  (hone : (one, po ox oy o1 o2) ∈ news) (hway : (wy, po (px - ox) (py - oy) w1 w2) ∈ news)
  (hD : (D, fo (Rat.divInt pv 4) a1 a2) ∈ news) (hr : rr = pv - beg * 4) (h0 : 0 ≤ rr ∧ rr ≤ len * 4) (hb : 0 ≤ beg ∧ beg ≤ 3000) (hlen : 0 < len ∧ len ≤ 600) (b1 : ox.natAbs ≤ 298) (b2 : oy.natAbs ≤ 298) (b3 : px.natAbs ≤ 298) (b4 : py.natAbs ≤ 298)
  (hret : ∀ (R D1 D2 : Addr) (rx ry : Rat) (t1 t2 t3 t4 : Tok) (h' : Heap) (tk' : Nat), rx = Rat.divInt (ox * len * 4 + (px - ox) * rr) (len * 4) → ry = Rat.divInt (oy * len * 4 + (py - oy) * rr) (len * 4) → Bd 60 rx → Bd 60 ry → Fr h₀ L h' m → News h₀ L h' ((R, pr D1 D2) :: (D2, fo ry t3 t4) :: (D1, fo rx t1 t2) :: news) → D1 < D2 → D2 < R → AllLt D1 news → AllLt D2 news → AllLt R news → Q (.ref R) { s with heap := h', toks := tk' }) :
  wpAny (model PySem.Challenge.rw_nu0017_01.row.prog w) (ktrTop dp un gd cn cs L a ccd cl outer) (call (.ref 222) [.ref x, .ref D]) Q E s := by
  have hlq : 0 < ((len : Int) : Rat) := by
    have : ((0 : Int) : Rat) < ((len : Int) : Rat) := Rat.intCast_lt_intCast.mpr hlen.1
    exact this
  have bd : ∀ z u : Int, z.natAbs ≤ 298 → u.natAbs ≤ 298 → Bd 60 (Rat.divInt (z * len * 4 + (u - z) * rr) (len * 4)) := fun z u hz hu => by
    have q1 : (z * len).natAbs < 2 ^ 20 := by rw [Int.natAbs_mul]; exact bd_aux (j := 10) (k := 10) (by omega) (by omega)
    have q2 : ((u - z) * rr).natAbs < 2 ^ 22 := by rw [Int.natAbs_mul]; exact bd_aux (j := 10) (k := 12) (by omega) (by omega)
    exact Bd_divInt (by omega) (by omega) (by omega)
  refine t_point_at B F X N T hk hdp hun hx hd hone hway hD (Bd_divInt (by omega) (by omega) (by omega)) (Bd_int (by omega) (by decide)) (Bd_int (by omega) (by decide)) hlq (Bd_int (by omega) (by decide)) (Bd_int (by omega) (by decide)) (Bd_int (by omega) (by decide)) (Bd_int (by omega) (by decide)) ?_
  intro R D1 D2 t1 t2 t3 t4 h' tk' F' N' l1 l2 l3 l4 l5
  rw [point_eq (ox := ox) hlen.1 hr, point_eq (ox := oy) hlen.1 hr] at N'
  exact hret R D1 D2 _ _ t1 t2 t3 t4 h' tk' rfl rfl (bd _ _ b1 b3) (bd _ _ b2 b4) F' N' l1 l2 l3 l4 l5
theorem t_turn1 {w : World} {mean : ExcName → Option Value} {mg mb : Str → Option Value} {dp un : Nat} {gd : Option (List Code)} {cn : Str} {cs : Scope} {a : Addr} {ccd : Value} {cl : List (Str × Addr)} {outer : List Env} {A₀ : Around} {base h₀ : Heap} {L : Addr} {m : Str → Option Value} {s : Shared} {Q E : Value → Shared → Prop} {news : List (Addr × Obj)} (B : Below A₀ base outer h₀) (F : Fr h₀ L s.heap m) (X : (tp.heap_1 w.params).In h₀) (N : News h₀ L s.heap news) (T : Top tp.view_1 (looseW tp.view_1 [Str.ofString "fraction"]) mean mg mb h₀) (hk : cs.kind = .function)
  (hdp : dp + 30 < recursionLimit) (hun : un + 240 < cLine) {x dx one wy : Addr} {len beg wx wy' : Int} {k1 k2 k3 k4 tl tb w1 w2 : Tok} (hx : (x, instObj 232 dx) ∈ news) (hd : (dx, sdO w.params one wy len beg k1 k2 k3 k4 tl tb) ∈ news)
  (hway : (wy, po wx wy' w1 w2) ∈ news) (hl : 0 < len ∧ len ≤ 600) (b1 : wx.natAbs ≤ 600) (b2 : wy'.natAbs ≤ 600)
  (hret : ∀ (R D1 D2 : Addr) (co si : Rat) (t1 t2 t3 t4 : Tok) (h' : Heap) (tk' : Nat), Bd 11 co → Bd 11 si → Fr h₀ L h' m → News h₀ L h' ((R, pr D1 D2) :: (D2, fo si t3 t4) :: (D1, fo co t1 t2) :: news) → D1 < D2 → D2 < R → AllLt D1 news → AllLt D2 news → AllLt R news → Q (.ref R) { s with heap := h', toks := tk' }) :
  wpAny (model PySem.Challenge.rw_nu0017_01.row.prog w) (ktrTop dp un gd cn cs L a ccd cl outer) (call (.ref 229) [.ref x]) Q E s :=
  t_turn B F X N T hk hdp hun hx hd hway hl.1 (by omega) (fun R D1 D2 t1 t2 t3 t4 h' tk' => hret R D1 D2 _ _ t1 t2 t3 t4 h' tk' (Bd_divInt (by omega) hl.1 (by omega)) (Bd_divInt (by omega) hl.1 (by omega)))
theorem adv_at {t1 t2 t3 : Tok} {k : Nat} {v : Value} (e : [Value.int 5 t1, .int 600 t2, .int 0 t3][k]? = some v) : ∃ adv t, v = .int adv t ∧ Bd 10 (Rat.divInt adv 2) := by
  match k, e with
  | 0, e => cases e; exact ⟨_, _, rfl, Bd_divInt (by decide) (by decide) (by decide)⟩
  | 1, e => cases e; exact ⟨_, _, rfl, Bd_divInt (by decide) (by decide) (by decide)⟩
  | 2, e => cases e; exact ⟨_, _, rfl, Bd_divInt (by decide) (by decide) (by decide)⟩
  | k + 3, e => simp at e
theorem grain_at {t1 t2 t3 : Tok} {k : Nat} {v : Value} (e : [Value.int 1 t1, .int 16 t2, .int 64 t3][k]? = some v) : ∃ g t, v = .int g t ∧ 0 < g ∧ g ≤ 64 := by
  match k, e with
  | 0, e => cases e; exact ⟨_, _, rfl, by decide, by decide⟩
  | 1, e => cases e; exact ⟨_, _, rfl, by decide, by decide⟩
  | 2, e => cases e; exact ⟨_, _, rfl, by decide, by decide⟩
  | k + 3, e => simp at e
theorem letter_eq {q r : Rat} {b a g : Int} : (q + r * (((b : Int) : Rat) + Rat.divInt a 2)) * ((g : Int) : Rat) = ((g : Int) : Rat) * (q + r * Rat.divInt (2 * b + a) 2) := by
  rw [Rat.divInt_eq_div, Rat.divInt_eq_div]
  have h2 : ((2 : Int) : Rat) = 2 := rfl
  simp only [Rat.intCast_add, Rat.intCast_mul, h2]
  grind
abbrev ltO (P : Params) (gl adv beg : Int) (k1 k2 k3 tg ta tb : Tok) : Obj :=
  dictOf [⟨PyData.keyHash P (Str.ofString "glyph"), .str (Str.ofString "glyph") k1, .int gl tg⟩, ⟨PyData.keyHash P (Str.ofString "advance"), .str (Str.ofString "advance") k2, .int adv ta⟩, ⟨PyData.keyHash P (Str.ofString "begin"), .str (Str.ofString "begin") k3, .int beg tb⟩] 3
theorem t_letter {w : World} {mean : ExcName → Option Value} {mg mb : Str → Option Value} {dp un : Nat} {gd : Option (List Code)} {cn : Str} {cs : Scope} {a : Addr} {ccd : Value} {cl : List (Str × Addr)} {outer : List Env} {A₀ : Around} {base h₀ : Heap} {L : Addr} {m : Str → Option Value} {s : Shared} {Q E : Value → Shared → Prop} {news : List (Addr × Obj)} (B : Below A₀ base outer h₀) (F : Fr h₀ L s.heap m) (X : (tp.heap_1 w.params).In h₀) (N : News h₀ L s.heap news) (T : Top tp.view_1 (looseW tp.view_1 [Str.ofString "fraction"]) mean mg mb h₀) (hk : cs.kind = .function)
  (hdp : dp + 10 < recursionLimit) (hun : un + 80 < cLine) {gl adv beg : Int} {tg ta tb : Tok}
  (hret : ∀ (x dx : Addr) (k1 k2 k3 : Tok) (h' : Heap) (tk' : Nat), Fr h₀ L h' m → News h₀ L h' ((x, instObj 288 dx) :: (dx, ltO w.params gl adv beg k1 k2 k3 tg ta tb) :: news) → AllLt x news → AllLt dx news → dx < x → Q (.ref x) { s with heap := h', toks := tk' }) :
  wpAny (model PySem.Challenge.rw_nu0017_01.row.prog w) (ktrTop dp un gd cn cs L a ccd cl outer) (call (.ref 288) [.int gl tg, .int adv ta, .int beg tb]) Q E s := by
  k_dflt (refine' call_cls ?k1 ?k2 ?k3 ?k4 ?k5 ?k6 ?_; (case k1 => k_asm); (case k2 => k_asm); (case k3 => k_asm); (case k4 => k_is); (case k5 => k_is); (case k6 => k_is); k_whole)
  intro x' d' h' F' N' l1 l2
  replace l1 := allLt_of l1
  replace l2 := ltN l2
  (k_dflt (refine' code_def ?k1 ?k2 ?k3 ?k4 ?k5 ?kA ?kF ?kK ?k6 ?k7 ?k8 ?k9 ?kB ?_ ?c2 ?c3 ?c4 ?c5; (case kA => exact rfl); (case kF => exact rfl); (case kK => first | assumption | exact rfl); (case k1 => k_asm); (case k2 => k_asm); (case k3 => k_asm); (case k4 => k_asm); (case k5 => k_asm); (case k6 => k_is); (case k7 => k_is); (case k8 => ktr_room); (case k9 => first | exact BindsTo.of_eq rfl | exact binds_K (by k_in) rfl (by k_is) rfl rfl rfl); (case c5 => decide); (case kB => exact locs rfl); (case c2 => exact rfl); (case c3 => exact rfl); (case c4 => exact rfl); k_whole; intro g' L' h' FG' F' N' B' X' T'; (try dsimp only); (try k_lift B'); (try k_fold)))
  k_steps
  refine hret _ _ _ _ _ _ _ (by assumption) (by assumption) (allLt_mono l1 (Nat.le_of_lt l2)) l1 l2
local macro_rules | `(tactic| walk_at "padNuX0") => `(tactic| skip)
local macro_rules | `(tactic| walk_at "padNuX1") => `(tactic| skip)
local macro_rules | `(tactic| walk_at "call ref") => `(tactic| (o_head (299, t_pool (by assumption) (by assumption) (by walk_at "ar")); walk_at "nuL"))
theorem stop_ref {w : World} {A : Around} {n : Addr} {as : List Value} {Q E : Value → Shared → Prop} {s : Shared} (h : List.elem n [320, 327, 243, 250, 257, 334, 339, 344, 271, 222, 229, 288] = true) (g : Stop (wpAny (model PySem.Challenge.rw_nu0017_01.row.prog w) A (call (.ref n) as) Q E s)) : wpAny (model PySem.Challenge.rw_nu0017_01.row.prog w) A (call (.ref n) as) Q E s := g
local macro_rules | `(tactic| walk_at "call ref") => `(tactic| (k_here; with_reducible refine stop_ref (by decide) ?_))
theorem cell_out {h₀ h : Heap} {L src c : Addr} {os w : Obj} {all : List (Addr × Obj)} (N : News h₀ L h ((src, os) :: all)) (hc : (c, w) ∈ all) (hoff : ∀ p ∈ all, p.1 ≠ src) :
    ∃ rst, News h₀ L h ((c, w) :: (src, os) :: rst) ∧ (∀ p ∈ all, p.2 ≠ w → p ∈ rst) ∧ (∀ p ∈ rst, p.1 ≠ c) ∧ (∀ p ∈ rst, p.1 ≠ src) ∧ c ≠ src := by
  refine ⟨all.filter fun p => decide (p.1 ≠ c), fun p hp => N p ?_, fun p hp hw => ?_, fun p hp => ?_, fun p hp => hoff p (List.mem_filter.mp hp).1, hoff _ hc⟩
  · simp only [List.mem_cons] at hp ⊢
    rcases hp with h | h | h
    · rw [h]; exact .inr hc
    · exact .inl h
    · exact .inr (List.mem_filter.mp h).1
  · refine List.mem_filter.mpr ⟨hp, ?_⟩
    rw [decide_eq_true_eq]
    intro e
    have h1 := (N p (.tail _ hp)).1
    have h2 := (N (c, w) (.tail _ hc)).1
    rw [e, h2] at h1
    exact hw (Option.some.inj h1).symm
  · have := (List.mem_filter.mp hp).2
    simpa using this
theorem cell_ne {w o : Obj} {v : Option Value} {vs : Array Value} {n : Nat} (hw : w.data = .cell v) (ho : o.data = .seq vs n) : o ≠ w := fun e => by
  rw [e, hw] at ho; cases ho
theorem SpIn.off {w : Obj} {v : Option Value} {news news' : List (Addr × Obj)} {vs : List Value} {ps : List (Int × Int)} (hw : w.data = .cell v) (h : SpIn news vs ps) (hs : ∀ p ∈ news, p.2 ≠ w → p ∈ news') : SpIn news' vs ps :=
  ⟨h.1, fun i p e => by obtain ⟨a, t1, t2, h1, h2⟩ := h.2 i p e; exact ⟨a, t1, t2, h1, hs _ h2 (cell_ne hw rfl)⟩⟩
theorem two_out {h₀ h : Heap} {L src c : Addr} {os w : Obj} {all : List (Addr × Obj)} (N : News h₀ L h all) (hc : (c, w) ∈ all) (hs : (src, os) ∈ all) (hne : c ≠ src) :
    ∃ rst, News h₀ L h ((c, w) :: (src, os) :: rst) ∧ (∀ p ∈ all, p.1 ≠ c → p.1 ≠ src → p ∈ rst) ∧ (∀ p ∈ all, p.2 ≠ w → p.2 ≠ os → p ∈ rst) ∧ (∀ p ∈ rst, p.1 ≠ c) ∧ (∀ p ∈ rst, p.1 ≠ src) := by
  have hm : ∀ p ∈ all, p.1 ≠ c → p.1 ≠ src → p ∈ all.filter fun p => decide (p.1 ≠ c ∧ p.1 ≠ src) := fun p hp h1 h2 =>
    List.mem_filter.mpr ⟨hp, decide_eq_true ⟨h1, h2⟩⟩
  have hf : ∀ p ∈ all.filter fun p => decide (p.1 ≠ c ∧ p.1 ≠ src), p ∈ all ∧ p.1 ≠ c ∧ p.1 ≠ src := fun p hp =>
    ⟨(List.mem_filter.mp hp).1, of_decide_eq_true (List.mem_filter.mp hp).2⟩
  refine ⟨_, fun p hp => N p ?_, hm, fun p hp h1 h2 => hm p hp (fun e => h1 ?_) (fun e => h2 ?_), fun p hp => (hf p hp).2.1, fun p hp => (hf p hp).2.2⟩
  · rcases List.mem_cons.mp hp with h | hp
    · rw [h]; exact hc
    rcases List.mem_cons.mp hp with h | hp
    · rw [h]; exact hs
    · exact (hf p hp).1
  · have a := (N p hp).1
    rw [e, (N _ hc).1] at a
    exact (Option.some.inj a).symm
  · have a := (N p hp).1
    rw [e, (N _ hs).1] at a
    exact (Option.some.inj a).symm
theorem nu_tuple_of_list {prog : Program} {w : World} {A : Around} {E : Value → Shared → Prop} {s : Shared} {h₀ : Heap} {L : Addr} {m : Str → Option Value} {news : List (Addr × Obj)} {b : Addr} {vs : List Value} {n1 : Nat} {Q : Value → Shared → Prop}
    (F : Fr h₀ L s.heap m) (N : News h₀ L s.heap news) (hb : (b, ({ cls := .type "list", data := .seq vs.toArray n1 } : Obj)) ∈ news) (hz : vs.length < 1000)
    (h : ∀ D h', Fr h₀ L h' m → News h₀ L h' ((D, ({ cls := .type "tuple", data := .seq vs.toArray } : Obj)) :: news) → AllLt D news → Q (.ref D) { s with heap := h' }) : wpAny (model prog w) A (call (.type "tuple") [.ref b]) Q E s :=
  kde_tupleOf F N ⟨_, (N _ hb).1, rfl, _, rfl⟩ (by show vs.length ≤ _; omega) (zs := vs) rfl (fun D h' F' N' l1 => h D h' F' N' (allLt_of l1))
theorem SdsIn.offs {P : Params} {news news' : List (Addr × Obj)} {w : Obj} {v : Option Value} {s0 s1 : Int} {t0 t1 : Tok} {ep : Nat} {vs : List Value} {Ss : List Sd} (hw : w.data = .cell v) (h : SdsIn P news vs Ss) (hs : ∀ p ∈ news, p.2 ≠ w → p.2 ≠ srcO s0 s1 t0 t1 ep → p ∈ news') : SdsIn P news' vs Ss := by
  refine ⟨h.1, fun i S e => ?_⟩
  obtain ⟨x, h1, h2⟩ := h.2 i S e
  refine ⟨x, h1, ?_⟩
  obtain ⟨dx, one, wy, k1, k2, k3, k4, tl, tb, o1, o2, w1, w2, m1, m2, m3, m4⟩ := h2
  refine ⟨dx, one, wy, k1, k2, k3, k4, tl, tb, o1, o2, w1, w2, hs _ m1 ?_ ?_, hs _ m2 ?_ ?_, hs _ m3 ?_ ?_, hs _ m4 ?_ ?_⟩
  all_goals first
    | exact fun e => by rw [← e] at hw; cases hw
    | exact fun e => by have := congrArg Obj.cls e; simp [srcO, sdO, instObj] at this
theorem tow {news : List (Addr × Obj)} {P : Params} {fs : List Value} {Ss : List Sd} {s0 s1 : Int} {t0 t1 : Tok} {ep e2 : Nat} (h : SdsIn P news fs Ss) (hn : Ss ≠ []) : ({ cls := .type "list", data := .seq fs.toArray e2 } : Obj) ≠ srcO s0 s1 t0 t1 ep := fun e => by
  cases Ss with
  | nil => exact hn rfl
  | cons S r =>
    obtain ⟨x, h1, -⟩ := h.2 0 S rfl
    have := congrArg Obj.data e
    simp [srcO] at this
    rw [this.1] at h1
    cases h1
local macro_rules | `(tactic| walk_at "call builtin:sum") => `(tactic| (k_here; (with_reducible show wpAny _ _ (call (Value.builtin "sum") [Value.ref _]) _ _ _); k_dflt (refine' nu_sum (by walk_at "hk") (by k_asm) (by k_asm) (by k_mem) (by first | exact (‹Unit → IntsAre _ _›) () | assumption) ?_); intro h' tk' t' F' N'; (try dsimp only)))
local macro_rules | `(tactic| walk_at "CompSrcT") => `(tactic| refine stop_intro ?_)
local macro_rules | `(tactic| walk_at "CompSrc") => `(tactic| refine stop_intro ?_)
local macro_rules | `(tactic| walk_at "call type:tuple") => `(tactic| (walk_at "nuT"; k_dflt (refine' nu_tuple_of_list (by k_asm) (by k_asm) (by k_mem) (by walk_at "nuz") ?_); walk_at "nuA"))
def partVals (t1 t2 t3 t4 t5 t6 : Tok) (a b c d : Int) : List Value := [.int 0 t1, .int a t2, .int b t3, .int c t4, .int (-1) t5, .int d t6]
theorem partVals_at {t1 t2 t3 t4 t5 t6 : Tok} {a b c d : Int} (ha : -4 ≤ a ∧ a ≤ 2 ^ 17) (hb : -4 ≤ b ∧ b ≤ 2 ^ 17) (hc : -4 ≤ c ∧ c ≤ 2 ^ 17) (hd : -4 ≤ d ∧ d ≤ 2 ^ 17) {i : Nat} {v : Value} (e : (partVals t1 t2 t3 t4 t5 t6 a b c d)[i]? = some v) : ∃ p t, v = .int p t ∧ -4 ≤ p ∧ p ≤ 2 ^ 17 := by
  match i, e with
  | 0, e => cases e; exact ⟨_, _, rfl, by omega, by omega⟩
  | 1, e => cases e; exact ⟨_, _, rfl, ha.1, ha.2⟩
  | 2, e => cases e; exact ⟨_, _, rfl, hb.1, hb.2⟩
  | 3, e => cases e; exact ⟨_, _, rfl, hc.1, hc.2⟩
  | 4, e => cases e; exact ⟨_, _, rfl, by omega, by omega⟩
  | 5, e => cases e; exact ⟨_, _, rfl, hd.1, hd.2⟩
  | k + 6, e => simp [partVals] at e
theorem corner_ok {ls : List Int} (h : ∀ k, 0 ≤ (ls.take k).sum ∧ (ls.take k).sum < 2 ^ 14) {k : Nat} : -4 ≤ 4 * (ls.take k).sum ∧ 4 * (ls.take k).sum ≤ 2 ^ 17 := by
  have := h k
  omega
theorem fo_src {q : Rat} {a1 a2 : Tok} {s0 s1 : Int} {t0 t1 : Tok} {ep : Nat} : fo q a1 a2 ≠ srcO s0 s1 t0 t1 ep := fun e => by
  have := congrArg Obj.cls e
  simp [srcO] at this
theorem pr_src {p q : Addr} {s0 s1 : Int} {t0 t1 : Tok} {ep : Nat} : pr p q ≠ srcO s0 s1 t0 t1 ep := fun e => by
  have := congrArg Obj.cls e
  simp [srcO] at this
local macro_rules | `(tactic| k_in) => `(tactic| first | k_in_fast | (with_reducible assumption) | exact Frag.In.keeps (by k_asm) (Fr.keep (by k_asm)))
local macro_rules | `(tactic| walk_at "wipemin") => `(tactic| repeat (with_reducible rename _ = min _ _ => wipeH; clear wipeH))
local macro_rules | `(tactic| walk_at "wipe") => `(tactic| repeat (with_reducible rename _ < _ ∧ _ => wipeH; clear wipeH))
theorem bd_adv {d : Int} (h0 : 0 ≤ d) (h1 : d < 60) : Bd 11 (Rat.divInt (10 * d) 2) := Bd_divInt (by omega) (by decide) (by decide)
theorem bd_beg {d : Int} (h0 : 0 ≤ d) (h1 : d < 50) : Bd 10 ((7 * d : Int) : Rat) := Bd_int (by omega) (by decide)
theorem bd_mid {d e : Int} (h0 : 0 ≤ d) (h1 : d < 50) (h2 : 0 ≤ e) (h3 : e < 60) : Bd 11 (Rat.divInt (2 * (7 * d) + 10 * e) 2) := Bd_divInt (by omega) (by decide) (by decide)
theorem bd_start {d : Int} (h0 : 0 ≤ d) (h1 : d < 9) : Bd 10 (Rat.divInt d 2) := Bd_divInt (by omega) (by decide) (by decide)
theorem bd_scale {d : Int} (h0 : 0 ≤ d) (h1 : d < 99) : Bd 10 (Rat.divInt 1 (1 + d)) := Bd_divInt (by decide) (by omega) (by omega)
theorem bd_grain {g : Int} (h0 : 0 < g) (h1 : g ≤ 64) : Bd 10 ((g : Int) : Rat) := Bd_int (by omega) (by decide)
theorem bd_sc {d : Int} (h0 : 0 ≤ d) (h1 : d < 9) : Bd 4 (Rat.divInt (1 + d) 10) := Bd_divInt (by omega) (by decide) (by decide)
local macro_rules | `(tactic| walk_at "call ref") => `(tactic| (o_head (313, t_one (by walk_at "pick") (by k_mem) (by walk_at "arl") (by walk_at "arl") (by walk_at "ar") (by walk_at "ar") (by walk_at "ar")); intro k9 v9 s9 r9 t9 u9 p9 h9 tk9 e9 c9 f9 g9 F9 N9; (try dsimp only); (try (first | (obtain ⟨gr9, tg9, ev9, ga9, gb9⟩ := grain_at e9; subst ev9; have gd9 := bd_grain ga9 gb9) | (obtain ⟨gr9, tg9, ev9, gd9⟩ := adv_at e9; subst ev9))); (try k_sweep); (try k_fold)))
local macro_rules | `(tactic| walk_at "Bd") => `(tactic| with_reducible first | assumption | (first | apply bd_mid | apply bd_start | apply bd_scale) <;> assumption | (first | apply Bd_add | apply Bd_mul) <;> walk_at "Bd")
inductive AdvP (h₀ : Heap) (L : Addr) (m : Str → Option Value) (src : Addr) (rest : List (Addr × Obj)) (s : Shared) : Value → Shared → Prop
  | mk {adv : Int} {t : Tok} {s0 s1 : Int} {t0 t1 : Tok} {ep : Nat} {h' : Heap} {tk' : Nat} {all : List (Addr × Obj)} (F : Fr h₀ L h' m) (N : News h₀ L h' all) (hs : (src, srcO s0 s1 t0 t1 ep) ∈ all) (hr : ∀ p ∈ rest, p ∈ all) (b : Bd 10 (Rat.divInt adv 2)) (a0 : 0 ≤ s0) (a1 : 0 ≤ s1) (a2 : s1 < 2147483647) : AdvP h₀ L m src rest s (.int adv t) { s with heap := h', toks := tk' }
theorem merge_adv {w : World} {A : Around} {x : Sem Value} {Q E : Value → Shared → Prop} {s : Shared} {h₀ : Heap} {L src : Addr} {m : Str → Option Value} {s0 s1 : Int} {t0 t1 : Tok} {ep : Nat} {all rest : List (Addr × Obj)} {c : Addr} (_ : c ≠ src)
    (F : Fr h₀ L s.heap m) (N : News h₀ L s.heap all) (pk : Pick src (srcO s0 s1 t0 t1 ep) all rest)
    (h1 : News h₀ L s.heap ((src, srcO s0 s1 t0 t1 ep) :: rest) → wpAny (model PySem.Challenge.rw_nu0017_01.row.prog w) A x (AdvP h₀ L m src rest s) E s)
    (h2 : ∀ (adv : Int) (t : Tok) (s0 s1 : Int) (t0 t1 : Tok) (ep : Nat) (h' : Heap) (tk' : Nat), Bd 10 (Rat.divInt adv 2) → 0 ≤ s0 → 0 ≤ s1 → s1 < 2147483647 → Fr h₀ L h' m → News h₀ L h' ((src, srcO s0 s1 t0 t1 ep) :: rest) → Q (.int adv t) { s with heap := h', toks := tk' }) :
    wpAny (model PySem.Challenge.rw_nu0017_01.row.prog w) A x Q E s := by
  refine wpAny_mono (h1 (pk.news N)) (fun v s' h => ?_) fun _ _ e => e
  cases h with
  | mk F' N' hs hr b c0 c1 c2 => exact h2 _ _ _ _ _ _ _ _ _ b c0 c1 c2 F' fun p hp => (List.mem_cons.mp hp).elim (fun e => e ▸ N' _ hs) fun e => N' _ (hr _ e)
local macro_rules | `(tactic| walk_at "eval IfExp") => `(tactic| (k_here; refine stop_intro ?_))
theorem law_ok : PySem.Challenge.rw_nu0017_01.Holds := hd (by
  delta tp keepT
  k_go0
  all_goals try k_fold
  k_steps
  refine stop_out ?_
  k_dflt (refine' t_lpath ?nuB ?nuF ?nuX ?nuN ?nuT ?nuhk ?nuhdp ?nuhun ?nupk ?nuh0 ?nuh1 ?nuh2 ?_; (case nuB => k_asm); (case nuF => k_asm); (case nuX => k_asm); (case nuN => k_asm); (case nuT => k_asm); (case nuhk => first | exact rfl | assumption); (case nuhdp => ktr_room); (case nuhun => ktr_units); (case nupk => walk_at "pick"); (case nuh0 => walk_at "ar"); (case nuh1 => walk_at "ar"); (case nuh2 => walk_at "ar"); k_whole)
  intro R1 SP1 LN1 vs1 lv1 ps1 ls1 f1 f2 f3 i1 sa sb ta tb ep1 all1 h1 tk1 i1lo i1hi hP1 sa0 sb0 sb1 F1 N1 hsub1 hoff1 hR1 hS1 hL1 hSp1 hLs1
  obtain ⟨rst1, N1', hin1, hc1, hs1, hcs1⟩ := cell_out N1 (hsub1 _ (.head _)) hoff1
  rename _ = Data.cell _ => hw
  replace hR1 := hin1 _ hR1 (cell_ne hw rfl)
  replace hS1 := hin1 _ hS1 (cell_ne hw rfl)
  replace hL1 := hin1 _ hL1 (cell_ne hw rfl)
  replace hSp1 := hSp1.off hw hin1
  replace hcs1 := neN hcs1
  clear N1 hin1 hsub1 hoff1 all1
  walk_at "wipe"
  k_steps
  refine stop_out ?_
  k_dflt (refine' t_closed ?nuB ?nuF ?nuX ?nuN ?nuT ?nuhk ?nuhdp ?nuhun ?nupk ?nuh0 ?nuh1 ?nuh2 ?nuhS ?nuhLn ?nuhSp ?nuhLs ?nuhP ?nuhi1 ?nuhi4 ?_; (case nuB => k_asm); (case nuF => k_asm); (case nuX => k_asm); (case nuN => k_asm); (case nuT => k_asm); (case nuhk => first | exact rfl | assumption); (case nuhdp => ktr_room); (case nuhun => ktr_units); (case nupk => walk_at "pick"); (case nuh0 => walk_at "ar"); (case nuh1 => walk_at "ar"); (case nuh2 => walk_at "ar"); (case nuhS => k_mem); (case nuhLn => k_mem); (case nuhSp => exact hSp1.mono (fun p hp => by k_mem)); (case nuhLs => exact hLs1); (case nuhP => exact hP1); (case nuhi1 => exact i1lo); (case nuhi4 => exact i1hi); k_whole)
  intro R2 SP2 LN2 cl2 vs2 lv2 ps2 ls2 f4 f5 f6 sc sd tc td ep2 all2 h2 tk2 hC sc0 sd0 sd1 F2 N2 hsub2 hoff2 hR2 hS2 hL2 hSp2 hLs2
  obtain ⟨rst2, N2', hin2, hc2, hs2, hcs2⟩ := cell_out N2 (hsub2 _ (.head _)) hoff2
  clear hR1 hS1 hL1 hSp1 hLs1 hP1
  rename _ = Data.cell _ => hw2
  replace hR2 := hin2 _ hR2 (cell_ne hw2 rfl)
  replace hS2 := hin2 _ hS2 (cell_ne hw2 rfl)
  replace hL2 := hin2 _ hL2 (cell_ne hw2 rfl)
  replace hSp2 := hSp2.off hw2 hin2
  replace hcs2 := neN hcs2
  clear hcs1
  clear N2 hin2 hsub2 hoff2 all2
  walk_at "wipe"
  obtain ⟨hC1, hC2, hC3, hC4⟩ := hC.psides
  have hC5 := hC.sides_ne
  have hvl2 : vs2.length < 50 := by rw [hSp2.1]; exact hC1
  have hlenLs := hLs2.length
  have hlsn : ls2.length ≤ 6 := hC.2.2.1
  have hLsF := fun (_ : Unit) => hLs2
  k_steps
  refine stop_out ?_
  k_dflt (refine' t_psides (ps := ps2) (lens := ls2) ?nuB ?nuF ?nuX ?nuN ?nuT ?nuhk ?nuhdp ?nuhun ?nuhC ?nuhT ?nuhSp ?nuhps ?nuhps0 ?nuhn ?nuhl ?nuhb ?_; (case nuB => k_asm); (case nuF => k_asm); (case nuX => k_asm); (case nuN => k_asm); (case nuT => k_asm); (case nuhk => first | exact rfl | assumption); (case nuhdp => ktr_room); (case nuhun => ktr_units); (case nuhC => k_mem); (case nuhT => k_mem); (case nuhSp => exact hSp2.mono (fun p hp => by k_mem)); (case nuhps => exact hC1); (case nuhps0 => exact hC.2.1); (case nuhn => exact hC.1); (case nuhl => exact hC2); (case nuhb => exact hC3); k_whole)
  intro F3 fs ep3 all3 h3 tk3 Fr3 N3 hsub3 hF3 hSd fresh3
  obtain ⟨rst3, N3', hin3, hio3, hc3, hs3⟩ := two_out N3 (hsub3 _ (.tail _ (.tail _ (.head _)))) (hsub3 _ (.tail _ (.tail _ (.tail _ (.head _))))) hcs2
  rename _ = Data.cell _ => hw3
  have hk3 : ∀ p ∈ rst2, p ∈ rst3 := fun p hp => hin3 p (hsub3 _ (.tail _ (.tail _ (.tail _ (.tail _ hp))))) (hc2 p hp) (hs2 p hp)
  replace hF3 := hio3 _ hF3 (cell_ne hw3 rfl) (tow hSd hC5)
  replace hSd := hSd.offs hw3 hio3
  replace hS2 := hk3 _ hS2
  replace hL2 := hk3 _ hL2
  replace hSp2 := hSp2.mono hk3
  clear N3 hin3 hio3 hsub3 fresh3 hk3 hc2 hs2
  walk_at "wipe"
  k_steps
  refine stop_out ?_
  rename IsRange _ _ _ _ _ _ _ _ => hrg
  refine LCt.CompSrcT.range (n := ls2.length) (by rfl) (by k_asm) (by k_asm) hrg (small_one (by omega) (by omega) (by omega) (by omega)) (by first | (rw [rangeSize_nat]; omega) | (rw [hlenLs, rangeSize_nat]; omega)) (by rw [sizeLine_eq]; omega) ?_
  intro g1
  refine RestT_ind (fun i ys => IntsAre ys ((wholeOf ls2 i).map Int.ofNat)) ?_ ?_ _ 0 [] (Nat.zero_add _) .nil
  · intro i ys hi hJ v I oI C oC D m₂ h tk E' hv hC9 hx9 F' N' off' ne'
    obtain ⟨t9, rfl⟩ := hv
    rw [Int.zero_add] at hx9
    obtain ⟨t8, hit⟩ := (hLsF ()).get i (ls2.getD i 0) (by simp [hi])
    have hit' : lv2[((i : Nat) : Int).toNat]? = some (Value.int (ls2.getD i 0) t8) := hit
    generalize hgi : ls2.getD i 0 = gi at hit'
    have hW := wholeOf_succ ls2 i
    rw [hgi] at hW
    have hJF := fun (_ : Unit) => hJ
    k_steps
    · rw [hW, if_pos (by omega), List.map_append]
      exact intsAre_app (hJF ()) (.cons _ _ .nil)
    · rw [hW, if_neg (by omega)]
      exact hJF ()
  · intro ws hws
    have hwsF := fun (_ : Unit) => hws
    have hwsl := hws.length
    have hwl : (wholeOf ls2 ls2.length).length ≤ ls2.length := by
      have := List.length_filter_le (fun j => decide (0 < ls2.getD j 0)) (List.range ls2.length)
      rw [List.length_range] at this
      exact this
    rw [List.length_map] at hwsl
    obtain ⟨SS, hSS⟩ : ∃ SS, sidesUp (ring ps2 cl2) ls2 ls2.length = SS := ⟨_, rfl⟩
    rw [hSS] at hSd hC5
    have hSSl : SS.length ≤ 6 := by
      rw [← hSS]; unfold sidesUp; rw [List.length_map]; exact Nat.le_trans hwl hlsn
    have hfl := hSd.1
    k_steps
    refine stop_out ?_
    refine LCg.CompSrc.ledger (its := fs.toArray) (by rfl) (by k_asm) (by k_asm) (by k_mem) (by rw [sizeLine_eq, List.size_toArray]; omega) ?_
    intro g2
    refine Rest_ind (fun i ys => IntsAre ys ((SS.take i).map Sd.len)) ?_ ?_ _ 0 [] (Nat.zero_add _) .nil
    · intro i ys hi hJ v I oI C oC D m₂ h tk E' hv hC9 hx9 F' N' off' ne'
      have hi' : i < SS.length := by rw [← hfl]; simpa using hi
      obtain ⟨x, hx1, hx2⟩ := hSd.2 i SS[i] (List.getElem?_eq_getElem hi')
      have hv' : v = .ref x := by
        have hv2 : fs[i]? = some v := by simpa using hv
        rw [hx1] at hv2; exact (Option.some.inj hv2).symm
      subst hv'
      obtain ⟨dx, one, wy, k1, k2, k3, k4, tl, tb, o1, o2, w1, w2, m1, m2, m3, m4⟩ := hx2
      have hJF := fun (_ : Unit) => hJ
      k_steps
      · rw [List.take_succ, List.getElem?_eq_getElem hi', List.map_append]
        exact intsAre_app (hJF ()) (.cons _ _ .nil)
    · intro ys1 hys1
      rw [List.size_toArray, hfl, List.take_length] at hys1
      have hys1F := fun (_ : Unit) => hys1
      have hys1l := hys1.length
      rw [List.length_map] at hys1l
      obtain ⟨wl, hwl2⟩ : ∃ wl, wholeOf ls2 ls2.length = wl := ⟨_, rfl⟩
      have hwlt : ∀ j ∈ wl, j < ls2.length := fun j hj => by
        rw [← hwl2] at hj
        exact List.mem_range.mp (List.mem_filter.mp hj).1
      rw [hwl2] at hwsF hwsl hwl
      k_steps
      refine stop_out ?_
      refine LCg.CompSrc.ledger (its := ws.toArray) (by rfl) (by k_asm) (by k_asm) (by k_mem) (by rw [sizeLine_eq, List.size_toArray]; omega) ?_
      intro g3
      refine Rest_ind (fun i ys => IntsAre ys ((wl.take i).map fun j => ls2.getD j 0)) ?_ ?_ _ 0 [] (Nat.zero_add _) .nil
      · intro i ys hi hJ v I oI C oC D m₂ h tk E' hv hC9 hx9 F' N' off' ne'
        have hi' : i < wl.length := by rw [← hwsl]; simpa using hi
        obtain ⟨t9, hx1⟩ := (hwsF ()).get i (Int.ofNat wl[i]) (by rw [List.getElem?_map, List.getElem?_eq_getElem hi']; rfl)
        have hv' : v = .int ((wl[i] : Nat) : Int) t9 := by
          have hv2 : ws[i]? = some v := by simpa using hv
          rw [hx1] at hv2; exact (Option.some.inj hv2).symm
        subst hv'
        have hj' := hwlt _ (List.getElem_mem hi')
        have htk := List.take_succ (l := wl) (i := i)
        rw [List.getElem?_eq_getElem hi'] at htk
        generalize wl[i] = j at *
        obtain ⟨t8, hit⟩ := (hLsF ()).get j (ls2.getD j 0) (by simp [hj'])
        have hit' : lv2[((j : Nat) : Int).toNat]? = some (Value.int (ls2.getD j 0) t8) := hit
        have hJF := fun (_ : Unit) => hJ
        k_steps
        · rw [htk, List.map_append]
          exact intsAre_app (hJF ()) (.cons _ _ .nil)
      · intro ys2 hys2
        rw [List.size_toArray, hwsl, List.take_length] at hys2
        have hSSw : (wl.map fun j => ls2.getD j 0) = SS.map Sd.len := by
          rw [← hSS, ← hwl2]; unfold sidesUp wholeOf; rw [List.map_map]; rfl
        rw [hSSw] at hys2
        have hys2F := fun (_ : Unit) => hys2
        k_steps
        refine stop_out ?_
        obtain ⟨Sz, hz1, hz2⟩ := sidesUp_last (ring ps2 cl2) ls2 (fun x hx => (hC4 x hx).1) ls2.length (by rw [hSS]; exact hC5)
        rw [hSS] at hz1
        rw [List.take_length] at hz2
        have hsm0 : 0 ≤ ls2.sum ∧ ls2.sum < 2 ^ 14 := by
          have := sum_bound ls2 hC4
          omega
        k_dflt (refine' t_plen (S := Sz) ?nuB ?nuF ?nuX ?nuN ?nuT ?nuhk ?nuhdp ?nuhun ?nuhS ?nuhSs ?nuhn ?nuhl ?_; (case nuB => k_asm); (case nuF => k_asm); (case nuX => k_asm); (case nuN => k_asm); (case nuT => k_asm); (case nuhk => first | exact rfl | assumption); (case nuhdp => ktr_room); (case nuhun => ktr_units); (case nuhS => k_mem); (case nuhSs => exact hSd.mono (fun p hp => by k_mem)); (case nuhn => walk_at "ar"); (case nuhl => exact hz1); k_whole)
        intro tz hz9 tkz Fz Nz
        rw [hz2]
        clear hys2 hys2F hys1 hys1F hws hwsF
        replace hLs2 := hLsF ()
        have hln0 := hC.len_pos
        have htks : ∀ k, 0 ≤ (ls2.take k).sum ∧ (ls2.take k).sum < 2 ^ 14 := fun k => by
          have := sum_bound (ls2.take k) (fun x hx => hC4 x (List.mem_of_mem_take hx))
          have h9 : (ls2.take k).length ≤ ls2.length := by rw [List.length_take]; exact Nat.min_le_right _ _
          omega
        k_steps
        refine stop_out ?_
        rename News _ _ _ _ => NL
        rename Fr _ _ _ _ => FL
        rename _ ∧ _ ∧ _ ∧ _ ∧ _ ∧ _ ∧ AllLt _ _ => lL
        obtain ⟨rst4, N4, hin4, hio4, hc4, hs4⟩ := two_out NL (by k_mem) (.tail _ (.head _)) hcs2
        have hk4 : ∀ p ∈ rst3, p ∈ rst4 := fun p hp => hin4 p (by simp only [List.mem_cons]; exact .inr (.inr (.inr (.inr (.inr (.inr (.inr hp))))))) (hc3 p hp) (hs3 p hp)
        have hLP := hin4 _ (.head _) (by k_ne) (by k_ne)
        replace hF3 := hk4 _ hF3
        replace hS2 := hk4 _ hS2
        replace hL2 := hk4 _ hL2
        replace hSp2 := hSp2.mono hk4
        replace hSd := hSd.mono hk4
        clear hin4 hio4 hk4
        refine nu_listS (σ := Int × Int × Tok × Tok × Nat) (vs := partVals _ _ _ _ _ _ _ _ _ _) (nn := 0) (LedP _ _ _ rst4) (fun _ => []) [Str.ofString "side", Str.ofString "due", Str.ofString "place", Str.ofString "scale", Str.ofString "advance"] (fun _ c => 0 ≤ c.1 ∧ 0 ≤ c.2.1 ∧ c.2.1 < 2147483647) (_, _, _, _, _) rfl (fun _ => .tail _ (.tail _ hLP)) FL N4 (by kst_all) ⟨by assumption, by assumption, by assumption⟩ ?turn ?done
        case turn =>
          intro c i v u h tk I oI hi hv hoffI hp F' N'
          obtain ⟨q0, q1, q2, q3, q4⟩ := c
          obtain ⟨g0, g1, g2⟩ := hp
          dsimp only at g0 g1 g2 hoffI N'
          dsimp only [kstB] at F'
          obtain ⟨pv, tp, rfl, hp0, hp1⟩ := partVals_at (corner_ok htks) (by omega) (by omega) (by omega) hv
          have hI1 := neN (show _ ≠ I from hoffI _ (.head _))
          have hI2 := neN (show _ ≠ I from hoffI _ (.tail _ (.head _)))
          have hI3 : ∀ p ∈ rst4, p.1 ≠ I := fun p hp => hoffI p (.tail _ (.tail _ hp))
          dsimp only [LedP] at N' hI1 hI2
          replace hI1 := fun (_ : Unit) => hI1
          replace hI2 := fun (_ : Unit) => hI2
          walk_at "wipemin"
          clear hoffI FL N4 NL hLP
          walk_at "wipe"
          have hbS : ∀ S ∈ SS, Bd 30 ((S.beg : Int) : Rat) ∧ Bd 30 ((S.beg + S.len : Int) : Rat) := fun S hS => by
            obtain ⟨j, hj⟩ := List.getElem?_of_mem hS
            rw [← hSS] at hj
            have := side_bounds hC4 hlsn hj
            exact ⟨Bd_int (by omega) (by decide), Bd_int (by omega) (by decide)⟩
          have hqv : Bd 30 (Rat.divInt pv 4) := Bd_divInt (by omega) (by decide) (by decide)
          have hqw : Bd 20 (Rat.divInt pv 4) := Bd_divInt (by omega) (by decide) (by decide)
          k_steps
          refine stop_out ?_
          rcases hdue : due ls2 0 0 pv with _ | ⟨kk, rr⟩
          · have hno := fun (j : Nat) (S : Sd) (e : SS[j]? = some S) => side_none (qs := ring ps2 cl2) hdue (by rw [hSS]; exact e)
            k_dflt (refine' t_sideat0 ?nuB ?nuF ?nuX ?nuN ?nuT ?nuhk ?nuhdp ?nuhun ?nuhS ?nuhD ?nuhq ?nuhSs ?nuhb ?nuhno ?_; (case nuB => k_asm); (case nuF => k_asm); (case nuX => k_asm); (case nuN => k_asm); (case nuT => k_asm); (case nuhk => first | exact rfl | assumption); (case nuhdp => ktr_room); (case nuhun => ktr_units); (case nuhS => k_mem); (case nuhD => k_mem); (case nuhq => exact hqv); (case nuhSs => exact hSd.mono (fun p hp => by k_mem)); (case nuhb => exact hbS); (case nuhno => exact hno); k_whole)
            intro h5 tk5 F5 N5
            k_steps
            refine stop_out ?_
            k_dflt (refine' t_due0 ?nuB ?nuF ?nuX ?nuN ?nuT ?nuhk ?nuhdp ?nuhun ?nuhL ?nuhi ?nuhn ?nuhb ?nuhe ?_; (case nuB => k_asm); (case nuF => k_asm); (case nuX => k_asm); (case nuN => k_asm); (case nuT => k_asm); (case nuhk => first | exact rfl | assumption); (case nuhdp => ktr_room); (case nuhun => ktr_units); (case nuhL => k_mem); (case nuhi => exact hLsF ()); (case nuhn => walk_at "ar"); (case nuhb => exact hC4); (case nuhe => exact hdue); k_whole)
            intro h6 tk6 F6 N6
            k_steps
            refine stop_out ?_
            rename News _ _ _ _ => N7
            rename Fr _ _ _ _ => F7
            exact lp_end F7 N7 (by k_mem) (by k_mem) (by k_mem) (by intro p hp; simp only [List.mem_cons]; simp [hp]) (hI1 ()) (hI2 ()) hI3 g0 g1 g2 (by kst_same)
          · obtain ⟨s1k, s2k, s3k, s4k, s5k, s6k, s7k⟩ := side_some (qs := ring ps2 cl2) hdue
            rw [hSS] at s6k s7k
            obtain ⟨ox, oy, px, py, LL, eS, eL, eo, ep9, bL1, bL2, bB1, bB2, c1, c2, c3, c4⟩ := hC.turn s1k s2k
            rw [eL] at s5k
            have cF := fun (_ : Unit) => And.intro c1 (And.intro c2 (And.intro c3 c4))
            clear c1 c2 c3 c4
            k_dflt (refine' t_sideat1 (rest := rst4) ?nuB ?nuF ?nuX ?nuN ?nuT ?nuhk ?nuhdp ?nuhun ?nuhS ?nuhD ?nuhq ?nuhSs ?nuhsub ?nuhb ?nuhne ?nuhuq ?_; (case nuB => k_asm); (case nuF => k_asm); (case nuX => k_asm); (case nuN => k_asm); (case nuT => k_asm); (case nuhk => first | exact rfl | assumption); (case nuhdp => ktr_room); (case nuhun => ktr_units); (case nuhS => k_mem); (case nuhD => k_mem); (case nuhq => exact hqv); (case nuhSs => exact hSd); (case nuhsub => (intro p hp; simp only [List.mem_cons]; simp [hp])); (case nuhb => exact hbS); (case nuhne => exact s6k); (case nuhuq => exact s7k); k_whole)
            intro x hx h5 tk5 F5 N5
            rw [eS] at hx
            obtain ⟨dx, one, wy, k1, k2, k3, k4, tl, tb, o1, o2, w1, w2, m1, m2, m3, m4⟩ := hx
            dsimp only at m2 m3 m4
            obtain ⟨t8, hit⟩ := (hLsF ()).get kk (ls2.getD kk 0) (by simp [s1k])
            rw [eL] at hit
            have hit' : lv2[((kk : Nat) : Int).toNat]? = some (Value.int LL t8) := hit
            k_steps
            refine stop_out ?_
            k_dflt (refine' t_due1 ?nuB ?nuF ?nuX ?nuN ?nuT ?nuhk ?nuhdp ?nuhun ?nuhL ?nuhi ?nuhn ?nuhb ?nuhe ?_; (case nuB => k_asm); (case nuF => k_asm); (case nuX => k_asm); (case nuN => k_asm); (case nuT => k_asm); (case nuhk => first | exact rfl | assumption); (case nuhdp => ktr_room); (case nuhun => ktr_units); (case nuhL => k_mem); (case nuhi => exact hLsF ()); (case nuhn => walk_at "ar"); (case nuhb => exact hC4); (case nuhe => exact hdue); k_whole)
            intro D6 tD1 tD2 h6 tk6 F6 N6 l6
            dsimp only [AllLt] at l6
            k_steps
            refine stop_out ?_
            k_dflt (refine' t_point1 ?nuB ?nuF ?nuX ?nuN ?nuT ?nuhk ?nuhdp ?nuhun ?nuhx ?nuhd ?nuhone ?nuhway ?nuhD ?nuhr ?nuh0 ?nuhb ?nuhlen ?nub1 ?nub2 ?nub3 ?nub4 ?_; (case nuB => k_asm); (case nuF => k_asm); (case nuX => k_asm); (case nuN => k_asm); (case nuT => k_asm); (case nuhk => first | exact rfl | assumption); (case nuhdp => ktr_room); (case nuhun => ktr_units); (case nuhx => k_mem); (case nuhd => k_mem); (case nuhone => k_mem); (case nuhway => k_mem); (case nuhD => k_mem); (case nuhr => exact s3k); (case nuh0 => exact ⟨s4k, s5k⟩); (case nuhb => exact ⟨bB1, bB2⟩); (case nuhlen => exact ⟨bL1, bL2⟩); (case nub1 => exact (cF ()).1); (case nub2 => exact (cF ()).2.1); (case nub3 => exact (cF ()).2.2.1); (case nub4 => exact (cF ()).2.2.2); k_whole)
            intro R7 P7 Q7 rx ry t71 t72 t73 t74 h7 tk7 ex ey bx by' F7 N7 l71 l72 l73 l74 l75
            dsimp only [AllLt] at l73 l74 l75
            obtain ⟨rst5, N5x, hin5, hio5, hc5, hs5⟩ := two_out N7 (.tail _ (.tail _ (.tail _ (.tail _ (.tail _ (.tail _ (.tail _ (.tail _ (.tail _ (.head _)))))))))) (.tail _ (.tail _ (.tail _ (.tail _ (.tail _ (.tail _ (.tail _ (.tail _ (.tail _ (.tail _ (.head _))))))))))) hcs2
            have mR := hio5 _ (.head _) (cell_ne hw3 rfl) pr_src
            have mQ := hio5 _ (.tail _ (.head _)) (cell_ne hw3 rfl) fo_src
            have mP := hio5 _ (.tail _ (.tail _ (.head _))) (cell_ne hw3 rfl) fo_src
            have mI := hin5 _ (.tail _ (.tail _ (.tail _ (.tail _ (.tail _ (.tail _ (.tail _ (.tail _ (.head _))))))))) (hI1 ()).symm (hI2 ()).symm
            have mD := hin5 _ (.tail _ (.tail _ (.tail _ (.tail _ (.tail _ (.tail _ (.head _))))))) (by k_ne) (by k_ne)
            have hk5 : ∀ p ∈ rst4, p ∈ rst5 := fun p hp => hin5 p (by simp only [List.mem_cons]; exact .inr (.inr (.inr (.inr (.inr (.inr (.inr (.inr (.inr (.inr (.inr hp))))))))))) (hc4 p hp) (hs4 p hp)
            replace hS2 := hk5 _ hS2
            replace hL2 := hk5 _ hL2
            replace m1 := hk5 _ m1
            replace m2 := hk5 _ m2
            replace m4 := hk5 _ m4
            replace hSp2 := hSp2.mono hk5
            clear m3 hSd hF3 hin5 hio5 N7 l71 l72 l73 l74 l75 hc4 hs4
            walk_at "wipe"
            walk_at "wipemin"
            k_steps
            refine stop_out ?_
            obtain ⟨pa1, ta1, ta2, va1, ma1⟩ := hSp2.2 kk (ox, oy) eo
            obtain ⟨pb1, tb1, tb2, vb1, mb1⟩ := hSp2.2 ((kk + 1) % ps2.length) (px, py) ep9
            have gL : ls2.getD (((kk : Nat) : Int).toNat) 0 = LL := eL
            rw [gL]
            clear gL
            k_dflt (refine' t_pright (ox := ox) (oy := oy) (px := px) (py := py) (p1 := pa1) (p2 := pb1) (vs := vs2) ?nuB ?nuF ?nuX ?nuN ?nuT ?nuhk ?nuhdp ?nuhun ?nuhP ?nuhD1 ?nuhD2 ?nuhS ?nuhn0 ?nuhn1 ?nuhvs ?nuhv1 ?nuhv2 ?nuhp1 ?nuhp2 ?nuhl0 ?nuhl1 ?nuhm ?nuho ?nuho' ?nuhp ?nuhp' ?nue1 ?nue2 ?_; (case nuB => k_asm); (case nuF => k_asm); (case nuX => k_asm); (case nuN => k_asm); (case nuT => k_asm); (case nuhk => first | exact rfl | assumption); (case nuhdp => ktr_room); (case nuhun => ktr_units); (case nuhP => k_mem); (case nuhD1 => k_mem); (case nuhD2 => k_mem); (case nuhS => k_mem); (case nuhn0 => walk_at "ar"); (case nuhn1 => (have := hC.nth s1k; have := hSp2.1; omega)); (case nuhvs => walk_at "ar"); (case nuhv1 => exact va1); (case nuhv2 => (rw [fmod_at, hSp2.1]; exact vb1)); (case nuhp1 => k_mem); (case nuhp2 => k_mem); (case nuhl0 => exact bL1); (case nuhl1 => walk_at "ar"); (case nuhm => walk_at "ar"); (case nuho => exact Nat.lt_of_le_of_lt (cF ()).1 (by decide)); (case nuho' => exact Nat.lt_of_le_of_lt (cF ()).2.1 (by decide)); (case nuhp => exact Nat.lt_of_le_of_lt (cF ()).2.2.1 (by decide)); (case nuhp' => exact Nat.lt_of_le_of_lt (cF ()).2.2.2 (by decide)); (case nue1 => exact ex); (case nue2 => exact ey); k_whole)
            intro h8 tk8 F8 N8
            k_steps
            refine stop_out ?_
            refine merge_adv hcs2 (by k_asm) (by k_asm) (by walk_at "pick") ?_ ?_
            · intro NM
              dsimp only at NM
              have bA : Bd 10 (Rat.divInt 600 2) := Bd_divInt (by decide) (by decide) (by decide)
              with_reducible refine IfExp_ ?_
              k_steps
              · refine AdvP.mk (by k_asm) NM (.head _) (fun p hp => .tail _ hp) bA ?_ ?_ ?_ <;> with_reducible assumption
              · rename News _ _ _ _ => NQ
                refine AdvP.mk (by k_asm) NQ (.head _) (fun p hp => .tail _ (.tail _ hp)) ?_ ?_ ?_ ?_ <;> with_reducible assumption
            intro adv tadv g10 g11 g12 g13 g14 hM tkM bH gA gB gC FM NM
            dsimp only
            k_steps
            refine stop_out ?_
            k_dflt (refine' t_turn1 ?nuB ?nuF ?nuX ?nuN ?nuT ?nuhk ?nuhdp ?nuhun ?nuhx ?nuhd ?nuhway ?nuhl ?nub1 ?nub2 ?_; (case nuB => k_asm); (case nuF => k_asm); (case nuX => k_asm); (case nuN => k_asm); (case nuT => k_asm); (case nuhk => first | exact rfl | assumption); (case nuhdp => ktr_room); (case nuhun => ktr_units); (case nuhx => k_mem); (case nuhd => k_mem); (case nuhway => k_mem); (case nuhl => exact ⟨bL1, bL2⟩); (case nub1 => (have := cF (); omega)); (case nub2 => (have := cF (); omega)); k_whole)
            intro R9 P9 Q9 co si t91 t92 t93 t94 h9 tk9 bco bsi F9 N9 l91 l92 l93 l94 l95
            replace l91 := ltN l91
            replace l92 := ltN l92
            dsimp only [AllLt] at l93 l94 l95
            k_steps
            refine stop_out ?_
            with_reducible rename _ < (9 : Int) => u9
            k_dflt (refine' t_mright ?nuB ?nuF ?nuX ?nuN ?nuT ?nuhk ?nuhdp ?nuhun ?nuhS ?nuhT ?nuhC ?nuhZ ?nuhP ?nuhX ?nuhY ?nubS ?nubH ?nubC ?nubZ ?nubX ?nubY ?_; (case nuB => k_asm); (case nuF => k_asm); (case nuX => k_asm); (case nuN => k_asm); (case nuT => k_asm); (case nuhk => first | exact rfl | assumption); (case nuhdp => ktr_room); (case nuhun => ktr_units); (case nuhS => k_mem); (case nuhT => k_mem); (case nuhC => k_mem); (case nuhZ => k_mem); (case nuhP => k_mem); (case nuhX => k_mem); (case nuhY => k_mem); (case nubS => exact bd_sc (by assumption) u9); (case nubH => with_reducible assumption); (case nubC => exact bco); (case nubZ => exact bsi); (case nubX => exact bx); (case nubY => exact by'); k_whole)
            intro h10 tk10 F10 N10
            k_steps
            refine stop_out ?_
            rename News _ _ _ _ => N11
            rename Fr _ _ _ _ => F11
            exact lp_end F11 N11 (by k_mem) (by k_mem) (by k_mem) (by intro p hp; have := hk5 p hp; simp only [List.mem_cons]; simp [this]) (hI1 ()) (hI2 ()) hI3 (by assumption) (by assumption) (by assumption) (by kst_same)
        case done =>
          intro c u h tk hp F' N'
          obtain ⟨q0, q1, q2, q3, q4⟩ := c
          obtain ⟨g0, g1, g2⟩ := hp
          dsimp only at g0 g1 g2
          dsimp only [LedP] at N'
          dsimp only [kstB] at F'
          clear FL N4 NL hLP
          walk_at "wipe"
          walk_at "wipemin"
          k_steps
          refine stop_out ?_
          k_dflt (refine' t_letter ?nuB ?nuF ?nuX ?nuN ?nuT ?nuhk ?nuhdp ?nuhun  ?_; (case nuB => k_asm); (case nuF => k_asm); (case nuX => k_asm); (case nuN => k_asm); (case nuT => k_asm); (case nuhk => first | exact rfl | assumption); (case nuhdp => ktr_room); (case nuhun => ktr_units);  k_whole)
          intro x8 d8 k81 k82 k83 h8 tk8 F8 N8 l81 l82 l83
          dsimp only [AllLt] at l81 l82
          with_reducible rename _ < (60 : Int) => u60
          with_reducible rename _ < (50 : Int) => u50
          replace l83 := ltN l83
          k_steps
          refine stop_out ?_
          with_reducible rename _ < (9 : Int) => u9
          with_reducible rename _ < (99 : Int) => u99
          k_dflt (refine' t_middle ?nuB ?nuF ?nuX ?nuN ?nuT ?nuhk ?nuhdp ?nuhun ?nuhx ?nuhd ?nuhS ?nuhC ?nuhq ?nuhr ?nuha ?nuhb ?nuhg ?_; (case nuB => k_asm); (case nuF => k_asm); (case nuX => k_asm); (case nuN => k_asm); (case nuT => k_asm); (case nuhk => first | exact rfl | assumption); (case nuhdp => ktr_room); (case nuhun => ktr_units); (case nuhx => k_mem); (case nuhd => k_mem); (case nuhS => k_mem); (case nuhC => k_mem); (case nuhq => exact bd_start (by assumption) u9); (case nuhr => exact bd_scale (by assumption) u99); (case nuha => exact bd_adv (by assumption) u60); (case nuhb => exact bd_beg (by assumption) u50); (case nuhg => with_reducible assumption); k_whole)
          intro D12 t121 t122 h12 tk12 F12 N12 l12
          rw [letter_eq] at N12
          k_steps)
end Mine
theorem PySem.Challenge.cw_nu0017_01_holds : PySem.Challenge.rw_nu0017_01.Holds :=
  Mine.law_ok
