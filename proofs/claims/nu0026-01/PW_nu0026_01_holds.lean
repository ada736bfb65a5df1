import PyProof.Rows.All
import Wide.All
import OpenK.AllK
import Wide.FinOn
import Lean
import PySem.Challenge.RW_nu0026_01
open PySem PySem.W PyProof.Rows PySem.Calls PySem.Spec
set_option Elab.async false
set_option maxRecDepth 100000
set_option maxHeartbeats 8000000
namespace Mine
theorem hd.tw12071131443121754388 : True := trivial
theorem hd.tw2062813613705201400 : True := trivial
theorem law_all.tw1006284481315042348 : True := trivial
theorem law_all.tw10145363553656391591 : True := trivial
theorem law_all.tw10253732280001569212 : True := trivial
theorem law_all.tw10294897870698960256 : True := trivial
theorem law_all.tw10297145265793509435 : True := trivial
theorem law_all.tw10300875812035996732 : True := trivial
theorem law_all.tw10340441938079615943 : True := trivial
theorem law_all.tw10382579582808609351 : True := trivial
theorem law_all.tw10427768884268684552 : True := trivial
theorem law_all.tw10470740866990187283 : True := trivial
theorem law_all.tw10517906790627618544 : True := trivial
theorem law_all.tw10575808222751662728 : True := trivial
theorem law_all.tw1068153473233568800 : True := trivial
theorem law_all.tw1071026390990159442 : True := trivial
theorem law_all.tw10780945830723714241 : True := trivial
theorem law_all.tw10808177503072308079 : True := trivial
theorem law_all.tw10814191843805356421 : True := trivial
theorem law_all.tw10834972849280226571 : True := trivial
theorem law_all.tw10943685043407782298 : True := trivial
theorem law_all.tw10969439180591476309 : True := trivial
theorem law_all.tw10972643930856128791 : True := trivial
theorem law_all.tw11020806828292283134 : True := trivial
theorem law_all.tw11085147635474315433 : True := trivial
theorem law_all.tw11090485264053204359 : True := trivial
theorem law_all.tw1115311737908471259 : True := trivial
theorem law_all.tw11156016171303442314 : True := trivial
theorem law_all.tw1115970785884932992 : True := trivial
theorem law_all.tw11169120883424520007 : True := trivial
theorem law_all.tw11185291794543270386 : True := trivial
theorem law_all.tw11194228370837134999 : True := trivial
theorem law_all.tw11195006048519719982 : True := trivial
theorem law_all.tw11208032702916000851 : True := trivial
theorem law_all.tw11239549508614699967 : True := trivial
theorem law_all.tw11266150474529332087 : True := trivial
theorem law_all.tw11378994670534948722 : True := trivial
theorem law_all.tw11407212017213923087 : True := trivial
theorem law_all.tw11440204188882070378 : True := trivial
theorem law_all.tw11464865452401227656 : True := trivial
theorem law_all.tw11509529326707108785 : True := trivial
theorem law_all.tw11549886222698464505 : True := trivial
theorem law_all.tw11575233253633470811 : True := trivial
theorem law_all.tw11587524997120335971 : True := trivial
theorem law_all.tw11655911931479345256 : True := trivial
theorem law_all.tw1166129813771130549 : True := trivial
theorem law_all.tw11666791612657790110 : True := trivial
theorem law_all.tw11731412580192977591 : True := trivial
theorem law_all.tw11779399842900871346 : True := trivial
theorem law_all.tw11833566044642688545 : True := trivial
theorem law_all.tw11836482064631991793 : True := trivial
theorem law_all.tw11911069920064303837 : True := trivial
theorem law_all.tw11953936395949465439 : True := trivial
theorem law_all.tw11977895914950762854 : True := trivial
theorem law_all.tw11978475443051844996 : True := trivial
theorem law_all.tw11986533732874898875 : True := trivial
theorem law_all.tw1200807466883419909 : True := trivial
theorem law_all.tw12020096104662128255 : True := trivial
theorem law_all.tw1216541509919387563 : True := trivial
theorem law_all.tw12168520589393599259 : True := trivial
theorem law_all.tw12308355309068749982 : True := trivial
theorem law_all.tw12338384112835736923 : True := trivial
theorem law_all.tw12415205634060267573 : True := trivial
theorem law_all.tw12415261661798453589 : True := trivial
theorem law_all.tw1244168298268136379 : True := trivial
theorem law_all.tw12481217338035120217 : True := trivial
theorem law_all.tw12491990524712166927 : True := trivial
theorem law_all.tw12507762813244862470 : True := trivial
theorem law_all.tw12509682125398910234 : True := trivial
theorem law_all.tw12539917319762660869 : True := trivial
theorem law_all.tw12578298129586543361 : True := trivial
theorem law_all.tw12703074045546933829 : True := trivial
theorem law_all.tw12719020962863150717 : True := trivial
theorem law_all.tw12795914074852961918 : True := trivial
theorem law_all.tw12836747770095448064 : True := trivial
theorem law_all.tw1288270072008814257 : True := trivial
theorem law_all.tw12961678295145188246 : True := trivial
theorem law_all.tw13008198028515782221 : True := trivial
theorem law_all.tw13017371603546846089 : True := trivial
theorem law_all.tw13048455256248648906 : True := trivial
theorem law_all.tw13050402135260733356 : True := trivial
theorem law_all.tw13061075394575644761 : True := trivial
theorem law_all.tw13242965595582236870 : True := trivial
theorem law_all.tw13274840464982359763 : True := trivial
theorem law_all.tw13323004776771469176 : True := trivial
theorem law_all.tw13367176642022358155 : True := trivial
theorem law_all.tw1347740606709914761 : True := trivial
theorem law_all.tw13531483092564520072 : True := trivial
theorem law_all.tw13581327203777572028 : True := trivial
theorem law_all.tw13760747126890918739 : True := trivial
theorem law_all.tw13794602993731048600 : True := trivial
theorem law_all.tw13809103348235374114 : True := trivial
theorem law_all.tw13833317127055801060 : True := trivial
theorem law_all.tw13838683757722122955 : True := trivial
theorem law_all.tw13846950719819077829 : True := trivial
theorem law_all.tw13985060576507940359 : True := trivial
theorem law_all.tw14007897523862953668 : True := trivial
theorem law_all.tw14022319627245857414 : True := trivial
theorem law_all.tw14058198244844264512 : True := trivial
theorem law_all.tw14100515932553792916 : True := trivial
theorem law_all.tw14115007137499183204 : True := trivial
theorem law_all.tw14236084546645660719 : True := trivial
theorem law_all.tw14384918623772240547 : True := trivial
theorem law_all.tw14483480384061991028 : True := trivial
theorem law_all.tw14578468027487938174 : True := trivial
theorem law_all.tw14640322939972922974 : True := trivial
theorem law_all.tw14643942157258506644 : True := trivial
theorem law_all.tw14690459059760270787 : True := trivial
theorem law_all.tw1487786111206980130 : True := trivial
theorem law_all.tw14998430357298625318 : True := trivial
theorem law_all.tw15053150841094675366 : True := trivial
theorem law_all.tw15102585243479572927 : True := trivial
theorem law_all.tw15175368528575537740 : True := trivial
theorem law_all.tw15189314362614519228 : True := trivial
theorem law_all.tw15256493282736253867 : True := trivial
theorem law_all.tw1526100267518658005 : True := trivial
theorem law_all.tw15275527861284700546 : True := trivial
theorem law_all.tw154029563992915288 : True := trivial
theorem law_all.tw15406559515391898289 : True := trivial
theorem law_all.tw15521878186831703227 : True := trivial
theorem law_all.tw15627020587669677704 : True := trivial
theorem law_all.tw15640896081885072018 : True := trivial
theorem law_all.tw15693939393655280204 : True := trivial
theorem law_all.tw15720283305988519142 : True := trivial
theorem law_all.tw15775596325662777338 : True := trivial
theorem law_all.tw15816446151563789378 : True := trivial
theorem law_all.tw15817853144674484978 : True := trivial
theorem law_all.tw15877617104253876215 : True := trivial
theorem law_all.tw15923167850487458248 : True := trivial
theorem law_all.tw1592464377872422232 : True := trivial
theorem law_all.tw15988576510117618290 : True := trivial
theorem law_all.tw16074868582555063224 : True := trivial
theorem law_all.tw16108003277724382137 : True := trivial
theorem law_all.tw16317050728709778059 : True := trivial
theorem law_all.tw16348121039232670680 : True := trivial
theorem law_all.tw16377440506400284361 : True := trivial
theorem law_all.tw16389678097679539626 : True := trivial
theorem law_all.tw16413752452701970063 : True := trivial
theorem law_all.tw16436836394604217106 : True := trivial
theorem law_all.tw16577843217576899742 : True := trivial
theorem law_all.tw16610364562264112213 : True := trivial
theorem law_all.tw16654605471950451980 : True := trivial
theorem law_all.tw16736700015079776020 : True := trivial
theorem law_all.tw16741880675132489432 : True := trivial
theorem law_all.tw16745809935298821572 : True := trivial
theorem law_all.tw16768936007509957499 : True := trivial
theorem law_all.tw16802804513485658213 : True := trivial
theorem law_all.tw16831322107450627596 : True := trivial
theorem law_all.tw16838179679014408406 : True := trivial
theorem law_all.tw1684386024576819110 : True := trivial
theorem law_all.tw16850067431916028951 : True := trivial
theorem law_all.tw168551618296024960 : True := trivial
theorem law_all.tw1702886262042523489 : True := trivial
theorem law_all.tw17074971947010181610 : True := trivial
theorem law_all.tw17120200779325065073 : True := trivial
theorem law_all.tw17138794587834298416 : True := trivial
theorem law_all.tw17198419215744740974 : True := trivial
theorem law_all.tw17215917983952657280 : True := trivial
theorem law_all.tw17238692654854937651 : True := trivial
theorem law_all.tw17240311926567722313 : True := trivial
theorem law_all.tw17311543511305506410 : True := trivial
theorem law_all.tw17413550076941298003 : True := trivial
theorem law_all.tw17535888986555872392 : True := trivial
theorem law_all.tw1756717570143565084 : True := trivial
theorem law_all.tw17610193108198147946 : True := trivial
theorem law_all.tw17613353281601113540 : True := trivial
theorem law_all.tw17633126580248655646 : True := trivial
theorem law_all.tw17671693468899418834 : True := trivial
theorem law_all.tw17676645770964659787 : True := trivial
theorem law_all.tw17749092094045793073 : True := trivial
theorem law_all.tw17818739092667572935 : True := trivial
theorem law_all.tw18041836178462933985 : True := trivial
theorem law_all.tw18069371669798473238 : True := trivial
theorem law_all.tw18084819778460367582 : True := trivial
theorem law_all.tw1809502294756820286 : True := trivial
theorem law_all.tw18126463163891228477 : True := trivial
theorem law_all.tw18180275025638004960 : True := trivial
theorem law_all.tw18223944042725728250 : True := trivial
theorem law_all.tw18383949787495555429 : True := trivial
theorem law_all.tw18424452837839797475 : True := trivial
theorem law_all.tw18437768301239656569 : True := trivial
theorem law_all.tw18438550808169337630 : True := trivial
theorem law_all.tw1908834790331025158 : True := trivial
theorem law_all.tw1909231634321623422 : True := trivial
theorem law_all.tw196974008228917347 : True := trivial
theorem law_all.tw1988555749612562791 : True := trivial
theorem law_all.tw2030871139163601056 : True := trivial
theorem law_all.tw2103784332974290115 : True := trivial
theorem law_all.tw2126261026752179203 : True := trivial
theorem law_all.tw2127671843654578818 : True := trivial
theorem law_all.tw2154737406897626791 : True := trivial
theorem law_all.tw2161507521139017325 : True := trivial
theorem law_all.tw2169528061196220630 : True := trivial
theorem law_all.tw2212837506534123027 : True := trivial
theorem law_all.tw2225694422541459837 : True := trivial
theorem law_all.tw2238069962009214901 : True := trivial
theorem law_all.tw2252203913613538044 : True := trivial
theorem law_all.tw2406078263742745528 : True := trivial
theorem law_all.tw2425498562415444253 : True := trivial
theorem law_all.tw2440259602994764050 : True := trivial
theorem law_all.tw2465578340897827915 : True := trivial
theorem law_all.tw2466386354987971064 : True := trivial
theorem law_all.tw2534205154373081525 : True := trivial
theorem law_all.tw254210294449290986 : True := trivial
theorem law_all.tw2714459630560403676 : True := trivial
theorem law_all.tw2721814648045382242 : True := trivial
theorem law_all.tw2763200530551224835 : True := trivial
theorem law_all.tw2791512771193701167 : True := trivial
theorem law_all.tw2872085493576920064 : True := trivial
theorem law_all.tw2885707341163702077 : True := trivial
theorem law_all.tw289511000256421866 : True := trivial
theorem law_all.tw2897607846274201091 : True := trivial
theorem law_all.tw2942426997265644656 : True := trivial
theorem law_all.tw3049941219963327188 : True := trivial
theorem law_all.tw3053660256275331401 : True := trivial
theorem law_all.tw3105058145372789786 : True := trivial
theorem law_all.tw3116252448390264038 : True := trivial
theorem law_all.tw31263012393092130 : True := trivial
theorem law_all.tw3207115444309807146 : True := trivial
theorem law_all.tw3226911033302893226 : True := trivial
theorem law_all.tw3263060017730090603 : True := trivial
theorem law_all.tw3296963836593520940 : True := trivial
theorem law_all.tw3325111520719290175 : True := trivial
theorem law_all.tw3328231346644923771 : True := trivial
theorem law_all.tw3416886346130291467 : True := trivial
theorem law_all.tw3426539022656043222 : True := trivial
theorem law_all.tw34981568851968291 : True := trivial
theorem law_all.tw3560663033078476128 : True := trivial
theorem law_all.tw3602784471345507114 : True := trivial
theorem law_all.tw3647167244474244301 : True := trivial
theorem law_all.tw3658401073832251761 : True := trivial
theorem law_all.tw3672090284324724409 : True := trivial
theorem law_all.tw3707600311073335261 : True := trivial
theorem law_all.tw3728958221131766131 : True := trivial
theorem law_all.tw3740185271146487245 : True := trivial
theorem law_all.tw3806819470392062991 : True := trivial
theorem law_all.tw3826946535189723318 : True := trivial
theorem law_all.tw3907663706730131783 : True := trivial
theorem law_all.tw3983192056104361193 : True := trivial
theorem law_all.tw3986953027485292477 : True := trivial
theorem law_all.tw404534946110283943 : True := trivial
theorem law_all.tw4073406199993252850 : True := trivial
theorem law_all.tw4105255371170773908 : True := trivial
theorem law_all.tw4179209112946984403 : True := trivial
theorem law_all.tw4261436866732715612 : True := trivial
theorem law_all.tw4338267340049963969 : True := trivial
theorem law_all.tw4408054295985219607 : True := trivial
theorem law_all.tw4449761216389261190 : True := trivial
theorem law_all.tw4629605032302363013 : True := trivial
theorem law_all.tw4638716497167235156 : True := trivial
theorem law_all.tw4663659113027530946 : True := trivial
theorem law_all.tw4665142225715192508 : True := trivial
theorem law_all.tw4771868648470891126 : True := trivial
theorem law_all.tw4800166454244708440 : True := trivial
theorem law_all.tw4875587917594351017 : True := trivial
theorem law_all.tw498969334165971575 : True := trivial
theorem law_all.tw5007728179111998763 : True := trivial
theorem law_all.tw5058365699104195747 : True := trivial
theorem law_all.tw5124336459398086462 : True := trivial
theorem law_all.tw5285307726481897559 : True := trivial
theorem law_all.tw5332743953270975010 : True := trivial
theorem law_all.tw5391715999942285979 : True := trivial
theorem law_all.tw5403677533733193846 : True := trivial
theorem law_all.tw5467091673537627360 : True := trivial
theorem law_all.tw5606647511850069095 : True := trivial
theorem law_all.tw5621885739728775620 : True := trivial
theorem law_all.tw569701484050765398 : True := trivial
theorem law_all.tw5923626274025043023 : True := trivial
theorem law_all.tw5925129876391146066 : True := trivial
theorem law_all.tw6022211634629375331 : True := trivial
theorem law_all.tw6064550380648306667 : True := trivial
theorem law_all.tw6088511971668687690 : True := trivial
theorem law_all.tw6281336798887741830 : True := trivial
theorem law_all.tw6352045179492744985 : True := trivial
theorem law_all.tw6355135678535457092 : True := trivial
theorem law_all.tw644193453371022997 : True := trivial
theorem law_all.tw645013614473375241 : True := trivial
theorem law_all.tw6456847839567275990 : True := trivial
theorem law_all.tw6513319782983348548 : True := trivial
theorem law_all.tw6541656116107318362 : True := trivial
theorem law_all.tw6550320685308687620 : True := trivial
theorem law_all.tw6564360385875737041 : True := trivial
theorem law_all.tw6576918068840499882 : True := trivial
theorem law_all.tw6592884879708733306 : True := trivial
theorem law_all.tw6775264209203825292 : True := trivial
theorem law_all.tw6818535541638068524 : True := trivial
theorem law_all.tw6821728593225765917 : True := trivial
theorem law_all.tw6836950966206988683 : True := trivial
theorem law_all.tw6945231640579222094 : True := trivial
theorem law_all.tw7049779834799297369 : True := trivial
theorem law_all.tw7093450904264552785 : True := trivial
theorem law_all.tw711021382710547372 : True := trivial
theorem law_all.tw7209142699435546151 : True := trivial
theorem law_all.tw7219402698325937587 : True := trivial
theorem law_all.tw7241301525396740710 : True := trivial
theorem law_all.tw7244142420057014546 : True := trivial
theorem law_all.tw7271498159299846290 : True := trivial
theorem law_all.tw7290121776363987770 : True := trivial
theorem law_all.tw7292434958787203408 : True := trivial
theorem law_all.tw7296818474457393607 : True := trivial
theorem law_all.tw7297819598837024618 : True := trivial
theorem law_all.tw7318158564511299729 : True := trivial
theorem law_all.tw7379131392961922385 : True := trivial
theorem law_all.tw7382394883274062982 : True := trivial
theorem law_all.tw740504054621376137 : True := trivial
theorem law_all.tw7406990479455149028 : True := trivial
theorem law_all.tw7416931893851735294 : True := trivial
theorem law_all.tw743412211500013303 : True := trivial
theorem law_all.tw7497220510776412333 : True := trivial
theorem law_all.tw7515087699904939769 : True := trivial
theorem law_all.tw7564772252293548769 : True := trivial
theorem law_all.tw7574916185476446870 : True := trivial
theorem law_all.tw7647884552941119451 : True := trivial
theorem law_all.tw7791439051762490624 : True := trivial
theorem law_all.tw782427809645370415 : True := trivial
theorem law_all.tw7897600568026276390 : True := trivial
theorem law_all.tw7911531064090814180 : True := trivial
theorem law_all.tw7947241728778651431 : True := trivial
theorem law_all.tw801417409540640141 : True := trivial
theorem law_all.tw8093662343118647261 : True := trivial
theorem law_all.tw8295653638501232855 : True := trivial
theorem law_all.tw8305597428437692698 : True := trivial
theorem law_all.tw8406315387685492880 : True := trivial
theorem law_all.tw8559622642134532576 : True := trivial
theorem law_all.tw857312800663944748 : True := trivial
theorem law_all.tw8585119295471724657 : True := trivial
theorem law_all.tw8587321083128229445 : True := trivial
theorem law_all.tw8595197912787149095 : True := trivial
theorem law_all.tw8645198988984335144 : True := trivial
theorem law_all.tw8652508824891024273 : True := trivial
theorem law_all.tw866766908457270551 : True := trivial
theorem law_all.tw8729561690571945798 : True := trivial
theorem law_all.tw8732206733074496467 : True := trivial
theorem law_all.tw8836462397961589918 : True := trivial
theorem law_all.tw892440070764786429 : True := trivial
theorem law_all.tw8937883705780218553 : True := trivial
theorem law_all.tw8986646422429841763 : True := trivial
theorem law_all.tw9015332790510971594 : True := trivial
theorem law_all.tw9036414278844654636 : True := trivial
theorem law_all.tw9144500139776326259 : True := trivial
theorem law_all.tw9310598725500422130 : True := trivial
theorem law_all.tw9337859482809679654 : True := trivial
theorem law_all.tw937055499877386264 : True := trivial
theorem law_all.tw9389932311233280350 : True := trivial
theorem law_all.tw9400421687833027045 : True := trivial
theorem law_all.tw9429942708143374130 : True := trivial
theorem law_all.tw9496831969247301946 : True := trivial
theorem law_all.tw9552890226225023792 : True := trivial
theorem law_all.tw9615829016262974664 : True := trivial
theorem law_all.tw9621619661464635597 : True := trivial
theorem law_all.tw9642360315720231220 : True := trivial
theorem law_all.tw9697324461614764831 : True := trivial
theorem law_all.tw9758465039191818689 : True := trivial
theorem law_all.tw9815603410090176864 : True := trivial
theorem law_all.tw9847930118418132646 : True := trivial
theorem law_all.tw9929707098585528879 : True := trivial
theorem law_all.tw9987792911408698340 : True := trivial
theorem law_all.tw12071131443121754388 : True := trivial
theorem law_all.tw2062813613705201400 : True := trivial
def Ask : Prop := True
theorem ask_of (_ : PySem.Challenge.rw_nu0026_01.Holds) : Ask = True := rfl
set_option Elab.async true in
theorem hd : Ask ∧ True := by
  simp (disch := (w_on; o_law; k_head; (case hw => w_witness2))) only [ask_of, and_true]
  exact trivial
theorem hd_there : hd.heap_1_39 = hd.heap_1_39 ∧ hd.view_1_40 = hd.view_1_40 := ⟨rfl, rfl⟩
local macro_rules | `(tactic| walk_at $s:str) => `(tactic| k_extra $s)
local macro_rules | `(tactic| k_inst) => `(tactic| k_extra "k_inst")
local macro_rules | `(tactic| k_updF) => `(tactic| k_extra "k_updF")
local macro_rules | `(tactic| k_mem) => `(tactic| k_extra "k_mem")
local macro_rules | `(tactic| k_ne) => `(tactic| k_extra "k_ne")
local macro_rules | `(tactic| k_room) => `(tactic| k_extra "k_room")
local macro_rules | `(tactic| ktr_enter) => `(tactic| k_extra "ktr_enter")
noncomputable def Stood (h g : Heap) (led : List (Addr × Obj)) : Prop := ∀ b o, h.get? b = some o → b ∉ led.map (·.1) → g.get? b = some o
section
variable {prog : Program} {w : World} {A A₀ : Around} {s : Shared} {K : Frag} {L : Addr} {h₀ base : Heap} {m mg mb : Str → Option Value} {news : List (Addr × Obj)} {p : Program} {loose : List Str} {mean : ExcName → Option Value}
  {env : Env} {outer : List Env} {R : Result → Shared → Prop} {name qual : Str} {params : Arguments} {body : List Stmt} {scope : Scope} {dV kV doc pm cdv ct oc : Value} {an od : Option Addr} {osl : Array (Option Value)} {f : Addr} {args : Args} {binds : List (Str × Value)}
theorem codeG (B : Below A₀ base outer h₀) (F : Fr h₀ L s.heap m) (X₀ : K.In h₀) (N : News h₀ L s.heap news) (T : Top p loose mean mg mb h₀) (hA : A.frames = some (env :: outer)) (hf : env.frame = some L) (hke : env.scope.kind = .function)
    (ho : K.lookup f = some ⟨oc, od, .func (fnOf name qual params body scope dV kV doc pm an cdv ct), osl⟩) (hcd : codeIn K cdv qual = true) (hroom : A.depth < recursionLimit)
    (hbind : BindsTo s (fnOf name qual params body scope dV kV doc pm an cdv ct) args binds) (hloc : ∀ y ∈ binds, scope.names.lookup y.1 = some .local)
    (h : ∀ g L' h₁ (tk : Nat), Stood s.heap g news → Fr h₀ L g m → Fr g L' h₁ (fun y => binds.reverse.lookup y) → News g L' h₁ news → Below A base (env :: outer) g → K.In g → Top p loose mean mg mb g → (∀ p ∈ news, p.1 < L') →
      wpAny (model prog w) (A.deeper (envOf qual scope L' f cdv)) (execs body (envOf qual scope L' f cdv))
        (fun fl s' => LeaveK h₀ L m g R (match fl with | .ret v => v | _ => .none) s')
        (fun e s' => wpAny (model prog w) (A.deeper (envOf qual scope L' f cdv)) (leaving (envOf qual scope L' f cdv) e) (fun _ s'' => R (.error e) s'') (fun e' s'' => R (.error e') s'') s')
        { s with heap := h₁, toks := tk })
    (hco : scope.isCoroutine = false) (hgen : scope.isGenerator = false) (hk : scope.kind = .function)
    (hcell : ∀ x ∈ scope.names, x.2 ≠ .cell) : codeAny (model prog w) A (.call (.ref f) args) R s := by
  k_with_none
  w_top off
  (k_with "an" => (first | assumption | exact And.left (by assumption) | exact And.left (And.right (by assumption)) | exact And.left (And.right (And.right (by assumption))) | exact And.left (And.right (And.right (And.right (by assumption)))) | exact And.left (And.right (And.right (And.right (And.right (by assumption))))) | exact And.left (And.right (And.right (And.right (And.right (And.right (by assumption)))))) | exact And.left (And.right (And.right (And.right (And.right (And.right (And.right (by assumption))))))) | exact And.left (And.right (And.right (And.right (And.right (And.right (And.right (And.right (by assumption)))))))) | exact And.left (And.right (And.right (And.right (And.right (And.right (And.right (And.right (And.right (by assumption)))))))))))
  (k_with "k_ne" => (refine neN ?_; (try dsimp only); first | (refine Nat.ne_of_lt ?_; k_extra "an") | (refine Nat.ne_of_gt ?_; k_extra "an")))
  (k_with "sub" => (first | assumption | (refine List.mem_append_left _ ?_; k_extra "sub") | (refine List.mem_append_right _ ?_; k_extra "sub") | (refine List.Mem.tail _ ?_; k_extra "sub")))
  (k_with "gn" => refine (let P9 : Prop := _; (?_ : P9)))
  have gr := groundX (R := R) B F N hA hf hke
  have XG := X₀.keeps gr.2.2.1
  have TG := T.keeps gr.2.2.1
  refine codeAny_call_def (fd := fnX name qual params body scope [] dV kV doc pm an cdv ct) (body := body) (binds := binds) hroom ((X₀.keeps F.keep) _ _ ho) rfl (T.nolimit.keeps F.keep) (codeRec_of (X₀.keeps F.keep) hcd) rfl hbind hcell hloc (fun h₁ hns hk₁ => ?_) hco hgen hk
  refine wpAny_mono (h (hideAll s.heap (news.map (·.1))) s.heap.objs.size h₁ _ (fun b o e n => hideAll_get _ e n) gr.1 ?_ ?_ gr.2.1 XG TG fun p hp => Heap.lt_size (N p hp).1) (fun fl s' hl => gr.2.2.2 _ _ hl) fun _ _ y => y
  · exact ⟨hns, fun b o e => hk₁ b o (of_hideAll _ e), Nat.le_of_eq (hideAll_size _ _)⟩
  · exact fun q hq => ⟨hk₁ _ _ (N q hq).1, Nat.ne_of_lt (Heap.lt_size (N q hq).1), hideAll_none _ (List.mem_map_of_mem hq)⟩
theorem codeGC (B : Below A₀ base outer h₀) (F : Fr h₀ L s.heap m) (X₀ : K.In h₀) (N : News h₀ L s.heap news) (T : Top p loose mean mg mb h₀) (hA : A.frames = some (env :: outer)) (hf : env.frame = some L) (hke : env.scope.kind = .function)
    (ho : K.lookup f = some ⟨oc, od, .func (fnOf name qual params body scope dV kV doc pm an cdv ct), osl⟩) (hcd : codeIn K cdv qual = true) (hroom : A.depth < recursionLimit)
    (hbind : BindsTo s (fnOf name qual params body scope dV kV doc pm an cdv ct) args binds) (hkind : (binds.all fun y => scope.names.lookup y.1 == some .local || scope.names.lookup y.1 == some .cell) = true)
    (hnd : ((cellsFrom 0 scope.names []).map (·.1)).Nodup)
    (h : ∀ g L' h₁ tk cells, Stood s.heap g news → Fr h₀ L g m → Fr g L' h₁ (bindL (envOfC qual scope L' f cdv).kindOf binds fun _ => none) → News g L' h₁ (cells ++ news) →
      CellsAre (bindC (envOfC qual scope L' f cdv).kindOf binds fun _ => none) (cellsFrom (L' + 1) scope.names []) cells → Below A base (env :: outer) g → K.In g → Top p loose mean mg mb g → (∀ p ∈ news, p.1 < L') →
      wpAny (model prog w) (A.deeper (envOfC qual scope L' f cdv)) (execs body (envOfC qual scope L' f cdv))
        (fun fl s' => LeaveK h₀ L m g R (match fl with | .ret v => v | _ => .none) s')
        (fun e s' => wpAny (model prog w) (A.deeper (envOfC qual scope L' f cdv)) (leaving (envOfC qual scope L' f cdv) e) (fun _ s'' => R (.error e) s'') (fun e' s'' => R (.error e') s'') s')
        { s with heap := h₁, toks := tk })
    (hco : scope.isCoroutine = false) (hgen : scope.isGenerator = false) (hk : scope.kind = .function) : codeAny (model prog w) A (.call (.ref f) args) R s := by
  have gr := groundX (R := R) B F N hA hf hke
  have XG := X₀.keeps gr.2.2.1
  have TG := T.keeps gr.2.2.1
  refine codeAny_call_function (fd := fnX name qual params body scope [] dV kV doc pm an cdv ct) hroom ((X₀.keeps F.keep) _ _ ho) rfl hco hgen rfl (codeRec_of (X₀.keeps F.keep) hcd) (hbind _ _ _ _ ?_)
  refine wpAny_newFunctionEnv_cells hk (kindsX hkind _) fun env' he s' x => ?_
  subst he
  refine ⟨(T.nolimit.keeps F.keep).keeps x.toInCall.keep, codeAny_func ?_⟩
  k_extra "gn"; (obtain ⟨h₁, tk, rfl, _⟩ := x.done) <;> k_unfold
  have hk₁ := x.toInCall.keep
  obtain ⟨cells, NC, Y⟩ := Cl.news (h₀ := s.heap) (Nat.le_refl _) fun n c hm => ⟨x.cell n c (lookup_of_mem_nodup (cellsFrom_names scope.names 0 (s.heap.objs.size + 1) [] [] rfl ▸ hnd) hm), x.above n c hm⟩
  refine wpAny_mono (h (hideAll s.heap (news.map (·.1))) s.heap.objs.size h₁ tk cells (fun b o e n => hideAll_get _ e n) gr.1 ⟨x.toInCall.ns, fun b o e => hk₁ b o (of_hideAll _ e), Nat.le_of_eq (hideAll_size _ _)⟩ (fun q hq => ?_) Y gr.2.1 XG TG fun p hp => Heap.lt_size (N p hp).1) (fun fl s' hl => gr.2.2.2 _ _ hl) fun _ _ y => y
  rcases List.mem_append.mp hq with hq | hq
  · refine ⟨(NC q hq).1, (NC q hq).2.1, ?_⟩
    cases e : (hideAll s.heap (news.map (·.1))).get? q.1 with
    | none => rfl
    | some o => have z := of_hideAll _ e; rw [(NC q hq).2.2] at z; cases z
  · exact ⟨hk₁ _ _ (N q hq).1, Nat.ne_of_lt (Heap.lt_size (N q hq).1), hideAll_none _ (List.mem_map_of_mem hq)⟩
end
theorem ex3 {α β γ : Type} {p : α → β → γ → Prop} (a : α) (b : β) (c : γ) (q : p a b c) : ∃ a b c, p a b c := ⟨a, b, c, q⟩
theorem ex4 {α β γ δ : Type} {p : α → β → γ → δ → Prop} (a : α) (b : β) (c : γ) (d : δ) (q : p a b c d) : ∃ a b c d, p a b c d := ⟨a, b, c, d, q⟩
theorem ex9 {α β γ δ ε ζ η θ ι : Type} {p : α → β → γ → δ → ε → ζ → η → θ → ι → Prop} (a : α) (b : β) (c : γ) (d : δ) (e : ε) (f : ζ) (g : η) (h : θ) (i : ι) (q : p a b c d e f g h i) : ∃ a b c d e f g h i, p a b c d e f g h i := ⟨a, b, c, d, e, f, g, h, i, q⟩
theorem room_of {D dp k k' : Nat} (c : Nat) (hD : D = dp + c) (hd : dp + k < recursionLimit) (e : (c + k').ble k = true) : D + k' < recursionLimit := by
  have := Nat.le_of_ble_eq_true e
  omega
theorem room_of1 {D dp k : Nat} (c : Nat) (hD : D = dp + c) (hd : dp + k < recursionLimit) (e : c.ble k = true) : D < recursionLimit := by
  have := Nat.le_of_ble_eq_true e
  omega
theorem units_of {U un k k' : Nat} (c : Nat) (hU : U = un + c) (hu : un + k < cLine) (e : (c + k').ble k = true) : U + k' < cLine := by
  have := Nat.le_of_ble_eq_true e
  omega
theorem fr_binds {g h : Heap} {L : Addr} {binds : List (Str × Value)} (binds' : List (Str × Value)) (e : binds = binds') (F : Fr g L h (fun y => binds.reverse.lookup y)) : Fr g L h (fun y => binds'.reverse.lookup y) := e ▸ F
noncomputable def Spec (w : World) (mean : ExcName → Option Value) (mg mb : Str → Option Value) (f : Addr) (vs : List Value) (led : List (Addr × Obj)) (k : Nat) (P : Heap → Prop) (R : Value → List (Addr × Obj) → List (Addr × Obj) → Prop) : Prop :=
  ∀ (dp un : Nat) (gd : Option (List Code)) (cn : Str) (cs : Scope) (a : Addr) (ccd : Value) (cl : List (Str × Addr)) (outer : List Env) (A₀ : Around) (base h₀ : Heap) (L : Addr) (m : Str → Option Value) (s : Shared) (Q E : Value → Shared → Prop),
    Below A₀ base outer h₀ → Fr h₀ L s.heap m → (hd.heap_1_39 w.params).In h₀ → News h₀ L s.heap led →
    Top hd.view_1_40 (looseW hd.view_1_40 [Str.ofString "fraction", Str.ofString "write_decimal", Str.ofString "length", Str.ofString "Uses"]) mean mg mb h₀ →
    cs.kind = .function → P s.heap → dp + k < recursionLimit → un + 8 * k < cLine →
    (∀ r tl led' h' tk', Fr h₀ L h' m → News h₀ L h' (tl ++ led') → led'.map (·.1) = led.map (·.1) → Stood s.heap h' led → (∀ q ∈ tl, s.heap.get? q.1 = none) → R r led' tl → Q r { s with heap := h', toks := tk' }) →
    wpAny (model PySem.Challenge.rw_nu0026_01.row.prog w) (ktrTop dp un gd cn cs L a ccd cl outer) (call (.ref f) vs) Q E s
theorem spec_ret {h₀ g h' : Heap} {L L' : Addr} {m m' : Str → Option Value} {led all : List (Addr × Obj)} {s : Shared} {R : Value → List (Addr × Obj) → List (Addr × Obj) → Prop} {Q : Value → Shared → Prop} {r : Value} {tk' : Nat}
    (hret : ∀ r tl led' h' tk', Fr h₀ L h' m → News h₀ L h' (tl ++ led') → led'.map (·.1) = led.map (·.1) → Stood s.heap h' led → (∀ q ∈ tl, s.heap.get? q.1 = none) → R r led' tl → Q r { s with heap := h', toks := tk' })
    (hst : Stood s.heap g led) (kF : Fr h₀ L h' m) (kN : News h₀ L h' all) (F' : Fr g L' h' m') (N' : News g L' h' all) (tl led' : List (Addr × Obj))
    (sub : ∀ q ∈ tl ++ led', q ∈ all) (keys : led'.map (·.1) = led.map (·.1)) (lt : ∀ q ∈ tl, ∀ b ∈ led.map (·.1), q.1 ≠ b) (hR : R r led' tl) : Q r { s with heap := h', toks := tk' } := by
  refine hret r tl led' h' tk' kF (fun q hq => kN q (sub q hq)) keys (fun b o e n => F'.keep b o (hst b o e n)) (fun q hq => ?_) hR
  cases e : s.heap.get? q.1 with
  | none => rfl
  | some o =>
    have z := hst q.1 o e (fun hm => lt q hq q.1 hm rfl)
    rw [(N' q (sub q (List.mem_append_left _ hq))).2.2] at z
    cases z
theorem spec_ret0 {h₀ g h' : Heap} {L L' : Addr} {m m' : Str → Option Value} {all : List (Addr × Obj)} {s : Shared} {R : Value → List (Addr × Obj) → List (Addr × Obj) → Prop} {Q : Value → Shared → Prop} {r : Value} {tk' : Nat}
    (hret : ∀ r tl led' h' tk', Fr h₀ L h' m → News h₀ L h' (tl ++ led') → led'.map (·.1) = ([] : List (Addr × Obj)).map (·.1) → Stood s.heap h' [] → (∀ q ∈ tl, s.heap.get? q.1 = none) → R r led' tl → Q r { s with heap := h', toks := tk' })
    (hst : Stood s.heap g []) (kF : Fr h₀ L h' m) (kN : News h₀ L h' all) (F' : Fr g L' h' m') (N' : News g L' h' all) (tl : List (Addr × Obj))
    (sub : ∀ q ∈ tl, q ∈ all) (hR : R r [] tl) : Q r { s with heap := h', toks := tk' } :=
  spec_ret hret hst kF kN F' N' tl [] (fun q hq => sub q (by simpa using hq)) rfl (fun _ _ _ hb => nomatch hb) hR
theorem spec_use0R {w : World} {mean : ExcName → Option Value} {mg mb : Str → Option Value} {f : Addr} {vs : List Value} {k : Nat} {P : Heap → Prop} {R : Value → List (Addr × Obj) → List (Addr × Obj) → Prop}
    {dp un : Nat} {gd : Option (List Code)} {cn : Str} {cs : Scope} {a : Addr} {ccd : Value} {cl : List (Str × Addr)} {outer : List Env} {A₀ : Around} {base h₀ : Heap} {L : Addr} {m : Str → Option Value} {s : Shared} {Q E : Value → Shared → Prop} {news : List (Addr × Obj)}
    (S : Spec w mean mg mb f vs [] k P R) (B : Below A₀ base outer h₀) (F : Fr h₀ L s.heap m) (X : (hd.heap_1_39 w.params).In h₀) (N : News h₀ L s.heap news)
    (T : Top hd.view_1_40 (looseW hd.view_1_40 [Str.ofString "fraction", Str.ofString "write_decimal", Str.ofString "length", Str.ofString "Uses"]) mean mg mb h₀)
    (hk : cs.kind = .function) (hP : P s.heap) (hd : dp + k < recursionLimit) (hu : un + 8 * k < cLine)
    (ret : ∀ r tl h' tk', Fr h₀ L h' m → News h₀ L h' (tl ++ news) → (∀ q ∈ tl, s.heap.get? q.1 = none) → (∀ b o, s.heap.get? b = some o → h'.get? b = some o) → R r [] tl → Q r { s with heap := h', toks := tk' }) :
    wpAny (model PySem.Challenge.rw_nu0026_01.row.prog w) (ktrTop dp un gd cn cs L a ccd cl outer) (call (.ref f) vs) Q E s := by
  refine S dp un gd cn cs a ccd cl outer A₀ base h₀ L m s Q E B F X (fun _ h => nomatch h) T hk hP hd hu fun r tl led' h' tk' F' N' hl hst hfr hR => ?_
  have e : led' = [] := by cases led' with | nil => rfl | cons _ _ => cases hl
  subst e
  have st : ∀ b o, s.heap.get? b = some o → h'.get? b = some o := fun b o e => hst b o e (fun hb => nomatch hb)
  refine ret r tl h' tk' F' (fun q hq => ?_) hfr st hR
  rcases List.mem_append.mp hq with hq | hq
  · exact N' q (List.mem_append_left _ hq)
  · exact ⟨st _ _ (N q hq).1, (N q hq).2⟩
theorem one_key {d : Addr} {o : Obj} {l : List (Addr × Obj)} (h : l.map (·.1) = [(d, o)].map (·.1)) : ∃ o', l = [(d, o')] := by
  cases l with
  | nil => simp at h
  | cons q t =>
    cases t with
    | nil => obtain ⟨d', o'⟩ := q; simp at h; subst h; exact ⟨o', rfl⟩
    | cons _ _ => simp at h
theorem spec_use1R {w : World} {mean : ExcName → Option Value} {mg mb : Str → Option Value} {f : Addr} {vs : List Value} {k : Nat} {P : Heap → Prop} {R : Value → List (Addr × Obj) → List (Addr × Obj) → Prop}
    {dp un : Nat} {gd : Option (List Code)} {cn : Str} {cs : Scope} {a : Addr} {ccd : Value} {cl : List (Str × Addr)} {outer : List Env} {A₀ : Around} {base h₀ : Heap} {L d : Addr} {o : Obj} {m : Str → Option Value} {s : Shared} {Q E : Value → Shared → Prop} {news : List (Addr × Obj)} {g : Obj → List (Addr × Obj)}
    (S : Spec w mean mg mb f vs [(d, o)] k P R) (B : Below A₀ base outer h₀) (F : Fr h₀ L s.heap m) (X : (hd.heap_1_39 w.params).In h₀) (N : News h₀ L s.heap news) (U : UpdF d o news g)
    (T : Top hd.view_1_40 (looseW hd.view_1_40 [Str.ofString "fraction", Str.ofString "write_decimal", Str.ofString "length", Str.ofString "Uses"]) mean mg mb h₀)
    (hk : cs.kind = .function) (hP : P s.heap) (hd : dp + k < recursionLimit) (hu : un + 8 * k < cLine)
    (ret : ∀ r tl o' h' tk', Fr h₀ L h' m → News h₀ L h' (tl ++ g o') → (∀ q ∈ tl, s.heap.get? q.1 = none) → (∀ b o, s.heap.get? b = some o → b ≠ d → h'.get? b = some o) → R r [(d, o')] tl → Q r { s with heap := h', toks := tk' }) :
    wpAny (model PySem.Challenge.rw_nu0026_01.row.prog w) (ktrTop dp un gd cn cs L a ccd cl outer) (call (.ref f) vs) Q E s := by
  k_extra "gn"; (obtain ⟨pre, post, hl, hg, a1, a2⟩ := U.split) <;> k_unfold
  subst hl
  have hD := N (d, o) (List.mem_append_right _ (.head _))
  refine S dp un gd cn cs a ccd cl outer A₀ base h₀ L m s Q E B F X (fun q hq => by rw [List.mem_singleton.mp hq]; exact hD) T hk hP hd hu fun r tl led' h' tk' F' N' hk' hst hfr hR => ?_
  obtain ⟨o', rfl⟩ := one_key hk'
  have st : ∀ b o, s.heap.get? b = some o → b ≠ d → h'.get? b = some o := fun b o e n => hst b o e (fun hb => n (by simpa using hb))
  refine ret r tl o' h' tk' F' (fun q hq => ?_) hfr st hR
  rcases List.mem_append.mp hq with hq | hq
  · exact N' q (List.mem_append_left _ hq)
  · rw [hg] at hq
    rcases List.mem_append.mp hq with hq | hq
    · have z := N q (List.mem_append_left _ hq); exact ⟨st _ _ z.1 (a1 q hq), z.2⟩
    · rcases List.mem_cons.mp hq with rfl | hq
      · exact N' _ (List.mem_append_right _ (.head _))
      · have z := N q (List.mem_append_right _ (.tail _ hq)); exact ⟨st _ _ z.1 (a2 q hq), z.2⟩
noncomputable def TopB (A : Around) (h₀ : Heap) (L : Addr) (D U : Nat) : Prop := ∃ (gd : Option (List Code)) (cn : Str) (cs : Scope) (a : Addr) (ccd : Value) (cl : List (Str × Addr)) (outer : List Env) (A₀ : Around) (base : Heap), cs.kind = .function ∧ A = ktrTop D U gd cn cs L a ccd cl outer ∧ Below A₀ base outer h₀
theorem topb_of {A : Around} {h₀ : Heap} {L : Addr} {D U : Nat} {gd : Option (List Code)} {cn : Str} {cs : Scope} {a : Addr} {ccd : Value} {cl : List (Str × Addr)} {outer : List Env} {A₀ : Around} {base : Heap} (hk : cs.kind = .function) (e : A = ktrTop D U gd cn cs L a ccd cl outer) (B : Below A₀ base outer h₀) : TopB A h₀ L D U := ⟨gd, cn, cs, a, ccd, cl, outer, A₀, base, hk, e, B⟩
theorem spec_use0 {w : World} {mean : ExcName → Option Value} {mg mb : Str → Option Value} {f : Addr} {vs : List Value} {k : Nat} {P : Heap → Prop} {R : Value → List (Addr × Obj) → List (Addr × Obj) → Prop} {A : Around} {D U : Nat} {h₀ : Heap} {L : Addr} {m : Str → Option Value} {s : Shared} {Q E : Value → Shared → Prop} {news : List (Addr × Obj)}
    (S : Spec w mean mg mb f vs [] k P (R)) (B : TopB A h₀ L D U) (F : Fr h₀ L s.heap m) (X : (hd.heap_1_39 w.params).In h₀) (N : News h₀ L s.heap news) (T : Top hd.view_1_40 (looseW hd.view_1_40 [Str.ofString "fraction", Str.ofString "write_decimal", Str.ofString "length", Str.ofString "Uses"]) mean mg mb h₀) (hk : 0 = 0) (hP : P s.heap) (hd : D + k < recursionLimit) (hu : U + 8 * k < cLine)
    (ret : ∀ r tl h' tk', Fr h₀ L h' m → News h₀ L h' (tl ++ news) → (∀ q ∈ tl, s.heap.get? q.1 = none) → (∀ b o, s.heap.get? b = some o → h'.get? b = some o) → R r [] tl → Q r { s with heap := h', toks := tk' }) : wpAny (model PySem.Challenge.rw_nu0026_01.row.prog w) A (call (.ref f) vs) Q E s := by
  k_extra "gn"; (obtain ⟨gd, cn, cs, a, ccd, cl, outer, A₀, base, hk, rfl, B⟩ := B) <;> k_unfold
  exact spec_use0R S B F X N T hk hP hd hu ret
theorem spec_use1 {w : World} {mean : ExcName → Option Value} {mg mb : Str → Option Value} {f : Addr} {vs : List Value} {k : Nat} {P : Heap → Prop} {R : Value → List (Addr × Obj) → List (Addr × Obj) → Prop} {A : Around} {D U : Nat} {h₀ : Heap} {L d : Addr} {o : Obj} {m : Str → Option Value} {s : Shared} {Q E : Value → Shared → Prop} {news : List (Addr × Obj)} {g : Obj → List (Addr × Obj)}
    (S : Spec w mean mg mb f vs [(d, o)] k P (R)) (B : TopB A h₀ L D U) (F : Fr h₀ L s.heap m) (X : (hd.heap_1_39 w.params).In h₀) (N : News h₀ L s.heap news) (V : UpdF d o news g) (T : Top hd.view_1_40 (looseW hd.view_1_40 [Str.ofString "fraction", Str.ofString "write_decimal", Str.ofString "length", Str.ofString "Uses"]) mean mg mb h₀) (hk : 0 = 0) (hP : P s.heap) (hd : D + k < recursionLimit) (hu : U + 8 * k < cLine)
    (ret : ∀ r tl o' h' tk', Fr h₀ L h' m → News h₀ L h' (tl ++ g o') → (∀ q ∈ tl, s.heap.get? q.1 = none) → (∀ b o, s.heap.get? b = some o → b ≠ d → h'.get? b = some o) → R r [(d, o')] tl → Q r { s with heap := h', toks := tk' }) : wpAny (model PySem.Challenge.rw_nu0026_01.row.prog w) A (call (.ref f) vs) Q E s := by
  k_extra "gn"; (obtain ⟨gd, cn, cs, a, ccd, cl, outer, A₀, base, hk, rfl, B⟩ := B) <;> k_unfold
  exact spec_use1R S B F X N V T hk hP hd hu ret
theorem news_past {h₀ h : Heap} {L : Addr} {tl news : List (Addr × Obj)} (N : News h₀ L h (tl ++ news)) : News h₀ L h news := fun p hp => N p (List.mem_append_right _ hp)
theorem news_got {h₀ h : Heap} {L : Addr} {q : Addr × Obj} {tl news : List (Addr × Obj)} (N : News h₀ L h (tl ++ news)) (m : q ∈ tl) : News h₀ L h (q :: news) := fun p hp => by
  rcases List.mem_cons.mp hp with rfl | hp
  · exact N _ (List.mem_append_left _ m)
  · exact N p (List.mem_append_right _ hp)
theorem use_str {w : World} {mean : ExcName → Option Value} {mg mb : Str → Option Value} {f : Addr} {vs : List Value} {k : Nat} {P : Heap → Prop} {x : Str} {A : Around} {D U : Nat} {h₀ : Heap} {L : Addr} {m : Str → Option Value} {s : Shared} {Q E : Value → Shared → Prop} {news : List (Addr × Obj)}
    (S : Spec w mean mg mb f vs [] k P (fun r _ tl => tl = [] ∧ ∃ t, r = .str x t)) (B : TopB A h₀ L D U) (F : Fr h₀ L s.heap m) (X : (hd.heap_1_39 w.params).In h₀) (N : News h₀ L s.heap news) (T : Top hd.view_1_40 (looseW hd.view_1_40 [Str.ofString "fraction", Str.ofString "write_decimal", Str.ofString "length", Str.ofString "Uses"]) mean mg mb h₀) (hk : 0 = 0) (hP : P s.heap) (hd : D + k < recursionLimit) (hu : U + 8 * k < cLine)
    (ret : ∀ t h' tk', Fr h₀ L h' m → News h₀ L h' news → Q (.str x t) { s with heap := h', toks := tk' }) : wpAny (model PySem.Challenge.rw_nu0026_01.row.prog w) A (call (.ref f) vs) Q E s := spec_use0 S B F X N T hk hP hd hu fun r tl h' tk' F' N' fr st hR => by
  obtain ⟨rfl, t, rfl⟩ := hR
  exact ret t h' tk' F' N'
theorem use_strC {w : World} {mean : ExcName → Option Value} {mg mb : Str → Option Value} {f : Addr} {vs : List Value} {k : Nat} {P : Heap → Prop} {x : Str} {C : Prop} {A : Around} {D U : Nat} {h₀ : Heap} {L : Addr} {m : Str → Option Value} {s : Shared} {Q E : Value → Shared → Prop} {news : List (Addr × Obj)}
    (S : Spec w mean mg mb f vs [] k P (fun r _ tl => tl = [] ∧ C ∧ ∃ t, r = .str x t)) (B : TopB A h₀ L D U) (F : Fr h₀ L s.heap m) (X : (hd.heap_1_39 w.params).In h₀) (N : News h₀ L s.heap news) (T : Top hd.view_1_40 (looseW hd.view_1_40 [Str.ofString "fraction", Str.ofString "write_decimal", Str.ofString "length", Str.ofString "Uses"]) mean mg mb h₀) (hk : 0 = 0) (hP : P s.heap) (hd : D + k < recursionLimit) (hu : U + 8 * k < cLine)
    (ret : ∀ t h' tk', Fr h₀ L h' m → News h₀ L h' news → C → Q (.str x t) { s with heap := h', toks := tk' }) : wpAny (model PySem.Challenge.rw_nu0026_01.row.prog w) A (call (.ref f) vs) Q E s := spec_use0 S B F X N T hk hP hd hu fun r tl h' tk' F' N' fr st hR => by
  k_extra "gn"; (obtain ⟨rfl, c, t, rfl⟩ := hR) <;> k_unfold
  exact ret t h' tk' F' N' c
theorem use_strL {w : World} {mean : ExcName → Option Value} {mg mb : Str → Option Value} {f : Addr} {vs : List Value} {k : Nat} {P : Heap → Prop} {x : Str} {A : Around} {D U : Nat} {h₀ : Heap} {L : Addr} {m : Str → Option Value} {s : Shared} {Q E : Value → Shared → Prop} {news : List (Addr × Obj)}
    (S : Spec w mean mg mb f vs [] k P (fun r _ tl => (∃ t, r = .str x t) ∧ tl = [])) (B : TopB A h₀ L D U) (F : Fr h₀ L s.heap m) (X : (hd.heap_1_39 w.params).In h₀) (N : News h₀ L s.heap news) (T : Top hd.view_1_40 (looseW hd.view_1_40 [Str.ofString "fraction", Str.ofString "write_decimal", Str.ofString "length", Str.ofString "Uses"]) mean mg mb h₀) (hk : 0 = 0) (hP : P s.heap) (hd : D + k < recursionLimit) (hu : U + 8 * k < cLine)
    (ret : ∀ t h' tk', Fr h₀ L h' m → News h₀ L h' news → Q (.str x t) { s with heap := h', toks := tk' }) : wpAny (model PySem.Challenge.rw_nu0026_01.row.prog w) A (call (.ref f) vs) Q E s := spec_use0 S B F X N T hk hP hd hu fun r tl h' tk' F' N' fr st hR => by
  obtain ⟨⟨t, rfl⟩, rfl⟩ := hR
  exact ret t h' tk' F' N'
theorem use_is {w : World} {mean : ExcName → Option Value} {mg mb : Str → Option Value} {f : Addr} {vs : List Value} {k : Nat} {P : Heap → Prop} {v : Value} {A : Around} {D U : Nat} {h₀ : Heap} {L : Addr} {m : Str → Option Value} {s : Shared} {Q E : Value → Shared → Prop} {news : List (Addr × Obj)}
    (S : Spec w mean mg mb f vs [] k P (fun r _ tl => r = v ∧ tl = [])) (B : TopB A h₀ L D U) (F : Fr h₀ L s.heap m) (X : (hd.heap_1_39 w.params).In h₀) (N : News h₀ L s.heap news) (T : Top hd.view_1_40 (looseW hd.view_1_40 [Str.ofString "fraction", Str.ofString "write_decimal", Str.ofString "length", Str.ofString "Uses"]) mean mg mb h₀) (hk : 0 = 0) (hP : P s.heap) (hd : D + k < recursionLimit) (hu : U + 8 * k < cLine)
    (ret : ∀ h' tk', Fr h₀ L h' m → News h₀ L h' news → Q v { s with heap := h', toks := tk' }) : wpAny (model PySem.Challenge.rw_nu0026_01.row.prog w) A (call (.ref f) vs) Q E s := spec_use0 S B F X N T hk hP hd hu fun r tl h' tk' F' N' fr st hR => by
  obtain ⟨rfl, rfl⟩ := hR
  exact ret h' tk' F' N'
theorem use_isR {w : World} {mean : ExcName → Option Value} {mg mb : Str → Option Value} {f : Addr} {vs : List Value} {k : Nat} {P : Heap → Prop} {v : Value} {A : Around} {D U : Nat} {h₀ : Heap} {L : Addr} {m : Str → Option Value} {s : Shared} {Q E : Value → Shared → Prop} {news : List (Addr × Obj)}
    (S : Spec w mean mg mb f vs [] k P (fun r _ tl => tl = [] ∧ r = v)) (B : TopB A h₀ L D U) (F : Fr h₀ L s.heap m) (X : (hd.heap_1_39 w.params).In h₀) (N : News h₀ L s.heap news) (T : Top hd.view_1_40 (looseW hd.view_1_40 [Str.ofString "fraction", Str.ofString "write_decimal", Str.ofString "length", Str.ofString "Uses"]) mean mg mb h₀) (hk : 0 = 0) (hP : P s.heap) (hd : D + k < recursionLimit) (hu : U + 8 * k < cLine)
    (ret : ∀ h' tk', Fr h₀ L h' m → News h₀ L h' news → Q v { s with heap := h', toks := tk' }) : wpAny (model PySem.Challenge.rw_nu0026_01.row.prog w) A (call (.ref f) vs) Q E s := spec_use0 S B F X N T hk hP hd hu fun r tl h' tk' F' N' fr st hR => by
  obtain ⟨rfl, rfl⟩ := hR
  exact ret h' tk' F' N'
theorem use_int {w : World} {mean : ExcName → Option Value} {mg mb : Str → Option Value} {f : Addr} {vs : List Value} {k : Nat} {P : Heap → Prop} {n : Int} {A : Around} {D U : Nat} {h₀ : Heap} {L : Addr} {m : Str → Option Value} {s : Shared} {Q E : Value → Shared → Prop} {news : List (Addr × Obj)}
    (S : Spec w mean mg mb f vs [] k P (fun r _ tl => ∃ t, r = .int n t)) (B : TopB A h₀ L D U) (F : Fr h₀ L s.heap m) (X : (hd.heap_1_39 w.params).In h₀) (N : News h₀ L s.heap news) (T : Top hd.view_1_40 (looseW hd.view_1_40 [Str.ofString "fraction", Str.ofString "write_decimal", Str.ofString "length", Str.ofString "Uses"]) mean mg mb h₀) (hk : 0 = 0) (hP : P s.heap) (hd : D + k < recursionLimit) (hu : U + 8 * k < cLine)
    (ret : ∀ t h' tk', Fr h₀ L h' m → News h₀ L h' news → Q (.int n t) { s with heap := h', toks := tk' }) : wpAny (model PySem.Challenge.rw_nu0026_01.row.prog w) A (call (.ref f) vs) Q E s := spec_use0 S B F X N T hk hP hd hu fun r tl h' tk' F' N' fr st hR => by
  obtain ⟨t, rfl⟩ := hR
  exact ret t h' tk' F' (news_past N')
theorem use_obj {w : World} {mean : ExcName → Option Value} {mg mb : Str → Option Value} {f : Addr} {vs : List Value} {k : Nat} {P : Heap → Prop} {ob : Nat → Tok → Tok → Obj} {A : Around} {D U : Nat} {h₀ : Heap} {L : Addr} {m : Str → Option Value} {s : Shared} {Q E : Value → Shared → Prop} {news : List (Addr × Obj)}
    (S : Spec w mean mg mb f vs [] k P (fun r _ tl => ∃ l n t1 t2, r = .ref l ∧ (l, ob n t1 t2) ∈ tl)) (B : TopB A h₀ L D U) (F : Fr h₀ L s.heap m) (X : (hd.heap_1_39 w.params).In h₀) (N : News h₀ L s.heap news) (T : Top hd.view_1_40 (looseW hd.view_1_40 [Str.ofString "fraction", Str.ofString "write_decimal", Str.ofString "length", Str.ofString "Uses"]) mean mg mb h₀) (hk : 0 = 0) (hP : P s.heap) (hd : D + k < recursionLimit) (hu : U + 8 * k < cLine)
    (ret : ∀ l n t1 t2 h' tk', Fr h₀ L h' m → News h₀ L h' ((l, ob n t1 t2) :: news) → Q (.ref l) { s with heap := h', toks := tk' }) : wpAny (model PySem.Challenge.rw_nu0026_01.row.prog w) A (call (.ref f) vs) Q E s := spec_use0 S B F X N T hk hP hd hu fun r tl h' tk' F' N' fr st hR => by
  k_extra "gn"; (obtain ⟨l, n, t1, t2, rfl, hm⟩ := hR) <;> k_unfold
  exact ret l n t1 t2 h' tk' F' (news_got N' hm)
theorem use_objR {w : World} {mean : ExcName → Option Value} {mg mb : Str → Option Value} {f : Addr} {vs : List Value} {k : Nat} {P : Heap → Prop} {ob : Nat → Tok → Tok → Obj} {A : Around} {D U : Nat} {h₀ : Heap} {L : Addr} {m : Str → Option Value} {s : Shared} {Q E : Value → Shared → Prop} {news : List (Addr × Obj)}
    (S : Spec w mean mg mb f vs [] k P (fun r _ tl => ∃ l, r = .ref l ∧ ∃ n t1 t2, (l, ob n t1 t2) ∈ tl)) (B : TopB A h₀ L D U) (F : Fr h₀ L s.heap m) (X : (hd.heap_1_39 w.params).In h₀) (N : News h₀ L s.heap news) (T : Top hd.view_1_40 (looseW hd.view_1_40 [Str.ofString "fraction", Str.ofString "write_decimal", Str.ofString "length", Str.ofString "Uses"]) mean mg mb h₀) (hk : 0 = 0) (hP : P s.heap) (hd : D + k < recursionLimit) (hu : U + 8 * k < cLine)
    (ret : ∀ l n t1 t2 h' tk', Fr h₀ L h' m → News h₀ L h' ((l, ob n t1 t2) :: news) → Q (.ref l) { s with heap := h', toks := tk' }) : wpAny (model PySem.Challenge.rw_nu0026_01.row.prog w) A (call (.ref f) vs) Q E s := spec_use0 S B F X N T hk hP hd hu fun r tl h' tk' F' N' fr st hR => by
  k_extra "gn"; (obtain ⟨l, rfl, n, t1, t2, hm⟩ := hR) <;> k_unfold
  exact ret l n t1 t2 h' tk' F' (news_got N' hm)
theorem use_ref {w : World} {mean : ExcName → Option Value} {mg mb : Str → Option Value} {f : Addr} {vs : List Value} {k : Nat} {P : Heap → Prop} {C : List (Addr × Obj) → Addr → Prop} {A : Around} {D U : Nat} {h₀ : Heap} {L : Addr} {m : Str → Option Value} {s : Shared} {Q E : Value → Shared → Prop} {news : List (Addr × Obj)}
    (S : Spec w mean mg mb f vs [] k P (fun r _ tl => ∃ d, r = .ref d ∧ C tl d)) (B : TopB A h₀ L D U) (F : Fr h₀ L s.heap m) (X : (hd.heap_1_39 w.params).In h₀) (N : News h₀ L s.heap news) (T : Top hd.view_1_40 (looseW hd.view_1_40 [Str.ofString "fraction", Str.ofString "write_decimal", Str.ofString "length", Str.ofString "Uses"]) mean mg mb h₀) (hk : 0 = 0) (hP : P s.heap) (hd : D + k < recursionLimit) (hu : U + 8 * k < cLine)
    (ret : ∀ d tl h' tk', Fr h₀ L h' m → News h₀ L h' (tl ++ news) → (∀ q ∈ tl, s.heap.get? q.1 = none) → (∀ b o, s.heap.get? b = some o → h'.get? b = some o) → C tl d → Q (.ref d) { s with heap := h', toks := tk' }) : wpAny (model PySem.Challenge.rw_nu0026_01.row.prog w) A (call (.ref f) vs) Q E s := spec_use0 S B F X N T hk hP hd hu fun r tl h' tk' F' N' fr st hR => by
  obtain ⟨d, rfl, c⟩ := hR
  exact ret d tl h' tk' F' N' fr st c
theorem one_o {d : Addr} {o o' : Obj} (h : [(d, o)] = [(d, o')]) : o = o' := (Prod.mk.inj (List.cons.inj h).1).2
theorem use_one {w : World} {mean : ExcName → Option Value} {mg mb : Str → Option Value} {f : Addr} {vs : List Value} {k : Nat} {P : Heap → Prop} {us : List Value} {A : Around} {D U : Nat} {h₀ : Heap} {L d : Addr} {o : Obj} {m : Str → Option Value} {s : Shared} {Q E : Value → Shared → Prop} {news : List (Addr × Obj)} {g : Obj → List (Addr × Obj)}
    (S : Spec w mean mg mb f vs [(d, o)] k P (fun r led' tl => tl = [] ∧ r ∈ us ∧ ∃ a' b' ta' tb' n', 0 ≤ a' ∧ 0 ≤ b' ∧ b' < 2147483647 ∧ led' = [(d, PySem.W.listOf #[.int a' ta', .int b' tb'] n')])) (B : TopB A h₀ L D U) (F : Fr h₀ L s.heap m) (X : (hd.heap_1_39 w.params).In h₀) (N : News h₀ L s.heap news) (V : UpdF d o news g) (T : Top hd.view_1_40 (looseW hd.view_1_40 [Str.ofString "fraction", Str.ofString "write_decimal", Str.ofString "length", Str.ofString "Uses"]) mean mg mb h₀) (hk : 0 = 0) (hP : P s.heap) (hd : D + k < recursionLimit) (hu : U + 8 * k < cLine)
    (ret : ∀ r a' b' ta' tb' n' h' tk', Fr h₀ L h' m → News h₀ L h' (g (PySem.W.listOf #[.int a' ta', .int b' tb'] n')) → r ∈ us → 0 ≤ a' → 0 ≤ b' → b' < 2147483647 → Q r { s with heap := h', toks := tk' }) : wpAny (model PySem.Challenge.rw_nu0026_01.row.prog w) A (call (.ref f) vs) Q E s := spec_use1 S B F X N V T hk hP hd hu fun r tl o' h' tk' F' N' fr st hR => by
  k_extra "gn"; (obtain ⟨rfl, hm, a', b', ta', tb', n', h1, h2, h3, e⟩ := hR) <;> k_unfold
  obtain rfl := one_o e
  exact ret r a' b' ta' tb' n' h' tk' F' N' hm h1 h2 h3
theorem use_take {w : World} {mean : ExcName → Option Value} {mg mb : Str → Option Value} {f : Addr} {vs : List Value} {k : Nat} {P : Heap → Prop} {top : Int} {A : Around} {D U : Nat} {h₀ : Heap} {L d : Addr} {o : Obj} {m : Str → Option Value} {s : Shared} {Q E : Value → Shared → Prop} {news : List (Addr × Obj)} {g : Obj → List (Addr × Obj)}
    (S : Spec w mean mg mb f vs [(d, o)] k P (fun r led' tl => tl = [] ∧ ∃ v t a' b' ta' tb' n', r = .int v t ∧ 0 ≤ v ∧ v < top ∧ 0 ≤ a' ∧ 0 ≤ b' ∧ b' < 2147483647 ∧ led' = [(d, PySem.W.listOf #[.int a' ta', .int b' tb'] n')])) (B : TopB A h₀ L D U) (F : Fr h₀ L s.heap m) (X : (hd.heap_1_39 w.params).In h₀) (N : News h₀ L s.heap news) (V : UpdF d o news g) (T : Top hd.view_1_40 (looseW hd.view_1_40 [Str.ofString "fraction", Str.ofString "write_decimal", Str.ofString "length", Str.ofString "Uses"]) mean mg mb h₀) (hk : 0 = 0) (hP : P s.heap) (hd : D + k < recursionLimit) (hu : U + 8 * k < cLine)
    (ret : ∀ v t a' b' ta' tb' n' h' tk', Fr h₀ L h' m → News h₀ L h' (g (PySem.W.listOf #[.int a' ta', .int b' tb'] n')) → 0 ≤ v → v < top → 0 ≤ a' → 0 ≤ b' → b' < 2147483647 → Q (.int v t) { s with heap := h', toks := tk' }) : wpAny (model PySem.Challenge.rw_nu0026_01.row.prog w) A (call (.ref f) vs) Q E s := spec_use1 S B F X N V T hk hP hd hu fun r tl o' h' tk' F' N' fr st hR => by
  k_extra "gn"; (obtain ⟨rfl, v, t, a', b', ta', tb', n', rfl, h4, h5, h1, h2, h3, e⟩ := hR) <;> k_unfold
  obtain rfl := one_o e
  exact ret v t a' b' ta' tb' n' h' tk' F' N' h4 h5 h1 h2 h3
theorem use_same {w : World} {mean : ExcName → Option Value} {mg mb : Str → Option Value} {f : Addr} {vs : List Value} {k : Nat} {P : Heap → Prop} {v : Tok → Value} {o2 : Obj} {A : Around} {D U : Nat} {h₀ : Heap} {L d : Addr} {o : Obj} {m : Str → Option Value} {s : Shared} {Q E : Value → Shared → Prop} {news : List (Addr × Obj)} {g : Obj → List (Addr × Obj)}
    (S : Spec w mean mg mb f vs [(d, o)] k P (fun r led' tl => tl = [] ∧ (∃ t, r = v t) ∧ led' = [(d, o2)])) (B : TopB A h₀ L D U) (F : Fr h₀ L s.heap m) (X : (hd.heap_1_39 w.params).In h₀) (N : News h₀ L s.heap news) (V : UpdF d o news g) (T : Top hd.view_1_40 (looseW hd.view_1_40 [Str.ofString "fraction", Str.ofString "write_decimal", Str.ofString "length", Str.ofString "Uses"]) mean mg mb h₀) (hk : 0 = 0) (hP : P s.heap) (hd : D + k < recursionLimit) (hu : U + 8 * k < cLine)
    (ret : ∀ t h' tk', Fr h₀ L h' m → News h₀ L h' (g o2) → Q (v t) { s with heap := h', toks := tk' }) : wpAny (model PySem.Challenge.rw_nu0026_01.row.prog w) A (call (.ref f) vs) Q E s := spec_use1 S B F X N V T hk hP hd hu fun r tl o' h' tk' F' N' fr st hR => by
  k_extra "gn"; (obtain ⟨rfl, ⟨t, rfl⟩, e⟩ := hR) <;> k_unfold
  obtain rfl := one_o e
  exact ret t h' tk' F' N'
noncomputable def sVal {β : Type} (kd : Str → Option NameKind) (m : Str → Option Value) (t : Nat) (e : PySem.Expr) (k : Value → Nat → Option β) : Option β := match e with
  | .Name x _ => if (x == ("__debug__" : Str)) = false ∧ kd x = some .local then (match m x with | some v => k v t | none => none) else none
  | .Constant c _ _ => match c with
    | .int i => k (.int i t) (t + 1)
    | .str x => k (.str x t) (t + 1)
    | .bool b => k (.bool b) t
    | .none => k .none t
    | _ => none
  | _ => none
noncomputable def sVals {β : Type} (kd : Str → Option NameKind) (m : Str → Option Value) : List PySem.Expr → Nat → (List Value → Nat → Option β) → Option β
  | [], t, k => k [] t
  | e :: r, t, k => sVal kd m t e fun v t' => sVals kd m r t' fun vs t'' => k (v :: vs) t''
noncomputable def s1 (v : Value) (t : Nat) : Option (Value × Nat) := some (v, t)
noncomputable def sN (v : List Value) (t : Nat) : Option (List Value × Nat) := some (v, t)
noncomputable def FnE (env : Env) (L : Addr) : Prop := env.scope.kind = .function ∧ env.locals = L ∧ env.globals = mainGlobals
section
variable {M : Model} {A : Around} {E : Value → Shared → Prop} {h : Heap} {g : Array GenState} {d : Drawn} {t t₁ t' : Nat} {o : OsState} {h₀ : Heap} {L : Addr} {m : Str → Option Value} {env : Env}
theorem s_ev {β : Type} {e : PySem.Expr} {z : β} {k : Value → Nat → Option β} (V : FnE env L) (F : Fr h₀ L h m) (x : sVal env.kindOf m t e k = some z) : ∃ v t', k v t' = some z ∧ (∀ Q : Value → Shared → Prop, Q v ⟨h, g, d, t', o⟩ → wpAny M A (eval e env) Q E ⟨h, g, d, t, o⟩) ∧ ∀ rest, starEach (e :: rest) env = (false, eval e env) :: starEach rest env := by
  k_with_none
  w_top off
  (k_with "an" => (first | assumption | exact And.left (by assumption) | exact And.left (And.right (by assumption)) | exact And.left (And.right (And.right (by assumption))) | exact And.left (And.right (And.right (And.right (by assumption)))) | exact And.left (And.right (And.right (And.right (And.right (by assumption))))) | exact And.left (And.right (And.right (And.right (And.right (And.right (by assumption)))))) | exact And.left (And.right (And.right (And.right (And.right (And.right (And.right (by assumption))))))) | exact And.left (And.right (And.right (And.right (And.right (And.right (And.right (And.right (by assumption)))))))) | exact And.left (And.right (And.right (And.right (And.right (And.right (And.right (And.right (And.right (by assumption)))))))))))
  (k_with "k_ne" => (refine neN ?_; (try dsimp only); first | (refine Nat.ne_of_lt ?_; k_extra "an") | (refine Nat.ne_of_gt ?_; k_extra "an")))
  (k_with "sub" => (first | assumption | (refine List.mem_append_left _ ?_; k_extra "sub") | (refine List.mem_append_right _ ?_; k_extra "sub") | (refine List.Mem.tail _ ?_; k_extra "sub")))
  obtain ⟨V, rfl, _⟩ := V
  cases e with
  | Name y p =>
    replace x : (if (y == ("__debug__" : Str)) = false ∧ env.kindOf y = some .local then (match m y with | some v => k v t | none => none) else none) = some z := x
    by_cases c : (y == ("__debug__" : Str)) = false ∧ env.kindOf y = some .local
    · rw [if_pos c] at x
      cases hu : m y with
      | none => rw [hu] at x; cases x
      | some v => rw [hu] at x; exact ⟨v, t, x, fun Q q => wpAny_Name (wpAny_loadName_local V c.2 F.ns hu q) c.1, fun _ => rfl⟩
    · rw [if_neg c] at x; cases x
  | Constant c _ p => cases c <;> first | exact ⟨_, _, x, fun Q q => wpAny_Constant_int q, fun _ => rfl⟩ | exact ⟨_, _, x, fun Q q => wpAny_Constant_str q, fun _ => rfl⟩ | exact ⟨_, _, x, fun Q q => wpAny_Constant_bool q, fun _ => rfl⟩ | exact ⟨_, _, x, fun Q q => wpAny_Constant_none q, fun _ => rfl⟩ | exact absurd (show none = some _ from x) (Option.some_ne_none _).symm
  | _ => exact absurd (show none = some _ from x) (Option.some_ne_none _).symm
theorem s_evs {β : Type} {pos : Pos} {args : List PySem.Expr} {z : β} {k : List Value → Nat → Option β} (V : FnE env L) (F : Fr h₀ L h m) (x : sVals env.kindOf m args t k = some z) : ∃ vs t', k vs t' = some z ∧ (∀ Q : List Value → Shared → Prop, Q vs ⟨h, g, d, t', o⟩ → wpAny M A (spliced (backTo pos (starEach args env))) Q E ⟨h, g, d, t, o⟩) ∧ (backTo pos (starEach args env)).any (·.1) = false := by
  induction args generalizing t k with
  | nil => exact ⟨[], t, x, fun Q q => args_nil q, rfl⟩
  | cons e r ih =>
    obtain ⟨v, t₁, y, q1, p1⟩ := s_ev (M := M) (A := A) (E := E) (g := g) (d := d) (o := o) V F x
    obtain ⟨vs, t₂, y, q2, p2⟩ := ih y
    exact ⟨v :: vs, t₂, y, fun Q q => args_cons (q1 _ (q2 (fun vs s => Q (v :: vs) s) q)) (p1 r), (p1 r).symm ▸ p2⟩
theorem s_val {e : PySem.Expr} {v : Value} {Q : Value → Shared → Prop} (V : FnE env L) (F : Fr h₀ L h m) (x : sVal env.kindOf m t e s1 = some (v, t')) (q : Q v ⟨h, g, d, t', o⟩) : wpAny M A (eval e env) Q E ⟨h, g, d, t, o⟩ := by
  obtain ⟨_, _, y, z, _⟩ := s_ev V F x
  cases y
  exact z Q q
theorem s_args {pos : Pos} {args : List PySem.Expr} {vs : List Value} {Q : List Value → Shared → Prop} (V : FnE env L) (F : Fr h₀ L h m) (x : sVals env.kindOf m args t sN = some (vs, t')) (q : Q vs ⟨h, g, d, t', o⟩) : wpAny M A (spliced (backTo pos (starEach args env))) Q E ⟨h, g, d, t, o⟩ := by
  obtain ⟨_, _, y, z, _⟩ := s_evs V F x
  cases y
  exact z Q q
theorem s_pair {prog : Program} {w : World} {pos : Pos} {k e : PySem.Expr} {ks : List (Option PySem.Expr)} {es : List PySem.Expr} {kv v : Value} {Q : List (Value × Value) → Shared → Prop} (V : FnE env L) (F : Fr h₀ L h m) (x : sVal env.kindOf m t k s1 = some (kv, t₁)) (y : sVal env.kindOf m t₁ e s1 = some (v, t')) (q : wpAny (model prog w) A (evalPairs (pairTrees ks es env pos)) (fun r s₃ => Q ((kv, v) :: r) s₃) E ⟨h, g, d, t', o⟩) : wpAny (model prog w) A (evalPairs (pairTrees (some k :: ks) (e :: es) env pos)) Q E ⟨h, g, d, t, o⟩ :=
  pairTrees_cons_walk (s_val V F x (s_val V F y q))
theorem s_bin {l r : PySem.Expr} {op : Operator} {pos : Pos} {a b : Value} {Q : Value → Shared → Prop} (V : FnE env L) (F : Fr h₀ L h m) (x : sVal env.kindOf m t l s1 = some (a, t₁)) (y : sVal env.kindOf m t₁ r s1 = some (b, t')) (q : wpAny M A (binaryOp op a b) Q E ⟨h, g, d, t', o⟩) : wpAny M A (eval (.BinOp l op r pos) env) Q E ⟨h, g, d, t, o⟩ :=
  wpAny_BinOp (s_val V F x (s_val V F y q))
theorem s_binL {l r : PySem.Expr} {op : Operator} {pos : Pos} {a : Value} {Q : Value → Shared → Prop} (V : FnE env L) (F : Fr h₀ L h m) (x : sVal env.kindOf m t l s1 = some (a, t')) (q : wpAny M A (eval r env) (fun b s₂ => wpAny M A (binaryOp op a b) Q E s₂) E ⟨h, g, d, t', o⟩) : wpAny M A (eval (.BinOp l op r pos) env) Q E ⟨h, g, d, t, o⟩ :=
  wpAny_BinOp (s_val V F x q)
theorem s_cmp {l r : PySem.Expr} {op : CmpOp} {pos : Pos} {whole : Sem Value} {a b : Value} {Q : Bool → Shared → Prop} (V : FnE env L) (F : Fr h₀ L h m) (x : sVal env.kindOf m t l s1 = some (a, t₁)) (y : sVal env.kindOf m t₁ r s1 = some (b, t')) (hm : behindInMarks op r = false) (q : wpAny M A (compareOp op a b) (fun c s₃ => wpAny M A (truthy c) Q E s₃) E ⟨h, g, d, t', o⟩) : wpAny M A (isTrue (.Compare l [op] [r] pos) env whole) Q E ⟨h, g, d, t, o⟩ :=
  wpAny_isTrue_Compare1 (s_val V F x (s_val V F y q)) hm
theorem s_cmpL {l r : PySem.Expr} {op : CmpOp} {pos : Pos} {whole : Sem Value} {a : Value} {Q : Bool → Shared → Prop} (V : FnE env L) (F : Fr h₀ L h m) (x : sVal env.kindOf m t l s1 = some (a, t')) (hm : behindInMarks op r = false) (q : wpAny M A (eval r env) (fun b s₂ => wpAny M A (compareOp op a b) (fun c s₃ => wpAny M A (truthy c) Q E s₃) E s₂) E ⟨h, g, d, t', o⟩) : wpAny M A (isTrue (.Compare l [op] [r] pos) env whole) Q E ⟨h, g, d, t, o⟩ :=
  wpAny_isTrue_Compare1 (s_val V F x q) hm
theorem s_sub {l r : PySem.Expr} {pos : Pos} {a b : Value} {Q : Value → Shared → Prop} (V : FnE env L) (F : Fr h₀ L h m) (x : sVal env.kindOf m t l s1 = some (a, t₁)) (y : sVal env.kindOf m t₁ r s1 = some (b, t')) (q : wpAny M A (subscriptTail l r a b) Q E ⟨h, g, d, t', o⟩) : wpAny M A (eval (.Subscript l r pos) env) Q E ⟨h, g, d, t, o⟩ :=
  Subscript_ (s_val V F x (s_val V F y q))
theorem s_subL {l r : PySem.Expr} {pos : Pos} {a : Value} {Q : Value → Shared → Prop} (V : FnE env L) (F : Fr h₀ L h m) (x : sVal env.kindOf m t l s1 = some (a, t')) (q : wpAny M A (eval r env) (fun i s₂ => wpAny M A (subscriptTail l r a i) Q E s₂) E ⟨h, g, d, t', o⟩) : wpAny M A (eval (.Subscript l r pos) env) Q E ⟨h, g, d, t, o⟩ :=
  Subscript_ (s_val V F x q)
theorem s_list {es : List PySem.Expr} {pos : Pos} {vs : List Value} {Q : Value → Shared → Prop} (V : FnE env L) (F : Fr h₀ L h m) (x : sVals env.kindOf m es t sN = some (vs, t')) (q : wpAny M A (newList vs) Q E ⟨h, g, d, t', o⟩) : wpAny M A (eval (.List es pos) env) Q E ⟨h, g, d, t, o⟩ := List_ (s_args V F x q)
theorem s_tuple {es : List PySem.Expr} {k : Nat} {pos : Pos} {vs : List Value} {Q : Value → Shared → Prop} (V : FnE env L) (F : Fr h₀ L h m) (x : sVals env.kindOf m es t sN = some (vs, t')) (q : wpAny M A (newTuple vs) Q E ⟨h, g, d, t', o⟩) : wpAny M A (eval (.Tuple es k pos) env) Q E ⟨h, g, d, t, o⟩ := Tuple_ (s_args V F x q)
theorem s_ret {e : PySem.Expr} {pos : Pos} {v : Value} {Q : Flow → Shared → Prop} (V : FnE env L) (F : Fr h₀ L h m) (x : sVal env.kindOf m t e s1 = some (v, t')) (q : Q (.ret v) ⟨h, g, d, t', o⟩) : wpAny M A (exec (.Return (some e) pos) env) Q E ⟨h, g, d, t, o⟩ := wpAny_Return_some (s_val V F x q)
theorem s_attr {x attr : Str} {xp pos : Pos} {v : Value} {Q : Value → Shared → Prop} (V : FnE env L) (F : Fr h₀ L h m) (y : sVal env.kindOf m t (.Name x xp) s1 = some (v, t')) (q : wpAny M A (getAttr v attr true) Q E ⟨h, g, d, t', o⟩)
    (he : eval (.Attribute (.Name x xp) attr pos) env = (do
      let o ← eval (.Name x xp) env
      standAt pos.atName
      let r ← holding [o] (getAttr o attr true)
      letTemporaryGo (.Name x xp) o r
      pure r) := by with_unfolding_all rfl) : wpAny M A (eval (.Attribute (.Name x xp) attr pos) env) Q E ⟨h, g, d, t, o⟩ := Attribute_Name_ (s_val V F y q) he
theorem s_asg {x : Str} {e : PySem.Expr} {xp pos : Pos} {v : Value} {Q : Flow → Shared → Prop} (V : FnE env L) (F : Fr h₀ L h m) (y : sVal env.kindOf m t e s1 = some (v, t')) (q : wpAny M A (storeName env x v) (fun _ => Q .next) E ⟨h, g, d, t', o⟩) (hs : swapsWith e (some (.Name x xp)) pos.line env = pure false := by rfl) : wpAny M A (exec (.Assign [.Name x xp] e pos) env) Q E ⟨h, g, d, t, o⟩ := wpAny_Assign_Name (s_val V F y q) hs
theorem s_with {K : Frag} {f : Value} {pos : Pos} {args : List PySem.Expr} {vs : List Value} {Q : Value → Shared → Prop} (V : FnE env L) (F : Fr h₀ L h m) (X : K.In h₀) (hk : keepIn K f = true) (x : sVals env.kindOf m args t sN = some (vs, t')) (q : wpAny M A (call f vs) Q E ⟨h, g, d, t', o⟩) : wpAny M A (callWith pos f [] (backTo pos (starEach args env)) []) Q E ⟨h, g, d, t, o⟩ := by
  obtain ⟨_, _, y, z, pl⟩ := s_evs (pos := pos) (M := M) (A := A) (E := E) (g := g) (d := d) (o := o) V F x
  cases y
  cases args with
  | nil => cases x; exact callWith_K0 (X.keeps F.keep) hk q
  | cons e r =>
    obtain ⟨_, _, _, _, p⟩ := s_ev (M := M) (A := A) (E := E) (g := g) (d := d) (o := o) V F x
    rw [p r] at pl
    exact callWith_K (h₀ := h₀) X hk (z _ ⟨X.keeps F.keep, q⟩) (p r) pl
theorem s_call {K : Frag} {p : Program} {loose : List Str} {mean : ExcName → Option Value} {mg mb : Str → Option Value} {x : Str} {xp pos : Pos} {f : Value} {args : List PySem.Expr} {vs : List Value} {Q : Value → Shared → Prop} (V : FnE env L) (F : Fr h₀ L h m) (X : K.In h₀) (T : Top p loose mean mg mb h₀) (e : nsIn K mainGlobals x = some (some f)) (hx : env.kindOf x = some .globalImplicit) (hd : (x == ("__debug__" : Str)) = false) (hk : keepIn K f = true) (y : sVals env.kindOf m args t sN = some (vs, t')) (q : wpAny M A (call f vs) Q E ⟨h, g, d, t', o⟩)
    (he : eval (.Call (.Name x xp) args [] pos) env = (do callWith pos (← eval (.Name x xp) env) [] (backTo pos (starEach args env)) (backToKw pos (keywordEach [] env))) := by rfl) : wpAny M A (eval (.Call (.Name x xp) args [] pos) env) Q E ⟨h, g, d, t, o⟩ := by
  refine Call_ (Name_function_global V.1 hx (loadGlobal_global (mg := mg) ?_ (mg_of X T.g e) (s_with V F X hk y q)) hd) he
  rw [V.2.2]
  exact T.g.keeps F.keep
theorem c_store {x : Str} {v : Value} {news : List (Addr × Obj)} {Q : Unit → Shared → Prop} (V : FnE env L) (F : Fr h₀ L h m) (N : News h₀ L h news) (hx : env.kindOf x = some .local) (q : ∀ h' tk, Fr h₀ L h' (fun y => if y = x then some v else m y) → News h₀ L h' news → Q () ⟨h', g, d, tk, o⟩) : wpAny M A (storeName env x v) Q E ⟨h, g, d, t, o⟩ := by
  obtain ⟨V, rfl, _⟩ := V
  exact wpAny_storeName_local hx F.ns (fun h' hn hs => q h' _ (F.set hn hs) (N.set hs)) (by rw [V]; rfl)
theorem c_asg {s : Shared} {x : Str} {e : PySem.Expr} {xp pos : Pos} {rest : List Stmt} {Q : Flow → Shared → Prop} (q : wpAny M A (eval e env) (fun v s₁ => wpAny M A (storeName env x v) (fun _ s₂ => wpAny M A (execs rest env) Q E s₂) E s₁) E s) (hs : swapsWith e (some (.Name x xp)) pos.line env = pure false := by rfl) : wpAny M A (execs (.Assign [.Name x xp] e pos :: rest) env) Q E s :=
  wpAny_execs_cons (wpAny_Assign_Name q hs)
theorem c_asgS {x : Str} {e : PySem.Expr} {xp pos : Pos} {v : Value} {rest : List Stmt} {news : List (Addr × Obj)} {Q : Flow → Shared → Prop} (V : FnE env L) (F : Fr h₀ L h m) (N : News h₀ L h news) (y : sVal env.kindOf m t e s1 = some (v, t')) (hx : env.kindOf x = some .local) (q : ∀ h' tk, Fr h₀ L h' (fun y => if y = x then some v else m y) → News h₀ L h' news → wpAny M A (execs rest env) Q E ⟨h', g, d, tk, o⟩) (hs : swapsWith e (some (.Name x xp)) pos.line env = pure false := by rfl) : wpAny M A (execs (.Assign [.Name x xp] e pos :: rest) env) Q E ⟨h, g, d, t, o⟩ :=
  c_asg (s_val V F y (c_store (Q := fun _ s₂ => wpAny M A (execs rest env) Q E s₂) V F N hx q)) hs
theorem c_ret {s : Shared} {e : PySem.Expr} {pos : Pos} {rest : List Stmt} {Q : Flow → Shared → Prop} (q : wpAny M A (eval e env) (fun v => Q (.ret v)) E s) : wpAny M A (execs (.Return (some e) pos :: rest) env) Q E s :=
  wpAny_execs_cons (wpAny_Return_some q)
theorem c_retS {e : PySem.Expr} {pos : Pos} {v : Value} {rest : List Stmt} {Q : Flow → Shared → Prop} (V : FnE env L) (F : Fr h₀ L h m) (x : sVal env.kindOf m t e s1 = some (v, t')) (q : Q (.ret v) ⟨h, g, d, t', o⟩) : wpAny M A (execs (.Return (some e) pos :: rest) env) Q E ⟨h, g, d, t, o⟩ :=
  c_ret (s_val V F x q)
theorem c_newList {vs : List Value} {news : List (Addr × Obj)} {Q : Value → Shared → Prop} (F : Fr h₀ L h m) (N : News h₀ L h news)
    (q : ∀ l h', Fr h₀ L h' m → News h₀ L h' ((l, PySem.W.listOf vs.toArray 0) :: news) → (∀ p ∈ news, p.1 < l) → Q (.ref l) ⟨h', g, d, t, o⟩) (hsz : vs.length ≤ sizeLine) : wpAny M A (newList vs) Q E ⟨h, g, d, t, o⟩ :=
  newList_K (s := ⟨h, g, d, t, o⟩) F N q hsz
theorem c_list {es : List PySem.Expr} {pos : Pos} {vs : List Value} {news : List (Addr × Obj)} {Q : Value → Shared → Prop} (V : FnE env L) (F : Fr h₀ L h m) (N : News h₀ L h news) (x : sVals env.kindOf m es t sN = some (vs, t'))
    (q : ∀ l h', Fr h₀ L h' m → News h₀ L h' ((l, PySem.W.listOf vs.toArray 0) :: news) → (∀ p ∈ news, p.1 < l) → Q (.ref l) ⟨h', g, d, t', o⟩) (hsz : vs.length ≤ sizeLine) : wpAny M A (eval (.List es pos) env) Q E ⟨h, g, d, t, o⟩ := s_list V F x (c_newList F N q hsz)
theorem c_newTuple {vs : List Value} {news : List (Addr × Obj)} {Q : Value → Shared → Prop} (F : Fr h₀ L h m) (N : News h₀ L h news)
    (q : ∀ D h', Fr h₀ L h' m → News h₀ L h' ((D, ({ cls := .type "tuple", data := .seq vs.toArray } : Obj)) :: news) → (∀ p ∈ news, p.1 < D) → Q (.ref D) ⟨h', g, d, t, o⟩) (hsz : vs.length ≤ sizeLine) : wpAny M A (newTuple vs) Q E ⟨h, g, d, t, o⟩ :=
  kup_newTuple (s := ⟨h, g, d, t, o⟩) F N q hsz
section
variable {prog : Program} {w : World} {a b : Int} {u u' : Tok} {Q : Value → Shared → Prop}
theorem c_mul (q : Q (.int (a * b) t) ⟨h, g, d, t + 1, o⟩) (hm : IntMulOk a b) : wpAny (model prog w) A (binaryOp .Mult (.int a u) (.int b u')) Q E ⟨h, g, d, t, o⟩ := PyProof.Rows.mul_int (s := ⟨h, g, d, t, o⟩) q hm
theorem c_add (q : Q (.int (a + b) t) ⟨h, g, d, t + 1, o⟩) : wpAny (model prog w) A (binaryOp .Add (.int a u) (.int b u')) Q E ⟨h, g, d, t, o⟩ := PyProof.Rows.add_int (s := ⟨h, g, d, t, o⟩) q
theorem c_sub (q : Q (.int (a - b) t) ⟨h, g, d, t + 1, o⟩) : wpAny (model prog w) A (binaryOp .Sub (.int a u) (.int b u')) Q E ⟨h, g, d, t, o⟩ := PyProof.Rows.sub_int (s := ⟨h, g, d, t, o⟩) q
theorem c_neg (q : Q (.int (-a) t) ⟨h, g, d, t + 1, o⟩) : wpAny (model prog w) A (unaryOp .USub (.int a u)) Q E ⟨h, g, d, t, o⟩ := PyProof.Rows.neg_int (s := ⟨h, g, d, t, o⟩) q
end
end
noncomputable abbrev PG : Program := PySem.Challenge.rw_nu0026_01.row.prog
inductive AttrsAre : List (Str × Value) → List (Str × Str) → Prop
  | nil : AttrsAre [] []
  | cons (k v : Str) (t : Tok) {kvs : List (Str × Value)} {as : List (Str × Str)} : AttrsAre kvs as → AttrsAre ((k, .str v t) :: kvs) ((k, v) :: as)
inductive El where
  | mk (name : Str) (attrs : List (Str × Str)) (kids : List El) (text : Str)
noncomputable def Fine (as : List (Str × Str)) : Prop := as.length ≤ 40 ∧ ∀ p ∈ as, p.1.length ≤ 4000 ∧ p.2.length ≤ 4000
noncomputable def SDict (w : World) (G : Addr → Obj → Prop) (d : Addr) (as : List (Str × Str)) : Prop :=
  ∃ o kvs, G d o ∧ o.IsDictOf (PySem.strKind PG w) kvs ∧ AttrsAre kvs as ∧ (d == sysModules) = false ∧ Fine as
noncomputable abbrev GU (G : Addr → Obj → Prop) (l : List (Addr × Obj)) : Addr → Obj → Prop := fun a o => G a o ∨ (a, o) ∈ l
noncomputable abbrev HG (h : Heap) : Addr → Obj → Prop := fun a o => h.get? a = some o
noncomputable abbrev LG (l : List (Addr × Obj)) : Addr → Obj → Prop := fun a o => (a, o) ∈ l
mutual
inductive ElOf (w : World) (G : Addr → Obj → Prop) : Value → El → Prop
  | mk {x dx ad cl : Addr} {h1 h2 h3 h4 : Int} {t1 t2 t3 t4 tn tt : Tok} {name text : Str} {attrs : List (Str × Str)} {vs : List Value} {n : Nat} {kids : List El} :
    G x (instObj 217 dx) →
    G dx (dictOf [⟨h1, .str (Str.ofString "name") t1, .str name tn⟩, ⟨h2, .str (Str.ofString "attributes") t2, .ref ad⟩, ⟨h3, .str (Str.ofString "children") t3, .ref cl⟩, ⟨h4, .str (Str.ofString "text") t4, .str text tt⟩] 4) →
    SDict w G ad attrs → G cl (PySem.W.listOf vs.toArray n) → vs.length ≤ 40 → ElsOf w G vs kids → ElOf w G (.ref x) (.mk name attrs kids text)
inductive ElsOf (w : World) (G : Addr → Obj → Prop) : List Value → List El → Prop
  | nil : ElsOf w G [] []
  | cons {v : Value} {e : El} {vs : List Value} {es : List El} : ElOf w G v e → ElsOf w G vs es → ElsOf w G (v :: vs) (e :: es)
end
theorem SDict.mono {w : World} {G G' : Addr → Obj → Prop} {d : Addr} {as : List (Str × Str)} (h : SDict w G d as) (hs : ∀ a o, G a o → G' a o) : SDict w G' d as := by
  k_with_none
  w_top off
  (k_with "an" => (first | assumption | exact And.left (by assumption) | exact And.left (And.right (by assumption)) | exact And.left (And.right (And.right (by assumption))) | exact And.left (And.right (And.right (And.right (by assumption)))) | exact And.left (And.right (And.right (And.right (And.right (by assumption))))) | exact And.left (And.right (And.right (And.right (And.right (And.right (by assumption)))))) | exact And.left (And.right (And.right (And.right (And.right (And.right (And.right (by assumption))))))) | exact And.left (And.right (And.right (And.right (And.right (And.right (And.right (And.right (by assumption)))))))) | exact And.left (And.right (And.right (And.right (And.right (And.right (And.right (And.right (And.right (by assumption)))))))))))
  (k_with "k_ne" => (refine neN ?_; (try dsimp only); first | (refine Nat.ne_of_lt ?_; k_extra "an") | (refine Nat.ne_of_gt ?_; k_extra "an")))
  (k_with "sub" => (first | assumption | (refine List.mem_append_left _ ?_; k_extra "sub") | (refine List.mem_append_right _ ?_; k_extra "sub") | (refine List.Mem.tail _ ?_; k_extra "sub")))
  obtain ⟨o, kvs, a, b, c, e⟩ := h
  exact ⟨o, kvs, hs _ _ a, b, c, e⟩
mutual
theorem ElOf.mono {w : World} {G G' : Addr → Obj → Prop} (hs : ∀ a o, G a o → G' a o) : ∀ {v : Value} {e : El}, ElOf w G v e → ElOf w G' v e
  | _, _, .mk a b c d l e => .mk (hs _ _ a) (hs _ _ b) (c.mono hs) (hs _ _ d) l (ElsOf.mono hs e)
theorem ElsOf.mono {w : World} {G G' : Addr → Obj → Prop} (hs : ∀ a o, G a o → G' a o) : ∀ {vs : List Value} {es : List El}, ElsOf w G vs es → ElsOf w G' vs es
  | _, _, .nil => .nil
  | _, _, .cons a b => .cons (ElOf.mono hs a) (ElsOf.mono hs b)
end
theorem SDict.base {w : World} {g h : Heap} {L d : Addr} {m : Str → Option Value} {as : List (Str × Str)} (F : Fr g L h m) (D : SDict w (HG g) d as) : SDict w (HG h) d as := D.mono fun a o e => F.keep a o e
theorem SDict.led {w : World} {g h : Heap} {L d : Addr} {news : List (Addr × Obj)} {as : List (Str × Str)} (N : News g L h news) (D : SDict w (LG news) d as) : SDict w (HG h) d as := D.mono fun a o e => (N _ e).1
theorem ElOf.base {w : World} {g h : Heap} {L : Addr} {m : Str → Option Value} {v : Value} {e : El} (F : Fr g L h m) (D : ElOf w (HG g) v e) : ElOf w (HG h) v e := D.mono fun a o e => F.keep a o e
theorem ElsOf.length {w : World} {G : Addr → Obj → Prop} : ∀ {vs : List Value} {es : List El}, ElsOf w G vs es → vs.length = es.length
  | _, _, .nil => rfl
  | _, _, .cons _ b => by rw [List.length_cons, List.length_cons, b.length]
theorem ElsOf.at {w : World} {G : Addr → Obj → Prop} : ∀ {vs : List Value} {es : List El} {i : Nat} {v : Value}, ElsOf w G vs es → vs[i]? = some v → ∃ e, es[i]? = some e ∧ ElOf w G v e
  | _, _, _, _, .nil, h => by simp at h
  | _, _, 0, _, .cons (e := e) a _, h => by simp at h; subst h; exact ⟨e, by simp, a⟩
  | _, _, i + 1, _, .cons _ b, h => by simp at h; obtain ⟨e, h1, h2⟩ := b.at h; exact ⟨e, by simpa using h1, h2⟩
theorem inst_base {g h : Heap} {L x C dx : Addr} {m : Str → Option Value} {od : Obj} {sl : Array (Option Value)} (F : Fr g L h m) (h1 : g.get? x = some (⟨.ref C, some dx, .plain, sl⟩ : Obj)) (h2 : g.get? dx = some od) :
    InstAt h x ⟨.ref C, some dx, .plain, sl⟩ C (some od) := ⟨F.keep _ _ h1, rfl, rfl, F.keep _ _ h2⟩
noncomputable abbrev sD (as : List (Str × Str)) : List (PyData × PyData) := as.map fun p => (PyData.str p.1, PyData.str p.2)
theorem attrs_flat {kvs : List (Str × Value)} {as : List (Str × Str)} (h : AttrsAre kvs as) : PyProof.V.FlatPairs PyData.str kvs (sD as) := by
  induction h with
  | nil => exact .nil
  | cons k v t _ ih => exact .cons (PyProof.V.Flat.str v t) ih
theorem flat_attrs : ∀ {as : List (Str × Str)} {kvs : List (Str × Value)}, PyProof.V.FlatPairs PyData.str kvs (sD as) → AttrsAre kvs as
  | [], _, h => by cases h; exact .nil
  | (k, v) :: as, kvs, h => by
    have h' : PyProof.V.FlatPairs PyData.str kvs ((PyData.str k, PyData.str v) :: sD as) := h
    generalize e1 : PyData.str k = K1 at h'
    cases h' with
    | cons hf hr =>
      cases e1
      obtain ⟨t, rfl⟩ := PyProof.V.Flat.str_inv hf
      exact .cons k v t (flat_attrs hr)
theorem AttrsAre.length {kvs : List (Str × Value)} {as : List (Str × Str)} (h : AttrsAre kvs as) : kvs.length = as.length := by
  induction h with
  | nil => rfl
  | cons k v t _ ih => rw [List.length_cons, List.length_cons, ih]
theorem valueAt_attrs {kvs : List (Str × Value)} {as : List (Str × Str)} (h : AttrsAre kvs as) (k : Str) :
    (as.lookup k = none ∧ valueAt kvs k = none) ∨ ∃ v t, as.lookup k = some v ∧ valueAt kvs k = some (.str v t) := by
  induction h with
  | nil => exact .inl ⟨rfl, rfl⟩
  | @cons k' v' t kvs as _ ih =>
    unfold valueAt at ih ⊢
    rw [List.lookup_cons, List.find?_cons]
    by_cases hk : k = k'
    · subst hk; right; exact ⟨v', t, by simp, by simp⟩
    · have h1 : (k == k') = false := beq_eq_false_iff_ne.mpr hk
      have h2 : decide (k' = k) = false := decide_eq_false fun e => hk e.symm
      simp only [h1, h2]
      exact ih
section
variable {w : World} {A : Around} {E : Value → Shared → Prop} {s : Shared} {d : Addr} {as : List (Str × Str)} {k : Str} {t : Tok}
theorem sd_dict {h : Heap} (D : SDict w (HG h) d as) : ∃ kvs, h.DictOf (PySem.strKind PG w) d kvs ∧ AttrsAre kvs as ∧ (d == sysModules) = false ∧ Fine as := by
  obtain ⟨o, kvs, hp, hd, hA, lo⟩ := D
  exact ⟨kvs, Heap.dictOf_iff.mpr ⟨o, hp, hd⟩, hA, lo⟩
theorem sd_method {pl : Sem Bool} {Q : Value × List Value → Shared → Prop} (D : SDict w (HG s.heap) d as) (h : Q (.builtin "dict.get", [.ref d]) s) : wpAny (model PG w) A (getMethod (.ref d) "get" pl) Q E s := by
  obtain ⟨kvs, hD, hA, lo, _⟩ := sd_dict D
  exact getMethod_builtin hD.typeIs PySem.F.plainAttrs_dict PySem.F.slot_dict_get PySem.F.type_dict_get hD.mapOf.noDict h
theorem sd_get1 {Q : Value → Shared → Prop} (D : SDict w (HG s.heap) d as) (h0 : as.lookup k = none → Q .none { s with toks := s.toks + 1 }) (h1 : ∀ v t', as.lookup k = some v → Q (.str v t') { s with toks := s.toks + 1 }) :
    wpAny (model PG w) A (call (.builtin "dict.get") [.ref d, .str k t]) Q E s := by
  obtain ⟨kvs, hD, hA, lo, _⟩ := sd_dict D
  refine call_meetsIn PySem.F.slot_dict_get hD.typeIs PySem.F.entry_dict_get (PySem.F.args_dict_get_2 _ _) (meets_dict_get _ d (strKind_is PG w k t) lo) ⟨_, hD.mapOf, ?_⟩
  rcases valueAt_attrs hA k with ⟨a, b⟩ | ⟨v, t', a, b⟩
  · rw [b]; exact h0 a
  · rw [b]; exact h1 v t' a
theorem sd_get1s {v : Str} {Q : Value → Shared → Prop} (D : SDict w (HG s.heap) d as) (hl : as.lookup k = some v) (h1 : ∀ t', Q (.str v t') { s with toks := s.toks + 1 }) :
    wpAny (model PG w) A (call (.builtin "dict.get") [.ref d, .str k t]) Q E s :=
  sd_get1 D (fun e => by rw [hl] at e; cases e) fun v' t' e => by rw [hl] at e; cases e; exact h1 t'
theorem sd_get1n {Q : Value → Shared → Prop} (D : SDict w (HG s.heap) d as) (hl : as.lookup k = none) (h0 : Q .none { s with toks := s.toks + 1 }) :
    wpAny (model PG w) A (call (.builtin "dict.get") [.ref d, .str k t]) Q E s :=
  sd_get1 D (fun _ => h0) fun v' t' e => by rw [hl] at e; cases e
theorem sd_get2 {c : Str} {tc : Tok} {Q : Value → Shared → Prop} (D : SDict w (HG s.heap) d as) (h1 : ∀ t', Q (.str ((as.lookup k).getD c) t') { s with toks := s.toks + 1 }) :
    wpAny (model PG w) A (call (.builtin "dict.get") [.ref d, .str k t, .str c tc]) Q E s := by
  obtain ⟨kvs, hD, hA, lo, _⟩ := sd_dict D
  refine call_meetsIn PySem.F.slot_dict_get hD.typeIs PySem.F.entry_dict_get (PySem.F.args_dict_get_3 _ _ _) (meets_dict_get_default _ d (strKind_is PG w k t) lo (.str c tc)) ⟨_, hD.mapOf, ?_⟩
  rcases valueAt_attrs hA k with ⟨a, b⟩ | ⟨v, t', a, b⟩
  · rw [b]; have := h1 tc; rw [a] at this; exact this
  · rw [b]; have := h1 t'; rw [a] at this; exact this
theorem lookup_mem : ∀ {as : List (Str × Str)} {k v : Str}, as.lookup k = some v → (k, v) ∈ as
  | [], _, _, h => by cases h
  | (k', v') :: as, k, v, h => by
    rw [List.lookup_cons] at h
    cases hk : (k == k') with
    | true => rw [hk] at h; cases h; rw [beq_iff_eq.mp hk]; exact .head _
    | false => rw [hk] at h; exact .tail _ (lookup_mem h)
theorem Fine.get {as : List (Str × Str)} {k v : Str} (h : Fine as) (hl : as.lookup k = some v) : v.length ≤ 4000 := (h.2 _ (lookup_mem hl)).2
theorem Fine.getD {as : List (Str × Str)} {k c : Str} (h : Fine as) (hc : c.length ≤ 4000) : ((as.lookup k).getD c).length ≤ 4000 := by
  cases hl : as.lookup k with
  | none => exact hc
  | some v => exact h.get hl
theorem sd_get2L {c : Str} {tc : Tok} {Q : Value → Shared → Prop} (D : SDict w (HG s.heap) d as) (hc : c.length ≤ 4000) (h1 : ∀ t', ((as.lookup k).getD c).length ≤ 4000 → Q (.str ((as.lookup k).getD c) t') { s with toks := s.toks + 1 }) :
    wpAny (model PG w) A (call (.builtin "dict.get") [.ref d, .str k t, .str c tc]) Q E s := by
  obtain ⟨_, _, _, _, hf⟩ := sd_dict D
  exact sd_get2 D fun t' => h1 t' (hf.getD hc)
theorem sd_in {Q : Value → Shared → Prop} (D : SDict w (HG s.heap) d as) (h : Q (.bool (as.lookup k).isSome) { s with toks := s.toks + 1 }) :
    wpAny (model PG w) A (compareOp .In (.str k t) (.ref d)) Q E s := by
  obtain ⟨kvs, hD, hA, lo, _⟩ := sd_dict D
  refine wpAny_in_of (strKind_is PG w k t) lo hD.mapOf ?_
  rcases valueAt_attrs hA k with ⟨a, b⟩ | ⟨v, t', a, b⟩ <;> (rw [a] at h; rw [b]; exact h)
theorem sd_item {v : Str} {value slice : PySem.Expr} {Q : Value → Shared → Prop} (D : SDict w (HG s.heap) d as) (hv : as.lookup k = some v) (h : ∀ t', Q (.str v t') { s with toks := s.toks + 1 })
    (hs : subscripted slice false (.ref d) (.str k t) = operate [.ref d, .str k t] (getItem (.ref d) (.str k t)) := by with_unfolding_all rfl) (hg : ∀ r, letTemporaryGo value (.ref d) r = pure () := by intro _; with_unfolding_all rfl) :
    wpAny (model PG w) A (subscriptTail value slice (.ref d) (.str k t)) Q E s := by
  obtain ⟨kvs, hD, hA, lo, _⟩ := sd_dict D
  rcases valueAt_attrs hA k with ⟨a, b⟩ | ⟨v', t', a, b⟩
  · rw [hv] at a; cases a
  · rw [hv] at a; cases a
    exact subscriptTail_builtin hD.typeIs slot_dict_getitem.lookup (wpAny_getItem_of (strKind_is PG w k t) hD.mapOf b (h t')) hs hg
theorem sd_inS {Q : Value → Shared → Prop} (D : SDict w (HG s.heap) d as) (h0 : as.lookup k = none → Q (.bool false) { s with toks := s.toks + 1 }) (h1 : ∀ v, as.lookup k = some v → v.length ≤ 4000 → Q (.bool true) { s with toks := s.toks + 1 }) :
    wpAny (model PG w) A (compareOp .In (.str k t) (.ref d)) Q E s := by
  obtain ⟨_, _, _, _, hf⟩ := sd_dict D
  refine sd_in D ?_
  cases hl : as.lookup k with
  | none => exact h0 hl
  | some v => exact h1 v hl (hf.get hl)
theorem sd_inN {Q : Value → Shared → Prop} (D : SDict w (HG s.heap) d as) (hl : as.lookup k = none) (h0 : Q (.bool false) { s with toks := s.toks + 1 }) :
    wpAny (model PG w) A (compareOp .In (.str k t) (.ref d)) Q E s := sd_inS D (fun _ => h0) fun v e => by rw [hl] at e; cases e
theorem sd_inY {v : Str} {Q : Value → Shared → Prop} (D : SDict w (HG s.heap) d as) (hl : as.lookup k = some v) (h0 : Q (.bool true) { s with toks := s.toks + 1 }) :
    wpAny (model PG w) A (compareOp .In (.str k t) (.ref d)) Q E s := sd_inS D (fun e => by rw [hl] at e; cases e) fun _ _ _ => h0
end
noncomputable def putA (as : List (Str × Str)) (k v : Str) : List (Str × Str) := if as.any (fun p => decide (p.1 = k)) then as.map (fun p => if p.1 = k then (p.1, v) else p) else as ++ [(k, v)]
theorem attrs_any {kvs : List (Str × Value)} {as : List (Str × Str)} (h : AttrsAre kvs as) (k : Str) : kvs.any (fun p => decide (p.1 = k)) = as.any (fun p => decide (p.1 = k)) := by
  induction h with
  | nil => rfl
  | cons k' v' t _ ih => rw [List.any_cons, List.any_cons, ih]
theorem attrs_snoc {kvs : List (Str × Value)} {as : List (Str × Str)} (h : AttrsAre kvs as) (k v : Str) (t : Tok) : AttrsAre (kvs ++ [(k, .str v t)]) (as ++ [(k, v)]) := by
  induction h with
  | nil => exact .cons k v t .nil
  | cons k' v' t' _ ih => exact .cons k' v' t' ih
theorem attrs_map {kvs : List (Str × Value)} {as : List (Str × Str)} (h : AttrsAre kvs as) (k v : Str) (t : Tok) : AttrsAre (kvs.map fun p => if p.1 = k then (p.1, .str v t) else p) (as.map fun p => if p.1 = k then (p.1, v) else p) := by
  induction h with
  | nil => exact .nil
  | cons k' v' t' _ ih =>
    rw [List.map_cons, List.map_cons]
    by_cases hk : k' = k
    · rw [if_pos hk, if_pos hk]; exact .cons _ _ _ ih
    · rw [if_neg hk, if_neg hk]; exact .cons _ _ _ ih
theorem attrs_put {kvs : List (Str × Value)} {as : List (Str × Str)} (h : AttrsAre kvs as) (k v : Str) (t : Tok) : AttrsAre (stored kvs k (.str v t)) (putA as k v) := by
  unfold stored putA
  rw [attrs_any h k]
  by_cases hc : as.any (fun p => decide (p.1 = k)) = true
  · rw [if_pos hc, if_pos hc]; exact attrs_map h k v t
  · rw [if_neg hc, if_neg hc]; exact attrs_snoc h k v t
theorem putA_len (as : List (Str × Str)) (k v : Str) : (putA as k v).length ≤ as.length + 1 := by
  unfold putA
  split
  · rw [List.length_map]; omega
  · rw [List.length_append]; simp
theorem Fine.put {as : List (Str × Str)} {k v : Str} (h : Fine as) (hl : as.length ≤ 39) (hk : k.length ≤ 4000) (hv : v.length ≤ 4000) : Fine (putA as k v) := by
  refine ⟨Nat.le_trans (putA_len as k v) (by omega), fun p hp => ?_⟩
  unfold putA at hp
  split at hp
  · obtain ⟨q, hq, rfl⟩ := List.mem_map.mp hp
    by_cases e : q.1 = k
    · rw [if_pos e]; exact ⟨(h.2 q hq).1, hv⟩
    · rw [if_neg e]; exact h.2 q hq
  · rcases List.mem_append.mp hp with hp | hp
    · exact h.2 p hp
    · rw [List.mem_singleton.mp hp]; exact ⟨hk, hv⟩
theorem sd_set {w : World} {A : Around} {E : Value → Shared → Prop} {s : Shared} {h₀ : Heap} {L d : Addr} {o : Obj} {m : Str → Option Value} {news : List (Addr × Obj)} {g : Obj → List (Addr × Obj)} {as : List (Str × Str)} {k v : Str} {tk tv : Tok} {Q : Unit → Shared → Prop}
    (D : SDict w (LG [(d, o)]) d as) (F : Fr h₀ L s.heap m) (N : News h₀ L s.heap news) (U : UpdF d o news g) (hl : as.length ≤ 39) (hk : k.length ≤ 4000) (hv : v.length ≤ 4000)
    (h : ∀ h' o', Fr h₀ L h' m → News h₀ L h' (g o') → SDict w (LG [(d, o')]) d (putA as k v) → Q () { s with heap := h', toks := s.toks + 1 }) :
    wpAny (model PG w) A (setItem (.ref d) (.str k tk) (.str v tv)) Q E s := by
  obtain ⟨o1, kvs, hm, hd, hA, lo, hf⟩ := D
  have e1 : o1 = o := by have := List.mem_singleton.mp hm; exact (Prod.mk.inj this).2
  subst e1
  refine kda_set F N U hd (strKind_is PG w k tk) (by rw [hA.length, sizeLine_eq]; omega) fun h' o' F' N' hd' => h h' o' F' N' ?_
  exact ⟨o', _, .head _, hd', attrs_put hA k v tv, lo, hf.put hl hk hv⟩
theorem ite_ff {a b : Prop} (h : b) : if false = true then a else b := by rw [if_neg Bool.false_ne_true]; exact h
theorem ite_tt {a b : Prop} (h : a) : if true = true then a else b := by rw [if_pos rfl]; exact h
theorem eq_dec {prog : Program} {w : World} {A : Around} {E : Value → Shared → Prop} {s : Shared} {x y : Str} {t u : Tok} {Q : Value → Shared → Prop} (b : Bool) (e : (x == y) = b) (h : Q (.bool b) s) : wpAny (model prog w) A (compareOp .Eq (.str x t) (.str y u)) Q E s := PyProof.Rows.eq_str (e ▸ h)
theorem lit_arg {M : Model} {A : Around} {Q : α → Shared → Prop} {E : Value → Shared → Prop} {s : Shared} (f : β → Sem α) (v v' : β) (e : v = v') (h : wpAny M A (f v') Q E s) : wpAny M A (f v) Q E s := e ▸ h
theorem ite_bf {c : Bool} {a b : Prop} (h : c = false) (hb : b) : if c = true then a else b := by rw [h, if_neg Bool.false_ne_true]; exact hb
theorem ite_bt {c : Bool} {a b : Prop} (h : c = true) (ha : a) : if c = true then a else b := by rw [if_pos h]; exact ha
theorem link_spec (w : World) (mean : ExcName → Option Value) (mg mb : Str → Option Value) (v : Value) (name text : Str) (attrs : List (Str × Str)) (kids : List El) (hr nm : Str)
  (hn : (hr, nm) ∈ ([("#r", "r"), ("#k", "k"), ("#s", "s"), ("#p", "p"), ("#q", "q")] : List (Str × Str))) (ha : List.lookup (Str.ofString "href") attrs = some hr ∨ (List.lookup (Str.ofString "href") attrs = none ∧ List.lookup (Str.ofString "xlink:href") attrs = some hr)) :
  Spec w mean mg mb 21 [v] [] 1 (fun h => ElOf w (HG h) v (.mk name attrs kids text)) (fun r _ tl => (∃ t, r = .str nm t) ∧ tl = []) := by
  k_with_none
  w_top off
  (k_with "an" => (first | assumption | exact And.left (by assumption) | exact And.left (And.right (by assumption)) | exact And.left (And.right (And.right (by assumption))) | exact And.left (And.right (And.right (And.right (by assumption)))) | exact And.left (And.right (And.right (And.right (And.right (by assumption))))) | exact And.left (And.right (And.right (And.right (And.right (And.right (by assumption)))))) | exact And.left (And.right (And.right (And.right (And.right (And.right (And.right (by assumption))))))) | exact And.left (And.right (And.right (And.right (And.right (And.right (And.right (And.right (by assumption)))))))) | exact And.left (And.right (And.right (And.right (And.right (And.right (And.right (And.right (And.right (by assumption)))))))))))
  (k_with "k_ne" => (refine neN ?_; (try dsimp only); first | (refine Nat.ne_of_lt ?_; k_extra "an") | (refine Nat.ne_of_gt ?_; k_extra "an")))
  (k_with "sub" => (first | assumption | (refine List.mem_append_left _ ?_; k_extra "sub") | (refine List.mem_append_right _ ?_; k_extra "sub") | (refine List.Mem.tail _ ?_; k_extra "sub")))
  (k_with "rm" => (first | exact room_of 1 rfl (by assumption) rfl | exact room_of 0 rfl (by assumption) rfl | exact room_of1 1 rfl (by assumption) rfl | exact room_of1 0 rfl (by assumption) rfl | ktr_room))
  (k_with "un" => (first | exact units_of 3 rfl (by assumption) rfl | exact units_of 4 rfl (by assumption) rfl | exact units_of 0 rfl (by assumption) rfl | ktr_units))
  (k_with "st" => (repeat' (first | ((with_reducible show wpAny _ _ (PySem.exec _ _) _ _ _); k_fold) | ((fail_if_success (fail_if_success k_unfold)); (show wpAny _ _ _ _ _ _); (try dsimp only)) | (k_unfold; (try dsimp only)) | (k_end; wrow_close) | walk1 | (dsimp only; walk1) | (leave1; walk_say "STEP leave1"; try dsimp only) | fail "no step")))
  (k_with "D" => try ((with_reducible show wpAny _ _ _ _ _ (Shared.mk (Shared.heap _) _ _ _ _)); dsimp only))
  (k_with "E0" => ((case F => k_asm); (case V => first | assumption | exact ⟨rfl, rfl, rfl⟩)))
  (k_with "E" => (k_extra "E0"; (case e => exact rfl)))
  (k_with "S" => (intro h'8q tk'8q F'8q N'8q; (try k_sweep)))
  (k_with "A" => (intro l'8q h'8q F'8q N'8q l18q; (try k_lt l18q); (try k_sweep)))
  (k_with "spliced" => (k_here; k_extra "D"; k_dflt (first | ((with_reducible refine' s_args ?V ?F ?e ?_); k_extra "E"; k_whole; (try dsimp only [List.cons_append, List.nil_append])))))
  (k_with "evalPairs" => (k_here; k_extra "D"; k_dflt (first | ((with_reducible refine' s_pair ?V ?F ?e ?f ?_); k_extra "E"; (case f => exact rfl); k_whole))))
  (k_with "eval BinOp" => (k_here; k_extra "D"; k_dflt (first | ((with_reducible refine' s_bin ?V ?F ?e ?f ?_); k_extra "E"; (case f => exact rfl); k_whole) | ((with_reducible refine' s_binL ?V ?F ?e ?_); k_extra "E"; k_whole))))
  (k_with "isTrue Compare" => (k_here; k_extra "D"; k_dflt (first | ((with_reducible refine' s_cmp ?V ?F ?e ?f ?h ?_); k_extra "E"; (case f => exact rfl); (case h => with_unfolding_all rfl); k_whole) | ((with_reducible refine' s_cmpL ?V ?F ?e ?h ?_); k_extra "E"; (case h => with_unfolding_all rfl); k_whole))))
  (k_with "eval Subscript" => (k_here; k_extra "D"; k_dflt (first | ((with_reducible refine' s_sub ?V ?F ?e ?f ?_); k_extra "E"; (case f => exact rfl); k_whole) | ((with_reducible refine' s_subL ?V ?F ?e ?_); k_extra "E"; k_whole))))
  (k_with "eval List" => (k_here; k_extra "D"; k_dflt (first | ((with_reducible refine' s_list ?V ?F ?e ?_); k_extra "E"; k_whole))))
  (k_with "eval Tuple" => (k_here; k_extra "D"; k_dflt (first | ((with_reducible refine' s_tuple ?V ?F ?e ?_); k_extra "E"; k_whole))))
  (k_with "exec Return some" => (k_here; k_extra "D"; k_dflt (first | ((with_reducible refine' s_ret ?V ?F ?e ?_); k_extra "E"; k_whole))))
  (k_with "eval Attribute Name" => (k_here; k_extra "D"; k_dflt (first | ((with_reducible refine' s_attr ?V ?F ?e ?_ ?h); k_extra "E"; (case h => with_unfolding_all rfl); k_whole))))
  (k_with "execs cons" => (k_here; k_extra "D"; k_dflt (first | k_gentoks | ((with_reducible refine' c_asgS ?V ?F ?N ?e ?x ?_ ?h); k_extra "E"; (case N => k_asm); (case x => exact rfl); (case h => exact rfl); k_whole; k_extra "S") | ((with_reducible refine' c_asg ?_ ?h); (case h => exact rfl); k_whole; (try refine (let qk8q : Value → Shared → Prop := _; (?_ : wpAny _ _ _ qk8q _ _)))) | ((with_reducible refine' c_retS ?V ?F ?e ?_); k_extra "E"; k_whole) | (with_reducible refine c_ret ?_))))
  (k_with "storeName" => (k_here; k_extra "D"; k_dflt (first | ((with_reducible refine' c_store ?V ?F ?N ?x ?_); k_extra "E0"; (case N => k_asm); (case x => exact rfl); k_whole; k_extra "S"))))
  (k_with "newList" => (k_here; k_extra "D"; k_dflt (first | ((with_reducible refine' c_newList ?F ?N ?_ ?z); (case F => k_asm); (case N => k_asm); (case z => size_fits); k_extra "A"))))
  (k_with "newTuple" => (k_here; k_extra "D"; k_dflt (first | ((with_reducible refine' c_newTuple ?F ?N ?_ ?z); (case F => k_asm); (case N => k_asm); (case z => kmk_size); k_extra "A"))))
  (k_with "binaryOp Mult int int" => (k_here; k_extra "D"; k_dflt (first | ((with_reducible refine' c_mul ?_ ?z); (case z => mul_fits)))))
  (k_with "binaryOp Add int int" => (k_here; k_extra "D"; k_dflt (first | (with_reducible refine c_add ?_))))
  (k_with "binaryOp Sub int int" => (k_here; k_extra "D"; k_dflt (first | (with_reducible refine c_sub ?_))))
  (k_with "unaryOp USub int" => (k_here; k_extra "D"; k_dflt (first | (with_reducible refine c_neg ?_))))
  (k_with "callWith ref" => (k_here; k_extra "D"; k_dflt (first | ((with_reducible refine' s_with ?V ?F ?X ?k ?e ?_); k_extra "E"; (case X => k_asm); (case k => k_is); k_whole))))
  (k_with "eval Call" => (k_here; k_extra "D"; k_dflt (first | ((with_reducible refine' s_call ?V ?F ?X ?T ?n ?x ?d ?k ?e ?_ ?h); k_extra "E"; (case x => exact rfl); (case X => k_asm); (case T => k_asm); (case d => decide); (case n => k_is); (case k => k_is); (case h => exact rfl); k_whole))))
  (k_with "eval Name" => (k_here; k_extra "D"; k_dflt (first | ((with_reducible refine' s_val ?V ?F ?e ?_); k_extra "E"; k_whole))))
  (k_with "ktr_enter" => first
  | (refine' codeG ?k1 ?k2 ?k3 ?k4 ?k5 ?kA ?kF ?kK ?k6 ?k7 ?k8 ?k9 ?kB ?_ ?c2 ?c3 ?c4 ?c5; (case kA => exact rfl); (case kF => exact rfl); (case kK => assumption); (case k1 => first | k_asm | exact topb_of rfl rfl (by k_asm)); (case k2 => k_asm); (case k3 => k_asm); (case k4 => k_asm); (case k5 => k_asm); (case k6 => k_is); (case k7 => k_is); (case k8 => (k_extra "rm")); (case k9 => first | exact BindsTo.of_eq rfl | exact binds_K (by k_in) rfl (by k_is) rfl rfl rfl); (case c5 => decide); (case kB => exact locs rfl); (case c2 => exact rfl); (case c3 => exact rfl); (case c4 => exact rfl); k_whole; intro g'9q L'9q h'9q tk'9q st'9q FG'9q F'9q N'9q B'9q X'9q T'9q l1'9q; (try dsimp only); (try k_fold)))
  (k_with "k_inst" => exact inst_base (by k_asm) (by assumption) (by assumption))
  (k_with "getMethod ref" => (k_here; (with_reducible show wpAny _ _ (getMethod (Value.ref _) (Str.ofString "get") _) _ _ _); k_dflt (refine sd_method (SDict.base (by k_asm) (by assumption)) ?_)))
  (k_with "call builtin:dict.get" => (k_here; (with_reducible show wpAny _ _ (call (Value.builtin "dict.get") [Value.ref _, Value.str _ _]) _ _ _); k_dflt (first
  | (refine sd_get1s (SDict.base (by k_asm) (by assumption)) (by assumption) ?_; intro t'9q)
  | (refine sd_get1n (SDict.base (by k_asm) (by assumption)) (by assumption) ?_)
  | (refine sd_get1 (SDict.base (by k_asm) (by assumption)) (fun hg09q => ?_) (fun v'9q t'9q hg19q => ?_)))))
  (k_with "k_room" => (k_extra "rm"))
  (k_with "subscriptTail" => (k_here; (with_reducible show wpAny _ _ (subscriptTail _ _ (Value.ref _) (Value.str _ _)) _ _ _); k_dflt (refine sd_item (SDict.base (by k_asm) (by assumption)) (by assumption) ?_); intro t'9q))
  (k_with "call ref" => (k_here; (with_reducible show wpAny _ _ (call (Value.ref _) _) _ _ _); (try k_fold); k_dflt (refine' spec_use0 ?S ?k1 ?k2 ?k3 ?k4 ?k5 ?kK ?kP ?kd ?ku ?_; (case S => assumption); (case k1 => first | k_asm | exact topb_of rfl rfl (by k_asm)); (case k2 => k_asm); (case k3 => k_asm); (case k4 => k_asm); (case k5 => k_asm); (case kK => exact rfl); (case kP => first | exact trivial | exact ElOf.base (by k_asm) (by assumption)); (case kd => (k_extra "rm")); (case ku => (k_extra "un"))); intro r'9q tl'9q h'9q tk'9q F'9q N'9q fr'9q st'9q hR'9q; (try dsimp only at hR'9q)))
  (k_with "k_mem" => ((show _ ∈ (_ ++ _ : List (Addr × Obj))); first | (refine List.mem_append_right _ ?_; k_mem) | (refine List.mem_append_left _ ?_; k_mem)))
  (k_with "call builtin:dict.get" => (k_here; (with_reducible show wpAny _ _ (call (Value.builtin "dict.get") [Value.ref _, Value.str _ _, Value.str _ _]) _ _ _); k_dflt (refine sd_get2L (SDict.base (by k_asm) (by assumption)) (by first | assumption | decide) ?_); intro t'9q hlen'9q))
  (k_with "ite" => (first | with_reducible refine ite_ff ?_ | with_reducible refine ite_tt ?_))
  (k_with "compareOp Eq str str" => (k_here; k_dflt (refine eq_dec true (beq_iff_eq.mpr (by assumption)) ?_)))
  unfold Spec
  k_fill
  intro dp un gd cn cs a' ccd cl outer A₀ base h₀ L m s Q E B F X N T hk hP hd hu hret
  refine wpAny_call ?_
  k_dflt ktr_enter
  first | refine (let ak : Around := _; let nk : Env := _; let sg9 : Array GenState := _; let sd9 : Drawn := _; let so9 : OsState := _; (?_ : wpAny _ ak (execs _ nk) _ _ (Shared.mk _ sg9 sd9 _ so9))) | refine (let ak : Around := _; let nk : Env := _; (?_ : wpAny _ ak (execs _ nk) _ _ _))
  try (have TB9 : TopB ak _ _ (dp + 1) (un + 3) := topb_of rfl rfl (by assumption))
  try (have FE9 : FnE nk L'9q := ⟨rfl, rfl, rfl⟩)
  try (rename Fr _ _ _ (fun y => List.lookup y (List.reverse _)) => FX9; replace FX9 := fr_binds [(Str.ofString "element", (v : Value))] rfl FX9)
  rename Stood _ _ _ => st
  replace hP := hP.mono fun a o e => st a o e (fun h => nomatch h)
  simp only [List.mem_cons, Prod.mk.injEq, List.not_mem_nil, or_false] at hn
  cases hP
  obtain ⟨hz, h1, h2⟩ : hr.length ≤ 4000 ∧ Txt.slice hr none (some 1) = Str.ofString "#" ∧ Txt.slice hr (some 1) none = nm := by rcases hn with ⟨rfl, rfl⟩ | ⟨rfl, rfl⟩ | ⟨rfl, rfl⟩ | ⟨rfl, rfl⟩ | ⟨rfl, rfl⟩ <;> decide +kernel
  clear hn
  rcases ha with ha | ⟨ha, ha'⟩
  all_goals (k_extra "st")
  all_goals exact spec_ret0 hret st (by assumption) (by assumption) (by assumption) (by assumption) [] (fun _ h => nomatch h) ⟨⟨_, by rw [h2]⟩, rfl⟩
theorem tk_get0 (a b : Int) : [a, b].getD (Int.toNat 0) 0 = a := rfl
theorem tk_get1 (a b : Int) : [a, b].getD (Int.toNat 1) 0 = b := rfl
theorem tk_lo (a : Int) {n : Int} (h : 1 ≤ n) : 0 ≤ Int.fmod a n := fmod_lo a (by omega)
theorem tk_hi (a : Int) {n : Int} (h : 1 ≤ n) : Int.fmod a n < n := fmod_hi a (by omega)
theorem tk_div {a n : Int} (ha : 0 ≤ a) (h : 1 ≤ n) : 0 ≤ Int.fdiv a n := by
  k_with_none
  w_top off
  (k_with "an" => (first | assumption | exact And.left (by assumption) | exact And.left (And.right (by assumption)) | exact And.left (And.right (And.right (by assumption))) | exact And.left (And.right (And.right (And.right (by assumption)))) | exact And.left (And.right (And.right (And.right (And.right (by assumption))))) | exact And.left (And.right (And.right (And.right (And.right (And.right (by assumption)))))) | exact And.left (And.right (And.right (And.right (And.right (And.right (And.right (by assumption))))))) | exact And.left (And.right (And.right (And.right (And.right (And.right (And.right (And.right (by assumption)))))))) | exact And.left (And.right (And.right (And.right (And.right (And.right (And.right (And.right (And.right (by assumption)))))))))))
  (k_with "k_ne" => (refine neN ?_; (try dsimp only); first | (refine Nat.ne_of_lt ?_; k_extra "an") | (refine Nat.ne_of_gt ?_; k_extra "an")))
  (k_with "sub" => (first | assumption | (refine List.mem_append_left _ ?_; k_extra "sub") | (refine List.mem_append_right _ ?_; k_extra "sub") | (refine List.Mem.tail _ ?_; k_extra "sub")))
  (k_with "rm" => (first | exact room_of 1 rfl (by assumption) rfl | exact room_of 0 rfl (by assumption) rfl | exact room_of1 1 rfl (by assumption) rfl | exact room_of1 0 rfl (by assumption) rfl | ktr_room))
  (k_with "un" => (first | exact units_of 3 rfl (by assumption) rfl | exact units_of 4 rfl (by assumption) rfl | exact units_of 0 rfl (by assumption) rfl | ktr_units))
  (k_with "st" => (repeat' (first | ((with_reducible show wpAny _ _ (PySem.exec _ _) _ _ _); k_fold) | ((fail_if_success (fail_if_success k_unfold)); (show wpAny _ _ _ _ _ _); (try dsimp only)) | (k_unfold; (try dsimp only)) | (k_end; wrow_close) | walk1 | (dsimp only; walk1) | (leave1; walk_say "STEP leave1"; try dsimp only) | fail "no step")))
  (k_with "D" => try ((with_reducible show wpAny _ _ _ _ _ (Shared.mk (Shared.heap _) _ _ _ _)); dsimp only))
  (k_with "E0" => ((case F => k_asm); (case V => first | assumption | exact ⟨rfl, rfl, rfl⟩)))
  (k_with "E" => (k_extra "E0"; (case e => exact rfl)))
  (k_with "S" => (intro h'8q tk'8q F'8q N'8q; (try k_sweep)))
  (k_with "A" => (intro l'8q h'8q F'8q N'8q l18q; (try k_lt l18q); (try k_sweep)))
  (k_with "spliced" => (k_here; k_extra "D"; k_dflt (first | ((with_reducible refine' s_args ?V ?F ?e ?_); k_extra "E"; k_whole; (try dsimp only [List.cons_append, List.nil_append])))))
  (k_with "evalPairs" => (k_here; k_extra "D"; k_dflt (first | ((with_reducible refine' s_pair ?V ?F ?e ?f ?_); k_extra "E"; (case f => exact rfl); k_whole))))
  (k_with "eval BinOp" => (k_here; k_extra "D"; k_dflt (first | ((with_reducible refine' s_bin ?V ?F ?e ?f ?_); k_extra "E"; (case f => exact rfl); k_whole) | ((with_reducible refine' s_binL ?V ?F ?e ?_); k_extra "E"; k_whole))))
  (k_with "isTrue Compare" => (k_here; k_extra "D"; k_dflt (first | ((with_reducible refine' s_cmp ?V ?F ?e ?f ?h ?_); k_extra "E"; (case f => exact rfl); (case h => with_unfolding_all rfl); k_whole) | ((with_reducible refine' s_cmpL ?V ?F ?e ?h ?_); k_extra "E"; (case h => with_unfolding_all rfl); k_whole))))
  (k_with "eval Subscript" => (k_here; k_extra "D"; k_dflt (first | ((with_reducible refine' s_sub ?V ?F ?e ?f ?_); k_extra "E"; (case f => exact rfl); k_whole) | ((with_reducible refine' s_subL ?V ?F ?e ?_); k_extra "E"; k_whole))))
  (k_with "eval List" => (k_here; k_extra "D"; k_dflt (first | ((with_reducible refine' s_list ?V ?F ?e ?_); k_extra "E"; k_whole))))
  (k_with "eval Tuple" => (k_here; k_extra "D"; k_dflt (first | ((with_reducible refine' s_tuple ?V ?F ?e ?_); k_extra "E"; k_whole))))
  (k_with "exec Return some" => (k_here; k_extra "D"; k_dflt (first | ((with_reducible refine' s_ret ?V ?F ?e ?_); k_extra "E"; k_whole))))
  (k_with "eval Attribute Name" => (k_here; k_extra "D"; k_dflt (first | ((with_reducible refine' s_attr ?V ?F ?e ?_ ?h); k_extra "E"; (case h => with_unfolding_all rfl); k_whole))))
  (k_with "execs cons" => (k_here; k_extra "D"; k_dflt (first | k_gentoks | ((with_reducible refine' c_asgS ?V ?F ?N ?e ?x ?_ ?h); k_extra "E"; (case N => k_asm); (case x => exact rfl); (case h => exact rfl); k_whole; k_extra "S") | ((with_reducible refine' c_asg ?_ ?h); (case h => exact rfl); k_whole; (try refine (let qk8q : Value → Shared → Prop := _; (?_ : wpAny _ _ _ qk8q _ _)))) | ((with_reducible refine' c_retS ?V ?F ?e ?_); k_extra "E"; k_whole) | (with_reducible refine c_ret ?_))))
  (k_with "storeName" => (k_here; k_extra "D"; k_dflt (first | ((with_reducible refine' c_store ?V ?F ?N ?x ?_); k_extra "E0"; (case N => k_asm); (case x => exact rfl); k_whole; k_extra "S"))))
  (k_with "newList" => (k_here; k_extra "D"; k_dflt (first | ((with_reducible refine' c_newList ?F ?N ?_ ?z); (case F => k_asm); (case N => k_asm); (case z => size_fits); k_extra "A"))))
  (k_with "newTuple" => (k_here; k_extra "D"; k_dflt (first | ((with_reducible refine' c_newTuple ?F ?N ?_ ?z); (case F => k_asm); (case N => k_asm); (case z => kmk_size); k_extra "A"))))
  (k_with "binaryOp Mult int int" => (k_here; k_extra "D"; k_dflt (first | ((with_reducible refine' c_mul ?_ ?z); (case z => mul_fits)))))
  (k_with "binaryOp Add int int" => (k_here; k_extra "D"; k_dflt (first | (with_reducible refine c_add ?_))))
  (k_with "binaryOp Sub int int" => (k_here; k_extra "D"; k_dflt (first | (with_reducible refine c_sub ?_))))
  (k_with "unaryOp USub int" => (k_here; k_extra "D"; k_dflt (first | (with_reducible refine c_neg ?_))))
  (k_with "callWith ref" => (k_here; k_extra "D"; k_dflt (first | ((with_reducible refine' s_with ?V ?F ?X ?k ?e ?_); k_extra "E"; (case X => k_asm); (case k => k_is); k_whole))))
  (k_with "eval Call" => (k_here; k_extra "D"; k_dflt (first | ((with_reducible refine' s_call ?V ?F ?X ?T ?n ?x ?d ?k ?e ?_ ?h); k_extra "E"; (case x => exact rfl); (case X => k_asm); (case T => k_asm); (case d => decide); (case n => k_is); (case k => k_is); (case h => exact rfl); k_whole))))
  (k_with "eval Name" => (k_here; k_extra "D"; k_dflt (first | ((with_reducible refine' s_val ?V ?F ?e ?_); k_extra "E"; k_whole))))
  (k_with "ktr_enter" => first
  | (refine' codeG ?k1 ?k2 ?k3 ?k4 ?k5 ?kA ?kF ?kK ?k6 ?k7 ?k8 ?k9 ?kB ?_ ?c2 ?c3 ?c4 ?c5; (case kA => exact rfl); (case kF => exact rfl); (case kK => assumption); (case k1 => first | k_asm | exact topb_of rfl rfl (by k_asm)); (case k2 => k_asm); (case k3 => k_asm); (case k4 => k_asm); (case k5 => k_asm); (case k6 => k_is); (case k7 => k_is); (case k8 => (k_extra "rm")); (case k9 => first | exact BindsTo.of_eq rfl | exact binds_K (by k_in) rfl (by k_is) rfl rfl rfl); (case c5 => decide); (case kB => exact locs rfl); (case c2 => exact rfl); (case c3 => exact rfl); (case c4 => exact rfl); k_whole; intro g'9q L'9q h'9q tk'9q st'9q FG'9q F'9q N'9q B'9q X'9q T'9q l1'9q; (try dsimp only); (try k_fold)))
  (k_with "k_inst" => exact inst_base (by k_asm) (by assumption) (by assumption))
  (k_with "getMethod ref" => (k_here; (with_reducible show wpAny _ _ (getMethod (Value.ref _) (Str.ofString "get") _) _ _ _); k_dflt (refine sd_method (SDict.base (by k_asm) (by assumption)) ?_)))
  (k_with "call builtin:dict.get" => (k_here; (with_reducible show wpAny _ _ (call (Value.builtin "dict.get") [Value.ref _, Value.str _ _]) _ _ _); k_dflt (first
  | (refine sd_get1s (SDict.base (by k_asm) (by assumption)) (by assumption) ?_; intro t'9q)
  | (refine sd_get1n (SDict.base (by k_asm) (by assumption)) (by assumption) ?_)
  | (refine sd_get1 (SDict.base (by k_asm) (by assumption)) (fun hg09q => ?_) (fun v'9q t'9q hg19q => ?_)))))
  (k_with "k_room" => (k_extra "rm"))
  (k_with "subscriptTail" => (k_here; (with_reducible show wpAny _ _ (subscriptTail _ _ (Value.ref _) (Value.str _ _)) _ _ _); k_dflt (refine sd_item (SDict.base (by k_asm) (by assumption)) (by assumption) ?_); intro t'9q))
  (k_with "call ref" => (k_here; (with_reducible show wpAny _ _ (call (Value.ref _) _) _ _ _); (try k_fold); k_dflt (refine' spec_use0 ?S ?k1 ?k2 ?k3 ?k4 ?k5 ?kK ?kP ?kd ?ku ?_; (case S => assumption); (case k1 => first | k_asm | exact topb_of rfl rfl (by k_asm)); (case k2 => k_asm); (case k3 => k_asm); (case k4 => k_asm); (case k5 => k_asm); (case kK => exact rfl); (case kP => first | exact trivial | exact ElOf.base (by k_asm) (by assumption)); (case kd => (k_extra "rm")); (case ku => (k_extra "un"))); intro r'9q tl'9q h'9q tk'9q F'9q N'9q fr'9q st'9q hR'9q; (try dsimp only at hR'9q)))
  (k_with "k_mem" => ((show _ ∈ (_ ++ _ : List (Addr × Obj))); first | (refine List.mem_append_right _ ?_; k_mem) | (refine List.mem_append_left _ ?_; k_mem)))
  (k_with "call builtin:dict.get" => (k_here; (with_reducible show wpAny _ _ (call (Value.builtin "dict.get") [Value.ref _, Value.str _ _, Value.str _ _]) _ _ _); k_dflt (refine sd_get2L (SDict.base (by k_asm) (by assumption)) (by first | assumption | decide) ?_); intro t'9q hlen'9q))
  rw [Int.fdiv_eq_ediv_of_nonneg a (by omega)]; exact Int.ediv_nonneg ha (by omega)
theorem take_spec (w : World) (mean : ExcName → Option Value) (mg mb : Str → Option Value) (src : Addr) (a b : Int) (ta tb : Tok) (n : Nat) (top : Int) (tt : Tok) (ha : 0 ≤ a) (hb : 0 ≤ b) (hb2 : b < 2147483647) (ht : 1 ≤ top) (ht2 : top ≤ 8) :
  Spec w mean mg mb 317 [.ref src, .int top tt] [(src, PySem.W.listOf #[.int a ta, .int b tb] n)] 1 (fun _ => True)
   (fun r led' tl => tl = [] ∧ ∃ v t a' b' ta' tb' n', r = .int v t ∧ 0 ≤ v ∧ v < top ∧ 0 ≤ a' ∧ 0 ≤ b' ∧ b' < 2147483647 ∧ led' = [(src, PySem.W.listOf #[.int a' ta', .int b' tb'] n')]) := by
  (k_with "subscriptTail Name Constant ref int" => ((with_reducible show wpAny _ _ (subscriptTail _ _ (Value.ref _) (Value.int _ _)) _ _ _); (with_unfolding_all refine' item_list_ints ?k1 ?k2 ?k3 ?k4 ?k5 ?_; (case k1 => is_list); (case k2 => l_ints); (case k3 => l_idx); (case k4 => l_idx); (case k5 => l_idx); k_whole); intro _; simp only [tk_get0, tk_get1]))
  unfold Spec
  k_fill
  intro dp un gd cn cs a' ccd cl outer A₀ base h₀ L m s Q E B F X N T hk hP hd hu hret
  clear hP
  refine wpAny_call ?_
  k_dflt ktr_enter
  first | refine (let ak : Around := _; let nk : Env := _; let sg9 : Array GenState := _; let sd9 : Drawn := _; let so9 : OsState := _; (?_ : wpAny _ ak (execs _ nk) _ _ (Shared.mk _ sg9 sd9 _ so9))) | refine (let ak : Around := _; let nk : Env := _; (?_ : wpAny _ ak (execs _ nk) _ _ _))
  try (have TB9 : TopB ak _ _ (dp + 1) (un + 3) := topb_of rfl rfl (by assumption))
  try (have FE9 : FnE nk L'9q := ⟨rfl, rfl, rfl⟩)
  try (rename Fr _ _ _ (fun y => List.lookup y (List.reverse _)) => FX9; replace FX9 := fr_binds [(Str.ofString "source", (.ref src : Value)), (Str.ofString "top", (.int top tt : Value))] rfl FX9)
  rename Stood _ _ _ => st
  (k_extra "st")
  · exact spec_ret hret st (by assumption) (by assumption) (by assumption) (by assumption) [] _ (by exact fun _ h => h) (by rfl) (fun _ h => nomatch h) ⟨rfl, _, _, _, _, _, _, _, rfl, tk_lo _ ht, tk_hi _ ht, tk_div ha ht, hb, hb2, rfl⟩
  · exact spec_ret hret st (by assumption) (by assumption) (by assumption) (by assumption) [] _ (by exact fun _ h => h) (by rfl) (fun _ h => nomatch h) ⟨rfl, _, _, _, _, _, _, _, rfl, tk_lo _ ht, tk_hi _ ht, ha, tk_lo _ (by decide), tk_hi _ (by decide), rfl⟩
theorem len_base {w : World} {A : Around} {E : Value → Shared → Prop} {s : Shared} {g : Heap} {L l : Addr} {m : Str → Option Value} {items : Array Value} {Q : Value → Shared → Prop} (F : Fr g L s.heap m) (hl : g.IsList l items) (hz : items.size ≤ 1000) (h : ∀ t tk, Q (.int items.size t) { s with toks := tk }) :
    wpAny (model PG w) A (call (.builtin "len") [.ref l]) Q E s := Calls.call_len_list (hl.at fun o e => F.keep l o e) (by omega) (h _ _)
theorem item_base {w : World} {A : Around} {E : Value → Shared → Prop} {s : Shared} {g : Heap} {L l : Addr} {m : Str → Option Value} {vs : List Value} {Q : Value → Shared → Prop} {value slice : PySem.Expr} {k : Int} {u : Tok}
    (F : Fr g L s.heap m) (hl : g.IsList l vs.toArray) (h0 : 0 ≤ k) (h1 : k < vs.toArray.size) (hz : vs.toArray.size ≤ 1000) (h : ∀ x, x ∈ vs → Q x s)
    (hs : subscripted slice false (.ref l) (.int k u) = operate [.ref l, .int k u] (getItem (.ref l) (.int k u)) := by with_unfolding_all rfl) (hg : ∀ r, letTemporaryGo value (.ref l) r = pure () := by intro _; with_unfolding_all rfl) :
    wpAny (model PG w) A (subscriptTail value slice (.ref l) (.int k u)) Q E s := by
  k_with_none
  w_top off
  (k_with "an" => (first | assumption | exact And.left (by assumption) | exact And.left (And.right (by assumption)) | exact And.left (And.right (And.right (by assumption))) | exact And.left (And.right (And.right (And.right (by assumption)))) | exact And.left (And.right (And.right (And.right (And.right (by assumption))))) | exact And.left (And.right (And.right (And.right (And.right (And.right (by assumption)))))) | exact And.left (And.right (And.right (And.right (And.right (And.right (And.right (by assumption))))))) | exact And.left (And.right (And.right (And.right (And.right (And.right (And.right (And.right (by assumption)))))))) | exact And.left (And.right (And.right (And.right (And.right (And.right (And.right (And.right (And.right (by assumption)))))))))))
  (k_with "k_ne" => (refine neN ?_; (try dsimp only); first | (refine Nat.ne_of_lt ?_; k_extra "an") | (refine Nat.ne_of_gt ?_; k_extra "an")))
  (k_with "sub" => (first | assumption | (refine List.mem_append_left _ ?_; k_extra "sub") | (refine List.mem_append_right _ ?_; k_extra "sub") | (refine List.Mem.tail _ ?_; k_extra "sub")))
  (k_with "rm" => (first | exact room_of 1 rfl (by assumption) rfl | exact room_of 0 rfl (by assumption) rfl | exact room_of1 1 rfl (by assumption) rfl | exact room_of1 0 rfl (by assumption) rfl | ktr_room))
  (k_with "un" => (first | exact units_of 3 rfl (by assumption) rfl | exact units_of 4 rfl (by assumption) rfl | exact units_of 0 rfl (by assumption) rfl | ktr_units))
  (k_with "gn" => refine (let P9 : Prop := _; (?_ : P9)))
  (k_with "st" => (repeat' (first | ((with_reducible show wpAny _ _ (PySem.exec _ _) _ _ _); k_fold) | ((fail_if_success (fail_if_success k_unfold)); (show wpAny _ _ _ _ _ _); (try dsimp only)) | (k_unfold; (try dsimp only)) | (k_end; wrow_close) | walk1 | (dsimp only; walk1) | (leave1; walk_say "STEP leave1"; try dsimp only) | fail "no step")))
  (k_with "ktr_enter" => first
  | (refine' codeG ?k1 ?k2 ?k3 ?k4 ?k5 ?kA ?kF ?kK ?k6 ?k7 ?k8 ?k9 ?kB ?_ ?c2 ?c3 ?c4 ?c5; (case kA => exact rfl); (case kF => exact rfl); (case kK => assumption); (case k1 => first | k_asm | exact topb_of rfl rfl (by k_asm)); (case k2 => k_asm); (case k3 => k_asm); (case k4 => k_asm); (case k5 => k_asm); (case k6 => k_is); (case k7 => k_is); (case k8 => (k_extra "rm")); (case k9 => first | exact BindsTo.of_eq rfl | exact binds_K (by k_in) rfl (by k_is) rfl rfl rfl); (case c5 => decide); (case kB => exact locs rfl); (case c2 => exact rfl); (case c3 => exact rfl); (case c4 => exact rfl); k_whole; intro g'9q L'9q h'9q tk'9q st'9q FG'9q F'9q N'9q B'9q X'9q T'9q l1'9q; (try dsimp only); (try k_fold)))
  (k_with "k_inst" => exact inst_base (by k_asm) (by assumption) (by assumption))
  (k_with "getMethod ref" => (k_here; (with_reducible show wpAny _ _ (getMethod (Value.ref _) (Str.ofString "get") _) _ _ _); k_dflt (refine sd_method (SDict.base (by k_asm) (by assumption)) ?_)))
  (k_with "call builtin:dict.get" => (k_here; (with_reducible show wpAny _ _ (call (Value.builtin "dict.get") [Value.ref _, Value.str _ _]) _ _ _); k_dflt (first
  | (refine sd_get1s (SDict.base (by k_asm) (by assumption)) (by assumption) ?_; intro t'9q)
  | (refine sd_get1n (SDict.base (by k_asm) (by assumption)) (by assumption) ?_)
  | (refine sd_get1 (SDict.base (by k_asm) (by assumption)) (fun hg09q => ?_) (fun v'9q t'9q hg19q => ?_)))))
  (k_with "k_room" => (k_extra "rm"))
  (k_with "subscriptTail" => (k_here; (with_reducible show wpAny _ _ (subscriptTail _ _ (Value.ref _) (Value.str _ _)) _ _ _); k_dflt (refine sd_item (SDict.base (by k_asm) (by assumption)) (by assumption) ?_); intro t'9q))
  (k_with "call ref" => (k_here; (with_reducible show wpAny _ _ (call (Value.ref _) _) _ _ _); (try k_fold); k_dflt (refine' spec_use0 ?S ?k1 ?k2 ?k3 ?k4 ?k5 ?kK ?kP ?kd ?ku ?_; (case S => assumption); (case k1 => first | k_asm | exact topb_of rfl rfl (by k_asm)); (case k2 => k_asm); (case k3 => k_asm); (case k4 => k_asm); (case k5 => k_asm); (case kK => exact rfl); (case kP => first | exact trivial | exact ElOf.base (by k_asm) (by assumption)); (case kd => (k_extra "rm")); (case ku => (k_extra "un"))); intro r'9q tl'9q h'9q tk'9q F'9q N'9q fr'9q st'9q hR'9q; (try dsimp only at hR'9q)))
  (k_with "k_mem" => ((show _ ∈ (_ ++ _ : List (Addr × Obj))); first | (refine List.mem_append_right _ ?_; k_mem) | (refine List.mem_append_left _ ?_; k_mem)))
  (k_with "call builtin:dict.get" => (k_here; (with_reducible show wpAny _ _ (call (Value.builtin "dict.get") [Value.ref _, Value.str _ _, Value.str _ _]) _ _ _); k_dflt (refine sd_get2L (SDict.base (by k_asm) (by assumption)) (by first | assumption | decide) ?_); intro t'9q hlen'9q))
  have hL : s.heap.IsList l vs.toArray := hl.at fun o e => F.keep l o e
  have hlt : k.toNat < vs.toArray.size := by omega
  exact subscriptTail_builtin hL.typeIs slot_list_getitem.lookup (wpAny_getItem_list hL h0 (by omega) (Array.getElem?_eq_getElem hlt) (h _ (by simp))) hs hg
theorem one_spec (w : World) (mean : ExcName → Option Value) (mg mb : Str → Option Value) (src th : Addr) (a b : Int) (ta tb : Tok) (n : Nat) (vs : List Value) (ha : 0 ≤ a) (hb : 0 ≤ b) (hb2 : b < 2147483647) (ht : (1 : Int) ≤ vs.toArray.size) (ht2 : (vs.toArray.size : Int) ≤ 8) :
  Spec w mean mg mb 324 [.ref src, .ref th] [(src, PySem.W.listOf #[.int a ta, .int b tb] n)] 2 (fun h => h.IsList th vs.toArray ∧ th ≠ src)
   (fun r led' tl => tl = [] ∧ r ∈ vs ∧ ∃ a' b' ta' tb' n', 0 ≤ a' ∧ 0 ≤ b' ∧ b' < 2147483647 ∧ led' = [(src, PySem.W.listOf #[.int a' ta', .int b' tb'] n')]) := by
  (k_with "call builtin:len" => (k_here; (with_reducible show wpAny _ _ (call (Value.builtin "len") [Value.ref _]) _ _ _); k_dflt (refine len_base (by k_asm) (by assumption) (by assumption) (fun t'9q tk'9q => ?_))))
  (k_with "subscriptTail" => (k_here; (with_reducible show wpAny _ _ (subscriptTail _ _ (Value.ref _) (Value.int _ _)) _ _ _); k_dflt (refine item_base (by k_asm) (by assumption) (by assumption) (by assumption) (by assumption) (fun x'9q hx'9q => ?_))))
  (k_with "call ref" => (k_here; (with_reducible show wpAny _ _ (call (Value.ref 317) _) _ _ _); (try k_fold); k_dflt (refine' use_take (take_spec _ _ _ _ _ _ _ _ _ _ _ _ ?ha ?hb ?hb2 ?ht ?ht2) ?k1 ?k2 ?k3 ?k4 ?kU ?k5 ?kK ?kP ?kd ?ku ?_; (case k1 => first | k_asm | exact topb_of rfl rfl (by k_asm)); (case k2 => k_asm); (case k3 => k_asm); (case k4 => k_asm); (case kU => k_updF); (case k5 => k_asm); (case kK => exact rfl); (case kP => exact trivial); (case kd => (k_extra "rm")); (case ku => (k_extra "un")); (case ha => assumption); (case hb => assumption); (case hb2 => assumption); (case ht => assumption); (case ht2 => assumption)); intro v'9q t'9q a'9q b'9q ta'9q tb'9q n'9q h'9q tk'9q F'9q N'9q hR29q hR39q hR49q hR59q hR69q; (try dsimp only at N'9q)))
  unfold Spec
  k_fill
  intro dp un gd cn cs a' ccd cl outer A₀ base h₀ L m s Q E B F X N T hk hP hd hu hret
  refine wpAny_call ?_
  k_dflt ktr_enter
  first | refine (let ak : Around := _; let nk : Env := _; let sg9 : Array GenState := _; let sd9 : Drawn := _; let so9 : OsState := _; (?_ : wpAny _ ak (execs _ nk) _ _ (Shared.mk _ sg9 sd9 _ so9))) | refine (let ak : Around := _; let nk : Env := _; (?_ : wpAny _ ak (execs _ nk) _ _ _))
  try (have TB9 : TopB ak _ _ (dp + 1) (un + 3) := topb_of rfl rfl (by assumption))
  try (rename Fr _ _ _ (fun y => List.lookup y (List.reverse _)) => FX9; replace FX9 := fr_binds [(Str.ofString "source", (.ref src : Value)), (Str.ofString "things", (.ref th : Value))] rfl FX9)
  rename Stood _ _ _ => st
  k_extra "gn"; (obtain ⟨⟨o1, h1, h2⟩, h3⟩ := hP) <;> k_unfold
  have hl : Heap.IsList _ th vs.toArray := ⟨o1, st _ _ h1 (by simpa using h3), h2⟩
  clear h1 h2 h3
  have hz : vs.toArray.size ≤ 1000 := by omega
  (k_extra "st")
  exact spec_ret hret st (by assumption) (by assumption) (by assumption) (by assumption) [] _ (by exact fun _ h => h) (by rfl) (fun _ h => nomatch h) ⟨rfl, by assumption, _, _, _, _, _, by assumption, by assumption, by assumption, rfl⟩
theorem sd_tab {w : World} {h : Heap} {d : Addr} {as : List (Str × Str)} (D : SDict w (HG h) d as) : TabAt (PySem.strKind PG w) PyData.str h d (sD as) := by
  k_with_none
  w_top off
  (k_with "an" => (first | assumption | exact And.left (by assumption) | exact And.left (And.right (by assumption)) | exact And.left (And.right (And.right (by assumption))) | exact And.left (And.right (And.right (And.right (by assumption)))) | exact And.left (And.right (And.right (And.right (And.right (by assumption))))) | exact And.left (And.right (And.right (And.right (And.right (And.right (by assumption)))))) | exact And.left (And.right (And.right (And.right (And.right (And.right (And.right (by assumption))))))) | exact And.left (And.right (And.right (And.right (And.right (And.right (And.right (And.right (by assumption)))))))) | exact And.left (And.right (And.right (And.right (And.right (And.right (And.right (And.right (And.right (by assumption)))))))))))
  (k_with "k_ne" => (refine neN ?_; (try dsimp only); first | (refine Nat.ne_of_lt ?_; k_extra "an") | (refine Nat.ne_of_gt ?_; k_extra "an")))
  (k_with "sub" => (first | assumption | (refine List.mem_append_left _ ?_; k_extra "sub") | (refine List.mem_append_right _ ?_; k_extra "sub") | (refine List.Mem.tail _ ?_; k_extra "sub")))
  (k_with "rm" => (first | exact room_of 1 rfl (by assumption) rfl | exact room_of 0 rfl (by assumption) rfl | exact room_of1 1 rfl (by assumption) rfl | exact room_of1 0 rfl (by assumption) rfl | ktr_room))
  (k_with "un" => (first | exact units_of 3 rfl (by assumption) rfl | exact units_of 4 rfl (by assumption) rfl | exact units_of 0 rfl (by assumption) rfl | ktr_units))
  (k_with "gn" => refine (let P9 : Prop := _; (?_ : P9)))
  (k_with "st" => (repeat' (first | ((with_reducible show wpAny _ _ (PySem.exec _ _) _ _ _); k_fold) | ((fail_if_success (fail_if_success k_unfold)); (show wpAny _ _ _ _ _ _); (try dsimp only)) | (k_unfold; (try dsimp only)) | (k_end; wrow_close) | walk1 | (dsimp only; walk1) | (leave1; walk_say "STEP leave1"; try dsimp only) | fail "no step")))
  (k_with "D" => try ((with_reducible show wpAny _ _ _ _ _ (Shared.mk (Shared.heap _) _ _ _ _)); dsimp only))
  (k_with "E0" => ((case F => k_asm); (case V => first | assumption | exact ⟨rfl, rfl, rfl⟩)))
  (k_with "E" => (k_extra "E0"; (case e => exact rfl)))
  (k_with "S" => (intro h'8q tk'8q F'8q N'8q; (try k_sweep)))
  (k_with "A" => (intro l'8q h'8q F'8q N'8q l18q; (try k_lt l18q); (try k_sweep)))
  (k_with "spliced" => (k_here; k_extra "D"; k_dflt (first | ((with_reducible refine' s_args ?V ?F ?e ?_); k_extra "E"; k_whole; (try dsimp only [List.cons_append, List.nil_append])))))
  (k_with "evalPairs" => (k_here; k_extra "D"; k_dflt (first | ((with_reducible refine' s_pair ?V ?F ?e ?f ?_); k_extra "E"; (case f => exact rfl); k_whole))))
  (k_with "eval BinOp" => (k_here; k_extra "D"; k_dflt (first | ((with_reducible refine' s_bin ?V ?F ?e ?f ?_); k_extra "E"; (case f => exact rfl); k_whole) | ((with_reducible refine' s_binL ?V ?F ?e ?_); k_extra "E"; k_whole))))
  (k_with "isTrue Compare" => (k_here; k_extra "D"; k_dflt (first | ((with_reducible refine' s_cmp ?V ?F ?e ?f ?h ?_); k_extra "E"; (case f => exact rfl); (case h => with_unfolding_all rfl); k_whole) | ((with_reducible refine' s_cmpL ?V ?F ?e ?h ?_); k_extra "E"; (case h => with_unfolding_all rfl); k_whole))))
  (k_with "eval Subscript" => (k_here; k_extra "D"; k_dflt (first | ((with_reducible refine' s_sub ?V ?F ?e ?f ?_); k_extra "E"; (case f => exact rfl); k_whole) | ((with_reducible refine' s_subL ?V ?F ?e ?_); k_extra "E"; k_whole))))
  (k_with "eval List" => (k_here; k_extra "D"; k_dflt (first | ((with_reducible refine' s_list ?V ?F ?e ?_); k_extra "E"; k_whole))))
  (k_with "eval Tuple" => (k_here; k_extra "D"; k_dflt (first | ((with_reducible refine' s_tuple ?V ?F ?e ?_); k_extra "E"; k_whole))))
  (k_with "exec Return some" => (k_here; k_extra "D"; k_dflt (first | ((with_reducible refine' s_ret ?V ?F ?e ?_); k_extra "E"; k_whole))))
  (k_with "eval Attribute Name" => (k_here; k_extra "D"; k_dflt (first | ((with_reducible refine' s_attr ?V ?F ?e ?_ ?h); k_extra "E"; (case h => with_unfolding_all rfl); k_whole))))
  (k_with "execs cons" => (k_here; k_extra "D"; k_dflt (first | k_gentoks | ((with_reducible refine' c_asgS ?V ?F ?N ?e ?x ?_ ?h); k_extra "E"; (case N => k_asm); (case x => exact rfl); (case h => exact rfl); k_whole; k_extra "S") | ((with_reducible refine' c_asg ?_ ?h); (case h => exact rfl); k_whole; (try refine (let qk8q : Value → Shared → Prop := _; (?_ : wpAny _ _ _ qk8q _ _)))) | ((with_reducible refine' c_retS ?V ?F ?e ?_); k_extra "E"; k_whole) | (with_reducible refine c_ret ?_))))
  (k_with "storeName" => (k_here; k_extra "D"; k_dflt (first | ((with_reducible refine' c_store ?V ?F ?N ?x ?_); k_extra "E0"; (case N => k_asm); (case x => exact rfl); k_whole; k_extra "S"))))
  (k_with "newList" => (k_here; k_extra "D"; k_dflt (first | ((with_reducible refine' c_newList ?F ?N ?_ ?z); (case F => k_asm); (case N => k_asm); (case z => size_fits); k_extra "A"))))
  (k_with "newTuple" => (k_here; k_extra "D"; k_dflt (first | ((with_reducible refine' c_newTuple ?F ?N ?_ ?z); (case F => k_asm); (case N => k_asm); (case z => kmk_size); k_extra "A"))))
  (k_with "binaryOp Mult int int" => (k_here; k_extra "D"; k_dflt (first | ((with_reducible refine' c_mul ?_ ?z); (case z => mul_fits)))))
  (k_with "binaryOp Add int int" => (k_here; k_extra "D"; k_dflt (first | (with_reducible refine c_add ?_))))
  (k_with "binaryOp Sub int int" => (k_here; k_extra "D"; k_dflt (first | (with_reducible refine c_sub ?_))))
  (k_with "unaryOp USub int" => (k_here; k_extra "D"; k_dflt (first | (with_reducible refine c_neg ?_))))
  (k_with "callWith ref" => (k_here; k_extra "D"; k_dflt (first | ((with_reducible refine' s_with ?V ?F ?X ?k ?e ?_); k_extra "E"; (case X => k_asm); (case k => k_is); k_whole))))
  (k_with "eval Call" => (k_here; k_extra "D"; k_dflt (first | ((with_reducible refine' s_call ?V ?F ?X ?T ?n ?x ?d ?k ?e ?_ ?h); k_extra "E"; (case x => exact rfl); (case X => k_asm); (case T => k_asm); (case d => decide); (case n => k_is); (case k => k_is); (case h => exact rfl); k_whole))))
  (k_with "eval Name" => (k_here; k_extra "D"; k_dflt (first | ((with_reducible refine' s_val ?V ?F ?e ?_); k_extra "E"; k_whole))))
  (k_with "ktr_enter" => first
  | (refine' codeG ?k1 ?k2 ?k3 ?k4 ?k5 ?kA ?kF ?kK ?k6 ?k7 ?k8 ?k9 ?kB ?_ ?c2 ?c3 ?c4 ?c5; (case kA => exact rfl); (case kF => exact rfl); (case kK => assumption); (case k1 => first | k_asm | exact topb_of rfl rfl (by k_asm)); (case k2 => k_asm); (case k3 => k_asm); (case k4 => k_asm); (case k5 => k_asm); (case k6 => k_is); (case k7 => k_is); (case k8 => (k_extra "rm")); (case k9 => first | exact BindsTo.of_eq rfl | exact binds_K (by k_in) rfl (by k_is) rfl rfl rfl); (case c5 => decide); (case kB => exact locs rfl); (case c2 => exact rfl); (case c3 => exact rfl); (case c4 => exact rfl); k_whole; intro g'9q L'9q h'9q tk'9q st'9q FG'9q F'9q N'9q B'9q X'9q T'9q l1'9q; (try dsimp only); (try k_fold)))
  (k_with "k_inst" => exact inst_base (by k_asm) (by assumption) (by assumption))
  (k_with "getMethod ref" => (k_here; (with_reducible show wpAny _ _ (getMethod (Value.ref _) (Str.ofString "get") _) _ _ _); k_dflt (refine sd_method (SDict.base (by k_asm) (by assumption)) ?_)))
  (k_with "call builtin:dict.get" => (k_here; (with_reducible show wpAny _ _ (call (Value.builtin "dict.get") [Value.ref _, Value.str _ _]) _ _ _); k_dflt (first
  | (refine sd_get1s (SDict.base (by k_asm) (by assumption)) (by assumption) ?_; intro t'9q)
  | (refine sd_get1n (SDict.base (by k_asm) (by assumption)) (by assumption) ?_)
  | (refine sd_get1 (SDict.base (by k_asm) (by assumption)) (fun hg09q => ?_) (fun v'9q t'9q hg19q => ?_)))))
  (k_with "k_room" => (k_extra "rm"))
  (k_with "subscriptTail" => (k_here; (with_reducible show wpAny _ _ (subscriptTail _ _ (Value.ref _) (Value.str _ _)) _ _ _); k_dflt (refine sd_item (SDict.base (by k_asm) (by assumption)) (by assumption) ?_); intro t'9q))
  (k_with "call ref" => (k_here; (with_reducible show wpAny _ _ (call (Value.ref _) _) _ _ _); (try k_fold); k_dflt (refine' spec_use0 ?S ?k1 ?k2 ?k3 ?k4 ?k5 ?kK ?kP ?kd ?ku ?_; (case S => assumption); (case k1 => first | k_asm | exact topb_of rfl rfl (by k_asm)); (case k2 => k_asm); (case k3 => k_asm); (case k4 => k_asm); (case k5 => k_asm); (case kK => exact rfl); (case kP => first | exact trivial | exact ElOf.base (by k_asm) (by assumption)); (case kd => (k_extra "rm")); (case ku => (k_extra "un"))); intro r'9q tl'9q h'9q tk'9q F'9q N'9q fr'9q st'9q hR'9q; (try dsimp only at hR'9q)))
  (k_with "k_mem" => ((show _ ∈ (_ ++ _ : List (Addr × Obj))); first | (refine List.mem_append_right _ ?_; k_mem) | (refine List.mem_append_left _ ?_; k_mem)))
  (k_with "call builtin:dict.get" => (k_here; (with_reducible show wpAny _ _ (call (Value.builtin "dict.get") [Value.ref _, Value.str _ _, Value.str _ _]) _ _ _); k_dflt (refine sd_get2L (SDict.base (by k_asm) (by assumption)) (by first | assumption | decide) ?_); intro t'9q hlen'9q))
  k_extra "gn"; (obtain ⟨kvs, hD, hA, lo, _⟩ := sd_dict D) <;> k_unfold
  exact ⟨lo, kvs, hD, attrs_flat hA⟩
theorem sd_copy {w : World} {A : Around} {E : Value → Shared → Prop} {s : Shared} {h₀ : Heap} {L d : Addr} {m : Str → Option Value} {news : List (Addr × Obj)} {as : List (Str × Str)} {Q : Value → Shared → Prop} (D : SDict w (HG s.heap) d as) (F : Fr h₀ L s.heap m) (N : News h₀ L s.heap news) (hbig : h₀.NoLimit)
    (k : ∀ d' h' o, Fr h₀ L h' m → News h₀ L h' ((d', o) :: news) → (∀ p ∈ news, p.1 < d') → SDict w (LG [(d', o)]) d' as → Q (.ref d') { s with heap := h' }) :
    wpAny (model PG w) A (call (.type "dict") [.ref d]) Q E s := by
  k_extra "gn"; (obtain ⟨_, _, _, _, hl⟩ := sd_dict D) <;> k_unfold
  refine kt_dict_K F N hbig (sd_tab D) (by rw [List.length_map, sizeLine_eq]; have := hl.1; omega) fun d' h' o kvs F' N' l1 lo hd hf => k d' h' o F' N' l1 ?_
  exact ⟨o, kvs, .head _, hd, flat_attrs hf, lo, hl⟩
noncomputable def Shell (w : World) (G : Addr → Obj → Prop) (v : Value) (name : Str) (attrs : List (Str × Str)) (vs : List Value) (text : Str) : Prop :=
  ∃ x dx ad cl h1 h2 h3 h4 t1 t2 t3 t4 tn tt n, v = .ref x ∧ G x (instObj 217 dx) ∧
    G dx (dictOf [⟨h1, .str (Str.ofString "name") t1, .str name tn⟩, ⟨h2, .str (Str.ofString "attributes") t2, .ref ad⟩, ⟨h3, .str (Str.ofString "children") t3, .ref cl⟩, ⟨h4, .str (Str.ofString "text") t4, .str text tt⟩] 4) ∧
    SDict w G ad attrs ∧ G cl (PySem.W.listOf vs.toArray n) ∧ vs.length ≤ 40
theorem Shell.intro {w : World} {G : Addr → Obj → Prop} {name text : Str} {attrs : List (Str × Str)} {vs : List Value} {x dx ad cl : Addr} {h1 h2 h3 h4 : Int} {t1 t2 t3 t4 tn tt : Tok} {n : Nat} (a : G x (instObj 217 dx))
    (b : G dx (dictOf [⟨h1, .str (Str.ofString "name") t1, .str name tn⟩, ⟨h2, .str (Str.ofString "attributes") t2, .ref ad⟩, ⟨h3, .str (Str.ofString "children") t3, .ref cl⟩, ⟨h4, .str (Str.ofString "text") t4, .str text tt⟩] 4))
    (c : SDict w G ad attrs) (d : G cl (PySem.W.listOf vs.toArray n)) (l : vs.length ≤ 40) : Shell w G (.ref x) name attrs vs text := ⟨x, dx, ad, cl, h1, h2, h3, h4, t1, t2, t3, t4, tn, tt, n, rfl, a, b, c, d, l⟩
theorem Shell.mono {w : World} {G G' : Addr → Obj → Prop} {v : Value} {name text : Str} {attrs : List (Str × Str)} {vs : List Value} (h : Shell w G v name attrs vs text) (hs : ∀ a o, G a o → G' a o) : Shell w G' v name attrs vs text := by
  k_extra "gn"; (obtain ⟨x, dx, ad, cl, h1, h2, h3, h4, t1, t2, t3, t4, tn, tt, n, e, a, b, c, d, l⟩ := h) <;> k_unfold
  exact e ▸ Shell.intro (hs _ _ a) (hs _ _ b) (c.mono hs) (hs _ _ d) l
theorem Shell.el {w : World} {G : Addr → Obj → Prop} {v : Value} {name text : Str} {attrs : List (Str × Str)} {vs : List Value} {kids : List El} (h : Shell w G v name attrs vs text) (k : ElsOf w G vs kids) : ElOf w G v (.mk name attrs kids text) := by
  k_extra "gn"; (obtain ⟨x, dx, ad, cl, h1, h2, h3, h4, t1, t2, t3, t4, tn, tt, n, rfl, a, b, c, d, l⟩ := h) <;> k_unfold
  exact .mk a b c d l k
noncomputable def textOf (name : Str) : Str := if (name == Str.ofString "text") = true then Str.ofString "t" else Str.ofString ""
theorem textOf_t {name : Str} (h : (name == Str.ofString "text") = true) : textOf name = Str.ofString "t" := if_pos h
theorem textOf_f {name : Str} (h : (name == Str.ofString "text") = false) : textOf name = Str.ofString "" := if_neg (by rw [h]; exact Bool.false_ne_true)
theorem SDict.one {w : World} {d : Addr} {o : Obj} {as : List (Str × Str)} {news : List (Addr × Obj)} (h : SDict w (LG [(d, o)]) d as) (hm : (d, o) ∈ news) : SDict w (LG news) d as :=
  h.mono fun a b e => by
    have e' : (a, b) = (d, o) := List.mem_singleton.mp e
    show (a, b) ∈ news
    rw [e']; exact hm
theorem element_spec (w : World) (mean : ExcName → Option Value) (mg mb : Str → Option Value) (name : Str) (tn : Tok) (wd cd : Addr) (attrs : List (Str × Str)) (vs : List Value) (hl : vs.length ≤ 40) :
  Spec w mean mg mb 331 [.str name tn, .ref wd, .ref cd] [] 4 (fun h => SDict w (HG h) wd attrs ∧ h.IsList cd vs.toArray)
   (fun r _ tl => Shell w (LG tl) r name attrs vs (textOf name)) := by
  (k_with "call type:dict" => (k_here; (with_reducible show wpAny _ _ (call (Value.type "dict") [Value.ref _]) _ _ _); k_dflt (refine sd_copy (SDict.base (by k_asm) (by assumption)) (by k_asm) (by k_asm) (Top.nolimit (by k_asm)) ?_); intro d'9q h'9q o'9q F'9q N'9q l19q hD'9q; (try k_lt l19q)))
  unfold Spec
  k_fill
  intro dp un gd cn cs a' ccd cl outer A₀ base h₀ L m s Q E B F X N T hk hP hd hu hret
  refine wpAny_call ?_
  k_dflt ktr_enter
  first | refine (let ak : Around := _; let nk : Env := _; let sg9 : Array GenState := _; let sd9 : Drawn := _; let so9 : OsState := _; (?_ : wpAny _ ak (execs _ nk) _ _ (Shared.mk _ sg9 sd9 _ so9))) | refine (let ak : Around := _; let nk : Env := _; (?_ : wpAny _ ak (execs _ nk) _ _ _))
  try (have TB9 : TopB ak _ _ (dp + 1) (un + 3) := topb_of rfl rfl (by assumption))
  try (have FE9 : FnE nk L'9q := ⟨rfl, rfl, rfl⟩)
  try (rename Fr _ _ _ (fun y => List.lookup y (List.reverse _)) => FX9; replace FX9 := fr_binds [(Str.ofString "name", (.str name tn : Value)), (Str.ofString "words", (.ref wd : Value)), (Str.ofString "children", (.ref cd : Value))] rfl FX9)
  rename Stood _ _ _ => st
  k_extra "gn"; (obtain ⟨hP1, ⟨o1, h1, h2⟩⟩ := hP) <;> k_unfold
  have hl : Heap.IsList _ cd vs.toArray := ⟨o1, st _ _ h1 (fun h => nomatch h), h2⟩
  clear h1 h2
  replace hP1 := hP1.mono fun a o e => st a o e (fun h => nomatch h)
  (k_extra "st")
  all_goals (
    refine spec_ret0 hret st (by assumption) (by assumption) (by assumption) (by assumption) _ (by exact fun _ h => h) ?_
    first | rw [textOf_t (by assumption)] | rw [textOf_f (by assumption)]
    exact Shell.intro (by k_mem) (by k_mem) (SDict.one (by assumption) (by k_mem)) (by k_mem) (by assumption))
noncomputable def Core (G : Addr → Obj → Prop) (v : Value) (name : Str) (ad cl : Addr) (text : Str) : Prop :=
  ∃ x dx h1 h2 h3 h4 t1 t2 t3 t4 tn tt, v = .ref x ∧ G x (instObj 217 dx) ∧
    G dx (dictOf [⟨h1, .str (Str.ofString "name") t1, .str name tn⟩, ⟨h2, .str (Str.ofString "attributes") t2, .ref ad⟩, ⟨h3, .str (Str.ofString "children") t3, .ref cl⟩, ⟨h4, .str (Str.ofString "text") t4, .str text tt⟩] 4)
theorem Core.intro {G : Addr → Obj → Prop} {name text : Str} {ad cl x dx : Addr} {h1 h2 h3 h4 : Int} {t1 t2 t3 t4 tn tt : Tok} (a : G x (instObj 217 dx))
    (b : G dx (dictOf [⟨h1, .str (Str.ofString "name") t1, .str name tn⟩, ⟨h2, .str (Str.ofString "attributes") t2, .ref ad⟩, ⟨h3, .str (Str.ofString "children") t3, .ref cl⟩, ⟨h4, .str (Str.ofString "text") t4, .str text tt⟩] 4)) : Core G (.ref x) name ad cl text := ⟨x, dx, h1, h2, h3, h4, t1, t2, t3, t4, tn, tt, rfl, a, b⟩
theorem Core.mono {G G' : Addr → Obj → Prop} {v : Value} {name text : Str} {ad cl : Addr} (h : Core G v name ad cl text) (hs : ∀ a o, G a o → G' a o) : Core G' v name ad cl text := by
  k_with_none
  w_top off
  (k_with "an" => (first | assumption | exact And.left (by assumption) | exact And.left (And.right (by assumption)) | exact And.left (And.right (And.right (by assumption))) | exact And.left (And.right (And.right (And.right (by assumption)))) | exact And.left (And.right (And.right (And.right (And.right (by assumption))))) | exact And.left (And.right (And.right (And.right (And.right (And.right (by assumption)))))) | exact And.left (And.right (And.right (And.right (And.right (And.right (And.right (by assumption))))))) | exact And.left (And.right (And.right (And.right (And.right (And.right (And.right (And.right (by assumption)))))))) | exact And.left (And.right (And.right (And.right (And.right (And.right (And.right (And.right (And.right (by assumption)))))))))))
  (k_with "k_ne" => (refine neN ?_; (try dsimp only); first | (refine Nat.ne_of_lt ?_; k_extra "an") | (refine Nat.ne_of_gt ?_; k_extra "an")))
  (k_with "sub" => (first | assumption | (refine List.mem_append_left _ ?_; k_extra "sub") | (refine List.mem_append_right _ ?_; k_extra "sub") | (refine List.Mem.tail _ ?_; k_extra "sub")))
  (k_with "rm" => (first | exact room_of 1 rfl (by assumption) rfl | exact room_of 0 rfl (by assumption) rfl | exact room_of1 1 rfl (by assumption) rfl | exact room_of1 0 rfl (by assumption) rfl | ktr_room))
  (k_with "un" => (first | exact units_of 3 rfl (by assumption) rfl | exact units_of 4 rfl (by assumption) rfl | exact units_of 0 rfl (by assumption) rfl | ktr_units))
  (k_with "gn" => refine (let P9 : Prop := _; (?_ : P9)))
  (k_with "st" => (repeat' (first | ((with_reducible show wpAny _ _ (PySem.exec _ _) _ _ _); k_fold) | ((fail_if_success (fail_if_success k_unfold)); (show wpAny _ _ _ _ _ _); (try dsimp only)) | (k_unfold; (try dsimp only)) | (k_end; wrow_close) | walk1 | (dsimp only; walk1) | (leave1; walk_say "STEP leave1"; try dsimp only) | fail "no step")))
  (k_with "D" => try ((with_reducible show wpAny _ _ _ _ _ (Shared.mk (Shared.heap _) _ _ _ _)); dsimp only))
  (k_with "E0" => ((case F => k_asm); (case V => first | assumption | exact ⟨rfl, rfl, rfl⟩)))
  (k_with "E" => (k_extra "E0"; (case e => exact rfl)))
  (k_with "S" => (intro h'8q tk'8q F'8q N'8q; (try k_sweep)))
  (k_with "A" => (intro l'8q h'8q F'8q N'8q l18q; (try k_lt l18q); (try k_sweep)))
  (k_with "spliced" => (k_here; k_extra "D"; k_dflt (first | ((with_reducible refine' s_args ?V ?F ?e ?_); k_extra "E"; k_whole; (try dsimp only [List.cons_append, List.nil_append])))))
  (k_with "evalPairs" => (k_here; k_extra "D"; k_dflt (first | ((with_reducible refine' s_pair ?V ?F ?e ?f ?_); k_extra "E"; (case f => exact rfl); k_whole))))
  (k_with "eval BinOp" => (k_here; k_extra "D"; k_dflt (first | ((with_reducible refine' s_bin ?V ?F ?e ?f ?_); k_extra "E"; (case f => exact rfl); k_whole) | ((with_reducible refine' s_binL ?V ?F ?e ?_); k_extra "E"; k_whole))))
  (k_with "isTrue Compare" => (k_here; k_extra "D"; k_dflt (first | ((with_reducible refine' s_cmp ?V ?F ?e ?f ?h ?_); k_extra "E"; (case f => exact rfl); (case h => with_unfolding_all rfl); k_whole) | ((with_reducible refine' s_cmpL ?V ?F ?e ?h ?_); k_extra "E"; (case h => with_unfolding_all rfl); k_whole))))
  (k_with "eval Subscript" => (k_here; k_extra "D"; k_dflt (first | ((with_reducible refine' s_sub ?V ?F ?e ?f ?_); k_extra "E"; (case f => exact rfl); k_whole) | ((with_reducible refine' s_subL ?V ?F ?e ?_); k_extra "E"; k_whole))))
  (k_with "eval List" => (k_here; k_extra "D"; k_dflt (first | ((with_reducible refine' s_list ?V ?F ?e ?_); k_extra "E"; k_whole))))
  (k_with "eval Tuple" => (k_here; k_extra "D"; k_dflt (first | ((with_reducible refine' s_tuple ?V ?F ?e ?_); k_extra "E"; k_whole))))
  (k_with "exec Return some" => (k_here; k_extra "D"; k_dflt (first | ((with_reducible refine' s_ret ?V ?F ?e ?_); k_extra "E"; k_whole))))
  (k_with "eval Attribute Name" => (k_here; k_extra "D"; k_dflt (first | ((with_reducible refine' s_attr ?V ?F ?e ?_ ?h); k_extra "E"; (case h => with_unfolding_all rfl); k_whole))))
  (k_with "execs cons" => (k_here; k_extra "D"; k_dflt (first | k_gentoks | ((with_reducible refine' c_asgS ?V ?F ?N ?e ?x ?_ ?h); k_extra "E"; (case N => k_asm); (case x => exact rfl); (case h => exact rfl); k_whole; k_extra "S") | ((with_reducible refine' c_asg ?_ ?h); (case h => exact rfl); k_whole; (try refine (let qk8q : Value → Shared → Prop := _; (?_ : wpAny _ _ _ qk8q _ _)))) | ((with_reducible refine' c_retS ?V ?F ?e ?_); k_extra "E"; k_whole) | (with_reducible refine c_ret ?_))))
  (k_with "storeName" => (k_here; k_extra "D"; k_dflt (first | ((with_reducible refine' c_store ?V ?F ?N ?x ?_); k_extra "E0"; (case N => k_asm); (case x => exact rfl); k_whole; k_extra "S"))))
  (k_with "newList" => (k_here; k_extra "D"; k_dflt (first | ((with_reducible refine' c_newList ?F ?N ?_ ?z); (case F => k_asm); (case N => k_asm); (case z => size_fits); k_extra "A"))))
  (k_with "newTuple" => (k_here; k_extra "D"; k_dflt (first | ((with_reducible refine' c_newTuple ?F ?N ?_ ?z); (case F => k_asm); (case N => k_asm); (case z => kmk_size); k_extra "A"))))
  (k_with "binaryOp Mult int int" => (k_here; k_extra "D"; k_dflt (first | ((with_reducible refine' c_mul ?_ ?z); (case z => mul_fits)))))
  (k_with "binaryOp Add int int" => (k_here; k_extra "D"; k_dflt (first | (with_reducible refine c_add ?_))))
  (k_with "binaryOp Sub int int" => (k_here; k_extra "D"; k_dflt (first | (with_reducible refine c_sub ?_))))
  (k_with "unaryOp USub int" => (k_here; k_extra "D"; k_dflt (first | (with_reducible refine c_neg ?_))))
  (k_with "callWith ref" => (k_here; k_extra "D"; k_dflt (first | ((with_reducible refine' s_with ?V ?F ?X ?k ?e ?_); k_extra "E"; (case X => k_asm); (case k => k_is); k_whole))))
  (k_with "eval Call" => (k_here; k_extra "D"; k_dflt (first | ((with_reducible refine' s_call ?V ?F ?X ?T ?n ?x ?d ?k ?e ?_ ?h); k_extra "E"; (case x => exact rfl); (case X => k_asm); (case T => k_asm); (case d => decide); (case n => k_is); (case k => k_is); (case h => exact rfl); k_whole))))
  (k_with "eval Name" => (k_here; k_extra "D"; k_dflt (first | ((with_reducible refine' s_val ?V ?F ?e ?_); k_extra "E"; k_whole))))
  (k_with "ktr_enter" => first
  | (refine' codeG ?k1 ?k2 ?k3 ?k4 ?k5 ?kA ?kF ?kK ?k6 ?k7 ?k8 ?k9 ?kB ?_ ?c2 ?c3 ?c4 ?c5; (case kA => exact rfl); (case kF => exact rfl); (case kK => assumption); (case k1 => first | k_asm | exact topb_of rfl rfl (by k_asm)); (case k2 => k_asm); (case k3 => k_asm); (case k4 => k_asm); (case k5 => k_asm); (case k6 => k_is); (case k7 => k_is); (case k8 => (k_extra "rm")); (case k9 => first | exact BindsTo.of_eq rfl | exact binds_K (by k_in) rfl (by k_is) rfl rfl rfl); (case c5 => decide); (case kB => exact locs rfl); (case c2 => exact rfl); (case c3 => exact rfl); (case c4 => exact rfl); k_whole; intro g'9q L'9q h'9q tk'9q st'9q FG'9q F'9q N'9q B'9q X'9q T'9q l1'9q; (try dsimp only); (try k_fold)))
  (k_with "k_inst" => exact inst_base (by k_asm) (by assumption) (by assumption))
  (k_with "getMethod ref" => (k_here; (with_reducible show wpAny _ _ (getMethod (Value.ref _) (Str.ofString "get") _) _ _ _); k_dflt (refine sd_method (SDict.base (by k_asm) (by assumption)) ?_)))
  (k_with "call builtin:dict.get" => (k_here; (with_reducible show wpAny _ _ (call (Value.builtin "dict.get") [Value.ref _, Value.str _ _]) _ _ _); k_dflt (first
  | (refine sd_get1s (SDict.base (by k_asm) (by assumption)) (by assumption) ?_; intro t'9q)
  | (refine sd_get1n (SDict.base (by k_asm) (by assumption)) (by assumption) ?_)
  | (refine sd_get1 (SDict.base (by k_asm) (by assumption)) (fun hg09q => ?_) (fun v'9q t'9q hg19q => ?_)))))
  (k_with "k_room" => (k_extra "rm"))
  (k_with "subscriptTail" => (k_here; (with_reducible show wpAny _ _ (subscriptTail _ _ (Value.ref _) (Value.str _ _)) _ _ _); k_dflt (refine sd_item (SDict.base (by k_asm) (by assumption)) (by assumption) ?_); intro t'9q))
  (k_with "call ref" => (k_here; (with_reducible show wpAny _ _ (call (Value.ref _) _) _ _ _); (try k_fold); k_dflt (refine' spec_use0 ?S ?k1 ?k2 ?k3 ?k4 ?k5 ?kK ?kP ?kd ?ku ?_; (case S => assumption); (case k1 => first | k_asm | exact topb_of rfl rfl (by k_asm)); (case k2 => k_asm); (case k3 => k_asm); (case k4 => k_asm); (case k5 => k_asm); (case kK => exact rfl); (case kP => first | exact trivial | exact ElOf.base (by k_asm) (by assumption)); (case kd => (k_extra "rm")); (case ku => (k_extra "un"))); intro r'9q tl'9q h'9q tk'9q F'9q N'9q fr'9q st'9q hR'9q; (try dsimp only at hR'9q)))
  (k_with "k_mem" => ((show _ ∈ (_ ++ _ : List (Addr × Obj))); first | (refine List.mem_append_right _ ?_; k_mem) | (refine List.mem_append_left _ ?_; k_mem)))
  (k_with "call builtin:dict.get" => (k_here; (with_reducible show wpAny _ _ (call (Value.builtin "dict.get") [Value.ref _, Value.str _ _, Value.str _ _]) _ _ _); k_dflt (refine sd_get2L (SDict.base (by k_asm) (by assumption)) (by first | assumption | decide) ?_); intro t'9q hlen'9q))
  k_extra "gn"; (obtain ⟨x, dx, h1, h2, h3, h4, t1, t2, t3, t4, tn, tt, e, a, b⟩ := h) <;> k_unfold
  exact e ▸ Core.intro (hs _ _ a) (hs _ _ b)
theorem Core.el {w : World} {G : Addr → Obj → Prop} {v : Value} {name text : Str} {ad cl : Addr} {attrs : List (Str × Str)} {vs : List Value} {n : Nat} {kids : List El} (h : Core G v name ad cl text) (D : SDict w G ad attrs) (hc : G cl (PySem.W.listOf vs.toArray n)) (hl : vs.length ≤ 40)
    (k : ElsOf w G vs kids) : ElOf w G v (.mk name attrs kids text) := by
  k_extra "gn"; (obtain ⟨x, dx, h1, h2, h3, h4, t1, t2, t3, t4, tn, tt, rfl, a, b⟩ := h) <;> k_unfold
  exact .mk a b D hc hl k
theorem elof_spec (w : World) (mean : ExcName → Option Value) (mg mb : Str → Option Value) (name text : Str) (tn tt : Tok) (ad cl : Addr) :
  Spec w mean mg mb 246 [.str name tn, .ref ad, .ref cl, .str text tt] [] 4 (fun _ => True) (fun r _ tl => Core (LG tl) r name ad cl text) := by
  unfold Spec
  k_fill
  intro dp un gd cn cs a' ccd cl' outer A₀ base h₀ L m s Q E B F X N T hk hP hd hu hret
  clear hP
  refine wpAny_call ?_
  k_dflt ktr_enter
  first | refine (let ak : Around := _; let nk : Env := _; let sg9 : Array GenState := _; let sd9 : Drawn := _; let so9 : OsState := _; (?_ : wpAny _ ak (execs _ nk) _ _ (Shared.mk _ sg9 sd9 _ so9))) | refine (let ak : Around := _; let nk : Env := _; (?_ : wpAny _ ak (execs _ nk) _ _ _))
  try (have TB9 : TopB ak _ _ (dp + 1) (un + 3) := topb_of rfl rfl (by assumption))
  try (have FE9 : FnE nk L'9q := ⟨rfl, rfl, rfl⟩)
  try (rename Fr _ _ _ (fun y => List.lookup y (List.reverse _)) => FX9; replace FX9 := fr_binds [(Str.ofString "name", (.str name tn : Value)), (Str.ofString "attributes", (.ref ad : Value)), (Str.ofString "children", (.ref cl : Value)), (Str.ofString "text", (.str text tt : Value))] rfl FX9)
  rename Stood _ _ _ => st
  (k_extra "st")
  refine spec_ret0 hret st (by assumption) (by assumption) (by assumption) (by assumption) _ (by exact fun _ h => h) ?_
  exact Core.intro (by k_mem) (by k_mem)
section
variable {prog : Program} {w : World} {A : Around} {E : Value → Shared → Prop} {s : Shared} {h₀ : Heap} {L : Addr} {m : Str → Option Value} {env : Env}
noncomputable def SrcD (prog : Program) (w : World) (A : Around) (h₀ : Heap) (L : Addr) (m : Str → Option Value) (env : Env) (elt : PySem.Expr) (x : Str) (scope : Scope) (cl : List (Str × Addr)) (Fin : Shared → List Value → List (Addr × Obj) → Prop) (xv : Value) (s₁ : Shared) : Prop :=
  ∃ d kvs news o, xv = .ref d ∧ A.handled = none ∧ Fr h₀ L s₁.heap m ∧ News h₀ L s₁.heap news ∧ (d == sysModules) = false ∧ h₀.get? d = some o ∧ o.IsDictOf (PySem.strKind prog w) kvs ∧ kvs.length ≤ sizeLine ∧
    ∀ s₂ : Shared, (∃ h, s₂ = { s₁ with heap := h }) → LCg.CompRest prog w A h₀ L m env elt x scope cl s₂ (fun _ => True) (fun i v => ∃ k u, kvs[i]? = some (k, u) ∧ (PySem.strKind prog w).is k v = true) (Fin s₂) kvs.length 0 [] news
theorem comp_dict {elt iter : PySem.Expr} {x : Str} {px : Pos} {scope : Scope} {cl : List (Str × Addr)} {pos : Pos} {Q : Value → Shared → Prop} (_F₀ : Fr h₀ L s.heap m)
    (hclos : closureFor scope env = pure cl) (hcell : ∀ y ∈ scope.names, y.2 ≠ .cell) (hkind : scope.kind = .function)
    (hnames : ∀ y ∈ scope.names, y.2 = .local → scope.names.lookup y.1 = some .local) (hx : scope.names.lookup x = some .local)
    (h : wpAny (model prog w) A (eval iter env) (SrcD prog w A h₀ L m env elt x scope cl (fun s₂ => LCg.FinE h₀ L m s₂ Q)) E s)
    (hs : ∀ x, foldedSetIterable iter env x = pure x := by intro _; rfl) :
    wpAny (model prog w) A (eval (.ListComp elt [⟨.Name x px, iter, [], 0⟩] scope pos) env) Q E s := by
  k_with_none
  w_top off
  (k_with "an" => (first | assumption | exact And.left (by assumption) | exact And.left (And.right (by assumption)) | exact And.left (And.right (And.right (by assumption))) | exact And.left (And.right (And.right (And.right (by assumption)))) | exact And.left (And.right (And.right (And.right (And.right (by assumption))))) | exact And.left (And.right (And.right (And.right (And.right (And.right (by assumption)))))) | exact And.left (And.right (And.right (And.right (And.right (And.right (And.right (by assumption))))))) | exact And.left (And.right (And.right (And.right (And.right (And.right (And.right (And.right (by assumption)))))))) | exact And.left (And.right (And.right (And.right (And.right (And.right (And.right (And.right (And.right (by assumption)))))))))))
  (k_with "k_ne" => (refine neN ?_; (try dsimp only); first | (refine Nat.ne_of_lt ?_; k_extra "an") | (refine Nat.ne_of_gt ?_; k_extra "an")))
  (k_with "sub" => (first | assumption | (refine List.mem_append_left _ ?_; k_extra "sub") | (refine List.mem_append_right _ ?_; k_extra "sub") | (refine List.Mem.tail _ ?_; k_extra "sub")))
  (k_with "gn" => refine (let P9 : Prop := _; (?_ : P9)))
  rw [eval_ListComp]
  refine wpAny_comprehension_free (use := none) rfl hs hclos hkind hnames (wpAny_mono h (fun xv s₁ h₁ => ?_) fun _ _ e => e)
  k_extra "gn"; (obtain ⟨d, kvs, news, o, rfl, hh, F, N, lo, ho, hd, hsz, R⟩ := h₁) <;> k_unfold
  obtain ⟨ep, hk⟩ := KdkAt.of hd
  have hat : s₁.heap.DictAt (PySem.strKind prog w) d kvs ep := hk.dictAt (F.keep _ _ ho)
  have hlt : d < s₁.heap.objs.size := Heap.lt_size (F.keep _ _ ho)
  refine wpAny_pyIter_dict lo hat ?_
  have up : ∀ b o', s₁.heap.get? b = some o' → (s₁.heap.push { cls := .type "dict_keyiterator", data := .fields #[.ref d, .int 0 0, .int kvs.length 0, .int ep 0] }).get? b = some o' := fun b o' e => Heap.get?_push_of_some _ e
  refine LCg.block_U (Walks.dictKeys (knd := PySem.strKind prog w) hh s₁.heap.objs.size d (Nat.ne_of_lt hlt) kvs ep) hsz (fun i h st => by obtain ⟨o', e, _⟩ := st.1; exact ⟨o', e⟩) ?_ hcell hkind hx
    ⟨⟨_, Heap.get?_push_size _ rfl, rfl, rfl⟩, hat.push _⟩ (fun b hb => ?_) (F.keeps up) (N.grown up) (Nat.ne_of_lt F.ns.lt) (next_is_new F) (fun p hp => Nat.ne_of_lt (Heap.lt_size (N p hp).1)) trivial (R _ ⟨_, rfl⟩) ?_
  · intro i h h' o' nw st e e' k _ _
    refine ⟨?_, hk.dictAt (k _ _ ho)⟩
    obtain ⟨o1, q, r⟩ := st.1
    rw [e] at q; cases q
    exact ⟨_, e', r⟩
  · show b < (s₁.heap.push _).objs.size
    rw [Heap.size_push]
    rcases List.mem_cons.mp hb with rfl | hb
    · exact Nat.lt_succ_self _
    · rw [List.mem_singleton.mp hb]; exact Nat.lt_succ_of_lt hlt
  · intro D C h tk m' ys news' F' N' o1 hn hC₀ hD₀ hCL hDL hCD offC fin
    refine ⟨m', hn, fun h'' hs'' => fin D h'' tk (F'.change hs'' hCL hC₀) (fun p hp => ?_) o1⟩
    refine ⟨hs''.extBut _ _ ?_ (N' p hp).1, (N' p hp).2⟩
    rcases List.mem_cons.mp hp with rfl | hp
    · exact Ne.symm hCD
    · exact offC p hp
theorem rest_strs {elt : PySem.Expr} {x : Str} {scope : Scope} {cl : List (Str × Addr)} {S : List (Addr × Obj) → Prop} {Fin : List Value → List (Addr × Obj) → Prop} {news : List (Addr × Obj)} {kvs : List (Str × Value)} (gf : Str → Str)
    (turn : ∀ k u t I oI C oC D m₂ ys h tk (E' : Value → Shared → Prop), (k, u) ∈ kvs → LCg.NsObj oC m₂ → m₂ x = some (.str k t) → Fr h₀ L h m → News h₀ L h ((I, oI) :: (C, oC) :: (D, LCg.lst ys) :: news) → LCg.Off3 I C D news → ((@Ne Nat I C) ∧ (@Ne Nat I D) ∧ (@Ne Nat C D)) →
      wpAny (model prog w) A (eval elt (compEnvC scope cl C env)) (LCg.CompEnd h₀ L m { s with heap := h, toks := tk } I oI C oC D (LCg.lst ys) S (fun y news' => KCtEl news (gf k) y news')) E' { s with heap := h, toks := tk })
    (fin : ∀ ys, StrsAre ys (kvs.map fun p => gf p.1) → Fin ys news) :
    LCg.CompRest prog w A h₀ L m env elt x scope cl s S (fun i v => ∃ k u, kvs[i]? = some (k, u) ∧ (PySem.strKind prog w).is k v = true) Fin kvs.length 0 [] news := by
  have key : ∀ (j i : Nat) (ys : List Value), i + j = kvs.length → StrsAre ys ((kvs.take i).map fun p => gf p.1) → LCg.CompRest prog w A h₀ L m env elt x scope cl s S (fun i v => ∃ k u, kvs[i]? = some (k, u) ∧ (PySem.strKind prog w).is k v = true) Fin j i ys news := by
    intro j
    induction j with
    | zero =>
      intro i ys hi hy
      have e : i = kvs.length := by omega
      subst e
      rw [List.take_length] at hy
      exact LCg.CompRest.zero (fin ys hy)
    | succ j ih =>
      intro i ys hi hy
      refine LCg.CompRest.succ ?_
      rintro v I oI C oC D m₂ h tk E' ⟨k, u, hk, hv⟩ hC hx F N off ne
      obtain ⟨t, rfl⟩ := PySem.Value.isStrOf_shape hv
      refine wpAny_mono (turn k u t I oI C oC D m₂ ys h tk E' (List.mem_of_getElem? hk) hC hx F N off ne) (fun y s₂ hq => ?_) fun _ _ e => e
      k_extra "gn"; (obtain ⟨h', tk', nw, e, F', N', off', hS, hn, t', hy'⟩ := hq) <;> k_unfold
      subst hn
      refine ex3 h' tk' _ ⟨e, F', N', off', hS, ?_⟩
      subst hy'
      refine ih (i + 1) _ (by omega) ?_
      rw [List.take_add_one, hk]
      simpa using kct_snoc hy
  exact key kvs.length 0 [] (by omega) (by simp only [List.take_zero, List.map_nil]; exact .nil)
end
section
variable {prog : Program} {w : World} {A : Around} {s : Shared} {h₀ : Heap} {L : Addr} {m : Str → Option Value} {env : Env}
theorem rest_inv {elt : PySem.Expr} {x : Str} {scope : Scope} {cl : List (Str × Addr)} {S : List (Addr × Obj) → Prop} {Fin : List Value → List (Addr × Obj) → Prop} {news : List (Addr × Obj)} {its : List Value} (Inv : Nat → List Value → List (Addr × Obj) → Prop) (h0 : Inv 0 [] news)
    (turn : ∀ i v I oI C oC D m₂ ys h tk news₁ (E' : Value → Shared → Prop), its[i]? = some v → i < its.length → Inv i ys news₁ → LCg.NsObj oC m₂ → m₂ x = some v → Fr h₀ L h m → News h₀ L h ((I, oI) :: (C, oC) :: (D, LCg.lst ys) :: news₁) → LCg.Off3 I C D news₁ → ((@Ne Nat I C) ∧ (@Ne Nat I D) ∧ (@Ne Nat C D)) →
      wpAny (model prog w) A (eval elt (compEnvC scope cl C env)) (LCg.CompEnd h₀ L m { s with heap := h, toks := tk } I oI C oC D (LCg.lst ys) S (fun y news' => Inv (i + 1) (ys ++ [y]) news')) E' { s with heap := h, toks := tk })
    (fin : ∀ ys news', Inv its.length ys news' → Fin ys news') :
    LCg.CompRest prog w A h₀ L m env elt x scope cl s S (fun i v => its.toArray[i]? = some v) Fin its.toArray.size 0 [] news := by
  have key : ∀ (j i : Nat) (ys : List Value) (nw : List (Addr × Obj)), i + j = its.length → Inv i ys nw → LCg.CompRest prog w A h₀ L m env elt x scope cl s S (fun i v => its.toArray[i]? = some v) Fin j i ys nw := by
    intro j
    induction j with
    | zero =>
      intro i ys nw hi hy
      have e : i = its.length := by omega
      subst e
      exact LCg.CompRest.zero (fin ys nw hy)
    | succ j ih =>
      intro i ys nw hi hy
      refine LCg.CompRest.succ ?_
      intro v I oI C oC D m₂ h tk E' hk hC hx F N off ne
      refine wpAny_mono (turn i v I oI C oC D m₂ ys h tk nw E' (by simpa using hk) (by omega) hy hC hx F N off ne) (fun y s₂ hq => ?_) fun _ _ e => e
      k_extra "gn"; (obtain ⟨h', tk', nw', e, F', N', off', hS, hn⟩ := hq) <;> k_unfold
      exact ⟨h', tk', nw', e, F', N', off', hS, ih (i + 1) _ nw' (by omega) hn⟩
  rw [List.size_toArray]
  exact key its.length 0 [] news (by omega) h0
end
theorem comp_end_call {h₀ h h' : Heap} {L I C D : Addr} {oI oC oD oI' oC' oD' : Obj} {nw tl : List (Addr × Obj)} (N : News h₀ L h ((I, oI) :: (C, oC) :: (D, oD) :: nw)) (off : LCg.Off3 I C D nw) (N' : News h₀ L h' (tl ++ (I, oI') :: (C, oC') :: (D, oD') :: nw))
    (fr : ∀ q ∈ tl, h.get? q.1 = none) : News h₀ L h' ((I, oI') :: (C, oC') :: (D, oD') :: (tl ++ nw)) ∧ LCg.Off3 I C D (tl ++ nw) := by
  refine ⟨fun p hp => N' p ?_, LCg.Off3.of fun p hp => ?_⟩
  · simp only [List.mem_append, List.mem_cons] at hp ⊢
    rcases hp with hp | hp | hp | hp | hp
    · exact .inr (.inl hp)
    · exact .inr (.inr (.inl hp))
    · exact .inr (.inr (.inr (.inl hp)))
    · exact .inl hp
    · exact .inr (.inr (.inr (.inr hp)))
  · rcases List.mem_append.mp hp with hp | hp
    · have z := fr p hp
      refine ⟨fun e => ?_, fun e => ?_, fun e => ?_⟩
      · rw [e, (N (I, oI) (.head _)).1] at z; cases z
      · rw [e, (N (C, oC) (.tail _ (.head _))).1] at z; cases z
      · rw [e, (N (D, oD) (.tail _ (.tail _ (.head _)))).1] at z; cases z
    · exact off.mem p hp
theorem le_trans_s {a b c : Str} (h1 : ltCps b.cps.toList a.cps.toList = false) (h2 : ltCps c.cps.toList b.cps.toList = false) : ltCps c.cps.toList a.cps.toList = false := by
  rw [ltCps_eq, decide_eq_false_iff_not] at *
  exact List.le_trans h1 h2
theorem le_anti_s {a b : Str} (h1 : ltCps b.cps.toList a.cps.toList = false) (h2 : ltCps a.cps.toList b.cps.toList = false) : a = b := by
  rw [ltCps_eq, decide_eq_false_iff_not] at *
  have e : a.cps.toList = b.cps.toList := List.le_antisymm h1 h2
  cases a; cases b
  simp only at e
  rw [Array.ext' e]
theorem rising_pw : ∀ (l : List Str) (p : Str), risingS p l = true → (p :: l).Pairwise (fun a b => ltCps b.cps.toList a.cps.toList = false)
  | [], p, _ => by simp
  | x :: r, p, h => by
    have h' : (!ltCps x.cps.toList p.cps.toList && risingS x r) = true := h
    rw [Bool.and_eq_true, Bool.not_eq_true'] at h'
    have ih := rising_pw r x h'.2
    refine List.pairwise_cons.mpr ⟨fun y hy => ?_, ih⟩
    rcases List.mem_cons.mp hy with rfl | hy
    · exact h'.1
    · exact le_trans_s h'.1 ((List.pairwise_cons.mp ih).1 y hy)
theorem sorted_pw : ∀ (l : List Str), sortedS l = true → l.Pairwise (fun a b => ltCps b.cps.toList a.cps.toList = false)
  | [], _ => .nil
  | x :: r, h => rising_pw r x h
theorem sorted_one {a b l : List Str} (ha : a.Perm l) (hb : b.Perm l) (sa : sortedS a = true) (sb : sortedS b = true) : a = b :=
  List.Perm.eq_of_pairwise (fun _ _ _ _ h1 h2 => le_anti_s h1 h2) (sorted_pw _ sa) (sorted_pw _ sb) (ha.trans hb.symm)
open Classical in
noncomputable def sortS (l : List Str) : List Str := if h : ∃ s : List Str, s.Perm l ∧ sortedS s = true then h.choose else l
theorem sortS_eq {a l : List Str} (ha : a.Perm l) (sa : sortedS a = true) : sortS l = a := by
  have h : ∃ s : List Str, s.Perm l ∧ sortedS s = true := ⟨a, ha, sa⟩
  unfold sortS
  rw [dif_pos h]
  exact sorted_one h.choose_spec.1 ha h.choose_spec.2 sa
noncomputable def wordOf (p : Str × Str) : Str := p.1 ++ Str.ofString "=" ++ p.2
noncomputable def wordAt (as : List (Str × Str)) (k : Str) : Str := wordOf (k, (as.lookup k).getD (Str.ofString ""))
theorem attrs_find {kvs : List (Str × Value)} {as : List (Str × Str)} (hA : AttrsAre kvs as) (hn : (kvs.map (·.1)).Nodup) : ∀ {k u}, (k, u) ∈ kvs → ∃ v t, u = .str v t ∧ as.lookup k = some v ∧ (k, v) ∈ as := by
  induction hA with
  | nil => intro k u h; cases h
  | @cons k' v' t' kvs as hA ih =>
    intro k u h
    rw [List.map_cons, List.nodup_cons] at hn
    rcases List.mem_cons.mp h with e | h
    · cases e; exact ⟨v', t', rfl, by simp, .head _⟩
    · k_extra "gn"; (obtain ⟨v, t, e1, e2, e3⟩ := ih hn.2 h) <;> k_unfold
      refine ⟨v, t, e1, ?_, .tail _ e3⟩
      rw [List.lookup_cons]
      have : (k == k') = false := beq_eq_false_iff_ne.mpr fun q => hn.1 (by rw [← q]; exact List.mem_map.mpr ⟨_, h, rfl⟩)
      rw [this]; exact e2
theorem attrs_keys {kvs : List (Str × Value)} {as : List (Str × Str)} (hA : AttrsAre kvs as) : kvs.map (·.1) = as.map (·.1) := by
  induction hA with
  | nil => rfl
  | cons k v t _ ih => rw [List.map_cons, List.map_cons, ih]
theorem words_of {as : List (Str × Str)} (hn : (as.map (·.1)).Nodup) : (as.map fun p => wordAt as p.1) = as.map wordOf := by
  refine List.map_congr_left fun p hp => ?_
  unfold wordAt
  have : as.lookup p.1 = some p.2 := by
    induction as with
    | nil => cases hp
    | cons q as ih =>
      rw [List.map_cons, List.nodup_cons] at hn
      rw [List.lookup_cons]
      rcases List.mem_cons.mp hp with rfl | hp
      · simp
      · have : (p.1 == q.1) = false := beq_eq_false_iff_ne.mpr fun e => hn.1 (by rw [← e]; exact List.mem_map.mpr ⟨_, hp, rfl⟩)
        rw [this]; exact ih hn.2 hp
  rw [this]; rfl
theorem attrs_words {kvs : List (Str × Value)} {as : List (Str × Str)} (hA : AttrsAre kvs as) (hn : (kvs.map (·.1)).Nodup) : (kvs.map fun p => wordAt as p.1) = as.map wordOf := by
  have e : (kvs.map fun p => wordAt as p.1) = (kvs.map (·.1)).map (wordAt as) := by rw [List.map_map]; rfl
  rw [e, attrs_keys hA, List.map_map]
  exact words_of (attrs_keys hA ▸ hn)
theorem dict_nodup {prog : Program} {w : World} {o : Obj} {kvs : List (Str × Value)} (h : o.IsDictOf (PySem.strKind prog w) kvs) : (kvs.map (·.1)).Nodup := by
  k_extra "gn"; (obtain ⟨_, _, _, _, _, _, hn⟩ := h) <;> k_unfold
  exact hn
theorem sorted_own {prog : Program} {w : World} {A : Around} {E : Value → Shared → Prop} {s : Shared} {h₀ : Heap} {L l : Addr} {m : Str → Option Value} {news : List (Addr × Obj)} {ys : List Value} {ss : List Str} {Q : Value → Shared → Prop}
    (F : Fr h₀ L s.heap m) (N : News h₀ L s.heap news) (hm : (l, LCg.lst ys) ∈ news) (hS : StrsAre ys ss) (hl : ys.length ≤ 40)
    (h : ∀ D h' vs' e, Fr h₀ L h' m → News h₀ L h' ((D, PySem.W.listOf vs'.toArray e) :: news) → (∀ q ∈ news, q.1 < D) → StrsAre vs' (sortS ss) → Q (.ref D) { s with heap := h' }) :
    wpAny (model prog w) A (call (.builtin "sorted") [.ref l]) Q E s := by
  refine sorted_N_str F N (kso_isList N hm rfl) hS (by show ys.length < 64; omega) fun h' vs' ss' e F' N' hS' hp ho => ?_
  rw [← sortS_eq hp ho] at hS'
  exact h _ h' vs' e F' N' (fun q hq => Nat.lt_succ_of_lt (Heap.lt_size (N q hq).1)) hS'
inductive Row where
  | mk (name : Str) (words : List Str) (kids : List Row) (text : Str)
mutual
inductive RowOf (G : Addr → Obj → Prop) : Value → Row → Prop
  | mk {r wa ka : Addr} {tn tt : Tok} {n nw nk : Nat} {name text : Str} {ws : List Value} {words : List Str} {ks : List Value} {kids : List Row} :
    G r (PySem.W.listOf #[.str name tn, .ref wa, .ref ka, .str text tt] n) → G wa (PySem.W.listOf ws.toArray nw) → StrsAre ws words → G ka (PySem.W.listOf ks.toArray nk) → RowsOf G ks kids → RowOf G (.ref r) (.mk name words kids text)
inductive RowsOf (G : Addr → Obj → Prop) : List Value → List Row → Prop
  | nil : RowsOf G [] []
  | cons {v : Value} {e : Row} {vs : List Value} {es : List Row} : RowOf G v e → RowsOf G vs es → RowsOf G (v :: vs) (e :: es)
end
mutual
theorem RowOf.mono {G G' : Addr → Obj → Prop} (hs : ∀ a o, G a o → G' a o) : ∀ {v : Value} {e : Row}, RowOf G v e → RowOf G' v e
  | _, _, .mk a b c d e => .mk (hs _ _ a) (hs _ _ b) c (hs _ _ d) (RowsOf.mono hs e)
theorem RowsOf.mono {G G' : Addr → Obj → Prop} (hs : ∀ a o, G a o → G' a o) : ∀ {vs : List Value} {es : List Row}, RowsOf G vs es → RowsOf G' vs es
  | _, _, .nil => .nil
  | _, _, .cons a b => .cons (RowOf.mono hs a) (RowsOf.mono hs b)
end
theorem RowsOf.snoc {G : Addr → Obj → Prop} {v : Value} {e : Row} : ∀ {vs : List Value} {es : List Row}, RowsOf G vs es → RowOf G v e → RowsOf G (vs ++ [v]) (es ++ [e])
  | _, _, .nil, h => .cons h .nil
  | _, _, .cons a b, h => .cons a (RowsOf.snoc b h)
mutual
noncomputable def rowOf : El → Row
  | .mk name attrs kids text => .mk name (sortS (attrs.map wordOf)) (rowsOf kids) text
noncomputable def rowsOf : List El → List Row
  | [] => []
  | e :: es => rowOf e :: rowsOf es
end
mutual
noncomputable def El.size : El → Nat
  | .mk _ _ kids _ => sizes kids + 1
noncomputable def sizes : List El → Nat
  | [] => 0
  | e :: es => e.size + sizes es
end
theorem list_of_get {h : Heap} {a : Addr} {its : Array Value} {n : Nat} (e : h.get? a = some (PySem.W.listOf its n)) : h.IsList a its := ⟨_, e, rfl, _, rfl⟩
theorem size_mem {e : El} : ∀ {es : List El}, e ∈ es → El.size e ≤ sizes es
  | [], h => by cases h
  | x :: es, h => by
    rcases List.mem_cons.mp h with rfl | h
    · simp [sizes]
    · have := size_mem h; simp [sizes]; omega
theorem rowsOf_take : ∀ (es : List El) (i : Nat) (e : El), es[i]? = some e → rowsOf (es.take (i + 1)) = rowsOf (es.take i) ++ [rowOf e]
  | [], _, _, h => by simp at h
  | x :: es, 0, e, h => by simp at h; subst h; simp [rowsOf]
  | x :: es, i + 1, e, h => by
    have ih := rowsOf_take es i e (by simpa using h)
    simp only [List.take_succ_cons, rowsOf, ih, List.cons_append]
section
variable {prog : Program} {w : World} {A : Around} {s : Shared} {h₀ : Heap} {L : Addr} {m : Str → Option Value} {env : Env}
theorem rest_rows {elt : PySem.Expr} {x : Str} {scope : Scope} {cl : List (Str × Addr)} {S : List (Addr × Obj) → Prop} {Fin : List Value → List (Addr × Obj) → Prop} {news : List (Addr × Obj)} {vs : List Value} {kids : List El} (hE : ElsOf w (HG h₀) vs kids)
    (turn : ∀ v e tl I oI C oC D m₂ ys h tk (E' : Value → Shared → Prop), e ∈ kids → ElOf w (HG h₀) v e → LCg.NsObj oC m₂ → m₂ x = some v → Fr h₀ L h m → News h₀ L h ((I, oI) :: (C, oC) :: (D, LCg.lst ys) :: (tl ++ news)) → LCg.Off3 I C D (tl ++ news) → ((@Ne Nat I C) ∧ (@Ne Nat I D) ∧ (@Ne Nat C D)) →
      wpAny (model prog w) A (eval elt (compEnvC scope cl C env)) (LCg.CompEnd h₀ L m { s with heap := h, toks := tk } I oI C oC D (LCg.lst ys) S (fun y news' => ∃ tl', news' = tl' ++ (tl ++ news) ∧ RowOf (LG tl') y (rowOf e))) E' { s with heap := h, toks := tk })
    (fin : ∀ ys tl, RowsOf (LG tl) ys (rowsOf kids) → Fin ys (tl ++ news)) :
    LCg.CompRest prog w A h₀ L m env elt x scope cl s S (fun i v => vs.toArray[i]? = some v) Fin vs.toArray.size 0 [] news := by
  k_with_none
  w_top off
  (k_with "an" => (first | assumption | exact And.left (by assumption) | exact And.left (And.right (by assumption)) | exact And.left (And.right (And.right (by assumption))) | exact And.left (And.right (And.right (And.right (by assumption)))) | exact And.left (And.right (And.right (And.right (And.right (by assumption))))) | exact And.left (And.right (And.right (And.right (And.right (And.right (by assumption)))))) | exact And.left (And.right (And.right (And.right (And.right (And.right (And.right (by assumption))))))) | exact And.left (And.right (And.right (And.right (And.right (And.right (And.right (And.right (by assumption)))))))) | exact And.left (And.right (And.right (And.right (And.right (And.right (And.right (And.right (And.right (by assumption)))))))))))
  (k_with "k_ne" => (refine neN ?_; (try dsimp only); first | (refine Nat.ne_of_lt ?_; k_extra "an") | (refine Nat.ne_of_gt ?_; k_extra "an")))
  (k_with "sub" => (first | assumption | (refine List.mem_append_left _ ?_; k_extra "sub") | (refine List.mem_append_right _ ?_; k_extra "sub") | (refine List.Mem.tail _ ?_; k_extra "sub")))
  (k_with "rm" => (first | exact room_of 1 rfl (by assumption) rfl | exact room_of 0 rfl (by assumption) rfl | exact room_of1 1 rfl (by assumption) rfl | exact room_of1 0 rfl (by assumption) rfl | ktr_room))
  (k_with "un" => (first | exact units_of 3 rfl (by assumption) rfl | exact units_of 4 rfl (by assumption) rfl | exact units_of 0 rfl (by assumption) rfl | ktr_units))
  (k_with "gn" => refine (let P9 : Prop := _; (?_ : P9)))
  (k_with "st" => (repeat' (first | ((with_reducible show wpAny _ _ (PySem.exec _ _) _ _ _); k_fold) | ((fail_if_success (fail_if_success k_unfold)); (show wpAny _ _ _ _ _ _); (try dsimp only)) | (k_unfold; (try dsimp only)) | (k_end; wrow_close) | walk1 | (dsimp only; walk1) | (leave1; walk_say "STEP leave1"; try dsimp only) | fail "no step")))
  (k_with "ktr_enter" => first
  | (refine' codeG ?k1 ?k2 ?k3 ?k4 ?k5 ?kA ?kF ?kK ?k6 ?k7 ?k8 ?k9 ?kB ?_ ?c2 ?c3 ?c4 ?c5; (case kA => exact rfl); (case kF => exact rfl); (case kK => assumption); (case k1 => first | k_asm | exact topb_of rfl rfl (by k_asm)); (case k2 => k_asm); (case k3 => k_asm); (case k4 => k_asm); (case k5 => k_asm); (case k6 => k_is); (case k7 => k_is); (case k8 => (k_extra "rm")); (case k9 => first | exact BindsTo.of_eq rfl | exact binds_K (by k_in) rfl (by k_is) rfl rfl rfl); (case c5 => decide); (case kB => exact locs rfl); (case c2 => exact rfl); (case c3 => exact rfl); (case c4 => exact rfl); k_whole; intro g'9q L'9q h'9q tk'9q st'9q FG'9q F'9q N'9q B'9q X'9q T'9q l1'9q; (try dsimp only); (try k_fold))
  | (refine' codeGC ?k1 ?k2 ?k3 ?k4 ?k5 ?kA ?kF ?kK ?k6 ?k7 ?k8 ?k9 ?kB ?kD ?_ ?c2 ?c3 ?c4; (case kA => exact rfl); (case kF => exact rfl); (case kK => assumption); (case k1 => first | k_asm | exact topb_of rfl rfl (by k_asm)); (case k2 => k_asm); (case k3 => k_asm); (case k4 => k_asm); (case k5 => k_asm); (case k6 => k_is); (case k7 => k_is); (case k8 => (k_extra "rm")); (case k9 => first | exact BindsTo.of_eq rfl | exact binds_K (by k_in) rfl (by k_is) rfl rfl rfl); (case kB => exact rfl); (case kD => decide +kernel); (case c2 => exact rfl); (case c3 => exact rfl); (case c4 => exact rfl); k_whole; intro g'9q L'9q h'9q tk'9q cells'9q st'9q FG'9q F'9q N'9q Y'9q B'9q X'9q T'9q l1'9q; k_cells Y'9q; (try simp only [List.cons_append, List.nil_append, List.append_nil] at N'9q); (try dsimp only); (try k_fold)))
  (k_with "k_inst" => exact inst_base (by k_asm) (by assumption) (by assumption))
  (k_with "getMethod ref" => (k_here; (with_reducible show wpAny _ _ (getMethod (Value.ref _) (Str.ofString "get") _) _ _ _); k_dflt (refine sd_method (SDict.base (by k_asm) (by assumption)) ?_)))
  (k_with "call builtin:dict.get" => (k_here; (with_reducible show wpAny _ _ (call (Value.builtin "dict.get") [Value.ref _, Value.str _ _]) _ _ _); k_dflt (first
  | (refine sd_get1s (SDict.base (by k_asm) (by assumption)) (by assumption) ?_; intro t'9q)
  | (refine sd_get1n (SDict.base (by k_asm) (by assumption)) (by assumption) ?_)
  | (refine sd_get1 (SDict.base (by k_asm) (by assumption)) (fun hg09q => ?_) (fun v'9q t'9q hg19q => ?_)))))
  (k_with "k_room" => (k_extra "rm"))
  (k_with "subscriptTail" => (k_here; (with_reducible show wpAny _ _ (subscriptTail _ _ (Value.ref _) (Value.str _ _)) _ _ _); k_dflt (refine sd_item (SDict.base (by k_asm) (by assumption)) (by assumption) ?_); intro t'9q))
  (k_with "call ref" => (k_here; (with_reducible show wpAny _ _ (call (Value.ref _) _) _ _ _); (try k_fold); k_dflt (refine' spec_use0 ?S ?k1 ?k2 ?k3 ?k4 ?k5 ?kK ?kP ?kd ?ku ?_; (case S => assumption); (case k1 => first | k_asm | exact topb_of rfl rfl (by k_asm)); (case k2 => k_asm); (case k3 => k_asm); (case k4 => k_asm); (case k5 => k_asm); (case kK => exact rfl); (case kP => first | exact trivial | exact ElOf.base (by k_asm) (by assumption)); (case kd => (k_extra "rm")); (case ku => (k_extra "un"))); intro r'9q tl'9q h'9q tk'9q F'9q N'9q fr'9q st'9q hR'9q; (try dsimp only at hR'9q)))
  (k_with "k_mem" => ((show _ ∈ (_ ++ _ : List (Addr × Obj))); first | (refine List.mem_append_right _ ?_; k_mem) | (refine List.mem_append_left _ ?_; k_mem)))
  (k_with "call builtin:dict.get" => (k_here; (with_reducible show wpAny _ _ (call (Value.builtin "dict.get") [Value.ref _, Value.str _ _, Value.str _ _]) _ _ _); k_dflt (refine sd_get2L (SDict.base (by k_asm) (by assumption)) (by first | assumption | decide) ?_); intro t'9q hlen'9q))
  refine rest_inv (fun i ys nw => ∃ tl, nw = tl ++ news ∧ RowsOf (LG tl) ys (rowsOf (kids.take i))) ⟨[], rfl, by simp only [List.take_zero, rowsOf]; exact .nil⟩ ?_ ?_
  · rintro i v I oI C oC D m₂ ys h tk news₁ E' hi hlt ⟨tl, rfl, hr⟩ hC hx F N off ne
    obtain ⟨e, he, hv⟩ := hE.at hi
    refine wpAny_mono (turn v e tl I oI C oC D m₂ ys h tk E' (List.mem_of_getElem? he) hv hC hx F N off ne) (fun y s₂ hq => ?_) fun _ _ e => e
    k_extra "gn"; (obtain ⟨h', tk', nw', e', F', N', off', hS, tl', rfl, hy⟩ := hq) <;> k_unfold
    refine ex3 h' tk' _ ⟨e', F', N', off', hS, tl' ++ tl, by rw [List.append_assoc], ?_⟩
    rw [rowsOf_take kids i e he]
    exact (hr.mono fun a o q => List.mem_append_right _ q).snoc (hy.mono fun a o q => List.mem_append_left _ q)
  · rintro ys nw ⟨tl, rfl, hr⟩
    rw [hE.length, List.take_length] at hr
    exact fin ys tl hr
end
theorem row_spec (w : World) (mean : ExcName → Option Value) (mg mb : Str → Option Value) (e : El) (v : Value) (IH : ∀ e' v', El.size e' < El.size e → Spec w mean mg mb 336 [v'] [] (El.size e') (fun h => ElOf w (HG h) v' e') (fun r _ tl => RowOf (LG tl) r (rowOf e'))) :
  Spec w mean mg mb 336 [v] [] (El.size e) (fun h => ElOf w (HG h) v e) (fun r _ tl => RowOf (LG tl) r (rowOf e)) := by
  (k_with "eval ListComp" => (k_here; (with_reducible show wpAny _ _ (eval (PySem.Expr.ListComp _ [⟨_, PySem.Expr.Attribute _ (Str.ofString "attributes") _, _, _⟩] _ _) _) _ _ _); k_dflt (refine comp_dict (by k_asm) (by with_unfolding_all rfl) (by decide) (by rfl) (by decide) (by rfl) ?_)))
  (k_with "eval ListComp" => (k_here; (with_reducible show wpAny _ _ (eval (PySem.Expr.ListComp _ [⟨_, PySem.Expr.Attribute _ (Str.ofString "children") _, _, _⟩] _ _) _) _ _ _); k_dflt (refine LCg.ListComp_U (F₀ := by k_asm) (by with_unfolding_all rfl) (by decide) (by rfl) (by decide) (by rfl) ?_)))
  (k_with "call builtin:sorted" => (k_here; (with_reducible show wpAny _ _ (call (Value.builtin _) [Value.ref _]) _ _ _); k_dflt (refine sorted_own (by k_asm) (by k_asm) (by k_mem) (by assumption) (by assumption) ?_); intro D'9q h'9q vs'9q e'9q F'9q N'9q l19q hS'9q; (try k_lt l19q)))
  unfold Spec
  k_fill
  intro dp un gd cn cs a' ccd cl' outer A₀ base h₀ L m s Q E B F X N T hk hP hd hu hret
  k_extra "gn"; (obtain ⟨name, attrs, kids, text⟩ := e) <;> k_unfold
  have hsz : 1 ≤ El.size (.mk name attrs kids text) := by simp [El.size]
  refine wpAny_call ?_
  k_dflt ktr_enter
  first | refine (let ak : Around := _; let nk : Env := _; let sg9 : Array GenState := _; let sd9 : Drawn := _; let so9 : OsState := _; (?_ : wpAny _ ak (execs _ nk) _ _ (Shared.mk _ sg9 sd9 _ so9))) | refine (let ak : Around := _; let nk : Env := _; (?_ : wpAny _ ak (execs _ nk) _ _ _))
  try (have TB9 : TopB ak _ _ (dp + 1) (un + 3) := topb_of rfl rfl (by assumption))
  try (rename Fr _ _ _ (fun y => List.lookup y (List.reverse _)) => FX9; replace FX9 := fr_binds [(Str.ofString "element", (v' : Value))] rfl FX9)
  rename Stood _ _ _ => st
  replace hP := hP.mono fun a o e => st a o e (fun h => nomatch h)
  cases hP
  (k_extra "st")
  rename SDict _ _ _ _ => hD
  k_extra "gn"; (obtain ⟨od, kvs, hod, hdd, hA, lo, hfine⟩ := id hD) <;> k_unfold
  have hno := dict_nodup hdd
  refine ex4 _ kvs _ od ⟨rfl, rfl, by k_asm, by k_asm, lo, hod, hdd, (by rw [hA.length, sizeLine_eq]; have := hfine.1; omega), fun s₂ hs₂ => ?_⟩
  obtain ⟨hh, rfl⟩ := hs₂
  refine rest_strs (wordAt attrs) (fun k u t I oI C oC D m₂ ys h tk E' hmem hC hx F N off ne => ?_) (fun ys hys => ?_)
  · k_extra "gn"; (obtain ⟨v, tv, rfl, hl, hm2⟩ := attrs_find hA hno hmem) <;> k_unfold
    obtain ⟨hl1, hl2⟩ := hfine.2 _ hm2
    dsimp only at hl1 hl2
    clear hmem
    (k_extra "st")
    have hw : wordAt attrs k = k ++ Str.ofString "=" ++ v := by unfold wordAt wordOf; rw [hl]; rfl
    exact ex3 _ _ _ ⟨rfl, by assumption, by assumption, by assumption, trivial, kct_el hw rfl rfl⟩
  · rw [attrs_words hA hno] at hys
    have hyl : ys.length ≤ 40 := by have := hys.length; rw [List.length_map] at this; have := hfine.1; omega
    clear hA hno hod hdd lo
    intro D h tk F N off
    dsimp only
    (k_extra "st")
    rename (Heap.get? _ _ = some (PySem.W.listOf (List.toArray _) _)) => hcl0
    have hcl := list_of_get hcl0
    refine LCg.CompSrc.base rfl (by k_asm) (by k_asm) hcl (by rw [List.size_toArray, sizeLine_eq]; omega) (fun gg => ?_)
    refine rest_rows (by assumption) (fun v' e' tl I oI C oC D m₂ ys h tk E' hm hv hC hx F N off ne => ?_) (fun ys tl hr => ?_)
    · have hz := size_mem hm
      have hz2 : El.size e' + 1 ≤ El.size (.mk name attrs kids text) := by simp only [El.size]; omega
      have hS := IH e' v' (by omega)
      (k_extra "st")
      rename RowOf _ _ _ => hR
      rename (∀ q ∈ _, Heap.get? _ _ = none) => fr
      obtain ⟨z1, z2⟩ := comp_end_call N off (by assumption) fr
      exact ex3 _ _ _ ⟨rfl, by assumption, z1, z2, .inl hcl, _, rfl, hR⟩
    · intro D h tk F N off
      dsimp only
      (k_extra "st")
      refine spec_ret0 hret st (by assumption) (by assumption) (by assumption) (by assumption) _ (by exact fun _ h => h) ?_
      simp only [rowOf]
      exact .mk (by k_mem) (by k_mem) (by assumption) (by k_mem) (hr.mono fun a o q => List.mem_cons_of_mem _ (List.mem_cons_of_mem _ (List.mem_append_left _ q)))
theorem row_all (w : World) (mean : ExcName → Option Value) (mg mb : Str → Option Value) (e : El) (v : Value) : Spec w mean mg mb 336 [v] [] (El.size e) (fun h => ElOf w (HG h) v e) (fun r _ tl => RowOf (LG tl) r (rowOf e)) := by
  have all : ∀ n, ∀ e v, El.size e < n → Spec w mean mg mb 336 [v] [] (El.size e) (fun h => ElOf w (HG h) v e) (fun r _ tl => RowOf (LG tl) r (rowOf e)) := by
    intro n
    induction n with
    | zero => intro e v h; exact absurd h (Nat.not_lt_zero _)
    | succ n ih => exact fun e v h => row_spec w mean mg mb e v fun e' v' h' => ih e' v' (Nat.lt_of_lt_of_le h' (Nat.le_of_lt_succ h))
  exact all _ e v (Nat.lt_succ_self _)
theorem group_spec (w : World) (mean : ExcName → Option Value) (mg mb : Str → Option Value) (dd ch : Addr) (attrs : List (Str × Str)) :
  Spec w mean mg mb 348 [.ref dd, .ref ch] [] 1 (fun h => SDict w (HG h) dd attrs) (fun r _ tl => ∀ (G : Addr → Obj → Prop) row, RowOf G (.ref ch) row → RowOf (GU G tl) r (.mk (Str.ofString "g") (sortS (attrs.map wordOf)) [row] (Str.ofString ""))) := by
  k_with_none
  w_top off
  (k_with "an" => (first | assumption | exact And.left (by assumption) | exact And.left (And.right (by assumption)) | exact And.left (And.right (And.right (by assumption))) | exact And.left (And.right (And.right (And.right (by assumption)))) | exact And.left (And.right (And.right (And.right (And.right (by assumption))))) | exact And.left (And.right (And.right (And.right (And.right (And.right (by assumption)))))) | exact And.left (And.right (And.right (And.right (And.right (And.right (And.right (by assumption))))))) | exact And.left (And.right (And.right (And.right (And.right (And.right (And.right (And.right (by assumption)))))))) | exact And.left (And.right (And.right (And.right (And.right (And.right (And.right (And.right (And.right (by assumption)))))))))))
  (k_with "k_ne" => (refine neN ?_; (try dsimp only); first | (refine Nat.ne_of_lt ?_; k_extra "an") | (refine Nat.ne_of_gt ?_; k_extra "an")))
  (k_with "sub" => (first | assumption | (refine List.mem_append_left _ ?_; k_extra "sub") | (refine List.mem_append_right _ ?_; k_extra "sub") | (refine List.Mem.tail _ ?_; k_extra "sub")))
  (k_with "rm" => (first | exact room_of 1 rfl (by assumption) rfl | exact room_of 0 rfl (by assumption) rfl | exact room_of1 1 rfl (by assumption) rfl | exact room_of1 0 rfl (by assumption) rfl | ktr_room))
  (k_with "un" => (first | exact units_of 3 rfl (by assumption) rfl | exact units_of 4 rfl (by assumption) rfl | exact units_of 0 rfl (by assumption) rfl | ktr_units))
  (k_with "gn" => refine (let P9 : Prop := _; (?_ : P9)))
  (k_with "st" => (repeat' (first | ((with_reducible show wpAny _ _ (PySem.exec _ _) _ _ _); k_fold) | ((fail_if_success (fail_if_success k_unfold)); (show wpAny _ _ _ _ _ _); (try dsimp only)) | (k_unfold; (try dsimp only)) | (k_end; wrow_close) | walk1 | (dsimp only; walk1) | (leave1; walk_say "STEP leave1"; try dsimp only) | fail "no step")))
  (k_with "ktr_enter" => first
  | (refine' codeG ?k1 ?k2 ?k3 ?k4 ?k5 ?kA ?kF ?kK ?k6 ?k7 ?k8 ?k9 ?kB ?_ ?c2 ?c3 ?c4 ?c5; (case kA => exact rfl); (case kF => exact rfl); (case kK => assumption); (case k1 => first | k_asm | exact topb_of rfl rfl (by k_asm)); (case k2 => k_asm); (case k3 => k_asm); (case k4 => k_asm); (case k5 => k_asm); (case k6 => k_is); (case k7 => k_is); (case k8 => (k_extra "rm")); (case k9 => first | exact BindsTo.of_eq rfl | exact binds_K (by k_in) rfl (by k_is) rfl rfl rfl); (case c5 => decide); (case kB => exact locs rfl); (case c2 => exact rfl); (case c3 => exact rfl); (case c4 => exact rfl); k_whole; intro g'9q L'9q h'9q tk'9q st'9q FG'9q F'9q N'9q B'9q X'9q T'9q l1'9q; (try dsimp only); (try k_fold))
  | (refine' codeGC ?k1 ?k2 ?k3 ?k4 ?k5 ?kA ?kF ?kK ?k6 ?k7 ?k8 ?k9 ?kB ?kD ?_ ?c2 ?c3 ?c4; (case kA => exact rfl); (case kF => exact rfl); (case kK => assumption); (case k1 => first | k_asm | exact topb_of rfl rfl (by k_asm)); (case k2 => k_asm); (case k3 => k_asm); (case k4 => k_asm); (case k5 => k_asm); (case k6 => k_is); (case k7 => k_is); (case k8 => (k_extra "rm")); (case k9 => first | exact BindsTo.of_eq rfl | exact binds_K (by k_in) rfl (by k_is) rfl rfl rfl); (case kB => exact rfl); (case kD => decide +kernel); (case c2 => exact rfl); (case c3 => exact rfl); (case c4 => exact rfl); k_whole; intro g'9q L'9q h'9q tk'9q cells'9q st'9q FG'9q F'9q N'9q Y'9q B'9q X'9q T'9q l1'9q; k_cells Y'9q; (try simp only [List.cons_append, List.nil_append, List.append_nil] at N'9q); (try dsimp only); (try k_fold)))
  (k_with "k_inst" => exact inst_base (by k_asm) (by assumption) (by assumption))
  (k_with "getMethod ref" => (k_here; (with_reducible show wpAny _ _ (getMethod (Value.ref _) (Str.ofString "get") _) _ _ _); k_dflt (refine sd_method (SDict.base (by k_asm) (by assumption)) ?_)))
  (k_with "call builtin:dict.get" => (k_here; (with_reducible show wpAny _ _ (call (Value.builtin "dict.get") [Value.ref _, Value.str _ _]) _ _ _); k_dflt (first
  | (refine sd_get1s (SDict.base (by k_asm) (by assumption)) (by assumption) ?_; intro t'9q)
  | (refine sd_get1n (SDict.base (by k_asm) (by assumption)) (by assumption) ?_)
  | (refine sd_get1 (SDict.base (by k_asm) (by assumption)) (fun hg09q => ?_) (fun v'9q t'9q hg19q => ?_)))))
  (k_with "k_room" => (k_extra "rm"))
  (k_with "subscriptTail" => (k_here; (with_reducible show wpAny _ _ (subscriptTail _ _ (Value.ref _) (Value.str _ _)) _ _ _); k_dflt (refine sd_item (SDict.base (by k_asm) (by assumption)) (by assumption) ?_); intro t'9q))
  (k_with "call ref" => (k_here; (with_reducible show wpAny _ _ (call (Value.ref _) _) _ _ _); (try k_fold); k_dflt (refine' spec_use0 ?S ?k1 ?k2 ?k3 ?k4 ?k5 ?kK ?kP ?kd ?ku ?_; (case S => assumption); (case k1 => first | k_asm | exact topb_of rfl rfl (by k_asm)); (case k2 => k_asm); (case k3 => k_asm); (case k4 => k_asm); (case k5 => k_asm); (case kK => exact rfl); (case kP => first | exact trivial | exact ElOf.base (by k_asm) (by assumption)); (case kd => (k_extra "rm")); (case ku => (k_extra "un"))); intro r'9q tl'9q h'9q tk'9q F'9q N'9q fr'9q st'9q hR'9q; (try dsimp only at hR'9q)))
  (k_with "k_mem" => ((show _ ∈ (_ ++ _ : List (Addr × Obj))); first | (refine List.mem_append_right _ ?_; k_mem) | (refine List.mem_append_left _ ?_; k_mem)))
  (k_with "call builtin:dict.get" => (k_here; (with_reducible show wpAny _ _ (call (Value.builtin "dict.get") [Value.ref _, Value.str _ _, Value.str _ _]) _ _ _); k_dflt (refine sd_get2L (SDict.base (by k_asm) (by assumption)) (by first | assumption | decide) ?_); intro t'9q hlen'9q))
  (k_with "eval ListComp" => (k_here; (with_reducible show wpAny _ _ (eval (PySem.Expr.ListComp _ [⟨_, PySem.Expr.Name (Str.ofString "due") _, _, _⟩] _ _) _) _ _ _); k_dflt (refine comp_dict (by k_asm) (by with_unfolding_all rfl) (by decide) (by rfl) (by decide) (by rfl) ?_)))
  (k_with "call builtin:sorted" => (k_here; (with_reducible show wpAny _ _ (call (Value.builtin _) [Value.ref _]) _ _ _); k_dflt (refine sorted_own (by k_asm) (by k_asm) (by k_mem) (by assumption) (by assumption) ?_); intro D'9q h'9q vs'9q e'9q F'9q N'9q l19q hS'9q; (try k_lt l19q)))
  unfold Spec
  k_fill
  intro dp un gd cn cs a' ccd cl' outer A₀ base h₀ L m s Q E B F X N T hk hP hd hu hret
  refine wpAny_call ?_
  k_dflt ktr_enter
  first | refine (let ak : Around := _; let nk : Env := _; let sg9 : Array GenState := _; let sd9 : Drawn := _; let so9 : OsState := _; (?_ : wpAny _ ak (execs _ nk) _ _ (Shared.mk _ sg9 sd9 _ so9))) | refine (let ak : Around := _; let nk : Env := _; (?_ : wpAny _ ak (execs _ nk) _ _ _))
  try (have TB9 : TopB ak _ _ (dp + 1) (un + 3) := topb_of rfl rfl (by assumption))
  try (rename Fr _ _ _ (fun y => List.lookup y (List.reverse _)) => FX9; replace FX9 := fr_binds [(Str.ofString "due", (.ref dd : Value)), (Str.ofString "child", (.ref ch : Value))] rfl FX9)
  rename Stood _ _ _ => st
  replace hP := hP.mono fun a o e => st a o e (fun h => nomatch h)
  (k_extra "st")
  rename SDict _ _ _ _ => hD
  k_extra "gn"; (obtain ⟨od, kvs, hod, hdd, hA, lo, hfine⟩ := id hD) <;> k_unfold
  have hno := dict_nodup hdd
  refine ex4 _ kvs _ od ⟨rfl, rfl, by k_asm, by k_asm, lo, hod, hdd, (by rw [hA.length, sizeLine_eq]; have := hfine.1; omega), fun s₂ hs₂ => ?_⟩
  obtain ⟨hh, rfl⟩ := hs₂
  refine rest_strs (wordAt attrs) (fun k u t I oI C oC D m₂ ys h tk E' hmem hC hx F N off ne => ?_) (fun ys hys => ?_)
  · k_extra "gn"; (obtain ⟨v, tv, rfl, hl, hm2⟩ := attrs_find hA hno hmem) <;> k_unfold
    obtain ⟨hl1, hl2⟩ := hfine.2 _ hm2
    dsimp only at hl1 hl2
    clear hmem
    (k_extra "st")
    have hw : wordAt attrs k = k ++ Str.ofString "=" ++ v := by unfold wordAt wordOf; rw [hl]; rfl
    exact ex3 _ _ _ ⟨rfl, by assumption, by assumption, by assumption, trivial, kct_el hw rfl rfl⟩
  · rw [attrs_words hA hno] at hys
    have hyl : ys.length ≤ 40 := by have := hys.length; rw [List.length_map] at this; have := hfine.1; omega
    clear hA hno hod hdd lo
    intro D h tk F N off
    dsimp only
    (k_extra "st")
    refine spec_ret0 hret st (by assumption) (by assumption) (by assumption) (by assumption) _ (by exact fun _ h => h) ?_
    intro G row hr
    exact .mk (ks := [_]) (Or.inr (by k_mem)) (Or.inr (by k_mem)) (by assumption) (Or.inr (by k_mem)) (.cons (hr.mono fun a o q => Or.inl q) .nil)
theorem symbol_spec (w : World) (mean : ExcName → Option Value) (mg mb : Str → Option Value) (dd : Addr) (attrs : List (Str × Str)) :
  Spec w mean mg mb 355 [.ref dd] [] 1 (fun h => SDict w (HG h) dd attrs) (fun r _ tl => RowOf (LG tl) r (.mk (Str.ofString "svg") [Str.ofString "height=" ++ (attrs.lookup (Str.ofString "height")).getD (Str.ofString "100%"), Str.ofString "id=s", Str.ofString "viewBox=0 0 1 1", Str.ofString "width=" ++ (attrs.lookup (Str.ofString "width")).getD (Str.ofString "100%")]
    [.mk (Str.ofString "circle") [Str.ofString "r=1"] [] (Str.ofString "")] (Str.ofString ""))) := by
  unfold Spec
  k_fill
  intro dp un gd cn cs a' ccd cl' outer A₀ base h₀ L m s Q E B F X N T hk hP hd hu hret
  refine wpAny_call ?_
  k_dflt ktr_enter
  first | refine (let ak : Around := _; let nk : Env := _; let sg9 : Array GenState := _; let sd9 : Drawn := _; let so9 : OsState := _; (?_ : wpAny _ ak (execs _ nk) _ _ (Shared.mk _ sg9 sd9 _ so9))) | refine (let ak : Around := _; let nk : Env := _; (?_ : wpAny _ ak (execs _ nk) _ _ _))
  try (have TB9 : TopB ak _ _ (dp + 1) (un + 3) := topb_of rfl rfl (by assumption))
  try (rename Fr _ _ _ (fun y => List.lookup y (List.reverse _)) => FX9; replace FX9 := fr_binds [(Str.ofString "words", (.ref dd : Value))] rfl FX9)
  rename Stood _ _ _ => st
  replace hP := hP.mono fun a o e => st a o e (fun h => nomatch h)
  (k_extra "st")
  refine spec_ret0 hret st (by assumption) (by assumption) (by assumption) (by assumption) _ (by exact fun _ h => h) ?_
  exact .mk (ks := [_]) (by k_mem) (by k_mem) (.cons _ _ (.cons _ _ (.cons _ _ (.cons _ _ .nil)))) (by k_mem) (.cons (.mk (ks := []) (by k_mem) (by k_mem) (.cons _ _ .nil) (by k_mem) .nil) .nil)
-- twice
noncomputable def fw (ea ta : List (Str × Str)) : List (Str × Str) := putA (putA ta (Str.ofString "width") ((ea.lookup (Str.ofString "width")).getD (Str.ofString "100%"))) (Str.ofString "height") ((ea.lookup (Str.ofString "height")).getD (Str.ofString "100%"))
noncomputable abbrev Sub (G : Addr → Obj → Prop) (h : Heap) : Prop := ∀ a o, G a o → h.get? a = some o
theorem framed_plain (w : World) (mean : ExcName → Option Value) (mg mb : Str → Option Value) (G : Addr → Obj → Prop) (ev : Addr) (tv : Value) (name text : Str) (attrs : List (Str × Str)) (kids : List El) (hn : name = Str.ofString "rect" ∨ name = Str.ofString "g") :
  Spec w mean mg mb 303 [.ref ev, tv] [] 1 (fun h => Sub G h ∧ ElOf w G tv (.mk name attrs kids text)) (fun r _ tl => r = tv ∧ tl = []) := by
  k_with_none
  w_top off
  (k_with "an" => (first | assumption | exact And.left (by assumption) | exact And.left (And.right (by assumption)) | exact And.left (And.right (And.right (by assumption))) | exact And.left (And.right (And.right (And.right (by assumption)))) | exact And.left (And.right (And.right (And.right (And.right (by assumption))))) | exact And.left (And.right (And.right (And.right (And.right (And.right (by assumption)))))) | exact And.left (And.right (And.right (And.right (And.right (And.right (And.right (by assumption))))))) | exact And.left (And.right (And.right (And.right (And.right (And.right (And.right (And.right (by assumption)))))))) | exact And.left (And.right (And.right (And.right (And.right (And.right (And.right (And.right (And.right (by assumption)))))))))))
  (k_with "k_ne" => (refine neN ?_; (try dsimp only); first | (refine Nat.ne_of_lt ?_; k_extra "an") | (refine Nat.ne_of_gt ?_; k_extra "an")))
  (k_with "sub" => (first | assumption | (refine List.mem_append_left _ ?_; k_extra "sub") | (refine List.mem_append_right _ ?_; k_extra "sub") | (refine List.Mem.tail _ ?_; k_extra "sub")))
  (k_with "rm" => (first | exact room_of 1 rfl (by assumption) rfl | exact room_of 0 rfl (by assumption) rfl | exact room_of1 1 rfl (by assumption) rfl | exact room_of1 0 rfl (by assumption) rfl | ktr_room))
  (k_with "un" => (first | exact units_of 3 rfl (by assumption) rfl | exact units_of 4 rfl (by assumption) rfl | exact units_of 0 rfl (by assumption) rfl | ktr_units))
  (k_with "st" => (repeat' (first | ((with_reducible show wpAny _ _ (PySem.exec _ _) _ _ _); k_fold) | ((fail_if_success (fail_if_success k_unfold)); (show wpAny _ _ _ _ _ _); (try dsimp only)) | (k_unfold; (try dsimp only)) | (k_end; wrow_close) | walk1 | (dsimp only; walk1) | (leave1; walk_say "STEP leave1"; try dsimp only) | fail "no step")))
  (k_with "D" => try ((with_reducible show wpAny _ _ _ _ _ (Shared.mk (Shared.heap _) _ _ _ _)); dsimp only))
  (k_with "E0" => ((case F => k_asm); (case V => first | assumption | exact ⟨rfl, rfl, rfl⟩)))
  (k_with "E" => (k_extra "E0"; (case e => exact rfl)))
  (k_with "S" => (intro h'8q tk'8q F'8q N'8q; (try k_sweep)))
  (k_with "A" => (intro l'8q h'8q F'8q N'8q l18q; (try k_lt l18q); (try k_sweep)))
  (k_with "spliced" => (k_here; k_extra "D"; k_dflt (first | ((with_reducible refine' s_args ?V ?F ?e ?_); k_extra "E"; k_whole; (try dsimp only [List.cons_append, List.nil_append])))))
  (k_with "evalPairs" => (k_here; k_extra "D"; k_dflt (first | ((with_reducible refine' s_pair ?V ?F ?e ?f ?_); k_extra "E"; (case f => exact rfl); k_whole))))
  (k_with "eval BinOp" => (k_here; k_extra "D"; k_dflt (first | ((with_reducible refine' s_bin ?V ?F ?e ?f ?_); k_extra "E"; (case f => exact rfl); k_whole) | ((with_reducible refine' s_binL ?V ?F ?e ?_); k_extra "E"; k_whole))))
  (k_with "isTrue Compare" => (k_here; k_extra "D"; k_dflt (first | ((with_reducible refine' s_cmp ?V ?F ?e ?f ?h ?_); k_extra "E"; (case f => exact rfl); (case h => with_unfolding_all rfl); k_whole) | ((with_reducible refine' s_cmpL ?V ?F ?e ?h ?_); k_extra "E"; (case h => with_unfolding_all rfl); k_whole))))
  (k_with "eval Subscript" => (k_here; k_extra "D"; k_dflt (first | ((with_reducible refine' s_sub ?V ?F ?e ?f ?_); k_extra "E"; (case f => exact rfl); k_whole) | ((with_reducible refine' s_subL ?V ?F ?e ?_); k_extra "E"; k_whole))))
  (k_with "eval List" => (k_here; k_extra "D"; k_dflt (first | ((with_reducible refine' s_list ?V ?F ?e ?_); k_extra "E"; k_whole))))
  (k_with "eval Tuple" => (k_here; k_extra "D"; k_dflt (first | ((with_reducible refine' s_tuple ?V ?F ?e ?_); k_extra "E"; k_whole))))
  (k_with "exec Return some" => (k_here; k_extra "D"; k_dflt (first | ((with_reducible refine' s_ret ?V ?F ?e ?_); k_extra "E"; k_whole))))
  (k_with "eval Attribute Name" => (k_here; k_extra "D"; k_dflt (first | ((with_reducible refine' s_attr ?V ?F ?e ?_ ?h); k_extra "E"; (case h => with_unfolding_all rfl); k_whole))))
  (k_with "execs cons" => (k_here; k_extra "D"; k_dflt (first | k_gentoks | ((with_reducible refine' c_asgS ?V ?F ?N ?e ?x ?_ ?h); k_extra "E"; (case N => k_asm); (case x => exact rfl); (case h => exact rfl); k_whole; k_extra "S") | ((with_reducible refine' c_asg ?_ ?h); (case h => exact rfl); k_whole; (try refine (let qk8q : Value → Shared → Prop := _; (?_ : wpAny _ _ _ qk8q _ _)))) | ((with_reducible refine' c_retS ?V ?F ?e ?_); k_extra "E"; k_whole) | (with_reducible refine c_ret ?_))))
  (k_with "storeName" => (k_here; k_extra "D"; k_dflt (first | ((with_reducible refine' c_store ?V ?F ?N ?x ?_); k_extra "E0"; (case N => k_asm); (case x => exact rfl); k_whole; k_extra "S"))))
  (k_with "newList" => (k_here; k_extra "D"; k_dflt (first | ((with_reducible refine' c_newList ?F ?N ?_ ?z); (case F => k_asm); (case N => k_asm); (case z => size_fits); k_extra "A"))))
  (k_with "newTuple" => (k_here; k_extra "D"; k_dflt (first | ((with_reducible refine' c_newTuple ?F ?N ?_ ?z); (case F => k_asm); (case N => k_asm); (case z => kmk_size); k_extra "A"))))
  (k_with "binaryOp Mult int int" => (k_here; k_extra "D"; k_dflt (first | ((with_reducible refine' c_mul ?_ ?z); (case z => mul_fits)))))
  (k_with "binaryOp Add int int" => (k_here; k_extra "D"; k_dflt (first | (with_reducible refine c_add ?_))))
  (k_with "binaryOp Sub int int" => (k_here; k_extra "D"; k_dflt (first | (with_reducible refine c_sub ?_))))
  (k_with "unaryOp USub int" => (k_here; k_extra "D"; k_dflt (first | (with_reducible refine c_neg ?_))))
  (k_with "callWith ref" => (k_here; k_extra "D"; k_dflt (first | ((with_reducible refine' s_with ?V ?F ?X ?k ?e ?_); k_extra "E"; (case X => k_asm); (case k => k_is); k_whole))))
  (k_with "eval Call" => (k_here; k_extra "D"; k_dflt (first | ((with_reducible refine' s_call ?V ?F ?X ?T ?n ?x ?d ?k ?e ?_ ?h); k_extra "E"; (case x => exact rfl); (case X => k_asm); (case T => k_asm); (case d => decide); (case n => k_is); (case k => k_is); (case h => exact rfl); k_whole))))
  (k_with "eval Name" => (k_here; k_extra "D"; k_dflt (first | ((with_reducible refine' s_val ?V ?F ?e ?_); k_extra "E"; k_whole))))
  (k_with "ktr_enter" => first
  | (refine' codeG ?k1 ?k2 ?k3 ?k4 ?k5 ?kA ?kF ?kK ?k6 ?k7 ?k8 ?k9 ?kB ?_ ?c2 ?c3 ?c4 ?c5; (case kA => exact rfl); (case kF => exact rfl); (case kK => assumption); (case k1 => first | k_asm | exact topb_of rfl rfl (by k_asm)); (case k2 => k_asm); (case k3 => k_asm); (case k4 => k_asm); (case k5 => k_asm); (case k6 => k_is); (case k7 => k_is); (case k8 => (k_extra "rm")); (case k9 => first | exact BindsTo.of_eq rfl | exact binds_K (by k_in) rfl (by k_is) rfl rfl rfl); (case c5 => decide); (case kB => exact locs rfl); (case c2 => exact rfl); (case c3 => exact rfl); (case c4 => exact rfl); k_whole; intro g'9q L'9q h'9q tk'9q st'9q FG'9q F'9q N'9q B'9q X'9q T'9q l1'9q; (try dsimp only); (try k_fold)))
  (k_with "k_inst" => exact inst_base (by k_asm) (by assumption) (by assumption))
  (k_with "getMethod ref" => (k_here; (with_reducible show wpAny _ _ (getMethod (Value.ref _) (Str.ofString "get") _) _ _ _); k_dflt (refine sd_method (SDict.base (by k_asm) (by assumption)) ?_)))
  (k_with "call builtin:dict.get" => (k_here; (with_reducible show wpAny _ _ (call (Value.builtin "dict.get") [Value.ref _, Value.str _ _]) _ _ _); k_dflt (first
  | (refine sd_get1s (SDict.base (by k_asm) (by assumption)) (by assumption) ?_; intro t'9q)
  | (refine sd_get1n (SDict.base (by k_asm) (by assumption)) (by assumption) ?_)
  | (refine sd_get1 (SDict.base (by k_asm) (by assumption)) (fun hg09q => ?_) (fun v'9q t'9q hg19q => ?_)))))
  (k_with "k_room" => (k_extra "rm"))
  (k_with "subscriptTail" => (k_here; (with_reducible show wpAny _ _ (subscriptTail _ _ (Value.ref _) (Value.str _ _)) _ _ _); k_dflt (refine sd_item (SDict.base (by k_asm) (by assumption)) (by assumption) ?_); intro t'9q))
  (k_with "call ref" => (k_here; (with_reducible show wpAny _ _ (call (Value.ref _) _) _ _ _); (try k_fold); k_dflt (refine' spec_use0 ?S ?k1 ?k2 ?k3 ?k4 ?k5 ?kK ?kP ?kd ?ku ?_; (case S => assumption); (case k1 => first | k_asm | exact topb_of rfl rfl (by k_asm)); (case k2 => k_asm); (case k3 => k_asm); (case k4 => k_asm); (case k5 => k_asm); (case kK => exact rfl); (case kP => first | exact trivial | exact ElOf.base (by k_asm) (by assumption)); (case kd => (k_extra "rm")); (case ku => (k_extra "un"))); intro r'9q tl'9q h'9q tk'9q F'9q N'9q fr'9q st'9q hR'9q; (try dsimp only at hR'9q)))
  (k_with "k_mem" => ((show _ ∈ (_ ++ _ : List (Addr × Obj))); first | (refine List.mem_append_right _ ?_; k_mem) | (refine List.mem_append_left _ ?_; k_mem)))
  (k_with "call builtin:dict.get" => (k_here; (with_reducible show wpAny _ _ (call (Value.builtin "dict.get") [Value.ref _, Value.str _ _, Value.str _ _]) _ _ _); k_dflt (refine sd_get2L (SDict.base (by k_asm) (by assumption)) (by first | assumption | decide) ?_); intro t'9q hlen'9q))
  unfold Spec
  k_fill
  intro dp un gd cn cs a' ccd cl' outer A₀ base h₀ L m s Q E B F X N T hk hP hd hu hret
  refine wpAny_call ?_
  k_dflt ktr_enter
  first | refine (let ak : Around := _; let nk : Env := _; let sg9 : Array GenState := _; let sd9 : Drawn := _; let so9 : OsState := _; (?_ : wpAny _ ak (execs _ nk) _ _ (Shared.mk _ sg9 sd9 _ so9))) | refine (let ak : Around := _; let nk : Env := _; (?_ : wpAny _ ak (execs _ nk) _ _ _))
  try (have TB9 : TopB ak _ _ (dp + 1) (un + 3) := topb_of rfl rfl (by assumption))
  try (have FE9 : FnE nk L'9q := ⟨rfl, rfl, rfl⟩)
  try (rename Fr _ _ _ (fun y => List.lookup y (List.reverse _)) => FX9; replace FX9 := fr_binds [(Str.ofString "element", (.ref ev : Value)), (Str.ofString "target", (tv : Value))] rfl FX9)
  rename Stood _ _ _ => st
  obtain ⟨hG, hE⟩ := hP
  cases hE with | mk a1 a2 a3 a4 a5 a6 =>
  have b1 := st _ _ (hG _ _ a1) (fun h => nomatch h)
  have b2 := st _ _ (hG _ _ a2) (fun h => nomatch h)
  clear a1 a2 a3 a4 a5 a6
  rcases hn with rfl | rfl
  all_goals (((k_extra "st"); (k_extra "st")); exact spec_ret0 hret st (by assumption) (by assumption) (by assumption) (by assumption) [] (fun _ h => nomatch h) ⟨rfl, rfl⟩)
theorem framed_symbol (w : World) (mean : ExcName → Option Value) (mg mb : Str → Option Value) (G : Addr → Obj → Prop) (ev tv : Value) (ename etext text : Str) (ea ta : List (Str × Str)) (ekids kids : List El) (hl : ta.length ≤ 30) :
  Spec w mean mg mb 303 [ev, tv] [] 5 (fun h => Sub G h ∧ ElOf w G ev (.mk ename ea ekids etext) ∧ ElOf w G tv (.mk (Str.ofString "symbol") ta kids text)) (fun r _ tl => ElOf w (GU G tl) r (.mk (Str.ofString "svg") (fw ea ta) kids text)) := by
  (k_with "call type:dict" => (k_here; (with_reducible show wpAny _ _ (call (Value.type "dict") [Value.ref _]) _ _ _); k_dflt (refine sd_copy (SDict.base (by k_asm) (by assumption)) (by k_asm) (by k_asm) (Top.nolimit (by k_asm)) ?_); intro d'9q h'9q o'9q F'9q N'9q l19q hD'9q; (try k_lt l19q)))
  (k_with "compareOp In str ref" => (k_here; k_dflt (first
  | refine sd_inY (SDict.base (by k_asm) (by assumption)) (by assumption) ?_
  | refine sd_inN (SDict.base (by k_asm) (by assumption)) (by assumption) ?_
  | refine sd_inS (SDict.base (by k_asm) (by assumption)) (fun hg09q => ?_) (fun v'9q hg19q hlen'9q => ?_))))
  (k_with "setItem ref str" => (k_here; (with_reducible show wpAny _ _ (setItem (Value.ref _) (Value.str _ _) (Value.str _ _)) _ _ _); k_dflt (refine' sd_set ?D ?F ?N ?U ?l ?k ?v ?_; (case D => assumption); (case F => k_asm); (case N => k_asm); (case U => k_updF); (case l => first | assumption | (refine Nat.le_trans (putA_len _ _ _) ?_; omega) | omega); (case k => first | assumption | decide); (case v => first | assumption | decide)); intro h'9q o'9q F'9q N'9q hD'9q; (try dsimp only at N'9q)))
  (k_with "call ref" => (k_here; (with_reducible show wpAny _ _ (call (Value.ref 246) _) _ _ _); (try k_fold); k_dflt (refine' spec_use0 (elof_spec _ _ _ _ _ _ _ _ _ _) ?k1 ?k2 ?k3 ?k4 ?k5 ?kK ?kP ?kd ?ku ?_; (case k1 => first | k_asm | exact topb_of rfl rfl (by k_asm)); (case k2 => k_asm); (case k3 => k_asm); (case k4 => k_asm); (case k5 => k_asm); (case kK => exact rfl); (case kP => exact trivial); (case kd => (k_extra "rm")); (case ku => (k_extra "un"))); intro r'9q tl'9q h'9q tk'9q F'9q N'9q fr'9q st'9q hR'9q; (try dsimp only at hR'9q)))
  unfold Spec
  k_fill
  intro dp un gd cn cs a' ccd cl' outer A₀ base h₀ L m s Q E B F X N T hk hP hd hu hret
  refine wpAny_call ?_
  k_dflt ktr_enter
  first | refine (let ak : Around := _; let nk : Env := _; let sg9 : Array GenState := _; let sd9 : Drawn := _; let so9 : OsState := _; (?_ : wpAny _ ak (execs _ nk) _ _ (Shared.mk _ sg9 sd9 _ so9))) | refine (let ak : Around := _; let nk : Env := _; (?_ : wpAny _ ak (execs _ nk) _ _ _))
  try (have TB9 : TopB ak _ _ (dp + 1) (un + 3) := topb_of rfl rfl (by assumption))
  try (have FE9 : FnE nk L'9q := ⟨rfl, rfl, rfl⟩)
  try (rename Fr _ _ _ (fun y => List.lookup y (List.reverse _)) => FX9; replace FX9 := fr_binds [(Str.ofString "element", (ev : Value)), (Str.ofString "target", (tv : Value))] rfl FX9)
  rename Stood _ _ _ => st
  obtain ⟨hG, hE, hT⟩ := hP
  cases hE with | mk e1 e2 e3 e4 e5 e6 =>
  cases hT with | mk a1 a2 a3 a4 a5 a6 =>
  have b1 := st _ _ (hG _ _ a1) (fun h => nomatch h)
  have b2 := st _ _ (hG _ _ a2) (fun h => nomatch h)
  have b3 := a3.mono fun a o e => st a o (hG _ _ e) (fun h => nomatch h)
  have c1 := st _ _ (hG _ _ e1) (fun h => nomatch h)
  have c2 := st _ _ (hG _ _ e2) (fun h => nomatch h)
  have c3 := e3.mono fun a o e => st a o (hG _ _ e) (fun h => nomatch h)
  clear e1 e2 e3 e4 e5 e6
  have hl1 : ta.length ≤ 39 := by omega
  ((k_extra "st"); (k_extra "st"))
  all_goals (
    rename Core _ _ _ _ _ _ => hC
    rename SDict _ _ _ (putA (putA _ _ _) _ _) => hD
    refine spec_ret0 hret st (by assumption) (by assumption) (by assumption) (by assumption) _ (by exact fun _ h => h) ?_
    refine Core.el (hC.mono fun a o q => Or.inr (List.mem_append_left _ q)) ?_ (Or.inl a4) a5 (a6.mono fun a o q => Or.inl q)
    unfold fw
    rw [‹ea.lookup (Str.ofString "width") = _›, ‹ea.lookup (Str.ofString "height") = _›]
    simp only [Option.getD]
    exact (SDict.one hD (by k_mem)).mono fun a o q => Or.inr q)
theorem unit_spec (w : World) (mean : ExcName → Option Value) (mg mb : Str → Option Value) (tt : Tok) (x : Str) (hx : x = Str.ofString "0" ∨ x = Str.ofString "3" ∨ x = Str.ofString "-2" ∨ x = Str.ofString "4.5") :
  Spec w mean mg mb 229 [.str x tt] [] 2 (fun h => True) (fun r _ tl => ∃ l n t1 t2, r = .ref l ∧ (l, ({ cls := .type "tuple", data := .seq #[.str x t1, .str (Str.ofString "") t2] n } : Obj)) ∈ tl) := by
  k_with_none
  w_top off
  (k_with "an" => (first | assumption | exact And.left (by assumption) | exact And.left (And.right (by assumption)) | exact And.left (And.right (And.right (by assumption))) | exact And.left (And.right (And.right (And.right (by assumption)))) | exact And.left (And.right (And.right (And.right (And.right (by assumption))))) | exact And.left (And.right (And.right (And.right (And.right (And.right (by assumption)))))) | exact And.left (And.right (And.right (And.right (And.right (And.right (And.right (by assumption))))))) | exact And.left (And.right (And.right (And.right (And.right (And.right (And.right (And.right (by assumption)))))))) | exact And.left (And.right (And.right (And.right (And.right (And.right (And.right (And.right (And.right (by assumption)))))))))))
  (k_with "k_ne" => (refine neN ?_; (try dsimp only); first | (refine Nat.ne_of_lt ?_; k_extra "an") | (refine Nat.ne_of_gt ?_; k_extra "an")))
  (k_with "sub" => (first | assumption | (refine List.mem_append_left _ ?_; k_extra "sub") | (refine List.mem_append_right _ ?_; k_extra "sub") | (refine List.Mem.tail _ ?_; k_extra "sub")))
  (k_with "rm" => (first | exact room_of 1 rfl (by assumption) rfl | exact room_of 0 rfl (by assumption) rfl | exact room_of1 1 rfl (by assumption) rfl | exact room_of1 0 rfl (by assumption) rfl | ktr_room))
  (k_with "un" => (first | exact units_of 3 rfl (by assumption) rfl | exact units_of 4 rfl (by assumption) rfl | exact units_of 0 rfl (by assumption) rfl | ktr_units))
  (k_with "st" => (repeat' (first | ((with_reducible show wpAny _ _ (PySem.exec _ _) _ _ _); k_fold) | ((fail_if_success (fail_if_success k_unfold)); (show wpAny _ _ _ _ _ _); (try dsimp only)) | (k_unfold; (try dsimp only)) | (k_end; wrow_close) | walk1 | (dsimp only; walk1) | (leave1; walk_say "STEP leave1"; try dsimp only) | fail "no step")))
  (k_with "D" => try ((with_reducible show wpAny _ _ _ _ _ (Shared.mk (Shared.heap _) _ _ _ _)); dsimp only))
  (k_with "E0" => ((case F => k_asm); (case V => first | assumption | exact ⟨rfl, rfl, rfl⟩)))
  (k_with "E" => (k_extra "E0"; (case e => exact rfl)))
  (k_with "S" => (intro h'8q tk'8q F'8q N'8q; (try k_sweep)))
  (k_with "A" => (intro l'8q h'8q F'8q N'8q l18q; (try k_lt l18q); (try k_sweep)))
  (k_with "spliced" => (k_here; k_extra "D"; k_dflt (first | ((with_reducible refine' s_args ?V ?F ?e ?_); k_extra "E"; k_whole; (try dsimp only [List.cons_append, List.nil_append])))))
  (k_with "evalPairs" => (k_here; k_extra "D"; k_dflt (first | ((with_reducible refine' s_pair ?V ?F ?e ?f ?_); k_extra "E"; (case f => exact rfl); k_whole))))
  (k_with "eval BinOp" => (k_here; k_extra "D"; k_dflt (first | ((with_reducible refine' s_bin ?V ?F ?e ?f ?_); k_extra "E"; (case f => exact rfl); k_whole) | ((with_reducible refine' s_binL ?V ?F ?e ?_); k_extra "E"; k_whole))))
  (k_with "isTrue Compare" => (k_here; k_extra "D"; k_dflt (first | ((with_reducible refine' s_cmp ?V ?F ?e ?f ?h ?_); k_extra "E"; (case f => exact rfl); (case h => with_unfolding_all rfl); k_whole) | ((with_reducible refine' s_cmpL ?V ?F ?e ?h ?_); k_extra "E"; (case h => with_unfolding_all rfl); k_whole))))
  (k_with "eval Subscript" => (k_here; k_extra "D"; k_dflt (first | ((with_reducible refine' s_sub ?V ?F ?e ?f ?_); k_extra "E"; (case f => exact rfl); k_whole) | ((with_reducible refine' s_subL ?V ?F ?e ?_); k_extra "E"; k_whole))))
  (k_with "eval List" => (k_here; k_extra "D"; k_dflt (first | ((with_reducible refine' s_list ?V ?F ?e ?_); k_extra "E"; k_whole))))
  (k_with "eval Tuple" => (k_here; k_extra "D"; k_dflt (first | ((with_reducible refine' s_tuple ?V ?F ?e ?_); k_extra "E"; k_whole))))
  (k_with "exec Return some" => (k_here; k_extra "D"; k_dflt (first | ((with_reducible refine' s_ret ?V ?F ?e ?_); k_extra "E"; k_whole))))
  (k_with "eval Attribute Name" => (k_here; k_extra "D"; k_dflt (first | ((with_reducible refine' s_attr ?V ?F ?e ?_ ?h); k_extra "E"; (case h => with_unfolding_all rfl); k_whole))))
  (k_with "execs cons" => (k_here; k_extra "D"; k_dflt (first | k_gentoks | ((with_reducible refine' c_asgS ?V ?F ?N ?e ?x ?_ ?h); k_extra "E"; (case N => k_asm); (case x => exact rfl); (case h => exact rfl); k_whole; k_extra "S") | ((with_reducible refine' c_asg ?_ ?h); (case h => exact rfl); k_whole; (try refine (let qk8q : Value → Shared → Prop := _; (?_ : wpAny _ _ _ qk8q _ _)))) | ((with_reducible refine' c_retS ?V ?F ?e ?_); k_extra "E"; k_whole) | (with_reducible refine c_ret ?_))))
  (k_with "storeName" => (k_here; k_extra "D"; k_dflt (first | ((with_reducible refine' c_store ?V ?F ?N ?x ?_); k_extra "E0"; (case N => k_asm); (case x => exact rfl); k_whole; k_extra "S"))))
  (k_with "newList" => (k_here; k_extra "D"; k_dflt (first | ((with_reducible refine' c_newList ?F ?N ?_ ?z); (case F => k_asm); (case N => k_asm); (case z => size_fits); k_extra "A"))))
  (k_with "newTuple" => (k_here; k_extra "D"; k_dflt (first | ((with_reducible refine' c_newTuple ?F ?N ?_ ?z); (case F => k_asm); (case N => k_asm); (case z => kmk_size); k_extra "A"))))
  (k_with "binaryOp Mult int int" => (k_here; k_extra "D"; k_dflt (first | ((with_reducible refine' c_mul ?_ ?z); (case z => mul_fits)))))
  (k_with "binaryOp Add int int" => (k_here; k_extra "D"; k_dflt (first | (with_reducible refine c_add ?_))))
  (k_with "binaryOp Sub int int" => (k_here; k_extra "D"; k_dflt (first | (with_reducible refine c_sub ?_))))
  (k_with "unaryOp USub int" => (k_here; k_extra "D"; k_dflt (first | (with_reducible refine c_neg ?_))))
  (k_with "callWith ref" => (k_here; k_extra "D"; k_dflt (first | ((with_reducible refine' s_with ?V ?F ?X ?k ?e ?_); k_extra "E"; (case X => k_asm); (case k => k_is); k_whole))))
  (k_with "eval Call" => (k_here; k_extra "D"; k_dflt (first | ((with_reducible refine' s_call ?V ?F ?X ?T ?n ?x ?d ?k ?e ?_ ?h); k_extra "E"; (case x => exact rfl); (case X => k_asm); (case T => k_asm); (case d => decide); (case n => k_is); (case k => k_is); (case h => exact rfl); k_whole))))
  (k_with "eval Name" => (k_here; k_extra "D"; k_dflt (first | ((with_reducible refine' s_val ?V ?F ?e ?_); k_extra "E"; k_whole))))
  (k_with "ktr_enter" => first
  | (refine' codeG ?k1 ?k2 ?k3 ?k4 ?k5 ?kA ?kF ?kK ?k6 ?k7 ?k8 ?k9 ?kB ?_ ?c2 ?c3 ?c4 ?c5; (case kA => exact rfl); (case kF => exact rfl); (case kK => assumption); (case k1 => first | k_asm | exact topb_of rfl rfl (by k_asm)); (case k2 => k_asm); (case k3 => k_asm); (case k4 => k_asm); (case k5 => k_asm); (case k6 => k_is); (case k7 => k_is); (case k8 => (k_extra "rm")); (case k9 => first | exact BindsTo.of_eq rfl | exact binds_K (by k_in) rfl (by k_is) rfl rfl rfl); (case c5 => decide); (case kB => exact locs rfl); (case c2 => exact rfl); (case c3 => exact rfl); (case c4 => exact rfl); k_whole; intro g'9q L'9q h'9q tk'9q st'9q FG'9q F'9q N'9q B'9q X'9q T'9q l1'9q; (try dsimp only); (try k_fold)))
  (k_with "k_inst" => exact inst_base (by k_asm) (by assumption) (by assumption))
  (k_with "getMethod ref" => (k_here; (with_reducible show wpAny _ _ (getMethod (Value.ref _) (Str.ofString "get") _) _ _ _); k_dflt (refine sd_method (SDict.base (by k_asm) (by assumption)) ?_)))
  (k_with "call builtin:dict.get" => (k_here; (with_reducible show wpAny _ _ (call (Value.builtin "dict.get") [Value.ref _, Value.str _ _]) _ _ _); k_dflt (first
  | (refine sd_get1s (SDict.base (by k_asm) (by assumption)) (by assumption) ?_; intro t'9q)
  | (refine sd_get1n (SDict.base (by k_asm) (by assumption)) (by assumption) ?_)
  | (refine sd_get1 (SDict.base (by k_asm) (by assumption)) (fun hg09q => ?_) (fun v'9q t'9q hg19q => ?_)))))
  (k_with "k_room" => (k_extra "rm"))
  (k_with "subscriptTail" => (k_here; (with_reducible show wpAny _ _ (subscriptTail _ _ (Value.ref _) (Value.str _ _)) _ _ _); k_dflt (refine sd_item (SDict.base (by k_asm) (by assumption)) (by assumption) ?_); intro t'9q))
  (k_with "call ref" => (k_here; (with_reducible show wpAny _ _ (call (Value.ref _) _) _ _ _); (try k_fold); k_dflt (refine' spec_use0 ?S ?k1 ?k2 ?k3 ?k4 ?k5 ?kK ?kP ?kd ?ku ?_; (case S => assumption); (case k1 => first | k_asm | exact topb_of rfl rfl (by k_asm)); (case k2 => k_asm); (case k3 => k_asm); (case k4 => k_asm); (case k5 => k_asm); (case kK => exact rfl); (case kP => first | exact trivial | exact ElOf.base (by k_asm) (by assumption)); (case kd => (k_extra "rm")); (case ku => (k_extra "un"))); intro r'9q tl'9q h'9q tk'9q F'9q N'9q fr'9q st'9q hR'9q; (try dsimp only at hR'9q)))
  (k_with "k_mem" => ((show _ ∈ (_ ++ _ : List (Addr × Obj))); first | (refine List.mem_append_right _ ?_; k_mem) | (refine List.mem_append_left _ ?_; k_mem)))
  (k_with "call builtin:dict.get" => (k_here; (with_reducible show wpAny _ _ (call (Value.builtin "dict.get") [Value.ref _, Value.str _ _, Value.str _ _]) _ _ _); k_dflt (refine sd_get2L (SDict.base (by k_asm) (by assumption)) (by first | assumption | decide) ?_); intro t'9q hlen'9q))
  (k_with "ite" => (refine ite_bf (by assumption) ?_))
  (k_with "storeName" => (k_here; (with_reducible show wpAny _ _ (storeName _ _ (Value.str (Txt.strip _) _)) _ _ _); (refine lit_arg (fun v9q => storeName _ _ (Value.str v9q _)) _ _ (by assumption) ?_); (try dsimp only)))
  unfold Spec
  k_fill
  intro dp un gd cn cs a' ccd cl' outer A₀ base h₀ L m s Q E B F X N T hk hP hd hu hret
  clear hP
  refine wpAny_call ?_
  k_dflt ktr_enter
  first | refine (let ak : Around := _; let nk : Env := _; let sg9 : Array GenState := _; let sd9 : Drawn := _; let so9 : OsState := _; (?_ : wpAny _ ak (execs _ nk) _ _ (Shared.mk _ sg9 sd9 _ so9))) | refine (let ak : Around := _; let nk : Env := _; (?_ : wpAny _ ak (execs _ nk) _ _ _))
  try (have TB9 : TopB ak _ _ (dp + 1) (un + 3) := topb_of rfl rfl (by assumption))
  try (have FE9 : FnE nk L'9q := ⟨rfl, rfl, rfl⟩)
  try (rename Fr _ _ _ (fun y => List.lookup y (List.reverse _)) => FX9; replace FX9 := fr_binds [(Str.ofString "text", (.str x tt : Value))] rfl FX9)
  rename Stood _ _ _ => st
  obtain ⟨hz, hs, e1, e2, e3, e4, e5, e6, e7, e8⟩ : x.length ≤ 4000 ∧ Txt.strip x = x ∧ Txt.endswith x (Str.ofString "px") = false ∧ Txt.endswith x (Str.ofString "pt") = false ∧ Txt.endswith x (Str.ofString "pc") = false ∧ Txt.endswith x (Str.ofString "mm") = false ∧ Txt.endswith x (Str.ofString "cm") = false ∧ Txt.endswith x (Str.ofString "in") = false ∧ Txt.endswith x (Str.ofString "em") = false ∧ Txt.endswith x (Str.ofString "%") = false := by rcases hx with rfl | rfl | rfl | rfl <;> decide +kernel
  clear hx
  all_goals (k_extra "st")
  all_goals exact spec_ret0 hret st (by assumption) (by assumption) (by assumption) (by assumption) _ (by exact fun _ h => h) ⟨_, _, _, _, rfl, by k_mem⟩
theorem index_at {prog : Program} {w : World} {A : Around} {E : Value → Shared → Prop} {s : Shared} {x y : Str} {tx ty : Tok} {Q : Value → Shared → Prop} (n : Int) (hn : Txt.find x y = n) (h0 : 0 ≤ n) (hA : A.handled = none) (h : Q (.int n s.toks) { s with toks := s.toks + 1 }) :
    wpAny (model prog w) A (call (.builtin "str.index") [.str x tx, .str y ty]) Q E s :=
  index_or hA (fun e _ => by rw [hn] at e; omega) fun _ _ => by rw [hn]; exact h
theorem whole_spec (w : World) (mean : ExcName → Option Value) (mg mb : Str → Option Value) (tt : Tok) (x : Str) (n : Int) (hx : (x = Str.ofString "0" ∧ n = 0) ∨ (x = Str.ofString "3" ∧ n = 3) ∨ (x = Str.ofString "2" ∧ n = 2) ∨ (x = Str.ofString "45" ∧ n = 45)) :
  Spec w mean mg mb 170 [.str x tt] [] 2 (fun h => True) (fun r _ tl => ∃ t, r = .int n t) := by
  k_with_none
  w_top off
  (k_with "an" => (first | assumption | exact And.left (by assumption) | exact And.left (And.right (by assumption)) | exact And.left (And.right (And.right (by assumption))) | exact And.left (And.right (And.right (And.right (by assumption)))) | exact And.left (And.right (And.right (And.right (And.right (by assumption))))) | exact And.left (And.right (And.right (And.right (And.right (And.right (by assumption)))))) | exact And.left (And.right (And.right (And.right (And.right (And.right (And.right (by assumption))))))) | exact And.left (And.right (And.right (And.right (And.right (And.right (And.right (And.right (by assumption)))))))) | exact And.left (And.right (And.right (And.right (And.right (And.right (And.right (And.right (And.right (by assumption)))))))))))
  (k_with "k_ne" => (refine neN ?_; (try dsimp only); first | (refine Nat.ne_of_lt ?_; k_extra "an") | (refine Nat.ne_of_gt ?_; k_extra "an")))
  (k_with "sub" => (first | assumption | (refine List.mem_append_left _ ?_; k_extra "sub") | (refine List.mem_append_right _ ?_; k_extra "sub") | (refine List.Mem.tail _ ?_; k_extra "sub")))
  (k_with "rm" => (first | exact room_of 1 rfl (by assumption) rfl | exact room_of 0 rfl (by assumption) rfl | exact room_of1 1 rfl (by assumption) rfl | exact room_of1 0 rfl (by assumption) rfl | ktr_room))
  (k_with "un" => (first | exact units_of 3 rfl (by assumption) rfl | exact units_of 4 rfl (by assumption) rfl | exact units_of 0 rfl (by assumption) rfl | ktr_units))
  (k_with "gn" => refine (let P9 : Prop := _; (?_ : P9)))
  (k_with "st" => (repeat' (first | ((with_reducible show wpAny _ _ (PySem.exec _ _) _ _ _); k_fold) | ((fail_if_success (fail_if_success k_unfold)); (show wpAny _ _ _ _ _ _); (try dsimp only)) | (k_unfold; (try dsimp only)) | (k_end; wrow_close) | walk1 | (dsimp only; walk1) | (leave1; walk_say "STEP leave1"; try dsimp only) | fail "no step")))
  (k_with "D" => try ((with_reducible show wpAny _ _ _ _ _ (Shared.mk (Shared.heap _) _ _ _ _)); dsimp only))
  (k_with "E0" => ((case F => k_asm); (case V => first | assumption | exact ⟨rfl, rfl, rfl⟩)))
  (k_with "E" => (k_extra "E0"; (case e => exact rfl)))
  (k_with "S" => (intro h'8q tk'8q F'8q N'8q; (try k_sweep)))
  (k_with "A" => (intro l'8q h'8q F'8q N'8q l18q; (try k_lt l18q); (try k_sweep)))
  (k_with "spliced" => (k_here; k_extra "D"; k_dflt (first | ((with_reducible refine' s_args ?V ?F ?e ?_); k_extra "E"; k_whole; (try dsimp only [List.cons_append, List.nil_append])))))
  (k_with "evalPairs" => (k_here; k_extra "D"; k_dflt (first | ((with_reducible refine' s_pair ?V ?F ?e ?f ?_); k_extra "E"; (case f => exact rfl); k_whole))))
  (k_with "eval BinOp" => (k_here; k_extra "D"; k_dflt (first | ((with_reducible refine' s_bin ?V ?F ?e ?f ?_); k_extra "E"; (case f => exact rfl); k_whole) | ((with_reducible refine' s_binL ?V ?F ?e ?_); k_extra "E"; k_whole))))
  (k_with "isTrue Compare" => (k_here; k_extra "D"; k_dflt (first | ((with_reducible refine' s_cmp ?V ?F ?e ?f ?h ?_); k_extra "E"; (case f => exact rfl); (case h => with_unfolding_all rfl); k_whole) | ((with_reducible refine' s_cmpL ?V ?F ?e ?h ?_); k_extra "E"; (case h => with_unfolding_all rfl); k_whole))))
  (k_with "eval Subscript" => (k_here; k_extra "D"; k_dflt (first | ((with_reducible refine' s_sub ?V ?F ?e ?f ?_); k_extra "E"; (case f => exact rfl); k_whole) | ((with_reducible refine' s_subL ?V ?F ?e ?_); k_extra "E"; k_whole))))
  (k_with "eval List" => (k_here; k_extra "D"; k_dflt (first | ((with_reducible refine' s_list ?V ?F ?e ?_); k_extra "E"; k_whole))))
  (k_with "eval Tuple" => (k_here; k_extra "D"; k_dflt (first | ((with_reducible refine' s_tuple ?V ?F ?e ?_); k_extra "E"; k_whole))))
  (k_with "exec Return some" => (k_here; k_extra "D"; k_dflt (first | ((with_reducible refine' s_ret ?V ?F ?e ?_); k_extra "E"; k_whole))))
  (k_with "eval Attribute Name" => (k_here; k_extra "D"; k_dflt (first | ((with_reducible refine' s_attr ?V ?F ?e ?_ ?h); k_extra "E"; (case h => with_unfolding_all rfl); k_whole))))
  (k_with "execs cons" => (k_here; k_extra "D"; k_dflt (first | k_gentoks | ((with_reducible refine' c_asgS ?V ?F ?N ?e ?x ?_ ?h); k_extra "E"; (case N => k_asm); (case x => exact rfl); (case h => exact rfl); k_whole; k_extra "S") | ((with_reducible refine' c_asg ?_ ?h); (case h => exact rfl); k_whole; (try refine (let qk8q : Value → Shared → Prop := _; (?_ : wpAny _ _ _ qk8q _ _)))) | ((with_reducible refine' c_retS ?V ?F ?e ?_); k_extra "E"; k_whole) | (with_reducible refine c_ret ?_))))
  (k_with "storeName" => (k_here; k_extra "D"; k_dflt (first | ((with_reducible refine' c_store ?V ?F ?N ?x ?_); k_extra "E0"; (case N => k_asm); (case x => exact rfl); k_whole; k_extra "S"))))
  (k_with "newList" => (k_here; k_extra "D"; k_dflt (first | ((with_reducible refine' c_newList ?F ?N ?_ ?z); (case F => k_asm); (case N => k_asm); (case z => size_fits); k_extra "A"))))
  (k_with "newTuple" => (k_here; k_extra "D"; k_dflt (first | ((with_reducible refine' c_newTuple ?F ?N ?_ ?z); (case F => k_asm); (case N => k_asm); (case z => kmk_size); k_extra "A"))))
  (k_with "binaryOp Mult int int" => (k_here; k_extra "D"; k_dflt (first | ((with_reducible refine' c_mul ?_ ?z); (case z => mul_fits)))))
  (k_with "binaryOp Add int int" => (k_here; k_extra "D"; k_dflt (first | (with_reducible refine c_add ?_))))
  (k_with "binaryOp Sub int int" => (k_here; k_extra "D"; k_dflt (first | (with_reducible refine c_sub ?_))))
  (k_with "unaryOp USub int" => (k_here; k_extra "D"; k_dflt (first | (with_reducible refine c_neg ?_))))
  (k_with "callWith ref" => (k_here; k_extra "D"; k_dflt (first | ((with_reducible refine' s_with ?V ?F ?X ?k ?e ?_); k_extra "E"; (case X => k_asm); (case k => k_is); k_whole))))
  (k_with "eval Call" => (k_here; k_extra "D"; k_dflt (first | ((with_reducible refine' s_call ?V ?F ?X ?T ?n ?x ?d ?k ?e ?_ ?h); k_extra "E"; (case x => exact rfl); (case X => k_asm); (case T => k_asm); (case d => decide); (case n => k_is); (case k => k_is); (case h => exact rfl); k_whole))))
  (k_with "eval Name" => (k_here; k_extra "D"; k_dflt (first | ((with_reducible refine' s_val ?V ?F ?e ?_); k_extra "E"; k_whole))))
  (k_with "ktr_enter" => first
  | (refine' codeG ?k1 ?k2 ?k3 ?k4 ?k5 ?kA ?kF ?kK ?k6 ?k7 ?k8 ?k9 ?kB ?_ ?c2 ?c3 ?c4 ?c5; (case kA => exact rfl); (case kF => exact rfl); (case kK => assumption); (case k1 => first | k_asm | exact topb_of rfl rfl (by k_asm)); (case k2 => k_asm); (case k3 => k_asm); (case k4 => k_asm); (case k5 => k_asm); (case k6 => k_is); (case k7 => k_is); (case k8 => (k_extra "rm")); (case k9 => first | exact BindsTo.of_eq rfl | exact binds_K (by k_in) rfl (by k_is) rfl rfl rfl); (case c5 => decide); (case kB => exact locs rfl); (case c2 => exact rfl); (case c3 => exact rfl); (case c4 => exact rfl); k_whole; intro g'9q L'9q h'9q tk'9q st'9q FG'9q F'9q N'9q B'9q X'9q T'9q l1'9q; (try dsimp only); (try k_fold)))
  (k_with "k_inst" => exact inst_base (by k_asm) (by assumption) (by assumption))
  (k_with "getMethod ref" => (k_here; (with_reducible show wpAny _ _ (getMethod (Value.ref _) (Str.ofString "get") _) _ _ _); k_dflt (refine sd_method (SDict.base (by k_asm) (by assumption)) ?_)))
  (k_with "call builtin:dict.get" => (k_here; (with_reducible show wpAny _ _ (call (Value.builtin "dict.get") [Value.ref _, Value.str _ _]) _ _ _); k_dflt (first
  | (refine sd_get1s (SDict.base (by k_asm) (by assumption)) (by assumption) ?_; intro t'9q)
  | (refine sd_get1n (SDict.base (by k_asm) (by assumption)) (by assumption) ?_)
  | (refine sd_get1 (SDict.base (by k_asm) (by assumption)) (fun hg09q => ?_) (fun v'9q t'9q hg19q => ?_)))))
  (k_with "k_room" => (k_extra "rm"))
  (k_with "subscriptTail" => (k_here; (with_reducible show wpAny _ _ (subscriptTail _ _ (Value.ref _) (Value.str _ _)) _ _ _); k_dflt (refine sd_item (SDict.base (by k_asm) (by assumption)) (by assumption) ?_); intro t'9q))
  (k_with "call ref" => (k_here; (with_reducible show wpAny _ _ (call (Value.ref _) _) _ _ _); (try k_fold); k_dflt (refine' spec_use0 ?S ?k1 ?k2 ?k3 ?k4 ?k5 ?kK ?kP ?kd ?ku ?_; (case S => assumption); (case k1 => first | k_asm | exact topb_of rfl rfl (by k_asm)); (case k2 => k_asm); (case k3 => k_asm); (case k4 => k_asm); (case k5 => k_asm); (case kK => exact rfl); (case kP => first | exact trivial | exact ElOf.base (by k_asm) (by assumption)); (case kd => (k_extra "rm")); (case ku => (k_extra "un"))); intro r'9q tl'9q h'9q tk'9q F'9q N'9q fr'9q st'9q hR'9q; (try dsimp only at hR'9q)))
  (k_with "k_mem" => ((show _ ∈ (_ ++ _ : List (Addr × Obj))); first | (refine List.mem_append_right _ ?_; k_mem) | (refine List.mem_append_left _ ?_; k_mem)))
  (k_with "call builtin:dict.get" => (k_here; (with_reducible show wpAny _ _ (call (Value.builtin "dict.get") [Value.ref _, Value.str _ _, Value.str _ _]) _ _ _); k_dflt (refine sd_get2L (SDict.base (by k_asm) (by assumption)) (by first | assumption | decide) ?_); intro t'9q hlen'9q))
  (k_with "exec For Name Name cons nil" => (k_here; (with_reducible show wpAny _ _ (exec (Stmt.For _ _ _ [] _) _) _ _ _); k_strName; (rename Fr _ _ _ _ => lF'); (with_unfolding_all refine' For_invVF lF' ?k1 ?k2 ?_; (case k1 => exact rfl); (case k2 => exact rfl); k_whole); k_dflt (refine ld lF' (by rfl) ?_); k_strUnr))
  (k_with "call builtin:str.index" => (k_here; k_dflt (first
  | refine index_at 0 (by decide +kernel) (by decide) rfl ?_
  | refine index_at 2 (by decide +kernel) (by decide) rfl ?_
  | refine index_at 3 (by decide +kernel) (by decide) rfl ?_
  | refine index_at 4 (by decide +kernel) (by decide) rfl ?_
  | refine index_at 5 (by decide +kernel) (by decide) rfl ?_)))
  unfold Spec
  k_fill
  intro dp un gd cn cs a' ccd cl' outer A₀ base h₀ L m s Q E B F X N T hk hP hd hu hret
  clear hP
  refine wpAny_call ?_
  k_dflt ktr_enter
  first | refine (let ak : Around := _; let nk : Env := _; let sg9 : Array GenState := _; let sd9 : Drawn := _; let so9 : OsState := _; (?_ : wpAny _ ak (execs _ nk) _ _ (Shared.mk _ sg9 sd9 _ so9))) | refine (let ak : Around := _; let nk : Env := _; (?_ : wpAny _ ak (execs _ nk) _ _ _))
  try (have TB9 : TopB ak _ _ (dp + 1) (un + 3) := topb_of rfl rfl (by assumption))
  try (have FE9 : FnE nk L'9q := ⟨rfl, rfl, rfl⟩)
  try (rename Fr _ _ _ (fun y => List.lookup y (List.reverse _)) => FX9; replace FX9 := fr_binds [(Str.ofString "digits", (.str x tt : Value))] rfl FX9)
  rename Stood _ _ _ => st
  k_extra "gn"; (rcases hx with ⟨rfl, rfl⟩ | ⟨rfl, rfl⟩ | ⟨rfl, rfl⟩ | ⟨rfl, rfl⟩) <;> k_unfold
  all_goals (k_extra "st")
  all_goals exact spec_ret0 hret st (by assumption) (by assumption) (by assumption) (by assumption) [] (fun _ h => nomatch h) ⟨_, rfl⟩
noncomputable abbrev TupI (news : List (Addr × Obj)) (l : Addr) (a b : Int) : Prop := ∃ n t1 t2, (l, ({ cls := .type "tuple", data := .seq #[.int a t1, .int b t2] n } : Obj)) ∈ news
theorem tupR_mk {tl : List (Addr × Obj)} {l : Addr} {a b : Int} {n : Nat} {t1 t2 : Tok} (h : (l, ({ cls := .type "tuple", data := .seq #[.int a t1, .int b t2] n } : Obj)) ∈ tl) : ∃ l', Value.ref l = .ref l' ∧ TupI tl l' a b := ⟨l, rfl, n, t1, t2, h⟩
noncomputable def GcdOk (a b g : Int) : Prop := (a = 0 ∧ b = 1 ∧ g = 1) ∨ (a = 3 ∧ b = 1 ∧ g = 1) ∨ (a = -2 ∧ b = 1 ∧ g = 1) ∨ (a = 45 ∧ b = 10 ∧ g = 5) ∨ (a = 9 ∧ b = 2 ∧ g = 1)
theorem gcd_spec (w : World) (mean : ExcName → Option Value) (mg mb : Str → Option Value) (ta tb : Tok) (a b g : Int) (hx : GcdOk a b g) :
  Spec w mean mg mb 99 [.int a ta, .int b tb] [] 2 (fun h => True) (fun r _ tl => ∃ t, r = .int g t) := by
  k_with_none
  w_top off
  (k_with "an" => (first | assumption | exact And.left (by assumption) | exact And.left (And.right (by assumption)) | exact And.left (And.right (And.right (by assumption))) | exact And.left (And.right (And.right (And.right (by assumption)))) | exact And.left (And.right (And.right (And.right (And.right (by assumption))))) | exact And.left (And.right (And.right (And.right (And.right (And.right (by assumption)))))) | exact And.left (And.right (And.right (And.right (And.right (And.right (And.right (by assumption))))))) | exact And.left (And.right (And.right (And.right (And.right (And.right (And.right (And.right (by assumption)))))))) | exact And.left (And.right (And.right (And.right (And.right (And.right (And.right (And.right (And.right (by assumption)))))))))))
  (k_with "k_ne" => (refine neN ?_; (try dsimp only); first | (refine Nat.ne_of_lt ?_; k_extra "an") | (refine Nat.ne_of_gt ?_; k_extra "an")))
  (k_with "sub" => (first | assumption | (refine List.mem_append_left _ ?_; k_extra "sub") | (refine List.mem_append_right _ ?_; k_extra "sub") | (refine List.Mem.tail _ ?_; k_extra "sub")))
  (k_with "rm" => (first | exact room_of 1 rfl (by assumption) rfl | exact room_of 0 rfl (by assumption) rfl | exact room_of1 1 rfl (by assumption) rfl | exact room_of1 0 rfl (by assumption) rfl | ktr_room))
  (k_with "un" => (first | exact units_of 3 rfl (by assumption) rfl | exact units_of 4 rfl (by assumption) rfl | exact units_of 0 rfl (by assumption) rfl | ktr_units))
  (k_with "st" => (repeat' (first | ((with_reducible show wpAny _ _ (PySem.exec _ _) _ _ _); k_fold) | ((fail_if_success (fail_if_success k_unfold)); (show wpAny _ _ _ _ _ _); (try dsimp only)) | (k_unfold; (try dsimp only)) | (k_end; wrow_close) | walk1 | (dsimp only; walk1) | (leave1; walk_say "STEP leave1"; try dsimp only) | fail "no step")))
  (k_with "D" => try ((with_reducible show wpAny _ _ _ _ _ (Shared.mk (Shared.heap _) _ _ _ _)); dsimp only))
  (k_with "E0" => ((case F => k_asm); (case V => first | assumption | exact ⟨rfl, rfl, rfl⟩)))
  (k_with "E" => (k_extra "E0"; (case e => exact rfl)))
  (k_with "S" => (intro h'8q tk'8q F'8q N'8q; (try k_sweep)))
  (k_with "A" => (intro l'8q h'8q F'8q N'8q l18q; (try k_lt l18q); (try k_sweep)))
  (k_with "spliced" => (k_here; k_extra "D"; k_dflt (first | ((with_reducible refine' s_args ?V ?F ?e ?_); k_extra "E"; k_whole; (try dsimp only [List.cons_append, List.nil_append])))))
  (k_with "evalPairs" => (k_here; k_extra "D"; k_dflt (first | ((with_reducible refine' s_pair ?V ?F ?e ?f ?_); k_extra "E"; (case f => exact rfl); k_whole))))
  (k_with "eval BinOp" => (k_here; k_extra "D"; k_dflt (first | ((with_reducible refine' s_bin ?V ?F ?e ?f ?_); k_extra "E"; (case f => exact rfl); k_whole) | ((with_reducible refine' s_binL ?V ?F ?e ?_); k_extra "E"; k_whole))))
  (k_with "isTrue Compare" => (k_here; k_extra "D"; k_dflt (first | ((with_reducible refine' s_cmp ?V ?F ?e ?f ?h ?_); k_extra "E"; (case f => exact rfl); (case h => with_unfolding_all rfl); k_whole) | ((with_reducible refine' s_cmpL ?V ?F ?e ?h ?_); k_extra "E"; (case h => with_unfolding_all rfl); k_whole))))
  (k_with "eval Subscript" => (k_here; k_extra "D"; k_dflt (first | ((with_reducible refine' s_sub ?V ?F ?e ?f ?_); k_extra "E"; (case f => exact rfl); k_whole) | ((with_reducible refine' s_subL ?V ?F ?e ?_); k_extra "E"; k_whole))))
  (k_with "eval List" => (k_here; k_extra "D"; k_dflt (first | ((with_reducible refine' s_list ?V ?F ?e ?_); k_extra "E"; k_whole))))
  (k_with "eval Tuple" => (k_here; k_extra "D"; k_dflt (first | ((with_reducible refine' s_tuple ?V ?F ?e ?_); k_extra "E"; k_whole))))
  (k_with "exec Return some" => (k_here; k_extra "D"; k_dflt (first | ((with_reducible refine' s_ret ?V ?F ?e ?_); k_extra "E"; k_whole))))
  (k_with "eval Attribute Name" => (k_here; k_extra "D"; k_dflt (first | ((with_reducible refine' s_attr ?V ?F ?e ?_ ?h); k_extra "E"; (case h => with_unfolding_all rfl); k_whole))))
  (k_with "execs cons" => (k_here; k_extra "D"; k_dflt (first | k_gentoks | ((with_reducible refine' c_asgS ?V ?F ?N ?e ?x ?_ ?h); k_extra "E"; (case N => k_asm); (case x => exact rfl); (case h => exact rfl); k_whole; k_extra "S") | ((with_reducible refine' c_asg ?_ ?h); (case h => exact rfl); k_whole; (try refine (let qk8q : Value → Shared → Prop := _; (?_ : wpAny _ _ _ qk8q _ _)))) | ((with_reducible refine' c_retS ?V ?F ?e ?_); k_extra "E"; k_whole) | (with_reducible refine c_ret ?_))))
  (k_with "storeName" => (k_here; k_extra "D"; k_dflt (first | ((with_reducible refine' c_store ?V ?F ?N ?x ?_); k_extra "E0"; (case N => k_asm); (case x => exact rfl); k_whole; k_extra "S"))))
  (k_with "newList" => (k_here; k_extra "D"; k_dflt (first | ((with_reducible refine' c_newList ?F ?N ?_ ?z); (case F => k_asm); (case N => k_asm); (case z => size_fits); k_extra "A"))))
  (k_with "newTuple" => (k_here; k_extra "D"; k_dflt (first | ((with_reducible refine' c_newTuple ?F ?N ?_ ?z); (case F => k_asm); (case N => k_asm); (case z => kmk_size); k_extra "A"))))
  (k_with "binaryOp Mult int int" => (k_here; k_extra "D"; k_dflt (first | ((with_reducible refine' c_mul ?_ ?z); (case z => mul_fits)))))
  (k_with "binaryOp Add int int" => (k_here; k_extra "D"; k_dflt (first | (with_reducible refine c_add ?_))))
  (k_with "binaryOp Sub int int" => (k_here; k_extra "D"; k_dflt (first | (with_reducible refine c_sub ?_))))
  (k_with "unaryOp USub int" => (k_here; k_extra "D"; k_dflt (first | (with_reducible refine c_neg ?_))))
  (k_with "callWith ref" => (k_here; k_extra "D"; k_dflt (first | ((with_reducible refine' s_with ?V ?F ?X ?k ?e ?_); k_extra "E"; (case X => k_asm); (case k => k_is); k_whole))))
  (k_with "eval Call" => (k_here; k_extra "D"; k_dflt (first | ((with_reducible refine' s_call ?V ?F ?X ?T ?n ?x ?d ?k ?e ?_ ?h); k_extra "E"; (case x => exact rfl); (case X => k_asm); (case T => k_asm); (case d => decide); (case n => k_is); (case k => k_is); (case h => exact rfl); k_whole))))
  (k_with "eval Name" => (k_here; k_extra "D"; k_dflt (first | ((with_reducible refine' s_val ?V ?F ?e ?_); k_extra "E"; k_whole))))
  (k_with "ktr_enter" => first
  | (refine' codeG ?k1 ?k2 ?k3 ?k4 ?k5 ?kA ?kF ?kK ?k6 ?k7 ?k8 ?k9 ?kB ?_ ?c2 ?c3 ?c4 ?c5; (case kA => exact rfl); (case kF => exact rfl); (case kK => assumption); (case k1 => first | k_asm | exact topb_of rfl rfl (by k_asm)); (case k2 => k_asm); (case k3 => k_asm); (case k4 => k_asm); (case k5 => k_asm); (case k6 => k_is); (case k7 => k_is); (case k8 => (k_extra "rm")); (case k9 => first | exact BindsTo.of_eq rfl | exact binds_K (by k_in) rfl (by k_is) rfl rfl rfl); (case c5 => decide); (case kB => exact locs rfl); (case c2 => exact rfl); (case c3 => exact rfl); (case c4 => exact rfl); k_whole; intro g'9q L'9q h'9q tk'9q st'9q FG'9q F'9q N'9q B'9q X'9q T'9q l1'9q; (try dsimp only); (try k_fold)))
  (k_with "k_inst" => exact inst_base (by k_asm) (by assumption) (by assumption))
  (k_with "getMethod ref" => (k_here; (with_reducible show wpAny _ _ (getMethod (Value.ref _) (Str.ofString "get") _) _ _ _); k_dflt (refine sd_method (SDict.base (by k_asm) (by assumption)) ?_)))
  (k_with "call builtin:dict.get" => (k_here; (with_reducible show wpAny _ _ (call (Value.builtin "dict.get") [Value.ref _, Value.str _ _]) _ _ _); k_dflt (first
  | (refine sd_get1s (SDict.base (by k_asm) (by assumption)) (by assumption) ?_; intro t'9q)
  | (refine sd_get1n (SDict.base (by k_asm) (by assumption)) (by assumption) ?_)
  | (refine sd_get1 (SDict.base (by k_asm) (by assumption)) (fun hg09q => ?_) (fun v'9q t'9q hg19q => ?_)))))
  (k_with "k_room" => (k_extra "rm"))
  (k_with "subscriptTail" => (k_here; (with_reducible show wpAny _ _ (subscriptTail _ _ (Value.ref _) (Value.str _ _)) _ _ _); k_dflt (refine sd_item (SDict.base (by k_asm) (by assumption)) (by assumption) ?_); intro t'9q))
  (k_with "call ref" => (k_here; (with_reducible show wpAny _ _ (call (Value.ref _) _) _ _ _); (try k_fold); k_dflt (refine' spec_use0 ?S ?k1 ?k2 ?k3 ?k4 ?k5 ?kK ?kP ?kd ?ku ?_; (case S => assumption); (case k1 => first | k_asm | exact topb_of rfl rfl (by k_asm)); (case k2 => k_asm); (case k3 => k_asm); (case k4 => k_asm); (case k5 => k_asm); (case kK => exact rfl); (case kP => first | exact trivial | exact ElOf.base (by k_asm) (by assumption)); (case kd => (k_extra "rm")); (case ku => (k_extra "un"))); intro r'9q tl'9q h'9q tk'9q F'9q N'9q fr'9q st'9q hR'9q; (try dsimp only at hR'9q)))
  (k_with "k_mem" => ((show _ ∈ (_ ++ _ : List (Addr × Obj))); first | (refine List.mem_append_right _ ?_; k_mem) | (refine List.mem_append_left _ ?_; k_mem)))
  (k_with "call builtin:dict.get" => (k_here; (with_reducible show wpAny _ _ (call (Value.builtin "dict.get") [Value.ref _, Value.str _ _, Value.str _ _]) _ _ _); k_dflt (refine sd_get2L (SDict.base (by k_asm) (by assumption)) (by first | assumption | decide) ?_); intro t'9q hlen'9q))
  unfold Spec
  k_fill
  intro dp un gd cn cs a' ccd cl' outer A₀ base h₀ L m s Q E B F X N T hk hP hd hu hret
  clear hP
  refine wpAny_call ?_
  k_dflt ktr_enter
  first | refine (let ak : Around := _; let nk : Env := _; let sg9 : Array GenState := _; let sd9 : Drawn := _; let so9 : OsState := _; (?_ : wpAny _ ak (execs _ nk) _ _ (Shared.mk _ sg9 sd9 _ so9))) | refine (let ak : Around := _; let nk : Env := _; (?_ : wpAny _ ak (execs _ nk) _ _ _))
  try (have TB9 : TopB ak _ _ (dp + 1) (un + 3) := topb_of rfl rfl (by assumption))
  try (have FE9 : FnE nk L'9q := ⟨rfl, rfl, rfl⟩)
  try (rename Fr _ _ _ (fun y => List.lookup y (List.reverse _)) => FX9; replace FX9 := fr_binds [(Str.ofString "one", (.int a ta : Value)), (Str.ofString "other", (.int b tb : Value))] rfl FX9)
  rename Stood _ _ _ => st
  rcases hx with ⟨rfl, rfl, rfl⟩ | ⟨rfl, rfl, rfl⟩ | ⟨rfl, rfl, rfl⟩ | ⟨rfl, rfl, rfl⟩ | ⟨rfl, rfl, rfl⟩
  all_goals (k_extra "st")
  all_goals exact spec_ret0 hret st (by assumption) (by assumption) (by assumption) (by assumption) [] (fun _ h => nomatch h) ⟨_, rfl⟩
section
variable {prog : Program} {w : World} {A : Around} {E : Value → Shared → Prop} {s : Shared} {x y : Int} {t u : Tok} {Q : Value → Shared → Prop}
theorem eqi_dec (b : Bool) (e : (x == y) = b) (h : Q (.bool b) s) : wpAny (model prog w) A (compareOp .Eq (.int x t) (.int y u)) Q E s := PyProof.Rows.eq_int (e ▸ h)
theorem lti_dec (b : Bool) (e : decide (x < y) = b) (h : Q (.bool b) s) : wpAny (model prog w) A (compareOp .Lt (.int x t) (.int y u)) Q E s := PyProof.Rows.lt_int (e ▸ h)
theorem fdiv_dec (z : Int) (hy : (y == 0) = false) (e : x.fdiv y = z) (hp : Builtin.divisionGoesByPylong x y = false) (h : Q (.int z s.toks) { s with toks := s.toks + 1 }) : wpAny (model prog w) A (binaryOp .FloorDiv (.int x t) (.int y u)) Q E s := PyProof.Rows.floordiv_int (by intro q; rw [q] at hy; exact absurd hy (by decide)) (e ▸ h) (.inl hp)
end
theorem frac_spec (w : World) (mean : ExcName → Option Value) (mg mb : Str → Option Value) (ta tb : Tok) (a b c d : Int) (hx : (a = 0 ∧ b = 1 ∧ c = 0 ∧ d = 1) ∨ (a = 3 ∧ b = 1 ∧ c = 3 ∧ d = 1) ∨ (a = -2 ∧ b = 1 ∧ c = -2 ∧ d = 1) ∨ (a = 45 ∧ b = 10 ∧ c = 9 ∧ d = 2) ∨ (a = 9 ∧ b = 2 ∧ c = 9 ∧ d = 2)) :
  Spec w mean mg mb 107 [.int a ta, .int b tb] [] 3 (fun h => True) (fun r _ tl => ∃ l, r = .ref l ∧ TupI tl l c d) := by
  (k_with "compareOp Eq int int" => (k_here; (fail_if_success (with_reducible show wpAny _ _ (compareOp CmpOp.Eq (Value.int (Int.ofNat _) _) _) _ _ _)); k_dflt (refine eqi_dec false (by assumption) ?_)))
  (k_with "compareOp Lt int int" => (k_here; k_dflt (refine lti_dec false (by assumption) ?_)))
  (k_with "binaryOp FloorDiv int int" => (k_here; k_dflt (refine fdiv_dec _ (by assumption) (by assumption) (by assumption) ?_)))
  (k_with "call ref" => (k_here; (with_reducible show wpAny _ _ (call (Value.ref 99) _) _ _ _); (try k_fold); k_dflt ((refine' use_int (gcd_spec _ _ _ _ _ _ _ _ _ (by assumption)) ?k1 ?k2 ?k3 ?k4 ?k5 ?kK ?kP ?kd ?ku ?_; (case k1 => first | k_asm | exact topb_of rfl rfl (by k_asm)); (case k2 => k_asm); (case k3 => k_asm); (case k4 => k_asm); (case k5 => k_asm); (case kK => exact rfl); (case kP => (exact trivial)); (case kd => (k_extra "rm")); (case ku => (k_extra "un")))); intro tw'9q h'9q tk'9q F'9q N'9q; (try dsimp only)))
  obtain ⟨g, hg, hb0, hbl, hg0, hc, hd0, hp1, hp2⟩ : ∃ g, GcdOk a b g ∧ (b == 0) = false ∧ decide (b < 0) = false ∧ (g == 0) = false ∧ a.fdiv g = c ∧ b.fdiv g = d ∧ Builtin.divisionGoesByPylong a g = false ∧ Builtin.divisionGoesByPylong b g = false := by
    rcases hx with ⟨rfl, rfl, rfl, rfl⟩ | ⟨rfl, rfl, rfl, rfl⟩ | ⟨rfl, rfl, rfl, rfl⟩ | ⟨rfl, rfl, rfl, rfl⟩ | ⟨rfl, rfl, rfl, rfl⟩
    · exact ⟨1, .inl ⟨rfl, rfl, rfl⟩, rfl, rfl, rfl, rfl, rfl, PyProof.noPylong_of_log2 (by decide +kernel), PyProof.noPylong_of_log2 (by decide +kernel)⟩
    · exact ⟨1, .inr (.inl ⟨rfl, rfl, rfl⟩), rfl, rfl, rfl, rfl, rfl, PyProof.noPylong_of_log2 (by decide +kernel), PyProof.noPylong_of_log2 (by decide +kernel)⟩
    · exact ⟨1, .inr (.inr (.inl ⟨rfl, rfl, rfl⟩)), rfl, rfl, rfl, rfl, rfl, PyProof.noPylong_of_log2 (by decide +kernel), PyProof.noPylong_of_log2 (by decide +kernel)⟩
    · exact ⟨5, .inr (.inr (.inr (.inl ⟨rfl, rfl, rfl⟩))), rfl, rfl, rfl, rfl, rfl, PyProof.noPylong_of_log2 (by decide +kernel), PyProof.noPylong_of_log2 (by decide +kernel)⟩
    · exact ⟨1, .inr (.inr (.inr (.inr ⟨rfl, rfl, rfl⟩))), rfl, rfl, rfl, rfl, rfl, PyProof.noPylong_of_log2 (by decide +kernel), PyProof.noPylong_of_log2 (by decide +kernel)⟩
  clear hx
  unfold Spec
  k_fill
  intro dp un gd cn cs a' ccd cl' outer A₀ base h₀ L m s Q E B F X N T hk hP hd hu hret
  clear hP
  refine wpAny_call ?_
  k_dflt ktr_enter
  first | refine (let ak : Around := _; let nk : Env := _; let sg9 : Array GenState := _; let sd9 : Drawn := _; let so9 : OsState := _; (?_ : wpAny _ ak (execs _ nk) _ _ (Shared.mk _ sg9 sd9 _ so9))) | refine (let ak : Around := _; let nk : Env := _; (?_ : wpAny _ ak (execs _ nk) _ _ _))
  try (have TB9 : TopB ak _ _ (dp + 1) (un + 3) := topb_of rfl rfl (by assumption))
  try (have FE9 : FnE nk L'9q := ⟨rfl, rfl, rfl⟩)
  try (rename Fr _ _ _ (fun y => List.lookup y (List.reverse _)) => FX9; replace FX9 := fr_binds [(Str.ofString "top", (.int a ta : Value)), (Str.ofString "bottom", (.int b tb : Value))] rfl FX9)
  rename Stood _ _ _ => st
  (k_extra "st")
  all_goals exact spec_ret0 hret st (by assumption) (by assumption) (by assumption) (by assumption) _ (by exact fun _ h => h) (tupR_mk (by k_mem))
theorem news_one {h₀ h : Heap} {L : Addr} {q : Addr × Obj} {tl news : List (Addr × Obj)} (N : News h₀ L h (tl ++ news)) (m : q ∈ tl) : News h₀ L h (q :: news) := fun p hp => by
  rcases List.mem_cons.mp hp with rfl | hp
  · exact N _ (List.mem_append_left _ m)
  · exact N p (List.mem_append_right _ hp)
noncomputable abbrev tupI (a b : Int) (t1 t2 : Tok) (n : Nat) : Obj := { cls := .type "tuple", data := .seq #[.int a t1, .int b t2] n }
noncomputable abbrev TupH (h : Heap) (l : Addr) (a b : Int) : Prop := ∃ n t1 t2, h.get? l = some (tupI a b t1 t2 n)
theorem tupH_mk {h : Heap} {l : Addr} {a b : Int} {t1 t2 : Tok} {n : Nat} (e : h.get? l = some (tupI a b t1 t2 n)) : TupH h l a b := ⟨n, t1, t2, e⟩
theorem tup_base {g h : Heap} {L la : Addr} {m : Str → Option Value} {a b : Int} {t1 t2 : Tok} {n : Nat} (F : Fr g L h m) (hg : g.get? la = some (tupI a b t1 t2 n)) : IsTup h la [Value.int a t1, Value.int b t2].toArray := ⟨_, F.keep _ _ hg, rfl, _, rfl⟩
theorem times_spec (w : World) (mean : ExcName → Option Value) (mg mb : Str → Option Value) (la lb : Addr) (a b : Int) (hx : (a = 0 ∧ b = 1) ∨ (a = 3 ∧ b = 1) ∨ (a = -2 ∧ b = 1) ∨ (a = 9 ∧ b = 2)) :
  Spec w mean mg mb 114 [.ref la, .ref lb] [] 4 (fun h => TupH h la a b ∧ TupH h lb 1 1) (fun r _ tl => ∃ l, r = .ref l ∧ TupI tl l a b) := by
  k_with_none
  w_top off
  (k_with "an" => (first | assumption | exact And.left (by assumption) | exact And.left (And.right (by assumption)) | exact And.left (And.right (And.right (by assumption))) | exact And.left (And.right (And.right (And.right (by assumption)))) | exact And.left (And.right (And.right (And.right (And.right (by assumption))))) | exact And.left (And.right (And.right (And.right (And.right (And.right (by assumption)))))) | exact And.left (And.right (And.right (And.right (And.right (And.right (And.right (by assumption))))))) | exact And.left (And.right (And.right (And.right (And.right (And.right (And.right (And.right (by assumption)))))))) | exact And.left (And.right (And.right (And.right (And.right (And.right (And.right (And.right (And.right (by assumption)))))))))))
  (k_with "k_ne" => (refine neN ?_; (try dsimp only); first | (refine Nat.ne_of_lt ?_; k_extra "an") | (refine Nat.ne_of_gt ?_; k_extra "an")))
  (k_with "sub" => (first | assumption | (refine List.mem_append_left _ ?_; k_extra "sub") | (refine List.mem_append_right _ ?_; k_extra "sub") | (refine List.Mem.tail _ ?_; k_extra "sub")))
  (k_with "rm" => (first | exact room_of 1 rfl (by assumption) rfl | exact room_of 0 rfl (by assumption) rfl | exact room_of1 1 rfl (by assumption) rfl | exact room_of1 0 rfl (by assumption) rfl | ktr_room))
  (k_with "un" => (first | exact units_of 3 rfl (by assumption) rfl | exact units_of 4 rfl (by assumption) rfl | exact units_of 0 rfl (by assumption) rfl | ktr_units))
  (k_with "gn" => refine (let P9 : Prop := _; (?_ : P9)))
  (k_with "st" => (repeat' (first | ((with_reducible show wpAny _ _ (PySem.exec _ _) _ _ _); k_fold) | ((fail_if_success (fail_if_success k_unfold)); (show wpAny _ _ _ _ _ _); (try dsimp only)) | (k_unfold; (try dsimp only)) | (k_end; wrow_close) | walk1 | (dsimp only; walk1) | (leave1; walk_say "STEP leave1"; try dsimp only) | fail "no step")))
  (k_with "D" => try ((with_reducible show wpAny _ _ _ _ _ (Shared.mk (Shared.heap _) _ _ _ _)); dsimp only))
  (k_with "E0" => ((case F => k_asm); (case V => first | assumption | exact ⟨rfl, rfl, rfl⟩)))
  (k_with "E" => (k_extra "E0"; (case e => exact rfl)))
  (k_with "S" => (intro h'8q tk'8q F'8q N'8q; (try k_sweep)))
  (k_with "A" => (intro l'8q h'8q F'8q N'8q l18q; (try k_lt l18q); (try k_sweep)))
  (k_with "spliced" => (k_here; k_extra "D"; k_dflt (first | ((with_reducible refine' s_args ?V ?F ?e ?_); k_extra "E"; k_whole; (try dsimp only [List.cons_append, List.nil_append])))))
  (k_with "evalPairs" => (k_here; k_extra "D"; k_dflt (first | ((with_reducible refine' s_pair ?V ?F ?e ?f ?_); k_extra "E"; (case f => exact rfl); k_whole))))
  (k_with "eval BinOp" => (k_here; k_extra "D"; k_dflt (first | ((with_reducible refine' s_bin ?V ?F ?e ?f ?_); k_extra "E"; (case f => exact rfl); k_whole) | ((with_reducible refine' s_binL ?V ?F ?e ?_); k_extra "E"; k_whole))))
  (k_with "isTrue Compare" => (k_here; k_extra "D"; k_dflt (first | ((with_reducible refine' s_cmp ?V ?F ?e ?f ?h ?_); k_extra "E"; (case f => exact rfl); (case h => with_unfolding_all rfl); k_whole) | ((with_reducible refine' s_cmpL ?V ?F ?e ?h ?_); k_extra "E"; (case h => with_unfolding_all rfl); k_whole))))
  (k_with "eval Subscript" => (k_here; k_extra "D"; k_dflt (first | ((with_reducible refine' s_sub ?V ?F ?e ?f ?_); k_extra "E"; (case f => exact rfl); k_whole) | ((with_reducible refine' s_subL ?V ?F ?e ?_); k_extra "E"; k_whole))))
  (k_with "eval List" => (k_here; k_extra "D"; k_dflt (first | ((with_reducible refine' s_list ?V ?F ?e ?_); k_extra "E"; k_whole))))
  (k_with "eval Tuple" => (k_here; k_extra "D"; k_dflt (first | ((with_reducible refine' s_tuple ?V ?F ?e ?_); k_extra "E"; k_whole))))
  (k_with "exec Return some" => (k_here; k_extra "D"; k_dflt (first | ((with_reducible refine' s_ret ?V ?F ?e ?_); k_extra "E"; k_whole))))
  (k_with "eval Attribute Name" => (k_here; k_extra "D"; k_dflt (first | ((with_reducible refine' s_attr ?V ?F ?e ?_ ?h); k_extra "E"; (case h => with_unfolding_all rfl); k_whole))))
  (k_with "execs cons" => (k_here; k_extra "D"; k_dflt (first | k_gentoks | ((with_reducible refine' c_asgS ?V ?F ?N ?e ?x ?_ ?h); k_extra "E"; (case N => k_asm); (case x => exact rfl); (case h => exact rfl); k_whole; k_extra "S") | ((with_reducible refine' c_asg ?_ ?h); (case h => exact rfl); k_whole; (try refine (let qk8q : Value → Shared → Prop := _; (?_ : wpAny _ _ _ qk8q _ _)))) | ((with_reducible refine' c_retS ?V ?F ?e ?_); k_extra "E"; k_whole) | (with_reducible refine c_ret ?_))))
  (k_with "storeName" => (k_here; k_extra "D"; k_dflt (first | ((with_reducible refine' c_store ?V ?F ?N ?x ?_); k_extra "E0"; (case N => k_asm); (case x => exact rfl); k_whole; k_extra "S"))))
  (k_with "newList" => (k_here; k_extra "D"; k_dflt (first | ((with_reducible refine' c_newList ?F ?N ?_ ?z); (case F => k_asm); (case N => k_asm); (case z => size_fits); k_extra "A"))))
  (k_with "newTuple" => (k_here; k_extra "D"; k_dflt (first | ((with_reducible refine' c_newTuple ?F ?N ?_ ?z); (case F => k_asm); (case N => k_asm); (case z => kmk_size); k_extra "A"))))
  (k_with "binaryOp Mult int int" => (k_here; k_extra "D"; k_dflt (first | ((with_reducible refine' c_mul ?_ ?z); (case z => mul_fits)))))
  (k_with "binaryOp Add int int" => (k_here; k_extra "D"; k_dflt (first | (with_reducible refine c_add ?_))))
  (k_with "binaryOp Sub int int" => (k_here; k_extra "D"; k_dflt (first | (with_reducible refine c_sub ?_))))
  (k_with "unaryOp USub int" => (k_here; k_extra "D"; k_dflt (first | (with_reducible refine c_neg ?_))))
  (k_with "callWith ref" => (k_here; k_extra "D"; k_dflt (first | ((with_reducible refine' s_with ?V ?F ?X ?k ?e ?_); k_extra "E"; (case X => k_asm); (case k => k_is); k_whole))))
  (k_with "eval Call" => (k_here; k_extra "D"; k_dflt (first | ((with_reducible refine' s_call ?V ?F ?X ?T ?n ?x ?d ?k ?e ?_ ?h); k_extra "E"; (case x => exact rfl); (case X => k_asm); (case T => k_asm); (case d => decide); (case n => k_is); (case k => k_is); (case h => exact rfl); k_whole))))
  (k_with "eval Name" => (k_here; k_extra "D"; k_dflt (first | ((with_reducible refine' s_val ?V ?F ?e ?_); k_extra "E"; k_whole))))
  (k_with "ktr_enter" => first
  | (refine' codeG ?k1 ?k2 ?k3 ?k4 ?k5 ?kA ?kF ?kK ?k6 ?k7 ?k8 ?k9 ?kB ?_ ?c2 ?c3 ?c4 ?c5; (case kA => exact rfl); (case kF => exact rfl); (case kK => assumption); (case k1 => first | k_asm | exact topb_of rfl rfl (by k_asm)); (case k2 => k_asm); (case k3 => k_asm); (case k4 => k_asm); (case k5 => k_asm); (case k6 => k_is); (case k7 => k_is); (case k8 => (k_extra "rm")); (case k9 => first | exact BindsTo.of_eq rfl | exact binds_K (by k_in) rfl (by k_is) rfl rfl rfl); (case c5 => decide); (case kB => exact locs rfl); (case c2 => exact rfl); (case c3 => exact rfl); (case c4 => exact rfl); k_whole; intro g'9q L'9q h'9q tk'9q st'9q FG'9q F'9q N'9q B'9q X'9q T'9q l1'9q; (try dsimp only); (try k_fold)))
  (k_with "k_inst" => exact inst_base (by k_asm) (by assumption) (by assumption))
  (k_with "getMethod ref" => (k_here; (with_reducible show wpAny _ _ (getMethod (Value.ref _) (Str.ofString "get") _) _ _ _); k_dflt (refine sd_method (SDict.base (by k_asm) (by assumption)) ?_)))
  (k_with "call builtin:dict.get" => (k_here; (with_reducible show wpAny _ _ (call (Value.builtin "dict.get") [Value.ref _, Value.str _ _]) _ _ _); k_dflt (first
  | (refine sd_get1s (SDict.base (by k_asm) (by assumption)) (by assumption) ?_; intro t'9q)
  | (refine sd_get1n (SDict.base (by k_asm) (by assumption)) (by assumption) ?_)
  | (refine sd_get1 (SDict.base (by k_asm) (by assumption)) (fun hg09q => ?_) (fun v'9q t'9q hg19q => ?_)))))
  (k_with "k_room" => (k_extra "rm"))
  (k_with "subscriptTail" => (k_here; (with_reducible show wpAny _ _ (subscriptTail _ _ (Value.ref _) (Value.str _ _)) _ _ _); k_dflt (refine sd_item (SDict.base (by k_asm) (by assumption)) (by assumption) ?_); intro t'9q))
  (k_with "call ref" => (k_here; (with_reducible show wpAny _ _ (call (Value.ref _) _) _ _ _); (try k_fold); k_dflt (refine' spec_use0 ?S ?k1 ?k2 ?k3 ?k4 ?k5 ?kK ?kP ?kd ?ku ?_; (case S => assumption); (case k1 => first | k_asm | exact topb_of rfl rfl (by k_asm)); (case k2 => k_asm); (case k3 => k_asm); (case k4 => k_asm); (case k5 => k_asm); (case kK => exact rfl); (case kP => first | exact trivial | exact ElOf.base (by k_asm) (by assumption)); (case kd => (k_extra "rm")); (case ku => (k_extra "un"))); intro r'9q tl'9q h'9q tk'9q F'9q N'9q fr'9q st'9q hR'9q; (try dsimp only at hR'9q)))
  (k_with "k_mem" => ((show _ ∈ (_ ++ _ : List (Addr × Obj))); first | (refine List.mem_append_right _ ?_; k_mem) | (refine List.mem_append_left _ ?_; k_mem)))
  (k_with "call builtin:dict.get" => (k_here; (with_reducible show wpAny _ _ (call (Value.builtin "dict.get") [Value.ref _, Value.str _ _, Value.str _ _]) _ _ _); k_dflt (refine sd_get2L (SDict.base (by k_asm) (by assumption)) (by first | assumption | decide) ?_); intro t'9q hlen'9q))
  (k_with "call ref" => (k_here; (with_reducible show wpAny _ _ (call (Value.ref 107) _) _ _ _); (try k_fold); k_dflt (first | (refine' use_objR (frac_spec _ _ _ _ _ _ 0 1 0 1 (.inl ⟨rfl, rfl, rfl, rfl⟩)) ?k1 ?k2 ?k3 ?k4 ?k5 ?kK ?kP ?kd ?ku ?_; (case k1 => first | k_asm | exact topb_of rfl rfl (by k_asm)); (case k2 => k_asm); (case k3 => k_asm); (case k4 => k_asm); (case k5 => k_asm); (case kK => exact rfl); (case kP => (exact trivial)); (case kd => (k_extra "rm")); (case ku => (k_extra "un"))) | (refine' use_objR (frac_spec _ _ _ _ _ _ 3 1 3 1 (.inr (.inl ⟨rfl, rfl, rfl, rfl⟩))) ?k1 ?k2 ?k3 ?k4 ?k5 ?kK ?kP ?kd ?ku ?_; (case k1 => first | k_asm | exact topb_of rfl rfl (by k_asm)); (case k2 => k_asm); (case k3 => k_asm); (case k4 => k_asm); (case k5 => k_asm); (case kK => exact rfl); (case kP => (exact trivial)); (case kd => (k_extra "rm")); (case ku => (k_extra "un"))) | (refine' use_objR (frac_spec _ _ _ _ _ _ (-2) 1 (-2) 1 (.inr (.inr (.inl ⟨rfl, rfl, rfl, rfl⟩)))) ?k1 ?k2 ?k3 ?k4 ?k5 ?kK ?kP ?kd ?ku ?_; (case k1 => first | k_asm | exact topb_of rfl rfl (by k_asm)); (case k2 => k_asm); (case k3 => k_asm); (case k4 => k_asm); (case k5 => k_asm); (case kK => exact rfl); (case kP => (exact trivial)); (case kd => (k_extra "rm")); (case ku => (k_extra "un"))) | (refine' use_objR (frac_spec _ _ _ _ _ _ 9 2 9 2 (.inr (.inr (.inr (.inr ⟨rfl, rfl, rfl, rfl⟩))))) ?k1 ?k2 ?k3 ?k4 ?k5 ?kK ?kP ?kd ?ku ?_; (case k1 => first | k_asm | exact topb_of rfl rfl (by k_asm)); (case k2 => k_asm); (case k3 => k_asm); (case k4 => k_asm); (case k5 => k_asm); (case kK => exact rfl); (case kP => (exact trivial)); (case kd => (k_extra "rm")); (case ku => (k_extra "un")))); intro l'9q n'9q t1'9q t2'9q h'9q tk'9q F'9q N'9q; (try dsimp only)))
  (k_with "subscriptTail" => (k_here; (with_reducible show wpAny _ _ (subscriptTail _ _ (Value.ref _) (Value.int _ _)) _ _ _); k_dflt (refine item_tupleT (tup_base (by k_asm) (by assumption)) (by decide) (by decide) rfl rfl ?_)))
  unfold Spec
  k_fill
  intro dp un gd cn cs a' ccd cl' outer A₀ base h₀ L m s Q E B F X N T hk hP hd hu hret
  k_extra "gn"; (obtain ⟨⟨n1, t1, t2, hP1⟩, ⟨n2, t3, t4, hP2⟩⟩ := hP) <;> k_unfold
  refine wpAny_call ?_
  k_dflt ktr_enter
  first | refine (let ak : Around := _; let nk : Env := _; let sg9 : Array GenState := _; let sd9 : Drawn := _; let so9 : OsState := _; (?_ : wpAny _ ak (execs _ nk) _ _ (Shared.mk _ sg9 sd9 _ so9))) | refine (let ak : Around := _; let nk : Env := _; (?_ : wpAny _ ak (execs _ nk) _ _ _))
  try (have TB9 : TopB ak _ _ (dp + 1) (un + 3) := topb_of rfl rfl (by assumption))
  try (have FE9 : FnE nk L'9q := ⟨rfl, rfl, rfl⟩)
  try (rename Fr _ _ _ (fun y => List.lookup y (List.reverse _)) => FX9; replace FX9 := fr_binds [(Str.ofString "a", (.ref la : Value)), (Str.ofString "b", (.ref lb : Value))] rfl FX9)
  rename Stood _ _ _ => st
  replace hP1 := st _ _ hP1 (fun h => nomatch h)
  replace hP2 := st _ _ hP2 (fun h => nomatch h)
  k_extra "gn"; (rcases hx with ⟨rfl, rfl⟩ | ⟨rfl, rfl⟩ | ⟨rfl, rfl⟩ | ⟨rfl, rfl⟩) <;> k_unfold
  all_goals (k_extra "st")
  all_goals exact spec_ret0 hret st (by assumption) (by assumption) (by assumption) (by assumption) _ (by exact fun _ h => h) (tupR_mk (by k_mem))
noncomputable def RdO (o : Obj) (x : Str) (i : Int) : Prop := ∃ h1 h2 t1 t2 tx ti, o = dictOf [⟨h1, .str (Str.ofString "text") t1, .str x tx⟩, ⟨h2, .str (Str.ofString "at") t2, .int i ti⟩] 2
theorem rdO_mk {x : Str} {i : Int} {h1 h2 : Int} {t1 t2 tx ti : Tok} : RdO (dictOf [⟨h1, .str (Str.ofString "text") t1, .str x tx⟩, ⟨h2, .str (Str.ofString "at") t2, .int i ti⟩] 2) x i := ⟨h1, h2, t1, t2, tx, ti, rfl⟩
noncomputable def OneOf (x : Str) (i : Int) (sg : Str) (b : Bool) : Prop := 0 ≤ i ∧ ((¬ i < x.length ∧ b = false) ∨ (i < x.length ∧ (!(Builtin.Str.occurrences sg (Txt.item x i) 0 sg.length 1).isEmpty) = b))
theorem inst_ledR {g h : Heap} {L x C dx : Addr} {m : Str → Option Value} {od : Obj} {news : List (Addr × Obj)} (F : Fr g L h m) (N : News g L h news) (h1 : g.get? x = some (instObj C dx)) (h2 : (dx, od) ∈ news) : InstAt h x (instObj C dx) C (some od) := ⟨F.keep _ _ h1, rfl, rfl, (N _ h2).1⟩
theorem in_dec {prog : Program} {w : World} {A : Around} {E : Value → Shared → Prop} {s : Shared} {x y : Str} {t u : Tok} {Q : Value → Shared → Prop} (b : Bool) (e : (!(Builtin.Str.occurrences x y 0 x.length 1).isEmpty) = b) (h : Q (.bool b) s) : wpAny (model prog w) A (compareOp .In (.str y u) (.str x t)) Q E s := PyProof.Rows.in_str (e ▸ h)
theorem one_of_spec (w : World) (mean : ExcName → Option Value) (mg mb : Str → Option Value) (xr dx : Addr) (x sg : Str) (tg : Tok) (i : Int) (b : Bool) (hz : x.length ≤ 4000) (hb : OneOf x i sg b) :
  Spec w mean mg mb 142 [.ref xr, .str sg tg] [] 1 (fun h => h.get? xr = some (instObj 159 dx) ∧ ∃ o, h.get? dx = some o ∧ RdO o x i) (fun r _ tl => tl = [] ∧ r = .bool b) := by
  k_with_none
  w_top off
  (k_with "an" => (first | assumption | exact And.left (by assumption) | exact And.left (And.right (by assumption)) | exact And.left (And.right (And.right (by assumption))) | exact And.left (And.right (And.right (And.right (by assumption)))) | exact And.left (And.right (And.right (And.right (And.right (by assumption))))) | exact And.left (And.right (And.right (And.right (And.right (And.right (by assumption)))))) | exact And.left (And.right (And.right (And.right (And.right (And.right (And.right (by assumption))))))) | exact And.left (And.right (And.right (And.right (And.right (And.right (And.right (And.right (by assumption)))))))) | exact And.left (And.right (And.right (And.right (And.right (And.right (And.right (And.right (And.right (by assumption)))))))))))
  (k_with "k_ne" => (refine neN ?_; (try dsimp only); first | (refine Nat.ne_of_lt ?_; k_extra "an") | (refine Nat.ne_of_gt ?_; k_extra "an")))
  (k_with "sub" => (first | assumption | (refine List.mem_append_left _ ?_; k_extra "sub") | (refine List.mem_append_right _ ?_; k_extra "sub") | (refine List.Mem.tail _ ?_; k_extra "sub")))
  (k_with "rm" => (first | exact room_of 1 rfl (by assumption) rfl | exact room_of 0 rfl (by assumption) rfl | exact room_of1 1 rfl (by assumption) rfl | exact room_of1 0 rfl (by assumption) rfl | ktr_room))
  (k_with "un" => (first | exact units_of 3 rfl (by assumption) rfl | exact units_of 4 rfl (by assumption) rfl | exact units_of 0 rfl (by assumption) rfl | ktr_units))
  (k_with "gn" => refine (let P9 : Prop := _; (?_ : P9)))
  (k_with "st" => (repeat' (first | ((with_reducible show wpAny _ _ (PySem.exec _ _) _ _ _); k_fold) | ((fail_if_success (fail_if_success k_unfold)); (show wpAny _ _ _ _ _ _); (try dsimp only)) | (k_unfold; (try dsimp only)) | (k_end; wrow_close) | walk1 | (dsimp only; walk1) | (leave1; walk_say "STEP leave1"; try dsimp only) | fail "no step")))
  (k_with "D" => try ((with_reducible show wpAny _ _ _ _ _ (Shared.mk (Shared.heap _) _ _ _ _)); dsimp only))
  (k_with "E0" => ((case F => k_asm); (case V => first | assumption | exact ⟨rfl, rfl, rfl⟩)))
  (k_with "E" => (k_extra "E0"; (case e => exact rfl)))
  (k_with "S" => (intro h'8q tk'8q F'8q N'8q; (try k_sweep)))
  (k_with "A" => (intro l'8q h'8q F'8q N'8q l18q; (try k_lt l18q); (try k_sweep)))
  (k_with "spliced" => (k_here; k_extra "D"; k_dflt (first | ((with_reducible refine' s_args ?V ?F ?e ?_); k_extra "E"; k_whole; (try dsimp only [List.cons_append, List.nil_append])))))
  (k_with "evalPairs" => (k_here; k_extra "D"; k_dflt (first | ((with_reducible refine' s_pair ?V ?F ?e ?f ?_); k_extra "E"; (case f => exact rfl); k_whole))))
  (k_with "eval BinOp" => (k_here; k_extra "D"; k_dflt (first | ((with_reducible refine' s_bin ?V ?F ?e ?f ?_); k_extra "E"; (case f => exact rfl); k_whole) | ((with_reducible refine' s_binL ?V ?F ?e ?_); k_extra "E"; k_whole))))
  (k_with "isTrue Compare" => (k_here; k_extra "D"; k_dflt (first | ((with_reducible refine' s_cmp ?V ?F ?e ?f ?h ?_); k_extra "E"; (case f => exact rfl); (case h => with_unfolding_all rfl); k_whole) | ((with_reducible refine' s_cmpL ?V ?F ?e ?h ?_); k_extra "E"; (case h => with_unfolding_all rfl); k_whole))))
  (k_with "eval Subscript" => (k_here; k_extra "D"; k_dflt (first | ((with_reducible refine' s_sub ?V ?F ?e ?f ?_); k_extra "E"; (case f => exact rfl); k_whole) | ((with_reducible refine' s_subL ?V ?F ?e ?_); k_extra "E"; k_whole))))
  (k_with "eval List" => (k_here; k_extra "D"; k_dflt (first | ((with_reducible refine' s_list ?V ?F ?e ?_); k_extra "E"; k_whole))))
  (k_with "eval Tuple" => (k_here; k_extra "D"; k_dflt (first | ((with_reducible refine' s_tuple ?V ?F ?e ?_); k_extra "E"; k_whole))))
  (k_with "exec Return some" => (k_here; k_extra "D"; k_dflt (first | ((with_reducible refine' s_ret ?V ?F ?e ?_); k_extra "E"; k_whole))))
  (k_with "eval Attribute Name" => (k_here; k_extra "D"; k_dflt (first | ((with_reducible refine' s_attr ?V ?F ?e ?_ ?h); k_extra "E"; (case h => with_unfolding_all rfl); k_whole))))
  (k_with "execs cons" => (k_here; k_extra "D"; k_dflt (first | k_gentoks | ((with_reducible refine' c_asgS ?V ?F ?N ?e ?x ?_ ?h); k_extra "E"; (case N => k_asm); (case x => exact rfl); (case h => exact rfl); k_whole; k_extra "S") | ((with_reducible refine' c_asg ?_ ?h); (case h => exact rfl); k_whole; (try refine (let qk8q : Value → Shared → Prop := _; (?_ : wpAny _ _ _ qk8q _ _)))) | ((with_reducible refine' c_retS ?V ?F ?e ?_); k_extra "E"; k_whole) | (with_reducible refine c_ret ?_))))
  (k_with "storeName" => (k_here; k_extra "D"; k_dflt (first | ((with_reducible refine' c_store ?V ?F ?N ?x ?_); k_extra "E0"; (case N => k_asm); (case x => exact rfl); k_whole; k_extra "S"))))
  (k_with "newList" => (k_here; k_extra "D"; k_dflt (first | ((with_reducible refine' c_newList ?F ?N ?_ ?z); (case F => k_asm); (case N => k_asm); (case z => size_fits); k_extra "A"))))
  (k_with "newTuple" => (k_here; k_extra "D"; k_dflt (first | ((with_reducible refine' c_newTuple ?F ?N ?_ ?z); (case F => k_asm); (case N => k_asm); (case z => kmk_size); k_extra "A"))))
  (k_with "binaryOp Mult int int" => (k_here; k_extra "D"; k_dflt (first | ((with_reducible refine' c_mul ?_ ?z); (case z => mul_fits)))))
  (k_with "binaryOp Add int int" => (k_here; k_extra "D"; k_dflt (first | (with_reducible refine c_add ?_))))
  (k_with "binaryOp Sub int int" => (k_here; k_extra "D"; k_dflt (first | (with_reducible refine c_sub ?_))))
  (k_with "unaryOp USub int" => (k_here; k_extra "D"; k_dflt (first | (with_reducible refine c_neg ?_))))
  (k_with "callWith ref" => (k_here; k_extra "D"; k_dflt (first | ((with_reducible refine' s_with ?V ?F ?X ?k ?e ?_); k_extra "E"; (case X => k_asm); (case k => k_is); k_whole))))
  (k_with "eval Call" => (k_here; k_extra "D"; k_dflt (first | ((with_reducible refine' s_call ?V ?F ?X ?T ?n ?x ?d ?k ?e ?_ ?h); k_extra "E"; (case x => exact rfl); (case X => k_asm); (case T => k_asm); (case d => decide); (case n => k_is); (case k => k_is); (case h => exact rfl); k_whole))))
  (k_with "eval Name" => (k_here; k_extra "D"; k_dflt (first | ((with_reducible refine' s_val ?V ?F ?e ?_); k_extra "E"; k_whole))))
  (k_with "ktr_enter" => first
  | (refine' codeG ?k1 ?k2 ?k3 ?k4 ?k5 ?kA ?kF ?kK ?k6 ?k7 ?k8 ?k9 ?kB ?_ ?c2 ?c3 ?c4 ?c5; (case kA => exact rfl); (case kF => exact rfl); (case kK => assumption); (case k1 => first | k_asm | exact topb_of rfl rfl (by k_asm)); (case k2 => k_asm); (case k3 => k_asm); (case k4 => k_asm); (case k5 => k_asm); (case k6 => k_is); (case k7 => k_is); (case k8 => (k_extra "rm")); (case k9 => first | exact BindsTo.of_eq rfl | exact binds_K (by k_in) rfl (by k_is) rfl rfl rfl); (case c5 => decide); (case kB => exact locs rfl); (case c2 => exact rfl); (case c3 => exact rfl); (case c4 => exact rfl); k_whole; intro g'9q L'9q h'9q tk'9q st'9q FG'9q F'9q N'9q B'9q X'9q T'9q l1'9q; (try dsimp only); (try k_fold)))
  (k_with "k_inst" => exact inst_base (by k_asm) (by assumption) (by assumption))
  (k_with "getMethod ref" => (k_here; (with_reducible show wpAny _ _ (getMethod (Value.ref _) (Str.ofString "get") _) _ _ _); k_dflt (refine sd_method (SDict.base (by k_asm) (by assumption)) ?_)))
  (k_with "call builtin:dict.get" => (k_here; (with_reducible show wpAny _ _ (call (Value.builtin "dict.get") [Value.ref _, Value.str _ _]) _ _ _); k_dflt (first
  | (refine sd_get1s (SDict.base (by k_asm) (by assumption)) (by assumption) ?_; intro t'9q)
  | (refine sd_get1n (SDict.base (by k_asm) (by assumption)) (by assumption) ?_)
  | (refine sd_get1 (SDict.base (by k_asm) (by assumption)) (fun hg09q => ?_) (fun v'9q t'9q hg19q => ?_)))))
  (k_with "k_room" => (k_extra "rm"))
  (k_with "subscriptTail" => (k_here; (with_reducible show wpAny _ _ (subscriptTail _ _ (Value.ref _) (Value.str _ _)) _ _ _); k_dflt (refine sd_item (SDict.base (by k_asm) (by assumption)) (by assumption) ?_); intro t'9q))
  (k_with "call ref" => (k_here; (with_reducible show wpAny _ _ (call (Value.ref _) _) _ _ _); (try k_fold); k_dflt (refine' spec_use0 ?S ?k1 ?k2 ?k3 ?k4 ?k5 ?kK ?kP ?kd ?ku ?_; (case S => assumption); (case k1 => first | k_asm | exact topb_of rfl rfl (by k_asm)); (case k2 => k_asm); (case k3 => k_asm); (case k4 => k_asm); (case k5 => k_asm); (case kK => exact rfl); (case kP => first | exact trivial | exact ElOf.base (by k_asm) (by assumption)); (case kd => (k_extra "rm")); (case ku => (k_extra "un"))); intro r'9q tl'9q h'9q tk'9q F'9q N'9q fr'9q st'9q hR'9q; (try dsimp only at hR'9q)))
  (k_with "k_mem" => ((show _ ∈ (_ ++ _ : List (Addr × Obj))); first | (refine List.mem_append_right _ ?_; k_mem) | (refine List.mem_append_left _ ?_; k_mem)))
  (k_with "call builtin:dict.get" => (k_here; (with_reducible show wpAny _ _ (call (Value.builtin "dict.get") [Value.ref _, Value.str _ _, Value.str _ _]) _ _ _); k_dflt (refine sd_get2L (SDict.base (by k_asm) (by assumption)) (by first | assumption | decide) ?_); intro t'9q hlen'9q))
  (k_with "compareOp In str str" => (k_here; k_dflt (refine in_dec _ (by assumption) ?_)))
  (k_with "subscriptTail" => (k_here; (with_reducible show wpAny _ _ (subscriptTail _ _ (Value.str _ _) (Value.int _ _)) _ _ _); k_dflt (refine item_str (fitsSsize_of (N := 9223372036854775808) (by omega) (by omega) (Int.le_refl _)) (by omega) (by omega) ?_); intro t'9q))
  unfold Spec
  k_fill
  intro dp un gd cn cs a' ccd cl' outer A₀ base h₀ L m s Q E B F X N T hk hP hd hu hret
  refine wpAny_call ?_
  k_dflt ktr_enter
  first | refine (let ak : Around := _; let nk : Env := _; let sg9 : Array GenState := _; let sd9 : Drawn := _; let so9 : OsState := _; (?_ : wpAny _ ak (execs _ nk) _ _ (Shared.mk _ sg9 sd9 _ so9))) | refine (let ak : Around := _; let nk : Env := _; (?_ : wpAny _ ak (execs _ nk) _ _ _))
  try (have TB9 : TopB ak _ _ (dp + 1) (un + 3) := topb_of rfl rfl (by assumption))
  try (have FE9 : FnE nk L'9q := ⟨rfl, rfl, rfl⟩)
  try (rename Fr _ _ _ (fun y => List.lookup y (List.reverse _)) => FX9; replace FX9 := fr_binds [(Str.ofString "self", (.ref xr : Value)), (Str.ofString "signs", (.str sg tg : Value))] rfl FX9)
  rename Stood _ _ _ => st
  k_extra "gn"; (obtain ⟨hx, o, hdx, h1, h2, t1, t2, tx, ti, rfl⟩ := hP) <;> k_unfold
  replace hx := st _ _ hx (fun h => nomatch h)
  replace hdx := st _ _ hdx (fun h => nomatch h)
  k_extra "gn"; (obtain ⟨hi, ⟨hlt, rfl⟩ | ⟨hlt, hin⟩⟩ := hb) <;> k_unfold
  · (k_extra "st")
    refine spec_ret0 hret st (by assumption) (by assumption) (by assumption) (by assumption) [] (fun _ h => nomatch h) ⟨rfl, ?_⟩
    rw [decide_eq_false hlt]
  · (k_extra "st")
    exact spec_ret0 hret st (by assumption) (by assumption) (by assumption) (by assumption) [] (fun _ h => nomatch h) ⟨rfl, rfl⟩
theorem skip_no (w : World) (mean : ExcName → Option Value) (mg mb : Str → Option Value) (xr dx : Addr) (x sg : Str) (tg : Tok) (i : Int) (o : Obj) (hz : x.length ≤ 4000) (hb : OneOf x i sg false) (ho : RdO o x i) :
  Spec w mean mg mb 149 [.ref xr, .str sg tg] [(dx, o)] 2 (fun h => h.get? xr = some (instObj 159 dx) ∧ xr ≠ dx) (fun r led' tl => tl = [] ∧ (∃ t, r = .str (Str.ofString "") t) ∧ led' = [(dx, o)]) := by
  (k_with "k_inst" => exact inst_ledR (by k_asm) (by k_asm) (by assumption) (by k_mem))
  (k_with "ite" => (first | with_reducible refine ite_ff ?_ | with_reducible refine ite_tt ?_))
  (k_with "call ref" => (k_here; (with_reducible show wpAny _ _ (call (Value.ref 142) _) _ _ _); (try k_fold); k_dflt (refine' use_isR (one_of_spec _ _ _ _ _ _ _ _ _ _ _ ?hz ?hb) ?k1 ?k2 ?k3 ?k4 ?k5 ?kK ?kP ?kd ?ku ?_; (case k1 => first | k_asm | exact topb_of rfl rfl (by k_asm)); (case k2 => k_asm); (case k3 => k_asm); (case k4 => k_asm); (case k5 => k_asm); (case kK => exact rfl); (case kP => exact ⟨Fr.keep (by k_asm) _ _ (by assumption), _, News.get (by k_asm) (by k_mem), by exact rdO_mk⟩); (case kd => (k_extra "rm")); (case ku => (k_extra "un")); (case hz => assumption); (case hb => assumption)); intro h'9q tk'9q F'9q N'9q; (try dsimp only)))
  k_extra "gn"; (obtain ⟨h1, h2, t1, t2, tx, ti, rfl⟩ := ho) <;> k_unfold
  unfold Spec
  k_fill
  intro dp un gd cn cs a' ccd cl' outer A₀ base h₀ L m s Q E B F X N T hk hP hd hu hret
  refine wpAny_call ?_
  k_dflt ktr_enter
  first | refine (let ak : Around := _; let nk : Env := _; let sg9 : Array GenState := _; let sd9 : Drawn := _; let so9 : OsState := _; (?_ : wpAny _ ak (execs _ nk) _ _ (Shared.mk _ sg9 sd9 _ so9))) | refine (let ak : Around := _; let nk : Env := _; (?_ : wpAny _ ak (execs _ nk) _ _ _))
  try (have TB9 : TopB ak _ _ (dp + 1) (un + 3) := topb_of rfl rfl (by assumption))
  try (have FE9 : FnE nk L'9q := ⟨rfl, rfl, rfl⟩)
  try (rename Fr _ _ _ (fun y => List.lookup y (List.reverse _)) => FX9; replace FX9 := fr_binds [(Str.ofString "self", (.ref xr : Value)), (Str.ofString "signs", (.str sg tg : Value))] rfl FX9)
  rename Stood _ _ _ => st
  have hx := st _ _ hP.1 (by simpa using hP.2)
  (k_extra "st")
  exact spec_ret hret st (by assumption) (by assumption) (by assumption) (by assumption) [] _ (by exact fun _ h => h) (by rfl) (fun _ h => nomatch h) ⟨rfl, ⟨_, rfl⟩, rfl⟩
theorem skip_yes (w : World) (mean : ExcName → Option Value) (mg mb : Str → Option Value) (xr dx : Addr) (x sg : Str) (tg : Tok) (i : Int) (o : Obj) (hz : x.length ≤ 4000) (hb : OneOf x i sg true) (ho : RdO o x i) :
  Spec w mean mg mb 149 [.ref xr, .str sg tg] [(dx, o)] 2 (fun h => h.get? xr = some (instObj 159 dx) ∧ xr ≠ dx) (fun r led' tl => tl = [] ∧ (∃ t, r = .str (Txt.item x i) t) ∧ ∃ o', led' = [(dx, o')] ∧ RdO o' x (i + 1)) := by
  k_extra "gn"; (obtain ⟨h1, h2, t1, t2, tx, ti, rfl⟩ := ho) <;> k_unfold
  unfold Spec
  k_fill
  intro dp un gd cn cs a' ccd cl' outer A₀ base h₀ L m s Q E B F X N T hk hP hd hu hret
  refine wpAny_call ?_
  k_dflt ktr_enter
  first | refine (let ak : Around := _; let nk : Env := _; let sg9 : Array GenState := _; let sd9 : Drawn := _; let so9 : OsState := _; (?_ : wpAny _ ak (execs _ nk) _ _ (Shared.mk _ sg9 sd9 _ so9))) | refine (let ak : Around := _; let nk : Env := _; (?_ : wpAny _ ak (execs _ nk) _ _ _))
  try (have TB9 : TopB ak _ _ (dp + 1) (un + 3) := topb_of rfl rfl (by assumption))
  try (have FE9 : FnE nk L'9q := ⟨rfl, rfl, rfl⟩)
  try (rename Fr _ _ _ (fun y => List.lookup y (List.reverse _)) => FX9; replace FX9 := fr_binds [(Str.ofString "self", (.ref xr : Value)), (Str.ofString "signs", (.str sg tg : Value))] rfl FX9)
  rename Stood _ _ _ => st
  have hx := st _ _ hP.1 (by simpa using hP.2)
  have hi : 0 ≤ i ∧ i < x.length := ⟨hb.1, by rcases hb.2 with h | h; exact absurd h.2 (by decide); exact h.1⟩
  obtain ⟨hi0, hi1⟩ := hi
  (k_extra "st")
  rw [show i + 1 - 1 = i by omega]
  refine spec_ret hret st (by assumption) (by assumption) (by assumption) (by assumption) [] _ (by exact fun _ h => h) (by rfl) (fun _ h => nomatch h) ?_
  exact ⟨rfl, ⟨_, rfl⟩, _, rfl, rdO_mk⟩
theorem one_objR {d : Addr} {o o' : Obj} (h : [(d, o)] = [(d, o')]) : o = o' := (Prod.mk.inj (List.cons.inj h).1).2
theorem digits_one (w : World) (mean : ExcName → Option Value) (mg mb : Str → Option Value) (xr dx : Addr) (x : Str) (i : Int) (o : Obj) (hz : x.length ≤ 4000) (hb : OneOf x i (Str.ofString "0123456789") true) (hc : OneOf x (i + 1) (Str.ofString "0123456789") false) (ho : RdO o x i) :
  Spec w mean mg mb 156 [.ref xr] [(dx, o)] 2 (fun h => h.get? xr = some (instObj 159 dx) ∧ xr ≠ dx) (fun r led' tl => tl = [] ∧ (∃ t, r = .str (Txt.slice x (some i) (some (i + 1))) t) ∧ ∃ o', led' = [(dx, o')] ∧ RdO o' x (i + 1)) := by
  (k_with "exec While" => (k_here; k_dflt (refine whl_start 100 ?_)))
  k_extra "gn"; (obtain ⟨h1, h2, t1, t2, tx, ti, rfl⟩ := ho) <;> k_unfold
  unfold Spec
  k_fill
  intro dp un gd cn cs a' ccd cl' outer A₀ base h₀ L m s Q E B F X N T hk hP hd hu hret
  refine wpAny_call ?_
  k_dflt ktr_enter
  first | refine (let ak : Around := _; let nk : Env := _; let sg9 : Array GenState := _; let sd9 : Drawn := _; let so9 : OsState := _; (?_ : wpAny _ ak (execs _ nk) _ _ (Shared.mk _ sg9 sd9 _ so9))) | refine (let ak : Around := _; let nk : Env := _; (?_ : wpAny _ ak (execs _ nk) _ _ _))
  try (have TB9 : TopB ak _ _ (dp + 1) (un + 3) := topb_of rfl rfl (by assumption))
  try (have FE9 : FnE nk L'9q := ⟨rfl, rfl, rfl⟩)
  try (rename Fr _ _ _ (fun y => List.lookup y (List.reverse _)) => FX9; replace FX9 := fr_binds [(Str.ofString "self", (.ref xr : Value))] rfl FX9)
  rename Stood _ _ _ => st
  have hx := st _ _ hP.1 (by simpa using hP.2)
  have hi : 0 ≤ i ∧ i < x.length := ⟨hb.1, by rcases hb.2 with h | h; exact absurd h.2 (by decide); exact h.1⟩
  obtain ⟨hi0, hi1⟩ := hi
  (k_extra "st")
  refine spec_ret hret st (by assumption) (by assumption) (by assumption) (by assumption) [] _ (by exact fun _ h => h) (by rfl) (fun _ h => nomatch h) ?_
  exact ⟨rfl, ⟨_, rfl⟩, _, rfl, rdO_mk⟩
theorem exponent_none (w : World) (mean : ExcName → Option Value) (mg mb : Str → Option Value) (xr dx : Addr) (x : Str) (i : Int) (o : Obj) (hz : x.length ≤ 4000) (hb : OneOf x i (Str.ofString "eE") false) (ho : RdO o x i) :
  Spec w mean mg mb 177 [.ref xr] [(dx, o)] 3 (fun h => h.get? xr = some (instObj 159 dx) ∧ xr ≠ dx) (fun r led' tl => tl = [] ∧ (∃ t, r = .int 0 t) ∧ led' = [(dx, o)]) := by
  (k_with "compareOp Eq str str" => (k_here; k_dflt (refine eq_dec true (by decide +kernel) ?_)))
  (k_with "call ref" => (k_here; (with_reducible show wpAny _ _ (call (Value.ref 149) _) _ _ _); (try k_fold); k_dflt (refine' use_same (skip_no _ _ _ _ _ _ _ _ _ _ _ ?hz ?hb rdO_mk) ?k1 ?k2 ?k3 ?k4 ?kU ?k5 ?kK ?kP ?kd ?ku ?_; (case k1 => first | k_asm | exact topb_of rfl rfl (by k_asm)); (case k2 => k_asm); (case k3 => k_asm); (case k4 => k_asm); (case kU => k_updF); (case k5 => k_asm); (case kK => exact rfl); (case kP => exact ⟨Fr.keep (by k_asm) _ _ (by assumption), by assumption⟩); (case kd => (k_extra "rm")); (case ku => (k_extra "un")); (case hz => assumption); (case hb => assumption)); intro t'9q h'9q tk'9q F'9q N'9q; (try dsimp only at N'9q); (try dsimp only)))
  k_extra "gn"; (obtain ⟨h1, h2, t1, t2, tx, ti, rfl⟩ := ho) <;> k_unfold
  unfold Spec
  k_fill
  intro dp un gd cn cs a' ccd cl' outer A₀ base h₀ L m s Q E B F X N T hk hP hd hu hret
  refine wpAny_call ?_
  k_dflt ktr_enter
  first | refine (let ak : Around := _; let nk : Env := _; let sg9 : Array GenState := _; let sd9 : Drawn := _; let so9 : OsState := _; (?_ : wpAny _ ak (execs _ nk) _ _ (Shared.mk _ sg9 sd9 _ so9))) | refine (let ak : Around := _; let nk : Env := _; (?_ : wpAny _ ak (execs _ nk) _ _ _))
  try (have TB9 : TopB ak _ _ (dp + 1) (un + 3) := topb_of rfl rfl (by assumption))
  try (have FE9 : FnE nk L'9q := ⟨rfl, rfl, rfl⟩)
  try (rename Fr _ _ _ (fun y => List.lookup y (List.reverse _)) => FX9; replace FX9 := fr_binds [(Str.ofString "reader", (.ref xr : Value))] rfl FX9)
  rename Stood _ _ _ => st
  have hx := st _ _ hP.1 (by simpa using hP.2)
  have hne := hP.2
  (k_extra "st")
  exact spec_ret hret st (by assumption) (by assumption) (by assumption) (by assumption) [] _ (by exact fun _ h => h) (by rfl) (fun _ h => nomatch h) ⟨rfl, ⟨_, rfl⟩, rfl⟩
theorem use_rd1 {w : World} {mean : ExcName → Option Value} {mg mb : Str → Option Value} {f : Addr} {vs : List Value} {k : Nat} {P : Heap → Prop} {v : Tok → Value} {x : Str} {i : Int} {A : Around} {D U : Nat} {h₀ : Heap} {L d : Addr} {o : Obj} {m : Str → Option Value} {s : Shared} {Q E : Value → Shared → Prop} {news : List (Addr × Obj)} {g : Obj → List (Addr × Obj)}
    (S : Spec w mean mg mb f vs [(d, o)] k P (fun r led' tl => tl = [] ∧ (∃ t, r = v t) ∧ ∃ o', led' = [(d, o')] ∧ RdO o' x i)) (B : TopB A h₀ L D U) (F : Fr h₀ L s.heap m) (X : (hd.heap_1_39 w.params).In h₀) (N : News h₀ L s.heap news) (V : UpdF d o news g) (T : Top hd.view_1_40 (looseW hd.view_1_40 [Str.ofString "fraction", Str.ofString "write_decimal", Str.ofString "length", Str.ofString "Uses"]) mean mg mb h₀) (hk : 0 = 0) (hP : P s.heap) (hd : D + k < recursionLimit) (hu : U + 8 * k < cLine)
    (ret : ∀ t h1 h2 t1 t2 tx ti h' tk', Fr h₀ L h' m → News h₀ L h' (g (dictOf [⟨h1, .str (Str.ofString "text") t1, .str x tx⟩, ⟨h2, .str (Str.ofString "at") t2, .int i ti⟩] 2)) → Q (v t) { s with heap := h', toks := tk' }) : wpAny (model PySem.Challenge.rw_nu0026_01.row.prog w) A (call (.ref f) vs) Q E s := spec_use1 S B F X N V T hk hP hd hu fun r tl o' h' tk' F' N' fr st hR => by
  k_extra "gn"; (obtain ⟨rfl, ⟨t, rfl⟩, o2, e, h1, h2, t1, t2, tx, ti, rfl⟩ := hR) <;> k_unfold
  obtain rfl := one_o e
  exact ret t h1 h2 t1 t2 tx ti h' tk' F' N'
theorem news_drop {h₀ h : Heap} {L : Addr} {tl news : List (Addr × Obj)} (N : News h₀ L h (tl ++ news)) : News h₀ L h news := fun p hp => N p (List.mem_append_right _ hp)
theorem len_dec {prog : Program} {w : World} {A : Around} {E : Value → Shared → Prop} {s : Shared} {x : Str} {t : Tok} {Q : Value → Shared → Prop} (e : x.length = 1) (h : Q (.int 1 (s.toks + 1)) { s with toks := s.toks + 1 + 1 }) : wpAny (model prog w) A (call (.builtin "len") [.str x t]) Q E s :=
  PySem.P.len_str (by rw [e]; decide) (by rw [e]; exact h)
theorem add_lit {prog : Program} {w : World} {A : Around} {E : Value → Shared → Prop} {s : Shared} {x y : Str} {t u : Tok} {Q : Value → Shared → Prop} (z : Str) (e : x ++ y = z) (h : ∀ t' tk, Q (.str z t') { s with toks := tk }) (hsz : x.length + y.length ≤ sizeLine) : wpAny (model prog w) A (binaryOp .Add (.str x t) (.str y u)) Q E s :=
  PyProof.Rows.add_str (by rw [e]; exact h) hsz
theorem read_3 (w : World) (mean : ExcName → Option Value) (mg mb : Str → Option Value) (tt : Tok) :
  Spec w mean mg mb 184 [.str (Str.ofString "3") tt] [] 6 (fun h => True) (fun r _ tl => ∃ l, r = .ref l ∧ TupI tl l (3) 1) := by
  k_with_none
  w_top off
  (k_with "an" => (first | assumption | exact And.left (by assumption) | exact And.left (And.right (by assumption)) | exact And.left (And.right (And.right (by assumption))) | exact And.left (And.right (And.right (And.right (by assumption)))) | exact And.left (And.right (And.right (And.right (And.right (by assumption))))) | exact And.left (And.right (And.right (And.right (And.right (And.right (by assumption)))))) | exact And.left (And.right (And.right (And.right (And.right (And.right (And.right (by assumption))))))) | exact And.left (And.right (And.right (And.right (And.right (And.right (And.right (And.right (by assumption)))))))) | exact And.left (And.right (And.right (And.right (And.right (And.right (And.right (And.right (And.right (by assumption)))))))))))
  (k_with "k_ne" => (refine neN ?_; (try dsimp only); first | (refine Nat.ne_of_lt ?_; k_extra "an") | (refine Nat.ne_of_gt ?_; k_extra "an")))
  (k_with "sub" => (first | assumption | (refine List.mem_append_left _ ?_; k_extra "sub") | (refine List.mem_append_right _ ?_; k_extra "sub") | (refine List.Mem.tail _ ?_; k_extra "sub")))
  (k_with "rm" => (first | exact room_of 1 rfl (by assumption) rfl | exact room_of 0 rfl (by assumption) rfl | exact room_of1 1 rfl (by assumption) rfl | exact room_of1 0 rfl (by assumption) rfl | ktr_room))
  (k_with "un" => (first | exact units_of 3 rfl (by assumption) rfl | exact units_of 4 rfl (by assumption) rfl | exact units_of 0 rfl (by assumption) rfl | ktr_units))
  (k_with "st" => (repeat' (first | ((with_reducible show wpAny _ _ (PySem.exec _ _) _ _ _); k_fold) | ((fail_if_success (fail_if_success k_unfold)); (show wpAny _ _ _ _ _ _); (try dsimp only)) | (k_unfold; (try dsimp only)) | (k_end; wrow_close) | walk1 | (dsimp only; walk1) | (leave1; walk_say "STEP leave1"; try dsimp only) | fail "no step")))
  (k_with "D" => try ((with_reducible show wpAny _ _ _ _ _ (Shared.mk (Shared.heap _) _ _ _ _)); dsimp only))
  (k_with "E0" => ((case F => k_asm); (case V => first | assumption | exact ⟨rfl, rfl, rfl⟩)))
  (k_with "E" => (k_extra "E0"; (case e => exact rfl)))
  (k_with "S" => (intro h'8q tk'8q F'8q N'8q; (try k_sweep)))
  (k_with "A" => (intro l'8q h'8q F'8q N'8q l18q; (try k_lt l18q); (try k_sweep)))
  (k_with "spliced" => (k_here; k_extra "D"; k_dflt (first | ((with_reducible refine' s_args ?V ?F ?e ?_); k_extra "E"; k_whole; (try dsimp only [List.cons_append, List.nil_append])))))
  (k_with "evalPairs" => (k_here; k_extra "D"; k_dflt (first | ((with_reducible refine' s_pair ?V ?F ?e ?f ?_); k_extra "E"; (case f => exact rfl); k_whole))))
  (k_with "eval BinOp" => (k_here; k_extra "D"; k_dflt (first | ((with_reducible refine' s_bin ?V ?F ?e ?f ?_); k_extra "E"; (case f => exact rfl); k_whole) | ((with_reducible refine' s_binL ?V ?F ?e ?_); k_extra "E"; k_whole))))
  (k_with "isTrue Compare" => (k_here; k_extra "D"; k_dflt (first | ((with_reducible refine' s_cmp ?V ?F ?e ?f ?h ?_); k_extra "E"; (case f => exact rfl); (case h => with_unfolding_all rfl); k_whole) | ((with_reducible refine' s_cmpL ?V ?F ?e ?h ?_); k_extra "E"; (case h => with_unfolding_all rfl); k_whole))))
  (k_with "eval Subscript" => (k_here; k_extra "D"; k_dflt (first | ((with_reducible refine' s_sub ?V ?F ?e ?f ?_); k_extra "E"; (case f => exact rfl); k_whole) | ((with_reducible refine' s_subL ?V ?F ?e ?_); k_extra "E"; k_whole))))
  (k_with "eval List" => (k_here; k_extra "D"; k_dflt (first | ((with_reducible refine' s_list ?V ?F ?e ?_); k_extra "E"; k_whole))))
  (k_with "eval Tuple" => (k_here; k_extra "D"; k_dflt (first | ((with_reducible refine' s_tuple ?V ?F ?e ?_); k_extra "E"; k_whole))))
  (k_with "exec Return some" => (k_here; k_extra "D"; k_dflt (first | ((with_reducible refine' s_ret ?V ?F ?e ?_); k_extra "E"; k_whole))))
  (k_with "eval Attribute Name" => (k_here; k_extra "D"; k_dflt (first | ((with_reducible refine' s_attr ?V ?F ?e ?_ ?h); k_extra "E"; (case h => with_unfolding_all rfl); k_whole))))
  (k_with "execs cons" => (k_here; k_extra "D"; k_dflt (first | k_gentoks | ((with_reducible refine' c_asgS ?V ?F ?N ?e ?x ?_ ?h); k_extra "E"; (case N => k_asm); (case x => exact rfl); (case h => exact rfl); k_whole; k_extra "S") | ((with_reducible refine' c_asg ?_ ?h); (case h => exact rfl); k_whole; (try refine (let qk8q : Value → Shared → Prop := _; (?_ : wpAny _ _ _ qk8q _ _)))) | ((with_reducible refine' c_retS ?V ?F ?e ?_); k_extra "E"; k_whole) | (with_reducible refine c_ret ?_))))
  (k_with "storeName" => (k_here; k_extra "D"; k_dflt (first | ((with_reducible refine' c_store ?V ?F ?N ?x ?_); k_extra "E0"; (case N => k_asm); (case x => exact rfl); k_whole; k_extra "S"))))
  (k_with "newList" => (k_here; k_extra "D"; k_dflt (first | ((with_reducible refine' c_newList ?F ?N ?_ ?z); (case F => k_asm); (case N => k_asm); (case z => size_fits); k_extra "A"))))
  (k_with "newTuple" => (k_here; k_extra "D"; k_dflt (first | ((with_reducible refine' c_newTuple ?F ?N ?_ ?z); (case F => k_asm); (case N => k_asm); (case z => kmk_size); k_extra "A"))))
  (k_with "binaryOp Mult int int" => (k_here; k_extra "D"; k_dflt (first | ((with_reducible refine' c_mul ?_ ?z); (case z => mul_fits)))))
  (k_with "binaryOp Add int int" => (k_here; k_extra "D"; k_dflt (first | (with_reducible refine c_add ?_))))
  (k_with "binaryOp Sub int int" => (k_here; k_extra "D"; k_dflt (first | (with_reducible refine c_sub ?_))))
  (k_with "unaryOp USub int" => (k_here; k_extra "D"; k_dflt (first | (with_reducible refine c_neg ?_))))
  (k_with "callWith ref" => (k_here; k_extra "D"; k_dflt (first | ((with_reducible refine' s_with ?V ?F ?X ?k ?e ?_); k_extra "E"; (case X => k_asm); (case k => k_is); k_whole))))
  (k_with "eval Call" => (k_here; k_extra "D"; k_dflt (first | ((with_reducible refine' s_call ?V ?F ?X ?T ?n ?x ?d ?k ?e ?_ ?h); k_extra "E"; (case x => exact rfl); (case X => k_asm); (case T => k_asm); (case d => decide); (case n => k_is); (case k => k_is); (case h => exact rfl); k_whole))))
  (k_with "eval Name" => (k_here; k_extra "D"; k_dflt (first | ((with_reducible refine' s_val ?V ?F ?e ?_); k_extra "E"; k_whole))))
  (k_with "ktr_enter" => first
  | (refine' codeG ?k1 ?k2 ?k3 ?k4 ?k5 ?kA ?kF ?kK ?k6 ?k7 ?k8 ?k9 ?kB ?_ ?c2 ?c3 ?c4 ?c5; (case kA => exact rfl); (case kF => exact rfl); (case kK => assumption); (case k1 => first | k_asm | exact topb_of rfl rfl (by k_asm)); (case k2 => k_asm); (case k3 => k_asm); (case k4 => k_asm); (case k5 => k_asm); (case k6 => k_is); (case k7 => k_is); (case k8 => (k_extra "rm")); (case k9 => first | exact BindsTo.of_eq rfl | exact binds_K (by k_in) rfl (by k_is) rfl rfl rfl); (case c5 => decide); (case kB => exact locs rfl); (case c2 => exact rfl); (case c3 => exact rfl); (case c4 => exact rfl); k_whole; intro g'9q L'9q h'9q tk'9q st'9q FG'9q F'9q N'9q B'9q X'9q T'9q l1'9q; (try dsimp only); (try k_fold)))
  (k_with "k_inst" => exact inst_base (by k_asm) (by assumption) (by assumption))
  (k_with "getMethod ref" => (k_here; (with_reducible show wpAny _ _ (getMethod (Value.ref _) (Str.ofString "get") _) _ _ _); k_dflt (refine sd_method (SDict.base (by k_asm) (by assumption)) ?_)))
  (k_with "call builtin:dict.get" => (k_here; (with_reducible show wpAny _ _ (call (Value.builtin "dict.get") [Value.ref _, Value.str _ _]) _ _ _); k_dflt (first
  | (refine sd_get1s (SDict.base (by k_asm) (by assumption)) (by assumption) ?_; intro t'9q)
  | (refine sd_get1n (SDict.base (by k_asm) (by assumption)) (by assumption) ?_)
  | (refine sd_get1 (SDict.base (by k_asm) (by assumption)) (fun hg09q => ?_) (fun v'9q t'9q hg19q => ?_)))))
  (k_with "k_room" => (k_extra "rm"))
  (k_with "subscriptTail" => (k_here; (with_reducible show wpAny _ _ (subscriptTail _ _ (Value.ref _) (Value.str _ _)) _ _ _); k_dflt (refine sd_item (SDict.base (by k_asm) (by assumption)) (by assumption) ?_); intro t'9q))
  (k_with "call ref" => (k_here; (with_reducible show wpAny _ _ (call (Value.ref _) _) _ _ _); (try k_fold); k_dflt (refine' spec_use0 ?S ?k1 ?k2 ?k3 ?k4 ?k5 ?kK ?kP ?kd ?ku ?_; (case S => assumption); (case k1 => first | k_asm | exact topb_of rfl rfl (by k_asm)); (case k2 => k_asm); (case k3 => k_asm); (case k4 => k_asm); (case k5 => k_asm); (case kK => exact rfl); (case kP => first | exact trivial | exact ElOf.base (by k_asm) (by assumption)); (case kd => (k_extra "rm")); (case ku => (k_extra "un"))); intro r'9q tl'9q h'9q tk'9q F'9q N'9q fr'9q st'9q hR'9q; (try dsimp only at hR'9q)))
  (k_with "k_mem" => ((show _ ∈ (_ ++ _ : List (Addr × Obj))); first | (refine List.mem_append_right _ ?_; k_mem) | (refine List.mem_append_left _ ?_; k_mem)))
  (k_with "call builtin:dict.get" => (k_here; (with_reducible show wpAny _ _ (call (Value.builtin "dict.get") [Value.ref _, Value.str _ _, Value.str _ _]) _ _ _); k_dflt (refine sd_get2L (SDict.base (by k_asm) (by assumption)) (by first | assumption | decide) ?_); intro t'9q hlen'9q))
  (k_with "call ref" => (k_here; (with_reducible show wpAny _ _ (call (Value.ref 170) _) _ _ _); (try k_fold); k_dflt (first
  | (refine' use_int (whole_spec _ _ _ _ _ _ 0 (.inl ⟨by decide +kernel, rfl⟩)) ?k1 ?k2 ?k3 ?k4 ?k5 ?kK ?kP ?kd ?ku ?_; (case k1 => first | k_asm | exact topb_of rfl rfl (by k_asm)); (case k2 => k_asm); (case k3 => k_asm); (case k4 => k_asm); (case k5 => k_asm); (case kK => exact rfl); (case kP => exact trivial); (case kd => (k_extra "rm")); (case ku => (k_extra "un")))
  | (refine' use_int (whole_spec _ _ _ _ _ _ 3 (.inr (.inl ⟨by decide +kernel, rfl⟩))) ?k1 ?k2 ?k3 ?k4 ?k5 ?kK ?kP ?kd ?ku ?_; (case k1 => first | k_asm | exact topb_of rfl rfl (by k_asm)); (case k2 => k_asm); (case k3 => k_asm); (case k4 => k_asm); (case k5 => k_asm); (case kK => exact rfl); (case kP => exact trivial); (case kd => (k_extra "rm")); (case ku => (k_extra "un")))
  | (refine' use_int (whole_spec _ _ _ _ _ _ 2 (.inr (.inr (.inl ⟨by decide +kernel, rfl⟩)))) ?k1 ?k2 ?k3 ?k4 ?k5 ?kK ?kP ?kd ?ku ?_; (case k1 => first | k_asm | exact topb_of rfl rfl (by k_asm)); (case k2 => k_asm); (case k3 => k_asm); (case k4 => k_asm); (case k5 => k_asm); (case kK => exact rfl); (case kP => exact trivial); (case kd => (k_extra "rm")); (case ku => (k_extra "un")))
  | (refine' use_int (whole_spec _ _ _ _ _ _ 45 (.inr (.inr (.inr ⟨by decide +kernel, rfl⟩)))) ?k1 ?k2 ?k3 ?k4 ?k5 ?kK ?kP ?kd ?ku ?_; (case k1 => first | k_asm | exact topb_of rfl rfl (by k_asm)); (case k2 => k_asm); (case k3 => k_asm); (case k4 => k_asm); (case k5 => k_asm); (case kK => exact rfl); (case kP => exact trivial); (case kd => (k_extra "rm")); (case ku => (k_extra "un")))); intro tw'9q h'9q tk'9q F'9q N'9q; (try dsimp only)))
  (k_with "compareOp In str str" => (k_here; k_dflt (first | refine in_dec true (by decide +kernel) ?_ | refine in_dec false (by decide +kernel) ?_)))
  (k_with "call builtin:len" => (k_here; (with_reducible show wpAny _ _ (call (Value.builtin "len") [Value.str (Txt.slice _ _ _) _]) _ _ _); k_dflt (refine len_dec (by decide +kernel) ?_)))
  (k_with "call ref" => (k_here; (with_reducible show wpAny _ _ (call (Value.ref 107) _) _ _ _); (try k_fold); k_dflt (
   (refine' use_objR (frac_spec _ _ _ _ _ _ 45 10 9 2 (.inr (.inr (.inr (.inl ⟨rfl, by decide +kernel, rfl, rfl⟩))))) ?k1 ?k2 ?k3 ?k4 ?k5 ?kK ?kP ?kd ?ku ?_; (case k1 => first | k_asm | exact topb_of rfl rfl (by k_asm)); (case k2 => k_asm); (case k3 => k_asm); (case k4 => k_asm); (case k5 => k_asm); (case kK => exact rfl); (case kP => exact trivial); (case kd => (k_extra "rm")); (case ku => (k_extra "un")))); intro l'9q n'9q t1'9q t2'9q h'9q tk'9q F'9q N'9q; (try dsimp only)))
  (k_with "binaryOp Add str str" => (k_here; k_dflt (first | refine add_lit (Str.ofString "45") (by decide +kernel) ?_ (by decide +kernel) | refine add_lit (Str.ofString "3") (by decide +kernel) ?_ (by decide +kernel) | refine add_lit (Str.ofString "0") (by decide +kernel) ?_ (by decide +kernel) | refine add_lit (Str.ofString "2") (by decide +kernel) ?_ (by decide +kernel)); intro _ _))
  (k_with "call ref" => (k_here; (with_reducible show wpAny _ _ (call (Value.ref 149) _) _ _ _); (try k_fold); k_dflt (first | ((refine' use_same (skip_no _ _ _ _ _ _ _ _ _ _ _ ?hz ?hb rdO_mk) ?k1 ?k2 ?k3 ?k4 ?kU ?k5 ?kK ?kP ?kd ?ku ?_; (case k1 => first | k_asm | exact topb_of rfl rfl (by k_asm)); (case k2 => k_asm); (case k3 => k_asm); (case k4 => k_asm); (case kP => exact ⟨(News.get (by k_asm) (by k_mem)), by k_ne⟩); (case kU => k_updF); (case k5 => k_asm); (case kK => exact rfl); (case kd => (k_extra "rm")); (case ku => (k_extra "un")); (case hz => decide +kernel); (case hb => (unfold OneOf; decide +kernel))); intro t'9q h'9q tk'9q F'9q N'9q; (try dsimp only at N'9q); (try dsimp only)) | ((refine' use_rd1 (skip_yes _ _ _ _ _ _ _ _ _ _ _ ?hz ?hb rdO_mk) ?k1 ?k2 ?k3 ?k4 ?kU ?k5 ?kK ?kP ?kd ?ku ?_; (case k1 => first | k_asm | exact topb_of rfl rfl (by k_asm)); (case k2 => k_asm); (case k3 => k_asm); (case k4 => k_asm); (case kP => exact ⟨(News.get (by k_asm) (by k_mem)), by k_ne⟩); (case kU => k_updF); (case k5 => k_asm); (case kK => exact rfl); (case kd => (k_extra "rm")); (case ku => (k_extra "un")); (case hz => decide +kernel); (case hb => (unfold OneOf; decide +kernel))); intro t'9q h1'9q h2'9q t1'9q t2'9q tx'9q ti'9q h'9q tk'9q F'9q N'9q; (try dsimp only at N'9q); (try dsimp only)))))
  (k_with "call ref" => (k_here; (with_reducible show wpAny _ _ (call (Value.ref 156) _) _ _ _); (try k_fold); k_dflt ((refine' use_rd1 (digits_one _ _ _ _ _ _ _ _ _ ?hz ?hb ?hc rdO_mk) ?k1 ?k2 ?k3 ?k4 ?kU ?k5 ?kK ?kP ?kd ?ku ?_; (case k1 => first | k_asm | exact topb_of rfl rfl (by k_asm)); (case k2 => k_asm); (case k3 => k_asm); (case k4 => k_asm); (case kP => exact ⟨(News.get (by k_asm) (by k_mem)), by k_ne⟩); (case kU => k_updF); (case k5 => k_asm); (case kK => exact rfl); (case kd => (k_extra "rm")); (case ku => (k_extra "un")); (case hz => decide +kernel); (case hc => (unfold OneOf; decide +kernel)); (case hb => (unfold OneOf; decide +kernel))); intro t'9q h1'9q h2'9q t1'9q t2'9q tx'9q ti'9q h'9q tk'9q F'9q N'9q; (try dsimp only at N'9q); (try dsimp only))))
  (k_with "call ref" => (k_here; (with_reducible show wpAny _ _ (call (Value.ref 177) _) _ _ _); (try k_fold); k_dflt ((refine' use_same (exponent_none _ _ _ _ _ _ _ _ _ ?hz ?hb rdO_mk) ?k1 ?k2 ?k3 ?k4 ?kU ?k5 ?kK ?kP ?kd ?ku ?_; (case k1 => first | k_asm | exact topb_of rfl rfl (by k_asm)); (case k2 => k_asm); (case k3 => k_asm); (case k4 => k_asm); (case kP => exact ⟨(News.get (by k_asm) (by k_mem)), by k_ne⟩); (case kU => k_updF); (case k5 => k_asm); (case kK => exact rfl); (case kd => (k_extra "rm")); (case ku => (k_extra "un")); (case hz => decide +kernel); (case hb => (unfold OneOf; decide +kernel))); intro t'9q h'9q tk'9q F'9q N'9q; (try dsimp only at N'9q); (try dsimp only))))
  unfold Spec
  k_fill
  intro dp un gd cn cs a' ccd cl' outer A₀ base h₀ L m s Q E B F X N T hk hP hd hu hret
  clear hP
  refine wpAny_call ?_
  k_dflt ktr_enter
  first | refine (let ak : Around := _; let nk : Env := _; let sg9 : Array GenState := _; let sd9 : Drawn := _; let so9 : OsState := _; (?_ : wpAny _ ak (execs _ nk) _ _ (Shared.mk _ sg9 sd9 _ so9))) | refine (let ak : Around := _; let nk : Env := _; (?_ : wpAny _ ak (execs _ nk) _ _ _))
  try (have TB9 : TopB ak _ _ (dp + 1) (un + 3) := topb_of rfl rfl (by assumption))
  try (have FE9 : FnE nk L'9q := ⟨rfl, rfl, rfl⟩)
  try (rename Fr _ _ _ (fun y => List.lookup y (List.reverse _)) => FX9; replace FX9 := fr_binds [(Str.ofString "text", (.str (Str.ofString "3") tt : Value))] rfl FX9)
  rename Stood _ _ _ => st
  (k_extra "st")
  all_goals exact spec_ret0 hret st (by assumption) (by assumption) (by assumption) (by assumption) _ (by exact fun _ h => h) (tupR_mk (by first | assumption | k_mem))
theorem read_0 (w : World) (mean : ExcName → Option Value) (mg mb : Str → Option Value) (tt : Tok) :
  Spec w mean mg mb 184 [.str (Str.ofString "0") tt] [] 6 (fun h => True) (fun r _ tl => ∃ l, r = .ref l ∧ TupI tl l (0) 1) := by
  unfold Spec
  k_fill
  intro dp un gd cn cs a' ccd cl' outer A₀ base h₀ L m s Q E B F X N T hk hP hd hu hret
  clear hP
  refine wpAny_call ?_
  k_dflt ktr_enter
  first | refine (let ak : Around := _; let nk : Env := _; let sg9 : Array GenState := _; let sd9 : Drawn := _; let so9 : OsState := _; (?_ : wpAny _ ak (execs _ nk) _ _ (Shared.mk _ sg9 sd9 _ so9))) | refine (let ak : Around := _; let nk : Env := _; (?_ : wpAny _ ak (execs _ nk) _ _ _))
  try (have TB9 : TopB ak _ _ (dp + 1) (un + 3) := topb_of rfl rfl (by assumption))
  try (have FE9 : FnE nk L'9q := ⟨rfl, rfl, rfl⟩)
  try (rename Fr _ _ _ (fun y => List.lookup y (List.reverse _)) => FX9; replace FX9 := fr_binds [(Str.ofString "text", (.str (Str.ofString "0") tt : Value))] rfl FX9)
  rename Stood _ _ _ => st
  (k_extra "st")
  all_goals exact spec_ret0 hret st (by assumption) (by assumption) (by assumption) (by assumption) _ (by exact fun _ h => h) (tupR_mk (by first | assumption | k_mem))
theorem read_2 (w : World) (mean : ExcName → Option Value) (mg mb : Str → Option Value) (tt : Tok) :
  Spec w mean mg mb 184 [.str (Str.ofString "-2") tt] [] 6 (fun h => True) (fun r _ tl => ∃ l, r = .ref l ∧ TupI tl l (-2) 1) := by
  unfold Spec
  k_fill
  intro dp un gd cn cs a' ccd cl' outer A₀ base h₀ L m s Q E B F X N T hk hP hd hu hret
  clear hP
  refine wpAny_call ?_
  k_dflt ktr_enter
  first | refine (let ak : Around := _; let nk : Env := _; let sg9 : Array GenState := _; let sd9 : Drawn := _; let so9 : OsState := _; (?_ : wpAny _ ak (execs _ nk) _ _ (Shared.mk _ sg9 sd9 _ so9))) | refine (let ak : Around := _; let nk : Env := _; (?_ : wpAny _ ak (execs _ nk) _ _ _))
  try (have TB9 : TopB ak _ _ (dp + 1) (un + 3) := topb_of rfl rfl (by assumption))
  try (have FE9 : FnE nk L'9q := ⟨rfl, rfl, rfl⟩)
  try (rename Fr _ _ _ (fun y => List.lookup y (List.reverse _)) => FX9; replace FX9 := fr_binds [(Str.ofString "text", (.str (Str.ofString "-2") tt : Value))] rfl FX9)
  rename Stood _ _ _ => st
  (k_extra "st")
  all_goals exact spec_ret0 hret st (by assumption) (by assumption) (by assumption) (by assumption) _ (by exact fun _ h => h) (tupR_mk (by first | assumption | k_mem))
theorem read_45 (w : World) (mean : ExcName → Option Value) (mg mb : Str → Option Value) (tt : Tok) :
  Spec w mean mg mb 184 [.str (Str.ofString "4.5") tt] [] 6 (fun h => True) (fun r _ tl => ∃ l, r = .ref l ∧ TupI tl l (9) 2) := by
  unfold Spec
  k_fill
  intro dp un gd cn cs a' ccd cl' outer A₀ base h₀ L m s Q E B F X N T hk hP hd hu hret
  clear hP
  refine wpAny_call ?_
  k_dflt ktr_enter
  first | refine (let ak : Around := _; let nk : Env := _; let sg9 : Array GenState := _; let sd9 : Drawn := _; let so9 : OsState := _; (?_ : wpAny _ ak (execs _ nk) _ _ (Shared.mk _ sg9 sd9 _ so9))) | refine (let ak : Around := _; let nk : Env := _; (?_ : wpAny _ ak (execs _ nk) _ _ _))
  try (have TB9 : TopB ak _ _ (dp + 1) (un + 3) := topb_of rfl rfl (by assumption))
  try (have FE9 : FnE nk L'9q := ⟨rfl, rfl, rfl⟩)
  try (rename Fr _ _ _ (fun y => List.lookup y (List.reverse _)) => FX9; replace FX9 := fr_binds [(Str.ofString "text", (.str (Str.ofString "4.5") tt : Value))] rfl FX9)
  rename Stood _ _ _ => st
  (k_extra "st")
  all_goals exact spec_ret0 hret st (by assumption) (by assumption) (by assumption) (by assumption) _ (by exact fun _ h => h) (tupR_mk (by first | assumption | k_mem))
theorem read_spec (w : World) (mean : ExcName → Option Value) (mg mb : Str → Option Value) (tt : Tok) (x : Str) (a b : Int) (hx : (x = Str.ofString "0" ∧ a = 0 ∧ b = 1) ∨ (x = Str.ofString "3" ∧ a = 3 ∧ b = 1) ∨ (x = Str.ofString "-2" ∧ a = -2 ∧ b = 1) ∨ (x = Str.ofString "4.5" ∧ a = 9 ∧ b = 2)) :
  Spec w mean mg mb 184 [.str x tt] [] 6 (fun h => True) (fun r _ tl => ∃ l, r = .ref l ∧ TupI tl l a b) := by
  rcases hx with ⟨rfl, rfl, rfl⟩ | ⟨rfl, rfl, rfl⟩ | ⟨rfl, rfl, rfl⟩ | ⟨rfl, rfl, rfl⟩
  · exact read_0 _ _ _ _ _
  · exact read_3 _ _ _ _ _
  · exact read_2 _ _ _ _ _
  · exact read_45 _ _ _ _ _
noncomputable def T4 (x : Str) (a b : Int) : Prop := (x = Str.ofString "0" ∧ a = 0 ∧ b = 1) ∨ (x = Str.ofString "3" ∧ a = 3 ∧ b = 1) ∨ (x = Str.ofString "-2" ∧ a = -2 ∧ b = 1) ∨ (x = Str.ofString "4.5" ∧ a = 9 ∧ b = 2)
theorem T4.txt {x : Str} {a b : Int} (hx : T4 x a b) : x = Str.ofString "0" ∨ x = Str.ofString "3" ∨ x = Str.ofString "-2" ∨ x = Str.ofString "4.5" := by
  k_with_none
  w_top off
  (k_with "an" => (first | assumption | exact And.left (by assumption) | exact And.left (And.right (by assumption)) | exact And.left (And.right (And.right (by assumption))) | exact And.left (And.right (And.right (And.right (by assumption)))) | exact And.left (And.right (And.right (And.right (And.right (by assumption))))) | exact And.left (And.right (And.right (And.right (And.right (And.right (by assumption)))))) | exact And.left (And.right (And.right (And.right (And.right (And.right (And.right (by assumption))))))) | exact And.left (And.right (And.right (And.right (And.right (And.right (And.right (And.right (by assumption)))))))) | exact And.left (And.right (And.right (And.right (And.right (And.right (And.right (And.right (And.right (by assumption)))))))))))
  (k_with "k_ne" => (refine neN ?_; (try dsimp only); first | (refine Nat.ne_of_lt ?_; k_extra "an") | (refine Nat.ne_of_gt ?_; k_extra "an")))
  (k_with "sub" => (first | assumption | (refine List.mem_append_left _ ?_; k_extra "sub") | (refine List.mem_append_right _ ?_; k_extra "sub") | (refine List.Mem.tail _ ?_; k_extra "sub")))
  (k_with "rm" => (first | exact room_of 1 rfl (by assumption) rfl | exact room_of 0 rfl (by assumption) rfl | exact room_of1 1 rfl (by assumption) rfl | exact room_of1 0 rfl (by assumption) rfl | ktr_room))
  (k_with "un" => (first | exact units_of 3 rfl (by assumption) rfl | exact units_of 4 rfl (by assumption) rfl | exact units_of 0 rfl (by assumption) rfl | ktr_units))
  (k_with "st" => (repeat' (first | ((with_reducible show wpAny _ _ (PySem.exec _ _) _ _ _); k_fold) | ((fail_if_success (fail_if_success k_unfold)); (show wpAny _ _ _ _ _ _); (try dsimp only)) | (k_unfold; (try dsimp only)) | (k_end; wrow_close) | walk1 | (dsimp only; walk1) | (leave1; walk_say "STEP leave1"; try dsimp only) | fail "no step")))
  (k_with "D" => try ((with_reducible show wpAny _ _ _ _ _ (Shared.mk (Shared.heap _) _ _ _ _)); dsimp only))
  (k_with "E0" => ((case F => k_asm); (case V => first | assumption | exact ⟨rfl, rfl, rfl⟩)))
  (k_with "E" => (k_extra "E0"; (case e => exact rfl)))
  (k_with "S" => (intro h'8q tk'8q F'8q N'8q; (try k_sweep)))
  (k_with "A" => (intro l'8q h'8q F'8q N'8q l18q; (try k_lt l18q); (try k_sweep)))
  (k_with "spliced" => (k_here; k_extra "D"; k_dflt (first | ((with_reducible refine' s_args ?V ?F ?e ?_); k_extra "E"; k_whole; (try dsimp only [List.cons_append, List.nil_append])))))
  (k_with "evalPairs" => (k_here; k_extra "D"; k_dflt (first | ((with_reducible refine' s_pair ?V ?F ?e ?f ?_); k_extra "E"; (case f => exact rfl); k_whole))))
  (k_with "eval BinOp" => (k_here; k_extra "D"; k_dflt (first | ((with_reducible refine' s_bin ?V ?F ?e ?f ?_); k_extra "E"; (case f => exact rfl); k_whole) | ((with_reducible refine' s_binL ?V ?F ?e ?_); k_extra "E"; k_whole))))
  (k_with "isTrue Compare" => (k_here; k_extra "D"; k_dflt (first | ((with_reducible refine' s_cmp ?V ?F ?e ?f ?h ?_); k_extra "E"; (case f => exact rfl); (case h => with_unfolding_all rfl); k_whole) | ((with_reducible refine' s_cmpL ?V ?F ?e ?h ?_); k_extra "E"; (case h => with_unfolding_all rfl); k_whole))))
  (k_with "eval Subscript" => (k_here; k_extra "D"; k_dflt (first | ((with_reducible refine' s_sub ?V ?F ?e ?f ?_); k_extra "E"; (case f => exact rfl); k_whole) | ((with_reducible refine' s_subL ?V ?F ?e ?_); k_extra "E"; k_whole))))
  (k_with "eval List" => (k_here; k_extra "D"; k_dflt (first | ((with_reducible refine' s_list ?V ?F ?e ?_); k_extra "E"; k_whole))))
  (k_with "eval Tuple" => (k_here; k_extra "D"; k_dflt (first | ((with_reducible refine' s_tuple ?V ?F ?e ?_); k_extra "E"; k_whole))))
  (k_with "exec Return some" => (k_here; k_extra "D"; k_dflt (first | ((with_reducible refine' s_ret ?V ?F ?e ?_); k_extra "E"; k_whole))))
  (k_with "eval Attribute Name" => (k_here; k_extra "D"; k_dflt (first | ((with_reducible refine' s_attr ?V ?F ?e ?_ ?h); k_extra "E"; (case h => with_unfolding_all rfl); k_whole))))
  (k_with "execs cons" => (k_here; k_extra "D"; k_dflt (first | k_gentoks | ((with_reducible refine' c_asgS ?V ?F ?N ?e ?x ?_ ?h); k_extra "E"; (case N => k_asm); (case x => exact rfl); (case h => exact rfl); k_whole; k_extra "S") | ((with_reducible refine' c_asg ?_ ?h); (case h => exact rfl); k_whole; (try refine (let qk8q : Value → Shared → Prop := _; (?_ : wpAny _ _ _ qk8q _ _)))) | ((with_reducible refine' c_retS ?V ?F ?e ?_); k_extra "E"; k_whole) | (with_reducible refine c_ret ?_))))
  (k_with "storeName" => (k_here; k_extra "D"; k_dflt (first | ((with_reducible refine' c_store ?V ?F ?N ?x ?_); k_extra "E0"; (case N => k_asm); (case x => exact rfl); k_whole; k_extra "S"))))
  (k_with "newList" => (k_here; k_extra "D"; k_dflt (first | ((with_reducible refine' c_newList ?F ?N ?_ ?z); (case F => k_asm); (case N => k_asm); (case z => size_fits); k_extra "A"))))
  (k_with "newTuple" => (k_here; k_extra "D"; k_dflt (first | ((with_reducible refine' c_newTuple ?F ?N ?_ ?z); (case F => k_asm); (case N => k_asm); (case z => kmk_size); k_extra "A"))))
  (k_with "binaryOp Mult int int" => (k_here; k_extra "D"; k_dflt (first | ((with_reducible refine' c_mul ?_ ?z); (case z => mul_fits)))))
  (k_with "binaryOp Add int int" => (k_here; k_extra "D"; k_dflt (first | (with_reducible refine c_add ?_))))
  (k_with "binaryOp Sub int int" => (k_here; k_extra "D"; k_dflt (first | (with_reducible refine c_sub ?_))))
  (k_with "unaryOp USub int" => (k_here; k_extra "D"; k_dflt (first | (with_reducible refine c_neg ?_))))
  (k_with "callWith ref" => (k_here; k_extra "D"; k_dflt (first | ((with_reducible refine' s_with ?V ?F ?X ?k ?e ?_); k_extra "E"; (case X => k_asm); (case k => k_is); k_whole))))
  (k_with "eval Call" => (k_here; k_extra "D"; k_dflt (first | ((with_reducible refine' s_call ?V ?F ?X ?T ?n ?x ?d ?k ?e ?_ ?h); k_extra "E"; (case x => exact rfl); (case X => k_asm); (case T => k_asm); (case d => decide); (case n => k_is); (case k => k_is); (case h => exact rfl); k_whole))))
  (k_with "eval Name" => (k_here; k_extra "D"; k_dflt (first | ((with_reducible refine' s_val ?V ?F ?e ?_); k_extra "E"; k_whole))))
  (k_with "ktr_enter" => first
  | (refine' codeG ?k1 ?k2 ?k3 ?k4 ?k5 ?kA ?kF ?kK ?k6 ?k7 ?k8 ?k9 ?kB ?_ ?c2 ?c3 ?c4 ?c5; (case kA => exact rfl); (case kF => exact rfl); (case kK => assumption); (case k1 => first | k_asm | exact topb_of rfl rfl (by k_asm)); (case k2 => k_asm); (case k3 => k_asm); (case k4 => k_asm); (case k5 => k_asm); (case k6 => k_is); (case k7 => k_is); (case k8 => (k_extra "rm")); (case k9 => first | exact BindsTo.of_eq rfl | exact binds_K (by k_in) rfl (by k_is) rfl rfl rfl); (case c5 => decide); (case kB => exact locs rfl); (case c2 => exact rfl); (case c3 => exact rfl); (case c4 => exact rfl); k_whole; intro g'9q L'9q h'9q tk'9q st'9q FG'9q F'9q N'9q B'9q X'9q T'9q l1'9q; (try dsimp only); (try k_fold)))
  (k_with "k_inst" => exact inst_base (by k_asm) (by assumption) (by assumption))
  (k_with "getMethod ref" => (k_here; (with_reducible show wpAny _ _ (getMethod (Value.ref _) (Str.ofString "get") _) _ _ _); k_dflt (refine sd_method (SDict.base (by k_asm) (by assumption)) ?_)))
  (k_with "call builtin:dict.get" => (k_here; (with_reducible show wpAny _ _ (call (Value.builtin "dict.get") [Value.ref _, Value.str _ _]) _ _ _); k_dflt (first
  | (refine sd_get1s (SDict.base (by k_asm) (by assumption)) (by assumption) ?_; intro t'9q)
  | (refine sd_get1n (SDict.base (by k_asm) (by assumption)) (by assumption) ?_)
  | (refine sd_get1 (SDict.base (by k_asm) (by assumption)) (fun hg09q => ?_) (fun v'9q t'9q hg19q => ?_)))))
  (k_with "k_room" => (k_extra "rm"))
  (k_with "subscriptTail" => (k_here; (with_reducible show wpAny _ _ (subscriptTail _ _ (Value.ref _) (Value.str _ _)) _ _ _); k_dflt (refine sd_item (SDict.base (by k_asm) (by assumption)) (by assumption) ?_); intro t'9q))
  (k_with "call ref" => (k_here; (with_reducible show wpAny _ _ (call (Value.ref _) _) _ _ _); (try k_fold); k_dflt (refine' spec_use0 ?S ?k1 ?k2 ?k3 ?k4 ?k5 ?kK ?kP ?kd ?ku ?_; (case S => assumption); (case k1 => first | k_asm | exact topb_of rfl rfl (by k_asm)); (case k2 => k_asm); (case k3 => k_asm); (case k4 => k_asm); (case k5 => k_asm); (case kK => exact rfl); (case kP => first | exact trivial | exact ElOf.base (by k_asm) (by assumption)); (case kd => (k_extra "rm")); (case ku => (k_extra "un"))); intro r'9q tl'9q h'9q tk'9q F'9q N'9q fr'9q st'9q hR'9q; (try dsimp only at hR'9q)))
  (k_with "k_mem" => ((show _ ∈ (_ ++ _ : List (Addr × Obj))); first | (refine List.mem_append_right _ ?_; k_mem) | (refine List.mem_append_left _ ?_; k_mem)))
  (k_with "call builtin:dict.get" => (k_here; (with_reducible show wpAny _ _ (call (Value.builtin "dict.get") [Value.ref _, Value.str _ _, Value.str _ _]) _ _ _); k_dflt (refine sd_get2L (SDict.base (by k_asm) (by assumption)) (by first | assumption | decide) ?_); intro t'9q hlen'9q))
  rcases hx with ⟨h, _, _⟩ | ⟨h, _, _⟩ | ⟨h, _, _⟩ | ⟨h, _, _⟩ <;> simp only [h, true_or, or_true]
theorem T4.num {x : Str} {a b : Int} (hx : T4 x a b) : (a = 0 ∧ b = 1) ∨ (a = 3 ∧ b = 1) ∨ (a = -2 ∧ b = 1) ∨ (a = 9 ∧ b = 2) := by
  rcases hx with ⟨_, h⟩ | ⟨_, h⟩ | ⟨_, h⟩ | ⟨_, h⟩ <;> simp only [h, true_or, or_true, and_self]
theorem item_dict {w : World} {A : Around} {E : Value → Shared → Prop} {s : Shared} {h₀ : Heap} {L d : Addr} {m : Str → Option Value} {news : List (Addr × Obj)} {o : Obj} {kvs : List (Str × Value)} {k : Str} {t : Tok} {v : Value} {value slice : PySem.Expr} {Q : Value → Shared → Prop}
    (N : News h₀ L s.heap news) (hm : (d, o) ∈ news) (hd : o.IsDictOf (PySem.strKind PG w) kvs) (hv : valueAt kvs k = some v) (h : Q v { s with toks := s.toks + 1 })
    (hs : subscripted slice false (.ref d) (.str k t) = operate [.ref d, .str k t] (getItem (.ref d) (.str k t)) := by with_unfolding_all rfl) (hg : ∀ r, letTemporaryGo value (.ref d) r = pure () := by intro _; with_unfolding_all rfl) :
    wpAny (model PG w) A (subscriptTail value slice (.ref d) (.str k t)) Q E s := by
  (k_with "call ref" => (k_here; (with_reducible show wpAny _ _ (call (Value.ref 114) _) _ _ _); (try k_fold); k_dflt ((refine' use_objR (times_spec _ _ _ _ _ _ _ _ (T4.num (by assumption))) ?k1 ?k2 ?k3 ?k4 ?k5 ?kK ?kP ?kd ?ku ?_; (case k1 => first | k_asm | exact topb_of rfl rfl (by k_asm)); (case k2 => k_asm); (case k3 => k_asm); (case k4 => k_asm); (case k5 => k_asm); (case kK => exact rfl); (case kP => (exact ⟨(tupH_mk (News.get (by k_asm) (by k_mem))), (tupH_mk (News.get (by k_asm) (by k_mem)))⟩)); (case kd => (k_extra "rm")); (case ku => (k_extra "un")))); intro l'9q n'9q t1'9q t2'9q h'9q tk'9q F'9q N'9q; (try dsimp only)))
  (k_with "call ref" => (k_here; (with_reducible show wpAny _ _ (call (Value.ref 184) _) _ _ _); (try k_fold); k_dflt ((refine' use_objR (read_spec _ _ _ _ _ _ _ _ (by assumption)) ?k1 ?k2 ?k3 ?k4 ?k5 ?kK ?kP ?kd ?ku ?_; (case k1 => first | k_asm | exact topb_of rfl rfl (by k_asm)); (case k2 => k_asm); (case k3 => k_asm); (case k4 => k_asm); (case k5 => k_asm); (case kK => exact rfl); (case kP => (exact trivial)); (case kd => (k_extra "rm")); (case ku => (k_extra "un")))); intro l'9q n'9q t1'9q t2'9q h'9q tk'9q F'9q N'9q; (try dsimp only)))
  (k_with "call ref" => (k_here; (with_reducible show wpAny _ _ (call (Value.ref 229) _) _ _ _); (try k_fold); k_dflt ((refine' use_obj (unit_spec _ _ _ _ _ _ (T4.txt (by assumption))) ?k1 ?k2 ?k3 ?k4 ?k5 ?kK ?kP ?kd ?ku ?_; (case k1 => first | k_asm | exact topb_of rfl rfl (by k_asm)); (case k2 => k_asm); (case k3 => k_asm); (case k4 => k_asm); (case k5 => k_asm); (case kK => exact rfl); (case kP => (exact trivial)); (case kd => (k_extra "rm")); (case ku => (k_extra "un")))); intro l'9q n'9q t1'9q t2'9q h'9q tk'9q F'9q N'9q; (try dsimp only)))
  (k_with "ite" => (first | with_reducible refine ite_ff ?_ | with_reducible refine ite_tt ?_))
  (k_with "compareOp Eq str str" => (k_here; (with_reducible show wpAny _ _ (compareOp CmpOp.Eq (Value.str (Str.ofString _) _) (Value.str (Str.ofString _) _)) _ _ _); k_dflt (first | refine eq_dec false (by decide +kernel) ?_ | refine eq_dec true (by decide +kernel) ?_)))
  have hD : s.heap.DictOf (PySem.strKind PG w) d kvs := Heap.dictOf_iff.mpr ⟨o, (N _ hm).1, hd⟩
  exact subscriptTail_builtin hD.typeIs slot_dict_getitem.lookup (wpAny_getItem_of (strKind_is PG w k t) hD.mapOf hv h) hs hg
theorem length_spec (w : World) (mean : ExcName → Option Value) (mg mb : Str → Option Value) (tt : Tok) (x : Str) (a b : Int) (hx : T4 x a b) (la : Addr) :
  Spec w mean mg mb 238 [.str x tt, .ref la] [] 8 (fun h => True) (fun r _ tl => ∃ l, r = .ref l ∧ TupI tl l a b) := by
  (k_with "eval Dict" => (k_here; k_dflt (refine' kdn_eval (knd := PySem.strKind _ _) ?F ?N ?b ?a ?l ?e ?n ?_; (case F => k_asm); (case N => first | k_asm | exact News.nil); (case b => exact Top.nolimit (by k_asm)); (case a => rfl); (case l => rfl); (case e => exact List.cons_ne_nil _ _); (case n => exact Nat.le_of_ble_eq_true rfl)); intro d'9q h'9q o'9q F'9q N'9q l19q lo'9q hd'9q; (try k_lt l19q)))
  (k_with "subscriptTail" => (k_here; (with_reducible show wpAny _ _ (subscriptTail _ _ (Value.ref _) (Value.str _ _)) _ _ _); k_dflt (refine item_dict (by k_asm) (by k_mem) (by assumption) rfl ?_)))
  unfold Spec
  k_fill
  intro dp un gd cn cs a' ccd cl' outer A₀ base h₀ L m s Q E B F X N T hk hP hd hu hret
  clear hP
  refine wpAny_call ?_
  k_dflt ktr_enter
  first | refine (let ak : Around := _; let nk : Env := _; let sg9 : Array GenState := _; let sd9 : Drawn := _; let so9 : OsState := _; (?_ : wpAny _ ak (execs _ nk) _ _ (Shared.mk _ sg9 sd9 _ so9))) | refine (let ak : Around := _; let nk : Env := _; (?_ : wpAny _ ak (execs _ nk) _ _ _))
  try (have TB9 : TopB ak _ _ (dp + 1) (un + 3) := topb_of rfl rfl (by assumption))
  try (have FE9 : FnE nk L'9q := ⟨rfl, rfl, rfl⟩)
  rename Stood _ _ _ => st
  (k_extra "st")
  exact spec_ret0 hret st (by assumption) (by assumption) (by assumption) (by assumption) _ (by exact fun _ h => h) (tupR_mk (by k_mem))
theorem write_spec (w : World) (mean : ExcName → Option Value) (mg mb : Str → Option Value) (la : Addr) (a b : Int) (x : Str) (hx : (x = Str.ofString "0" ∧ a = 0 ∧ b = 1) ∨ (x = Str.ofString "3" ∧ a = 3 ∧ b = 1) ∨ (x = Str.ofString "-2" ∧ a = -2 ∧ b = 1) ∨ (x = Str.ofString "4.5" ∧ a = 9 ∧ b = 2)) :
  Spec w mean mg mb 192 [.ref la] [] 2 (fun h => TupH h la a b) (fun r _ tl => tl = [] ∧ ∃ t, r = .str x t) := by
  k_with_none
  w_top off
  (k_with "an" => (first | assumption | exact And.left (by assumption) | exact And.left (And.right (by assumption)) | exact And.left (And.right (And.right (by assumption))) | exact And.left (And.right (And.right (And.right (by assumption)))) | exact And.left (And.right (And.right (And.right (And.right (by assumption))))) | exact And.left (And.right (And.right (And.right (And.right (And.right (by assumption)))))) | exact And.left (And.right (And.right (And.right (And.right (And.right (And.right (by assumption))))))) | exact And.left (And.right (And.right (And.right (And.right (And.right (And.right (And.right (by assumption)))))))) | exact And.left (And.right (And.right (And.right (And.right (And.right (And.right (And.right (And.right (by assumption)))))))))))
  (k_with "k_ne" => (refine neN ?_; (try dsimp only); first | (refine Nat.ne_of_lt ?_; k_extra "an") | (refine Nat.ne_of_gt ?_; k_extra "an")))
  (k_with "sub" => (first | assumption | (refine List.mem_append_left _ ?_; k_extra "sub") | (refine List.mem_append_right _ ?_; k_extra "sub") | (refine List.Mem.tail _ ?_; k_extra "sub")))
  (k_with "rm" => (first | exact room_of 1 rfl (by assumption) rfl | exact room_of 0 rfl (by assumption) rfl | exact room_of1 1 rfl (by assumption) rfl | exact room_of1 0 rfl (by assumption) rfl | ktr_room))
  (k_with "un" => (first | exact units_of 3 rfl (by assumption) rfl | exact units_of 4 rfl (by assumption) rfl | exact units_of 0 rfl (by assumption) rfl | ktr_units))
  (k_with "gn" => refine (let P9 : Prop := _; (?_ : P9)))
  (k_with "st" => (repeat' (first | ((with_reducible show wpAny _ _ (PySem.exec _ _) _ _ _); k_fold) | ((fail_if_success (fail_if_success k_unfold)); (show wpAny _ _ _ _ _ _); (try dsimp only)) | (k_unfold; (try dsimp only)) | (k_end; wrow_close) | walk1 | (dsimp only; walk1) | (leave1; walk_say "STEP leave1"; try dsimp only) | fail "no step")))
  (k_with "D" => try ((with_reducible show wpAny _ _ _ _ _ (Shared.mk (Shared.heap _) _ _ _ _)); dsimp only))
  (k_with "E0" => ((case F => k_asm); (case V => first | assumption | exact ⟨rfl, rfl, rfl⟩)))
  (k_with "E" => (k_extra "E0"; (case e => exact rfl)))
  (k_with "S" => (intro h'8q tk'8q F'8q N'8q; (try k_sweep)))
  (k_with "A" => (intro l'8q h'8q F'8q N'8q l18q; (try k_lt l18q); (try k_sweep)))
  (k_with "spliced" => (k_here; k_extra "D"; k_dflt (first | ((with_reducible refine' s_args ?V ?F ?e ?_); k_extra "E"; k_whole; (try dsimp only [List.cons_append, List.nil_append])))))
  (k_with "evalPairs" => (k_here; k_extra "D"; k_dflt (first | ((with_reducible refine' s_pair ?V ?F ?e ?f ?_); k_extra "E"; (case f => exact rfl); k_whole))))
  (k_with "eval BinOp" => (k_here; k_extra "D"; k_dflt (first | ((with_reducible refine' s_bin ?V ?F ?e ?f ?_); k_extra "E"; (case f => exact rfl); k_whole) | ((with_reducible refine' s_binL ?V ?F ?e ?_); k_extra "E"; k_whole))))
  (k_with "isTrue Compare" => (k_here; k_extra "D"; k_dflt (first | ((with_reducible refine' s_cmp ?V ?F ?e ?f ?h ?_); k_extra "E"; (case f => exact rfl); (case h => with_unfolding_all rfl); k_whole) | ((with_reducible refine' s_cmpL ?V ?F ?e ?h ?_); k_extra "E"; (case h => with_unfolding_all rfl); k_whole))))
  (k_with "eval Subscript" => (k_here; k_extra "D"; k_dflt (first | ((with_reducible refine' s_sub ?V ?F ?e ?f ?_); k_extra "E"; (case f => exact rfl); k_whole) | ((with_reducible refine' s_subL ?V ?F ?e ?_); k_extra "E"; k_whole))))
  (k_with "eval List" => (k_here; k_extra "D"; k_dflt (first | ((with_reducible refine' s_list ?V ?F ?e ?_); k_extra "E"; k_whole))))
  (k_with "eval Tuple" => (k_here; k_extra "D"; k_dflt (first | ((with_reducible refine' s_tuple ?V ?F ?e ?_); k_extra "E"; k_whole))))
  (k_with "exec Return some" => (k_here; k_extra "D"; k_dflt (first | ((with_reducible refine' s_ret ?V ?F ?e ?_); k_extra "E"; k_whole))))
  (k_with "eval Attribute Name" => (k_here; k_extra "D"; k_dflt (first | ((with_reducible refine' s_attr ?V ?F ?e ?_ ?h); k_extra "E"; (case h => with_unfolding_all rfl); k_whole))))
  (k_with "execs cons" => (k_here; k_extra "D"; k_dflt (first | k_gentoks | ((with_reducible refine' c_asgS ?V ?F ?N ?e ?x ?_ ?h); k_extra "E"; (case N => k_asm); (case x => exact rfl); (case h => exact rfl); k_whole; k_extra "S") | ((with_reducible refine' c_asg ?_ ?h); (case h => exact rfl); k_whole; (try refine (let qk8q : Value → Shared → Prop := _; (?_ : wpAny _ _ _ qk8q _ _)))) | ((with_reducible refine' c_retS ?V ?F ?e ?_); k_extra "E"; k_whole) | (with_reducible refine c_ret ?_))))
  (k_with "storeName" => (k_here; k_extra "D"; k_dflt (first | ((with_reducible refine' c_store ?V ?F ?N ?x ?_); k_extra "E0"; (case N => k_asm); (case x => exact rfl); k_whole; k_extra "S"))))
  (k_with "newList" => (k_here; k_extra "D"; k_dflt (first | ((with_reducible refine' c_newList ?F ?N ?_ ?z); (case F => k_asm); (case N => k_asm); (case z => size_fits); k_extra "A"))))
  (k_with "newTuple" => (k_here; k_extra "D"; k_dflt (first | ((with_reducible refine' c_newTuple ?F ?N ?_ ?z); (case F => k_asm); (case N => k_asm); (case z => kmk_size); k_extra "A"))))
  (k_with "binaryOp Mult int int" => (k_here; k_extra "D"; k_dflt (first | ((with_reducible refine' c_mul ?_ ?z); (case z => mul_fits)))))
  (k_with "binaryOp Add int int" => (k_here; k_extra "D"; k_dflt (first | (with_reducible refine c_add ?_))))
  (k_with "binaryOp Sub int int" => (k_here; k_extra "D"; k_dflt (first | (with_reducible refine c_sub ?_))))
  (k_with "unaryOp USub int" => (k_here; k_extra "D"; k_dflt (first | (with_reducible refine c_neg ?_))))
  (k_with "callWith ref" => (k_here; k_extra "D"; k_dflt (first | ((with_reducible refine' s_with ?V ?F ?X ?k ?e ?_); k_extra "E"; (case X => k_asm); (case k => k_is); k_whole))))
  (k_with "eval Call" => (k_here; k_extra "D"; k_dflt (first | ((with_reducible refine' s_call ?V ?F ?X ?T ?n ?x ?d ?k ?e ?_ ?h); k_extra "E"; (case x => exact rfl); (case X => k_asm); (case T => k_asm); (case d => decide); (case n => k_is); (case k => k_is); (case h => exact rfl); k_whole))))
  (k_with "eval Name" => (k_here; k_extra "D"; k_dflt (first | ((with_reducible refine' s_val ?V ?F ?e ?_); k_extra "E"; k_whole))))
  (k_with "ktr_enter" => first
  | (refine' codeG ?k1 ?k2 ?k3 ?k4 ?k5 ?kA ?kF ?kK ?k6 ?k7 ?k8 ?k9 ?kB ?_ ?c2 ?c3 ?c4 ?c5; (case kA => exact rfl); (case kF => exact rfl); (case kK => assumption); (case k1 => first | k_asm | exact topb_of rfl rfl (by k_asm)); (case k2 => k_asm); (case k3 => k_asm); (case k4 => k_asm); (case k5 => k_asm); (case k6 => k_is); (case k7 => k_is); (case k8 => (k_extra "rm")); (case k9 => first | exact BindsTo.of_eq rfl | exact binds_K (by k_in) rfl (by k_is) rfl rfl rfl); (case c5 => decide); (case kB => exact locs rfl); (case c2 => exact rfl); (case c3 => exact rfl); (case c4 => exact rfl); k_whole; intro g'9q L'9q h'9q tk'9q st'9q FG'9q F'9q N'9q B'9q X'9q T'9q l1'9q; (try dsimp only); (try k_fold)))
  (k_with "k_inst" => exact inst_base (by k_asm) (by assumption) (by assumption))
  (k_with "getMethod ref" => (k_here; (with_reducible show wpAny _ _ (getMethod (Value.ref _) (Str.ofString "get") _) _ _ _); k_dflt (refine sd_method (SDict.base (by k_asm) (by assumption)) ?_)))
  (k_with "call builtin:dict.get" => (k_here; (with_reducible show wpAny _ _ (call (Value.builtin "dict.get") [Value.ref _, Value.str _ _]) _ _ _); k_dflt (first
  | (refine sd_get1s (SDict.base (by k_asm) (by assumption)) (by assumption) ?_; intro t'9q)
  | (refine sd_get1n (SDict.base (by k_asm) (by assumption)) (by assumption) ?_)
  | (refine sd_get1 (SDict.base (by k_asm) (by assumption)) (fun hg09q => ?_) (fun v'9q t'9q hg19q => ?_)))))
  (k_with "k_room" => (k_extra "rm"))
  (k_with "subscriptTail" => (k_here; (with_reducible show wpAny _ _ (subscriptTail _ _ (Value.ref _) (Value.str _ _)) _ _ _); k_dflt (refine sd_item (SDict.base (by k_asm) (by assumption)) (by assumption) ?_); intro t'9q))
  (k_with "call ref" => (k_here; (with_reducible show wpAny _ _ (call (Value.ref _) _) _ _ _); (try k_fold); k_dflt (refine' spec_use0 ?S ?k1 ?k2 ?k3 ?k4 ?k5 ?kK ?kP ?kd ?ku ?_; (case S => assumption); (case k1 => first | k_asm | exact topb_of rfl rfl (by k_asm)); (case k2 => k_asm); (case k3 => k_asm); (case k4 => k_asm); (case k5 => k_asm); (case kK => exact rfl); (case kP => first | exact trivial | exact ElOf.base (by k_asm) (by assumption)); (case kd => (k_extra "rm")); (case ku => (k_extra "un"))); intro r'9q tl'9q h'9q tk'9q F'9q N'9q fr'9q st'9q hR'9q; (try dsimp only at hR'9q)))
  (k_with "k_mem" => ((show _ ∈ (_ ++ _ : List (Addr × Obj))); first | (refine List.mem_append_right _ ?_; k_mem) | (refine List.mem_append_left _ ?_; k_mem)))
  (k_with "call builtin:dict.get" => (k_here; (with_reducible show wpAny _ _ (call (Value.builtin "dict.get") [Value.ref _, Value.str _ _, Value.str _ _]) _ _ _); k_dflt (refine sd_get2L (SDict.base (by k_asm) (by assumption)) (by first | assumption | decide) ?_); intro t'9q hlen'9q))
  (k_with "subscriptTail" => (k_here; (with_reducible show wpAny _ _ (subscriptTail _ _ (Value.ref _) (Value.int _ _)) _ _ _); k_dflt (refine item_tupleT (tup_base (by k_asm) (by assumption)) (by decide) (by decide) rfl rfl ?_)))
  (k_with "storeName" => (k_here; (with_reducible show wpAny _ _ (storeName _ _ (Value.int _ _)) _ _ _); (fail_if_success (with_reducible show wpAny _ _ (storeName _ _ (Value.int (OfNat.ofNat _) _)) _ _ _)); (refine lit_arg (fun v9q => storeName _ _ (Value.int v9q _)) _ _ (by conv => (lhs; simp)) ?_); (try dsimp only)))
  (k_with "call type:str" => (k_here; (with_reducible show wpAny _ _ (call (Value.type "str") [Value.int _ _]) _ _ _); (fail_if_success (with_reducible show wpAny _ _ (call (Value.type "str") [Value.int (OfNat.ofNat _) _]) _ _ _)); (refine lit_arg (fun v9q => call (Value.type "str") [Value.int v9q _]) _ _ (by conv => (lhs; simp)) ?_); (try dsimp only)))
  (k_with "storeName" => (k_here; (with_reducible show wpAny _ _ (storeName _ _ (Value.str _ _)) _ _ _); (fail_if_success (with_reducible show wpAny _ _ (storeName _ _ (Value.str (Str.ofString _) _)) _ _ _)); (first | (refine lit_arg (fun v9q => storeName _ _ (Value.str v9q _)) _ (Str.ofString "500000") (by decide +kernel) ?_) | (refine lit_arg (fun v9q => storeName _ _ (Value.str v9q _)) _ (Str.ofString "50000") (by decide +kernel) ?_) | (refine lit_arg (fun v9q => storeName _ _ (Value.str v9q _)) _ (Str.ofString "5000") (by decide +kernel) ?_) | (refine lit_arg (fun v9q => storeName _ _ (Value.str v9q _)) _ (Str.ofString "500") (by decide +kernel) ?_) | (refine lit_arg (fun v9q => storeName _ _ (Value.str v9q _)) _ (Str.ofString "50") (by decide +kernel) ?_) | (refine lit_arg (fun v9q => storeName _ _ (Value.str v9q _)) _ (Str.ofString "5") (by decide +kernel) ?_) | (refine lit_arg (fun v9q => storeName _ _ (Value.str v9q _)) _ (Str.ofString "4.5") (by decide +kernel) ?_) | (refine lit_arg (fun v9q => storeName _ _ (Value.str v9q _)) _ (Str.ofString "4") (by decide +kernel) ?_) | (refine lit_arg (fun v9q => storeName _ _ (Value.str v9q _)) _ (Str.ofString "0") (by decide +kernel) ?_) | (refine lit_arg (fun v9q => storeName _ _ (Value.str v9q _)) _ (Str.ofString "3") (by decide +kernel) ?_) | (refine lit_arg (fun v9q => storeName _ _ (Value.str v9q _)) _ (Str.ofString "2") (by decide +kernel) ?_)); (try dsimp only)))
  unfold Spec
  k_fill
  intro dp un gd cn cs a' ccd cl' outer A₀ base h₀ L m s Q E B F X N T hk hP hd hu hret
  refine wpAny_call ?_
  k_dflt ktr_enter
  first | refine (let ak : Around := _; let nk : Env := _; let sg9 : Array GenState := _; let sd9 : Drawn := _; let so9 : OsState := _; (?_ : wpAny _ ak (execs _ nk) _ _ (Shared.mk _ sg9 sd9 _ so9))) | refine (let ak : Around := _; let nk : Env := _; (?_ : wpAny _ ak (execs _ nk) _ _ _))
  try (have TB9 : TopB ak _ _ (dp + 1) (un + 3) := topb_of rfl rfl (by assumption))
  try (have FE9 : FnE nk L'9q := ⟨rfl, rfl, rfl⟩)
  rename Stood _ _ _ => st
  k_extra "gn"; (obtain ⟨n1, t1, t2, hP⟩ := hP) <;> k_unfold
  replace hP := st _ _ hP (fun h => nomatch h)
  k_extra "gn"; (rcases hx with ⟨rfl, rfl, rfl⟩ | ⟨rfl, rfl, rfl⟩ | ⟨rfl, rfl, rfl⟩ | ⟨rfl, rfl, rfl⟩) <;> k_unfold
  all_goals (k_extra "st")
  all_goals exact spec_ret0 hret st (by assumption) (by assumption) (by assumption) (by assumption) [] (fun _ h => nomatch h) ⟨rfl, _, congrArg (fun z => Value.str z _) (by decide +kernel)⟩
theorem get_spec (w : World) (mean : ExcName → Option Value) (mg mb : Str → Option Value) (v : Value) (name text : Str) (attrs : List (Str × Str)) (kids : List El) (k c : Str) (tk tc : Tok) (hc : c.length ≤ 4000) :
  Spec w mean mg mb 214 [v, .str k tk, .str c tc] [] 1 (fun h => ElOf w (HG h) v (.mk name attrs kids text)) (fun r _ tl => tl = [] ∧ ((attrs.lookup k).getD c).length ≤ 4000 ∧ ∃ t, r = .str ((attrs.lookup k).getD c) t) := by
  k_with_none
  w_top off
  (k_with "an" => (first | assumption | exact And.left (by assumption) | exact And.left (And.right (by assumption)) | exact And.left (And.right (And.right (by assumption))) | exact And.left (And.right (And.right (And.right (by assumption)))) | exact And.left (And.right (And.right (And.right (And.right (by assumption))))) | exact And.left (And.right (And.right (And.right (And.right (And.right (by assumption)))))) | exact And.left (And.right (And.right (And.right (And.right (And.right (And.right (by assumption))))))) | exact And.left (And.right (And.right (And.right (And.right (And.right (And.right (And.right (by assumption)))))))) | exact And.left (And.right (And.right (And.right (And.right (And.right (And.right (And.right (And.right (by assumption)))))))))))
  (k_with "k_ne" => (refine neN ?_; (try dsimp only); first | (refine Nat.ne_of_lt ?_; k_extra "an") | (refine Nat.ne_of_gt ?_; k_extra "an")))
  (k_with "sub" => (first | assumption | (refine List.mem_append_left _ ?_; k_extra "sub") | (refine List.mem_append_right _ ?_; k_extra "sub") | (refine List.Mem.tail _ ?_; k_extra "sub")))
  (k_with "rm" => (first | exact room_of 1 rfl (by assumption) rfl | exact room_of 0 rfl (by assumption) rfl | exact room_of1 1 rfl (by assumption) rfl | exact room_of1 0 rfl (by assumption) rfl | ktr_room))
  (k_with "un" => (first | exact units_of 3 rfl (by assumption) rfl | exact units_of 4 rfl (by assumption) rfl | exact units_of 0 rfl (by assumption) rfl | ktr_units))
  (k_with "st" => (repeat' (first | ((with_reducible show wpAny _ _ (PySem.exec _ _) _ _ _); k_fold) | ((fail_if_success (fail_if_success k_unfold)); (show wpAny _ _ _ _ _ _); (try dsimp only)) | (k_unfold; (try dsimp only)) | (k_end; wrow_close) | walk1 | (dsimp only; walk1) | (leave1; walk_say "STEP leave1"; try dsimp only) | fail "no step")))
  (k_with "D" => try ((with_reducible show wpAny _ _ _ _ _ (Shared.mk (Shared.heap _) _ _ _ _)); dsimp only))
  (k_with "E0" => ((case F => k_asm); (case V => first | assumption | exact ⟨rfl, rfl, rfl⟩)))
  (k_with "E" => (k_extra "E0"; (case e => exact rfl)))
  (k_with "S" => (intro h'8q tk'8q F'8q N'8q; (try k_sweep)))
  (k_with "A" => (intro l'8q h'8q F'8q N'8q l18q; (try k_lt l18q); (try k_sweep)))
  (k_with "spliced" => (k_here; k_extra "D"; k_dflt (first | ((with_reducible refine' s_args ?V ?F ?e ?_); k_extra "E"; k_whole; (try dsimp only [List.cons_append, List.nil_append])))))
  (k_with "evalPairs" => (k_here; k_extra "D"; k_dflt (first | ((with_reducible refine' s_pair ?V ?F ?e ?f ?_); k_extra "E"; (case f => exact rfl); k_whole))))
  (k_with "eval BinOp" => (k_here; k_extra "D"; k_dflt (first | ((with_reducible refine' s_bin ?V ?F ?e ?f ?_); k_extra "E"; (case f => exact rfl); k_whole) | ((with_reducible refine' s_binL ?V ?F ?e ?_); k_extra "E"; k_whole))))
  (k_with "isTrue Compare" => (k_here; k_extra "D"; k_dflt (first | ((with_reducible refine' s_cmp ?V ?F ?e ?f ?h ?_); k_extra "E"; (case f => exact rfl); (case h => with_unfolding_all rfl); k_whole) | ((with_reducible refine' s_cmpL ?V ?F ?e ?h ?_); k_extra "E"; (case h => with_unfolding_all rfl); k_whole))))
  (k_with "eval Subscript" => (k_here; k_extra "D"; k_dflt (first | ((with_reducible refine' s_sub ?V ?F ?e ?f ?_); k_extra "E"; (case f => exact rfl); k_whole) | ((with_reducible refine' s_subL ?V ?F ?e ?_); k_extra "E"; k_whole))))
  (k_with "eval List" => (k_here; k_extra "D"; k_dflt (first | ((with_reducible refine' s_list ?V ?F ?e ?_); k_extra "E"; k_whole))))
  (k_with "eval Tuple" => (k_here; k_extra "D"; k_dflt (first | ((with_reducible refine' s_tuple ?V ?F ?e ?_); k_extra "E"; k_whole))))
  (k_with "exec Return some" => (k_here; k_extra "D"; k_dflt (first | ((with_reducible refine' s_ret ?V ?F ?e ?_); k_extra "E"; k_whole))))
  (k_with "eval Attribute Name" => (k_here; k_extra "D"; k_dflt (first | ((with_reducible refine' s_attr ?V ?F ?e ?_ ?h); k_extra "E"; (case h => with_unfolding_all rfl); k_whole))))
  (k_with "execs cons" => (k_here; k_extra "D"; k_dflt (first | k_gentoks | ((with_reducible refine' c_asgS ?V ?F ?N ?e ?x ?_ ?h); k_extra "E"; (case N => k_asm); (case x => exact rfl); (case h => exact rfl); k_whole; k_extra "S") | ((with_reducible refine' c_asg ?_ ?h); (case h => exact rfl); k_whole; (try refine (let qk8q : Value → Shared → Prop := _; (?_ : wpAny _ _ _ qk8q _ _)))) | ((with_reducible refine' c_retS ?V ?F ?e ?_); k_extra "E"; k_whole) | (with_reducible refine c_ret ?_))))
  (k_with "storeName" => (k_here; k_extra "D"; k_dflt (first | ((with_reducible refine' c_store ?V ?F ?N ?x ?_); k_extra "E0"; (case N => k_asm); (case x => exact rfl); k_whole; k_extra "S"))))
  (k_with "newList" => (k_here; k_extra "D"; k_dflt (first | ((with_reducible refine' c_newList ?F ?N ?_ ?z); (case F => k_asm); (case N => k_asm); (case z => size_fits); k_extra "A"))))
  (k_with "newTuple" => (k_here; k_extra "D"; k_dflt (first | ((with_reducible refine' c_newTuple ?F ?N ?_ ?z); (case F => k_asm); (case N => k_asm); (case z => kmk_size); k_extra "A"))))
  (k_with "binaryOp Mult int int" => (k_here; k_extra "D"; k_dflt (first | ((with_reducible refine' c_mul ?_ ?z); (case z => mul_fits)))))
  (k_with "binaryOp Add int int" => (k_here; k_extra "D"; k_dflt (first | (with_reducible refine c_add ?_))))
  (k_with "binaryOp Sub int int" => (k_here; k_extra "D"; k_dflt (first | (with_reducible refine c_sub ?_))))
  (k_with "unaryOp USub int" => (k_here; k_extra "D"; k_dflt (first | (with_reducible refine c_neg ?_))))
  (k_with "callWith ref" => (k_here; k_extra "D"; k_dflt (first | ((with_reducible refine' s_with ?V ?F ?X ?k ?e ?_); k_extra "E"; (case X => k_asm); (case k => k_is); k_whole))))
  (k_with "eval Call" => (k_here; k_extra "D"; k_dflt (first | ((with_reducible refine' s_call ?V ?F ?X ?T ?n ?x ?d ?k ?e ?_ ?h); k_extra "E"; (case x => exact rfl); (case X => k_asm); (case T => k_asm); (case d => decide); (case n => k_is); (case k => k_is); (case h => exact rfl); k_whole))))
  (k_with "eval Name" => (k_here; k_extra "D"; k_dflt (first | ((with_reducible refine' s_val ?V ?F ?e ?_); k_extra "E"; k_whole))))
  (k_with "ktr_enter" => first
  | (refine' codeG ?k1 ?k2 ?k3 ?k4 ?k5 ?kA ?kF ?kK ?k6 ?k7 ?k8 ?k9 ?kB ?_ ?c2 ?c3 ?c4 ?c5; (case kA => exact rfl); (case kF => exact rfl); (case kK => assumption); (case k1 => first | k_asm | exact topb_of rfl rfl (by k_asm)); (case k2 => k_asm); (case k3 => k_asm); (case k4 => k_asm); (case k5 => k_asm); (case k6 => k_is); (case k7 => k_is); (case k8 => (k_extra "rm")); (case k9 => first | exact BindsTo.of_eq rfl | exact binds_K (by k_in) rfl (by k_is) rfl rfl rfl); (case c5 => decide); (case kB => exact locs rfl); (case c2 => exact rfl); (case c3 => exact rfl); (case c4 => exact rfl); k_whole; intro g'9q L'9q h'9q tk'9q st'9q FG'9q F'9q N'9q B'9q X'9q T'9q l1'9q; (try dsimp only); (try k_fold)))
  (k_with "k_inst" => exact inst_base (by k_asm) (by assumption) (by assumption))
  (k_with "getMethod ref" => (k_here; (with_reducible show wpAny _ _ (getMethod (Value.ref _) (Str.ofString "get") _) _ _ _); k_dflt (refine sd_method (SDict.base (by k_asm) (by assumption)) ?_)))
  (k_with "call builtin:dict.get" => (k_here; (with_reducible show wpAny _ _ (call (Value.builtin "dict.get") [Value.ref _, Value.str _ _]) _ _ _); k_dflt (first
  | (refine sd_get1s (SDict.base (by k_asm) (by assumption)) (by assumption) ?_; intro t'9q)
  | (refine sd_get1n (SDict.base (by k_asm) (by assumption)) (by assumption) ?_)
  | (refine sd_get1 (SDict.base (by k_asm) (by assumption)) (fun hg09q => ?_) (fun v'9q t'9q hg19q => ?_)))))
  (k_with "k_room" => (k_extra "rm"))
  (k_with "subscriptTail" => (k_here; (with_reducible show wpAny _ _ (subscriptTail _ _ (Value.ref _) (Value.str _ _)) _ _ _); k_dflt (refine sd_item (SDict.base (by k_asm) (by assumption)) (by assumption) ?_); intro t'9q))
  (k_with "call ref" => (k_here; (with_reducible show wpAny _ _ (call (Value.ref _) _) _ _ _); (try k_fold); k_dflt (refine' spec_use0 ?S ?k1 ?k2 ?k3 ?k4 ?k5 ?kK ?kP ?kd ?ku ?_; (case S => assumption); (case k1 => first | k_asm | exact topb_of rfl rfl (by k_asm)); (case k2 => k_asm); (case k3 => k_asm); (case k4 => k_asm); (case k5 => k_asm); (case kK => exact rfl); (case kP => first | exact trivial | exact ElOf.base (by k_asm) (by assumption)); (case kd => (k_extra "rm")); (case ku => (k_extra "un"))); intro r'9q tl'9q h'9q tk'9q F'9q N'9q fr'9q st'9q hR'9q; (try dsimp only at hR'9q)))
  (k_with "k_mem" => ((show _ ∈ (_ ++ _ : List (Addr × Obj))); first | (refine List.mem_append_right _ ?_; k_mem) | (refine List.mem_append_left _ ?_; k_mem)))
  (k_with "call builtin:dict.get" => (k_here; (with_reducible show wpAny _ _ (call (Value.builtin "dict.get") [Value.ref _, Value.str _ _, Value.str _ _]) _ _ _); k_dflt (refine sd_get2L (SDict.base (by k_asm) (by assumption)) (by first | assumption | decide) ?_); intro t'9q hlen'9q))
  unfold Spec
  k_fill
  intro dp un gd cn cs a' ccd cl' outer A₀ base h₀ L m s Q E B F X N T hk hP hd hu hret
  refine wpAny_call ?_
  k_dflt ktr_enter
  first | refine (let ak : Around := _; let nk : Env := _; let sg9 : Array GenState := _; let sd9 : Drawn := _; let so9 : OsState := _; (?_ : wpAny _ ak (execs _ nk) _ _ (Shared.mk _ sg9 sd9 _ so9))) | refine (let ak : Around := _; let nk : Env := _; (?_ : wpAny _ ak (execs _ nk) _ _ _))
  try (have TB9 : TopB ak _ _ (dp + 1) (un + 3) := topb_of rfl rfl (by assumption))
  try (have FE9 : FnE nk L'9q := ⟨rfl, rfl, rfl⟩)
  rename Stood _ _ _ => st
  replace hP := hP.mono fun a o e => st a o e (fun h => nomatch h)
  cases hP
  (k_extra "st")
  all_goals exact spec_ret0 hret st (by assumption) (by assumption) (by assumption) (by assumption) [] (fun _ h => nomatch h) ⟨rfl, by assumption, _, rfl⟩
theorem get_specX (w : World) (mean : ExcName → Option Value) (mg mb : Str → Option Value) (v : Value) (name text : Str) (attrs : List (Str × Str)) (kids : List El) (k c x : Str) (tk tc : Tok) (hc : c.length ≤ 4000) (hl : (attrs.lookup k).getD c = x) :
  Spec w mean mg mb 214 [v, .str k tk, .str c tc] [] 1 (fun h => ElOf w (HG h) v (.mk name attrs kids text)) (fun r _ tl => tl = [] ∧ x.length ≤ 4000 ∧ ∃ t, r = .str x t) := by
  subst hl; exact get_spec w mean mg mb v name text attrs kids k c tk tc hc
theorem place_spec (w : World) (mean : ExcName → Option Value) (mg mb : Str → Option Value) (v : Value) (name text : Str) (attrs : List (Str × Str)) (kids : List El) (k x : Str) (tk : Tok) (a b : Int) (hl : (attrs.lookup k).getD (Str.ofString "0") = x)
    (hx : T4 x a b) :
  Spec w mean mg mb 296 [v, .str k tk] [] 10 (fun h => ElOf w (HG h) v (.mk name attrs kids text)) (fun r _ tl => tl = [] ∧ ∃ t, r = .str x t) := by
  k_with_none
  w_top off
  (k_with "an" => (first | assumption | exact And.left (by assumption) | exact And.left (And.right (by assumption)) | exact And.left (And.right (And.right (by assumption))) | exact And.left (And.right (And.right (And.right (by assumption)))) | exact And.left (And.right (And.right (And.right (And.right (by assumption))))) | exact And.left (And.right (And.right (And.right (And.right (And.right (by assumption)))))) | exact And.left (And.right (And.right (And.right (And.right (And.right (And.right (by assumption))))))) | exact And.left (And.right (And.right (And.right (And.right (And.right (And.right (And.right (by assumption)))))))) | exact And.left (And.right (And.right (And.right (And.right (And.right (And.right (And.right (And.right (by assumption)))))))))))
  (k_with "k_ne" => (refine neN ?_; (try dsimp only); first | (refine Nat.ne_of_lt ?_; k_extra "an") | (refine Nat.ne_of_gt ?_; k_extra "an")))
  (k_with "sub" => (first | assumption | (refine List.mem_append_left _ ?_; k_extra "sub") | (refine List.mem_append_right _ ?_; k_extra "sub") | (refine List.Mem.tail _ ?_; k_extra "sub")))
  (k_with "rm" => (first | exact room_of 1 rfl (by assumption) rfl | exact room_of 0 rfl (by assumption) rfl | exact room_of1 1 rfl (by assumption) rfl | exact room_of1 0 rfl (by assumption) rfl | ktr_room))
  (k_with "un" => (first | exact units_of 3 rfl (by assumption) rfl | exact units_of 4 rfl (by assumption) rfl | exact units_of 0 rfl (by assumption) rfl | ktr_units))
  (k_with "gn" => refine (let P9 : Prop := _; (?_ : P9)))
  (k_with "st" => (repeat' (first | ((with_reducible show wpAny _ _ (PySem.exec _ _) _ _ _); k_fold) | ((fail_if_success (fail_if_success k_unfold)); (show wpAny _ _ _ _ _ _); (try dsimp only)) | (k_unfold; (try dsimp only)) | (k_end; wrow_close) | walk1 | (dsimp only; walk1) | (leave1; walk_say "STEP leave1"; try dsimp only) | fail "no step")))
  (k_with "D" => try ((with_reducible show wpAny _ _ _ _ _ (Shared.mk (Shared.heap _) _ _ _ _)); dsimp only))
  (k_with "E0" => ((case F => k_asm); (case V => first | assumption | exact ⟨rfl, rfl, rfl⟩)))
  (k_with "E" => (k_extra "E0"; (case e => exact rfl)))
  (k_with "S" => (intro h'8q tk'8q F'8q N'8q; (try k_sweep)))
  (k_with "A" => (intro l'8q h'8q F'8q N'8q l18q; (try k_lt l18q); (try k_sweep)))
  (k_with "spliced" => (k_here; k_extra "D"; k_dflt (first | ((with_reducible refine' s_args ?V ?F ?e ?_); k_extra "E"; k_whole; (try dsimp only [List.cons_append, List.nil_append])))))
  (k_with "evalPairs" => (k_here; k_extra "D"; k_dflt (first | ((with_reducible refine' s_pair ?V ?F ?e ?f ?_); k_extra "E"; (case f => exact rfl); k_whole))))
  (k_with "eval BinOp" => (k_here; k_extra "D"; k_dflt (first | ((with_reducible refine' s_bin ?V ?F ?e ?f ?_); k_extra "E"; (case f => exact rfl); k_whole) | ((with_reducible refine' s_binL ?V ?F ?e ?_); k_extra "E"; k_whole))))
  (k_with "isTrue Compare" => (k_here; k_extra "D"; k_dflt (first | ((with_reducible refine' s_cmp ?V ?F ?e ?f ?h ?_); k_extra "E"; (case f => exact rfl); (case h => with_unfolding_all rfl); k_whole) | ((with_reducible refine' s_cmpL ?V ?F ?e ?h ?_); k_extra "E"; (case h => with_unfolding_all rfl); k_whole))))
  (k_with "eval Subscript" => (k_here; k_extra "D"; k_dflt (first | ((with_reducible refine' s_sub ?V ?F ?e ?f ?_); k_extra "E"; (case f => exact rfl); k_whole) | ((with_reducible refine' s_subL ?V ?F ?e ?_); k_extra "E"; k_whole))))
  (k_with "eval List" => (k_here; k_extra "D"; k_dflt (first | ((with_reducible refine' s_list ?V ?F ?e ?_); k_extra "E"; k_whole))))
  (k_with "eval Tuple" => (k_here; k_extra "D"; k_dflt (first | ((with_reducible refine' s_tuple ?V ?F ?e ?_); k_extra "E"; k_whole))))
  (k_with "exec Return some" => (k_here; k_extra "D"; k_dflt (first | ((with_reducible refine' s_ret ?V ?F ?e ?_); k_extra "E"; k_whole))))
  (k_with "eval Attribute Name" => (k_here; k_extra "D"; k_dflt (first | ((with_reducible refine' s_attr ?V ?F ?e ?_ ?h); k_extra "E"; (case h => with_unfolding_all rfl); k_whole))))
  (k_with "execs cons" => (k_here; k_extra "D"; k_dflt (first | k_gentoks | ((with_reducible refine' c_asgS ?V ?F ?N ?e ?x ?_ ?h); k_extra "E"; (case N => k_asm); (case x => exact rfl); (case h => exact rfl); k_whole; k_extra "S") | ((with_reducible refine' c_asg ?_ ?h); (case h => exact rfl); k_whole; (try refine (let qk8q : Value → Shared → Prop := _; (?_ : wpAny _ _ _ qk8q _ _)))) | ((with_reducible refine' c_retS ?V ?F ?e ?_); k_extra "E"; k_whole) | (with_reducible refine c_ret ?_))))
  (k_with "storeName" => (k_here; k_extra "D"; k_dflt (first | ((with_reducible refine' c_store ?V ?F ?N ?x ?_); k_extra "E0"; (case N => k_asm); (case x => exact rfl); k_whole; k_extra "S"))))
  (k_with "newList" => (k_here; k_extra "D"; k_dflt (first | ((with_reducible refine' c_newList ?F ?N ?_ ?z); (case F => k_asm); (case N => k_asm); (case z => size_fits); k_extra "A"))))
  (k_with "newTuple" => (k_here; k_extra "D"; k_dflt (first | ((with_reducible refine' c_newTuple ?F ?N ?_ ?z); (case F => k_asm); (case N => k_asm); (case z => kmk_size); k_extra "A"))))
  (k_with "binaryOp Mult int int" => (k_here; k_extra "D"; k_dflt (first | ((with_reducible refine' c_mul ?_ ?z); (case z => mul_fits)))))
  (k_with "binaryOp Add int int" => (k_here; k_extra "D"; k_dflt (first | (with_reducible refine c_add ?_))))
  (k_with "binaryOp Sub int int" => (k_here; k_extra "D"; k_dflt (first | (with_reducible refine c_sub ?_))))
  (k_with "unaryOp USub int" => (k_here; k_extra "D"; k_dflt (first | (with_reducible refine c_neg ?_))))
  (k_with "callWith ref" => (k_here; k_extra "D"; k_dflt (first | ((with_reducible refine' s_with ?V ?F ?X ?k ?e ?_); k_extra "E"; (case X => k_asm); (case k => k_is); k_whole))))
  (k_with "eval Call" => (k_here; k_extra "D"; k_dflt (first | ((with_reducible refine' s_call ?V ?F ?X ?T ?n ?x ?d ?k ?e ?_ ?h); k_extra "E"; (case x => exact rfl); (case X => k_asm); (case T => k_asm); (case d => decide); (case n => k_is); (case k => k_is); (case h => exact rfl); k_whole))))
  (k_with "eval Name" => (k_here; k_extra "D"; k_dflt (first | ((with_reducible refine' s_val ?V ?F ?e ?_); k_extra "E"; k_whole))))
  (k_with "ktr_enter" => first
  | (refine' codeG ?k1 ?k2 ?k3 ?k4 ?k5 ?kA ?kF ?kK ?k6 ?k7 ?k8 ?k9 ?kB ?_ ?c2 ?c3 ?c4 ?c5; (case kA => exact rfl); (case kF => exact rfl); (case kK => assumption); (case k1 => first | k_asm | exact topb_of rfl rfl (by k_asm)); (case k2 => k_asm); (case k3 => k_asm); (case k4 => k_asm); (case k5 => k_asm); (case k6 => k_is); (case k7 => k_is); (case k8 => (k_extra "rm")); (case k9 => first | exact BindsTo.of_eq rfl | exact binds_K (by k_in) rfl (by k_is) rfl rfl rfl); (case c5 => decide); (case kB => exact locs rfl); (case c2 => exact rfl); (case c3 => exact rfl); (case c4 => exact rfl); k_whole; intro g'9q L'9q h'9q tk'9q st'9q FG'9q F'9q N'9q B'9q X'9q T'9q l1'9q; (try dsimp only); (try k_fold)))
  (k_with "k_inst" => exact inst_base (by k_asm) (by assumption) (by assumption))
  (k_with "getMethod ref" => (k_here; (with_reducible show wpAny _ _ (getMethod (Value.ref _) (Str.ofString "get") _) _ _ _); k_dflt (refine sd_method (SDict.base (by k_asm) (by assumption)) ?_)))
  (k_with "call builtin:dict.get" => (k_here; (with_reducible show wpAny _ _ (call (Value.builtin "dict.get") [Value.ref _, Value.str _ _]) _ _ _); k_dflt (first
  | (refine sd_get1s (SDict.base (by k_asm) (by assumption)) (by assumption) ?_; intro t'9q)
  | (refine sd_get1n (SDict.base (by k_asm) (by assumption)) (by assumption) ?_)
  | (refine sd_get1 (SDict.base (by k_asm) (by assumption)) (fun hg09q => ?_) (fun v'9q t'9q hg19q => ?_)))))
  (k_with "k_room" => (k_extra "rm"))
  (k_with "subscriptTail" => (k_here; (with_reducible show wpAny _ _ (subscriptTail _ _ (Value.ref _) (Value.str _ _)) _ _ _); k_dflt (refine sd_item (SDict.base (by k_asm) (by assumption)) (by assumption) ?_); intro t'9q))
  (k_with "call ref" => (k_here; (with_reducible show wpAny _ _ (call (Value.ref _) _) _ _ _); (try k_fold); k_dflt (refine' spec_use0 ?S ?k1 ?k2 ?k3 ?k4 ?k5 ?kK ?kP ?kd ?ku ?_; (case S => assumption); (case k1 => first | k_asm | exact topb_of rfl rfl (by k_asm)); (case k2 => k_asm); (case k3 => k_asm); (case k4 => k_asm); (case k5 => k_asm); (case kK => exact rfl); (case kP => first | exact trivial | exact ElOf.base (by k_asm) (by assumption)); (case kd => (k_extra "rm")); (case ku => (k_extra "un"))); intro r'9q tl'9q h'9q tk'9q F'9q N'9q fr'9q st'9q hR'9q; (try dsimp only at hR'9q)))
  (k_with "k_mem" => ((show _ ∈ (_ ++ _ : List (Addr × Obj))); first | (refine List.mem_append_right _ ?_; k_mem) | (refine List.mem_append_left _ ?_; k_mem)))
  (k_with "call builtin:dict.get" => (k_here; (with_reducible show wpAny _ _ (call (Value.builtin "dict.get") [Value.ref _, Value.str _ _, Value.str _ _]) _ _ _); k_dflt (refine sd_get2L (SDict.base (by k_asm) (by assumption)) (by first | assumption | decide) ?_); intro t'9q hlen'9q))
  (k_with "ite" => (first | with_reducible refine ite_ff ?_ | with_reducible refine ite_tt ?_))
  (k_with "compareOp Eq str str" => (k_here; k_dflt (first | refine eq_dec false (by decide +kernel) ?_ | refine eq_dec true (by decide +kernel) ?_)))
  (k_with "call ref" => (k_here; (with_reducible show wpAny _ _ (call (Value.ref 238) _) _ _ _); (try k_fold); k_dflt ((refine' use_objR (length_spec _ _ _ _ _ _ _ _ (by assumption) _) ?k1 ?k2 ?k3 ?k4 ?k5 ?kK ?kP ?kd ?ku ?_; (case k1 => first | k_asm | exact topb_of rfl rfl (by k_asm)); (case k2 => k_asm); (case k3 => k_asm); (case k4 => k_asm); (case k5 => k_asm); (case kK => exact rfl); (case kP => (exact trivial)); (case kd => (k_extra "rm")); (case ku => (k_extra "un")))); intro l'9q n'9q t1'9q t2'9q h'9q tk'9q F'9q N'9q; (try dsimp only)))
  (k_with "call ref" => (k_here; (with_reducible show wpAny _ _ (call (Value.ref 192) _) _ _ _); (try k_fold); k_dflt ((refine' use_str (write_spec _ _ _ _ _ _ _ _ (by assumption)) ?k1 ?k2 ?k3 ?k4 ?k5 ?kK ?kP ?kd ?ku ?_; (case k1 => first | k_asm | exact topb_of rfl rfl (by k_asm)); (case k2 => k_asm); (case k3 => k_asm); (case k4 => k_asm); (case k5 => k_asm); (case kK => exact rfl); (case kP => (exact (tupH_mk (News.get (by k_asm) (by k_mem))))); (case kd => (k_extra "rm")); (case ku => (k_extra "un")))); intro t'9q h'9q tk'9q F'9q N'9q; (try dsimp only)))
  (k_with "call ref" => (k_here; (with_reducible show wpAny _ _ (call (Value.ref 214) _) _ _ _); (try k_fold); k_dflt ((refine' use_strC (get_specX _ _ _ _ _ _ _ _ _ _ _ _ _ _ (by decide) (by assumption)) ?k1 ?k2 ?k3 ?k4 ?k5 ?kK ?kP ?kd ?ku ?_; (case k1 => first | k_asm | exact topb_of rfl rfl (by k_asm)); (case k2 => k_asm); (case k3 => k_asm); (case k4 => k_asm); (case k5 => k_asm); (case kK => exact rfl); (case kP => (exact ElOf.base (by k_asm) (by assumption))); (case kd => (k_extra "rm")); (case ku => (k_extra "un")))); intro t'9q h'9q tk'9q F'9q N'9q _; (try dsimp only)))
  unfold Spec
  k_fill
  intro dp un gd cn cs a' ccd cl' outer A₀ base h₀ L m s Q E B F X N T hk hP hd hu hret
  refine wpAny_call ?_
  k_dflt ktr_enter
  first | refine (let ak : Around := _; let nk : Env := _; let sg9 : Array GenState := _; let sd9 : Drawn := _; let so9 : OsState := _; (?_ : wpAny _ ak (execs _ nk) _ _ (Shared.mk _ sg9 sd9 _ so9))) | refine (let ak : Around := _; let nk : Env := _; (?_ : wpAny _ ak (execs _ nk) _ _ _))
  try (have TB9 : TopB ak _ _ (dp + 1) (un + 3) := topb_of rfl rfl (by assumption))
  try (have FE9 : FnE nk L'9q := ⟨rfl, rfl, rfl⟩)
  try (rename Fr _ _ _ (fun y => List.lookup y (List.reverse _)) => FX9; replace FX9 := fr_binds [(Str.ofString "element", (v : Value)), (Str.ofString "name", (.str k tk : Value))] rfl FX9)
  rename Stood _ _ _ => st
  replace hP := hP.mono fun a o e => st a o e (fun h => nomatch h)
  have hx' := hx
  have hE := hP
  cases hP
  k_extra "gn"; (rcases hx' with ⟨rfl, rfl, rfl⟩ | ⟨rfl, rfl, rfl⟩ | ⟨rfl, rfl, rfl⟩ | ⟨rfl, rfl, rfl⟩) <;> k_unfold
  all_goals (k_extra "st")
  all_goals exact spec_ret0 hret st (by assumption) (by assumption) (by assumption) (by assumption) [] (fun _ h => nomatch h) ⟨rfl, _, rfl⟩
noncomputable def KeyEnd (h₀ : Heap) (L I : Addr) (oI : Obj) (x : Str) (m : Str → Option Value) (J : List (Addr × Obj) → Prop) (s₁ : Shared) (f : Flow) (s₂ : Shared) : Prop :=
  f = .next ∧ ∃ h' tk v nw, s₂ = { s₁ with heap := h', toks := tk } ∧ Fr h₀ L h' (fun y => if y = x then some v else m y) ∧ News h₀ L h' ((I, oI) :: nw) ∧ (∀ p ∈ nw, p.1 ≠ I) ∧ J nw
theorem if_if {x : Str} {v v' : Value} {m : Str → Option Value} : (fun y : Str => if y = x then some v' else (fun y : Str => if y = x then some v else m y) y) = (fun y : Str => if y = x then some v' else m y) := by
  k_with_none
  w_top off
  (k_with "an" => (first | assumption | exact And.left (by assumption) | exact And.left (And.right (by assumption)) | exact And.left (And.right (And.right (by assumption))) | exact And.left (And.right (And.right (And.right (by assumption)))) | exact And.left (And.right (And.right (And.right (And.right (by assumption))))) | exact And.left (And.right (And.right (And.right (And.right (And.right (by assumption)))))) | exact And.left (And.right (And.right (And.right (And.right (And.right (And.right (by assumption))))))) | exact And.left (And.right (And.right (And.right (And.right (And.right (And.right (And.right (by assumption)))))))) | exact And.left (And.right (And.right (And.right (And.right (And.right (And.right (And.right (And.right (by assumption)))))))))))
  (k_with "k_ne" => (refine neN ?_; (try dsimp only); first | (refine Nat.ne_of_lt ?_; k_extra "an") | (refine Nat.ne_of_gt ?_; k_extra "an")))
  (k_with "sub" => (first | assumption | (refine List.mem_append_left _ ?_; k_extra "sub") | (refine List.mem_append_right _ ?_; k_extra "sub") | (refine List.Mem.tail _ ?_; k_extra "sub")))
  (k_with "gn" => refine (let P9 : Prop := _; (?_ : P9)))
  funext y; by_cases h : y = x <;> simp [h]
theorem iter_keys {prog : Program} {w : World} {A : Around} {E : Value → Shared → Prop} {s : Shared} {env : Env} {h₀ : Heap} {x : Str} {body : List Stmt} {Q : Flow → Shared → Prop} {m : Str → Option Value} {news : List (Addr × Obj)} {d : Addr} {o : Obj} {kvs : List (Str × Value)}
    (hh : A.handled = none) (lo : (d == sysModules) = false) (F : Fr h₀ env.locals s.heap m) (N : News h₀ env.locals s.heap news) (ho : h₀.get? d = some o) (hd : o.IsDictOf (PySem.strKind prog w) kvs) (h1 : kvs ≠ [])
    (J : Nat → List (Addr × Obj) → Prop) (h0 : J 0 news)
    (turn : ∀ (i : Nat) k u t (m₁ : Str → Option Value) h tk I oI nw, kvs[i]? = some (k, u) → J i nw → Fr h₀ env.locals h (fun y => if y = x then some (.str k t) else m y) → News h₀ env.locals h ((I, oI) :: nw) → (∀ p ∈ nw, p.1 ≠ I) →
      wpAny (model prog w) A (execs body env) (KeyEnd h₀ env.locals I oI x m (J (i + 1)) { s with heap := h, toks := tk }) E { s with heap := h, toks := tk })
    (done : ∀ h' tk v nw, Fr h₀ env.locals h' (fun y => if y = x then some v else m y) → News h₀ env.locals h' nw → J kvs.length nw → Q .next { s with heap := h', toks := tk }) :
    wpAny (model prog w) A (pyIter (.ref d)) (fun it s₂ => LoopAtV prog w A h₀ env x body Q E it s₂) E s := by
  obtain ⟨ep, hk⟩ := KdkAt.of hd
  have hat : s.heap.DictAt (PySem.strKind prog w) d kvs ep := hk.dictAt (F.keep _ _ ho)
  have hlt0 : d < h₀.objs.size := Heap.lt_size ho
  have hlt : d < s.heap.objs.size := Heap.lt_size (F.keep _ _ ho)
  refine wpAny_pyIter_dict lo hat ?_
  have up : ∀ b o', s.heap.get? b = some o' → (s.heap.push { cls := .type "dict_keyiterator", data := .fields #[.ref d, .int 0 0, .int kvs.length 0, .int ep 0] }).get? b = some o' := fun b o' e => Heap.get?_push_of_some _ e
  have hI0 : h₀.get? s.heap.objs.size = none := next_is_new F
  have hLd : env.locals ≠ d := fun e => by
    have z := F.above
    exact absurd hlt0 (Nat.not_lt.mpr (e ▸ z))
  have hLI : env.locals ≠ s.heap.objs.size := Nat.ne_of_lt F.ns.lt
  refine ex9 s.heap.objs.size _ _ _ _ _ m news (fun i m₁ nw => (i = 0 → m₁ = m) ∧ (i ≠ 0 → ∃ v, m₁ = fun y => if y = x then some v else m y) ∧ J i nw) ⟨rfl, Walks.dictKeys (knd := PySem.strKind prog w) hh s.heap.objs.size d (Nat.ne_of_lt hlt) kvs ep, ?_, ?_, ?_, ?_, F.keeps up, N.grown up, ⟨fun _ => rfl, fun z => absurd rfl z, h0⟩, ?_, ?_⟩
  · intro hm
    rcases List.mem_cons.mp hm with h | h
    · exact hLI h
    · exact hLd (List.mem_singleton.mp h)
  · intro b hb; rw [List.mem_singleton.mp hb]; exact hI0
  · intro p hp hm; exact absurd (Heap.lt_size (N p hp).1) (by rw [List.mem_singleton.mp hm]; exact Nat.lt_irrefl _)
  · exact ⟨⟨_, Heap.get?_push_size _ rfl, rfl, rfl⟩, hat.push _⟩
  · rintro i v m₁ news₁ s₁ own ⟨h, tk, rfl⟩ hi ⟨k, u, hk1, hv⟩ ⟨hJ0, hJ1, hJ⟩ hn1 hsub hget hall st F₁ N₁
    obtain ⟨t, rfl⟩ := PySem.Value.isStrOf_shape hv
    obtain ⟨oI, hoI, _⟩ := st.1
    have hown : ∀ p ∈ own, p = (s.heap.objs.size, oI) := fun p hp => by
      have a1 := hsub p hp
      have a2 := hget p hp
      obtain ⟨b, ob⟩ := p
      rcases List.mem_cons.mp a1 with h | h
      · dsimp only at h a2
        subst h
        rw [hoI] at a2; cases a2; rfl
      · have a3 := (N₁ _ (List.mem_append_left _ hp)).2.2
        have h' : b = d := List.mem_singleton.mp h
        rw [h'] at a3
        rw [ho] at a3; cases a3
    have hmem : (s.heap.objs.size, oI) ∈ own := hall _ (by simp) hI0 _ hoI
    have F₂ : Fr h₀ env.locals h (fun y => if y = x then some (.str k t) else m y) := by
      by_cases z : i = 0
      · rw [hJ0 z] at F₁; exact F₁
      · obtain ⟨v', e⟩ := hJ1 z
        rw [e] at F₁
        rwa [if_if] at F₁
    have N₂ : News h₀ env.locals h ((s.heap.objs.size, oI) :: news₁) := fun p hp => by
      rcases List.mem_cons.mp hp with rfl | hp
      · exact N₁ _ (List.mem_append_left _ hmem)
      · exact N₁ _ (List.mem_append_right _ hp)
    refine wpAny_mono (turn i k u t m₁ h tk _ oI news₁ hk1 hJ F₂ N₂ (fun p hp e => hn1 p hp (by rw [e]; exact List.mem_singleton.mpr rfl))) (fun f s₂ hE => ?_) fun _ _ e => e
    k_extra "gn"; (obtain ⟨rfl, h', tk', v, nw, rfl, F', N', ne', hJ'⟩ := hE) <;> k_unfold
    refine LoopStepV.next ⟨rfl, h', tk', _, nw, rfl, F', fun p hp => ?_, fun p hp e => ne' p hp (List.mem_singleton.mp e), fun z => absurd z (Nat.succ_ne_zero i), fun _ => ⟨v, rfl⟩, hJ'⟩
    rcases List.mem_append.mp hp with hp | hp
    · rw [hown p hp]; exact N' _ (.head _)
    · exact N' _ (.tail _ hp)
  · rintro h' tk m' news' F' N' hn' ⟨hJ0, hJ1, hJ⟩
    obtain ⟨v, rfl⟩ := hJ1 (fun e => h1 (List.length_eq_zero_iff.mp e))
    exact done h' tk v news' F' N' hJ
-- twice
theorem notin_lit {prog : Program} {w : World} {A : Around} {E : Value → Shared → Prop} {s : Shared} {t : Addr} {items : Array Value} {ys : List Str} {x : Str} {u : Tok} {Q : Value → Shared → Prop} (b : Bool) (ht : IsTup s.heap t items) (hi : StrsAre items.toList ys) (e : (!(ys.any (· == x))) = b) (h : Q (.bool b) s) :
    wpAny (model prog w) A (compareOp .NotIn (.str x u) (.ref t)) Q E s := notin_tuple_strs ht hi (e ▸ h)
noncomputable def ownWords : List Str := [Str.ofString "x", Str.ofString "y", Str.ofString "width", Str.ofString "height", Str.ofString "href", Str.ofString "xlink:href", Str.ofString "transform", Str.ofString "id"]
noncomputable def allWords : List Str := Str.ofString "fill" :: ownWords
theorem attrs_at {kvs : List (Str × Value)} {as : List (Str × Str)} (hA : AttrsAre kvs as) : ∀ {i : Nat} {k u}, kvs[i]? = some (k, u) → ∃ v t, u = .str v t ∧ as[i]? = some (k, v) := by
  k_with_none
  w_top off
  (k_with "an" => (first | assumption | exact And.left (by assumption) | exact And.left (And.right (by assumption)) | exact And.left (And.right (And.right (by assumption))) | exact And.left (And.right (And.right (And.right (by assumption)))) | exact And.left (And.right (And.right (And.right (And.right (by assumption))))) | exact And.left (And.right (And.right (And.right (And.right (And.right (by assumption)))))) | exact And.left (And.right (And.right (And.right (And.right (And.right (And.right (by assumption))))))) | exact And.left (And.right (And.right (And.right (And.right (And.right (And.right (And.right (by assumption)))))))) | exact And.left (And.right (And.right (And.right (And.right (And.right (And.right (And.right (And.right (by assumption)))))))))))
  (k_with "k_ne" => (refine neN ?_; (try dsimp only); first | (refine Nat.ne_of_lt ?_; k_extra "an") | (refine Nat.ne_of_gt ?_; k_extra "an")))
  (k_with "sub" => (first | assumption | (refine List.mem_append_left _ ?_; k_extra "sub") | (refine List.mem_append_right _ ?_; k_extra "sub") | (refine List.Mem.tail _ ?_; k_extra "sub")))
  (k_with "rm" => (first | exact room_of 1 rfl (by assumption) rfl | exact room_of 0 rfl (by assumption) rfl | exact room_of1 1 rfl (by assumption) rfl | exact room_of1 0 rfl (by assumption) rfl | ktr_room))
  (k_with "un" => (first | exact units_of 3 rfl (by assumption) rfl | exact units_of 4 rfl (by assumption) rfl | exact units_of 0 rfl (by assumption) rfl | ktr_units))
  (k_with "gn" => refine (let P9 : Prop := _; (?_ : P9)))
  (k_with "st" => (repeat' (first | ((with_reducible show wpAny _ _ (PySem.exec _ _) _ _ _); k_fold) | ((fail_if_success (fail_if_success k_unfold)); (show wpAny _ _ _ _ _ _); (try dsimp only)) | (k_unfold; (try dsimp only)) | (k_end; wrow_close) | walk1 | (dsimp only; walk1) | (leave1; walk_say "STEP leave1"; try dsimp only) | fail "no step")))
  (k_with "D" => try ((with_reducible show wpAny _ _ _ _ _ (Shared.mk (Shared.heap _) _ _ _ _)); dsimp only))
  (k_with "E0" => ((case F => k_asm); (case V => first | assumption | exact ⟨rfl, rfl, rfl⟩)))
  (k_with "E" => (k_extra "E0"; (case e => exact rfl)))
  (k_with "S" => (intro h'8q tk'8q F'8q N'8q; (try k_sweep)))
  (k_with "A" => (intro l'8q h'8q F'8q N'8q l18q; (try k_lt l18q); (try k_sweep)))
  (k_with "spliced" => (k_here; k_extra "D"; k_dflt (first | ((with_reducible refine' s_args ?V ?F ?e ?_); k_extra "E"; k_whole; (try dsimp only [List.cons_append, List.nil_append])))))
  (k_with "evalPairs" => (k_here; k_extra "D"; k_dflt (first | ((with_reducible refine' s_pair ?V ?F ?e ?f ?_); k_extra "E"; (case f => exact rfl); k_whole))))
  (k_with "eval BinOp" => (k_here; k_extra "D"; k_dflt (first | ((with_reducible refine' s_bin ?V ?F ?e ?f ?_); k_extra "E"; (case f => exact rfl); k_whole) | ((with_reducible refine' s_binL ?V ?F ?e ?_); k_extra "E"; k_whole))))
  (k_with "isTrue Compare" => (k_here; k_extra "D"; k_dflt (first | ((with_reducible refine' s_cmp ?V ?F ?e ?f ?h ?_); k_extra "E"; (case f => exact rfl); (case h => with_unfolding_all rfl); k_whole) | ((with_reducible refine' s_cmpL ?V ?F ?e ?h ?_); k_extra "E"; (case h => with_unfolding_all rfl); k_whole))))
  (k_with "eval Subscript" => (k_here; k_extra "D"; k_dflt (first | ((with_reducible refine' s_sub ?V ?F ?e ?f ?_); k_extra "E"; (case f => exact rfl); k_whole) | ((with_reducible refine' s_subL ?V ?F ?e ?_); k_extra "E"; k_whole))))
  (k_with "eval List" => (k_here; k_extra "D"; k_dflt (first | ((with_reducible refine' s_list ?V ?F ?e ?_); k_extra "E"; k_whole))))
  (k_with "eval Tuple" => (k_here; k_extra "D"; k_dflt (first | ((with_reducible refine' s_tuple ?V ?F ?e ?_); k_extra "E"; k_whole))))
  (k_with "exec Return some" => (k_here; k_extra "D"; k_dflt (first | ((with_reducible refine' s_ret ?V ?F ?e ?_); k_extra "E"; k_whole))))
  (k_with "eval Attribute Name" => (k_here; k_extra "D"; k_dflt (first | ((with_reducible refine' s_attr ?V ?F ?e ?_ ?h); k_extra "E"; (case h => with_unfolding_all rfl); k_whole))))
  (k_with "execs cons" => (k_here; k_extra "D"; k_dflt (first | k_gentoks | ((with_reducible refine' c_asgS ?V ?F ?N ?e ?x ?_ ?h); k_extra "E"; (case N => k_asm); (case x => exact rfl); (case h => exact rfl); k_whole; k_extra "S") | ((with_reducible refine' c_asg ?_ ?h); (case h => exact rfl); k_whole; (try refine (let qk8q : Value → Shared → Prop := _; (?_ : wpAny _ _ _ qk8q _ _)))) | ((with_reducible refine' c_retS ?V ?F ?e ?_); k_extra "E"; k_whole) | (with_reducible refine c_ret ?_))))
  (k_with "storeName" => (k_here; k_extra "D"; k_dflt (first | ((with_reducible refine' c_store ?V ?F ?N ?x ?_); k_extra "E0"; (case N => k_asm); (case x => exact rfl); k_whole; k_extra "S"))))
  (k_with "newList" => (k_here; k_extra "D"; k_dflt (first | ((with_reducible refine' c_newList ?F ?N ?_ ?z); (case F => k_asm); (case N => k_asm); (case z => size_fits); k_extra "A"))))
  (k_with "newTuple" => (k_here; k_extra "D"; k_dflt (first | ((with_reducible refine' c_newTuple ?F ?N ?_ ?z); (case F => k_asm); (case N => k_asm); (case z => kmk_size); k_extra "A"))))
  (k_with "binaryOp Mult int int" => (k_here; k_extra "D"; k_dflt (first | ((with_reducible refine' c_mul ?_ ?z); (case z => mul_fits)))))
  (k_with "binaryOp Add int int" => (k_here; k_extra "D"; k_dflt (first | (with_reducible refine c_add ?_))))
  (k_with "binaryOp Sub int int" => (k_here; k_extra "D"; k_dflt (first | (with_reducible refine c_sub ?_))))
  (k_with "unaryOp USub int" => (k_here; k_extra "D"; k_dflt (first | (with_reducible refine c_neg ?_))))
  (k_with "callWith ref" => (k_here; k_extra "D"; k_dflt (first | ((with_reducible refine' s_with ?V ?F ?X ?k ?e ?_); k_extra "E"; (case X => k_asm); (case k => k_is); k_whole))))
  (k_with "eval Call" => (k_here; k_extra "D"; k_dflt (first | ((with_reducible refine' s_call ?V ?F ?X ?T ?n ?x ?d ?k ?e ?_ ?h); k_extra "E"; (case x => exact rfl); (case X => k_asm); (case T => k_asm); (case d => decide); (case n => k_is); (case k => k_is); (case h => exact rfl); k_whole))))
  (k_with "eval Name" => (k_here; k_extra "D"; k_dflt (first | ((with_reducible refine' s_val ?V ?F ?e ?_); k_extra "E"; k_whole))))
  (k_with "ktr_enter" => first
  | (refine' codeG ?k1 ?k2 ?k3 ?k4 ?k5 ?kA ?kF ?kK ?k6 ?k7 ?k8 ?k9 ?kB ?_ ?c2 ?c3 ?c4 ?c5; (case kA => exact rfl); (case kF => exact rfl); (case kK => assumption); (case k1 => first | k_asm | exact topb_of rfl rfl (by k_asm)); (case k2 => k_asm); (case k3 => k_asm); (case k4 => k_asm); (case k5 => k_asm); (case k6 => k_is); (case k7 => k_is); (case k8 => (k_extra "rm")); (case k9 => first | exact BindsTo.of_eq rfl | exact binds_K (by k_in) rfl (by k_is) rfl rfl rfl); (case c5 => decide); (case kB => exact locs rfl); (case c2 => exact rfl); (case c3 => exact rfl); (case c4 => exact rfl); k_whole; intro g'9q L'9q h'9q tk'9q st'9q FG'9q F'9q N'9q B'9q X'9q T'9q l1'9q; (try dsimp only); (try k_fold)))
  (k_with "k_inst" => exact inst_base (by k_asm) (by assumption) (by assumption))
  (k_with "getMethod ref" => (k_here; (with_reducible show wpAny _ _ (getMethod (Value.ref _) (Str.ofString "get") _) _ _ _); k_dflt (refine sd_method (SDict.base (by k_asm) (by assumption)) ?_)))
  (k_with "call builtin:dict.get" => (k_here; (with_reducible show wpAny _ _ (call (Value.builtin "dict.get") [Value.ref _, Value.str _ _]) _ _ _); k_dflt (first
  | (refine sd_get1s (SDict.base (by k_asm) (by assumption)) (by assumption) ?_; intro t'9q)
  | (refine sd_get1n (SDict.base (by k_asm) (by assumption)) (by assumption) ?_)
  | (refine sd_get1 (SDict.base (by k_asm) (by assumption)) (fun hg09q => ?_) (fun v'9q t'9q hg19q => ?_)))))
  (k_with "k_room" => (k_extra "rm"))
  (k_with "subscriptTail" => (k_here; (with_reducible show wpAny _ _ (subscriptTail _ _ (Value.ref _) (Value.str _ _)) _ _ _); k_dflt (refine sd_item (SDict.base (by k_asm) (by assumption)) (by assumption) ?_); intro t'9q))
  (k_with "call ref" => (k_here; (with_reducible show wpAny _ _ (call (Value.ref _) _) _ _ _); (try k_fold); k_dflt (refine' spec_use0 ?S ?k1 ?k2 ?k3 ?k4 ?k5 ?kK ?kP ?kd ?ku ?_; (case S => assumption); (case k1 => first | k_asm | exact topb_of rfl rfl (by k_asm)); (case k2 => k_asm); (case k3 => k_asm); (case k4 => k_asm); (case k5 => k_asm); (case kK => exact rfl); (case kP => first | exact trivial | exact ElOf.base (by k_asm) (by assumption)); (case kd => (k_extra "rm")); (case ku => (k_extra "un"))); intro r'9q tl'9q h'9q tk'9q F'9q N'9q fr'9q st'9q hR'9q; (try dsimp only at hR'9q)))
  (k_with "k_mem" => ((show _ ∈ (_ ++ _ : List (Addr × Obj))); first | (refine List.mem_append_right _ ?_; k_mem) | (refine List.mem_append_left _ ?_; k_mem)))
  (k_with "call builtin:dict.get" => (k_here; (with_reducible show wpAny _ _ (call (Value.builtin "dict.get") [Value.ref _, Value.str _ _, Value.str _ _]) _ _ _); k_dflt (refine sd_get2L (SDict.base (by k_asm) (by assumption)) (by first | assumption | decide) ?_); intro t'9q hlen'9q))
  (k_with "ite" => (first | with_reducible refine ite_ff ?_ | with_reducible refine ite_tt ?_))
  (k_with "exec For Name Attribute cons nil" => (k_here; (with_reducible show wpAny _ _ (exec (Stmt.For _ (PySem.Expr.Attribute _ (Str.ofString "attributes") _) _ _ _) _) _ _ _); k_dflt (refine For_invVF (by k_asm) (by rfl) (by rfl) ?_)))
  (k_with "call ref" => (k_here; (with_reducible show wpAny _ _ (call (Value.ref 214) _) _ _ _); (try k_fold); k_dflt ((refine' use_strC (get_specX _ _ _ _ _ _ _ _ _ _ _ _ _ _ (by decide) (by assumption)) ?k1 ?k2 ?k3 ?k4 ?k5 ?kK ?kP ?kd ?ku ?_; (case k1 => first | k_asm | exact topb_of rfl rfl (by k_asm)); (case k2 => k_asm); (case k3 => k_asm); (case k4 => k_asm); (case k5 => k_asm); (case kK => exact rfl); (case kP => (exact ElOf.base (by k_asm) (by assumption))); (case kd => (k_extra "rm")); (case ku => (k_extra "un")))); intro t'9q h'9q tk'9q F'9q N'9q hR'9q; (try dsimp only)))
  (k_with "call ref" => (k_here; (with_reducible show wpAny _ _ (call (Value.ref 296) _) _ _ _); (try k_fold); k_dflt ((refine' use_str (place_spec _ _ _ _ _ _ _ _ _ _ _ _ _ _ (by assumption) (by assumption)) ?k1 ?k2 ?k3 ?k4 ?k5 ?kK ?kP ?kd ?ku ?_; (case k1 => first | k_asm | exact topb_of rfl rfl (by k_asm)); (case k2 => k_asm); (case k3 => k_asm); (case k4 => k_asm); (case k5 => k_asm); (case kK => exact rfl); (case kP => (exact ElOf.base (by k_asm) (by assumption))); (case kd => (k_extra "rm")); (case ku => (k_extra "un")))); intro t'9q h'9q tk'9q F'9q N'9q; (try dsimp only)))
  (k_with "setItem ref str" => (k_here; (with_reducible show wpAny _ _ (setItem (Value.ref _) (Value.str _ _) (Value.str _ _)) _ _ _); k_dflt (refine' sd_set ?D ?F ?N ?U ?l ?k ?v ?_; (case D => assumption); (case F => k_asm); (case N => k_asm); (case U => k_updF); (case l => first | assumption | (refine Nat.le_trans (putA_len _ _ _) ?_; omega) | omega); (case k => first | assumption | decide); (case v => first | assumption | decide)); intro h'9q o'9q F'9q N'9q hD'9q; (try dsimp only at N'9q)))
  (k_with "compareOp NotIn str ref" => (k_here; (with_reducible show wpAny _ _ (compareOp CmpOp.NotIn (Value.str (Str.ofString _) _) (Value.ref 239)) _ _ _); k_dflt (first | (refine notin_lit false (kun_topT (by k_asm) (by k_asm) (by k_is)) (by repeat constructor) (by decide +kernel) ?_) | (refine notin_lit true (kun_topT (by k_asm) (by k_asm) (by k_is)) (by repeat constructor) (by decide +kernel) ?_))))
  induction hA with
  | nil => intro i k u h; simp at h
  | cons k' v' t' _ ih =>
    intro i k u h
    cases i with
    | zero => simp at h; obtain ⟨rfl, rfl⟩ := h; exact ⟨v', t', rfl, by simp⟩
    | succ i => obtain ⟨v, t, e1, e2⟩ := ih (by simpa using h); exact ⟨v, t, e1, by simpa using e2⟩
noncomputable abbrev flt (as : List (Str × Str)) : List (Str × Str) := as.filter fun p => !ownWords.contains p.1
theorem flt_own {as : List (Str × Str)} {i : Nat} {k v : Str} (h : as[i]? = some (k, v)) (ho : ownWords.contains k = true) : flt (as.take (i + 1)) = flt (as.take i) := by
  rw [List.take_add_one, h]; unfold flt; rw [List.filter_append]; simp only [Option.toList, List.filter_cons, ho, Bool.not_true, Bool.false_eq_true, if_false, List.filter_nil, List.append_nil]
theorem flt_not {as : List (Str × Str)} {i : Nat} {k v : Str} (hn : (as.map (·.1)).Nodup) (h : as[i]? = some (k, v)) (ho : ownWords.contains k = false) : putA (flt (as.take i)) k v = flt (as.take (i + 1)) := by
  have e : flt (as.take (i + 1)) = flt (as.take i) ++ [(k, v)] := by rw [List.take_add_one, h]; unfold flt; rw [List.filter_append]; simp only [Option.toList, List.filter_cons, ho, Bool.not_false, if_true, List.filter_nil]
  rw [e]
  unfold putA
  have hno : (flt (as.take i)).any (fun p => decide (p.1 = k)) = false := by
    rw [List.any_eq_false]
    intro p hp hk
    have hp' := (List.mem_filter.mp hp).1
    have hk' : p.1 = k := of_decide_eq_true hk
    obtain ⟨j, hj, hj2⟩ := List.getElem_of_mem hp'
    have hlen : j < i := by have := hj; rw [List.length_take] at this; omega
    have hj3 : as[j]? = some p := by
      rw [List.getElem_take] at hj2
      rw [← hj2]; exact List.getElem?_eq_getElem _
    have hi : i < as.length := (List.getElem?_eq_some_iff.mp h).1
    have hjl : j < as.length := Nat.lt_trans hlen hi
    have q1 : (as.map (·.1))[j]'(by simpa using hjl) = k := by
      rw [List.getElem_map, (List.getElem?_eq_some_iff.mp hj3).2, hk']
    have q2 : (as.map (·.1))[i]'(by simpa using hi) = k := by
      rw [List.getElem_map, (List.getElem?_eq_some_iff.mp h).2]
    exact List.pairwise_iff_getElem.mp hn j i (by simpa using hjl) (by simpa using hi) hlen (q1.trans q2.symm)
  rw [if_neg (by rw [hno]; exact Bool.false_ne_true)]
noncomputable def placeOf (px py : Str) : Str := Str.ofString "translate(" ++ px ++ Str.ofString " " ++ py ++ Str.ofString ")"
noncomputable def trOf (tr px py : Str) : Str := if tr = Str.ofString "" then placeOf px py else tr ++ Str.ofString " " ++ placeOf px py
theorem strip_tr {tr px py : Str} {a b c d : Int} (hX : T4 px a b) (hY : T4 py c d) (htr : tr = Str.ofString "" ∨ tr = Str.ofString "scale(2)") :
    Txt.strip (tr ++ Str.ofString " " ++ (Str.ofString "translate(" ++ px ++ Str.ofString " " ++ py ++ Str.ofString ")")) = trOf tr px py ∧ (trOf tr px py).length ≤ 4000 := by
  rcases hX with ⟨rfl, _, _⟩ | ⟨rfl, _, _⟩ | ⟨rfl, _, _⟩ | ⟨rfl, _, _⟩ <;> rcases hY with ⟨rfl, _, _⟩ | ⟨rfl, _, _⟩ | ⟨rfl, _, _⟩ | ⟨rfl, _, _⟩ <;> rcases htr with rfl | rfl <;> decide +kernel
theorem words_spec (w : World) (mean : ExcName → Option Value) (mg mb : Str → Option Value) (v : Value) (name text : Str) (attrs : List (Str × Str)) (kids : List El) (px py tr : Str) (a b c d : Int) (hk9 : ∀ p ∈ attrs, p.1 ∈ allWords) (hne : attrs ≠ []) (hlen : attrs.length ≤ 30)
    (hlx : (attrs.lookup (Str.ofString "x")).getD (Str.ofString "0") = px) (hly : (attrs.lookup (Str.ofString "y")).getD (Str.ofString "0") = py) (hlt : (attrs.lookup (Str.ofString "transform")).getD (Str.ofString "") = tr)
    (hX : T4 px a b) (hY : T4 py c d) (htr : tr = Str.ofString "" ∨ tr = Str.ofString "scale(2)") :
  Spec w mean mg mb 289 [v] [] 12 (fun h => ElOf w (HG h) v (.mk name attrs kids text)) (fun r _ tl => ∃ d, r = .ref d ∧ SDict w (LG tl) d (putA (flt attrs) (Str.ofString "transform") (trOf tr px py))) := by
  unfold Spec
  k_fill
  intro dp un gd cn cs a' ccd cl' outer A₀ base h₀ L m s Q E B F X N T hk hP hd hu hret
  refine wpAny_call ?_
  k_dflt ktr_enter
  first | refine (let ak : Around := _; let nk : Env := _; let sg9 : Array GenState := _; let sd9 : Drawn := _; let so9 : OsState := _; (?_ : wpAny _ ak (execs _ nk) _ _ (Shared.mk _ sg9 sd9 _ so9))) | refine (let ak : Around := _; let nk : Env := _; (?_ : wpAny _ ak (execs _ nk) _ _ _))
  try (have TB9 : TopB ak _ _ (dp + 1) (un + 3) := topb_of rfl rfl (by assumption))
  try (have FE9 : FnE nk L'9q := ⟨rfl, rfl, rfl⟩)
  try (rename Fr _ _ _ (fun y => List.lookup y (List.reverse _)) => FX9; replace FX9 := fr_binds [(Str.ofString "element", (v : Value))] rfl FX9)
  rename Stood _ _ _ => st
  replace hP := hP.mono fun a o e => st a o e (fun h => nomatch h)
  have hE := hP
  cases hP
  ((k_extra "st"); (k_extra "st"))
  rename (_ == sysModules) = false => lo1
  rename SDict _ _ _ _ => hD
  k_extra "gn"; (obtain ⟨od, kvs, hod, hdd, hA, loq, hfine⟩ := id hD) <;> k_unfold
  have hno := dict_nodup hdd
  have hna : (attrs.map (·.1)).Nodup := by rw [← attrs_keys hA]; exact hno
  rename News _ _ _ [(_, _)] => N1
  rename Obj.IsDictOf (intKind _ _) _ [] => hzi
  rename Obj.IsDictOf (PySem.strKind _ _) _ [] => hz
  clear hzi
  refine iter_keys rfl loq (by k_asm) N1 hod hdd (fun e => ?_) (fun i nw => ∃ o1, nw = [(_, o1)] ∧ SDict w (LG [(_, o1)]) _ (flt (attrs.take i))) ⟨_, rfl, _, [], .head _, hz, by simp only [List.take_zero]; exact .nil, lo1, by simp [Fine]⟩ ?_ ?_
  · rw [e] at hA; cases hA; exact hne rfl
  · rintro i k u t m₁ h tk I oI nw hki ⟨o1, rfl, hS⟩ F2 N2 off
    k_extra "gn"; (obtain ⟨vv, tv, rfl, hai⟩ := attrs_at hA hki) <;> k_unfold
    have hmm := List.mem_of_getElem? hai
    have hlk : attrs.lookup k = some vv := by
      k_extra "gn"; (obtain ⟨v2, t2, e1, e2, e3⟩ := attrs_find hA hno (List.mem_of_getElem? hki)) <;> k_unfold
      cases e1; exact e2
    obtain ⟨hl1, hl2⟩ := hfine.2 _ hmm
    have hl3 : (flt (attrs.take i)).length ≤ 39 := by
      have z1 : (flt (attrs.take i)).length ≤ (attrs.take i).length := List.length_filter_le _ _
      have z2 := List.length_take (i := i) (l := attrs)
      have z3 := (List.getElem?_eq_some_iff.mp hai).1
      have z4 := hfine.1
      omega
    dsimp only at hl1 hl2
    have hk1 := hk9 _ hmm
    clear hmm hki
    have nI : (_ : Addr) ≠ I := off _ (.head _)
    dsimp only at nI
    simp only [allWords, ownWords, List.mem_cons, List.not_mem_nil, or_false] at hk1
    rcases hk1 with rfl | rfl | rfl | rfl | rfl | rfl | rfl | rfl | rfl
    · ((k_extra "st"); (k_extra "st"))
      refine sd_set hS (by k_asm) (by k_asm) (UpdF.tail (Ne.symm nI) (UpdF.head (by intro p h; cases h))) hl3 (by decide) hl2 ?_
      intro h' o' F' N' hD'
      rw [flt_not hna hai (by decide +kernel)] at hD'
      ((k_extra "st"); (k_extra "st"))
      exact ⟨rfl, _, _, _, [(_, o')], rfl, by k_asm, by k_asm, fun p hp => by rw [List.mem_singleton.mp hp]; exact nI, o', rfl, hD'⟩
    all_goals (((k_extra "st"); (k_extra "st")); rw [← flt_own hai (by decide +kernel)] at hS; exact ⟨rfl, _, _, _, [(_, o1)], rfl, by k_asm, by k_asm, fun p hp => by rw [List.mem_singleton.mp hp]; exact nI, o1, rfl, hS⟩)
  · rintro h' tk v nw F2 N2 ⟨o1, rfl, hS⟩
    rw [hA.length, List.take_length] at hS
    have hlX : px.length ≤ 10 := by rcases hX with ⟨rfl, _, _⟩ | ⟨rfl, _, _⟩ | ⟨rfl, _, _⟩ | ⟨rfl, _, _⟩ <;> decide +kernel
    have hlY : py.length ≤ 10 := by rcases hY with ⟨rfl, _, _⟩ | ⟨rfl, _, _⟩ | ⟨rfl, _, _⟩ | ⟨rfl, _, _⟩ <;> decide +kernel
    have hlT : tr.length ≤ 10 := by rcases htr with rfl | rfl <;> decide +kernel
    ((k_extra "st"); (k_extra "st"))
    obtain ⟨hst1, hst2⟩ := strip_tr hX hY htr
    have hl4 : (flt attrs).length ≤ 39 := by
      have z1 : (flt attrs).length ≤ attrs.length := List.length_filter_le _ _
      omega
    refine lit_arg (fun v => setItem _ _ (Value.str v _)) _ _ hst1 ?_
    refine sd_set hS (by k_asm) (by k_asm) (UpdF.head (by intro p h; cases h)) hl4 (by decide) hst2 ?_
    intro h' o' F' N' hD'
    ((k_extra "st"); (k_extra "st"))
    exact spec_ret0 hret st (by assumption) (by assumption) (by assumption) (by assumption) _ (by exact fun _ h => h) ⟨_, rfl, hD'⟩
section
variable {prog : Program} {w : World} {A : Around} {R : Result → Shared → Prop} {h : Heap} {g : Array GenState} {d : Drawn} {t : Nat} {os : OsState} {C N : Addr} {E : Value → Shared → Prop}
noncomputable abbrev errCls (nm : Str) (C N : Addr) (k0 k2 k3 : Option Value) : Obj := excClassObj nm nm C N [.ref 52] [.ref 52, .type "Exception", .type "BaseException", .type "object"] true [] [] false none none k0 none k2 k3 (some (.bool true)) "Exception.__new__"
theorem err_89 (X : (hd.heap_1_39 w.params).In h) : h.get? 89 = some (errCls (Str.ofString "LimitFault") 89 88 (some (.ref 80)) (some (.str (Str.ofString "LimitFault") 281)) (some (.str (Str.ofString "LimitFault") 289))) := X _ _ (by with_unfolding_all rfl)
theorem err_77 (X : (hd.heap_1_39 w.params).In h) : h.get? 77 = some (errCls (Str.ofString "SheetFault") 77 76 (some (.ref 68)) (some (.str (Str.ofString "SheetFault") 265)) (some (.str (Str.ofString "SheetFault") 273))) := X _ _ (by with_unfolding_all rfl)
noncomputable abbrev excObj (C t : Addr) : Obj := { cls := .ref C, data := .fields #[.ref t, .none, .none, .none, .bool false, .none] }
noncomputable abbrev tupO (vs : List Value) : Obj := { cls := .type "tuple", data := .seq vs.toArray }
variable {nm : Str} {k0 k2 k3 : Option Value}
theorem err_check {rest : List Value} {Q : Unit → Shared → Prop} (hC : h.get? C = some (errCls nm C N k0 k2 k3)) (hq : Q () ⟨h, g, d, t, os⟩) :
    wpAny (model prog w) A (checkBuiltinCall "Exception.__new__" ⟨.ref C :: rest, []⟩) Q E ⟨h, g, d, t, os⟩ := by
  k_with_none
  w_top off
  (k_with "an" => (first | assumption | exact And.left (by assumption) | exact And.left (And.right (by assumption)) | exact And.left (And.right (And.right (by assumption))) | exact And.left (And.right (And.right (And.right (by assumption)))) | exact And.left (And.right (And.right (And.right (And.right (by assumption))))) | exact And.left (And.right (And.right (And.right (And.right (And.right (by assumption)))))) | exact And.left (And.right (And.right (And.right (And.right (And.right (And.right (by assumption))))))) | exact And.left (And.right (And.right (And.right (And.right (And.right (And.right (And.right (by assumption)))))))) | exact And.left (And.right (And.right (And.right (And.right (And.right (And.right (And.right (And.right (by assumption)))))))))))
  (k_with "k_ne" => (refine neN ?_; (try dsimp only); first | (refine Nat.ne_of_lt ?_; k_extra "an") | (refine Nat.ne_of_gt ?_; k_extra "an")))
  (k_with "sub" => (first | assumption | (refine List.mem_append_left _ ?_; k_extra "sub") | (refine List.mem_append_right _ ?_; k_extra "sub") | (refine List.Mem.tail _ ?_; k_extra "sub")))
  have F := PySem.F.excBase_Exception
  have e1 : (Value.ref C :: [.ref 52, .type "Exception", .type "BaseException", .type "object"]).contains (.type "Exception") = true := by
    rw [List.contains_cons]; rw [show List.contains [Value.ref 52, .type "Exception", .type "BaseException", .type "object"] (.type "Exception") = true from by decide +kernel, Bool.or_true]
  have hstar := F.noStar
  simp only [checkBuiltinCall, F.newKind, F.newSplit, F.newRow]
  repeat (first | refine wpAny_loadPart_at hC ?_ | (refine wpAny_isSubtype_exc hC ?_; rw [e1]) | refine wpAny_staticBase_exc hC ?_ | refine wpAny_madeBy_exc hC ?_ | simp only [bne_self_eq_false, Bool.false_eq_true, if_false] | wp_step)
  exact hq
theorem err_new {rest : List Value} (hC : h.get? C = some (errCls nm C N k0 k2 k3))
    (hq : R (.ok (.ret (.ref (h.objs.size + 1)))) ⟨(h.push (tupO rest)).push (excObj C h.objs.size), g, d, t, os⟩) (hrest : rest.length ≤ sizeLine := by size_fits) :
    codeAny (model prog w) A (.builtin "Exception.__new__" ⟨.ref C :: rest, []⟩) R ⟨h, g, d, t, os⟩ := by
  have F := PySem.F.excBase_Exception
  have hends := F.ends
  have e0 : ∀ T : String, (Value.ref C :: [.ref 52, .type "Exception", .type "BaseException", .type "object"]).contains (.type T) = List.contains [Value.ref 52, .type "Exception", .type "BaseException", .type "object"] (.type T) := fun T => by rw [List.contains_cons]; rfl
  have e1 := e0 "Exception"
  have e2 := e0 "AttributeError"
  have e3 := e0 "NameError"
  rw [show List.contains [Value.ref 52, .type "Exception", .type "BaseException", .type "object"] (.type "Exception") = true from by decide +kernel] at e1
  rw [show List.contains [Value.ref 52, .type "Exception", .type "BaseException", .type "object"] (.type "AttributeError") = false from by decide +kernel] at e2
  rw [show List.contains [Value.ref 52, .type "Exception", .type "BaseException", .type "object"] (.type "NameError") = false from by decide +kernel] at e3
  refine codeAny_builtinAt F.entry ?_
  unfold Builtin.«BaseException.__new__»
  refine PySem.wpAt_bind ?_
  show PySem.wpAt _ _ _ (stack >>= _) _ _ _
  refine PySem.wpAt_bind (PySem.wpAt_stack fun p below => PySem.wpAt_of_wpAny ?_)
  wp_walk
  refine PySem.wpAt_of_wpAny ?_
  rw [F.owner]
  repeat (first | with_reducible refine wpAny_madeHere_exc F.canon hC ?_ | with_reducible refine wpAny_loadPart_at hC ?_ | (with_reducible refine wpAny_isSubtype_exc hC ?_; first | rw [e1] | rw [e2] | rw [e3]) | wp_step)
  show R _ _
  rw [Heap.size_push]
  exact hq
theorem err_make {rest : List Value} (hC : h.get? C = some (errCls nm C N k0 k2 k3)) (call : Looks (model prog w) h (specialOf (.ref C) "__call__") (some (.builtin "type.__call__"))) (typ : Looks (model prog w) h (isInstance (.ref C) (.type "type")) true)
    (hi : Looks (model prog w) h (typeLookup (.ref C) "__init__") (some (.ref 49))) (hb : ∀ self, Looks (model prog w) h (bindSpecial (.ref 49) self) (.ref 49, [self]))
    (hq : codeAny (model prog w) (A.under (.builtin "type.__call__" ⟨.ref C :: rest, []⟩)) (.call (.ref 49) ⟨.ref (h.objs.size + 1) :: rest, []⟩) (InitBack (h.objs.size + 1) R) ⟨(h.push (tupO rest)).push (excObj C h.objs.size), g, d, t, os⟩) (hrest : rest.length ≤ sizeLine := by size_fits) :
    codeAny (model prog w) A (.call (.ref C) ⟨rest, []⟩) R ⟨h, g, d, t, os⟩ := by
  have F := PySem.F.excBase_Exception
  refine codeAny_of_tree ?_
  show wpAny _ _ (callAny (.ref C) _) _ _ _
  refine nd_load hC ?_
  show wpAny _ _ (callAny.viaDunder (.ref C) _) _ _ _
  unfold callAny.viaDunder
  refine wpAny_bind (call.at ?_)
  dsimp only
  rw [tc_bind]
  refine wpAny_bind (wpAny_pure (wpAny_bind (wpAny_pure ?_)))
  refine wpAny_pure (a := Fin.again (.call (.builtin "type.__call__") ⟨.ref C :: rest, []⟩)) (And.intro rfl ?_)
  refine codeAny_call_builtin_at (Code.quiet_builtin _ (by decide +kernel)) entry_typeCall (check_slot tc_kind tc_split typ (tc_args _ _ _) ?_)
  unfold Builtin.«type.__call__»
  have hm : Looks (model prog w) h (mroOf (.ref C)) (.ref C :: [.ref 52, .type "Exception", .type "BaseException", .type "object"]) := ((Looks.ld (part := none) hC).andThen .now).andThen .now
  have made : Looks (model prog w) h (Bind.madeBy (.ref C)) (some "Exception.__new__") := by
    intro A Q E s k q
    obtain ⟨hh, g, d, t, os⟩ := s
    exact wpAny_madeBy_exc (k _ _ hC) q
  repeat (first | simp only [List.isEmpty_cons, Bool.false_eq_true, if_false] | with_reducible refine wpAny_call ?_ | lk)
  refine codeAny_call_builtin_code (Code.quiet_builtin _ F.quiet) (err_check hC ?_)
  refine err_new hC ?_ hrest
  have k : ∀ b o, h.get? b = some o → ((h.push (tupO rest)).push (excObj C h.objs.size)).get? b = some o := fun b o e => Heap.get?_push_of_some _ (Heap.get?_push_of_some _ e)
  have hx : ((h.push (tupO rest)).push (excObj C h.objs.size)).get? (h.objs.size + 1) = some (excObj C h.objs.size) := by heap_get
  have t1 : Looks (model prog w) ((h.push (tupO rest)).push (excObj C h.objs.size)) (typeOf (.ref (h.objs.size + 1))) (.ref C) := (Looks.ld hx).andThen .now
  have s1 : Looks (model prog w) ((h.push (tupO rest)).push (excObj C h.objs.size)) (isSubtype (.ref C) (.ref C)) true := by
    intro A Q E s k' q
    obtain ⟨hh, g, d, t, os⟩ := s
    refine wpAny_isSubtype_exc (k' _ _ (k _ _ hC)) ?_
    rw [show (Value.ref C :: [.ref 52, .type "Exception", .type "BaseException", .type "object"]).contains (.ref C) = true from by simp]
    exact q
  have i1 := hi.keeps k
  have b1 := (hb (.ref (h.objs.size + 1))).keeps k
  unfold isInstance callSpecial? specialOf
  dsimp only
  repeat (first | with_reducible refine wpAny_call ?_ | lk)
  refine codeAny_mono hq fun r s' z => ?_
  rcases r with e | (v | _ | _ | _) <;> first | exact z | exact z.elim | skip
  obtain ⟨rfl, z⟩ := z
  exact wpAny_pure (wpAny_pure z)
theorem call_looks (X : (hd.heap_1_39 w.params).In h) (hC : C = 77 ∨ C = 89) : Looks (model prog w) h (specialOf (.ref C) "__call__") (some (.builtin "type.__call__")) ∧ Looks (model prog w) h (isInstance (.ref C) (.type "type")) true ∧
    Looks (model prog w) h (typeLookup (.ref C) "__init__") (some (.ref 49)) ∧ ∀ self, Looks (model prog w) h (bindSpecial (.ref 49) self) (.ref 49, [self]) := by
  rcases hC with rfl | rfl
  · exact ⟨looks_specialIn X (by with_unfolding_all rfl), looks_instIn X (by with_unfolding_all rfl), looks_findIn X (by with_unfolding_all rfl), fun self => bind_fn X self (by with_unfolding_all rfl)⟩
  · exact ⟨looks_specialIn X (by with_unfolding_all rfl), looks_instIn X (by with_unfolding_all rfl), looks_findIn X (by with_unfolding_all rfl), fun self => bind_fn X self (by with_unfolding_all rfl)⟩
end
section
variable {w : World} {A : Around} {R : Result → Shared → Prop} {h : Heap} {g : Array GenState} {d : Drawn} {t : Nat} {os : OsState} {C x t0 : Addr} {E : Value → Shared → Prop} {name : Str} {v : Value}
theorem err_set {Q : Unit → Shared → Prop} (X : (hd.heap_1_39 w.params).In h) (hC : C = 77 ∨ C = 89) (hx : h.get? x = some (excObj C t0))
    (hq : ∀ h' tk' o₁, (∀ b o, b ≠ x → h.get? b = some o → h'.get? b = some o) → h'.get? x = some o₁ → o₁.cls = .ref C → o₁.data = (excObj C t0).data → Q () ⟨h', g, d, tk', os⟩) :
    wpAny (model PG w) A (setAttr (.ref x) (Str.ofString "message") v) Q E ⟨h, g, d, t, os⟩ := by
  k_with_none
  w_top off
  (k_with "an" => (first | assumption | exact And.left (by assumption) | exact And.left (And.right (by assumption)) | exact And.left (And.right (And.right (by assumption))) | exact And.left (And.right (And.right (And.right (by assumption)))) | exact And.left (And.right (And.right (And.right (And.right (by assumption))))) | exact And.left (And.right (And.right (And.right (And.right (And.right (by assumption)))))) | exact And.left (And.right (And.right (And.right (And.right (And.right (And.right (by assumption))))))) | exact And.left (And.right (And.right (And.right (And.right (And.right (And.right (And.right (by assumption)))))))) | exact And.left (And.right (And.right (And.right (And.right (And.right (And.right (And.right (And.right (by assumption)))))))))))
  (k_with "k_ne" => (refine neN ?_; (try dsimp only); first | (refine Nat.ne_of_lt ?_; k_extra "an") | (refine Nat.ne_of_gt ?_; k_extra "an")))
  (k_with "sub" => (first | assumption | (refine List.mem_append_left _ ?_; k_extra "sub") | (refine List.mem_append_right _ ?_; k_extra "sub") | (refine List.Mem.tail _ ?_; k_extra "sub")))
  (k_with "gn" => refine (let P9 : Prop := _; (?_ : P9)))
  have t1 : Looks (model PG w) h (typeOf (.ref x)) (.ref C) := (Looks.ld hx).andThen .now
  have f1 : findIn (hd.heap_1_39 w.params) (.ref C) (Str.ofString "__setattr__") = some (some (.builtin "object.__setattr__")) := by rcases hC with rfl | rfl <;> with_unfolding_all rfl
  have f2 : findIn (hd.heap_1_39 w.params) (.ref C) (Str.ofString "message") = some none := by rcases hC with rfl | rfl <;> with_unfolding_all rfl
  have f3 : mroIn (hd.heap_1_39 w.params) C (.type "object") = some true := by rcases hC with rfl | rfl <;> with_unfolding_all rfl
  obtain ⟨cd, hc, hmro, hdct⟩ : ∃ cd, clsIn (hd.heap_1_39 w.params) C = some cd ∧ cd.mro = [.ref C, .ref 52, .type "Exception", .type "BaseException", .type "object"] ∧ cd.hasDict = true := by
    rcases hC with rfl | rfl <;> exact ⟨_, by with_unfolding_all rfl, rfl, rfl⟩
  have SF := PySem.F.store_object
  refine wpAny_bind (wpAny_mkText (wpAny_bind (wpAny_bind (wpAny_bind (t1 _ _ _ _ (fun _ _ e => e) (looks_findIn X f1 _ _ _ _ (fun _ _ e => e) (wpAny_holding ?_)))))))
  rw [PySem.F.store_object.slot.bind]
  refine wpAny_bind (wpAny_pure (wpAny_bind (wpAny_call ?_)))
  have sub : Looks (model PG w) h (isInstance (.ref x) (.type "object")) true := t1.andThen (looks_mroIn X f3)
  refine codeAny_call_builtin SF.slot.plain SF.entry (@check_slot (model PG w) _ _ _ "object.__setattr__" "object" "__setattr__" (.ref x) [.str _ _, v] [] _ SF.kind SF.split sub (SF.args (.ref x) (.str _ _) v) ?_)
  have hm : Looks (model PG w) h (mroOf (.ref C)) cd.mro := (looks_clsIn X hc).andThen .now
  show wpAny _ _ (Builtin.«object.__setattr__» ⟨[.ref x, .str (Str.ofString "message") t, v], []⟩) _ _ ⟨h, g, d, t + 1, os⟩
  rw [osa_eq, refuse_eq]
  refine wpAny_bind (wpAny_bind (t1.here (wpAny_bind (hm.here ?_))))
  rw [hmro, refuseLoop_ref, refuseLoop_ref, PySem.F.store_Exception.passes]
  refine wpAny_pure (wpAny_bind (t1.here (wpAny_bind ((looks_findIn X f2).here (wpAny_bind ?_)))))
  refine wpAny_pure ?_
  refine wpAny_bind (wpAny_pure (wpAny_bind (wpAny_bind (wpAny_loadPart hx (wpAny_bind ((looks_clsIn X hc).here ?_))))))
  rw [hdct]
  have hx1 : (h.push { cls := .type "dict", data := .dict #[] }).get? x = some (excObj C t0) := Heap.get?_push_of_some _ hx
  have hxs : x ≠ h.objs.size := Nat.ne_of_lt (Heap.lt_size hx)
  refine wpAny_bind (wpAny_alloc ?_)
  refine wpAny_bind (wpAny_update hx1 ?_)
  refine wpAny_pure ?_
  have hgd : ((h.push { cls := .type "dict", data := .dict #[] }).update x fun o => { cls := o.cls, dict := some h.objs.size, data := o.data, slots := o.slots }).get? h.objs.size = some { cls := .type "dict", data := .dict #[] } :=
    (Heap.get?_update_ne _ _ _ _ hxs.symm).trans (Heap.get?_push_at rfl rfl)
  have hnd : ((h.push { cls := .type "dict", data := .dict #[] }).update x fun o => { cls := o.cls, dict := some h.objs.size, data := o.data, slots := o.slots }).Ns h.objs.size (fun _ => none) :=
    ⟨_, #[], _, hgd, rfl, fun e he => absurd he (by simp), fun _ => rfl⟩
  show wpAny _ _ (Builtin.ObjectAttr.storeInDict h.objs.size (.str _ _) _ v) _ _ _
  unfold Builtin.ObjectAttr.storeInDict Builtin.ObjectAttr.newKeyGuard
  refine wpAny_bind (wpAny_pure (wpAny_bind (wpAny_nsSet1 (Heap.Ns1.of_empty hnd) fun h' hn' hs => ?_)))
  k_extra "gn"; (obtain ⟨oD, esD, epD, hoD, hdD, hcD⟩ := hn'.count (Within.cons _ v Within.nil)) <;> k_unfold
  refine wpAny_bind (wpAny_lookBehind hoD (by rw [hdD]; exact pastItsLine_dict (Nat.le_trans hcD (by rw [List.length_cons, List.length_nil, sizeLine_eq]; omega))) ?_)
  refine wpAny_pure ?_
  show wpAny _ _ _ _ _ _
  refine wpAny_pure (wpAny_pure ?_)
  refine hq h' _ { (excObj C t0) with dict := some h.objs.size } (fun b o hb e => ?_) ?_ rfl rfl
  · exact (hs.2 b (Nat.ne_of_lt (Heap.lt_size e))).trans ((Heap.get?_update_ne _ _ _ _ hb).trans (Heap.get?_push_of_some _ e))
  · exact (hs.2 x hxs).trans (Heap.get?_update_self _ hx1 rfl)
end
theorem err_call {w : World} {mean : ExcName → Option Value} {mg mb : Str → Option Value} {C : Addr} {msg : Str} {tt : Tok} (hC : C = 77 ∨ C = 89)
    {dp un : Nat} {gd : Option (List Code)} {cn : Str} {cs : Scope} {a : Addr} {ccd : Value} {cl : List (Str × Addr)} {outer : List Env} {A₀ : Around} {base h₀ : Heap} {L : Addr} {m : Str → Option Value} {s : Shared} {Q E : Value → Shared → Prop} {news : List (Addr × Obj)}
    (B : Below A₀ base outer h₀) (F : Fr h₀ L s.heap m) (X : (hd.heap_1_39 w.params).In h₀) (N : News h₀ L s.heap news)
    (T : Top hd.view_1_40 (looseW hd.view_1_40 [Str.ofString "fraction", Str.ofString "write_decimal", Str.ofString "length", Str.ofString "Uses"]) mean mg mb h₀)
    (hk : cs.kind = .function) (hd : dp + 3 < recursionLimit) (hu : un + 8 * 3 < cLine)
    (hq : ∀ e t0 h' tk' o₁, Fr h₀ L h' m → News h₀ L h' news → s.heap.get? e = none → h'.get? e = some o₁ → o₁.cls = .ref C → o₁.data = (excObj C t0).data → (∀ b o, s.heap.get? b = some o → h'.get? b = some o) → Q (.ref e) { s with heap := h', toks := tk' }) :
    wpAny (model PG w) (ktrTop dp un gd cn cs L a ccd cl outer) (call (.ref C) [.str msg tt]) Q E s := by
  k_with_none
  w_top off
  (k_with "an" => (first | assumption | exact And.left (by assumption) | exact And.left (And.right (by assumption)) | exact And.left (And.right (And.right (by assumption))) | exact And.left (And.right (And.right (And.right (by assumption)))) | exact And.left (And.right (And.right (And.right (And.right (by assumption))))) | exact And.left (And.right (And.right (And.right (And.right (And.right (by assumption)))))) | exact And.left (And.right (And.right (And.right (And.right (And.right (And.right (by assumption))))))) | exact And.left (And.right (And.right (And.right (And.right (And.right (And.right (And.right (by assumption)))))))) | exact And.left (And.right (And.right (And.right (And.right (And.right (And.right (And.right (And.right (by assumption)))))))))))
  (k_with "k_ne" => (refine neN ?_; (try dsimp only); first | (refine Nat.ne_of_lt ?_; k_extra "an") | (refine Nat.ne_of_gt ?_; k_extra "an")))
  (k_with "sub" => (first | assumption | (refine List.mem_append_left _ ?_; k_extra "sub") | (refine List.mem_append_right _ ?_; k_extra "sub") | (refine List.Mem.tail _ ?_; k_extra "sub")))
  (k_with "rm" => (first | exact room_of 1 rfl (by assumption) rfl | exact room_of 0 rfl (by assumption) rfl | exact room_of1 1 rfl (by assumption) rfl | exact room_of1 0 rfl (by assumption) rfl | ktr_room))
  (k_with "un" => (first | exact units_of 3 rfl (by assumption) rfl | exact units_of 4 rfl (by assumption) rfl | exact units_of 0 rfl (by assumption) rfl | ktr_units))
  (k_with "ktr_enter" => first
  | (refine' codeG ?k1 ?k2 ?k3 ?k4 ?k5 ?kA ?kF ?kK ?k6 ?k7 ?k8 ?k9 ?kB ?_ ?c2 ?c3 ?c4 ?c5; (case kA => exact rfl); (case kF => exact rfl); (case kK => assumption); (case k1 => first | k_asm | exact topb_of rfl rfl (by k_asm)); (case k2 => k_asm); (case k3 => k_asm); (case k4 => k_asm); (case k5 => k_asm); (case k6 => k_is); (case k7 => k_is); (case k8 => (k_extra "rm")); (case k9 => first | exact BindsTo.of_eq rfl | exact binds_K (by k_in) rfl (by k_is) rfl rfl rfl); (case c5 => decide); (case kB => exact locs rfl); (case c2 => exact rfl); (case c3 => exact rfl); (case c4 => exact rfl); k_whole; intro g'9q L'9q h'9q tk'9q st'9q FG'9q F'9q N'9q B'9q X'9q T'9q l1'9q; (try dsimp only); (try k_fold)))
  (k_with "k_inst" => exact inst_base (by k_asm) (by assumption) (by assumption))
  (k_with "getMethod ref" => (k_here; (with_reducible show wpAny _ _ (getMethod (Value.ref _) (Str.ofString "get") _) _ _ _); k_dflt (refine sd_method (SDict.base (by k_asm) (by assumption)) ?_)))
  (k_with "call builtin:dict.get" => (k_here; (with_reducible show wpAny _ _ (call (Value.builtin "dict.get") [Value.ref _, Value.str _ _]) _ _ _); k_dflt (first
  | (refine sd_get1s (SDict.base (by k_asm) (by assumption)) (by assumption) ?_; intro t'9q)
  | (refine sd_get1n (SDict.base (by k_asm) (by assumption)) (by assumption) ?_)
  | (refine sd_get1 (SDict.base (by k_asm) (by assumption)) (fun hg09q => ?_) (fun v'9q t'9q hg19q => ?_)))))
  (k_with "k_room" => (k_extra "rm"))
  (k_with "subscriptTail" => (k_here; (with_reducible show wpAny _ _ (subscriptTail _ _ (Value.ref _) (Value.str _ _)) _ _ _); k_dflt (refine sd_item (SDict.base (by k_asm) (by assumption)) (by assumption) ?_); intro t'9q))
  (k_with "call ref" => (k_here; (with_reducible show wpAny _ _ (call (Value.ref _) _) _ _ _); (try k_fold); k_dflt (refine' spec_use0 ?S ?k1 ?k2 ?k3 ?k4 ?k5 ?kK ?kP ?kd ?ku ?_; (case S => assumption); (case k1 => first | k_asm | exact topb_of rfl rfl (by k_asm)); (case k2 => k_asm); (case k3 => k_asm); (case k4 => k_asm); (case k5 => k_asm); (case kK => exact rfl); (case kP => first | exact trivial | exact ElOf.base (by k_asm) (by assumption)); (case kd => (k_extra "rm")); (case ku => (k_extra "un"))); intro r'9q tl'9q h'9q tk'9q F'9q N'9q fr'9q st'9q hR'9q; (try dsimp only at hR'9q)))
  (k_with "k_mem" => ((show _ ∈ (_ ++ _ : List (Addr × Obj))); first | (refine List.mem_append_right _ ?_; k_mem) | (refine List.mem_append_left _ ?_; k_mem)))
  (k_with "call builtin:dict.get" => (k_here; (with_reducible show wpAny _ _ (call (Value.builtin "dict.get") [Value.ref _, Value.str _ _, Value.str _ _]) _ _ _); k_dflt (refine sd_get2L (SDict.base (by k_asm) (by assumption)) (by first | assumption | decide) ?_); intro t'9q hlen'9q))
  have X' := X.keeps F.keep
  obtain ⟨c1, c2, c3, c4⟩ := call_looks (prog := PG) X' hC
  obtain ⟨hh, g, d, t, os⟩ := s
  dsimp only at F N X' c1 c2 c3 c4 hq
  have hCo : ∃ nm N k0 k2 k3, hh.get? C = some (errCls nm C N k0 k2 k3) := by
    rcases hC with rfl | rfl
    · exact ⟨_, _, _, _, _, err_77 X'⟩
    · exact ⟨_, _, _, _, _, err_89 X'⟩
  obtain ⟨nm, Nn, k0, k2, k3, hCo⟩ := hCo
  refine wpAny_call (err_make hCo c1 c2 c3 c4 ?_)
  have F2 := (F.push (tupO [.str msg tt])).push (excObj C hh.objs.size)
  have N2 := (N.push F (tupO [.str msg tt])).push (F.push _) (excObj C hh.objs.size)
  rw [Heap.size_push] at N2
  refine' codeG (m := m) (h₀ := h₀) (L := L) ?k1 ?k2 ?k3 ?k4 ?k5 ?kA ?kF ?kK ?k6 ?k7 ?k8 ?k9 ?kB ?_ ?c2 ?c3 ?c4 ?c5
  case kA => exact rfl
  case kF => exact rfl
  case kK => assumption
  case k1 => exact B
  case k2 => exact F2
  case k3 => exact X
  case k4 => exact N2
  case k5 => exact T
  case k6 => with_unfolding_all exact rfl
  case k7 => with_unfolding_all rfl
  case k8 => (k_extra "rm")
  case k9 => exact BindsTo.of_eq rfl
  case c5 => decide
  case kB => exact locs rfl
  case c2 => exact rfl
  case c3 => exact rfl
  case c4 => exact rfl
  k_whole
  intro g' L' h' tkG st' FG' F' N' B' X'' T' l1'
  k_steps
  have me : (hh.objs.size + 1, excObj C hh.objs.size) ∈ ((hh.objs.size + 1, excObj C hh.objs.size) :: (hh.objs.size, tupO [Value.str msg tt]) :: news) := .head _
  have hLe : L' ≠ hh.objs.size + 1 := fun q => (N' _ me).2.1 q.symm
  have hoff : ∀ p ∈ ((hh.objs.size, tupO [Value.str msg tt]) :: news), p.1 ≠ hh.objs.size + 1 := fun p hp => by
    rcases List.mem_cons.mp hp with rfl | hp
    · exact Nat.ne_of_lt (Nat.lt_succ_self _)
    · exact Nat.ne_of_lt (Nat.lt_succ_of_lt (Heap.lt_size (N p hp).1))
  refine err_set (X''.keeps F'.keep) hC (N' _ me).1 ?_
  intro h2 tk2 o1 k1 e1 e2 e3
  have kb : ∀ b o, b ∉ [hh.objs.size + 1] → _ → h2.get? b = some o := fun b o hb e => k1 b o (by simpa using hb) e
  have F3 := LCg.fr_but F' kb hLe (N' _ me).2.2
  have N3 : News g' L' h2 ((hh.objs.size + 1, o1) :: (hh.objs.size, tupO [Value.str msg tt]) :: news) := fun p hp => by
    rcases List.mem_cons.mp hp with rfl | hp
    · exact ⟨e1, (N' _ me).2⟩
    · exact LCg.news_but (fun p hp => N' p (.tail _ hp)) kb hoff p hp
  clear F' N' kb
  dsimp only
  k_steps
  rename News h₀ L h2 _ => kN
  rename Fr h₀ L h2 m => kF
  refine hq _ hh.objs.size h2 _ o1 kF (fun p hp => kN p (.tail _ (.tail _ hp))) (Heap.get?_none_of_le (Nat.le_succ _)) e1 e2 e3 (fun b o hb => ?_)
  have hlt := Heap.lt_size hb
  by_cases hm : b ∈ news.map (·.1)
  · obtain ⟨p, hp, rfl⟩ := List.mem_map.mp hm
    have z1 := (N p hp).1
    rw [hb] at z1
    cases z1
    exact (kN p (.tail _ (.tail _ hp))).1
  · refine F3.keep b o (st' b o ?_ ?_)
    · exact Heap.get?_push_of_some _ (Heap.get?_push_of_some _ hb)
    · intro z
      simp only [List.map_cons, List.mem_cons] at z
      rcases z with z | z | z
      · exact absurd hlt (by rw [show b = hh.objs.size + 1 from z]; exact Nat.not_lt.mpr (Nat.le_succ _))
      · exact absurd hlt (by rw [show b = hh.objs.size from z]; exact Nat.lt_irrefl _)
      · exact hm z
noncomputable def ErrUp (w : World) (E : Value → Shared → Prop) (v : Value) (s₁ : Shared) : Prop :=
  ∃ a ob t0 C, (C = 77 ∨ C = 89) ∧ (hd.heap_1_39 w.params).In s₁.heap ∧ v = .ref a ∧ s₁.heap.get? a = some ob ∧ ob.cls = .ref C ∧ ob.data = (excObj C t0).data ∧ E (.ref a) s₁
theorem raise_err {w : World} {A : Around} {E : Value → Shared → Prop} {s : Shared} {env : Env} {e : PySem.Expr} {pos : Pos} {Q : Flow → Shared → Prop} (hh : A.handled = none)
    (h : wpAny (model PG w) A (eval e env) (ErrUp w E) E s) : wpAny (model PG w) A (exec (.Raise (some e) none pos) env) Q E s := by
  k_with_none
  w_top off
  (k_with "an" => (first | assumption | exact And.left (by assumption) | exact And.left (And.right (by assumption)) | exact And.left (And.right (And.right (by assumption))) | exact And.left (And.right (And.right (And.right (by assumption)))) | exact And.left (And.right (And.right (And.right (And.right (by assumption))))) | exact And.left (And.right (And.right (And.right (And.right (And.right (by assumption)))))) | exact And.left (And.right (And.right (And.right (And.right (And.right (And.right (by assumption))))))) | exact And.left (And.right (And.right (And.right (And.right (And.right (And.right (And.right (by assumption)))))))) | exact And.left (And.right (And.right (And.right (And.right (And.right (And.right (And.right (And.right (by assumption)))))))))))
  (k_with "k_ne" => (refine neN ?_; (try dsimp only); first | (refine Nat.ne_of_lt ?_; k_extra "an") | (refine Nat.ne_of_gt ?_; k_extra "an")))
  (k_with "sub" => (first | assumption | (refine List.mem_append_left _ ?_; k_extra "sub") | (refine List.mem_append_right _ ?_; k_extra "sub") | (refine List.Mem.tail _ ?_; k_extra "sub")))
  (k_with "gn" => refine (let P9 : Prop := _; (?_ : P9)))
  show wpAny (model PG w) A (do standAt pos; raiseStmt env (some (do let v ← eval e env; standAt pos; pure v)) none) Q E s
  refine wpAny_bind (wpAny_standAt ?_)
  unfold raiseStmt
  dsimp only
  refine wpAny_bind (wpAny_bind (wpAny_mono h (fun v s₁ h₁ => wpAny_bind (wpAny_standAt (wpAny_pure ?_))) fun _ _ x => x))
  k_extra "gn"; (obtain ⟨a, ob, t0, C, hC, X, rfl, ha, hcls, hdt, hE⟩ := h₁) <;> k_unfold
  have f3 : mroIn (hd.heap_1_39 w.params) C (.type "BaseException") = some true := by rcases hC with rfl | rfl <;> with_unfolding_all rfl
  k_extra "gn"; (obtain ⟨oc, od, oda, osl⟩ := ob) <;> k_unfold
  dsimp only at hcls hdt
  subst hcls hdt
  have t1 : Looks (model PG w) s₁.heap (typeOf (.ref a)) (.ref C) := (Looks.ld ha).andThen .now
  have t2 : Looks (model PG w) s₁.heap (typeOf (.ref C)) (.type "type") := looks_typeIn X (by rcases hC with rfl | rfl <;> with_unfolding_all rfl)
  have sub : Looks (model PG w) s₁.heap (isInstance (.ref a) (.type "BaseException")) true := t1.andThen (looks_mroIn X f3)
  have hnt : ∀ {Q' : Bool → Shared → Prop}, Q' false s₁ → wpAny (model PG w) A (isType (.ref a)) Q' E s₁ := by
    intro Q' hq
    simp only [isType, loadHead]
    refine wpAny_bind (wpAny_loadPart ha ?_)
    exact wpAny_pure hq
  refine wpAny_bind (wpAny_pure ?_)
  dsimp only
  refine wpAny_bind (wpAny_holding ?_)
  unfold excFromValue isExcClass
  refine wpAny_bind (wpAny_bind (hnt ?_))
  simp only [Bool.false_eq_true, if_false]
  refine wpAny_pure ?_
  simp only [Bool.false_eq_true, if_false]
  refine wpAny_bind (sub.here ?_)
  simp only [if_true]
  refine wpAny_pure ?_
  refine wpAny_bind (hnt ?_)
  simp only [Bool.false_eq_true, if_false]
  unfold raisedInstance
  refine wpAny_bind (wpAny_bind (t1.here (wpAny_bind (t2.here ?_))))
  rw [if_pos (by decide)]
  refine wpAny_pure ?_
  unfold setFlight raiseNew
  refine wpAny_bind (wpAny_bind (wpAny_field ha rfl (x := .none) rfl ?_))
  rw [if_neg (by decide)]
  refine wpAny_pure (wpAny_bind (wpAny_handled ?_))
  rw [hh]
  first
    | exact wpAny_throw hE
    | exact wpAny_bind (wpAny_pure (wpAny_throw hE))
noncomputable def FlyU (B : Heap) (l : List Env) (e C : Addr) (h : Heap) : Prop := B.StaysIn h ∧ B.get? e = none ∧ h.FunFrames B l ∧ ∃ a0 fl, h.TracedAtW B e (.ref C) a0 fl
section
variable {M : Model} {A : Around} {E : Value → Shared → Prop} {s : Shared} {B : Heap} {env : Env} {outer : List Env} {L e C : Addr}
theorem note_U {Q : Unit → Shared → Prop} (hfr : A.frames = some (env :: outer)) (hf : env.frame = some L) (x : FlyU B (env :: outer) e C s.heap)
    (hQ : ∀ h' a0, Heap.HeldW B (env :: outer) e (.ref C) a0 L h' → s.heap.UpToSlots h' → Q () { s with heap := h' }) : wpAny M A (noteFrame (.ref e) env) Q E s := by
  k_with_none
  w_top off
  (k_with "an" => (first | assumption | exact And.left (by assumption) | exact And.left (And.right (by assumption)) | exact And.left (And.right (And.right (by assumption))) | exact And.left (And.right (And.right (And.right (by assumption)))) | exact And.left (And.right (And.right (And.right (And.right (by assumption))))) | exact And.left (And.right (And.right (And.right (And.right (And.right (by assumption)))))) | exact And.left (And.right (And.right (And.right (And.right (And.right (And.right (by assumption))))))) | exact And.left (And.right (And.right (And.right (And.right (And.right (And.right (And.right (by assumption)))))))) | exact And.left (And.right (And.right (And.right (And.right (And.right (And.right (And.right (And.right (by assumption)))))))))))
  (k_with "k_ne" => (refine neN ?_; (try dsimp only); first | (refine Nat.ne_of_lt ?_; k_extra "an") | (refine Nat.ne_of_gt ?_; k_extra "an")))
  (k_with "sub" => (first | assumption | (refine List.mem_append_left _ ?_; k_extra "sub") | (refine List.mem_append_right _ ?_; k_extra "sub") | (refine List.Mem.tail _ ?_; k_extra "sub")))
  (k_with "gn" => refine (let P9 : Prop := _; (?_ : P9)))
  k_extra "gn"; (obtain ⟨f1, f2, f3, a0, fl, f4⟩ := x) <;> k_unfold
  by_cases hfl : (fl == rawInt L) = true
  · obtain rfl := beq_iff_eq.mp hfl
    exact wpAny_noteFrame_againW hf f4 (hQ s.heap a0 ⟨f1, f2, f3, f4⟩ (Heap.UpToSlots.refl _))
  · k_extra "gn"; (obtain ⟨oe, vs, T, oT, ts, he, ⟨hcls, h0⟩, hd, h1, hnT, hTe, hT, hdT, h3⟩ := f4) <;> k_unfold
    unfold noteFrame
    simp only [hf]
    refine wpAny_bind (wpAny_field he hd h1 ?_)
    rw [if_pos (show (Value.ref T != Value.none) = true from by simp)]
    refine wpAny_bind (wpAny_field hT hdT h3 ?_)
    rw [if_neg hfl]
    refine wpAny_bind (wpAny_setField hT hdT (Array.getElem?_eq_some_iff.mp h3).1 ?_)
    have other : ∀ b, b ≠ T → (s.heap.update T (Obj.mapFields (·.setIfInBounds 3 Value.none))).get? b = s.heap.get? b := fun b hb => Heap.get?_update_other _ _ (Ne.symm hb)
    have noRecord : ∀ b o, s.heap.get? b = some o → (∀ vs, o.data ≠ .fields vs) → b ≠ T := fun b o hb hnf q => by
      rw [q, hT] at hb; injection hb with hb; subst hb; exact hnf ts hdT
    refine wpAny_entryW hfr (f3.of_keeps fun b o hb hnf => ⟨o, (other b (noRecord b o hb hnf)).trans hb, rfl⟩) hf ((other e (Ne.symm hTe)).trans he)
      (fun b o hbo => (other b fun q => by rw [q, hnT] at hbo; cases hbo).trans (f1 b o hbo)) f2 hd (Array.getElem?_eq_some_iff.mp h1).1 h0
      fun h' ⟨x1, x2, x3, x4⟩ => hQ h' a0 ⟨x1, f2, x2, by rw [hcls] at x3; exact x3⟩ fun b o hb hnf => x4 b o ((other b (noRecord b o hb hnf)).trans hb) hnf
theorem leave_U {Q : Unit → Shared → Prop} (hfr : A.frames = some (env :: outer)) (hf : env.frame = some L) (x : FlyU B (env :: outer) e C s.heap)
    (hQ : ∀ h', FlyU B outer e C h' → s.heap.UpToSlots h' → Q () { s with heap := h' }) : wpAny M A (leaving env (.ref e)) Q E s := by
  unfold leaving
  refine wpAny_bind (note_U hfr hf x fun h1 a0 hh u1 => ?_)
  refine wpAny_landsW hh fun h' hfl u2 => ?_
  k_extra "gn"; (obtain ⟨k1, k2, ⟨_, _, k3⟩, k4⟩ := hfl) <;> k_unfold
  exact hQ h' ⟨k1, k2, k3, a0, _, k4.at⟩ (u1.trans u2)
theorem passOn_U {what : String} {cenv : Env} {l : List Env} (x : FlyU B l e C s.heap) (hQ : ∀ h', FlyU B l e C h' → s.heap.UpToSlots h' → E (.ref e) { s with heap := h' }) :
    wpAny M A (PySem.passOn what (.ref e) cenv : Sem Value) (fun _ _ => False) E s := by
  k_extra "gn"; (obtain ⟨f1, f2, f3, a0, fl, oe, vs, T, oT, ts, he, hc, hd, h1, hnT, hTe, hT, hdT, h3⟩ := x) <;> k_unfold
  unfold PySem.passOn
  refine wpAny_bind (wpAny_field he hd h1 ?_)
  rw [if_neg (show ¬ (Value.ref T == Value.none) = true from by simp)]
  unfold setFlight
  refine wpAny_bind (wpAny_bind (wpAny_field he hd h1 ?_))
  rw [if_pos (show (Value.ref T != Value.none) = true from by simp)]
  have hsz3 : 3 < ts.size := (Array.getElem?_eq_some_iff.mp h3).1
  refine wpAny_setField hT hdT hsz3 (wpAny_throw ?_)
  have other : ∀ b, b ≠ T → (s.heap.update T (Obj.mapFields (·.setIfInBounds 3 (cenv.frame.elim Value.none fun f => rawInt f)))).get? b = s.heap.get? b := fun b hb => Heap.get?_update_other _ _ (Ne.symm hb)
  have noRecord : ∀ b o, s.heap.get? b = some o → (∀ vs, o.data ≠ .fields vs) → b ≠ T := fun b o hb hnf q => by
    rw [q, hT] at hb; injection hb with hb; subst hb; exact hnf ts hdT
  refine hQ _ ⟨fun b o hbo => (other b fun q => by rw [q, hnT] at hbo; cases hbo).trans (f1 b o hbo), f2, f3.of_keeps fun b o hb hnf => ⟨o, (other b (noRecord b o hb hnf)).trans hb, rfl⟩, a0, (cenv.frame.elim Value.none fun f => rawInt f), ?_⟩ fun b o hb hnf => ⟨o.slots, (other b (noRecord b o hb hnf)).trans hb⟩
  exact ⟨oe, vs, T, _, _, (other e (Ne.symm hTe)).trans he, hc, hd, h1, hnT, hTe, Heap.get?_update_self _ hT (Obj.isFreed_of_fields (Obj.data_mapFields hdT _)), Obj.data_mapFields hdT _, by simp [hsz3]⟩
theorem note_same {x : Value} {cenv : Env} (h : cenv.frame = env.frame) : noteFrame x cenv = noteFrame x env := by
  unfold noteFrame PySem.frameOf
  rw [h]
end
open LCg in
theorem comp_raise {prog : Program} {w : World} {A : Around} {E : Value → Shared → Prop} {s : Shared} {h₀ : Heap} {L : Addr} {m : Str → Option Value} {env : Env} {elt iter : PySem.Expr} {x : Str} {px : Pos} {scope : Scope} {cl : List (Str × Addr)} {pos spos : Pos} {y : Str} {py : Pos} {Q : Flow → Shared → Prop}
    {ax : Addr} {its : Array Value} {news : List (Addr × Obj)} (F : Fr h₀ L s.heap m) (N : News h₀ L s.heap news) (hl0 : h₀.IsList ax its) (hh : A.handled = none) (hsz : its.size ≤ sizeLine)
    (hLe : env.locals = L) (hsw : swapsWith (.ListComp elt [⟨.Name x px, iter, [], 0⟩] scope pos) (some (.Name y py)) spos.line env = pure true) (hy : env.kindOf y = some .local) (hpp : (env.scope.kind == .class || (env.scope.kind == .module && env.locals != env.globals)) = false)
    (hclos : closureFor scope env = pure cl) (hcell : ∀ y ∈ scope.names, y.2 ≠ .cell) (hkind : scope.kind = .function)
    (hnames : ∀ y ∈ scope.names, y.2 = .local → scope.names.lookup y.1 = some .local) (hx : scope.names.lookup x = some .local)
    (heval : ∀ Q', (∀ s₁ : Shared, (∃ tk, s₁ = { s with toks := tk }) → Q' (.ref ax) s₁) → wpAny (model prog w) A (eval iter env) Q' E s)
    (Inv : Nat → List Value → List (Addr × Obj) → Prop) (h0 : Inv 0 [] news) (Er : Addr → Heap → List (Addr × Obj) → Value → Shared → Prop)
    (turn : ∀ (i : Nat) v I oI C oC D m₂ ys h tk nw, its[i]? = some v → i < its.size → Inv i ys nw → NsObj oC m₂ → m₂ x = some v → Fr h₀ L h m → News h₀ L h ((I, oI) :: (C, oC) :: (D, lst ys) :: nw) → Off3 I C D nw → ((@Ne Nat I C) ∧ (@Ne Nat I D) ∧ (@Ne Nat C D)) →
      wpAny (model prog w) A (eval elt (compEnvC scope cl C env)) (CompEnd h₀ L m { s with heap := h, toks := tk } I oI C oC D (lst ys) (fun _ => True) (fun y nw' => Inv (i + 1) (ys ++ [y]) nw')) (Er C h nw) { s with heap := h, toks := tk })
    (raised : ∀ C h nw e s', Fr h₀ L h m → News h₀ L h nw → h₀.get? C = none → C ≠ L → (∃ oC m₂, h.get? C = some oC ∧ NsObj oC m₂) → (∀ p ∈ nw, p.1 ≠ C) → Er C h nw e s' →
      wpAny (model prog w) A (noteFrame e env) (fun _ s'' => ∃ m', s''.heap.Ns C m' ∧ ∀ h', Heap.SameBut C s''.heap h' → ∀ cenv : Env, cenv.locals = C → wpAny (model prog w) A (PySem.passOn "comprehension.variables-let-go" e cenv : Sem Value) (fun _ _ => False) E { s'' with heap := h' })
        (fun e' s'' => ∃ m', s''.heap.Ns C m' ∧ ∀ h', Heap.SameBut C s''.heap h' → ∀ cenv : Env, cenv.locals = C → wpAny (model prog w) A (PySem.passOn "comprehension.variables-let-go" e' cenv : Sem Value) (fun _ _ => False) E { s'' with heap := h' }) s')
    (fin : ∀ D h tk ys nw, Fr h₀ L h (fun z => if z = y then some (.ref D) else m z) → News h₀ L h ((D, lst ys) :: nw) → Off1 D nw → Inv its.size ys nw → Q .next { s with heap := h, toks := tk })
    (hs : ∀ x, foldedSetIterable iter env x = pure x := by intro _; rfl) :
    wpAny (model prog w) A (exec (.Assign [.Name y py] (.ListComp elt [⟨.Name x px, iter, [], 0⟩] scope pos) spos) env) Q E s := by
  k_with_none
  w_top off
  (k_with "an" => (first | assumption | exact And.left (by assumption) | exact And.left (And.right (by assumption)) | exact And.left (And.right (And.right (by assumption))) | exact And.left (And.right (And.right (And.right (by assumption)))) | exact And.left (And.right (And.right (And.right (And.right (by assumption))))) | exact And.left (And.right (And.right (And.right (And.right (And.right (by assumption)))))) | exact And.left (And.right (And.right (And.right (And.right (And.right (And.right (by assumption))))))) | exact And.left (And.right (And.right (And.right (And.right (And.right (And.right (And.right (by assumption)))))))) | exact And.left (And.right (And.right (And.right (And.right (And.right (And.right (And.right (And.right (by assumption)))))))))))
  (k_with "k_ne" => (refine neN ?_; (try dsimp only); first | (refine Nat.ne_of_lt ?_; k_extra "an") | (refine Nat.ne_of_gt ?_; k_extra "an")))
  (k_with "sub" => (first | assumption | (refine List.mem_append_left _ ?_; k_extra "sub") | (refine List.mem_append_right _ ?_; k_extra "sub") | (refine List.Mem.tail _ ?_; k_extra "sub")))
  (k_with "gn" => refine (let P9 : Prop := _; (?_ : P9)))
  subst hLe
  generalize hLL : env.locals = L at *
  rw [exec_Assign_Name_used _ _ _ _ hsw]
  refine wpAny_bind (wpAny_standAt (wpAny_bind ?_))
  show wpAny _ A (do let _ ← comprehension (.ListComp elt [⟨.Name x px, iter, [], 0⟩] scope pos) scope env _ (newList []) false (eval iter env) (some (assign (.Name y py) env))) _ _ s
  refine wpAny_bind (wpAny_mono (wpAny_comprehension_free (use := some (assign (.Name y py) env)) (Q := fun _ s' => Q .next s') rfl hs hclos hkind hnames (heval _ fun s₁ hs₁ => ?_)) (fun _ s' hq => wpAny_pure (wpAny_pure hq)) fun _ _ e => e)
  obtain ⟨tk₁, rfl⟩ := hs₁
  have hl : s.heap.IsList ax its := hl0.at fun o e => F.keep ax o e
  have hlt : ax < s.heap.objs.size := by obtain ⟨_, e, _⟩ := hl; exact Heap.lt_size e
  refine wpAny_pyIter_list hl ?_
  refine wpAny_newObj_type (wpAny_newFunctionEnv hcell (by intro y hy; simp at hy) (fun h₁ hns₁ hsb₁ => ?_) hkind)
  dsimp only at hns₁ hsb₁ ⊢
  have W := Walks.list (prog := prog) (w := w) hh s.heap.objs.size ax (Nat.ne_of_lt hlt) its
  have up1 : ∀ b o, s.heap.get? b = some o → (s.heap.push { cls := .type "list_iterator", data := .fields #[.ref ax, .int 0 0] }).get? b = some o := fun b o e => Heap.get?_push_of_some _ e
  have hst0 : (s.heap.push { cls := .type "list_iterator", data := .fields #[.ref ax, .int 0 0] }).IsListIter s.heap.objs.size ax 0 ∧ (s.heap.push { cls := .type "list_iterator", data := .fields #[.ref ax, .int 0 0] }).IsList ax its := ⟨⟨_, Heap.get?_push_size _ rfl, rfl, rfl⟩, hl.push _⟩
  generalize hI : s.heap.objs.size = I at W hst0 hlt ⊢
  have hD : (s.heap.push { cls := .type "list_iterator", data := .fields #[.ref ax, .int 0 0] }).objs.size = I + 1 := by rw [Heap.size_push, hI]
  have F1 := F.keeps up1
  have N1 := N.grown up1
  generalize hH1 : s.heap.push { cls := .type "list_iterator", data := .fields #[.ref ax, .int 0 0] } = H1 at hns₁ hsb₁ hst0 hD F1 N1 ⊢
  have hIL : L ≠ I := by rw [← hI]; exact Nat.ne_of_lt F.ns.lt
  have hI0 : h₀.get? I = none := by rw [← hI]; exact next_is_new F
  generalize hH2 : H1.push { cls := .type "list", dict := none, data := .seq ([] : List Value).toArray } = H2 at hns₁ hsb₁ ⊢
  have hC : H2.objs.size = I + 2 := by rw [← hH2, Heap.size_push, hD]
  have up2 : ∀ b o, H1.get? b = some o → H2.get? b = some o := fun b o e => hH2 ▸ Heap.get?_push_of_some _ e
  rw [hD]
  rw [hC] at hns₁ hsb₁ ⊢
  have nDC : (I + 1 : Nat) ≠ I + 2 := by omega
  have below : ∀ b : Nat, b < I + 1 → b ≠ I + 2 ∧ b ≠ I + 1 := fun b hb => ⟨by omega, by omega⟩
  have old : ∀ b o, H1.get? b = some o → h₁.get? b = some o := fun b o e => hsb₁.extBut b o (below b (hD ▸ Heap.lt_size e)).1 (Heap.get?_push_of_some _ (up2 b o e))
  have hacc : h₁.get? (I + 1) = some (lst []) := hsb₁.extBut _ _ nDC (Heap.get?_push_of_some _ (by rw [← hH2, ← hD]; exact Heap.get?_push_size _ rfl))
  have hst₁ : h₁.IsListIter I ax 0 ∧ h₁.IsList ax its := ⟨hst0.1.at fun o e => old _ o e, hst0.2.at fun o e => old _ o e⟩
  have fresh₀ : ∀ a : Nat, I ≤ a → h₀.get? a = none := fun a ha => by
    cases e : h₀.get? a with
    | none => rfl
    | some o' => exact absurd (Heap.lt_size (F.keep a o' e)) (Nat.not_lt.mpr (hI ▸ ha))
  have hD0 : h₀.get? (I + 1) = none := fresh₀ _ (Nat.le_succ _)
  have hC0 : h₀.get? (I + 2) = none := fresh₀ _ (Nat.le_add_right _ 2)
  have hLlt : L < I := by rw [← hI]; exact F.ns.lt
  have hDL : (I + 1 : Nat) ≠ L := Nat.ne_of_gt (Nat.lt_succ_of_lt hLlt)
  have hCL : (I + 2 : Nat) ≠ L := Nat.ne_of_gt (Nat.lt_succ_of_lt (Nat.lt_succ_of_lt hLlt))
  have hCI : (I : Nat) ≠ I + 2 := by omega
  have hDI : (I : Nat) ≠ I + 1 := by omega
  have haC : ax ≠ I + 2 := Nat.ne_of_lt (Nat.lt_succ_of_lt (Nat.lt_succ_of_lt hlt))
  have haD : ax ≠ I + 1 := Nat.ne_of_lt (Nat.lt_succ_of_lt hlt)
  have off0 : Off3 I (I + 2) (I + 1) news := Off3.of fun p hp => by
    have z : p.1 < I := hI ▸ Heap.lt_size (N p hp).1
    exact ⟨Nat.ne_of_lt z, Nat.ne_of_lt (Nat.lt_succ_of_lt (Nat.lt_succ_of_lt z)), Nat.ne_of_lt (Nat.lt_succ_of_lt z)⟩
  have loop : codeAny (model prog w) A (.compLoop (.ListComp elt [⟨.Name x px, iter, [], 0⟩] scope pos) 0 (.ref I) (.ref (I + 1)) (compEnvC scope cl (I + 2) env))
      (compPost (model prog w) A E (some (assign (.Name y py) env)) (fun _ s' => Q .next s') (.ref (I + 1)) (I + 2)) { s with heap := h₁, toks := tk₁ } := by
    refine codeAny_compLoop_list
      (fun k s' => ∃ h' tk i ys m' nw, s' = { s with heap := h', toks := tk } ∧ i ≤ its.size ∧ k = its.size + 1 - i ∧ ys.length ≤ i ∧ (h'.IsListIter I ax i ∧ h'.IsList ax its) ∧ Fr h₀ L h' m ∧ h'.Ns (I + 2) m' ∧ News h₀ L h' ((I + 1, lst ys) :: nw) ∧
        Off3 I (I + 2) (I + 1) nw ∧ Inv i ys nw) ?_ (its.size + 1)
      ⟨h₁, _, 0, [], _, news, rfl, Nat.zero_le _, rfl, Nat.le_refl _, hst₁, F1.keeps old, hns₁, fun p hp => ?_, off0, h0⟩
    · rintro k s' ⟨h', tk, i, ys, m', nw, rfl, hi, rfl, hyl, hst', F', hn', N', off', hI'⟩
      by_cases hlt' : i < its.size
      · refine W.item i _ _ _ hlt' hst' fun v h₂ tk₂ hPv hst₂ hk₂ => ?_
        refine wpAny_assign_Name (wpAny_storeName_local (lookup_relabel_local hx) (hn'.at' fun o e => hk₂ _ o (by simpa using Ne.symm hCI) e) (fun h₃ hn₃ hs₃ => ?_) (by simp [compEnvC, relabel, hkind]))
        have hst₃ : h₃.IsListIter I ax (i + 1) ∧ h₃.IsList ax its := ⟨hst₂.1.at fun o e => hs₃.extBut I o hCI e, hst₂.2.at fun o e => hs₃.extBut ax o haC e⟩
        obtain ⟨oI, heI, _⟩ := id hst₃.1
        obtain ⟨oC, heC, hoC⟩ := ns_obj hn₃
        have F₃ : Fr h₀ L h₃ m := (fr_but F' hk₂ hIL hI0).change hs₃ hCL hC0
        have off3 := off'.mem
        have N₂ : News h₀ L h₂ ((I + 1, lst ys) :: nw) := news_but N' hk₂ fun p hp => by
          rcases List.mem_cons.mp hp with rfl | hp
          · exact Ne.symm hDI
          · exact (off3 p hp).1
        have N₃ : News h₀ L h₃ ((I, oI) :: (I + 2, oC) :: (I + 1, lst ys) :: nw) := fun p hp => by
          rcases List.mem_cons.mp hp with rfl | hp
          · exact ⟨heI, Ne.symm hIL, hI0⟩
          · rcases List.mem_cons.mp hp with rfl | hp
            · exact ⟨heC, hCL, hC0⟩
            · have z := N₂ p hp
              refine ⟨hs₃.extBut _ _ ?_ z.1, z.2⟩
              rcases List.mem_cons.mp hp with rfl | hp
              · exact nDC
              · exact (off3 p hp).2.1
        have hNw : News h₀ L h₃ nw := fun p hp => N₃ p (List.mem_cons_of_mem _ (List.mem_cons_of_mem _ (List.mem_cons_of_mem _ hp)))
        refine wpAny_mono (turn i v I oI (I + 2) oC (I + 1) _ ys h₃ _ nw hPv hlt' hI' hoC (by simp) F₃ N₃ off' ⟨hCI, hDI, Ne.symm nDC⟩) (fun y s₅ h₅ => ?_) fun e s' he => ?_
        · k_extra "gn"; (obtain ⟨h₄, tk₄, news₄, rfl, F₄, N₄, off₄, _, R₄⟩ := h₅) <;> k_unfold
          have zI := (N₄ (I, oI) List.mem_cons_self).1
          have zC := (N₄ (I + 2, oC) (List.mem_cons_of_mem _ List.mem_cons_self)).1
          have zD := (N₄ (I + 1, lst ys) (List.mem_cons_of_mem _ (List.mem_cons_of_mem _ List.mem_cons_self))).1
          have N₄' : News h₀ L h₄ news₄ := fun p hp => N₄ p (List.mem_cons_of_mem _ (List.mem_cons_of_mem _ (List.mem_cons_of_mem _ hp)))
          have hst₄ : h₄.IsListIter I ax (i + 1) ∧ h₄.IsList ax its := ⟨by obtain ⟨o', q, r⟩ := hst₃.1; rw [heI] at q; cases q; exact ⟨oI, zI, r⟩, hl0.at fun o e => F₄.keep ax o e⟩
          refine append_at (hsz := by show ys.toArray.size ≤ sizeLine; rw [List.size_toArray]; exact Nat.le_trans (Nat.le_trans hyl hi) hsz) zD fun h₅ hs₅ hD₅ => ?_
          have off4 := off₄.mem
          refine ⟨its.size + 1 - (i + 1), by omega, h₅, tk₄, i + 1, ys ++ [y], _, news₄, rfl, hlt', rfl, by rw [List.length_append, List.length_singleton]; exact Nat.succ_le_succ hyl,
            ⟨hst₄.1.at fun o e => hs₅.extBut I o hDI e, hst₄.2.at fun o e => hs₅.extBut ax o haD e⟩, F₄.change hs₅ hDL hD0, (hoC.ns zC).sameBut hs₅ (Ne.symm nDC), fun p hp => ?_, off₄, R₄⟩
          rcases List.mem_cons.mp hp with rfl | hp
          · exact ⟨hD₅.trans (congrArg some (lst_snoc ys y)), hDL, hD0⟩
          · exact ⟨hs₅.extBut _ _ (off4 p hp).2.2 (N₄' p hp).1, (N₄' p hp).2⟩
        · have z := raised (I + 2) h₃ nw e s' F₃ hNw hC0 hCL ⟨oC, _, heC, hoC⟩ (fun p hp => (off3 p hp).2.1) he
          show wpAny _ _ (noteFrame e (compEnvC scope cl (I + 2) env)) _ _ _
          rw [show noteFrame e (compEnvC scope cl (I + 2) env) = noteFrame e env from by unfold noteFrame PySem.frameOf; rfl]
          exact z
      · obtain rfl : i = its.size := Nat.le_antisymm hi (Nat.not_lt.mp hlt')
        refine W.done _ _ _ hst' fun h₂ tk₂ hk₂ => ?_
        have off3 := off'.mem
        have N₂ : News h₀ L h₂ ((I + 1, lst ys) :: nw) := news_but N' hk₂ fun p hp => by
          rcases List.mem_cons.mp hp with rfl | hp
          · exact Ne.symm hDI
          · exact (off3 p hp).1
        have F₂ := fr_but F' hk₂ hIL hI0
        have hn2 := hn'.at' fun o e => hk₂ _ o (by simpa using Ne.symm hCI) e
        show wpAny _ A (assign (.Name y py) env (.ref (I + 1))) _ _ _
        refine wpAny_assign_Name (wpAny_storeName_local hy (by rw [hLL]; exact F₂.ns) (fun h₅ hn₅ hs₅ => ?_) (by rw [hLL]; exact hpp))
        rw [hLL] at hn₅ hs₅
        have hL0 : h₀.get? L = none := Heap.get?_none_of_le F'.above
        have F₅ : Fr h₀ L h₅ (fun z => if z = y then some (.ref (I + 1)) else m z) := ⟨hn₅, fun b o e => hs₅.extBut b o (fun q => by rw [q, hL0] at e; cases e) (F₂.keep b o e), F'.above⟩
        refine ⟨_, hn2.sameBut hs₅ hCL, fun h'' hs'' => fin (I + 1) h'' _ ys nw (F₅.change hs'' hCL hC0) (fun p hp => ?_) off'.one hI'⟩
        have z : h₅.get? p.1 = some p.2 := hs₅.extBut _ _ (N₂ p hp).2.1 (N₂ p hp).1
        refine ⟨hs''.extBut _ _ ?_ z, (N₂ p hp).2⟩
        rcases List.mem_cons.mp hp with rfl | hp
        · exact nDC
        · exact (off3 p hp).2.1
    · rcases List.mem_cons.mp hp with rfl | hp
      · exact ⟨hacc, hDL, hD0⟩
      · exact ⟨old _ _ (N1 p hp).1, (N1 p hp).2⟩
  exact codeAny_compStart_list loop (W.self 0 _ _ _ hst₁ loop)
noncomputable def FlyX (base : Heap) (l : List Env) (led led' : List (Addr × Obj)) (h0 : Heap) (e C : Addr) (h' : Heap) : Prop :=
  led'.map (·.1) = led.map (·.1) ∧ (∀ b ∈ l.filterMap (·.frame), ∀ o, h0.get? b = some o → (∀ vs, o.data ≠ .fields vs) → ∃ sl, h'.get? b = some { o with slots := sl }) ∧
    ∃ B : Heap, base.StaysIn B ∧ (∀ b o, h0.get? b = some o → b ∉ led.map (·.1) → b ∉ l.filterMap (·.frame) → B.get? b = some o) ∧ (∀ q ∈ led', B.get? q.1 = some q.2) ∧ FlyU B l e C h'
noncomputable def PSpec (w : World) (mean : ExcName → Option Value) (mg mb : Str → Option Value) (f : Addr) (vs : List Value) (led : List (Addr × Obj)) (k : Nat) (P : Heap → Prop) (R : Value → List (Addr × Obj) → List (Addr × Obj) → Prop) (X : Addr → List (Addr × Obj) → Prop) : Prop :=
  ∀ (dp un : Nat) (gd : Option (List Code)) (cn : Str) (cs : Scope) (a : Addr) (ccd : Value) (cl : List (Str × Addr)) (outer : List Env) (A₀ : Around) (base h₀ : Heap) (L : Addr) (m : Str → Option Value) (s : Shared) (Q E : Value → Shared → Prop),
    Below A₀ base outer h₀ → Fr h₀ L s.heap m → (hd.heap_1_39 w.params).In h₀ → News h₀ L s.heap led →
    Top hd.view_1_40 (looseW hd.view_1_40 [Str.ofString "fraction", Str.ofString "write_decimal", Str.ofString "length", Str.ofString "Uses"]) mean mg mb h₀ →
    cs.kind = .function → P s.heap → dp + k < recursionLimit → un + 8 * k < cLine →
    (∀ r tl led' h' tk', Fr h₀ L h' m → News h₀ L h' (tl ++ led') → led'.map (·.1) = led.map (·.1) → Stood s.heap h' led → (∀ q ∈ tl, s.heap.get? q.1 = none) → R r led' tl → Q r { s with heap := h', toks := tk' }) →
    (∀ e C led' h' tk', X C led' → FlyX base (envX cn cs L a ccd cl :: outer) led led' s.heap e C h' → E (.ref e) { s with heap := h', toks := tk' }) →
    wpAny (model PySem.Challenge.rw_nu0026_01.row.prog w) (ktrTop dp un gd cn cs L a ccd cl outer) (call (.ref f) vs) Q E s
section
variable {M : Model} {A A₀ : Around} {E : Value → Shared → Prop} {s0 s' : Shared} {base g h1 : Heap} {env : Env} {outer : List Env} {L e C t0 : Addr} {m : Str → Option Value} {led led1 ledi ledi' news : List (Addr × Obj)}
theorem frames_mem (hf : env.frame = some L) {b : Addr} (hm : b ∈ (env :: outer).filterMap (·.frame)) : b = L ∨ b ∈ outer.filterMap (·.frame) := by
  k_with_none
  w_top off
  (k_with "an" => (first | assumption | exact And.left (by assumption) | exact And.left (And.right (by assumption)) | exact And.left (And.right (And.right (by assumption))) | exact And.left (And.right (And.right (And.right (by assumption)))) | exact And.left (And.right (And.right (And.right (And.right (by assumption))))) | exact And.left (And.right (And.right (And.right (And.right (And.right (by assumption)))))) | exact And.left (And.right (And.right (And.right (And.right (And.right (And.right (by assumption))))))) | exact And.left (And.right (And.right (And.right (And.right (And.right (And.right (And.right (by assumption)))))))) | exact And.left (And.right (And.right (And.right (And.right (And.right (And.right (And.right (And.right (by assumption)))))))))))
  (k_with "k_ne" => (refine neN ?_; (try dsimp only); first | (refine Nat.ne_of_lt ?_; k_extra "an") | (refine Nat.ne_of_gt ?_; k_extra "an")))
  (k_with "sub" => (first | assumption | (refine List.mem_append_left _ ?_; k_extra "sub") | (refine List.mem_append_right _ ?_; k_extra "sub") | (refine List.Mem.tail _ ?_; k_extra "sub")))
  (k_with "gn" => refine (let P9 : Prop := _; (?_ : P9)))
  obtain ⟨env', he, hf'⟩ := List.mem_filterMap.mp hm
  rcases List.mem_cons.mp he with rfl | he
  · rw [hf] at hf'; exact .inl (Option.some.inj hf').symm
  · exact .inr (List.mem_filterMap.mpr ⟨env', he, hf'⟩)
theorem frames_off (K : Below A₀ base outer g) (N : News g L h1 news) (hf : env.frame = some L) {q : Addr × Obj} (hq : q ∈ news) : q.1 ∉ (env :: outer).filterMap (·.frame) := fun hm => by
  rcases frames_mem hf hm with h | h
  · exact (N q hq).2.1 h
  · obtain ⟨env', he, hf'⟩ := List.mem_filterMap.mp h
    k_extra "gn"; (obtain ⟨L', o, hL', ho⟩ := funFrames_in K.frames env' he) <;> k_unfold
    rw [hL'] at hf'
    rw [Option.some.inj hf'] at ho
    rw [(N q hq).2.2] at ho; cases ho
theorem fly_new {h : Heap} {ob : Obj} {Q : Unit → Shared → Prop} (hA : A.frames = some (env :: outer)) (hf : env.frame = some L) (hke : env.scope.kind = .function) (K : Below A₀ base outer g) (F : Fr g L h m) (N : News g L h news) (st : Stood h1 g led)
    (hnew : h.get? e = none) (he : s'.heap.get? e = some ob) (hcls : ob.cls = .ref C) (hdt : ob.data = (excObj C t0).data) (keep : ∀ b o, h.get? b = some o → s'.heap.get? b = some o)
    (hfo : ∀ b ∈ outer.filterMap (·.frame), b ∉ led.map (·.1)) (hk1 : led1.map (·.1) = led.map (·.1)) (sub : ∀ q ∈ led1, q ∈ news)
    (hQ : ∀ h', FlyX base outer led led1 h1 e C h' → Q () { s' with heap := h' }) : wpAny M A (leaving env (.ref e)) Q E s' := by
  have K' := pushX K F hf hke
  have hin : ∀ env' ∈ (env :: outer), ∀ b, env'.frame = some b → b ∈ (env :: outer).filterMap (·.frame) := fun env' he b hb => List.mem_filterMap.mpr ⟨env', he, hb⟩
  have stb : base.StaysIn (hideAll h ((env :: outer).filterMap (·.frame))) := fun b o q => hideAll_get _ (K'.stays b o q) fun hm => by
    rw [(K'.frames.mem hm).1] at q; cases q
  have hen : (hideAll h ((env :: outer).filterMap (·.frame))).get? e = none := by
    cases q : (hideAll h ((env :: outer).filterMap (·.frame))).get? e with
    | none => rfl
    | some o => have := of_hideAll _ q; rw [hnew] at this; cases this
  refine wpAny_leaving_firstW (a0 := .ref t0) hA ((funFrames_hide K'.frames hin).of_keeps fun b o hb _ => ⟨o, keep b o hb, rfl⟩) hf he (fun b o hb => keep b o (of_hideAll _ hb)) hen hdt rfl rfl fun h' hL => ?_
  k_extra "gn"; (obtain ⟨k1, ⟨_, _, k2⟩, k3, k4⟩ := hL) <;> k_unfold
  refine hQ h' ⟨hk1, fun b hb o ho hnf => k4 b o (keep b o (F.keep b o (st b o ho (hfo b hb)))) hnf, _, stb, fun b o ho hb hbo => hideAll_get _ (F.keep b o (st b o ho hb)) fun hm => ?_, fun q hq => hideAll_get _ (N q (sub q hq)).1 (frames_off K N hf (sub q hq)), k1, hen, k2, _, _, by rw [← hcls]; exact k3.at⟩
  rcases frames_mem hf hm with z | z
  · have := st b o ho hb
    rw [z, kts_self F] at this; cases this
  · exact hbo z
theorem fly_next {h : Heap} {Q : Unit → Shared → Prop} (hA : A.frames = some (env :: outer)) (hf : env.frame = some L) (K : Below A₀ base outer g) (F : Fr g L h m) (N : News g L h news) (st : Stood h1 g led)
    (x : FlyX base (env :: outer) ledi ledi' h e C s'.heap) (subi : ∀ b ∈ ledi.map (·.1), b ∈ news.map (·.1))
    (hfo : ∀ b ∈ outer.filterMap (·.frame), b ∉ led.map (·.1)) (hk1 : led1.map (·.1) = led.map (·.1)) (sub : ∀ q ∈ led1, q ∈ ledi' ∨ (q ∈ news ∧ q.1 ∉ ledi.map (·.1)))
    (hQ : ∀ h', FlyX base outer led led1 h1 e C h' → Q () { s' with heap := h' }) : wpAny M A (leaving env (.ref e)) Q E s' := by
  k_extra "gn"; (obtain ⟨_, x2, B, x3, x4, x5, x6⟩ := x) <;> k_unfold
  refine leave_U hA hf x6 fun h' y u => ?_
  have up : ∀ b o, h1.get? b = some o → b ∉ led.map (·.1) → h.get? b = some o := fun b o ho hb => F.keep b o (st b o ho hb)
  refine hQ h' ⟨hk1, fun b hb o ho hnf => ?_, B, x3, fun b o ho hb hbo => x4 b o (up b o ho hb) (fun z => ?_) (fun hm => ?_), fun q hq => ?_, y⟩
  · obtain ⟨sl, hs⟩ := x2 b (by obtain ⟨env', he, hf'⟩ := List.mem_filterMap.mp hb; exact List.mem_filterMap.mpr ⟨env', .tail _ he, hf'⟩) o (up b o ho (hfo b hb)) hnf
    obtain ⟨sl', hs'⟩ := u b { o with slots := sl } hs hnf
    exact ⟨sl', hs'⟩
  · obtain ⟨q, hq, rfl⟩ := List.mem_map.mp (subi b z)
    have := st _ o ho hb
    rw [(N q hq).2.2] at this; cases this
  · rcases frames_mem hf hm with z | z
    · have := st b o ho hb
      rw [z, kts_self F] at this; cases this
    · exact hbo z
  · rcases sub q hq with z | ⟨z, nz⟩
    · exact x5 q z
    · exact x4 _ _ (N q z).1 nz (frames_off K N hf z)
end
theorem funFrames_but {B h h' : Heap} {C : Addr} (hs : Heap.SameBut C h h') : ∀ {l : List Env}, h.FunFrames B l → C ∉ l.filterMap (·.frame) → h'.FunFrames B l
  | [], _, _ => trivial
  | env :: _, ⟨hk, ⟨L, o, hf, hn, ho, hd⟩, hr⟩, hC => ⟨hk, ⟨L, o, hf, hn, (hs.2 L fun q => hC (List.mem_filterMap.mpr ⟨env, .head _, q ▸ hf⟩)).trans ho, hd⟩, funFrames_but hs hr fun z => hC (by
      obtain ⟨env', he, hf'⟩ := List.mem_filterMap.mp z
      exact List.mem_filterMap.mpr ⟨env', .tail _ he, hf'⟩)⟩
section
variable {M : Model} {A A₀ : Around} {E : Value → Shared → Prop} {s' : Shared} {base g h1 : Heap} {env : Env} {outer : List Env} {L e Ce C du : Addr} {m : Str → Option Value} {nw : List (Addr × Obj)} {o1 o2 : Obj}
theorem comp_fly {E' : Value → Shared → Prop} (hA : A.frames = some (env :: outer)) (hf : env.frame = some L) (K : Below A₀ base outer g) (F : Fr g L h1 m) (N : News g L h1 nw) (hm : (du, o1) ∈ nw) (hC0 : g.get? C = none) (hCL : C ≠ L)
    (hC : ∃ oC m₂, h1.get? C = some oC ∧ LCg.NsObj oC m₂) (hCn : ∀ p ∈ nw, p.1 ≠ C) (x : FlyX base (env :: outer) [(du, o1)] [(du, o2)] h1 e Ce s'.heap)
    (hE : ∀ h1' h'', Fr g L h1' m → News g L h1' nw → FlyX base (env :: outer) [(du, o1)] [(du, o2)] h1' e Ce h'' → E (.ref e) { s' with heap := h'' }) :
    wpAny M A (noteFrame (.ref e) env) (fun _ s'' => ∃ m', s''.heap.Ns C m' ∧ ∀ h', Heap.SameBut C s''.heap h' → ∀ cenv : Env, cenv.locals = C → wpAny M A (PySem.passOn "comprehension.variables-let-go" (.ref e) cenv : Sem Value) (fun _ _ => False) E { s'' with heap := h' }) E' s' := by
  k_with_none
  w_top off
  (k_with "an" => (first | assumption | exact And.left (by assumption) | exact And.left (And.right (by assumption)) | exact And.left (And.right (And.right (by assumption))) | exact And.left (And.right (And.right (And.right (by assumption)))) | exact And.left (And.right (And.right (And.right (And.right (by assumption))))) | exact And.left (And.right (And.right (And.right (And.right (And.right (by assumption)))))) | exact And.left (And.right (And.right (And.right (And.right (And.right (And.right (by assumption))))))) | exact And.left (And.right (And.right (And.right (And.right (And.right (And.right (And.right (by assumption)))))))) | exact And.left (And.right (And.right (And.right (And.right (And.right (And.right (And.right (And.right (by assumption)))))))))))
  (k_with "k_ne" => (refine neN ?_; (try dsimp only); first | (refine Nat.ne_of_lt ?_; k_extra "an") | (refine Nat.ne_of_gt ?_; k_extra "an")))
  (k_with "sub" => (first | assumption | (refine List.mem_append_left _ ?_; k_extra "sub") | (refine List.mem_append_right _ ?_; k_extra "sub") | (refine List.Mem.tail _ ?_; k_extra "sub")))
  (k_with "gn" => refine (let P9 : Prop := _; (?_ : P9)))
  k_extra "gn"; (obtain ⟨_, x2, B, x3, x4, x5, x6⟩ := x) <;> k_unfold
  k_extra "gn"; (obtain ⟨oC, m₂, hC1, hC2⟩ := hC) <;> k_unfold
  have hdu : du ≠ C := hCn _ hm
  have hCf : C ∉ (env :: outer).filterMap (·.frame) := fun hm' => by
    rcases frames_mem hf hm' with z | z
    · exact hCL z
    · obtain ⟨env', he, hf'⟩ := List.mem_filterMap.mp z
      k_extra "gn"; (obtain ⟨L', o, hL', ho⟩ := funFrames_in K.frames env' he) <;> k_unfold
      rw [hL'] at hf'
      rw [Option.some.inj hf', hC0] at ho; cases ho
  have hCB : B.get? C = some oC := x4 C oC hC1 (by simpa using Ne.symm hdu) hCf
  refine note_U hA hf x6 fun h2 a0 hh u => ?_
  k_extra "gn"; (obtain ⟨y1, y2, y3, y4⟩ := hh) <;> k_unfold
  refine ⟨m₂, hC2.ns (y1 _ _ hCB), fun h3 hs cenv _ => ?_⟩
  have eC : e ≠ C := fun q => by rw [q, hCB] at y2; cases y2
  have hBC : ∀ b o, (hideAll B [C]).get? b = some o → b ≠ C ∧ B.get? b = some o := fun b o ho => by
    refine ⟨fun q => ?_, of_hideAll _ ho⟩
    rw [q, hideAll_none _ (List.mem_singleton.mpr rfl)] at ho
    cases ho
  have x7 : FlyU (hideAll B [C]) (env :: outer) e Ce h3 := by
    refine ⟨fun b o ho => ?_, ?_, ?_, ?_⟩
    · obtain ⟨z1, z2⟩ := hBC b o ho
      exact (hs.2 b z1).trans (y1 b o z2)
    · cases q : (hideAll B [C]).get? e with
      | none => rfl
      | some o => have := (hBC e o q).2; rw [y2] at this; cases this
    · exact funFrames_but hs (funFrames_base (fun b o ho => (hBC b o ho).2) y3) hCf
    · k_extra "gn"; (obtain ⟨oe, vs, T, oT, ts, he, hc, hd, h1', hnT, hTe, hT, hdT, h3'⟩ := y4) <;> k_unfold
      have TC : T ≠ C := fun q => by rw [q, hCB] at hnT; cases hnT
      refine ⟨a0, _, oe, vs, T, oT, ts, (hs.2 e eC).trans he, hc, hd, h1', ?_, hTe, (hs.2 T TC).trans hT, hdT, h3'⟩
      cases q : (hideAll B [C]).get? T with
      | none => rfl
      | some o => have := (hBC T o q).2; rw [hnT] at this; cases this
  refine passOn_U x7 fun h4 x8 u2 => ?_
  have F' : Fr g L (hideAll h1 [C]) m := by
    k_extra "gn"; (obtain ⟨oL, es, ep, hL, r⟩ := F.ns) <;> k_unfold
    exact ⟨⟨oL, es, ep, hideAll_get _ hL (by simpa using Ne.symm hCL), r⟩, fun b o ho => hideAll_get _ (F.keep b o ho) (fun z => by rw [List.mem_singleton.mp z, hC0] at ho; cases ho), F.above⟩
  refine hE (hideAll h1 [C]) h4 F' (fun p hp => ⟨hideAll_get _ (N p hp).1 (by simpa using hCn p hp), (N p hp).2⟩) ⟨rfl, fun b hb o ho hnf => ?_, hideAll B [C], fun b o ho => hideAll_get _ (x3 b o ho) (fun z => ?_), fun b o ho hb hbo => ?_, fun q hq => ?_, x8⟩
  · have hbC : b ≠ C := fun q => hCf (q ▸ hb)
    obtain ⟨s1, e1⟩ := x2 b hb o (of_hideAll _ ho) hnf
    obtain ⟨s2, e2⟩ := u b { o with slots := s1 } e1 hnf
    obtain ⟨s3, e3⟩ := u2 b { o with slots := s2 } ((hs.2 b hbC).trans e2) hnf
    exact ⟨s3, e3⟩
  · have := K.stays b o ho
    rw [List.mem_singleton.mp z, hC0] at this; cases this
  · have hbC : b ≠ C := fun q => by rw [q, hideAll_none _ (List.mem_singleton.mpr rfl)] at ho; cases ho
    exact hideAll_get _ (x4 b o (of_hideAll _ ho) hb hbo) (by simpa using hbC)
  · rw [List.mem_singleton.mp hq]
    exact hideAll_get _ (x5 _ (.head _)) (by simpa using hdu)
end
noncomputable def UsesO (o : Obj) (di : Addr) (most made : Int) : Prop :=
  ∃ h1 h2 h3 t1 t2 t3 t4 t5, o = dictOf [⟨h1, .str (Str.ofString "ids") t1, .ref di⟩, ⟨h2, .str (Str.ofString "most") t2, .int most t4⟩, ⟨h3, .str (Str.ofString "made") t3, .int made t5⟩] 3
theorem UsesO.intro {di : Addr} {most made : Int} {h1 h2 h3 : Int} {t1 t2 t3 t4 t5 : Tok} : UsesO (dictOf [⟨h1, .str (Str.ofString "ids") t1, .ref di⟩, ⟨h2, .str (Str.ofString "most") t2, .int most t4⟩, ⟨h3, .str (Str.ofString "made") t3, .int made t5⟩] 3) di most made := ⟨h1, h2, h3, t1, t2, t3, t4, t5, rfl⟩
theorem inst_led {g h : Heap} {L x C dx : Addr} {m : Str → Option Value} {od : Obj} {news : List (Addr × Obj)} (F : Fr g L h m) (N : News g L h news) (h1 : g.get? x = some (instObj C dx)) (h2 : (dx, od) ∈ news) : InstAt h x (instObj C dx) C (some od) := ⟨F.keep _ _ h1, rfl, rfl, (N _ h2).1⟩
theorem one_fst {d : Addr} {o o' : Obj} : ([(d, o)] : List (Addr × Obj)).map (·.1) = ([(d, o')] : List (Addr × Obj)).map (·.1) := rfl
theorem ite_dt {p a b : Prop} [Decidable p] (hp : p) (h : a) : if decide p = true then a else b := by rw [if_pos (decide_eq_true hp)]; exact h
theorem ite_df {p a b : Prop} [Decidable p] (hp : ¬p) (h : b) : if decide p = true then a else b := by rw [if_neg (by rw [decide_eq_true_eq]; exact hp)]; exact h
theorem put_limit (w : World) (mean : ExcName → Option Value) (mg mb : Str → Option Value) (xu du di nm : Addr) (v : Value) (o : Obj) (most made : Int) (hU : UsesO o di most made) (hmm : made + 1 > most) (hb1 : 0 ≤ made) (hb2 : made ≤ 100000) :
  PSpec w mean mg mb 268 [.ref xu, v, .ref nm] [(du, o)] 6 (fun h => h.get? xu = some (instObj 278 du) ∧ xu ≠ du) (fun _ _ _ => False) (fun C led' => C = 89 ∧ ∃ o', led' = [(du, o')] ∧ UsesO o' di most (made + 1)) := by
  k_with_none
  w_top off
  (k_with "an" => (first | assumption | exact And.left (by assumption) | exact And.left (And.right (by assumption)) | exact And.left (And.right (And.right (by assumption))) | exact And.left (And.right (And.right (And.right (by assumption)))) | exact And.left (And.right (And.right (And.right (And.right (by assumption))))) | exact And.left (And.right (And.right (And.right (And.right (And.right (by assumption)))))) | exact And.left (And.right (And.right (And.right (And.right (And.right (And.right (by assumption))))))) | exact And.left (And.right (And.right (And.right (And.right (And.right (And.right (And.right (by assumption)))))))) | exact And.left (And.right (And.right (And.right (And.right (And.right (And.right (And.right (And.right (by assumption)))))))))))
  (k_with "k_ne" => (refine neN ?_; (try dsimp only); first | (refine Nat.ne_of_lt ?_; k_extra "an") | (refine Nat.ne_of_gt ?_; k_extra "an")))
  (k_with "sub" => (first | assumption | (refine List.mem_append_left _ ?_; k_extra "sub") | (refine List.mem_append_right _ ?_; k_extra "sub") | (refine List.Mem.tail _ ?_; k_extra "sub")))
  (k_with "rm" => (first | exact room_of 1 rfl (by assumption) rfl | exact room_of 0 rfl (by assumption) rfl | exact room_of1 1 rfl (by assumption) rfl | exact room_of1 0 rfl (by assumption) rfl | ktr_room))
  (k_with "un" => (first | exact units_of 3 rfl (by assumption) rfl | exact units_of 4 rfl (by assumption) rfl | exact units_of 0 rfl (by assumption) rfl | ktr_units))
  (k_with "gn" => refine (let P9 : Prop := _; (?_ : P9)))
  (k_with "st" => (repeat' (first | ((with_reducible show wpAny _ _ (PySem.exec _ _) _ _ _); k_fold) | ((fail_if_success (fail_if_success k_unfold)); (show wpAny _ _ _ _ _ _); (try dsimp only)) | (k_unfold; (try dsimp only)) | (k_end; wrow_close) | walk1 | (dsimp only; walk1) | (leave1; walk_say "STEP leave1"; try dsimp only) | fail "no step")))
  (k_with "D" => try ((with_reducible show wpAny _ _ _ _ _ (Shared.mk (Shared.heap _) _ _ _ _)); dsimp only))
  (k_with "E0" => ((case F => k_asm); (case V => first | assumption | exact ⟨rfl, rfl, rfl⟩)))
  (k_with "E" => (k_extra "E0"; (case e => exact rfl)))
  (k_with "S" => (intro h'8q tk'8q F'8q N'8q; (try k_sweep)))
  (k_with "A" => (intro l'8q h'8q F'8q N'8q l18q; (try k_lt l18q); (try k_sweep)))
  (k_with "spliced" => (k_here; k_extra "D"; k_dflt (first | ((with_reducible refine' s_args ?V ?F ?e ?_); k_extra "E"; k_whole; (try dsimp only [List.cons_append, List.nil_append])))))
  (k_with "evalPairs" => (k_here; k_extra "D"; k_dflt (first | ((with_reducible refine' s_pair ?V ?F ?e ?f ?_); k_extra "E"; (case f => exact rfl); k_whole))))
  (k_with "eval BinOp" => (k_here; k_extra "D"; k_dflt (first | ((with_reducible refine' s_bin ?V ?F ?e ?f ?_); k_extra "E"; (case f => exact rfl); k_whole) | ((with_reducible refine' s_binL ?V ?F ?e ?_); k_extra "E"; k_whole))))
  (k_with "isTrue Compare" => (k_here; k_extra "D"; k_dflt (first | ((with_reducible refine' s_cmp ?V ?F ?e ?f ?h ?_); k_extra "E"; (case f => exact rfl); (case h => with_unfolding_all rfl); k_whole) | ((with_reducible refine' s_cmpL ?V ?F ?e ?h ?_); k_extra "E"; (case h => with_unfolding_all rfl); k_whole))))
  (k_with "eval Subscript" => (k_here; k_extra "D"; k_dflt (first | ((with_reducible refine' s_sub ?V ?F ?e ?f ?_); k_extra "E"; (case f => exact rfl); k_whole) | ((with_reducible refine' s_subL ?V ?F ?e ?_); k_extra "E"; k_whole))))
  (k_with "eval List" => (k_here; k_extra "D"; k_dflt (first | ((with_reducible refine' s_list ?V ?F ?e ?_); k_extra "E"; k_whole))))
  (k_with "eval Tuple" => (k_here; k_extra "D"; k_dflt (first | ((with_reducible refine' s_tuple ?V ?F ?e ?_); k_extra "E"; k_whole))))
  (k_with "exec Return some" => (k_here; k_extra "D"; k_dflt (first | ((with_reducible refine' s_ret ?V ?F ?e ?_); k_extra "E"; k_whole))))
  (k_with "eval Attribute Name" => (k_here; k_extra "D"; k_dflt (first | ((with_reducible refine' s_attr ?V ?F ?e ?_ ?h); k_extra "E"; (case h => with_unfolding_all rfl); k_whole))))
  (k_with "execs cons" => (k_here; k_extra "D"; k_dflt (first | k_gentoks | ((with_reducible refine' c_asgS ?V ?F ?N ?e ?x ?_ ?h); k_extra "E"; (case N => k_asm); (case x => exact rfl); (case h => exact rfl); k_whole; k_extra "S") | ((with_reducible refine' c_asg ?_ ?h); (case h => exact rfl); k_whole; (try refine (let qk8q : Value → Shared → Prop := _; (?_ : wpAny _ _ _ qk8q _ _)))) | ((with_reducible refine' c_retS ?V ?F ?e ?_); k_extra "E"; k_whole) | (with_reducible refine c_ret ?_))))
  (k_with "storeName" => (k_here; k_extra "D"; k_dflt (first | ((with_reducible refine' c_store ?V ?F ?N ?x ?_); k_extra "E0"; (case N => k_asm); (case x => exact rfl); k_whole; k_extra "S"))))
  (k_with "newList" => (k_here; k_extra "D"; k_dflt (first | ((with_reducible refine' c_newList ?F ?N ?_ ?z); (case F => k_asm); (case N => k_asm); (case z => size_fits); k_extra "A"))))
  (k_with "newTuple" => (k_here; k_extra "D"; k_dflt (first | ((with_reducible refine' c_newTuple ?F ?N ?_ ?z); (case F => k_asm); (case N => k_asm); (case z => kmk_size); k_extra "A"))))
  (k_with "binaryOp Mult int int" => (k_here; k_extra "D"; k_dflt (first | ((with_reducible refine' c_mul ?_ ?z); (case z => mul_fits)))))
  (k_with "binaryOp Add int int" => (k_here; k_extra "D"; k_dflt (first | (with_reducible refine c_add ?_))))
  (k_with "binaryOp Sub int int" => (k_here; k_extra "D"; k_dflt (first | (with_reducible refine c_sub ?_))))
  (k_with "unaryOp USub int" => (k_here; k_extra "D"; k_dflt (first | (with_reducible refine c_neg ?_))))
  (k_with "callWith ref" => (k_here; k_extra "D"; k_dflt (first | ((with_reducible refine' s_with ?V ?F ?X ?k ?e ?_); k_extra "E"; (case X => k_asm); (case k => k_is); k_whole))))
  (k_with "eval Call" => (k_here; k_extra "D"; k_dflt (first | ((with_reducible refine' s_call ?V ?F ?X ?T ?n ?x ?d ?k ?e ?_ ?h); k_extra "E"; (case x => exact rfl); (case X => k_asm); (case T => k_asm); (case d => decide); (case n => k_is); (case k => k_is); (case h => exact rfl); k_whole))))
  (k_with "eval Name" => (k_here; k_extra "D"; k_dflt (first | ((with_reducible refine' s_val ?V ?F ?e ?_); k_extra "E"; k_whole))))
  (k_with "ktr_enter" => first
  | (refine' codeG ?k1 ?k2 ?k3 ?k4 ?k5 ?kA ?kF ?kK ?k6 ?k7 ?k8 ?k9 ?kB ?_ ?c2 ?c3 ?c4 ?c5; (case kA => exact rfl); (case kF => exact rfl); (case kK => assumption); (case k1 => first | k_asm | exact topb_of rfl rfl (by k_asm)); (case k2 => k_asm); (case k3 => k_asm); (case k4 => k_asm); (case k5 => k_asm); (case k6 => k_is); (case k7 => k_is); (case k8 => (k_extra "rm")); (case k9 => first | exact BindsTo.of_eq rfl | exact binds_K (by k_in) rfl (by k_is) rfl rfl rfl); (case c5 => decide); (case kB => exact locs rfl); (case c2 => exact rfl); (case c3 => exact rfl); (case c4 => exact rfl); k_whole; intro g'9q L'9q h'9q tk'9q st'9q FG'9q F'9q N'9q B'9q X'9q T'9q l1'9q; (try dsimp only); (try k_fold))
  | (refine' codeGC ?k1 ?k2 ?k3 ?k4 ?k5 ?kA ?kF ?kK ?k6 ?k7 ?k8 ?k9 ?kB ?kD ?_ ?c2 ?c3 ?c4; (case kA => exact rfl); (case kF => exact rfl); (case kK => assumption); (case k1 => first | k_asm | exact topb_of rfl rfl (by k_asm)); (case k2 => k_asm); (case k3 => k_asm); (case k4 => k_asm); (case k5 => k_asm); (case k6 => k_is); (case k7 => k_is); (case k8 => (k_extra "rm")); (case k9 => first | exact BindsTo.of_eq rfl | exact binds_K (by k_in) rfl (by k_is) rfl rfl rfl); (case kB => exact rfl); (case kD => decide +kernel); (case c2 => exact rfl); (case c3 => exact rfl); (case c4 => exact rfl); k_whole; intro g'9q L'9q h'9q tk'9q cells'9q st'9q FG'9q F'9q N'9q Y'9q B'9q X'9q T'9q l1'9q; k_cells Y'9q; (try simp only [List.cons_append, List.nil_append, List.append_nil] at N'9q); (try dsimp only); (try k_fold)))
  (k_with "k_inst" => exact inst_base (by k_asm) (by assumption) (by assumption))
  (k_with "getMethod ref" => (k_here; (with_reducible show wpAny _ _ (getMethod (Value.ref _) (Str.ofString "get") _) _ _ _); k_dflt (refine sd_method (SDict.base (by k_asm) (by assumption)) ?_)))
  (k_with "call builtin:dict.get" => (k_here; (with_reducible show wpAny _ _ (call (Value.builtin "dict.get") [Value.ref _, Value.str _ _]) _ _ _); k_dflt (first
  | (refine sd_get1s (SDict.base (by k_asm) (by assumption)) (by assumption) ?_; intro t'9q)
  | (refine sd_get1n (SDict.base (by k_asm) (by assumption)) (by assumption) ?_)
  | (refine sd_get1 (SDict.base (by k_asm) (by assumption)) (fun hg09q => ?_) (fun v'9q t'9q hg19q => ?_)))))
  (k_with "k_room" => (k_extra "rm"))
  (k_with "subscriptTail" => (k_here; (with_reducible show wpAny _ _ (subscriptTail _ _ (Value.ref _) (Value.str _ _)) _ _ _); k_dflt (refine sd_item (SDict.base (by k_asm) (by assumption)) (by assumption) ?_); intro t'9q))
  (k_with "call ref" => (k_here; (with_reducible show wpAny _ _ (call (Value.ref _) _) _ _ _); (try k_fold); k_dflt (refine' spec_use0 ?S ?k1 ?k2 ?k3 ?k4 ?k5 ?kK ?kP ?kd ?ku ?_; (case S => assumption); (case k1 => first | k_asm | exact topb_of rfl rfl (by k_asm)); (case k2 => k_asm); (case k3 => k_asm); (case k4 => k_asm); (case k5 => k_asm); (case kK => exact rfl); (case kP => first | exact trivial | exact ElOf.base (by k_asm) (by assumption)); (case kd => (k_extra "rm")); (case ku => (k_extra "un"))); intro r'9q tl'9q h'9q tk'9q F'9q N'9q fr'9q st'9q hR'9q; (try dsimp only at hR'9q)))
  (k_with "k_mem" => ((show _ ∈ (_ ++ _ : List (Addr × Obj))); first | (refine List.mem_append_right _ ?_; k_mem) | (refine List.mem_append_left _ ?_; k_mem)))
  (k_with "call builtin:dict.get" => (k_here; (with_reducible show wpAny _ _ (call (Value.builtin "dict.get") [Value.ref _, Value.str _ _, Value.str _ _]) _ _ _); k_dflt (refine sd_get2L (SDict.base (by k_asm) (by assumption)) (by first | assumption | decide) ?_); intro t'9q hlen'9q))
  (k_with "k_inst" => exact inst_led (by k_asm) (by k_asm) (by assumption) (by k_mem))
  (k_with "ite" => (first | with_reducible refine ite_ff ?_ | with_reducible refine ite_tt ?_ | refine ite_dt (by assumption) ?_ | refine ite_df (by assumption) ?_))
  (k_with "exec Raise some none" => (k_here; k_dflt (refine raise_err (by rfl) ?_)))
  (k_with "call ref" => (k_here; (with_reducible show wpAny _ _ (call (Value.ref 89) _) _ _ _); (try k_fold); k_dflt (refine err_call (.inr rfl) (by k_asm) (by k_asm) (by k_asm) (by k_asm) (by k_asm) rfl (by (k_extra "rm")) (by (k_extra "un")) ?_); intro e'9q t0'9q h'9q tk'9q o1'9q F'9q N'9q hf'9q he'9q hc'9q hd'9q hk'9q))
  (k_with "call ref" => (k_here; (with_reducible show wpAny _ _ (call (Value.ref 77) _) _ _ _); (try k_fold); k_dflt (refine err_call (.inl rfl) (by k_asm) (by k_asm) (by k_asm) (by k_asm) (by k_asm) rfl (by (k_extra "rm")) (by (k_extra "un")) ?_); intro e'9q t0'9q h'9q tk'9q o1'9q F'9q N'9q hf'9q he'9q hc'9q hd'9q hk'9q))
  k_extra "gn"; (obtain ⟨h1, h2, h3, t1, t2, t3, t4, t5, rfl⟩ := hU) <;> k_unfold
  unfold PSpec
  k_fill
  intro dp un gd cn cs a' ccd cl' outer A₀ base h₀ L m s Q E B F X N T hk hP hd hu hret hexc
  refine wpAny_call ?_
  k_dflt ktr_enter
  first | refine (let ak : Around := _; let nk : Env := _; let sg9 : Array GenState := _; let sd9 : Drawn := _; let so9 : OsState := _; (?_ : wpAny _ ak (execs _ nk) _ _ (Shared.mk _ sg9 sd9 _ so9))) | refine (let ak : Around := _; let nk : Env := _; (?_ : wpAny _ ak (execs _ nk) _ _ _))
  try (have TB9 : TopB ak _ _ (dp + 1) (un + 3) := topb_of rfl rfl (by assumption))
  try (have FE9 : FnE nk L'9q := ⟨rfl, rfl, rfl⟩)
  try (rename Fr _ _ _ (fun y => List.lookup y (List.reverse _)) => FX9; replace FX9 := fr_binds [(Str.ofString "self", (.ref xu : Value)), (Str.ofString "element", (v : Value)), (Str.ofString "names", (.ref nm : Value))] rfl FX9)
  rename Stood _ _ _ => st
  have hx := st _ _ hP.1 (by simpa using hP.2)
  rename (∀ p ∈ [(_, _)], _ < _) => l1
  have hdl : @LT.lt Nat instLTNat _ _ := l1 _ (.head _)
  dsimp only at hdl
  clear l1
  (k_extra "st")
  rename (Heap.get? _ _ = none) => hnew
  rename (Heap.get? _ _ = some _) => he
  rename (Obj.cls _ = _) => hc
  rename (Obj.data _ = _) => hd2
  rename (∀ b o, Heap.get? _ b = some o → Heap.get? _ b = some o) => hk2
  refine ⟨_, _, _, 89, .inr rfl, Frag.In.keeps (by assumption) (Fr.keep (by assumption)), rfl, he, hc, hd2, ?_⟩
  rename News _ _ _ _ => Nx
  rename Fr _ _ _ _ => Fx
  clear Nx Fx
  rename News _ _ _ _ => N9
  rename Fr _ _ _ _ => F9
  refine fly_new (led1 := [(du, _)]) rfl rfl rfl (by assumption) F9 N9 st hnew he hc hd2 hk2 (fun b hb hm => frames_off B N rfl (.head _) (by rw [List.mem_singleton.mp hm] at hb; exact hb)) one_fst (fun q hq => by rw [List.mem_singleton.mp hq]; exact .tail _ (.tail _ (.head _))) (fun h' hx => ?_)
  exact hexc _ _ _ _ _ ⟨rfl, _, rfl, _, _, _, _, _, _, _, _, rfl⟩ hx
inductive Out where
  | ok (e : El) (made : Int)
  | limit (made : Int)
  | sheet (made : Int)
  | off
inductive OutL where
  | ok (es : List El) (made : Int)
  | limit (made : Int)
  | sheet (made : Int)
  | off
noncomputable def putAll (f : Int → El → Out) : Int → List El → OutL
  | made, [] => .ok [] made
  | made, e :: es => match f made e with
    | .ok e' m => (match putAll f m es with
      | .ok es' m' => .ok (e' :: es') m'
      | .limit m' => .limit m'
      | .sheet m' => .sheet m'
      | .off => .off)
    | .limit m => .limit m
    | .sheet m => .sheet m
    | .off => .off
noncomputable def linksK : List (Str × Str) := [("#r", "r"), ("#k", "k"), ("#s", "s"), ("#p", "p"), ("#q", "q")]
noncomputable def linkE (as : List (Str × Str)) : Option (Option Str) := match as.lookup (Str.ofString "href") with
  | some v => (linksK.lookup v).map some
  | none => match as.lookup (Str.ofString "xlink:href") with
    | some v => (linksK.lookup v).map some
    | none => some none
noncomputable def XyOk (as : List (Str × Str)) : Prop := (∀ p ∈ as, p.1 ∈ allWords) ∧ as ≠ [] ∧ as.length ≤ 30 ∧ (∃ a b, T4 ((as.lookup (Str.ofString "x")).getD (Str.ofString "0")) a b) ∧ (∃ a b, T4 ((as.lookup (Str.ofString "y")).getD (Str.ofString "0")) a b) ∧
  ((as.lookup (Str.ofString "transform")).getD (Str.ofString "") = Str.ofString "" ∨ (as.lookup (Str.ofString "transform")).getD (Str.ofString "") = Str.ofString "scale(2)")
noncomputable def gwE (as : List (Str × Str)) : List (Str × Str) := putA (flt as) (Str.ofString "transform") (trOf ((as.lookup (Str.ofString "transform")).getD (Str.ofString "")) ((as.lookup (Str.ofString "x")).getD (Str.ofString "0")) ((as.lookup (Str.ofString "y")).getD (Str.ofString "0")))
noncomputable def framedE (as : List (Str × Str)) : El → Option El
  | .mk name ta kids text => if name = Str.ofString "rect" ∨ name = Str.ofString "g" then some (.mk name ta kids text) else if name = Str.ofString "symbol" ∧ ta.length ≤ 30 then some (.mk (Str.ofString "svg") (fw as ta) kids text) else none
open Classical in
noncomputable def groupE (ids : List (Str × El)) (f : Int → List Str → El → Out) (made : Int) (names : List Str) (attrs : List (Str × Str)) : Out := match linkE attrs with
  | none => .off
  | some none => .sheet made
  | some (some nm) => match ids.lookup nm with
    | none => .sheet made
    | some target => if nm ∈ names ∨ 12 ≤ names.length then .limit made else match framedE attrs target with
      | none => .off
      | some fe => match f made (names ++ [nm]) fe with
        | .ok inner m => if XyOk attrs then .ok (.mk (Str.ofString "g") (gwE attrs) [inner] (Str.ofString "")) m else .off
        | .limit m => .limit m
        | .sheet m => .sheet m
        | .off => .off
noncomputable def putE (ids : List (Str × El)) (most : Int) : Nat → Int → List Str → El → Out
  | 0, _, _, _ => .off
  | n + 1, made, names, .mk name attrs kids text =>
    if made + 1 > most then .limit (made + 1)
    else if name = Str.ofString "use" then groupE ids (putE ids most n) (made + 1) names attrs
    else match putAll (fun m e => putE ids most n m names e) (made + 1) kids with
      | .ok es m => .ok (.mk name attrs es text) m
      | .limit m => .limit m
      | .sheet m => .sheet m
      | .off => .off
theorem putAll_snoc {f : Int → El → Out} : ∀ {es : List El} {made : Int} {e : El}, putAll f made (es ++ [e]) = (match putAll f made es with
    | .ok es' m => (match f m e with | .ok e' m' => .ok (es' ++ [e']) m' | .limit m' => .limit m' | .sheet m' => .sheet m' | .off => .off)
    | .limit m => .limit m | .sheet m => .sheet m | .off => .off)
  | [], made, e => by simp only [List.nil_append, putAll]
  | x :: es, made, e => by
    simp only [List.cons_append, putAll]
    cases f made x with
    | ok e' m =>
      simp only
      rw [putAll_snoc (es := es)]
      cases putAll f m es with
      | ok es' m' => simp only; cases f m' e <;> rfl
      | limit m' => rfl
      | sheet m' => rfl
      | off => rfl
    | limit m => rfl
    | sheet m => rfl
    | off => rfl
theorem putAll_take {f : Int → El → Out} {es : List El} {made : Int} {i : Nat} {e : El} {ds : List El} {m : Int} (he : es[i]? = some e) (h : putAll f made (es.take i) = .ok ds m) :
    (∀ e' m', f m e = .ok e' m' → putAll f made (es.take (i + 1)) = .ok (ds ++ [e']) m') ∧ (∀ m', f m e = .limit m' → putAll f made es = .limit m') ∧ (∀ m', f m e = .sheet m' → putAll f made es = .sheet m') ∧ (f m e = .off → putAll f made es = .off) := by
  k_with_none
  w_top off
  (k_with "an" => (first | assumption | exact And.left (by assumption) | exact And.left (And.right (by assumption)) | exact And.left (And.right (And.right (by assumption))) | exact And.left (And.right (And.right (And.right (by assumption)))) | exact And.left (And.right (And.right (And.right (And.right (by assumption))))) | exact And.left (And.right (And.right (And.right (And.right (And.right (by assumption)))))) | exact And.left (And.right (And.right (And.right (And.right (And.right (And.right (by assumption))))))) | exact And.left (And.right (And.right (And.right (And.right (And.right (And.right (And.right (by assumption)))))))) | exact And.left (And.right (And.right (And.right (And.right (And.right (And.right (And.right (And.right (by assumption)))))))))))
  (k_with "k_ne" => (refine neN ?_; (try dsimp only); first | (refine Nat.ne_of_lt ?_; k_extra "an") | (refine Nat.ne_of_gt ?_; k_extra "an")))
  (k_with "sub" => (first | assumption | (refine List.mem_append_left _ ?_; k_extra "sub") | (refine List.mem_append_right _ ?_; k_extra "sub") | (refine List.Mem.tail _ ?_; k_extra "sub")))
  have key : ∀ (a b : List El) (o : OutL), (∀ ds m, o ≠ .ok ds m) → putAll f made a = o → putAll f made (a ++ b) = o := by
    intro a b o ho h
    induction b generalizing a with
    | nil => rwa [List.append_nil]
    | cons x b ih =>
      rw [show a ++ x :: b = (a ++ [x]) ++ b from by simp]
      refine ih _ ?_
      rw [putAll_snoc, h]
      cases o with
      | ok ds m => exact absurd rfl (ho ds m)
      | limit m => rfl
      | sheet m => rfl
      | off => rfl
  have ht : es.take (i + 1) = es.take i ++ [e] := by rw [List.take_add_one, he]; rfl
  have hs : es = es.take (i + 1) ++ es.drop (i + 1) := (List.take_append_drop _ _).symm
  have h1 := putAll_snoc (f := f) (es := es.take i) (made := made) (e := e)
  rw [h, ← ht] at h1
  refine ⟨fun e' m' q => by rw [h1]; simp only [q], fun m' q => ?_, fun m' q => ?_, fun q => ?_⟩
  all_goals (rw [hs]; refine key _ _ _ (fun _ _ z => by cases z) ?_; rw [h1]; simp only [q])
inductive IdsAre (w : World) (G : Addr → Obj → Prop) : List (Str × Value) → List (Str × El) → Prop
  | nil : IdsAre w G [] []
  | cons (k : Str) {v : Value} {e : El} {kvs : List (Str × Value)} {ids : List (Str × El)} : ElOf w G v e → IdsAre w G kvs ids → IdsAre w G ((k, v) :: kvs) ((k, e) :: ids)
noncomputable def IdsOf (w : World) (G : Addr → Obj → Prop) (d : Addr) (ids : List (Str × El)) : Prop := ∃ o kvs, G d o ∧ o.IsDictOf (PySem.strKind PG w) kvs ∧ IdsAre w G kvs ids ∧ (d == sysModules) = false ∧ kvs.length ≤ 100
noncomputable def TupS (G : Addr → Obj → Prop) (t : Addr) (ns : List Str) : Prop := ∃ vs n, G t { cls := .type "tuple", data := .seq (List.toArray vs) n } ∧ StrsAre vs ns ∧ ns.length ≤ 20
noncomputable def PutP (w : World) (G : Addr → Obj → Prop) (xu du di nm : Addr) (ids : List (Str × El)) (names : List Str) (v : Value) (e : El) (h : Heap) : Prop :=
  (∀ a o, G a o → h.get? a = some o ∧ a ≠ du) ∧ G xu (instObj 278 du) ∧ IdsOf w G di ids ∧ TupS G nm names ∧ ElOf w G v e
noncomputable def PutR (w : World) (G : Addr → Obj → Prop) (du di : Addr) (most : Int) (res : Out) (r : Value) (led' tl : List (Addr × Obj)) : Prop :=
  ∃ e' m o', res = .ok e' m ∧ led' = [(du, o')] ∧ UsesO o' di most m ∧ ElOf w (GU G tl) r e' ∧ 0 ≤ m ∧ m ≤ most
noncomputable def PutX (du di : Addr) (most : Int) (res : Out) (C : Addr) (led' : List (Addr × Obj)) : Prop :=
  ∃ m o', led' = [(du, o')] ∧ UsesO o' di most m ∧ ((C = 89 ∧ res = .limit m) ∨ (C = 77 ∧ res = .sheet m))
noncomputable def PutC (w : World) (mean : ExcName → Option Value) (mg mb : Str → Option Value) (ids : List (Str × El)) (most : Int) (n : Nat) : Prop :=
  ∀ (G : Addr → Obj → Prop) (xu du di nm : Addr) (names : List Str) (v : Value) (e : El) (o : Obj) (made : Int), putE ids most n made names e ≠ .off → UsesO o di most made → 0 ≤ made → made ≤ most → most ≤ 5000 →
    PSpec w mean mg mb 268 [.ref xu, v, .ref nm] [(du, o)] (2 * n + 16) (PutP w G xu du di nm ids names v e) (PutR w G du di most (putE ids most n made names e)) (PutX du di most (putE ids most n made names e))
theorem elsOf_snoc {w : World} {G : Addr → Obj → Prop} {v : Value} {e : El} : ∀ {vs : List Value} {es : List El}, ElsOf w G vs es → ElOf w G v e → ElsOf w G (vs ++ [v]) (es ++ [e])
  | _, _, .nil, h => .cons h .nil
  | _, _, .cons a b, h => .cons a (elsOf_snoc b h)
theorem putAll_length {f : Int → El → Out} : ∀ {es : List El} {made : Int} {ds : List El} {m : Int}, putAll f made es = .ok ds m → ds.length = es.length
  | [], made, ds, m, h => by simp only [putAll, OutL.ok.injEq] at h; rw [← h.1]
  | e :: es, made, ds, m, h => by
    simp only [putAll] at h
    cases h1 : f made e with
    | ok e' m' =>
      rw [h1] at h
      simp only at h
      cases h2 : putAll f m' es with
      | ok es' m2 => rw [h2] at h; simp only [OutL.ok.injEq] at h; rw [← h.1, List.length_cons, List.length_cons, putAll_length h2]
      | limit m2 => rw [h2] at h; cases h
      | sheet m2 => rw [h2] at h; cases h
      | off => rw [h2] at h; cases h
    | limit m' => rw [h1] at h; cases h
    | sheet m' => rw [h1] at h; cases h
    | off => rw [h1] at h; cases h
theorem pspec_use1 {w : World} {mean : ExcName → Option Value} {mg mb : Str → Option Value} {f : Addr} {vs : List Value} {k : Nat} {P : Heap → Prop} {R : Value → List (Addr × Obj) → List (Addr × Obj) → Prop} {X : Addr → List (Addr × Obj) → Prop}
    {dp un : Nat} {gd : Option (List Code)} {cn : Str} {cs : Scope} {a : Addr} {ccd : Value} {cl : List (Str × Addr)} {outer : List Env} {A₀ : Around} {base h₀ : Heap} {L d : Addr} {o : Obj} {m : Str → Option Value} {s : Shared} {Q E : Value → Shared → Prop} {news : List (Addr × Obj)} {g : Obj → List (Addr × Obj)}
    (S : PSpec w mean mg mb f vs [(d, o)] k P R X) (B : Below A₀ base outer h₀) (F : Fr h₀ L s.heap m) (Y : (hd.heap_1_39 w.params).In h₀) (N : News h₀ L s.heap news) (U : UpdF d o news g)
    (T : Top hd.view_1_40 (looseW hd.view_1_40 [Str.ofString "fraction", Str.ofString "write_decimal", Str.ofString "length", Str.ofString "Uses"]) mean mg mb h₀)
    (hk : cs.kind = .function) (hP : P s.heap) (hd : dp + k < recursionLimit) (hu : un + 8 * k < cLine)
    (ret : ∀ r tl o' h' tk', Fr h₀ L h' m → News h₀ L h' (tl ++ g o') → (∀ q ∈ tl, s.heap.get? q.1 = none) → (∀ b o, s.heap.get? b = some o → b ≠ d → h'.get? b = some o) → R r [(d, o')] tl → Q r { s with heap := h', toks := tk' })
    (exc : ∀ e C o' h' tk', X C [(d, o')] → FlyX base (envX cn cs L a ccd cl :: outer) [(d, o)] [(d, o')] s.heap e C h' → E (.ref e) { s with heap := h', toks := tk' }) :
    wpAny (model PySem.Challenge.rw_nu0026_01.row.prog w) (ktrTop dp un gd cn cs L a ccd cl outer) (call (.ref f) vs) Q E s := by
  k_with_none
  w_top off
  (k_with "an" => (first | assumption | exact And.left (by assumption) | exact And.left (And.right (by assumption)) | exact And.left (And.right (And.right (by assumption))) | exact And.left (And.right (And.right (And.right (by assumption)))) | exact And.left (And.right (And.right (And.right (And.right (by assumption))))) | exact And.left (And.right (And.right (And.right (And.right (And.right (by assumption)))))) | exact And.left (And.right (And.right (And.right (And.right (And.right (And.right (by assumption))))))) | exact And.left (And.right (And.right (And.right (And.right (And.right (And.right (And.right (by assumption)))))))) | exact And.left (And.right (And.right (And.right (And.right (And.right (And.right (And.right (And.right (by assumption)))))))))))
  (k_with "k_ne" => (refine neN ?_; (try dsimp only); first | (refine Nat.ne_of_lt ?_; k_extra "an") | (refine Nat.ne_of_gt ?_; k_extra "an")))
  (k_with "sub" => (first | assumption | (refine List.mem_append_left _ ?_; k_extra "sub") | (refine List.mem_append_right _ ?_; k_extra "sub") | (refine List.Mem.tail _ ?_; k_extra "sub")))
  (k_with "gn" => refine (let P9 : Prop := _; (?_ : P9)))
  k_extra "gn"; (obtain ⟨pre, post, hl, hg, a1, a2⟩ := U.split) <;> k_unfold
  subst hl
  have hD := N (d, o) (List.mem_append_right _ (.head _))
  refine S dp un gd cn cs a ccd cl outer A₀ base h₀ L m s Q E B F Y (fun q hq => by rw [List.mem_singleton.mp hq]; exact hD) T hk hP hd hu (fun r tl led' h' tk' F' N' hk' hst hfr hR => ?_) (fun e C led' h' tk' hX hx => ?_)
  · obtain ⟨o', rfl⟩ := one_key hk'
    have st : ∀ b o, s.heap.get? b = some o → b ≠ d → h'.get? b = some o := fun b o e n => hst b o e (fun hb => n (by simpa using hb))
    refine ret r tl o' h' tk' F' (fun q hq => ?_) hfr st hR
    rcases List.mem_append.mp hq with hq | hq
    · exact N' q (List.mem_append_left _ hq)
    · rw [hg] at hq
      rcases List.mem_append.mp hq with hq | hq
      · have z := N q (List.mem_append_left _ hq); exact ⟨st _ _ z.1 (a1 q hq), z.2⟩
      · rcases List.mem_cons.mp hq with rfl | hq
        · exact N' _ (List.mem_append_right _ (.head _))
        · have z := N q (List.mem_append_right _ (.tail _ hq)); exact ⟨st _ _ z.1 (a2 q hq), z.2⟩
  · obtain ⟨o', rfl⟩ := one_key hx.1
    exact exc e C o' h' tk' hX hx
theorem off1_mem {D : Addr} {l : List (Addr × Obj)} (x : LCg.Off1 D l) : ∀ p ∈ l, p.1 ≠ D := by
  induction l with
  | nil => exact fun _ h => nomatch h
  | cons q r ih =>
    obtain ⟨x1, x2⟩ := x
    intro p hp
    rcases List.mem_cons.mp hp with rfl | hp
    · exact x1
    · exact ih x2 p hp
open LCg in
theorem comp_put {w : World} {A A₀ : Around} {E : Value → Shared → Prop} {s : Shared} {base g : Heap} {outer : List Env} {L : Addr} {m : Str → Option Value} {env : Env} {elt iter : PySem.Expr} {x : Str} {px : Pos} {scope : Scope} {cl : List (Str × Addr)} {pos spos : Pos} {y : Str} {py : Pos} {Q : Flow → Shared → Prop}
    {ax du di : Addr} {vs : List Value} {nv : Nat} {kids : List El} {G : Addr → Obj → Prop} {cs : List (Addr × Obj)} {o : Obj} {most made : Int} (f : Int → El → Out)
    (hA : A.frames = some (env :: outer)) (hf : env.frame = some L) (K : Below A₀ base outer g)
    (F : Fr g L s.heap m) (N : News g L s.heap (cs ++ [(du, o)])) (hl0 : g.get? ax = some (PySem.W.listOf vs.toArray nv)) (hE : ElsOf w G vs kids) (hlen : vs.length ≤ 40) (hh : A.handled = none) (hU : UsesO o di most made) (hb1 : 0 ≤ made) (hb2 : made ≤ most)
    (hLe : env.locals = L) (hsw : swapsWith (.ListComp elt [⟨.Name x px, iter, [], 0⟩] scope pos) (some (.Name y py)) spos.line env = pure true) (hy : env.kindOf y = some .local) (hpp : (env.scope.kind == .class || (env.scope.kind == .module && env.locals != env.globals)) = false)
    (hclos : closureFor scope env = pure cl) (hcell : ∀ y ∈ scope.names, y.2 ≠ .cell) (hkind : scope.kind = .function)
    (hnames : ∀ y ∈ scope.names, y.2 = .local → scope.names.lookup y.1 = some .local) (hx : scope.names.lookup x = some .local)
    (heval : ∀ Q', (∀ s₁ : Shared, (∃ tk, s₁ = { s with toks := tk }) → Q' (.ref ax) s₁) → wpAny (model PG w) A (eval iter env) Q' E s)
    (turn : ∀ v e I oI C oC D m₂ ys h tk tl o1 m1, ElOf w G v e → UsesO o1 di most m1 → 0 ≤ m1 → m1 ≤ most → f m1 e ≠ .off → (∀ p ∈ tl, p.1 ≠ du) → NsObj oC m₂ → m₂ x = some v → Fr g L h m → News g L h ((I, oI) :: (C, oC) :: (D, lst ys) :: (tl ++ (cs ++ [(du, o1)]))) → Off3 I C D (tl ++ (cs ++ [(du, o1)])) → ((@Ne Nat I C) ∧ (@Ne Nat I D) ∧ (@Ne Nat C D)) →
      wpAny (model PG w) A (eval elt (compEnvC scope cl C env)) (CompEnd g L m { s with heap := h, toks := tk } I oI C oC D (lst ys) (fun _ => True) (fun y nw' => ∃ tl' e2 m2 o2, nw' = tl' ++ (tl ++ (cs ++ [(du, o2)])) ∧ (∀ p ∈ tl', p.1 ≠ du) ∧ f m1 e = .ok e2 m2 ∧ UsesO o2 di most m2 ∧ ElOf w (GU G tl') y e2 ∧ 0 ≤ m2 ∧ m2 ≤ most))
        (fun er s' => ∃ ea Ce h1 nw1 o2 o3, er = .ref ea ∧ (∃ h' tk', s' = { s with heap := h', toks := tk' }) ∧ Fr g L h1 m ∧ News g L h1 nw1 ∧ (du, o2) ∈ nw1 ∧ (∃ oC m₂, h1.get? C = some oC ∧ NsObj oC m₂) ∧ (∀ p ∈ nw1, p.1 ≠ C) ∧ FlyX base (env :: outer) [(du, o2)] [(du, o3)] h1 ea Ce s'.heap ∧ PutX du di most (f m1 e) Ce [(du, o3)]) { s with heap := h, toks := tk })
    (raise : ∀ ea Ce h1 nw1 o2 o3 h'' tk, Fr g L h1 m → News g L h1 nw1 → (du, o2) ∈ nw1 → FlyX base (env :: outer) [(du, o2)] [(du, o3)] h1 ea Ce h'' → (∀ mm, (Ce = 89 ∧ UsesO o3 di most mm ∧ putAll f made kids = .limit mm) ∨ (Ce = 77 ∧ UsesO o3 di most mm ∧ putAll f made kids = .sheet mm) → E (.ref ea) { s with heap := h'', toks := tk }))
    (fin : ∀ D h tk ys tl o1 es m1, Fr g L h (fun z => if z = y then some (.ref D) else m z) → News g L h ((D, lst ys) :: (tl ++ (cs ++ [(du, o1)]))) → du ≠ D → (∀ p ∈ tl, p.1 ≠ du) → ElsOf w (GU G tl) ys es → UsesO o1 di most m1 → putAll f made kids = .ok es m1 → 0 ≤ m1 → m1 ≤ most → ys.length ≤ 40 → Q .next { s with heap := h, toks := tk })
    (hoff : putAll f made kids ≠ .off) (hs : ∀ x, foldedSetIterable iter env x = pure x := by intro _; rfl) :
    wpAny (model PG w) A (exec (.Assign [.Name y py] (.ListComp elt [⟨.Name x px, iter, [], 0⟩] scope pos) spos) env) Q E s := by
  refine comp_raise (Inv := fun i ys nw => ∃ tl o1 es m1, nw = tl ++ (cs ++ [(du, o1)]) ∧ UsesO o1 di most m1 ∧ ElsOf w (GU G tl) ys es ∧ (∀ p ∈ tl, p.1 ≠ du) ∧ putAll f made (kids.take i) = .ok es m1 ∧ 0 ≤ m1 ∧ m1 ≤ most)
    (Er := fun C h nw er s' => ∃ ea Ce h1 nw1 o2 o3 mm, er = .ref ea ∧ (∃ h' tk', s' = { s with heap := h', toks := tk' }) ∧ Fr g L h1 m ∧ News g L h1 nw1 ∧ (du, o2) ∈ nw1 ∧ (∃ oC m₂, h1.get? C = some oC ∧ NsObj oC m₂) ∧ (∀ p ∈ nw1, p.1 ≠ C) ∧ FlyX base (env :: outer) [(du, o2)] [(du, o3)] h1 ea Ce s'.heap ∧ ((Ce = 89 ∧ UsesO o3 di most mm ∧ putAll f made kids = .limit mm) ∨ (Ce = 77 ∧ UsesO o3 di most mm ∧ putAll f made kids = .sheet mm)))
    F N (list_of_get hl0) hh (by rw [List.size_toArray, sizeLine_eq]; omega) hLe hsw hy hpp hclos hcell hkind hnames hx heval ⟨[], _, [], made, rfl, hU, .nil, (fun _ h => nomatch h), by simp [putAll], hb1, hb2⟩ ?turn ?raised ?fin hs
  case turn =>
    rintro i v I oI C oC D m₂ ys h tk nw hi hlt ⟨tl, o1, es, m1, rfl, hU1, hEs, htl, hput, hm1, hm2⟩ hC hx2 F2 N2 off ne
    obtain ⟨e, he, hv⟩ := hE.at (i := i) (by simpa using hi)
    k_extra "gn"; (obtain ⟨p1, p2, p3, p4⟩ := putAll_take he hput) <;> k_unfold
    refine wpAny_mono (turn v e I oI C oC D m₂ ys h tk tl o1 m1 hv hU1 hm1 hm2 (fun q => hoff (p4 q)) htl hC hx2 F2 N2 off ne) (fun y2 s2 hq => ?_) fun er s2 hq => ?_
    · k_extra "gn"; (obtain ⟨h', tk', nw', e', F', N', off', hS, tl', e2, m2, o2, rfl, htl', hok, hU2, hy2, q1, q2⟩ := hq) <;> k_unfold
      refine ex3 h' tk' _ ⟨e', F', N', off', hS, ex4 (tl' ++ tl) o2 (es ++ [e2]) m2 ⟨by rw [List.append_assoc], hU2, ?_, fun p hp => (List.mem_append.mp hp).elim (htl' p) (htl p), p1 _ _ hok, q1, q2⟩⟩
      exact elsOf_snoc (hEs.mono fun a o q => q.imp id fun q => List.mem_append_right _ q) (hy2.mono fun a o q => q.imp id fun q => List.mem_append_left _ q)
    · k_extra "gn"; (obtain ⟨ea, Ce, h1, nw1, o2, o3, r1, r2, r3, r4, r5, r6, r7, r8, mm, o4, e4, hU4, hr⟩ := hq) <;> k_unfold
      obtain rfl : o3 = o4 := by have := (List.cons.inj e4).1; exact (Prod.mk.inj this).2
      refine ⟨ea, Ce, h1, nw1, o2, o3, mm, r1, r2, r3, r4, r5, r6, r7, r8, ?_⟩
      rcases hr with ⟨z1, z2⟩ | ⟨z1, z2⟩
      · exact .inl ⟨z1, hU4, p2 _ z2⟩
      · exact .inr ⟨z1, hU4, p3 _ z2⟩
  case raised =>
    rintro C h nw er s2 F2 N2 hC0 hCL hC hCn ⟨ea, Ce, h1, nw1, o2, o3, mm, rfl, ⟨h', tk', rfl⟩, r3, r4, r5, r6, r7, r8, hr⟩
    exact comp_fly hA hf K r3 r4 r5 hC0 hCL r6 r7 r8 fun h1' h'' F3 N3 x3 => raise ea Ce h1' nw1 o2 o3 h'' _ F3 N3 r5 x3 mm hr
  case fin =>
    rintro D h tk ys nw F2 N2 off ⟨tl, o1, es, m1, rfl, hU1, hEs, htl, hput, hm1, hm2⟩
    rw [List.size_toArray, hE.length, List.take_length] at hput
    have hduD : du ≠ D := off1_mem off (du, o1) (List.mem_append_right _ (List.mem_append_right _ (List.mem_singleton.mpr rfl)))
    refine fin D h tk ys tl o1 es m1 F2 N2 hduD htl hEs hU1 hput hm1 hm2 ?_
    rw [hEs.length]
    have : es.length = kids.length := putAll_length hput
    rw [this, ← hE.length]; exact hlen
-- twice
theorem updF_mid {d : Addr} {o : Obj} {cs : List (Addr × Obj)} (hc : ∀ p ∈ cs, p.1 ≠ d) : ∀ {tl : List (Addr × Obj)}, (∀ p ∈ tl, p.1 ≠ d) → UpdF d o (tl ++ (cs ++ [(d, o)])) (fun o' => tl ++ (cs ++ [(d, o')]))
  | [], _ => by
    induction cs with
    | nil => exact .head (fun _ h => nomatch h)
    | cons c cs ih => exact .tail (hc c (.head _)) (ih fun p hp => hc p (.tail _ hp))
  | p :: tl, h => .tail (h p (.head _)) (updF_mid hc fun q hq => h q (.tail _ hq))
theorem comp_end2 {h₀ h h' : Heap} {L I C D : Addr} {oI oC oD : Obj} {nw nw' tl : List (Addr × Obj)} (N : News h₀ L h ((I, oI) :: (C, oC) :: (D, oD) :: nw)) (off : LCg.Off3 I C D nw') (N' : News h₀ L h' (tl ++ (I, oI) :: (C, oC) :: (D, oD) :: nw'))
    (fr : ∀ q ∈ tl, h.get? q.1 = none) : News h₀ L h' ((I, oI) :: (C, oC) :: (D, oD) :: (tl ++ nw')) ∧ LCg.Off3 I C D (tl ++ nw') := by
  k_with_none
  w_top off
  (k_with "an" => (first | assumption | exact And.left (by assumption) | exact And.left (And.right (by assumption)) | exact And.left (And.right (And.right (by assumption))) | exact And.left (And.right (And.right (And.right (by assumption)))) | exact And.left (And.right (And.right (And.right (And.right (by assumption))))) | exact And.left (And.right (And.right (And.right (And.right (And.right (by assumption)))))) | exact And.left (And.right (And.right (And.right (And.right (And.right (And.right (by assumption))))))) | exact And.left (And.right (And.right (And.right (And.right (And.right (And.right (And.right (by assumption)))))))) | exact And.left (And.right (And.right (And.right (And.right (And.right (And.right (And.right (And.right (by assumption)))))))))))
  (k_with "k_ne" => (refine neN ?_; (try dsimp only); first | (refine Nat.ne_of_lt ?_; k_extra "an") | (refine Nat.ne_of_gt ?_; k_extra "an")))
  (k_with "sub" => (first | assumption | (refine List.mem_append_left _ ?_; k_extra "sub") | (refine List.mem_append_right _ ?_; k_extra "sub") | (refine List.Mem.tail _ ?_; k_extra "sub")))
  (k_with "rm" => (first | exact room_of 1 rfl (by assumption) rfl | exact room_of 0 rfl (by assumption) rfl | exact room_of1 1 rfl (by assumption) rfl | exact room_of1 0 rfl (by assumption) rfl | ktr_room))
  (k_with "un" => (first | exact units_of 3 rfl (by assumption) rfl | exact units_of 4 rfl (by assumption) rfl | exact units_of 0 rfl (by assumption) rfl | ktr_units))
  (k_with "gn" => refine (let P9 : Prop := _; (?_ : P9)))
  (k_with "st" => (repeat' (first | ((with_reducible show wpAny _ _ (PySem.exec _ _) _ _ _); k_fold) | ((fail_if_success (fail_if_success k_unfold)); (show wpAny _ _ _ _ _ _); (try dsimp only)) | (k_unfold; (try dsimp only)) | (k_end; wrow_close) | walk1 | (dsimp only; walk1) | (leave1; walk_say "STEP leave1"; try dsimp only) | fail "no step")))
  (k_with "ktr_enter" => first
  | (refine' codeG ?k1 ?k2 ?k3 ?k4 ?k5 ?kA ?kF ?kK ?k6 ?k7 ?k8 ?k9 ?kB ?_ ?c2 ?c3 ?c4 ?c5; (case kA => exact rfl); (case kF => exact rfl); (case kK => assumption); (case k1 => first | k_asm | exact topb_of rfl rfl (by k_asm)); (case k2 => k_asm); (case k3 => k_asm); (case k4 => k_asm); (case k5 => k_asm); (case k6 => k_is); (case k7 => k_is); (case k8 => (k_extra "rm")); (case k9 => first | exact BindsTo.of_eq rfl | exact binds_K (by k_in) rfl (by k_is) rfl rfl rfl); (case c5 => decide); (case kB => exact locs rfl); (case c2 => exact rfl); (case c3 => exact rfl); (case c4 => exact rfl); k_whole; intro g'9q L'9q h'9q tk'9q st'9q FG'9q F'9q N'9q B'9q X'9q T'9q l1'9q; (try dsimp only); (try k_fold))
  | (refine' codeGC ?k1 ?k2 ?k3 ?k4 ?k5 ?kA ?kF ?kK ?k6 ?k7 ?k8 ?k9 ?kB ?kD ?_ ?c2 ?c3 ?c4; (case kA => exact rfl); (case kF => exact rfl); (case kK => assumption); (case k1 => first | k_asm | exact topb_of rfl rfl (by k_asm)); (case k2 => k_asm); (case k3 => k_asm); (case k4 => k_asm); (case k5 => k_asm); (case k6 => k_is); (case k7 => k_is); (case k8 => (k_extra "rm")); (case k9 => first | exact BindsTo.of_eq rfl | exact binds_K (by k_in) rfl (by k_is) rfl rfl rfl); (case kB => exact rfl); (case kD => decide +kernel); (case c2 => exact rfl); (case c3 => exact rfl); (case c4 => exact rfl); k_whole; intro g'9q L'9q h'9q tk'9q cells'9q st'9q FG'9q F'9q N'9q Y'9q B'9q X'9q T'9q l1'9q; k_cells Y'9q; (try simp only [List.cons_append, List.nil_append, List.append_nil] at N'9q); (try dsimp only); (try k_fold)))
  (k_with "k_inst" => exact inst_base (by k_asm) (by assumption) (by assumption))
  (k_with "getMethod ref" => (k_here; (with_reducible show wpAny _ _ (getMethod (Value.ref _) (Str.ofString "get") _) _ _ _); k_dflt (refine sd_method (SDict.base (by k_asm) (by assumption)) ?_)))
  (k_with "call builtin:dict.get" => (k_here; (with_reducible show wpAny _ _ (call (Value.builtin "dict.get") [Value.ref _, Value.str _ _]) _ _ _); k_dflt (first
  | (refine sd_get1s (SDict.base (by k_asm) (by assumption)) (by assumption) ?_; intro t'9q)
  | (refine sd_get1n (SDict.base (by k_asm) (by assumption)) (by assumption) ?_)
  | (refine sd_get1 (SDict.base (by k_asm) (by assumption)) (fun hg09q => ?_) (fun v'9q t'9q hg19q => ?_)))))
  (k_with "k_room" => (k_extra "rm"))
  (k_with "subscriptTail" => (k_here; (with_reducible show wpAny _ _ (subscriptTail _ _ (Value.ref _) (Value.str _ _)) _ _ _); k_dflt (refine sd_item (SDict.base (by k_asm) (by assumption)) (by assumption) ?_); intro t'9q))
  (k_with "call ref" => (k_here; (with_reducible show wpAny _ _ (call (Value.ref _) _) _ _ _); (try k_fold); k_dflt (refine' spec_use0 ?S ?k1 ?k2 ?k3 ?k4 ?k5 ?kK ?kP ?kd ?ku ?_; (case S => assumption); (case k1 => first | k_asm | exact topb_of rfl rfl (by k_asm)); (case k2 => k_asm); (case k3 => k_asm); (case k4 => k_asm); (case k5 => k_asm); (case kK => exact rfl); (case kP => first | exact trivial | exact ElOf.base (by k_asm) (by assumption)); (case kd => (k_extra "rm")); (case ku => (k_extra "un"))); intro r'9q tl'9q h'9q tk'9q F'9q N'9q fr'9q st'9q hR'9q; (try dsimp only at hR'9q)))
  (k_with "k_mem" => ((show _ ∈ (_ ++ _ : List (Addr × Obj))); first | (refine List.mem_append_right _ ?_; k_mem) | (refine List.mem_append_left _ ?_; k_mem)))
  (k_with "call builtin:dict.get" => (k_here; (with_reducible show wpAny _ _ (call (Value.builtin "dict.get") [Value.ref _, Value.str _ _, Value.str _ _]) _ _ _); k_dflt (refine sd_get2L (SDict.base (by k_asm) (by assumption)) (by first | assumption | decide) ?_); intro t'9q hlen'9q))
  (k_with "k_inst" => exact inst_led (by k_asm) (by k_asm) (by assumption) (by k_mem))
  (k_with "ite" => (first | with_reducible refine ite_ff ?_ | with_reducible refine ite_tt ?_ | refine ite_dt (by assumption) ?_ | refine ite_df (by assumption) ?_))
  (k_with "compareOp Eq str str" => (k_here; k_dflt (first | refine eq_dec false (beq_eq_false_iff_ne.mpr (by assumption)) ?_ | refine eq_dec true (beq_iff_eq.mpr (by assumption)) ?_)))
  (k_with "exec Assign cons ListComp" => (k_here; k_dflt (refine wpAny_Assign_Name ?_ (by with_unfolding_all rfl))))
  (k_with "call ref" => (k_here; (with_reducible show wpAny _ _ (call (Value.ref 246) _) _ _ _); (try k_fold); k_dflt (refine' spec_use0 (elof_spec _ _ _ _ _ _ _ _ _ _) ?k1 ?k2 ?k3 ?k4 ?k5 ?kK ?kP ?kd ?ku ?_; (case k1 => first | k_asm | exact topb_of rfl rfl (by k_asm)); (case k2 => k_asm); (case k3 => k_asm); (case k4 => k_asm); (case k5 => k_asm); (case kK => exact rfl); (case kP => exact trivial); (case kd => (k_extra "rm")); (case ku => (k_extra "un"))); intro r'9q tlC h'9q tk'9q F'9q N'9q fr'9q st'9q hR'9q; (try dsimp only at hR'9q)))
  refine ⟨fun p hp => N' p ?_, LCg.Off3.of fun p hp => ?_⟩
  · simp only [List.mem_append, List.mem_cons] at hp ⊢
    rcases hp with hp | hp | hp | hp | hp
    · exact .inr (.inl hp)
    · exact .inr (.inr (.inl hp))
    · exact .inr (.inr (.inr (.inl hp)))
    · exact .inl hp
    · exact .inr (.inr (.inr (.inr hp)))
  · rcases List.mem_append.mp hp with hp | hp
    · have z := fr p hp
      refine ⟨fun e => ?_, fun e => ?_, fun e => ?_⟩
      · rw [e, (N (I, oI) (.head _)).1] at z; cases z
      · rw [e, (N (C, oC) (.tail _ (.head _))).1] at z; cases z
      · rw [e, (N (D, oD) (.tail _ (.tail _ (.head _)))).1] at z; cases z
    · exact off.mem p hp
theorem put_tl {α : Type} {P : α → Prop} {l : List α} (_ : ∀ q ∈ l, P q) : ∃ l', l' = l := ⟨l, rfl⟩
theorem put_gen (w : World) (mean : ExcName → Option Value) (mg mb : Str → Option Value) (ids : List (Str × El)) (most : Int) (n : Nat) (IH : PutC w mean mg mb ids most n) (G : Addr → Obj → Prop) (xu du di nm : Addr) (names : List Str) (v : Value) (name text : Str) (attrs : List (Str × Str)) (kids : List El) (o : Obj) (made : Int)
  (hno : putE ids most (n + 1) made names (.mk name attrs kids text) ≠ .off) (hU : UsesO o di most made) (hb1 : 0 ≤ made) (hb2 : made ≤ most) (hb3 : most ≤ 5000) (hle : ¬ made + 1 > most) (hnu : name ≠ Str.ofString "use") (args : List Value) (hargs : args = [.ref xu, v, .ref nm] ∨ (args = [.ref xu, v] ∧ nm = 262)) :
    PSpec w mean mg mb 268 args [(du, o)] (2 * n + 18) (PutP w G xu du di nm ids names v (.mk name attrs kids text)) (PutR w G du di most (putE ids most (n + 1) made names (.mk name attrs kids text))) (PutX du di most (putE ids most (n + 1) made names (.mk name attrs kids text))) := by
  (k_with "ktr_enter" => (refine' codeGC (binds := [(Str.ofString "self", .ref xu), (Str.ofString "element", v), (Str.ofString "names", .ref nm)]) ?k1 ?k2 ?k3 ?k4 ?k5 ?kA ?kF ?kK ?k6 ?k7 ?k8 ?k9 ?kB ?kD ?_ ?c2 ?c3 ?c4; (case kA => exact rfl); (case kF => exact rfl); (case kK => assumption); (case k1 => first | k_asm | exact topb_of rfl rfl (by k_asm)); (case k2 => k_asm); (case k3 => k_asm); (case k4 => k_asm); (case k5 => k_asm); (case k6 => k_is); (case k7 => k_is); (case k8 => (k_extra "rm")); (case k9 => (rcases hargs with hz1 | ⟨hz1, hz2⟩; (rw [hz1]; exact binds_K (by k_in) rfl (by k_is) rfl rfl rfl); (rw [hz1, hz2]; exact binds_K (by k_in) rfl (by k_is) rfl rfl rfl))); (case kB => exact rfl); (case kD => decide +kernel); (case c2 => exact rfl); (case c3 => exact rfl); (case c4 => exact rfl); k_whole; intro g'9q L'9q h'9q tk'9q cells'9q st'9q FG'9q F'9q N'9q Y'9q B'9q X'9q T'9q l1'9q; k_cells Y'9q; (try simp only [List.cons_append, List.nil_append, List.append_nil] at N'9q); (try dsimp only); (try k_fold)))
  have hres : putE ids most (n + 1) made names (.mk name attrs kids text) = (match putAll (fun m e => putE ids most n m names e) (made + 1) kids with
      | .ok es m => .ok (.mk name attrs es text) m
      | .limit m => .limit m
      | .sheet m => .sheet m
      | .off => .off) := by rw [putE, if_neg hle, if_neg hnu] <;> rfl
  rw [hres] at hno ⊢
  clear hres
  k_extra "gn"; (obtain ⟨h1, h2, h3, t1, t2, t3, t4, t5, rfl⟩ := hU) <;> k_unfold
  unfold PSpec
  k_fill
  intro dp un gd cn cs a' ccd cl' outer A₀ base h₀ L m s Q E B F X N T hk hP hd hu hret hexc
  refine wpAny_call ?_
  k_dflt ktr_enter
  first | refine (let ak : Around := _; let nk : Env := _; let sg9 : Array GenState := _; let sd9 : Drawn := _; let so9 : OsState := _; (?_ : wpAny _ ak (execs _ nk) _ _ (Shared.mk _ sg9 sd9 _ so9))) | refine (let ak : Around := _; let nk : Env := _; (?_ : wpAny _ ak (execs _ nk) _ _ _))
  try (have TB9 : TopB ak _ _ (dp + 1) (un + 3) := topb_of rfl rfl (by assumption))
  rename Stood _ _ _ => st
  k_extra "gn"; (obtain ⟨hG, hxu, hids, hnm, hE⟩ := hP) <;> k_unfold
  have hG' : ∀ a o, G a o → _ := fun a o q => st a o (hG a o q).1 (by simpa using (hG a o q).2)
  have hx := hG' _ _ hxu
  cases hE with | mk a1 a2 a3 a4 a5 a6 =>
  have b1 := hG' _ _ a1
  have b2 := hG' _ _ a2
  have b4 := hG' _ _ a4
  rename (∀ p ∈ [(_, _)], _ < _) => l1
  have hdl : @LT.lt Nat instLTNat _ _ := l1 _ (.head _)
  dsimp only at hdl
  clear l1
  repeat ((fail_if_success (with_reducible show wpAny _ _ (exec (Stmt.Assign _ (PySem.Expr.ListComp _ _ _ _) _) _) _ _ _)); first | ((with_reducible show wpAny _ _ (PySem.exec _ _) _ _ _); k_fold) | ((fail_if_success (fail_if_success k_unfold)); (show wpAny _ _ _ _ _ _); (try dsimp only)) | (k_unfold; (try dsimp only)) | (k_end; wrow_close) | walk1 | (dsimp only; walk1) | (leave1; walk_say "STEP lea"))
  rename News _ _ _ _ => N1
  rename Fr _ _ _ _ => F1
  rename Below _ base (_ :: outer) _ => K1
  refine comp_put (G := G) (cs := [(_, _), (_, _)]) (kids := kids) (fun m e => putE ids most n m names e) rfl rfl K1 F1 N1 b4 a6 a5 rfl UsesO.intro (by omega) (by omega) rfl (by with_unfolding_all rfl) rfl rfl (by with_unfolding_all rfl) (by decide) rfl (by decide) rfl ?ev ?turn ?raise ?fin (by intro z; rw [z] at hno; exact hno rfl)
  case ev =>
    intro Q' hQ
    ((k_extra "st"); (k_extra "st"))
    exact hQ _ ⟨_, rfl⟩
  case turn =>
    intro vc ec I oI C oC D m₂ ys h tk tl o1 m1 hEc hU1 q1 q2 hnoc htl hC hx2 F2 N2 off ne
    k_extra "gn"; (obtain ⟨u1, u2, u3, v1, v2, v3, v4, v5, rfl⟩ := hU1) <;> k_unfold
    iterate 11 (first | ((with_reducible show wpAny _ _ (PySem.exec _ _) _ _ _); k_fold) | ((fail_if_success (fail_if_success k_unfold)); (show wpAny _ _ _ _ _ _); (try dsimp only)) | (k_unfold; (try dsimp only)) | (k_end; wrow_close) | walk1 | (dsimp only; walk1) | (leave1; walk_say "STEP lea"))
    have hoffd := off.mem _ (List.mem_append_right _ (List.mem_append_right _ (.head _)))
    refine pspec_use1 (IH G xu du di nm names vc ec _ m1 hnoc UsesO.intro q1 q2 hb3) (by k_asm) F2 (by k_asm) N2 (.tail (Ne.symm hoffd.1) (.tail (Ne.symm hoffd.2.1) (.tail (Ne.symm hoffd.2.2) (updF_mid ?cells htl)))) (by k_asm) rfl ⟨fun a o q => ⟨F2.keep a o (hG' a o q), (hG a o q).2⟩, hxu, hids, hnm, hEc⟩ (by (k_extra "rm")) (by (k_extra "un")) ?ret ?exc
    case cells =>
      intro p hp
      rcases List.mem_cons.mp hp with rfl | hp
      · exact Nat.ne_of_gt (Nat.lt_succ_of_lt (Nat.lt_succ_of_lt hdl))
      · rw [List.mem_singleton.mp hp]; exact Nat.ne_of_gt (Nat.lt_succ_of_lt hdl)
    case ret =>
      intro r tl' o' h' tk' F3 N3 hfr st3 hR
      k_extra "gn"; (obtain ⟨e', m', o4, hr1, hled, hU', hE', q3, q4⟩ := hR) <;> k_unfold
      obtain rfl : o' = o4 := (Prod.mk.inj (List.cons.inj hled).1).2
      have hduh := (N2 (du, _) (.tail _ (.tail _ (.tail _ (List.mem_append_right _ (List.mem_append_right _ (.head _))))))).1
      obtain ⟨z1, z2⟩ := comp_end2 (nw' := tl ++ ([(_, _), (_, _)] ++ [(du, o')])) N2 (LCg.Off3.of fun p hp => by
        rcases List.mem_append.mp hp with hp | hp
        · exact off.mem _ (List.mem_append_left _ hp)
        · rcases List.mem_append.mp hp with hp | hp
          · exact off.mem _ (List.mem_append_right _ (List.mem_append_left _ hp))
          · rw [List.mem_singleton.mp hp]; exact hoffd) N3 hfr
      have htd : ∀ p ∈ tl', p.1 ≠ du := fun p hp q => by
        have := hfr p hp
        rw [q, hduh] at this
        cases this
      exact ex3 h' tk' _ ⟨rfl, F3, z1, z2, trivial, ex4 tl' e' m' o' ⟨rfl, htd, hr1, hU', hE', q3, q4⟩⟩
    case exc =>
      intro er Ce o' h' tk' hX hx
      exact ⟨er, Ce, h, _, _, o', rfl, ⟨h', tk', rfl⟩, F2, fun p hp => N2 p (.tail _ (.tail _ (.tail _ hp))), List.mem_append_right _ (List.mem_append_right _ (.head _)), ⟨oC, m₂, (N2 (C, oC) (.tail _ (.head _))).1, hC⟩, fun p hp => (off.mem p hp).2.1, hx, hX⟩
  case raise =>
    intro ea Ce h1 nw1 o2 o3 h'' tk F2 N2 hm x mm hr
    refine fly_next (led1 := [(du, o3)]) rfl rfl K1 F2 N2 st x (fun b hb => by rw [List.mem_singleton.mp hb]; exact List.mem_map_of_mem hm) (fun b hb hm => frames_off B N rfl (.head _) (by rw [List.mem_singleton.mp hm] at hb; exact hb)) one_fst (fun q hq => .inl hq) (fun h3 hx3 => ?_)
    refine hexc ea Ce _ h3 _ ⟨mm, o3, rfl, ?_⟩ hx3
    k_extra "gn"; (rcases hr with ⟨z1, z2, z3⟩ | ⟨z1, z2, z3⟩) <;> k_unfold
    · exact ⟨z2, .inl ⟨z1, by rw [z3]⟩⟩
    · exact ⟨z2, .inr ⟨z1, by rw [z3]⟩⟩
  case fin =>
    intro D h tk ys tl o1 es m1 F2 N2 hduD htl hEs hU1 hput q1 q2 hyl
    clear F1 N1
    have hduh := (N2 (du, o1) (.tail _ (List.mem_append_right _ (List.mem_append_right _ (.head _))))).1
    ((k_extra "st"); (k_extra "st"))
    rename Core _ _ _ _ _ _ => hC
    rename (∀ q ∈ _, Heap.get? _ _ = none) => hfr
    refine spec_ret (tl := tlC ++ ((D, LCg.lst ys) :: tl)) (led' := [(du, o1)]) hret st (by assumption) (by assumption) (by assumption) (by assumption) ?_ one_fst ?_ ?_
    · intro q hq
      simp only [List.mem_append, List.mem_cons, List.not_mem_nil, or_false] at hq ⊢
      rcases hq with (hq | hq | hq) | hq
      · exact .inl hq
      · exact .inr (.inl hq)
      · exact .inr (.inr (.inl hq))
      · exact .inr (.inr (.inr (.inr hq)))
    · intro q hq b hb
      rw [List.mem_singleton.mp hb]
      rcases List.mem_append.mp hq with hq | hq
      · intro z
        have := hfr q hq
        rw [z] at this
        dsimp only at this
        rw [hduh] at this
        cases this
      · rcases List.mem_cons.mp hq with rfl | hq
        · exact Ne.symm hduD
        · exact htl q hq
    · refine ⟨.mk name attrs es text, m1, o1, by rw [hput], rfl, hU1, ?_, q1, q2⟩
      exact Core.el (hC.mono fun a o q => Or.inr (List.mem_append_left _ q)) (a3.mono fun a o q => Or.inl q) (Or.inr (List.mem_append_right _ (.head _))) hyl (hEs.mono fun a o q => q.imp id fun q => List.mem_append_right _ (.tail _ q))
theorem put_kids (w : World) (mean : ExcName → Option Value) (mg mb : Str → Option Value) (ids : List (Str × El)) (most : Int) (n : Nat) (IH : PutC w mean mg mb ids most n) (G : Addr → Obj → Prop) (xu du di nm : Addr) (names : List Str) (v : Value) (name text : Str) (attrs : List (Str × Str)) (kids : List El) (o : Obj) (made : Int)
  (hno : putE ids most (n + 1) made names (.mk name attrs kids text) ≠ .off) (hU : UsesO o di most made) (hb1 : 0 ≤ made) (hb2 : made ≤ most) (hb3 : most ≤ 5000) (hle : ¬ made + 1 > most) (hnu : name ≠ Str.ofString "use") :
    PSpec w mean mg mb 268 [.ref xu, v, .ref nm] [(du, o)] (2 * n + 18) (PutP w G xu du di nm ids names v (.mk name attrs kids text)) (PutR w G du di most (putE ids most (n + 1) made names (.mk name attrs kids text))) (PutX du di most (putE ids most (n + 1) made names (.mk name attrs kids text))) :=
  put_gen w mean mg mb ids most n IH G xu du di nm names v name text attrs kids o made hno hU hb1 hb2 hb3 hle hnu _ (.inl rfl)
theorem put_root (w : World) (mean : ExcName → Option Value) (mg mb : Str → Option Value) (ids : List (Str × El)) (most : Int) (n : Nat) (IH : PutC w mean mg mb ids most n) (G : Addr → Obj → Prop) (xu du di : Addr) (names : List Str) (v : Value) (name text : Str) (attrs : List (Str × Str)) (kids : List El) (o : Obj) (made : Int)
  (hno : putE ids most (n + 1) made names (.mk name attrs kids text) ≠ .off) (hU : UsesO o di most made) (hb1 : 0 ≤ made) (hb2 : made ≤ most) (hb3 : most ≤ 5000) (hle : ¬ made + 1 > most) (hnu : name ≠ Str.ofString "use") :
    PSpec w mean mg mb 268 [.ref xu, v] [(du, o)] (2 * n + 18) (PutP w G xu du di 262 ids names v (.mk name attrs kids text)) (PutR w G du di most (putE ids most (n + 1) made names (.mk name attrs kids text))) (PutX du di most (putE ids most (n + 1) made names (.mk name attrs kids text))) :=
  put_gen w mean mg mb ids most n IH G xu du di 262 names v name text attrs kids o made hno hU hb1 hb2 hb3 hle hnu _ (.inr ⟨rfl, rfl⟩)
theorem link_none (w : World) (mean : ExcName → Option Value) (mg mb : Str → Option Value) (v : Value) (name text : Str) (attrs : List (Str × Str)) (kids : List El)
  (ha : List.lookup (Str.ofString "href") attrs = none) (hb : List.lookup (Str.ofString "xlink:href") attrs = none) :
  Spec w mean mg mb 21 [v] [] 1 (fun h => ElOf w (HG h) v (.mk name attrs kids text)) (fun r _ tl => r = .none ∧ tl = []) := by
  k_with_none
  w_top off
  (k_with "an" => (first | assumption | exact And.left (by assumption) | exact And.left (And.right (by assumption)) | exact And.left (And.right (And.right (by assumption))) | exact And.left (And.right (And.right (And.right (by assumption)))) | exact And.left (And.right (And.right (And.right (And.right (by assumption))))) | exact And.left (And.right (And.right (And.right (And.right (And.right (by assumption)))))) | exact And.left (And.right (And.right (And.right (And.right (And.right (And.right (by assumption))))))) | exact And.left (And.right (And.right (And.right (And.right (And.right (And.right (And.right (by assumption)))))))) | exact And.left (And.right (And.right (And.right (And.right (And.right (And.right (And.right (And.right (by assumption)))))))))))
  (k_with "k_ne" => (refine neN ?_; (try dsimp only); first | (refine Nat.ne_of_lt ?_; k_extra "an") | (refine Nat.ne_of_gt ?_; k_extra "an")))
  (k_with "sub" => (first | assumption | (refine List.mem_append_left _ ?_; k_extra "sub") | (refine List.mem_append_right _ ?_; k_extra "sub") | (refine List.Mem.tail _ ?_; k_extra "sub")))
  (k_with "rm" => (first | exact room_of 1 rfl (by assumption) rfl | exact room_of 0 rfl (by assumption) rfl | exact room_of1 1 rfl (by assumption) rfl | exact room_of1 0 rfl (by assumption) rfl | ktr_room))
  (k_with "un" => (first | exact units_of 3 rfl (by assumption) rfl | exact units_of 4 rfl (by assumption) rfl | exact units_of 0 rfl (by assumption) rfl | ktr_units))
  (k_with "gn" => refine (let P9 : Prop := _; (?_ : P9)))
  (k_with "st" => (repeat' (first | ((with_reducible show wpAny _ _ (PySem.exec _ _) _ _ _); k_fold) | ((fail_if_success (fail_if_success k_unfold)); (show wpAny _ _ _ _ _ _); (try dsimp only)) | (k_unfold; (try dsimp only)) | (k_end; wrow_close) | walk1 | (dsimp only; walk1) | (leave1; walk_say "STEP leave1"; try dsimp only) | fail "no step")))
  (k_with "D" => try ((with_reducible show wpAny _ _ _ _ _ (Shared.mk (Shared.heap _) _ _ _ _)); dsimp only))
  (k_with "E0" => ((case F => k_asm); (case V => first | assumption | exact ⟨rfl, rfl, rfl⟩)))
  (k_with "E" => (k_extra "E0"; (case e => exact rfl)))
  (k_with "S" => (intro h'8q tk'8q F'8q N'8q; (try k_sweep)))
  (k_with "A" => (intro l'8q h'8q F'8q N'8q l18q; (try k_lt l18q); (try k_sweep)))
  (k_with "spliced" => (k_here; k_extra "D"; k_dflt (first | ((with_reducible refine' s_args ?V ?F ?e ?_); k_extra "E"; k_whole; (try dsimp only [List.cons_append, List.nil_append])))))
  (k_with "evalPairs" => (k_here; k_extra "D"; k_dflt (first | ((with_reducible refine' s_pair ?V ?F ?e ?f ?_); k_extra "E"; (case f => exact rfl); k_whole))))
  (k_with "eval BinOp" => (k_here; k_extra "D"; k_dflt (first | ((with_reducible refine' s_bin ?V ?F ?e ?f ?_); k_extra "E"; (case f => exact rfl); k_whole) | ((with_reducible refine' s_binL ?V ?F ?e ?_); k_extra "E"; k_whole))))
  (k_with "isTrue Compare" => (k_here; k_extra "D"; k_dflt (first | ((with_reducible refine' s_cmp ?V ?F ?e ?f ?h ?_); k_extra "E"; (case f => exact rfl); (case h => with_unfolding_all rfl); k_whole) | ((with_reducible refine' s_cmpL ?V ?F ?e ?h ?_); k_extra "E"; (case h => with_unfolding_all rfl); k_whole))))
  (k_with "eval Subscript" => (k_here; k_extra "D"; k_dflt (first | ((with_reducible refine' s_sub ?V ?F ?e ?f ?_); k_extra "E"; (case f => exact rfl); k_whole) | ((with_reducible refine' s_subL ?V ?F ?e ?_); k_extra "E"; k_whole))))
  (k_with "eval List" => (k_here; k_extra "D"; k_dflt (first | ((with_reducible refine' s_list ?V ?F ?e ?_); k_extra "E"; k_whole))))
  (k_with "eval Tuple" => (k_here; k_extra "D"; k_dflt (first | ((with_reducible refine' s_tuple ?V ?F ?e ?_); k_extra "E"; k_whole))))
  (k_with "exec Return some" => (k_here; k_extra "D"; k_dflt (first | ((with_reducible refine' s_ret ?V ?F ?e ?_); k_extra "E"; k_whole))))
  (k_with "eval Attribute Name" => (k_here; k_extra "D"; k_dflt (first | ((with_reducible refine' s_attr ?V ?F ?e ?_ ?h); k_extra "E"; (case h => with_unfolding_all rfl); k_whole))))
  (k_with "execs cons" => (k_here; k_extra "D"; k_dflt (first | k_gentoks | ((with_reducible refine' c_asgS ?V ?F ?N ?e ?x ?_ ?h); k_extra "E"; (case N => k_asm); (case x => exact rfl); (case h => exact rfl); k_whole; k_extra "S") | ((with_reducible refine' c_asg ?_ ?h); (case h => exact rfl); k_whole; (try refine (let qk8q : Value → Shared → Prop := _; (?_ : wpAny _ _ _ qk8q _ _)))) | ((with_reducible refine' c_retS ?V ?F ?e ?_); k_extra "E"; k_whole) | (with_reducible refine c_ret ?_))))
  (k_with "storeName" => (k_here; k_extra "D"; k_dflt (first | ((with_reducible refine' c_store ?V ?F ?N ?x ?_); k_extra "E0"; (case N => k_asm); (case x => exact rfl); k_whole; k_extra "S"))))
  (k_with "newList" => (k_here; k_extra "D"; k_dflt (first | ((with_reducible refine' c_newList ?F ?N ?_ ?z); (case F => k_asm); (case N => k_asm); (case z => size_fits); k_extra "A"))))
  (k_with "newTuple" => (k_here; k_extra "D"; k_dflt (first | ((with_reducible refine' c_newTuple ?F ?N ?_ ?z); (case F => k_asm); (case N => k_asm); (case z => kmk_size); k_extra "A"))))
  (k_with "binaryOp Mult int int" => (k_here; k_extra "D"; k_dflt (first | ((with_reducible refine' c_mul ?_ ?z); (case z => mul_fits)))))
  (k_with "binaryOp Add int int" => (k_here; k_extra "D"; k_dflt (first | (with_reducible refine c_add ?_))))
  (k_with "binaryOp Sub int int" => (k_here; k_extra "D"; k_dflt (first | (with_reducible refine c_sub ?_))))
  (k_with "unaryOp USub int" => (k_here; k_extra "D"; k_dflt (first | (with_reducible refine c_neg ?_))))
  (k_with "callWith ref" => (k_here; k_extra "D"; k_dflt (first | ((with_reducible refine' s_with ?V ?F ?X ?k ?e ?_); k_extra "E"; (case X => k_asm); (case k => k_is); k_whole))))
  (k_with "eval Call" => (k_here; k_extra "D"; k_dflt (first | ((with_reducible refine' s_call ?V ?F ?X ?T ?n ?x ?d ?k ?e ?_ ?h); k_extra "E"; (case x => exact rfl); (case X => k_asm); (case T => k_asm); (case d => decide); (case n => k_is); (case k => k_is); (case h => exact rfl); k_whole))))
  (k_with "eval Name" => (k_here; k_extra "D"; k_dflt (first | ((with_reducible refine' s_val ?V ?F ?e ?_); k_extra "E"; k_whole))))
  (k_with "ktr_enter" => first
  | (refine' codeG ?k1 ?k2 ?k3 ?k4 ?k5 ?kA ?kF ?kK ?k6 ?k7 ?k8 ?k9 ?kB ?_ ?c2 ?c3 ?c4 ?c5; (case kA => exact rfl); (case kF => exact rfl); (case kK => assumption); (case k1 => first | k_asm | exact topb_of rfl rfl (by k_asm)); (case k2 => k_asm); (case k3 => k_asm); (case k4 => k_asm); (case k5 => k_asm); (case k6 => k_is); (case k7 => k_is); (case k8 => (k_extra "rm")); (case k9 => first | exact BindsTo.of_eq rfl | exact binds_K (by k_in) rfl (by k_is) rfl rfl rfl); (case c5 => decide); (case kB => exact locs rfl); (case c2 => exact rfl); (case c3 => exact rfl); (case c4 => exact rfl); k_whole; intro g'9q L'9q h'9q tk'9q st'9q FG'9q F'9q N'9q B'9q X'9q T'9q l1'9q; (try dsimp only); (try k_fold)))
  (k_with "k_inst" => exact inst_base (by k_asm) (by assumption) (by assumption))
  (k_with "getMethod ref" => (k_here; (with_reducible show wpAny _ _ (getMethod (Value.ref _) (Str.ofString "get") _) _ _ _); k_dflt (refine sd_method (SDict.base (by k_asm) (by assumption)) ?_)))
  (k_with "call builtin:dict.get" => (k_here; (with_reducible show wpAny _ _ (call (Value.builtin "dict.get") [Value.ref _, Value.str _ _]) _ _ _); k_dflt (first
  | (refine sd_get1s (SDict.base (by k_asm) (by assumption)) (by assumption) ?_; intro t'9q)
  | (refine sd_get1n (SDict.base (by k_asm) (by assumption)) (by assumption) ?_)
  | (refine sd_get1 (SDict.base (by k_asm) (by assumption)) (fun hg09q => ?_) (fun v'9q t'9q hg19q => ?_)))))
  (k_with "k_room" => (k_extra "rm"))
  (k_with "subscriptTail" => (k_here; (with_reducible show wpAny _ _ (subscriptTail _ _ (Value.ref _) (Value.str _ _)) _ _ _); k_dflt (refine sd_item (SDict.base (by k_asm) (by assumption)) (by assumption) ?_); intro t'9q))
  (k_with "call ref" => (k_here; (with_reducible show wpAny _ _ (call (Value.ref _) _) _ _ _); (try k_fold); k_dflt (refine' spec_use0 ?S ?k1 ?k2 ?k3 ?k4 ?k5 ?kK ?kP ?kd ?ku ?_; (case S => assumption); (case k1 => first | k_asm | exact topb_of rfl rfl (by k_asm)); (case k2 => k_asm); (case k3 => k_asm); (case k4 => k_asm); (case k5 => k_asm); (case kK => exact rfl); (case kP => first | exact trivial | exact ElOf.base (by k_asm) (by assumption)); (case kd => (k_extra "rm")); (case ku => (k_extra "un"))); intro r'9q tl'9q h'9q tk'9q F'9q N'9q fr'9q st'9q hR'9q; (try dsimp only at hR'9q)))
  (k_with "k_mem" => ((show _ ∈ (_ ++ _ : List (Addr × Obj))); first | (refine List.mem_append_right _ ?_; k_mem) | (refine List.mem_append_left _ ?_; k_mem)))
  (k_with "call builtin:dict.get" => (k_here; (with_reducible show wpAny _ _ (call (Value.builtin "dict.get") [Value.ref _, Value.str _ _, Value.str _ _]) _ _ _); k_dflt (refine sd_get2L (SDict.base (by k_asm) (by assumption)) (by first | assumption | decide) ?_); intro t'9q hlen'9q))
  unfold Spec
  k_fill
  intro dp un gd cn cs a' ccd cl outer A₀ base h₀ L m s Q E B F X N T hk hP hd hu hret
  refine wpAny_call ?_
  k_dflt ktr_enter
  first | refine (let ak : Around := _; let nk : Env := _; let sg9 : Array GenState := _; let sd9 : Drawn := _; let so9 : OsState := _; (?_ : wpAny _ ak (execs _ nk) _ _ (Shared.mk _ sg9 sd9 _ so9))) | refine (let ak : Around := _; let nk : Env := _; (?_ : wpAny _ ak (execs _ nk) _ _ _))
  try (have TB9 : TopB ak _ _ (dp + 1) (un + 3) := topb_of rfl rfl (by assumption))
  try (have FE9 : FnE nk L'9q := ⟨rfl, rfl, rfl⟩)
  try (rename Fr _ _ _ (fun y => List.lookup y (List.reverse _)) => FX9; replace FX9 := fr_binds [(Str.ofString "element", (v : Value))] rfl FX9)
  rename Stood _ _ _ => st
  replace hP := hP.mono fun a o e => st a o e (fun h => nomatch h)
  cases hP
  (k_extra "st")
  all_goals exact spec_ret0 hret st (by assumption) (by assumption) (by assumption) (by assumption) [] (fun _ h => nomatch h) ⟨rfl, rfl⟩
theorem idsAre_at {w : World} {G : Addr → Obj → Prop} {kvs : List (Str × Value)} {ids : List (Str × El)} (h : IdsAre w G kvs ids) (k : Str) :
    (ids.lookup k = none ∧ valueAt kvs k = none) ∨ ∃ v e, ids.lookup k = some e ∧ valueAt kvs k = some v ∧ ElOf w G v e := by
  induction h with
  | nil => exact .inl ⟨rfl, rfl⟩
  | @cons k' v' e' kvs ids hE _ ih =>
    unfold valueAt at ih ⊢
    rw [List.lookup_cons, List.find?_cons]
    by_cases hk : k = k'
    · subst hk; right; exact ⟨v', e', by simp, by simp, hE⟩
    · have h1 : (k == k') = false := beq_eq_false_iff_ne.mpr hk
      have h2 : decide (k' = k) = false := decide_eq_false fun e => hk e.symm
      simp only [h1, h2]
      exact ih
section
variable {w : World} {A : Around} {E : Value → Shared → Prop} {s : Shared} {d : Addr} {ids : List (Str × El)} {k : Str} {t : Tok} {G : Addr → Obj → Prop}
theorem ids_notinY {Q : Value → Shared → Prop} (D : IdsOf w G d ids) (hG : ∀ a o, G a o → s.heap.get? a = some o) (hl : ids.lookup k = none) (h : Q (.bool true) { s with toks := s.toks + 1 }) :
    wpAny (model PG w) A (compareOp .NotIn (.str k t) (.ref d)) Q E s := by
  k_extra "gn"; (obtain ⟨o, kvs, hp, hd, hA, lo, _⟩ := D) <;> k_unfold
  refine wpAny_notIn_of (strKind_is PG w k t) lo (Heap.dictOf_iff.mpr ⟨o, hG _ _ hp, hd⟩ : s.heap.DictOf _ _ _).mapOf ?_
  k_extra "gn"; (rcases idsAre_at hA k with ⟨a, b⟩ | ⟨v, e, a, b, _⟩) <;> k_unfold
  · rw [b]; exact h
  · rw [hl] at a; cases a
theorem ids_notinN {e : El} {Q : Value → Shared → Prop} (D : IdsOf w G d ids) (hG : ∀ a o, G a o → s.heap.get? a = some o) (hl : ids.lookup k = some e) (h : Q (.bool false) { s with toks := s.toks + 1 }) :
    wpAny (model PG w) A (compareOp .NotIn (.str k t) (.ref d)) Q E s := by
  k_extra "gn"; (obtain ⟨o, kvs, hp, hd, hA, lo, _⟩ := D) <;> k_unfold
  refine wpAny_notIn_of (strKind_is PG w k t) lo (Heap.dictOf_iff.mpr ⟨o, hG _ _ hp, hd⟩ : s.heap.DictOf _ _ _).mapOf ?_
  k_extra "gn"; (rcases idsAre_at hA k with ⟨a, b⟩ | ⟨v, e, a, b, _⟩) <;> k_unfold
  · rw [hl] at a; cases a
  · rw [b]; exact h
theorem ids_item {e : El} {value slice : PySem.Expr} {Q : Value → Shared → Prop} (D : IdsOf w G d ids) (hG : ∀ a o, G a o → s.heap.get? a = some o) (hv : ids.lookup k = some e) (h : ∀ v, ElOf w G v e → Q v { s with toks := s.toks + 1 })
    (hs : subscripted slice false (.ref d) (.str k t) = operate [.ref d, .str k t] (getItem (.ref d) (.str k t)) := by with_unfolding_all rfl) (hg : ∀ r, letTemporaryGo value (.ref d) r = pure () := by intro _; with_unfolding_all rfl) :
    wpAny (model PG w) A (subscriptTail value slice (.ref d) (.str k t)) Q E s := by
  k_extra "gn"; (obtain ⟨o, kvs, hp, hd, hA, lo, _⟩ := D) <;> k_unfold
  have hD := (Heap.dictOf_iff.mpr ⟨o, hG _ _ hp, hd⟩ : s.heap.DictOf _ _ _)
  k_extra "gn"; (rcases idsAre_at hA k with ⟨a, b⟩ | ⟨v, e', a, b, hE⟩) <;> k_unfold
  · rw [hv] at a; cases a
  · rw [hv] at a; cases a
    exact subscriptTail_builtin hD.typeIs slot_dict_getitem.lookup (wpAny_getItem_of (strKind_is PG w k t) hD.mapOf b (h v hE)) hs hg
theorem strsAre_len : ∀ {vs : List Value} {ns : List Str}, StrsAre vs ns → vs.length = ns.length
  | _, _, .nil => rfl
  | _, _, .cons _ _ h => by rw [List.length_cons, List.length_cons, strsAre_len h]
theorem strsAre_snoc (x : Str) (u : Tok) : ∀ {vs : List Value} {ns : List Str}, StrsAre vs ns → StrsAre (vs ++ [.str x u]) (ns ++ [x])
  | _, _, .nil => .cons x u .nil
  | _, _, .cons y t h => .cons y t (strsAre_snoc x u h)
theorem tup_isTup {ns : List Str} {q : Addr} (hT : TupS G q ns) (hG : ∀ a o, G a o → s.heap.get? a = some o) : ∃ vs : List Value, IsTup s.heap q vs.toArray ∧ StrsAre vs ns ∧ ns.length ≤ 20 := by
  k_extra "gn"; (obtain ⟨vs, n, h1, h2, h3⟩ := hT) <;> k_unfold
  exact ⟨vs, ⟨_, hG _ _ h1, rfl, n, rfl⟩, h2, h3⟩
theorem tup_in {ns : List Str} {q : Addr} {Q : Value → Shared → Prop} (hT : TupS G q ns) (hG : ∀ a o, G a o → s.heap.get? a = some o) (b : Bool) (e : ns.any (· == k) = b) (h : Q (.bool b) s) : wpAny (model PG w) A (compareOp .In (.str k t) (.ref q)) Q E s := by
  k_extra "gn"; (obtain ⟨vs, h1, h2, _⟩ := tup_isTup hT hG) <;> k_unfold
  subst e
  exact in_tuple_strs h1 h2 h
theorem tup_len {ns : List Str} {q : Addr} {Q : Value → Shared → Prop} (hT : TupS G q ns) (hG : ∀ a o, G a o → s.heap.get? a = some o) (h : Q (.int (ns.length : Int) (s.toks + 1)) { s with toks := s.toks + 1 + 1 }) : wpAny (model PG w) A (call (.builtin "len") [.ref q]) Q E s := by
  k_extra "gn"; (obtain ⟨vs, h1, h2, h3⟩ := tup_isTup hT hG) <;> k_unfold
  refine kun_lenT h1 ?_ (by omega) h
  rw [List.size_toArray, strsAre_len h2]
theorem tup_add {h₀ : Heap} {L : Addr} {m : Str → Option Value} {news : List (Addr × Obj)} {ns : List Str} {q b : Addr} {Q : Value → Shared → Prop} (F : Fr h₀ L s.heap m) (N : News h₀ L s.heap news) (hT : TupS G q ns) (hG : ∀ a o, G a o → s.heap.get? a = some o) (hl : ns.length ≤ 19)
    (hb : (b, ({ cls := .type "tuple", data := .seq #[.str k t] } : Obj)) ∈ news)
    (h : ∀ D h' tl, Fr h₀ L h' m → News h₀ L h' (tl ++ news) → (∀ p ∈ tl, s.heap.get? p.1 = none) → TupS (LG (tl ++ news)) D (ns ++ [k]) → Q (.ref D) { s with heap := h' }) : wpAny (model PG w) A (binaryOp .Add (.ref q) (.ref b)) Q E s := by
  k_extra "gn"; (obtain ⟨vs, h1, h2, h3⟩ := tup_isTup hT hG) <;> k_unfold
  have hb' : IsTup s.heap b #[.str k t] := ⟨_, (N _ hb).1, rfl, _, rfl⟩
  have hlen := strsAre_len h2
  by_cases hv : vs = []
  · subst hv
    cases h2
    exact kde_addT0 F N h1 hb' rfl (Nat.le_of_ble_eq_true rfl) (h b s.heap [] F N (fun _ h => nomatch h) ⟨_, _, hb, (.cons k t .nil), Nat.le_of_ble_eq_true rfl⟩)
  · have e2 : (#[Value.str k t] : Array Value).toList = [Value.str k t] := rfl
    refine add_tuples F N h1 (by rw [← e2] at hb'; exact hb') (fun q => absurd q hv) (fun _ q => absurd q (List.cons_ne_nil _ _)) (fun _ _ h' F' N' => ?_) (by rw [sizeLine_eq]; simp; omega)
    refine h _ h' [(_, _)] F' N' (fun p hp => ?_) ⟨_, _, .head _, strsAre_snoc k t h2, by rw [List.length_append]; simp; omega⟩
    rw [List.mem_singleton.mp hp]
    exact Heap.get?_none_of_le (Nat.le_refl _)
end
theorem spec_weak {w : World} {mean : ExcName → Option Value} {mg mb : Str → Option Value} {f : Addr} {vs : List Value} {led : List (Addr × Obj)} {k k' : Nat} {P P' : Heap → Prop} {R R' : Value → List (Addr × Obj) → List (Addr × Obj) → Prop}
    (S : Spec w mean mg mb f vs led k P R) (hk : k ≤ k') (hP : ∀ h, P' h → P h) (hR : ∀ r l tl, R r l tl → R' r l tl) : Spec w mean mg mb f vs led k' P' R' := by
  intro dp un gd cn cs a ccd cl outer A₀ base h₀ L m s Q E B F X N T hkf hp hd hu ret
  exact S dp un gd cn cs a ccd cl outer A₀ base h₀ L m s Q E B F X N T hkf (hP _ hp) (by omega) (by omega) fun r tl led' h' tk' a1 a2 a3 a4 a5 a6 => ret r tl led' h' tk' a1 a2 a3 a4 a5 (hR _ _ _ a6)
theorem pspec_weak {w : World} {mean : ExcName → Option Value} {mg mb : Str → Option Value} {f : Addr} {vs : List Value} {led : List (Addr × Obj)} {k k' : Nat} {P P' : Heap → Prop} {R R' : Value → List (Addr × Obj) → List (Addr × Obj) → Prop} {Y Y' : Addr → List (Addr × Obj) → Prop}
    (S : PSpec w mean mg mb f vs led k P R Y) (hk : k ≤ k') (hP : ∀ h, P' h → P h) (hR : ∀ r l tl, R r l tl → R' r l tl) (hY : ∀ C l, Y C l → Y' C l) : PSpec w mean mg mb f vs led k' P' R' Y' := by
  intro dp un gd cn cs a ccd cl outer A₀ base h₀ L m s Q E B F X N T hkf hp hd hu ret exc
  exact S dp un gd cn cs a ccd cl outer A₀ base h₀ L m s Q E B F X N T hkf (hP _ hp) (by omega) (by omega) (fun r tl led' h' tk' a1 a2 a3 a4 a5 a6 => ret r tl led' h' tk' a1 a2 a3 a4 a5 (hR _ _ _ a6)) fun e C led' h' tk' a1 a2 => exc e C led' h' tk' (hY _ _ a1) a2
theorem framed_any (w : World) (mean : ExcName → Option Value) (mg mb : Str → Option Value) (G : Addr → Obj → Prop) (ev tv : Value) (ename etext : Str) (ea : List (Str × Str)) (ekids : List El) (target fe : El) (hf : framedE ea target = some fe) :
  Spec w mean mg mb 303 [ev, tv] [] 5 (fun h => Sub G h ∧ ElOf w G ev (.mk ename ea ekids etext) ∧ ElOf w G tv target) (fun r _ tl => ElOf w (GU G tl) r fe) := by
  intro dp un gd cn cs a ccd cl outer A₀ base h₀ L m s Q E B F X N T hkf hp hd hu ret
  obtain ⟨hG, hE, hT⟩ := id hp
  k_extra "gn"; (obtain ⟨tname, ta, tk, tt⟩ := target) <;> k_unfold
  simp only [framedE] at hf
  split at hf
  case isTrue hn =>
    cases hf
    cases hE with | mk e1 e2 e3 e4 e5 e6 =>
    refine spec_weak (framed_plain w mean mg mb G _ tv tname tt ta tk hn) (by decide) (P' := fun h => Sub G h ∧ _) (fun h q => q) (fun r l tl q => ?_) dp un gd cn cs a ccd cl outer A₀ base h₀ L m s Q E B F X N T hkf ⟨hG, hT⟩ hd hu ret
    obtain ⟨rfl, rfl⟩ := q
    exact hT.mono fun a o z => .inl z
  case isFalse hn =>
    split at hf
    case isTrue hs =>
      cases hf
      obtain ⟨rfl, hl⟩ := hs
      exact framed_symbol w mean mg mb G ev tv ename etext tt ea ta ekids tk hl dp un gd cn cs a ccd cl outer A₀ base h₀ L m s Q E B F X N T hkf hp hd hu ret
    case isFalse => cases hf
theorem keepG {g h : Heap} {L : Addr} {m : Str → Option Value} {G : Addr → Obj → Prop} (F : Fr g L h m) (hg : ∀ a o, G a o → g.get? a = some o) : ∀ a o, G a o → h.get? a = some o := fun a o q => F.keep a o (hg a o q)
theorem linkE_some {as : List (Str × Str)} {nm : Str} (h : linkE as = some (some nm)) : ∃ hr, (hr, nm) ∈ ([("#r", "r"), ("#k", "k"), ("#s", "s"), ("#p", "p"), ("#q", "q")] : List (Str × Str)) ∧ (List.lookup (Str.ofString "href") as = some hr ∨ (List.lookup (Str.ofString "href") as = none ∧ List.lookup (Str.ofString "xlink:href") as = some hr)) := by
  k_with_none
  w_top off
  (k_with "an" => (first | assumption | exact And.left (by assumption) | exact And.left (And.right (by assumption)) | exact And.left (And.right (And.right (by assumption))) | exact And.left (And.right (And.right (And.right (by assumption)))) | exact And.left (And.right (And.right (And.right (And.right (by assumption))))) | exact And.left (And.right (And.right (And.right (And.right (And.right (by assumption)))))) | exact And.left (And.right (And.right (And.right (And.right (And.right (And.right (by assumption))))))) | exact And.left (And.right (And.right (And.right (And.right (And.right (And.right (And.right (by assumption)))))))) | exact And.left (And.right (And.right (And.right (And.right (And.right (And.right (And.right (And.right (by assumption)))))))))))
  (k_with "k_ne" => (refine neN ?_; (try dsimp only); first | (refine Nat.ne_of_lt ?_; k_extra "an") | (refine Nat.ne_of_gt ?_; k_extra "an")))
  (k_with "sub" => (first | assumption | (refine List.mem_append_left _ ?_; k_extra "sub") | (refine List.mem_append_right _ ?_; k_extra "sub") | (refine List.Mem.tail _ ?_; k_extra "sub")))
  (k_with "rm" => (first | exact room_of 1 rfl (by assumption) rfl | exact room_of 0 rfl (by assumption) rfl | exact room_of1 1 rfl (by assumption) rfl | exact room_of1 0 rfl (by assumption) rfl | ktr_room))
  (k_with "un" => (first | exact units_of 3 rfl (by assumption) rfl | exact units_of 4 rfl (by assumption) rfl | exact units_of 0 rfl (by assumption) rfl | ktr_units))
  (k_with "gn" => refine (let P9 : Prop := _; (?_ : P9)))
  (k_with "st" => (repeat' (first | ((with_reducible show wpAny _ _ (PySem.exec _ _) _ _ _); k_fold) | ((fail_if_success (fail_if_success k_unfold)); (show wpAny _ _ _ _ _ _); (try dsimp only)) | (k_unfold; (try dsimp only)) | (k_end; wrow_close) | walk1 | (dsimp only; walk1) | (leave1; walk_say "STEP leave1"; try dsimp only) | fail "no step")))
  (k_with "D" => try ((with_reducible show wpAny _ _ _ _ _ (Shared.mk (Shared.heap _) _ _ _ _)); dsimp only))
  (k_with "E0" => ((case F => k_asm); (case V => first | assumption | exact ⟨rfl, rfl, rfl⟩)))
  (k_with "E" => (k_extra "E0"; (case e => exact rfl)))
  (k_with "S" => (intro h'8q tk'8q F'8q N'8q; (try k_sweep)))
  (k_with "A" => (intro l'8q h'8q F'8q N'8q l18q; (try k_lt l18q); (try k_sweep)))
  (k_with "spliced" => (k_here; k_extra "D"; k_dflt (first | ((with_reducible refine' s_args ?V ?F ?e ?_); k_extra "E"; k_whole; (try dsimp only [List.cons_append, List.nil_append])))))
  (k_with "evalPairs" => (k_here; k_extra "D"; k_dflt (first | ((with_reducible refine' s_pair ?V ?F ?e ?f ?_); k_extra "E"; (case f => exact rfl); k_whole))))
  (k_with "eval BinOp" => (k_here; k_extra "D"; k_dflt (first | ((with_reducible refine' s_bin ?V ?F ?e ?f ?_); k_extra "E"; (case f => exact rfl); k_whole) | ((with_reducible refine' s_binL ?V ?F ?e ?_); k_extra "E"; k_whole))))
  (k_with "isTrue Compare" => (k_here; k_extra "D"; k_dflt (first | ((with_reducible refine' s_cmp ?V ?F ?e ?f ?h ?_); k_extra "E"; (case f => exact rfl); (case h => with_unfolding_all rfl); k_whole) | ((with_reducible refine' s_cmpL ?V ?F ?e ?h ?_); k_extra "E"; (case h => with_unfolding_all rfl); k_whole))))
  (k_with "eval Subscript" => (k_here; k_extra "D"; k_dflt (first | ((with_reducible refine' s_sub ?V ?F ?e ?f ?_); k_extra "E"; (case f => exact rfl); k_whole) | ((with_reducible refine' s_subL ?V ?F ?e ?_); k_extra "E"; k_whole))))
  (k_with "eval List" => (k_here; k_extra "D"; k_dflt (first | ((with_reducible refine' s_list ?V ?F ?e ?_); k_extra "E"; k_whole))))
  (k_with "eval Tuple" => (k_here; k_extra "D"; k_dflt (first | ((with_reducible refine' s_tuple ?V ?F ?e ?_); k_extra "E"; k_whole))))
  (k_with "exec Return some" => (k_here; k_extra "D"; k_dflt (first | ((with_reducible refine' s_ret ?V ?F ?e ?_); k_extra "E"; k_whole))))
  (k_with "eval Attribute Name" => (k_here; k_extra "D"; k_dflt (first | ((with_reducible refine' s_attr ?V ?F ?e ?_ ?h); k_extra "E"; (case h => with_unfolding_all rfl); k_whole))))
  (k_with "execs cons" => (k_here; k_extra "D"; k_dflt (first | k_gentoks | ((with_reducible refine' c_asgS ?V ?F ?N ?e ?x ?_ ?h); k_extra "E"; (case N => k_asm); (case x => exact rfl); (case h => exact rfl); k_whole; k_extra "S") | ((with_reducible refine' c_asg ?_ ?h); (case h => exact rfl); k_whole; (try refine (let qk8q : Value → Shared → Prop := _; (?_ : wpAny _ _ _ qk8q _ _)))) | ((with_reducible refine' c_retS ?V ?F ?e ?_); k_extra "E"; k_whole) | (with_reducible refine c_ret ?_))))
  (k_with "storeName" => (k_here; k_extra "D"; k_dflt (first | ((with_reducible refine' c_store ?V ?F ?N ?x ?_); k_extra "E0"; (case N => k_asm); (case x => exact rfl); k_whole; k_extra "S"))))
  (k_with "newList" => (k_here; k_extra "D"; k_dflt (first | ((with_reducible refine' c_newList ?F ?N ?_ ?z); (case F => k_asm); (case N => k_asm); (case z => size_fits); k_extra "A"))))
  (k_with "newTuple" => (k_here; k_extra "D"; k_dflt (first | ((with_reducible refine' c_newTuple ?F ?N ?_ ?z); (case F => k_asm); (case N => k_asm); (case z => kmk_size); k_extra "A"))))
  (k_with "binaryOp Mult int int" => (k_here; k_extra "D"; k_dflt (first | ((with_reducible refine' c_mul ?_ ?z); (case z => mul_fits)))))
  (k_with "binaryOp Add int int" => (k_here; k_extra "D"; k_dflt (first | (with_reducible refine c_add ?_))))
  (k_with "binaryOp Sub int int" => (k_here; k_extra "D"; k_dflt (first | (with_reducible refine c_sub ?_))))
  (k_with "unaryOp USub int" => (k_here; k_extra "D"; k_dflt (first | (with_reducible refine c_neg ?_))))
  (k_with "callWith ref" => (k_here; k_extra "D"; k_dflt (first | ((with_reducible refine' s_with ?V ?F ?X ?k ?e ?_); k_extra "E"; (case X => k_asm); (case k => k_is); k_whole))))
  (k_with "eval Call" => (k_here; k_extra "D"; k_dflt (first | ((with_reducible refine' s_call ?V ?F ?X ?T ?n ?x ?d ?k ?e ?_ ?h); k_extra "E"; (case x => exact rfl); (case X => k_asm); (case T => k_asm); (case d => decide); (case n => k_is); (case k => k_is); (case h => exact rfl); k_whole))))
  (k_with "eval Name" => (k_here; k_extra "D"; k_dflt (first | ((with_reducible refine' s_val ?V ?F ?e ?_); k_extra "E"; k_whole))))
  (k_with "ktr_enter" => first
  | (refine' codeG ?k1 ?k2 ?k3 ?k4 ?k5 ?kA ?kF ?kK ?k6 ?k7 ?k8 ?k9 ?kB ?_ ?c2 ?c3 ?c4 ?c5; (case kA => exact rfl); (case kF => exact rfl); (case kK => assumption); (case k1 => first | k_asm | exact topb_of rfl rfl (by k_asm)); (case k2 => k_asm); (case k3 => k_asm); (case k4 => k_asm); (case k5 => k_asm); (case k6 => k_is); (case k7 => k_is); (case k8 => (k_extra "rm")); (case k9 => first | exact BindsTo.of_eq rfl | exact binds_K (by k_in) rfl (by k_is) rfl rfl rfl); (case c5 => decide); (case kB => exact locs rfl); (case c2 => exact rfl); (case c3 => exact rfl); (case c4 => exact rfl); k_whole; intro g'9q L'9q h'9q tk'9q st'9q FG'9q F'9q N'9q B'9q X'9q T'9q l1'9q; (try dsimp only); (try k_fold)))
  (k_with "k_inst" => exact inst_base (by k_asm) (by assumption) (by assumption))
  (k_with "getMethod ref" => (k_here; (with_reducible show wpAny _ _ (getMethod (Value.ref _) (Str.ofString "get") _) _ _ _); k_dflt (refine sd_method (SDict.base (by k_asm) (by assumption)) ?_)))
  (k_with "call builtin:dict.get" => (k_here; (with_reducible show wpAny _ _ (call (Value.builtin "dict.get") [Value.ref _, Value.str _ _]) _ _ _); k_dflt (first
  | (refine sd_get1s (SDict.base (by k_asm) (by assumption)) (by assumption) ?_; intro t'9q)
  | (refine sd_get1n (SDict.base (by k_asm) (by assumption)) (by assumption) ?_)
  | (refine sd_get1 (SDict.base (by k_asm) (by assumption)) (fun hg09q => ?_) (fun v'9q t'9q hg19q => ?_)))))
  (k_with "k_room" => (k_extra "rm"))
  (k_with "subscriptTail" => (k_here; (with_reducible show wpAny _ _ (subscriptTail _ _ (Value.ref _) (Value.str _ _)) _ _ _); k_dflt (refine sd_item (SDict.base (by k_asm) (by assumption)) (by assumption) ?_); intro t'9q))
  (k_with "call ref" => (k_here; (with_reducible show wpAny _ _ (call (Value.ref _) _) _ _ _); (try k_fold); k_dflt (refine' spec_use0 ?S ?k1 ?k2 ?k3 ?k4 ?k5 ?kK ?kP ?kd ?ku ?_; (case S => assumption); (case k1 => first | k_asm | exact topb_of rfl rfl (by k_asm)); (case k2 => k_asm); (case k3 => k_asm); (case k4 => k_asm); (case k5 => k_asm); (case kK => exact rfl); (case kP => first | exact trivial | exact ElOf.base (by k_asm) (by assumption)); (case kd => (k_extra "rm")); (case ku => (k_extra "un"))); intro r'9q tl'9q h'9q tk'9q F'9q N'9q fr'9q st'9q hR'9q; (try dsimp only at hR'9q)))
  (k_with "k_mem" => ((show _ ∈ (_ ++ _ : List (Addr × Obj))); first | (refine List.mem_append_right _ ?_; k_mem) | (refine List.mem_append_left _ ?_; k_mem)))
  (k_with "call builtin:dict.get" => (k_here; (with_reducible show wpAny _ _ (call (Value.builtin "dict.get") [Value.ref _, Value.str _ _, Value.str _ _]) _ _ _); k_dflt (refine sd_get2L (SDict.base (by k_asm) (by assumption)) (by first | assumption | decide) ?_); intro t'9q hlen'9q))
  (k_with "k_inst" => exact inst_led (by k_asm) (by k_asm) (by assumption) (by k_mem))
  (k_with "ite" => (first | with_reducible refine ite_ff ?_ | with_reducible refine ite_tt ?_ | refine ite_dt (by assumption) ?_ | refine ite_df (by assumption) ?_))
  (k_with "exec Raise some none" => (k_here; k_dflt (refine raise_err (by rfl) ?_)))
  (k_with "call ref" => (k_here; (with_reducible show wpAny _ _ (call (Value.ref 89) _) _ _ _); (try k_fold); k_dflt (refine err_call (.inr rfl) (by k_asm) (by k_asm) (by k_asm) (by k_asm) (by k_asm) rfl (by (k_extra "rm")) (by (k_extra "un")) ?_); intro e'9q t0'9q h'9q tk'9q o1'9q F'9q N'9q hf'9q he'9q hc'9q hd'9q hk'9q))
  (k_with "call ref" => (k_here; (with_reducible show wpAny _ _ (call (Value.ref 77) _) _ _ _); (try k_fold); k_dflt (refine err_call (.inl rfl) (by k_asm) (by k_asm) (by k_asm) (by k_asm) (by k_asm) rfl (by (k_extra "rm")) (by (k_extra "un")) ?_); intro e'9q t0'9q h'9q tk'9q o1'9q F'9q N'9q hf'9q he'9q hc'9q hd'9q hk'9q))
  (k_with "call ref" => (k_here; (with_reducible show wpAny _ _ (call (Value.ref 21) _) _ _ _); (try k_fold); k_dflt ((refine' use_is (link_none _ _ _ _ _ _ _ _ _ (by assumption) (by assumption)) ?k1 ?k2 ?k3 ?k4 ?k5 ?kK ?kP ?kd ?ku ?_; (case k1 => first | k_asm | exact topb_of rfl rfl (by k_asm)); (case k2 => k_asm); (case k3 => k_asm); (case k4 => k_asm); (case k5 => k_asm); (case kK => exact rfl); (case kP => (exact ElOf.base (by k_asm) (by assumption))); (case kd => (k_extra "rm")); (case ku => (k_extra "un")))); intro h'9q tk'9q F'9q N'9q; (try dsimp only)))
  (k_with "call ref" => (k_here; (with_reducible show wpAny _ _ (call (Value.ref 21) _) _ _ _); (try k_fold); k_dflt ((refine' use_strL (link_spec _ _ _ _ _ _ _ _ _ _ _ (by assumption) (by assumption)) ?k1 ?k2 ?k3 ?k4 ?k5 ?kK ?kP ?kd ?ku ?_; (case k1 => first | k_asm | exact topb_of rfl rfl (by k_asm)); (case k2 => k_asm); (case k3 => k_asm); (case k4 => k_asm); (case k5 => k_asm); (case kK => exact rfl); (case kP => (exact ElOf.base (by k_asm) (by assumption))); (case kd => (k_extra "rm")); (case ku => (k_extra "un")))); intro t'9q h'9q tk'9q F'9q N'9q; (try dsimp only)))
  (k_with "call ref" => (k_here; (with_reducible show wpAny _ _ (call (Value.ref 303) _) _ _ _); (try k_fold); k_dflt ((refine' spec_use0 (framed_any _ _ _ _ _ _ _ _ _ _ _ _ _ (by assumption)) ?k1 ?k2 ?k3 ?k4 ?k5 ?kK ?kP ?kd ?ku ?_; (case k1 => first | k_asm | exact topb_of rfl rfl (by k_asm)); (case k2 => k_asm); (case k3 => k_asm); (case k4 => k_asm); (case k5 => k_asm); (case kK => exact rfl); (case kP => (exact ⟨keepG (by k_asm) (by assumption), by assumption, by assumption⟩)); (case kd => (k_extra "rm")); (case ku => (k_extra "un")))); intro r'9q tl'9q h'9q tk'9q F'9q N'9q fr'9q st'9q hR'9q; (try dsimp only)))
  (k_with "compareOp NotIn str ref" => (k_here; k_dflt (first
  | refine ids_notinY (by assumption) (keepG (by k_asm) (by assumption)) (by assumption) ?_
  | refine ids_notinN (by assumption) (keepG (by k_asm) (by assumption)) (by assumption) ?_)))
  (k_with "compareOp In str ref" => (k_here; k_dflt (refine tup_in (by assumption) (keepG (by k_asm) (by assumption)) _ (by assumption) ?_)))
  (k_with "call builtin:len" => (k_here; (with_reducible show wpAny _ _ (call (Value.builtin "len") [Value.ref _]) _ _ _); k_dflt (refine tup_len (by assumption) (keepG (by k_asm) (by assumption)) ?_)))
  (k_with "subscriptTail" => (k_here; (with_reducible show wpAny _ _ (subscriptTail _ _ (Value.ref _) (Value.str _ _)) _ _ _); k_dflt (refine ids_item (by assumption) (keepG (by k_asm) (by assumption)) (by assumption) ?_); intro v'9q hv'9q))
  (k_with "binaryOp Add ref ref" => (k_here; k_dflt (refine tup_add (by k_asm) (by k_asm) (by assumption) (keepG (by k_asm) (by assumption)) (by assumption) (by k_mem) ?_); intro D'9q h'9q tl'9q F'9q N'9q fr'9q hT'9q))
  unfold linkE at h
  split at h
  · rename_i v hv
    cases q : linksK.lookup v with
    | none => rw [q] at h; cases h
    | some x => rw [q] at h; cases h; exact ⟨v, lookup_mem q, .inl hv⟩
  · rename_i hv
    split at h
    · rename_i v hv2
      cases q : linksK.lookup v with
      | none => rw [q] at h; cases h
      | some x => rw [q] at h; cases h; exact ⟨v, lookup_mem q, .inr ⟨hv, hv2⟩⟩
    · cases h
theorem linkE_none {as : List (Str × Str)} (h : linkE as = some none) : List.lookup (Str.ofString "href") as = none ∧ List.lookup (Str.ofString "xlink:href") as = none := by
  unfold linkE at h
  split at h
  · rename_i v hv
    cases q : linksK.lookup v with
    | none => rw [q] at h; cases h
    | some x => rw [q] at h; cases h
  · rename_i hv
    split at h
    · rename_i v hv2
      cases q : linksK.lookup v with
      | none => rw [q] at h; cases h
      | some x => rw [q] at h; cases h
    · rename_i hv2; exact ⟨hv, hv2⟩
noncomputable abbrev GrpX (du di : Addr) (most made : Int) (C : Addr) (led' : List (Addr × Obj)) : Prop := ∃ o', led' = [(du, o')] ∧ UsesO o' di most made
theorem group_sheet (w : World) (mean : ExcName → Option Value) (mg mb : Str → Option Value) (ids : List (Str × El)) (most : Int) (G : Addr → Obj → Prop) (xu du di nm : Addr) (names : List Str) (v : Value) (name text : Str) (attrs : List (Str × Str)) (kids : List El) (o : Obj) (made : Int)
  (hl : linkE attrs = some none ∨ ∃ nmE, linkE attrs = some (some nmE) ∧ ids.lookup nmE = none) (hU : UsesO o di most made) :
    PSpec w mean mg mb 275 [.ref xu, v, .ref nm] [(du, o)] 6 (PutP w G xu du di nm ids names v (.mk name attrs kids text)) (fun _ _ _ => False) (fun C led' => C = 77 ∧ ∃ o', led' = [(du, o')] ∧ UsesO o' di most made) := by
  have hUU := hU
  k_extra "gn"; (obtain ⟨h1, h2, h3, t1, t2, t3, t4, t5, rfl⟩ := hU) <;> k_unfold
  unfold PSpec
  k_fill
  intro dp un gd cn cs a' ccd cl' outer A₀ base h₀ L m s Q E B F X N T hk hP hd hu hret hexc
  refine wpAny_call ?_
  k_dflt ktr_enter
  first | refine (let ak : Around := _; let nk : Env := _; let sg9 : Array GenState := _; let sd9 : Drawn := _; let so9 : OsState := _; (?_ : wpAny _ ak (execs _ nk) _ _ (Shared.mk _ sg9 sd9 _ so9))) | refine (let ak : Around := _; let nk : Env := _; (?_ : wpAny _ ak (execs _ nk) _ _ _))
  try (have TB9 : TopB ak _ _ (dp + 1) (un + 3) := topb_of rfl rfl (by assumption))
  try (have FE9 : FnE nk L'9q := ⟨rfl, rfl, rfl⟩)
  try (rename Fr _ _ _ (fun y => List.lookup y (List.reverse _)) => FX9; replace FX9 := fr_binds [(Str.ofString "self", (.ref xu : Value)), (Str.ofString "element", (v : Value)), (Str.ofString "names", (.ref nm : Value))] rfl FX9)
  rename Stood _ _ _ => st
  k_extra "gn"; (obtain ⟨hG, hxu, hids, hnm, hE⟩ := hP) <;> k_unfold
  have hG' : ∀ a o, G a o → _ := fun a o q => st a o (hG a o q).1 (by simpa using (hG a o q).2)
  have hx := hG' _ _ hxu
  have hE' : ElOf w (HG _) v _ := hE.mono hG'
  rename (∀ p ∈ [(_, _)], _ < _) => l1
  have hdl : @LT.lt Nat instLTNat _ _ := l1 _ (.head _)
  dsimp only at hdl
  clear l1
  rcases hl with hl | ⟨nmE, hl, hid⟩
  · obtain ⟨q1, q2⟩ := linkE_none hl
    clear hl
    (k_extra "st")
    rename (Heap.get? _ _ = none) => hnew
    rename (Heap.get? _ _ = some _) => he
    rename (Obj.cls _ = _) => hc
    rename (Obj.data _ = _) => hd2
    rename (∀ b o, Heap.get? _ b = some o → Heap.get? _ b = some o) => hk2
    refine ⟨_, _, _, 77, .inl rfl, Frag.In.keeps (by assumption) (Fr.keep (by assumption)), rfl, he, hc, hd2, ?_⟩
    rename News _ _ _ _ => Nx
    rename Fr _ _ _ _ => Fx
    clear Nx Fx
    rename News _ _ _ _ => N9
    rename Fr _ _ _ _ => F9
    refine fly_new (led1 := [(du, _)]) rfl rfl rfl (by assumption) F9 N9 st hnew he hc hd2 hk2 (fun b hb hm => frames_off B N rfl (.head _) (by rw [List.mem_singleton.mp hm] at hb; exact hb)) one_fst (fun q hq => by rw [List.mem_singleton.mp hq]; exact .head _) (fun h' hx => ?_)
    exact hexc _ _ _ _ _ ⟨rfl, _, rfl, hUU⟩ hx
  · obtain ⟨hr, q1, q2⟩ := linkE_some hl
    clear hl
    (k_extra "st")
    rename (Heap.get? _ _ = none) => hnew
    rename (Heap.get? _ _ = some _) => he
    rename (Obj.cls _ = _) => hc
    rename (Obj.data _ = _) => hd2
    rename (∀ b o, Heap.get? _ b = some o → Heap.get? _ b = some o) => hk2
    refine ⟨_, _, _, 77, .inl rfl, Frag.In.keeps (by assumption) (Fr.keep (by assumption)), rfl, he, hc, hd2, ?_⟩
    rename News _ _ _ _ => Nx
    rename Fr _ _ _ _ => Fx
    clear Nx Fx
    rename News _ _ _ _ => N9
    rename Fr _ _ _ _ => F9
    refine fly_new (led1 := [(du, _)]) rfl rfl rfl (by assumption) F9 N9 st hnew he hc hd2 hk2 (fun b hb hm => frames_off B N rfl (.head _) (by rw [List.mem_singleton.mp hm] at hb; exact hb)) one_fst (fun q hq => by rw [List.mem_singleton.mp hq]; exact .head _) (fun h' hx => ?_)
    exact hexc _ _ _ _ _ ⟨rfl, _, rfl, hUU⟩ hx
theorem group_limit (w : World) (mean : ExcName → Option Value) (mg mb : Str → Option Value) (ids : List (Str × El)) (most : Int) (G : Addr → Obj → Prop) (xu du di nm : Addr) (names : List Str) (v : Value) (name text : Str) (attrs : List (Str × Str)) (kids : List El) (o : Obj) (made : Int) (nmE : Str) (target : El)
  (hl : linkE attrs = some (some nmE)) (hid : ids.lookup nmE = some target) (hn : nmE ∈ names ∨ 12 ≤ names.length) (hU : UsesO o di most made) :
    PSpec w mean mg mb 275 [.ref xu, v, .ref nm] [(du, o)] 6 (PutP w G xu du di nm ids names v (.mk name attrs kids text)) (fun _ _ _ => False) (fun C led' => C = 89 ∧ ∃ o', led' = [(du, o')] ∧ UsesO o' di most made) := by
  have hUU := hU
  k_extra "gn"; (obtain ⟨h1, h2, h3, t1, t2, t3, t4, t5, rfl⟩ := hU) <;> k_unfold
  unfold PSpec
  k_fill
  intro dp un gd cn cs a' ccd cl' outer A₀ base h₀ L m s Q E B F X N T hk hP hd hu hret hexc
  refine wpAny_call ?_
  k_dflt ktr_enter
  first | refine (let ak : Around := _; let nk : Env := _; let sg9 : Array GenState := _; let sd9 : Drawn := _; let so9 : OsState := _; (?_ : wpAny _ ak (execs _ nk) _ _ (Shared.mk _ sg9 sd9 _ so9))) | refine (let ak : Around := _; let nk : Env := _; (?_ : wpAny _ ak (execs _ nk) _ _ _))
  try (have TB9 : TopB ak _ _ (dp + 1) (un + 3) := topb_of rfl rfl (by assumption))
  try (have FE9 : FnE nk L'9q := ⟨rfl, rfl, rfl⟩)
  try (rename Fr _ _ _ (fun y => List.lookup y (List.reverse _)) => FX9; replace FX9 := fr_binds [(Str.ofString "self", (.ref xu : Value)), (Str.ofString "element", (v : Value)), (Str.ofString "names", (.ref nm : Value))] rfl FX9)
  rename Stood _ _ _ => st
  k_extra "gn"; (obtain ⟨hG, hxu, hids, hnm, hE⟩ := hP) <;> k_unfold
  have hG' : ∀ a o, G a o → _ := fun a o q => st a o (hG a o q).1 (by simpa using (hG a o q).2)
  have hx := hG' _ _ hxu
  have hE' : ElOf w (HG _) v _ := hE.mono hG'
  rename (∀ p ∈ [(_, _)], _ < _) => l1
  have hdl : @LT.lt Nat instLTNat _ _ := l1 _ (.head _)
  dsimp only at hdl
  clear l1
  obtain ⟨hr, q1, q2⟩ := linkE_some hl
  clear hl
  cases hb : names.any (· == nmE)
  · have hn2 : (12 : Int) ≤ (names.length : Int) := by
      rcases hn with hn | hn
      · have : names.any (· == nmE) = true := List.any_eq_true.mpr ⟨nmE, hn, beq_self_eq_true _⟩
        rw [hb] at this; cases this
      · exact_mod_cast hn
    (k_extra "st")
    rename (Heap.get? _ _ = none) => hnew
    rename (Heap.get? _ _ = some _) => he
    rename (Obj.cls _ = _) => hc
    rename (Obj.data _ = _) => hd2
    rename (∀ b o, Heap.get? _ b = some o → Heap.get? _ b = some o) => hk2
    refine ⟨_, _, _, 89, .inr rfl, Frag.In.keeps (by assumption) (Fr.keep (by assumption)), rfl, he, hc, hd2, ?_⟩
    rename News _ _ _ _ => Nx
    rename Fr _ _ _ _ => Fx
    clear Nx Fx
    rename News _ _ _ _ => N9
    rename Fr _ _ _ _ => F9
    refine fly_new (led1 := [(du, _)]) rfl rfl rfl (by assumption) F9 N9 st hnew he hc hd2 hk2 (fun b hb hm => frames_off B N rfl (.head _) (by rw [List.mem_singleton.mp hm] at hb; exact hb)) one_fst (fun q hq => by rw [List.mem_singleton.mp hq]; exact .head _) (fun h' hx => ?_)
    exact hexc _ _ _ _ _ ⟨rfl, _, rfl, hUU⟩ hx
  · clear hn
    (k_extra "st")
    rename (Heap.get? _ _ = none) => hnew
    rename (Heap.get? _ _ = some _) => he
    rename (Obj.cls _ = _) => hc
    rename (Obj.data _ = _) => hd2
    rename (∀ b o, Heap.get? _ b = some o → Heap.get? _ b = some o) => hk2
    refine ⟨_, _, _, 89, .inr rfl, Frag.In.keeps (by assumption) (Fr.keep (by assumption)), rfl, he, hc, hd2, ?_⟩
    rename News _ _ _ _ => Nx
    rename Fr _ _ _ _ => Fx
    clear Nx Fx
    rename News _ _ _ _ => N9
    rename Fr _ _ _ _ => F9
    refine fly_new (led1 := [(du, _)]) rfl rfl rfl (by assumption) F9 N9 st hnew he hc hd2 hk2 (fun b hb hm => frames_off B N rfl (.head _) (by rw [List.mem_singleton.mp hm] at hb; exact hb)) one_fst (fun q hq => by rw [List.mem_singleton.mp hq]; exact .head _) (fun h' hx => ?_)
    exact hexc _ _ _ _ _ ⟨rfl, _, rfl, hUU⟩ hx
theorem fresh_off {h : Heap} {d : Addr} {o : Obj} {tl : List (Addr × Obj)} (fr : ∀ q ∈ tl, h.get? q.1 = none) (hd : h.get? d = some o) : ∀ q ∈ tl, q.1 ≠ d := fun q hq z => by
  have := fr q hq
  rw [z, hd] at this; cases this
theorem fresh_offN {g h : Heap} {L : Addr} {news tl : List (Addr × Obj)} (fr : ∀ q ∈ tl, h.get? q.1 = none) (N : News g L h news) : ∀ q ∈ tl, ∀ p ∈ news, q.1 ≠ p.1 := fun q hq p hp z => by
  have := fr q hq
  rw [z, (N p hp).1] at this; cases this
theorem news_hd {g h : Heap} {L a : Addr} {o : Obj} {r : List (Addr × Obj)} (_ : News g L h ((a, o) :: r)) : ∃ a', a' = a := ⟨a, rfl⟩
theorem news_get1 {g h : Heap} {L d : Addr} {o : Obj} (N : News g L h [(d, o)]) : h.get? d = some o := (N _ (.head _)).1
theorem IdsAre.mono {w : World} {G G' : Addr → Obj → Prop} (hs : ∀ a o, G a o → G' a o) {kvs : List (Str × Value)} {ids : List (Str × El)} (h : IdsAre w G kvs ids) : IdsAre w G' kvs ids := by
  k_with_none
  w_top off
  (k_with "an" => (first | assumption | exact And.left (by assumption) | exact And.left (And.right (by assumption)) | exact And.left (And.right (And.right (by assumption))) | exact And.left (And.right (And.right (And.right (by assumption)))) | exact And.left (And.right (And.right (And.right (And.right (by assumption))))) | exact And.left (And.right (And.right (And.right (And.right (And.right (by assumption)))))) | exact And.left (And.right (And.right (And.right (And.right (And.right (And.right (by assumption))))))) | exact And.left (And.right (And.right (And.right (And.right (And.right (And.right (And.right (by assumption)))))))) | exact And.left (And.right (And.right (And.right (And.right (And.right (And.right (And.right (And.right (by assumption)))))))))))
  (k_with "k_ne" => (refine neN ?_; (try dsimp only); first | (refine Nat.ne_of_lt ?_; k_extra "an") | (refine Nat.ne_of_gt ?_; k_extra "an")))
  (k_with "sub" => (first | assumption | (refine List.mem_append_left _ ?_; k_extra "sub") | (refine List.mem_append_right _ ?_; k_extra "sub") | (refine List.Mem.tail _ ?_; k_extra "sub")))
  (k_with "rm" => (first | exact room_of 1 rfl (by assumption) rfl | exact room_of 0 rfl (by assumption) rfl | exact room_of1 1 rfl (by assumption) rfl | exact room_of1 0 rfl (by assumption) rfl | ktr_room))
  (k_with "un" => (first | exact units_of 3 rfl (by assumption) rfl | exact units_of 4 rfl (by assumption) rfl | exact units_of 0 rfl (by assumption) rfl | ktr_units))
  (k_with "gn" => refine (let P9 : Prop := _; (?_ : P9)))
  (k_with "st" => (repeat' (first | ((with_reducible show wpAny _ _ (PySem.exec _ _) _ _ _); k_fold) | ((fail_if_success (fail_if_success k_unfold)); (show wpAny _ _ _ _ _ _); (try dsimp only)) | (k_unfold; (try dsimp only)) | (k_end; wrow_close) | walk1 | (dsimp only; walk1) | (leave1; walk_say "STEP leave1"; try dsimp only) | fail "no step")))
  (k_with "D" => try ((with_reducible show wpAny _ _ _ _ _ (Shared.mk (Shared.heap _) _ _ _ _)); dsimp only))
  (k_with "E0" => ((case F => k_asm); (case V => first | assumption | exact ⟨rfl, rfl, rfl⟩)))
  (k_with "E" => (k_extra "E0"; (case e => exact rfl)))
  (k_with "S" => (intro h'8q tk'8q F'8q N'8q; (try k_sweep)))
  (k_with "A" => (intro l'8q h'8q F'8q N'8q l18q; (try k_lt l18q); (try k_sweep)))
  (k_with "spliced" => (k_here; k_extra "D"; k_dflt (first | ((with_reducible refine' s_args ?V ?F ?e ?_); k_extra "E"; k_whole; (try dsimp only [List.cons_append, List.nil_append])))))
  (k_with "evalPairs" => (k_here; k_extra "D"; k_dflt (first | ((with_reducible refine' s_pair ?V ?F ?e ?f ?_); k_extra "E"; (case f => exact rfl); k_whole))))
  (k_with "eval BinOp" => (k_here; k_extra "D"; k_dflt (first | ((with_reducible refine' s_bin ?V ?F ?e ?f ?_); k_extra "E"; (case f => exact rfl); k_whole) | ((with_reducible refine' s_binL ?V ?F ?e ?_); k_extra "E"; k_whole))))
  (k_with "isTrue Compare" => (k_here; k_extra "D"; k_dflt (first | ((with_reducible refine' s_cmp ?V ?F ?e ?f ?h ?_); k_extra "E"; (case f => exact rfl); (case h => with_unfolding_all rfl); k_whole) | ((with_reducible refine' s_cmpL ?V ?F ?e ?h ?_); k_extra "E"; (case h => with_unfolding_all rfl); k_whole))))
  (k_with "eval Subscript" => (k_here; k_extra "D"; k_dflt (first | ((with_reducible refine' s_sub ?V ?F ?e ?f ?_); k_extra "E"; (case f => exact rfl); k_whole) | ((with_reducible refine' s_subL ?V ?F ?e ?_); k_extra "E"; k_whole))))
  (k_with "eval List" => (k_here; k_extra "D"; k_dflt (first | ((with_reducible refine' s_list ?V ?F ?e ?_); k_extra "E"; k_whole))))
  (k_with "eval Tuple" => (k_here; k_extra "D"; k_dflt (first | ((with_reducible refine' s_tuple ?V ?F ?e ?_); k_extra "E"; k_whole))))
  (k_with "exec Return some" => (k_here; k_extra "D"; k_dflt (first | ((with_reducible refine' s_ret ?V ?F ?e ?_); k_extra "E"; k_whole))))
  (k_with "eval Attribute Name" => (k_here; k_extra "D"; k_dflt (first | ((with_reducible refine' s_attr ?V ?F ?e ?_ ?h); k_extra "E"; (case h => with_unfolding_all rfl); k_whole))))
  (k_with "execs cons" => (k_here; k_extra "D"; k_dflt (first | k_gentoks | ((with_reducible refine' c_asgS ?V ?F ?N ?e ?x ?_ ?h); k_extra "E"; (case N => k_asm); (case x => exact rfl); (case h => exact rfl); k_whole; k_extra "S") | ((with_reducible refine' c_asg ?_ ?h); (case h => exact rfl); k_whole; (try refine (let qk8q : Value → Shared → Prop := _; (?_ : wpAny _ _ _ qk8q _ _)))) | ((with_reducible refine' c_retS ?V ?F ?e ?_); k_extra "E"; k_whole) | (with_reducible refine c_ret ?_))))
  (k_with "storeName" => (k_here; k_extra "D"; k_dflt (first | ((with_reducible refine' c_store ?V ?F ?N ?x ?_); k_extra "E0"; (case N => k_asm); (case x => exact rfl); k_whole; k_extra "S"))))
  (k_with "newList" => (k_here; k_extra "D"; k_dflt (first | ((with_reducible refine' c_newList ?F ?N ?_ ?z); (case F => k_asm); (case N => k_asm); (case z => size_fits); k_extra "A"))))
  (k_with "newTuple" => (k_here; k_extra "D"; k_dflt (first | ((with_reducible refine' c_newTuple ?F ?N ?_ ?z); (case F => k_asm); (case N => k_asm); (case z => kmk_size); k_extra "A"))))
  (k_with "binaryOp Mult int int" => (k_here; k_extra "D"; k_dflt (first | ((with_reducible refine' c_mul ?_ ?z); (case z => mul_fits)))))
  (k_with "binaryOp Add int int" => (k_here; k_extra "D"; k_dflt (first | (with_reducible refine c_add ?_))))
  (k_with "binaryOp Sub int int" => (k_here; k_extra "D"; k_dflt (first | (with_reducible refine c_sub ?_))))
  (k_with "unaryOp USub int" => (k_here; k_extra "D"; k_dflt (first | (with_reducible refine c_neg ?_))))
  (k_with "callWith ref" => (k_here; k_extra "D"; k_dflt (first | ((with_reducible refine' s_with ?V ?F ?X ?k ?e ?_); k_extra "E"; (case X => k_asm); (case k => k_is); k_whole))))
  (k_with "eval Call" => (k_here; k_extra "D"; k_dflt (first | ((with_reducible refine' s_call ?V ?F ?X ?T ?n ?x ?d ?k ?e ?_ ?h); k_extra "E"; (case x => exact rfl); (case X => k_asm); (case T => k_asm); (case d => decide); (case n => k_is); (case k => k_is); (case h => exact rfl); k_whole))))
  (k_with "eval Name" => (k_here; k_extra "D"; k_dflt (first | ((with_reducible refine' s_val ?V ?F ?e ?_); k_extra "E"; k_whole))))
  (k_with "ktr_enter" => first
  | (refine' codeG ?k1 ?k2 ?k3 ?k4 ?k5 ?kA ?kF ?kK ?k6 ?k7 ?k8 ?k9 ?kB ?_ ?c2 ?c3 ?c4 ?c5; (case kA => exact rfl); (case kF => exact rfl); (case kK => assumption); (case k1 => first | k_asm | exact topb_of rfl rfl (by k_asm)); (case k2 => k_asm); (case k3 => k_asm); (case k4 => k_asm); (case k5 => k_asm); (case k6 => k_is); (case k7 => k_is); (case k8 => (k_extra "rm")); (case k9 => first | exact BindsTo.of_eq rfl | exact binds_K (by k_in) rfl (by k_is) rfl rfl rfl); (case c5 => decide); (case kB => exact locs rfl); (case c2 => exact rfl); (case c3 => exact rfl); (case c4 => exact rfl); k_whole; intro g'9q L'9q h'9q tk'9q st'9q FG'9q F'9q N'9q B'9q X'9q T'9q l1'9q; (try dsimp only); (try k_fold)))
  (k_with "k_inst" => exact inst_base (by k_asm) (by assumption) (by assumption))
  (k_with "getMethod ref" => (k_here; (with_reducible show wpAny _ _ (getMethod (Value.ref _) (Str.ofString "get") _) _ _ _); k_dflt (refine sd_method (SDict.base (by k_asm) (by assumption)) ?_)))
  (k_with "call builtin:dict.get" => (k_here; (with_reducible show wpAny _ _ (call (Value.builtin "dict.get") [Value.ref _, Value.str _ _]) _ _ _); k_dflt (first
  | (refine sd_get1s (SDict.base (by k_asm) (by assumption)) (by assumption) ?_; intro t'9q)
  | (refine sd_get1n (SDict.base (by k_asm) (by assumption)) (by assumption) ?_)
  | (refine sd_get1 (SDict.base (by k_asm) (by assumption)) (fun hg09q => ?_) (fun v'9q t'9q hg19q => ?_)))))
  (k_with "k_room" => (k_extra "rm"))
  (k_with "subscriptTail" => (k_here; (with_reducible show wpAny _ _ (subscriptTail _ _ (Value.ref _) (Value.str _ _)) _ _ _); k_dflt (refine sd_item (SDict.base (by k_asm) (by assumption)) (by assumption) ?_); intro t'9q))
  (k_with "call ref" => (k_here; (with_reducible show wpAny _ _ (call (Value.ref _) _) _ _ _); (try k_fold); k_dflt (refine' spec_use0 ?S ?k1 ?k2 ?k3 ?k4 ?k5 ?kK ?kP ?kd ?ku ?_; (case S => assumption); (case k1 => first | k_asm | exact topb_of rfl rfl (by k_asm)); (case k2 => k_asm); (case k3 => k_asm); (case k4 => k_asm); (case k5 => k_asm); (case kK => exact rfl); (case kP => first | exact trivial | exact ElOf.base (by k_asm) (by assumption)); (case kd => (k_extra "rm")); (case ku => (k_extra "un"))); intro r'9q tl'9q h'9q tk'9q F'9q N'9q fr'9q st'9q hR'9q; (try dsimp only at hR'9q)))
  (k_with "k_mem" => ((show _ ∈ (_ ++ _ : List (Addr × Obj))); first | (refine List.mem_append_right _ ?_; k_mem) | (refine List.mem_append_left _ ?_; k_mem)))
  (k_with "call builtin:dict.get" => (k_here; (with_reducible show wpAny _ _ (call (Value.builtin "dict.get") [Value.ref _, Value.str _ _, Value.str _ _]) _ _ _); k_dflt (refine sd_get2L (SDict.base (by k_asm) (by assumption)) (by first | assumption | decide) ?_); intro t'9q hlen'9q))
  (k_with "k_inst" => exact inst_led (by k_asm) (by k_asm) (by assumption) (by k_mem))
  (k_with "ite" => (first | with_reducible refine ite_ff ?_ | with_reducible refine ite_tt ?_ | refine ite_dt (by assumption) ?_ | refine ite_df (by assumption) ?_))
  (k_with "exec Raise some none" => (k_here; k_dflt (refine raise_err (by rfl) ?_)))
  (k_with "call ref" => (k_here; (with_reducible show wpAny _ _ (call (Value.ref 89) _) _ _ _); (try k_fold); k_dflt (refine err_call (.inr rfl) (by k_asm) (by k_asm) (by k_asm) (by k_asm) (by k_asm) rfl (by (k_extra "rm")) (by (k_extra "un")) ?_); intro e'9q t0'9q h'9q tk'9q o1'9q F'9q N'9q hf'9q he'9q hc'9q hd'9q hk'9q))
  (k_with "call ref" => (k_here; (with_reducible show wpAny _ _ (call (Value.ref 77) _) _ _ _); (try k_fold); k_dflt (refine err_call (.inl rfl) (by k_asm) (by k_asm) (by k_asm) (by k_asm) (by k_asm) rfl (by (k_extra "rm")) (by (k_extra "un")) ?_); intro e'9q t0'9q h'9q tk'9q o1'9q F'9q N'9q hf'9q he'9q hc'9q hd'9q hk'9q))
  (k_with "call ref" => (k_here; (with_reducible show wpAny _ _ (call (Value.ref 21) _) _ _ _); (try k_fold); k_dflt ((refine' use_is (link_none _ _ _ _ _ _ _ _ _ (by assumption) (by assumption)) ?k1 ?k2 ?k3 ?k4 ?k5 ?kK ?kP ?kd ?ku ?_; (case k1 => first | k_asm | exact topb_of rfl rfl (by k_asm)); (case k2 => k_asm); (case k3 => k_asm); (case k4 => k_asm); (case k5 => k_asm); (case kK => exact rfl); (case kP => (exact ElOf.base (by k_asm) (by assumption))); (case kd => (k_extra "rm")); (case ku => (k_extra "un")))); intro h'9q tk'9q F'9q N'9q; (try dsimp only)))
  (k_with "call ref" => (k_here; (with_reducible show wpAny _ _ (call (Value.ref 21) _) _ _ _); (try k_fold); k_dflt ((refine' use_strL (link_spec _ _ _ _ _ _ _ _ _ _ _ (by assumption) (by assumption)) ?k1 ?k2 ?k3 ?k4 ?k5 ?kK ?kP ?kd ?ku ?_; (case k1 => first | k_asm | exact topb_of rfl rfl (by k_asm)); (case k2 => k_asm); (case k3 => k_asm); (case k4 => k_asm); (case k5 => k_asm); (case kK => exact rfl); (case kP => (exact ElOf.base (by k_asm) (by assumption))); (case kd => (k_extra "rm")); (case ku => (k_extra "un")))); intro t'9q h'9q tk'9q F'9q N'9q; (try dsimp only)))
  (k_with "call ref" => (k_here; (with_reducible show wpAny _ _ (call (Value.ref 303) _) _ _ _);  (try k_fold); k_dflt ((refine' spec_use0 (framed_any _ _ _ _ _ _ _ _ _ _ _ _ _ (by assumption)) ?k1 ?k2 ?k3 ?k4 ?k5 ?kK ?kP ?kd ?ku ?_; (case k1 => first | k_asm | exact topb_of rfl rfl (by k_asm)); (case k2 => k_asm); (case k3 => k_asm); (case k4 => k_asm); (case k5 => k_asm); (case kK => exact rfl); (case kP => (exact ⟨keepG (by k_asm) (by assumption), by assumption, by assumption⟩)); (case kd => (k_extra "rm")); (case ku => (k_extra "un")))); intro r'9q tlF h'9q tk'9q F'9q N'9q fr'9q st'9q hR'9q; (have hf2'9q := fresh_off fr'9q (news_get1 (by assumption))); (try dsimp only at hf2'9q); (try dsimp only)))
  (k_with "compareOp NotIn str ref" => (k_here; k_dflt (first
  | refine ids_notinY (by assumption) (keepG (by k_asm) (by assumption)) (by assumption) ?_
  | refine ids_notinN (by assumption) (keepG (by k_asm) (by assumption)) (by assumption) ?_)))
  (k_with "compareOp In str ref" => (k_here; k_dflt (refine tup_in (by assumption) (keepG (by k_asm) (by assumption)) _ (by assumption) ?_)))
  (k_with "call builtin:len" => (k_here; (with_reducible show wpAny _ _ (call (Value.builtin "len") [Value.ref _]) _ _ _); k_dflt (refine tup_len (by assumption) (keepG (by k_asm) (by assumption)) ?_)))
  (k_with "subscriptTail" => (k_here; (with_reducible show wpAny _ _ (subscriptTail _ _ (Value.ref _) (Value.str _ _)) _ _ _); k_dflt (refine ids_item (by assumption) (keepG (by k_asm) (by assumption)) (by assumption) ?_); intro v'9q hv'9q))
  (k_with "binaryOp Add ref ref" => (k_here; k_dflt (refine tup_add (by k_asm) (by k_asm) (by assumption) (keepG (by k_asm) (by assumption)) (by assumption) (by k_mem) ?_); intro D'9q h'9q tl'9q F'9q N'9q fr'9q hT'9q))
  (k_with "call ref" => (k_here; (with_reducible show wpAny _ _ (call (Value.ref 289) _) _ _ _); (try k_fold); k_dflt ((refine' use_ref (words_spec _ _ _ _ _ _ _ _ _ _ _ _ _ _ _ _ (by assumption) (by assumption) (by assumption) (by assumption) (by assumption) (by assumption) (by assumption) (by assumption) (by assumption)) ?k1 ?k2 ?k3 ?k4 ?k5 ?kK ?kP ?kd ?ku ?_; (case k1 => first | k_asm | exact topb_of rfl rfl (by k_asm)); (case k2 => k_asm); (case k3 => k_asm); (case k4 => k_asm); (case k5 => k_asm); (case kK => exact rfl); (case kP => (exact ElOf.base (by k_asm) (by assumption))); (case kd => (k_extra "rm")); (case ku => (k_extra "un")))); intro d'9q tlW h'9q tk'9q F'9q N'9q fr'9q st'9q hD'9q; (have hfN'9q := fresh_offN fr'9q (by assumption)); (try dsimp only)))
  (k_with "call ref" => (k_here; (with_reducible show wpAny _ _ (call (Value.ref 246) _) _ _ _); (try k_fold); k_dflt (refine' spec_use0 (elof_spec _ _ _ _ _ _ _ _ _ _) ?k1 ?k2 ?k3 ?k4 ?k5 ?kK ?kP ?kd ?ku ?_; (case k1 => first | k_asm | exact topb_of rfl rfl (by k_asm)); (case k2 => k_asm); (case k3 => k_asm); (case k4 => k_asm); (case k5 => k_asm); (case kK => exact rfl); (case kP => exact trivial); (case kd => (k_extra "rm")); (case ku => (k_extra "un"))); intro r'9q tlC h'9q tk'9q F'9q N'9q fr'9q st'9q hR'9q; (try dsimp only at hR'9q)))
  induction h with
  | nil => exact .nil
  | cons k a _ ih => exact .cons k (ElOf.mono hs a) ih
theorem IdsOf.mono {w : World} {G G' : Addr → Obj → Prop} {d : Addr} {ids : List (Str × El)} (h : IdsOf w G d ids) (hs : ∀ a o, G a o → G' a o) : IdsOf w G' d ids := by
  k_extra "gn"; (obtain ⟨o, kvs, a, b, c, e⟩ := h) <;> k_unfold
  exact ⟨o, kvs, hs _ _ a, b, c.mono hs, e⟩
theorem go_list {g h : Heap} {L D1 du : Addr} {tup o : Obj} {tlT tlF : List (Addr × Obj)} (N1 : News g L h (tlT ++ (D1, tup) :: (tlF ++ [(du, o)]))) (h1 : ∀ p ∈ tlT, p.1 ≠ du) (h2 : D1 ≠ du) (h3 : ∀ p ∈ tlF, p.1 ≠ du) :
    ∃ l, (∀ p ∈ l, p.1 ≠ du) ∧ News g L h (l ++ [(du, o)]) ∧ (∀ q, q ∈ tlT ++ (D1, tup) :: (tlF ++ [(du, o)]) ↔ q ∈ l ++ [(du, o)]) ∧ (∀ q ∈ tlF, q ∈ l) := by
  have e : tlT ++ (D1, tup) :: (tlF ++ [(du, o)]) = (tlT ++ (D1, tup) :: tlF) ++ [(du, o)] := by simp
  rw [e] at N1
  refine ⟨tlT ++ (D1, tup) :: tlF, fun p hp => ?_, N1, fun q => by rw [e], fun q hq => List.mem_append_right _ (.tail _ hq)⟩
  rcases List.mem_append.mp hp with hp | hp
  · exact h1 p hp
  · rcases List.mem_cons.mp hp with rfl | hp
    · exact h2
    · exact h3 p hp
theorem tup_l {G : Addr → Obj → Prop} {l big : List (Addr × Obj)} {du t : Addr} {o : Obj} {ns : List Str} (hT : TupS (LG big) t ns) (hs : ∀ q, q ∈ big → q ∈ l ++ [(du, o)]) (ho : o.cls = .type "dict") : TupS (GU G l) t ns := by
  k_extra "gn"; (obtain ⟨vs, n', z1, z2, z3⟩ := hT) <;> k_unfold
  refine ⟨vs, n', .inr ?_, z2, z3⟩
  rcases List.mem_append.mp (hs _ z1) with z | z
  · exact z
  · have := congrArg (fun p => p.2.cls) (List.mem_singleton.mp z)
    dsimp only at this
    rw [ho] at this
    exact absurd (Value.type.inj this) (by decide)
theorem group_go (w : World) (mean : ExcName → Option Value) (mg mb : Str → Option Value) (ids : List (Str × El)) (most : Int) (n : Nat) (IH : PutC w mean mg mb ids most n) (G : Addr → Obj → Prop) (xu du di nm : Addr) (names : List Str) (v : Value) (name text : Str) (attrs : List (Str × Str)) (kids : List El) (o : Obj) (made : Int) (nmE : Str) (target fe : El)
  (hl : linkE attrs = some (some nmE)) (hid : ids.lookup nmE = some target) (hn : ¬ (nmE ∈ names ∨ 12 ≤ names.length)) (hfe : framedE attrs target = some fe) (hno : putE ids most n made (names ++ [nmE]) fe ≠ .off) (hxy : ∀ e m, putE ids most n made (names ++ [nmE]) fe = .ok e m → XyOk attrs)
  (hU : UsesO o di most made) (hb1 : 0 ≤ made) (hb2 : made ≤ most) (hb3 : most ≤ 5000) :
    PSpec w mean mg mb 275 [.ref xu, v, .ref nm] [(du, o)] (2 * n + 17) (PutP w G xu du di nm ids names v (.mk name attrs kids text))
      (fun r led' tl => ∃ e' m o', putE ids most n made (names ++ [nmE]) fe = .ok e' m ∧ led' = [(du, o')] ∧ UsesO o' di most m ∧ ElOf w (GU G tl) r (.mk (Str.ofString "g") (gwE attrs) [e'] (Str.ofString "")) ∧ 0 ≤ m ∧ m ≤ most)
      (PutX du di most (putE ids most n made (names ++ [nmE]) fe)) := by
  have hUU := hU
  k_extra "gn"; (obtain ⟨h1, h2, h3, t1, t2, t3, t4, t5, rfl⟩ := hU) <;> k_unfold
  unfold PSpec
  k_fill
  intro dp un gd cn cs a' ccd cl' outer A₀ base h₀ L m s Q E B F X N T hk hP hd hu hret hexc
  refine wpAny_call ?_
  k_dflt ktr_enter
  first | refine (let ak : Around := _; let nk : Env := _; let sg9 : Array GenState := _; let sd9 : Drawn := _; let so9 : OsState := _; (?_ : wpAny _ ak (execs _ nk) _ _ (Shared.mk _ sg9 sd9 _ so9))) | refine (let ak : Around := _; let nk : Env := _; (?_ : wpAny _ ak (execs _ nk) _ _ _))
  try (have TB9 : TopB ak _ _ (dp + 1) (un + 3) := topb_of rfl rfl (by assumption))
  try (have FE9 : FnE nk L'9q := ⟨rfl, rfl, rfl⟩)
  try (rename Fr _ _ _ (fun y => List.lookup y (List.reverse _)) => FX9; replace FX9 := fr_binds [(Str.ofString "self", (.ref xu : Value)), (Str.ofString "element", (v : Value)), (Str.ofString "names", (.ref nm : Value))] rfl FX9)
  rename Stood _ _ _ => st
  k_extra "gn"; (obtain ⟨hG, hxu, hids, hnm, hE⟩ := hP) <;> k_unfold
  have hG' : ∀ a o, G a o → _ := fun a o q => st a o (hG a o q).1 (by simpa using (hG a o q).2)
  have hx := hG' _ _ hxu
  have hE' : ElOf w (HG _) v _ := hE.mono hG'
  rename (∀ p ∈ [(_, _)], _ < _) => l1
  have hdl : @LT.lt Nat instLTNat _ _ := l1 _ (.head _)
  dsimp only at hdl
  clear l1
  obtain ⟨hr, q1, q2⟩ := linkE_some hl
  clear hl
  have hb : names.any (· == nmE) = false := by
    rw [List.any_eq_false]
    exact fun y hy hq => hn (.inl ((beq_iff_eq.mp hq) ▸ hy))
  have hn2 : ¬ (12 : Int) ≤ (names.length : Int) := fun q => hn (.inr (by exact_mod_cast q))
  have hn3 : names.length ≤ 19 := by omega
  clear hn
  repeat ((fail_if_success (with_reducible show wpAny _ _ (call (Value.ref 268) _) _ _ _)); first | ((with_reducible show wpAny _ _ (PySem.exec _ _) _ _ _); k_fold) | ((fail_if_success (fail_if_success k_unfold)); (show wpAny _ _ _ _ _ _); (try dsimp only)) | (k_unfold; (try dsimp only)) | (k_end; wrow_close) | walk1 | (dsimp only; walk1) | (leave1; walk_say "STEP lea"))
  rename ElOf _ _ _ fe => hEf
  rename TupS _ _ _ => hTs
  rename News _ _ _ _ => N1
  rename Fr _ _ _ _ => F1
  rename (∀ q ∈ _, Heap.get? _ _ = none) => hfr1
  rename (∀ q ∈ _, _ < _) => l2
  have hlt2 : @LT.lt Nat instLTNat _ _ := l2 (du, _) (List.mem_append_right _ (.head _))
  dsimp only at hlt2
  clear l2
  rename News _ _ _ (_ :: _) => N0
  have hdu0 := (N0 (du, _) (.tail _ (List.mem_append_right _ (.head _)))).1
  clear N0
  rename (∀ q ∈ _, _ ≠ du) => hf2
  obtain ⟨tlT, hT0⟩ := put_tl hfr1
  subst hT0
  have hf1 : ∀ p ∈ tlT, p.1 ≠ du := fun p hp z => by
    have := hfr1 p hp
    rw [z] at this
    dsimp only at this
    rw [hdu0] at this; cases this
  clear hfr1
  k_extra "gn"; (obtain ⟨l, hl1, N2, hl2, hl3⟩ := go_list N1 hf1 (Ne.symm (Nat.ne_of_lt hlt2)) hf2) <;> k_unfold
  have hTs2 := tup_l (G := G) hTs (fun q => (hl2 q).mp) rfl
  clear hl2 hTs
  refine pspec_use1 (IH (GU G l) xu du di _ (names ++ [nmE]) _ fe _ made hno hUU hb1 hb2 hb3) (by k_asm) F1 (by k_asm) N2 (updF_mid (cs := []) (fun _ h => nomatch h) hl1) (by k_asm) rfl ⟨?_, .inl hxu, hids.mono fun a o q => .inl q, hTs2, hEf.mono fun a o q => q.imp id (hl3 _)⟩ (by (k_extra "rm")) (by (k_extra "un")) ?ret ?exc
  · rintro a o (q | q)
    · exact ⟨F1.keep a o (hG' a o q), (hG a o q).2⟩
    · exact ⟨(N2 _ (List.mem_append_left _ q)).1, hl1 _ q⟩
  case exc =>
    intro er Ce o' h' tk' hX hx
    rename Below _ base (_ :: outer) _ => K1
    refine fly_next (led1 := [(du, o')]) rfl rfl K1 F1 N2 st hx (fun b hb => by rw [List.mem_singleton.mp hb]; exact List.mem_map_of_mem (List.mem_append_right _ (.head _))) (fun b hb hm => frames_off B N rfl (.head _) (by rw [List.mem_singleton.mp hm] at hb; exact hb)) one_fst (fun q hq => .inl hq) (fun h3 hx3 => ?_)
    exact hexc er Ce _ h3 _ hX hx3
  case ret =>
    intro r tlP o' h' tk' F3 N3 hfr3 st3 hR
    k_extra "gn"; (obtain ⟨e', m', o4, hr1, hled, hU', hE3, q3, q4⟩ := hR) <;> k_unfold
    obtain rfl : o' = o4 := (Prod.mk.inj (List.cons.inj hled).1).2
    k_extra "gn"; (obtain ⟨k9, kne, klen, ⟨xa, xb, hX⟩, ⟨ya, yb, hY⟩, htr⟩ := hxy _ _ hr1) <;> k_unfold
    obtain ⟨px, hpx⟩ : ∃ px, (attrs.lookup (Str.ofString "x")).getD (Str.ofString "0") = px := ⟨_, rfl⟩
    obtain ⟨py, hpy⟩ : ∃ py, (attrs.lookup (Str.ofString "y")).getD (Str.ofString "0") = py := ⟨_, rfl⟩
    obtain ⟨tr, htr0⟩ : ∃ tr, (attrs.lookup (Str.ofString "transform")).getD (Str.ofString "") = tr := ⟨_, rfl⟩
    rw [hpx] at hX
    rw [hpy] at hY
    rw [htr0] at htr
    have hduP : ∀ p ∈ tlP, p.1 ≠ du := fun p hp z => by
      have := hfr3 p hp
      rw [z] at this
      dsimp only at this
      rw [(N2 (du, _) (List.mem_append_right _ (.head _))).1] at this; cases this
    clear F1 N1 hfr3 st3
    (k_extra "st")
    rename Core _ _ _ _ _ _ => hC
    rename (∀ q ∈ _, Heap.get? _ _ = none) => hfr
    rename (∀ q : Addr × Obj, q ∈ _ → ∀ p : Addr × Obj, p ∈ _ → _ ≠ _) => hfW
    rename (∀ q ∈ _, _ < _) => hlD
    rename SDict _ _ _ (putA _ _ _) => hDW
    rename News _ _ _ ((_, _) :: _) => N8
    obtain ⟨Lk, hLk⟩ := news_hd N8
    subst hLk
    have hD8 : @LT.lt Nat instLTNat _ _ := hlD (du, o') (List.mem_append_right _ (List.mem_append_right _ (List.mem_append_right _ (.head _))))
    dsimp only at hD8
    refine spec_ret (tl := tlC ++ ((Lk, PySem.W.listOf #[r] 0) :: (tlW ++ (tlP ++ l)))) (led' := [(du, o')]) hret st (by assumption) (by assumption) (by assumption) (by assumption) ?_ one_fst ?_ ?_
    · intro q hq
      simp only [List.mem_append, List.mem_cons, List.not_mem_nil, or_false, false_or, List.nil_append] at hq ⊢
      rcases hq with (hq | hq | hq | hq | hq) | hq
      · exact .inl hq
      · exact .inr (.inl hq)
      · exact .inr (.inr (.inl hq))
      · exact .inr (.inr (.inr (.inl hq)))
      · exact .inr (.inr (.inr (.inr (.inl hq))))
      · exact .inr (.inr (.inr (.inr (.inr hq))))
    · intro q hq b hb
      rw [List.mem_singleton.mp hb]
      rcases List.mem_append.mp hq with hq | hq
      · exact fresh_offN hfr N8 q hq (du, o') (.tail _ (List.mem_append_right _ (List.mem_append_right _ (List.mem_append_right _ (.head _)))))
      · rcases List.mem_cons.mp hq with rfl | hq
        · exact Ne.symm (Nat.ne_of_lt hD8)
        · rcases List.mem_append.mp hq with hq | hq
          · exact hfW q hq (du, o') (List.mem_append_right _ (List.mem_append_right _ (.head _)))
          · exact (List.mem_append.mp hq).elim (hduP q) (hl1 q)
    · refine ⟨e', m', o', hr1, rfl, hU', ?_, q3, q4⟩
      refine Core.el (hC.mono fun a o q => Or.inr (List.mem_append_left _ q)) ?_ (Or.inr (List.mem_append_right _ (.head _))) (by show 1 ≤ 40; decide) (.cons (hE3.mono fun a o q => ?_) .nil)
      · unfold gwE
        rw [hpx, hpy, htr0]
        exact hDW.mono fun a o q => Or.inr (List.mem_append_right _ (.tail _ (List.mem_append_left _ q)))
      · rcases q with (q | q) | q
        · exact .inl q
        · exact .inr (List.mem_append_right _ (.tail _ (List.mem_append_right _ (List.mem_append_right _ q))))
        · exact .inr (List.mem_append_right _ (.tail _ (List.mem_append_right _ (List.mem_append_left _ q))))
open Classical in
theorem group_all (w : World) (mean : ExcName → Option Value) (mg mb : Str → Option Value) (ids : List (Str × El)) (most : Int) (n : Nat) (IH : PutC w mean mg mb ids most n) (G : Addr → Obj → Prop) (xu du di nm : Addr) (names : List Str) (v : Value) (name text : Str) (attrs : List (Str × Str)) (kids : List El) (o : Obj) (made : Int)
  (hno : groupE ids (putE ids most n) made names attrs ≠ .off) (hU : UsesO o di most made) (hb1 : 0 ≤ made) (hb2 : made ≤ most) (hb3 : most ≤ 5000) :
    PSpec w mean mg mb 275 [.ref xu, v, .ref nm] [(du, o)] (2 * n + 17) (PutP w G xu du di nm ids names v (.mk name attrs kids text)) (PutR w G du di most (groupE ids (putE ids most n) made names attrs)) (PutX du di most (groupE ids (putE ids most n) made names attrs)) := by
  k_with_none
  w_top off
  (k_with "an" => (first | assumption | exact And.left (by assumption) | exact And.left (And.right (by assumption)) | exact And.left (And.right (And.right (by assumption))) | exact And.left (And.right (And.right (And.right (by assumption)))) | exact And.left (And.right (And.right (And.right (And.right (by assumption))))) | exact And.left (And.right (And.right (And.right (And.right (And.right (by assumption)))))) | exact And.left (And.right (And.right (And.right (And.right (And.right (And.right (by assumption))))))) | exact And.left (And.right (And.right (And.right (And.right (And.right (And.right (And.right (by assumption)))))))) | exact And.left (And.right (And.right (And.right (And.right (And.right (And.right (And.right (And.right (by assumption)))))))))))
  (k_with "k_ne" => (refine neN ?_; (try dsimp only); first | (refine Nat.ne_of_lt ?_; k_extra "an") | (refine Nat.ne_of_gt ?_; k_extra "an")))
  (k_with "sub" => (first | assumption | (refine List.mem_append_left _ ?_; k_extra "sub") | (refine List.mem_append_right _ ?_; k_extra "sub") | (refine List.Mem.tail _ ?_; k_extra "sub")))
  (k_with "rm" => (first | exact room_of 1 rfl (by assumption) rfl | exact room_of 0 rfl (by assumption) rfl | exact room_of1 1 rfl (by assumption) rfl | exact room_of1 0 rfl (by assumption) rfl | ktr_room))
  (k_with "un" => (first | exact units_of 3 rfl (by assumption) rfl | exact units_of 4 rfl (by assumption) rfl | exact units_of 0 rfl (by assumption) rfl | ktr_units))
  (k_with "gn" => refine (let P9 : Prop := _; (?_ : P9)))
  (k_with "ktr_enter" => first
  | (refine' codeG ?k1 ?k2 ?k3 ?k4 ?k5 ?kA ?kF ?kK ?k6 ?k7 ?k8 ?k9 ?kB ?_ ?c2 ?c3 ?c4 ?c5; (case kA => exact rfl); (case kF => exact rfl); (case kK => assumption); (case k1 => first | k_asm | exact topb_of rfl rfl (by k_asm)); (case k2 => k_asm); (case k3 => k_asm); (case k4 => k_asm); (case k5 => k_asm); (case k6 => k_is); (case k7 => k_is); (case k8 => (k_extra "rm")); (case k9 => first | exact BindsTo.of_eq rfl | exact binds_K (by k_in) rfl (by k_is) rfl rfl rfl); (case c5 => decide); (case kB => exact locs rfl); (case c2 => exact rfl); (case c3 => exact rfl); (case c4 => exact rfl); k_whole; intro g'9q L'9q h'9q tk'9q st'9q FG'9q F'9q N'9q B'9q X'9q T'9q l1'9q; (try dsimp only); (try k_fold)))
  (k_with "k_inst" => exact inst_base (by k_asm) (by assumption) (by assumption))
  (k_with "getMethod ref" => (k_here; (with_reducible show wpAny _ _ (getMethod (Value.ref _) (Str.ofString "get") _) _ _ _); k_dflt (refine sd_method (SDict.base (by k_asm) (by assumption)) ?_)))
  (k_with "call builtin:dict.get" => (k_here; (with_reducible show wpAny _ _ (call (Value.builtin "dict.get") [Value.ref _, Value.str _ _]) _ _ _); k_dflt (first
  | (refine sd_get1s (SDict.base (by k_asm) (by assumption)) (by assumption) ?_; intro t'9q)
  | (refine sd_get1n (SDict.base (by k_asm) (by assumption)) (by assumption) ?_)
  | (refine sd_get1 (SDict.base (by k_asm) (by assumption)) (fun hg09q => ?_) (fun v'9q t'9q hg19q => ?_)))))
  (k_with "k_room" => (k_extra "rm"))
  (k_with "subscriptTail" => (k_here; (with_reducible show wpAny _ _ (subscriptTail _ _ (Value.ref _) (Value.str _ _)) _ _ _); k_dflt (refine sd_item (SDict.base (by k_asm) (by assumption)) (by assumption) ?_); intro t'9q))
  (k_with "call ref" => (k_here; (with_reducible show wpAny _ _ (call (Value.ref _) _) _ _ _); (try k_fold); k_dflt (refine' spec_use0 ?S ?k1 ?k2 ?k3 ?k4 ?k5 ?kK ?kP ?kd ?ku ?_; (case S => assumption); (case k1 => first | k_asm | exact topb_of rfl rfl (by k_asm)); (case k2 => k_asm); (case k3 => k_asm); (case k4 => k_asm); (case k5 => k_asm); (case kK => exact rfl); (case kP => first | exact trivial | exact ElOf.base (by k_asm) (by assumption)); (case kd => (k_extra "rm")); (case ku => (k_extra "un"))); intro r'9q tl'9q h'9q tk'9q F'9q N'9q fr'9q st'9q hR'9q; (try dsimp only at hR'9q)))
  (k_with "k_mem" => ((show _ ∈ (_ ++ _ : List (Addr × Obj))); first | (refine List.mem_append_right _ ?_; k_mem) | (refine List.mem_append_left _ ?_; k_mem)))
  (k_with "call builtin:dict.get" => (k_here; (with_reducible show wpAny _ _ (call (Value.builtin "dict.get") [Value.ref _, Value.str _ _, Value.str _ _]) _ _ _); k_dflt (refine sd_get2L (SDict.base (by k_asm) (by assumption)) (by first | assumption | decide) ?_); intro t'9q hlen'9q))
  cases hl : linkE attrs with
  | none => exact absurd (by simp only [groupE, hl]) hno
  | some q =>
    cases q with
    | none =>
      have hg : groupE ids (putE ids most n) made names attrs = .sheet made := by simp only [groupE, hl]
      rw [hg]
      exact pspec_weak (group_sheet w mean mg mb ids most G xu du di nm names v name text attrs kids o made (.inl hl) hU) (by omega) (fun _ q => q) (fun _ _ _ q => q.elim) fun C l q => by
        k_extra "gn"; (obtain ⟨q1, o', q2, q3⟩ := q) <;> k_unfold
        exact ⟨made, o', q2, q3, .inr ⟨q1, rfl⟩⟩
    | some nmE =>
      cases hid : ids.lookup nmE with
      | none =>
        have hg : groupE ids (putE ids most n) made names attrs = .sheet made := by simp only [groupE, hl, hid]
        rw [hg]
        exact pspec_weak (group_sheet w mean mg mb ids most G xu du di nm names v name text attrs kids o made (.inr ⟨nmE, hl, hid⟩) hU) (by omega) (fun _ q => q) (fun _ _ _ q => q.elim) fun C l q => by
          k_extra "gn"; (obtain ⟨q1, o', q2, q3⟩ := q) <;> k_unfold
          exact ⟨made, o', q2, q3, .inr ⟨q1, rfl⟩⟩
      | some target =>
        by_cases hn : nmE ∈ names ∨ 12 ≤ names.length
        · have hg : groupE ids (putE ids most n) made names attrs = .limit made := by simp only [groupE, hl, hid, if_pos hn]
          rw [hg]
          exact pspec_weak (group_limit w mean mg mb ids most G xu du di nm names v name text attrs kids o made nmE target hl hid hn hU) (by omega) (fun _ q => q) (fun _ _ _ q => q.elim) fun C l q => by
            k_extra "gn"; (obtain ⟨q1, o', q2, q3⟩ := q) <;> k_unfold
            exact ⟨made, o', q2, q3, .inl ⟨q1, rfl⟩⟩
        · cases hfe : framedE attrs target with
          | none => exact absurd (by simp only [groupE, hl, hid, if_neg hn, hfe]) hno
          | some fe =>
            have hg : groupE ids (putE ids most n) made names attrs = (match putE ids most n made (names ++ [nmE]) fe with
              | .ok inner m => if XyOk attrs then .ok (.mk (Str.ofString "g") (gwE attrs) [inner] (Str.ofString "")) m else .off
              | .limit m => .limit m
              | .sheet m => .sheet m
              | .off => .off) := by
              simp only [groupE, hl, hid, if_neg hn, hfe] <;> (cases putE ids most n made (names ++ [nmE]) fe <;> rfl)
            rw [hg] at hno ⊢
            refine pspec_weak (group_go w mean mg mb ids most n IH G xu du di nm names v name text attrs kids o made nmE target fe hl hid hn hfe (fun q => hno (by rw [q])) (fun e m q => ?_) hU hb1 hb2 hb3) (Nat.le_refl _) (fun _ q => q) (fun r l tl q => ?_) fun C l q => ?_
            · by_cases hx : XyOk attrs
              · exact hx
              · exact absurd (by rw [q]; simp only [if_neg hx]) hno
            · k_extra "gn"; (obtain ⟨e', m, o', q1, q2, q3, q4, q5, q6⟩ := q) <;> k_unfold
              rw [q1] at hno ⊢
              have hx : XyOk attrs := by
                by_cases hx : XyOk attrs
                · exact hx
                · exact absurd (by simp only [if_neg hx]) hno
              exact ⟨_, m, o', by simp only [if_pos hx], q2, q3, q4, q5, q6⟩
            · k_extra "gn"; (obtain ⟨m, o', q1, q2, q3⟩ := q) <;> k_unfold
              refine ⟨m, o', q1, q2, ?_⟩
              rcases q3 with ⟨z1, z2⟩ | ⟨z1, z2⟩
              · exact .inl ⟨z1, by rw [z2]⟩
              · exact .inr ⟨z1, by rw [z2]⟩
theorem put_use (w : World) (mean : ExcName → Option Value) (mg mb : Str → Option Value) (ids : List (Str × El)) (most : Int) (n : Nat) (IH : PutC w mean mg mb ids most n) (G : Addr → Obj → Prop) (xu du di nm : Addr) (names : List Str) (v : Value) (name text : Str) (attrs : List (Str × Str)) (kids : List El) (o : Obj) (made : Int)
  (hno : putE ids most (n + 1) made names (.mk name attrs kids text) ≠ .off) (hU : UsesO o di most made) (hb1 : 0 ≤ made) (hb2 : made ≤ most) (hb3 : most ≤ 5000) (hle : ¬ made + 1 > most) (hnu : name = Str.ofString "use") :
    PSpec w mean mg mb 268 [.ref xu, v, .ref nm] [(du, o)] (2 * n + 18) (PutP w G xu du di nm ids names v (.mk name attrs kids text)) (PutR w G du di most (putE ids most (n + 1) made names (.mk name attrs kids text))) (PutX du di most (putE ids most (n + 1) made names (.mk name attrs kids text))) := by
  k_with_none
  w_top off
  (k_with "an" => (first | assumption | exact And.left (by assumption) | exact And.left (And.right (by assumption)) | exact And.left (And.right (And.right (by assumption))) | exact And.left (And.right (And.right (And.right (by assumption)))) | exact And.left (And.right (And.right (And.right (And.right (by assumption))))) | exact And.left (And.right (And.right (And.right (And.right (And.right (by assumption)))))) | exact And.left (And.right (And.right (And.right (And.right (And.right (And.right (by assumption))))))) | exact And.left (And.right (And.right (And.right (And.right (And.right (And.right (And.right (by assumption)))))))) | exact And.left (And.right (And.right (And.right (And.right (And.right (And.right (And.right (And.right (by assumption)))))))))))
  (k_with "k_ne" => (refine neN ?_; (try dsimp only); first | (refine Nat.ne_of_lt ?_; k_extra "an") | (refine Nat.ne_of_gt ?_; k_extra "an")))
  (k_with "sub" => (first | assumption | (refine List.mem_append_left _ ?_; k_extra "sub") | (refine List.mem_append_right _ ?_; k_extra "sub") | (refine List.Mem.tail _ ?_; k_extra "sub")))
  (k_with "rm" => (first | exact room_of 1 rfl (by assumption) rfl | exact room_of 0 rfl (by assumption) rfl | exact room_of1 1 rfl (by assumption) rfl | exact room_of1 0 rfl (by assumption) rfl | ktr_room))
  (k_with "un" => (first | exact units_of 3 rfl (by assumption) rfl | exact units_of 4 rfl (by assumption) rfl | exact units_of 0 rfl (by assumption) rfl | ktr_units))
  (k_with "gn" => refine (let P9 : Prop := _; (?_ : P9)))
  (k_with "st" => (repeat' (first | ((with_reducible show wpAny _ _ (PySem.exec _ _) _ _ _); k_fold) | ((fail_if_success (fail_if_success k_unfold)); (show wpAny _ _ _ _ _ _); (try dsimp only)) | (k_unfold; (try dsimp only)) | (k_end; wrow_close) | walk1 | (dsimp only; walk1) | (leave1; walk_say "STEP leave1"; try dsimp only) | fail "no step")))
  (k_with "D" => try ((with_reducible show wpAny _ _ _ _ _ (Shared.mk (Shared.heap _) _ _ _ _)); dsimp only))
  (k_with "E0" => ((case F => k_asm); (case V => first | assumption | exact ⟨rfl, rfl, rfl⟩)))
  (k_with "E" => (k_extra "E0"; (case e => exact rfl)))
  (k_with "S" => (intro h'8q tk'8q F'8q N'8q; (try k_sweep)))
  (k_with "A" => (intro l'8q h'8q F'8q N'8q l18q; (try k_lt l18q); (try k_sweep)))
  (k_with "spliced" => (k_here; k_extra "D"; k_dflt (first | ((with_reducible refine' s_args ?V ?F ?e ?_); k_extra "E"; k_whole; (try dsimp only [List.cons_append, List.nil_append])))))
  (k_with "evalPairs" => (k_here; k_extra "D"; k_dflt (first | ((with_reducible refine' s_pair ?V ?F ?e ?f ?_); k_extra "E"; (case f => exact rfl); k_whole))))
  (k_with "eval BinOp" => (k_here; k_extra "D"; k_dflt (first | ((with_reducible refine' s_bin ?V ?F ?e ?f ?_); k_extra "E"; (case f => exact rfl); k_whole) | ((with_reducible refine' s_binL ?V ?F ?e ?_); k_extra "E"; k_whole))))
  (k_with "isTrue Compare" => (k_here; k_extra "D"; k_dflt (first | ((with_reducible refine' s_cmp ?V ?F ?e ?f ?h ?_); k_extra "E"; (case f => exact rfl); (case h => with_unfolding_all rfl); k_whole) | ((with_reducible refine' s_cmpL ?V ?F ?e ?h ?_); k_extra "E"; (case h => with_unfolding_all rfl); k_whole))))
  (k_with "eval Subscript" => (k_here; k_extra "D"; k_dflt (first | ((with_reducible refine' s_sub ?V ?F ?e ?f ?_); k_extra "E"; (case f => exact rfl); k_whole) | ((with_reducible refine' s_subL ?V ?F ?e ?_); k_extra "E"; k_whole))))
  (k_with "eval List" => (k_here; k_extra "D"; k_dflt (first | ((with_reducible refine' s_list ?V ?F ?e ?_); k_extra "E"; k_whole))))
  (k_with "eval Tuple" => (k_here; k_extra "D"; k_dflt (first | ((with_reducible refine' s_tuple ?V ?F ?e ?_); k_extra "E"; k_whole))))
  (k_with "exec Return some" => (k_here; k_extra "D"; k_dflt (first | ((with_reducible refine' s_ret ?V ?F ?e ?_); k_extra "E"; k_whole))))
  (k_with "eval Attribute Name" => (k_here; k_extra "D"; k_dflt (first | ((with_reducible refine' s_attr ?V ?F ?e ?_ ?h); k_extra "E"; (case h => with_unfolding_all rfl); k_whole))))
  (k_with "execs cons" => (k_here; k_extra "D"; k_dflt (first | k_gentoks | ((with_reducible refine' c_asgS ?V ?F ?N ?e ?x ?_ ?h); k_extra "E"; (case N => k_asm); (case x => exact rfl); (case h => exact rfl); k_whole; k_extra "S") | ((with_reducible refine' c_asg ?_ ?h); (case h => exact rfl); k_whole; (try refine (let qk8q : Value → Shared → Prop := _; (?_ : wpAny _ _ _ qk8q _ _)))) | ((with_reducible refine' c_retS ?V ?F ?e ?_); k_extra "E"; k_whole) | (with_reducible refine c_ret ?_))))
  (k_with "storeName" => (k_here; k_extra "D"; k_dflt (first | ((with_reducible refine' c_store ?V ?F ?N ?x ?_); k_extra "E0"; (case N => k_asm); (case x => exact rfl); k_whole; k_extra "S"))))
  (k_with "newList" => (k_here; k_extra "D"; k_dflt (first | ((with_reducible refine' c_newList ?F ?N ?_ ?z); (case F => k_asm); (case N => k_asm); (case z => size_fits); k_extra "A"))))
  (k_with "newTuple" => (k_here; k_extra "D"; k_dflt (first | ((with_reducible refine' c_newTuple ?F ?N ?_ ?z); (case F => k_asm); (case N => k_asm); (case z => kmk_size); k_extra "A"))))
  (k_with "binaryOp Mult int int" => (k_here; k_extra "D"; k_dflt (first | ((with_reducible refine' c_mul ?_ ?z); (case z => mul_fits)))))
  (k_with "binaryOp Add int int" => (k_here; k_extra "D"; k_dflt (first | (with_reducible refine c_add ?_))))
  (k_with "binaryOp Sub int int" => (k_here; k_extra "D"; k_dflt (first | (with_reducible refine c_sub ?_))))
  (k_with "unaryOp USub int" => (k_here; k_extra "D"; k_dflt (first | (with_reducible refine c_neg ?_))))
  (k_with "callWith ref" => (k_here; k_extra "D"; k_dflt (first | ((with_reducible refine' s_with ?V ?F ?X ?k ?e ?_); k_extra "E"; (case X => k_asm); (case k => k_is); k_whole))))
  (k_with "eval Call" => (k_here; k_extra "D"; k_dflt (first | ((with_reducible refine' s_call ?V ?F ?X ?T ?n ?x ?d ?k ?e ?_ ?h); k_extra "E"; (case x => exact rfl); (case X => k_asm); (case T => k_asm); (case d => decide); (case n => k_is); (case k => k_is); (case h => exact rfl); k_whole))))
  (k_with "eval Name" => (k_here; k_extra "D"; k_dflt (first | ((with_reducible refine' s_val ?V ?F ?e ?_); k_extra "E"; k_whole))))
  (k_with "ktr_enter" => first
  | (refine' codeG ?k1 ?k2 ?k3 ?k4 ?k5 ?kA ?kF ?kK ?k6 ?k7 ?k8 ?k9 ?kB ?_ ?c2 ?c3 ?c4 ?c5; (case kA => exact rfl); (case kF => exact rfl); (case kK => assumption); (case k1 => first | k_asm | exact topb_of rfl rfl (by k_asm)); (case k2 => k_asm); (case k3 => k_asm); (case k4 => k_asm); (case k5 => k_asm); (case k6 => k_is); (case k7 => k_is); (case k8 => (k_extra "rm")); (case k9 => first | exact BindsTo.of_eq rfl | exact binds_K (by k_in) rfl (by k_is) rfl rfl rfl); (case c5 => decide); (case kB => exact locs rfl); (case c2 => exact rfl); (case c3 => exact rfl); (case c4 => exact rfl); k_whole; intro g'9q L'9q h'9q tk'9q st'9q FG'9q F'9q N'9q B'9q X'9q T'9q l1'9q; (try dsimp only); (try k_fold))
  | (refine' codeGC ?k1 ?k2 ?k3 ?k4 ?k5 ?kA ?kF ?kK ?k6 ?k7 ?k8 ?k9 ?kB ?kD ?_ ?c2 ?c3 ?c4; (case kA => exact rfl); (case kF => exact rfl); (case kK => assumption); (case k1 => first | k_asm | exact topb_of rfl rfl (by k_asm)); (case k2 => k_asm); (case k3 => k_asm); (case k4 => k_asm); (case k5 => k_asm); (case k6 => k_is); (case k7 => k_is); (case k8 => (k_extra "rm")); (case k9 => first | exact BindsTo.of_eq rfl | exact binds_K (by k_in) rfl (by k_is) rfl rfl rfl); (case kB => exact rfl); (case kD => decide +kernel); (case c2 => exact rfl); (case c3 => exact rfl); (case c4 => exact rfl); k_whole; intro g'9q L'9q h'9q tk'9q cells'9q st'9q FG'9q F'9q N'9q Y'9q B'9q X'9q T'9q l1'9q; k_cells Y'9q; (try simp only [List.cons_append, List.nil_append, List.append_nil] at N'9q); (try dsimp only); (try k_fold)))
  (k_with "k_inst" => exact inst_base (by k_asm) (by assumption) (by assumption))
  (k_with "getMethod ref" => (k_here; (with_reducible show wpAny _ _ (getMethod (Value.ref _) (Str.ofString "get") _) _ _ _); k_dflt (refine sd_method (SDict.base (by k_asm) (by assumption)) ?_)))
  (k_with "call builtin:dict.get" => (k_here; (with_reducible show wpAny _ _ (call (Value.builtin "dict.get") [Value.ref _, Value.str _ _]) _ _ _); k_dflt (first
  | (refine sd_get1s (SDict.base (by k_asm) (by assumption)) (by assumption) ?_; intro t'9q)
  | (refine sd_get1n (SDict.base (by k_asm) (by assumption)) (by assumption) ?_)
  | (refine sd_get1 (SDict.base (by k_asm) (by assumption)) (fun hg09q => ?_) (fun v'9q t'9q hg19q => ?_)))))
  (k_with "k_room" => (k_extra "rm"))
  (k_with "subscriptTail" => (k_here; (with_reducible show wpAny _ _ (subscriptTail _ _ (Value.ref _) (Value.str _ _)) _ _ _); k_dflt (refine sd_item (SDict.base (by k_asm) (by assumption)) (by assumption) ?_); intro t'9q))
  (k_with "call ref" => (k_here; (with_reducible show wpAny _ _ (call (Value.ref _) _) _ _ _); (try k_fold); k_dflt (refine' spec_use0 ?S ?k1 ?k2 ?k3 ?k4 ?k5 ?kK ?kP ?kd ?ku ?_; (case S => assumption); (case k1 => first | k_asm | exact topb_of rfl rfl (by k_asm)); (case k2 => k_asm); (case k3 => k_asm); (case k4 => k_asm); (case k5 => k_asm); (case kK => exact rfl); (case kP => first | exact trivial | exact ElOf.base (by k_asm) (by assumption)); (case kd => (k_extra "rm")); (case ku => (k_extra "un"))); intro r'9q tl'9q h'9q tk'9q F'9q N'9q fr'9q st'9q hR'9q; (try dsimp only at hR'9q)))
  (k_with "k_mem" => ((show _ ∈ (_ ++ _ : List (Addr × Obj))); first | (refine List.mem_append_right _ ?_; k_mem) | (refine List.mem_append_left _ ?_; k_mem)))
  (k_with "call builtin:dict.get" => (k_here; (with_reducible show wpAny _ _ (call (Value.builtin "dict.get") [Value.ref _, Value.str _ _, Value.str _ _]) _ _ _); k_dflt (refine sd_get2L (SDict.base (by k_asm) (by assumption)) (by first | assumption | decide) ?_); intro t'9q hlen'9q))
  (k_with "k_inst" => exact inst_led (by k_asm) (by k_asm) (by assumption) (by k_mem))
  (k_with "ite" => (first | with_reducible refine ite_ff ?_ | with_reducible refine ite_tt ?_ | refine ite_dt (by assumption) ?_ | refine ite_df (by assumption) ?_))
  (k_with "compareOp Eq str str" => (k_here; k_dflt (first | refine eq_dec false (beq_eq_false_iff_ne.mpr (by assumption)) ?_ | refine eq_dec true (beq_iff_eq.mpr (by assumption)) ?_)))
  have hres : putE ids most (n + 1) made names (.mk name attrs kids text) = groupE ids (putE ids most n) (made + 1) names attrs := by rw [putE, if_neg hle, if_pos hnu]
  rw [hres] at hno ⊢
  clear hres
  k_extra "gn"; (obtain ⟨h1, h2, h3, t1, t2, t3, t4, t5, rfl⟩ := hU) <;> k_unfold
  unfold PSpec
  k_fill
  intro dp un gd cn cs a' ccd cl' outer A₀ base h₀ L m s Q E B F X N T hk hP hd hu hret hexc
  refine wpAny_call ?_
  k_dflt ktr_enter
  first | refine (let ak : Around := _; let nk : Env := _; let sg9 : Array GenState := _; let sd9 : Drawn := _; let so9 : OsState := _; (?_ : wpAny _ ak (execs _ nk) _ _ (Shared.mk _ sg9 sd9 _ so9))) | refine (let ak : Around := _; let nk : Env := _; (?_ : wpAny _ ak (execs _ nk) _ _ _))
  try (have TB9 : TopB ak _ _ (dp + 1) (un + 3) := topb_of rfl rfl (by assumption))
  try (have FE9 : FnE nk L'9q := ⟨rfl, rfl, rfl⟩)
  try (rename Fr _ _ _ (fun y => List.lookup y (List.reverse _)) => FX9; replace FX9 := fr_binds [(Str.ofString "self", (.ref xu : Value)), (Str.ofString "element", (v : Value)), (Str.ofString "names", (.ref nm : Value))] rfl FX9)
  rename Stood _ _ _ => st
  k_extra "gn"; (obtain ⟨hG, hxu, hids, hnm, hE⟩ := hP) <;> k_unfold
  have hG' : ∀ a o, G a o → _ := fun a o q => st a o (hG a o q).1 (by simpa using (hG a o q).2)
  have hx := hG' _ _ hxu
  have hE0 := hE
  cases hE with | mk a1 a2 a3 a4 a5 a6 =>
  have b1 := hG' _ _ a1
  have b2 := hG' _ _ a2
  rename (∀ p ∈ [(_, _)], _ < _) => l1
  have hdl : @LT.lt Nat instLTNat _ _ := l1 _ (.head _)
  dsimp only at hdl
  clear l1
  repeat ((fail_if_success (with_reducible show wpAny _ _ (call (Value.ref 275) _) _ _ _)); first | ((with_reducible show wpAny _ _ (PySem.exec _ _) _ _ _); k_fold) | ((fail_if_success (fail_if_success k_unfold)); (show wpAny _ _ _ _ _ _); (try dsimp only)) | (k_unfold; (try dsimp only)) | (k_end; wrow_close) | walk1 | (dsimp only; walk1) | (leave1; walk_say "STEP lea"))
  rename News _ _ _ _ => N1
  rename Fr _ _ _ _ => F1
  refine pspec_use1 (group_all w mean mg mb ids most n IH G xu du di nm names _ name text attrs kids _ (made + 1) hno UsesO.intro (by omega) (by omega) hb3) (by k_asm) F1 (by k_asm) N1 (updF_mid (tl := []) (cs := [(_, _), (_, _)]) ?cells (fun _ h => nomatch h)) (by k_asm) rfl ⟨fun a o q => ⟨F1.keep a o (hG' a o q), (hG a o q).2⟩, hxu, hids, hnm, hE0⟩ (by (k_extra "rm")) (by (k_extra "un")) ?ret ?exc
  case cells =>
    intro p hp
    rcases List.mem_cons.mp hp with rfl | hp
    · exact Nat.ne_of_gt (Nat.lt_succ_of_lt (Nat.lt_succ_of_lt hdl))
    · rw [List.mem_singleton.mp hp]; exact Nat.ne_of_gt (Nat.lt_succ_of_lt hdl)
  case exc =>
    intro er Ce o' h' tk' hX hx
    rename Below _ base (_ :: outer) _ => K1
    refine fly_next (led1 := [(du, o')]) rfl rfl K1 F1 N1 st hx (fun b hb => by rw [List.mem_singleton.mp hb]; exact List.mem_map_of_mem (.tail _ (.tail _ (.head _)))) (fun b hb hm => frames_off B N rfl (.head _) (by rw [List.mem_singleton.mp hm] at hb; exact hb)) one_fst (fun q hq => .inl hq) (fun h3 hx3 => ?_)
    exact hexc er Ce _ h3 _ hX hx3
  case ret =>
    intro r tlP o' h' tk' F3 N3 hfr3 st3 hR
    have hduP : ∀ p ∈ tlP, p.1 ≠ du := fun p hp z => by
      have := hfr3 p hp
      rw [z] at this
      dsimp only at this
      rw [(N1 (du, _) (.tail _ (.tail _ (.head _)))).1] at this; cases this
    clear F1 N1 hfr3 st3
    (k_extra "st")
    refine spec_ret (tl := tlP) (led' := [(du, o')]) hret st (by assumption) (by assumption) (by assumption) (by assumption) ?_ one_fst ?_ hR
    · intro q hq
      simp only [List.mem_append, List.mem_cons, List.not_mem_nil, or_false] at hq ⊢
      rcases hq with hq | hq
      · exact .inl hq
      · exact .inr (.inr (.inr hq))
    · intro q hq b hb
      rw [List.mem_singleton.mp hb]
      exact hduP q hq
theorem put_all (w : World) (mean : ExcName → Option Value) (mg mb : Str → Option Value) (ids : List (Str × El)) (most : Int) : ∀ n, PutC w mean mg mb ids most n
  | 0 => fun G xu du di nm names v e o made hno => absurd (by rw [putE]) hno
  | n + 1 => by
    intro G xu du di nm names v e o made hno hU hb1 hb2 hb3
    k_extra "gn"; (obtain ⟨name, attrs, kids, text⟩ := e) <;> k_unfold
    by_cases hle : made + 1 > most
    · have hres : putE ids most (n + 1) made names (.mk name attrs kids text) = .limit (made + 1) := by rw [putE, if_pos hle]
      rw [hres]
      refine pspec_weak (put_limit w mean mg mb xu du di nm v o most made hU hle hb1 (by omega)) (by omega) (fun h q => ⟨(q.1 _ _ q.2.1).1, (q.1 _ _ q.2.1).2⟩) (fun _ _ _ q => q.elim) fun C l q => ?_
      k_extra "gn"; (obtain ⟨q1, o', q2, q3⟩ := q) <;> k_unfold
      exact ⟨_, o', q2, q3, .inl ⟨q1, rfl⟩⟩
    · by_cases hnu : name = Str.ofString "use"
      · exact put_use w mean mg mb ids most n (put_all w mean mg mb ids most n) G xu du di nm names v name text attrs kids o made hno hU hb1 hb2 hb3 hle hnu
      · exact put_kids w mean mg mb ids most n (put_all w mean mg mb ids most n) G xu du di nm names v name text attrs kids o made hno hU hb1 hb2 hb3 hle hnu
mutual
noncomputable def allE : El → List El
  | .mk n a kids t => .mk n a kids t :: allEs kids
noncomputable def allEs : List El → List El
  | [] => []
  | e :: es => allE e ++ allEs es
end
theorem allEs_append : ∀ a b : List El, allEs (a ++ b) = allEs a ++ allEs b
  | [], b => rfl
  | e :: a, b => by rw [List.cons_append, allEs, allEs, allEs_append a b, List.append_assoc]
theorem sizes_append : ∀ a b : List El, sizes (a ++ b) = sizes a + sizes b
  | [], b => by simp [sizes]
  | e :: a, b => by rw [List.cons_append, sizes, sizes, sizes_append a b, Nat.add_assoc]
theorem sizes_reverse : ∀ a : List El, sizes a.reverse = sizes a
  | [] => rfl
  | e :: a => by rw [List.reverse_cons, sizes_append, sizes_reverse a]; simp [sizes]; omega
theorem sizes_len : ∀ a : List El, a.length ≤ sizes a
  | [] => Nat.le_refl _
  | e :: a => by
    have := sizes_len a
    have h : 1 ≤ e.size := by cases e; simp [El.size]
    simp [sizes]; omega
theorem elsOf_rev {w : World} {G : Addr → Obj → Prop} : ∀ {vs : List Value} {es : List El}, ElsOf w G vs es → ElsOf w G vs.reverse es.reverse
  | _, _, .nil => .nil
  | _, _, .cons a b => by rw [List.reverse_cons, List.reverse_cons]; exact elsOf_snoc (elsOf_rev b) a
theorem elsOf_append {w : World} {G : Addr → Obj → Prop} : ∀ {vs us : List Value} {es fs : List El}, ElsOf w G vs es → ElsOf w G us fs → ElsOf w G (vs ++ us) (es ++ fs)
  | _, _, _, _, .nil, h => h
  | _, _, _, _, .cons a b, h => .cons a (elsOf_append b h)
theorem elsOf_last {w : World} {G : Addr → Obj → Prop} {vs : List Value} {es : List El} (h : ElsOf w G vs es) : (vs = [] ∧ es = []) ∨ ∃ us v fs e, vs = us ++ [v] ∧ es = fs ++ [e] ∧ ElsOf w G us fs ∧ ElOf w G v e := by
  k_with_none
  w_top off
  (k_with "an" => (first | assumption | exact And.left (by assumption) | exact And.left (And.right (by assumption)) | exact And.left (And.right (And.right (by assumption))) | exact And.left (And.right (And.right (And.right (by assumption)))) | exact And.left (And.right (And.right (And.right (And.right (by assumption))))) | exact And.left (And.right (And.right (And.right (And.right (And.right (by assumption)))))) | exact And.left (And.right (And.right (And.right (And.right (And.right (And.right (by assumption))))))) | exact And.left (And.right (And.right (And.right (And.right (And.right (And.right (And.right (by assumption)))))))) | exact And.left (And.right (And.right (And.right (And.right (And.right (And.right (And.right (And.right (by assumption)))))))))))
  (k_with "k_ne" => (refine neN ?_; (try dsimp only); first | (refine Nat.ne_of_lt ?_; k_extra "an") | (refine Nat.ne_of_gt ?_; k_extra "an")))
  (k_with "sub" => (first | assumption | (refine List.mem_append_left _ ?_; k_extra "sub") | (refine List.mem_append_right _ ?_; k_extra "sub") | (refine List.Mem.tail _ ?_; k_extra "sub")))
  (k_with "rm" => (first | exact room_of 1 rfl (by assumption) rfl | exact room_of 0 rfl (by assumption) rfl | exact room_of1 1 rfl (by assumption) rfl | exact room_of1 0 rfl (by assumption) rfl | ktr_room))
  (k_with "un" => (first | exact units_of 3 rfl (by assumption) rfl | exact units_of 4 rfl (by assumption) rfl | exact units_of 0 rfl (by assumption) rfl | ktr_units))
  (k_with "gn" => refine (let P9 : Prop := _; (?_ : P9)))
  (k_with "st" => (repeat' (first | ((with_reducible show wpAny _ _ (PySem.exec _ _) _ _ _); k_fold) | ((fail_if_success (fail_if_success k_unfold)); (show wpAny _ _ _ _ _ _); (try dsimp only)) | (k_unfold; (try dsimp only)) | (k_end; wrow_close) | walk1 | (dsimp only; walk1) | (leave1; walk_say "STEP leave1"; try dsimp only) | fail "no step")))
  (k_with "D" => try ((with_reducible show wpAny _ _ _ _ _ (Shared.mk (Shared.heap _) _ _ _ _)); dsimp only))
  (k_with "E0" => ((case F => k_asm); (case V => first | assumption | exact ⟨rfl, rfl, rfl⟩)))
  (k_with "E" => (k_extra "E0"; (case e => exact rfl)))
  (k_with "S" => (intro h'8q tk'8q F'8q N'8q; (try k_sweep)))
  (k_with "A" => (intro l'8q h'8q F'8q N'8q l18q; (try k_lt l18q); (try k_sweep)))
  (k_with "spliced" => (k_here; k_extra "D"; k_dflt (first | ((with_reducible refine' s_args ?V ?F ?e ?_); k_extra "E"; k_whole; (try dsimp only [List.cons_append, List.nil_append])))))
  (k_with "evalPairs" => (k_here; k_extra "D"; k_dflt (first | ((with_reducible refine' s_pair ?V ?F ?e ?f ?_); k_extra "E"; (case f => exact rfl); k_whole))))
  (k_with "eval BinOp" => (k_here; k_extra "D"; k_dflt (first | ((with_reducible refine' s_bin ?V ?F ?e ?f ?_); k_extra "E"; (case f => exact rfl); k_whole) | ((with_reducible refine' s_binL ?V ?F ?e ?_); k_extra "E"; k_whole))))
  (k_with "isTrue Compare" => (k_here; k_extra "D"; k_dflt (first | ((with_reducible refine' s_cmp ?V ?F ?e ?f ?h ?_); k_extra "E"; (case f => exact rfl); (case h => with_unfolding_all rfl); k_whole) | ((with_reducible refine' s_cmpL ?V ?F ?e ?h ?_); k_extra "E"; (case h => with_unfolding_all rfl); k_whole))))
  (k_with "eval Subscript" => (k_here; k_extra "D"; k_dflt (first | ((with_reducible refine' s_sub ?V ?F ?e ?f ?_); k_extra "E"; (case f => exact rfl); k_whole) | ((with_reducible refine' s_subL ?V ?F ?e ?_); k_extra "E"; k_whole))))
  (k_with "eval List" => (k_here; k_extra "D"; k_dflt (first | ((with_reducible refine' s_list ?V ?F ?e ?_); k_extra "E"; k_whole))))
  (k_with "eval Tuple" => (k_here; k_extra "D"; k_dflt (first | ((with_reducible refine' s_tuple ?V ?F ?e ?_); k_extra "E"; k_whole))))
  (k_with "exec Return some" => (k_here; k_extra "D"; k_dflt (first | ((with_reducible refine' s_ret ?V ?F ?e ?_); k_extra "E"; k_whole))))
  (k_with "eval Attribute Name" => (k_here; k_extra "D"; k_dflt (first | ((with_reducible refine' s_attr ?V ?F ?e ?_ ?h); k_extra "E"; (case h => with_unfolding_all rfl); k_whole))))
  (k_with "execs cons" => (k_here; k_extra "D"; k_dflt (first | k_gentoks | ((with_reducible refine' c_asgS ?V ?F ?N ?e ?x ?_ ?h); k_extra "E"; (case N => k_asm); (case x => exact rfl); (case h => exact rfl); k_whole; k_extra "S") | ((with_reducible refine' c_asg ?_ ?h); (case h => exact rfl); k_whole; (try refine (let qk8q : Value → Shared → Prop := _; (?_ : wpAny _ _ _ qk8q _ _)))) | ((with_reducible refine' c_retS ?V ?F ?e ?_); k_extra "E"; k_whole) | (with_reducible refine c_ret ?_))))
  (k_with "storeName" => (k_here; k_extra "D"; k_dflt (first | ((with_reducible refine' c_store ?V ?F ?N ?x ?_); k_extra "E0"; (case N => k_asm); (case x => exact rfl); k_whole; k_extra "S"))))
  (k_with "newList" => (k_here; k_extra "D"; k_dflt (first | ((with_reducible refine' c_newList ?F ?N ?_ ?z); (case F => k_asm); (case N => k_asm); (case z => size_fits); k_extra "A"))))
  (k_with "newTuple" => (k_here; k_extra "D"; k_dflt (first | ((with_reducible refine' c_newTuple ?F ?N ?_ ?z); (case F => k_asm); (case N => k_asm); (case z => kmk_size); k_extra "A"))))
  (k_with "binaryOp Mult int int" => (k_here; k_extra "D"; k_dflt (first | ((with_reducible refine' c_mul ?_ ?z); (case z => mul_fits)))))
  (k_with "binaryOp Add int int" => (k_here; k_extra "D"; k_dflt (first | (with_reducible refine c_add ?_))))
  (k_with "binaryOp Sub int int" => (k_here; k_extra "D"; k_dflt (first | (with_reducible refine c_sub ?_))))
  (k_with "unaryOp USub int" => (k_here; k_extra "D"; k_dflt (first | (with_reducible refine c_neg ?_))))
  (k_with "callWith ref" => (k_here; k_extra "D"; k_dflt (first | ((with_reducible refine' s_with ?V ?F ?X ?k ?e ?_); k_extra "E"; (case X => k_asm); (case k => k_is); k_whole))))
  (k_with "eval Call" => (k_here; k_extra "D"; k_dflt (first | ((with_reducible refine' s_call ?V ?F ?X ?T ?n ?x ?d ?k ?e ?_ ?h); k_extra "E"; (case x => exact rfl); (case X => k_asm); (case T => k_asm); (case d => decide); (case n => k_is); (case k => k_is); (case h => exact rfl); k_whole))))
  (k_with "eval Name" => (k_here; k_extra "D"; k_dflt (first | ((with_reducible refine' s_val ?V ?F ?e ?_); k_extra "E"; k_whole))))
  (k_with "ktr_enter" => first
  | (refine' codeG ?k1 ?k2 ?k3 ?k4 ?k5 ?kA ?kF ?kK ?k6 ?k7 ?k8 ?k9 ?kB ?_ ?c2 ?c3 ?c4 ?c5; (case kA => exact rfl); (case kF => exact rfl); (case kK => assumption); (case k1 => first | k_asm | exact topb_of rfl rfl (by k_asm)); (case k2 => k_asm); (case k3 => k_asm); (case k4 => k_asm); (case k5 => k_asm); (case k6 => k_is); (case k7 => k_is); (case k8 => (k_extra "rm")); (case k9 => first | exact BindsTo.of_eq rfl | exact binds_K (by k_in) rfl (by k_is) rfl rfl rfl); (case c5 => decide); (case kB => exact locs rfl); (case c2 => exact rfl); (case c3 => exact rfl); (case c4 => exact rfl); k_whole; intro g'9q L'9q h'9q tk'9q st'9q FG'9q F'9q N'9q B'9q X'9q T'9q l1'9q; (try dsimp only); (try k_fold)))
  (k_with "k_inst" => exact inst_base (by k_asm) (by assumption) (by assumption))
  (k_with "getMethod ref" => (k_here; (with_reducible show wpAny _ _ (getMethod (Value.ref _) (Str.ofString "get") _) _ _ _); k_dflt (refine sd_method (SDict.base (by k_asm) (by assumption)) ?_)))
  (k_with "call builtin:dict.get" => (k_here; (with_reducible show wpAny _ _ (call (Value.builtin "dict.get") [Value.ref _, Value.str _ _]) _ _ _); k_dflt (first
  | (refine sd_get1s (SDict.base (by k_asm) (by assumption)) (by assumption) ?_; intro t'9q)
  | (refine sd_get1n (SDict.base (by k_asm) (by assumption)) (by assumption) ?_)
  | (refine sd_get1 (SDict.base (by k_asm) (by assumption)) (fun hg09q => ?_) (fun v'9q t'9q hg19q => ?_)))))
  (k_with "k_room" => (k_extra "rm"))
  (k_with "subscriptTail" => (k_here; (with_reducible show wpAny _ _ (subscriptTail _ _ (Value.ref _) (Value.str _ _)) _ _ _); k_dflt (refine sd_item (SDict.base (by k_asm) (by assumption)) (by assumption) ?_); intro t'9q))
  (k_with "call ref" => (k_here; (with_reducible show wpAny _ _ (call (Value.ref _) _) _ _ _); (try k_fold); k_dflt (refine' spec_use0 ?S ?k1 ?k2 ?k3 ?k4 ?k5 ?kK ?kP ?kd ?ku ?_; (case S => assumption); (case k1 => first | k_asm | exact topb_of rfl rfl (by k_asm)); (case k2 => k_asm); (case k3 => k_asm); (case k4 => k_asm); (case k5 => k_asm); (case kK => exact rfl); (case kP => first | exact trivial | exact ElOf.base (by k_asm) (by assumption)); (case kd => (k_extra "rm")); (case ku => (k_extra "un"))); intro r'9q tl'9q h'9q tk'9q F'9q N'9q fr'9q st'9q hR'9q; (try dsimp only at hR'9q)))
  (k_with "k_mem" => ((show _ ∈ (_ ++ _ : List (Addr × Obj))); first | (refine List.mem_append_right _ ?_; k_mem) | (refine List.mem_append_left _ ?_; k_mem)))
  (k_with "call builtin:dict.get" => (k_here; (with_reducible show wpAny _ _ (call (Value.builtin "dict.get") [Value.ref _, Value.str _ _, Value.str _ _]) _ _ _); k_dflt (refine sd_get2L (SDict.base (by k_asm) (by assumption)) (by first | assumption | decide) ?_); intro t'9q hlen'9q))
  rcases List.eq_nil_or_concat es with rfl | ⟨fs, e, rfl⟩
  · cases h; exact .inl ⟨rfl, rfl⟩
  · have h2 := elsOf_rev h
    rw [List.concat_eq_append, List.reverse_append, List.reverse_singleton, List.singleton_append] at h2
    generalize hz : vs.reverse = zs at h2
    cases h2 with
    | cons a b =>
      rename_i v us
      have : vs = us.reverse ++ [v] := by rw [← List.reverse_reverse vs, hz, List.reverse_cons]
      refine .inr ⟨us.reverse, v, fs, e, this, by rw [List.concat_eq_append], ?_, a⟩
      have := elsOf_rev b
      rwa [List.reverse_reverse] at this
section
variable {prog : Program} {w : World} {A : Around} {E : Value → Shared → Prop} {s : Shared} {Q : Value → Shared → Prop} {l b : Addr}
theorem list_ne_nil {items items2 : Array Value} (hl : s.heap.IsList l items) (hb : s.heap.IsList b items2) (hsz : (items.size != items2.size) = true) (hu : A.units < cLine) (h : Q (.bool true) s) :
    wpAny (model prog w) A (compareOp .NotEq (.ref l) (.ref b)) Q E s := PySem.SeqAt.RcNeAt.lists_lengths hl hb hsz hu prog w E Q h
theorem list_ne_nil0 {items items2 : Array Value} (hl : s.heap.IsList l items) (hb : s.heap.IsList b items2) (h0 : items.size = 0) (h2 : items2.size = 0) (hu : A.units < cLine) (h : Q (.bool false) s) :
    wpAny (model prog w) A (compareOp .NotEq (.ref l) (.ref b)) Q E s := PySem.SeqAt.RcNeAt.lists (e := fun _ => true) hl hb (by rw [h0, h2]) hu (fun j h1 => absurd h1 (by rw [h0]; omega)) prog w E Q (by rw [h0]; exact h)
end
section
variable {prog : Program} {w : World} {A : Around} {E : Value → Shared → Prop} {s : Shared} {h₀ : Heap} {L D b : Addr} {m : Str → Option Value} {news : List (Addr × Obj)} {n n2 : Nat}
theorem updF_upd {d : Addr} {o o' : Obj} : ∀ {l : List (Addr × Obj)} {g : Obj → List (Addr × Obj)}, UpdF d o l g → Upd d o o' l (g o')
  | _, _, .head h => .head h
  | _, _, .tail h r => .tail h (updF_upd r)
theorem ext_any {vs vs2 : List Value} {g : Obj → List (Addr × Obj)} {Q : Value → Shared → Prop} (F : Fr h₀ L s.heap m) (N : News h₀ L s.heap news) (hb : (b, PySem.W.listOf vs2.toArray n2) ∈ news) (U : UpdF D (PySem.W.listOf vs.toArray n) news g)
    (hz : vs.length + vs2.length ≤ 1000) (h : ∀ h' k, Fr h₀ L h' m → News h₀ L h' (g (PySem.W.listOf (vs ++ vs2).toArray k)) → Q .none { s with heap := h' }) : wpAny (model prog w) A (call (.builtin "list.extend") [.ref D, .ref b]) Q E s := by
  (k_with "ite" => (first | with_reducible refine ite_ff ?_ | with_reducible refine ite_tt ?_))
  (k_with "compareOp NotEq ref ref" => (k_here; (with_reducible show wpAny _ _ (compareOp CmpOp.NotEq (Value.ref _) (Value.ref _)) _ _ _); k_dflt (first
  | refine list_ne_nil0 (News.isList (by k_asm) (by k_mem)) (News.isList (by k_asm) (by k_mem)) rfl rfl (by (k_extra "un")) ?_
  | refine list_ne_nil (News.isList (by k_asm) (by k_mem)) (News.isList (by k_asm) (by k_mem)) (by simp) (by (k_extra "un")) ?_)))
  (k_with "call builtin:list.pop" => (k_here; (with_reducible show wpAny _ _ (call (Value.builtin _) [Value.ref _]) _ _ _); k_dflt (refine kl_pop (by k_asm) (by k_asm) (kpa_last _ _) (by k_upd) (by rw [sizeLine_eq]; simp; omega) ?_); intro h'9q F'9q N'9q; (try dsimp only [List.nil_append, List.cons_append] at N'9q)))
  have hlim : ¬(!vs.toArray.isEmpty && Builtin.List.listTooLong (vs.toArray.size + vs2.toArray.size)) = true := by
    rw [List.size_toArray, List.size_toArray]
    have : Builtin.List.listTooLong (vs.length + vs2.length) = false := by unfold Builtin.List.listTooLong; simp; rw [sizeLine_eq]; omega
    rw [this, Bool.and_false]; exact Bool.false_ne_true
  cases vs2 with
  | nil => 
    refine kxn_extend F N hb rfl (updF_upd U) hlim (by rw [sizeLine_eq]; simp; omega) (by rw [sizeLine_eq]; simp; omega) fun h' F' N' => h h' n F' ?_
    rw [List.append_nil]; exact N'
  | cons x r => exact kl_extend F N hb rfl (Nat.succ_ne_zero _) (updF_upd U) hlim (by rw [sizeLine_eq]; simp; omega) (by rw [sizeLine_eq]; simp at hz ⊢; omega) fun h' F' N' => h h' _ F' N'
theorem led2 {h : Heap} {c a b : Addr} {oc oa ob : Obj} (_ : News h₀ L h [(c, oc), (a, oa), (b, ob)]) : ∃ a' b', a' = a ∧ b' = b := ⟨a, b, rfl, rfl⟩
theorem fr_m {h : Heap} (_ : Fr h₀ L h m) : ∃ m' g', m' = m ∧ g' = h₀ := ⟨m, h₀, rfl, rfl⟩
end
noncomputable def AllJ (w : World) (G : Addr → Obj → Prop) (Ld Fd : Addr) (m₀ : Str → Option Value) (e : El) (n : Nat) (m₁ : Str → Option Value) (nx : List (Addr × Obj)) : Prop :=
  ∃ u fs ls k1 k2 dn st, m₁ = (fun x => if x = Str.ofString "element" then u else m₀ x) ∧ nx = [(Ld, PySem.W.listOf (List.toArray ls) k2), (Fd, PySem.W.listOf (List.toArray fs) k1)] ∧ n = sizes st ∧ ElsOf w G fs dn ∧ ElsOf w G ls st ∧ dn ++ allEs st.reverse = allE e ∧ dn.length + sizes st ≤ 90
theorem allJ_step {w : World} {G : Addr → Obj → Prop} {g h : Heap} {L Ld Fd : Addr} {m₀ m' : Str → Option Value} {e : El} {x : Value} {fs us kvs : List Value} {k1 k2 : Nat} {dn fs' kids : List El} {name text : Str} {attrs : List (Str × Str)} {nx0 : List (Addr × Obj)}
    (hF : ElsOf w G fs dn) (hx : ElOf w G x (.mk name attrs kids text)) (hS : ElsOf w G us fs') (hK : ElsOf w G kvs kids) (hall : dn ++ allEs (fs' ++ [El.mk name attrs kids text]).reverse = allE e) (hsz : dn.length + sizes (fs' ++ [El.mk name attrs kids text]) ≤ 90)
    (N : News g L h nx0) (h1 : (Ld, PySem.W.listOf (us ++ kvs.reverse).toArray k2) ∈ nx0) (h2 : (Fd, PySem.W.listOf (fs.toArray.push x) k1) ∈ nx0) (hm : m' = fun y => if y = Str.ofString "element" then some x else m₀ y) :
    ∃ nx n', News g L h nx ∧ n' < sizes (fs' ++ [El.mk name attrs kids text]) ∧ AllJ w G Ld Fd m₀ e n' m' nx := by
  (k_with "subscriptTail Name Slice ref ref" => (k_here; (with_reducible show wpAny _ _ (subscriptTail _ (PySem.Expr.Slice none none (some _) _) (Value.ref _) (Value.ref _)) _ _ _); k_dflt (refine' krv_lit ?F ?N ?l ?k ?e ?_ ?s ?t ?z; (case F => k_asm); (case N => k_asm); (case l => exact list_of_get (Fr.keep (by k_asm) _ _ (by assumption))); (case k => exact IsPart.int _ _); (case e => exact rfl); (case s => with_unfolding_all rfl); (case t => kmk_pure); (case z => rw [List.size_toArray, sizeLine_eq]; omega)); intro D'9q h'9q F'9q N'9q l19q; (try k_lt l19q)))
  (k_with "subscriptTail Attribute Slice ref ref" => (k_here; (with_reducible show wpAny _ _ (subscriptTail _ (PySem.Expr.Slice none none (some _) _) (Value.ref _) (Value.ref _)) _ _ _); k_dflt (refine' krv_lit ?F ?N ?l ?k ?e ?_ ?s ?t ?z; (case F => k_asm); (case N => k_asm); (case l => exact list_of_get (Fr.keep (by k_asm) _ _ (by assumption))); (case k => exact IsPart.int _ _); (case e => exact rfl); (case s => with_unfolding_all rfl); (case t => kmk_pure); (case z => rw [List.size_toArray, sizeLine_eq]; omega)); intro D'9q h'9q F'9q N'9q l19q; (try k_lt l19q)))
  (k_with "call builtin:list.extend" => (k_here; (with_reducible show wpAny _ _ (call (Value.builtin _) [Value.ref _, Value.ref _]) _ _ _); k_dflt (refine ext_any (by k_asm) (by k_asm) (by k_mem) (by k_updF) (by simp only [List.length_reverse]; show _ + List.length _ ≤ _; omega) ?_); intro h'9q k'9q F'9q N'9q; (try dsimp only at N'9q)))
  have hz : sizes (fs' ++ [El.mk name attrs kids text]) = sizes fs' + (sizes kids + 1) := by rw [sizes_append]; simp [sizes, El.size]
  rw [hz] at hsz ⊢
  have hz2 : sizes (fs' ++ kids.reverse) = sizes fs' + sizes kids := by rw [sizes_append, sizes_reverse]
  refine ⟨[(Ld, PySem.W.listOf (us ++ kvs.reverse).toArray k2), (Fd, PySem.W.listOf (fs ++ [x]).toArray k1)], sizes (fs' ++ kids.reverse), fun p hp => N p ?_, by omega, some x, fs ++ [x], us ++ kvs.reverse, k1, k2, dn ++ [El.mk name attrs kids text], fs' ++ kids.reverse, hm, rfl, rfl, elsOf_snoc hF hx, elsOf_append hS (elsOf_rev hK), ?_, ?_⟩
  · rcases List.mem_cons.mp hp with rfl | hp
    · exact h1
    · rw [List.mem_singleton.mp hp]; rwa [List.push_toArray] at h2
  · rw [← hall]; simp only [List.reverse_append, List.reverse_reverse, List.reverse_singleton, List.singleton_append, List.append_assoc, allEs, allE, allEs_append, List.cons_append, List.nil_append]
  · rw [List.length_append, hz2]; simp; omega
theorem all_spec (w : World) (mean : ExcName → Option Value) (mg mb : Str → Option Value) (G : Addr → Obj → Prop) (v : Value) (e : El) (hsz : El.size e ≤ 90) :
  Spec w mean mg mb 28 [v] [] 4 (fun h => (∀ a o, G a o → h.get? a = some o) ∧ ElOf w G v e) (fun r _ tl => ∃ D vs k, r = .ref D ∧ (D, PySem.W.listOf (List.toArray vs) k) ∈ tl ∧ ElsOf w G vs (allE e)) := by
  unfold Spec
  k_fill
  intro dp un gd cn cs a' ccd cl' outer A₀ base h₀ L m s Q E B F X N T hk hP hd hu hret
  refine wpAny_call ?_
  k_dflt ktr_enter
  first | refine (let ak : Around := _; let nk : Env := _; let sg9 : Array GenState := _; let sd9 : Drawn := _; let so9 : OsState := _; (?_ : wpAny _ ak (execs _ nk) _ _ (Shared.mk _ sg9 sd9 _ so9))) | refine (let ak : Around := _; let nk : Env := _; (?_ : wpAny _ ak (execs _ nk) _ _ _))
  try (have TB9 : TopB ak _ _ (dp + 1) (un + 3) := topb_of rfl rfl (by assumption))
  try (have FE9 : FnE nk L'9q := ⟨rfl, rfl, rfl⟩)
  try (rename Fr _ _ _ (fun y => List.lookup y (List.reverse _)) => FX9; replace FX9 := fr_binds [(Str.ofString "root", (v : Value))] rfl FX9)
  rename Stood _ _ _ => st
  obtain ⟨hG, hE⟩ := hP
  have hG' : ∀ a o, G a o → _ := fun a o q => st a o (hG a o q) (fun h => nomatch h)
  repeat ((fail_if_success (with_reducible show wpAny _ _ (exec (Stmt.While _ _ _ _) _) _ _ _)); first | ((with_reducible show wpAny _ _ (PySem.exec _ _) _ _ _); k_fold) | ((fail_if_success (fail_if_success k_unfold)); (show wpAny _ _ _ _ _ _); (try dsimp only)) | (k_unfold; (try dsimp only)) | (k_end; wrow_close) | walk1 | (dsimp only; walk1) | (leave1; walk_say "STEP lea"))
  rename (_ < _) => hFL
  rename News _ _ _ _ => N1
  rename Fr _ _ _ _ => F1
  k_extra "gn"; (obtain ⟨Ld, Fd, e1, e2⟩ := led2 N1) <;> k_unfold
  k_extra "gn"; (obtain ⟨m₀, g₁, hm₀, e3⟩ := fr_m F1) <;> k_unfold
  subst e1 e2 e3
  replace N1 := fun p hp => N1 p (List.Mem.tail _ hp)
  rw [← hm₀] at F1
  refine wpAny_mono (While_inv2 (E := fun _ _ => False) (AllJ w G Ld Fd m₀ e)
    F1 N1 ⟨none, [], [v], _, _, [], [e], ?i1, rfl, rfl, .nil, .cons hE .nil, ?i2, ?i3⟩ ?turn PassesOwn.never) (fun _ _ q => q) (fun _ _ q => q.elim)
  case i1 => 
    subst hm₀
    funext x
    by_cases hx : x = Str.ofString "element"
    · subst hx; rfl
    · rw [if_neg hx]
  case i2 => simp [allEs]
  case i3 => simp [sizes]; omega
  case turn =>
    rintro n m₁ nx h tk F2 N2 ⟨u, fs, ls, k1, k2, dn, st, rfl, rfl, rfl, hF, hS, hall, hsz2⟩
    clear F1 N1
    have hnm : ∀ v' y, (fun z => if z = Str.ofString "element" then v' else if z = Str.ofString "element" then y else m₀ z) = (fun z => if z = Str.ofString "element" then v' else m₀ z) := fun v' y => by
      funext z
      by_cases hz : z = Str.ofString "element"
      · rw [if_pos hz, if_pos hz]
      · rw [if_neg hz, if_neg hz, if_neg hz]
    subst hm₀
    have hll := hS.length
    have hfl := hF.length
    have hl3 := sizes_len st
    have hfl2 : fs.length ≤ 90 := by omega
    have hll2 : ls.length ≤ 90 := by omega
    clear hll hfl hl3
    k_extra "gn"; (rcases elsOf_last hS with ⟨rfl, rfl⟩ | ⟨us, x, fs', e1, rfl, rfl, hS1, hx⟩) <;> k_unfold
    · (k_extra "st")
      rename News _ _ _ _ => N9
      simp only [List.reverse_nil, allEs, List.append_nil] at hall
      subst hall
      exact spec_ret0 hret st (by assumption) (by assumption) (by assumption) (by assumption) [(Fd, PySem.W.listOf (List.toArray fs) k1)] (by intro q hq; rw [List.mem_singleton.mp hq]; k_mem) ⟨Fd, fs, _, rfl, .head _, hF⟩
    · have hus : us.length ≤ 90 := by rw [List.length_append] at hll2; omega
      cases hx with | mk a1 a2 a3 a4 a5 a6 =>
      have b1 := hG' _ _ a1
      have b2 := hG' _ _ a2
      have b4 := hG' _ _ a4
      (k_extra "st")
      rename News _ _ _ _ => N9
      k_extra "gn"; (obtain ⟨nx, n', q1, q2, q3⟩ := allJ_step hF (.mk a1 a2 a3 a4 a5 a6) hS1 a6 hall hsz2 N9 (by k_mem) (by k_mem) (hnm _ _)) <;> k_unfold
      exact ⟨_, _, _, nx, n', rfl, by k_asm, q1, q2, q3⟩
noncomputable def ListEnd (h₀ : Heap) (L I : Addr) (oI : Obj) (D : Addr) (oD : Obj) (J : (Str → Option Value) → List (Addr × Obj) → Prop) (s₁ : Shared) (f : Flow) (s₂ : Shared) : Prop :=
  f = .next ∧ ∃ h' tk m₂ nw, s₂ = { s₁ with heap := h', toks := tk } ∧ Fr h₀ L h' m₂ ∧ News h₀ L h' ((I, oI) :: (D, oD) :: nw) ∧ (∀ p ∈ nw, p.1 ≠ I ∧ p.1 ≠ D) ∧ J m₂ nw
theorem iter_list {prog : Program} {w : World} {A : Around} {E : Value → Shared → Prop} {s : Shared} {env : Env} {h₀ : Heap} {x : Str} {body : List Stmt} {Q : Flow → Shared → Prop} {m : Str → Option Value} {news : List (Addr × Obj)} {D : Addr} {vs : List Value} {k : Nat}
    (hh : A.handled = none) (F : Fr h₀ env.locals s.heap m) (N : News h₀ env.locals s.heap ((D, PySem.W.listOf vs.toArray k) :: news)) (hoff : ∀ p ∈ news, p.1 ≠ D)
    (J : Nat → (Str → Option Value) → List (Addr × Obj) → Prop) (h0 : J 0 m news)
    (turn : ∀ (i : Nat) v (m₁ : Str → Option Value) h tk I oI oD nw, vs[i]? = some v → J i m₁ nw → Fr h₀ env.locals h (fun y => if y = x then some v else m₁ y) → News h₀ env.locals h ((I, oI) :: (D, oD) :: nw) → I ≠ D → (∀ p ∈ nw, p.1 ≠ I ∧ p.1 ≠ D) →
      wpAny (model prog w) A (execs body env) (ListEnd h₀ env.locals I oI D oD (J (i + 1)) { s with heap := h, toks := tk }) E { s with heap := h, toks := tk })
    (done : ∀ h' tk m₁ nw, Fr h₀ env.locals h' m₁ → News h₀ env.locals h' nw → J vs.length m₁ nw → Q .next { s with heap := h', toks := tk }) :
    wpAny (model prog w) A (pyIter (.ref D)) (fun it s₂ => LoopAtV prog w A h₀ env x body Q E it s₂) E s := by
  k_with_none
  w_top off
  (k_with "an" => (first | assumption | exact And.left (by assumption) | exact And.left (And.right (by assumption)) | exact And.left (And.right (And.right (by assumption))) | exact And.left (And.right (And.right (And.right (by assumption)))) | exact And.left (And.right (And.right (And.right (And.right (by assumption))))) | exact And.left (And.right (And.right (And.right (And.right (And.right (by assumption)))))) | exact And.left (And.right (And.right (And.right (And.right (And.right (And.right (by assumption))))))) | exact And.left (And.right (And.right (And.right (And.right (And.right (And.right (And.right (by assumption)))))))) | exact And.left (And.right (And.right (And.right (And.right (And.right (And.right (And.right (And.right (by assumption)))))))))))
  (k_with "k_ne" => (refine neN ?_; (try dsimp only); first | (refine Nat.ne_of_lt ?_; k_extra "an") | (refine Nat.ne_of_gt ?_; k_extra "an")))
  (k_with "sub" => (first | assumption | (refine List.mem_append_left _ ?_; k_extra "sub") | (refine List.mem_append_right _ ?_; k_extra "sub") | (refine List.Mem.tail _ ?_; k_extra "sub")))
  (k_with "rm" => (first | exact room_of 1 rfl (by assumption) rfl | exact room_of 0 rfl (by assumption) rfl | exact room_of1 1 rfl (by assumption) rfl | exact room_of1 0 rfl (by assumption) rfl | ktr_room))
  (k_with "un" => (first | exact units_of 3 rfl (by assumption) rfl | exact units_of 4 rfl (by assumption) rfl | exact units_of 0 rfl (by assumption) rfl | ktr_units))
  (k_with "gn" => refine (let P9 : Prop := _; (?_ : P9)))
  (k_with "st" => (repeat' (first | ((with_reducible show wpAny _ _ (PySem.exec _ _) _ _ _); k_fold) | ((fail_if_success (fail_if_success k_unfold)); (show wpAny _ _ _ _ _ _); (try dsimp only)) | (k_unfold; (try dsimp only)) | (k_end; wrow_close) | walk1 | (dsimp only; walk1) | (leave1; walk_say "STEP leave1"; try dsimp only) | fail "no step")))
  (k_with "D" => try ((with_reducible show wpAny _ _ _ _ _ (Shared.mk (Shared.heap _) _ _ _ _)); dsimp only))
  (k_with "E0" => ((case F => k_asm); (case V => first | assumption | exact ⟨rfl, rfl, rfl⟩)))
  (k_with "E" => (k_extra "E0"; (case e => exact rfl)))
  (k_with "S" => (intro h'8q tk'8q F'8q N'8q; (try k_sweep)))
  (k_with "A" => (intro l'8q h'8q F'8q N'8q l18q; (try k_lt l18q); (try k_sweep)))
  (k_with "spliced" => (k_here; k_extra "D"; k_dflt (first | ((with_reducible refine' s_args ?V ?F ?e ?_); k_extra "E"; k_whole; (try dsimp only [List.cons_append, List.nil_append])))))
  (k_with "evalPairs" => (k_here; k_extra "D"; k_dflt (first | ((with_reducible refine' s_pair ?V ?F ?e ?f ?_); k_extra "E"; (case f => exact rfl); k_whole))))
  (k_with "eval BinOp" => (k_here; k_extra "D"; k_dflt (first | ((with_reducible refine' s_bin ?V ?F ?e ?f ?_); k_extra "E"; (case f => exact rfl); k_whole) | ((with_reducible refine' s_binL ?V ?F ?e ?_); k_extra "E"; k_whole))))
  (k_with "isTrue Compare" => (k_here; k_extra "D"; k_dflt (first | ((with_reducible refine' s_cmp ?V ?F ?e ?f ?h ?_); k_extra "E"; (case f => exact rfl); (case h => with_unfolding_all rfl); k_whole) | ((with_reducible refine' s_cmpL ?V ?F ?e ?h ?_); k_extra "E"; (case h => with_unfolding_all rfl); k_whole))))
  (k_with "eval Subscript" => (k_here; k_extra "D"; k_dflt (first | ((with_reducible refine' s_sub ?V ?F ?e ?f ?_); k_extra "E"; (case f => exact rfl); k_whole) | ((with_reducible refine' s_subL ?V ?F ?e ?_); k_extra "E"; k_whole))))
  (k_with "eval List" => (k_here; k_extra "D"; k_dflt (first | ((with_reducible refine' s_list ?V ?F ?e ?_); k_extra "E"; k_whole))))
  (k_with "eval Tuple" => (k_here; k_extra "D"; k_dflt (first | ((with_reducible refine' s_tuple ?V ?F ?e ?_); k_extra "E"; k_whole))))
  (k_with "exec Return some" => (k_here; k_extra "D"; k_dflt (first | ((with_reducible refine' s_ret ?V ?F ?e ?_); k_extra "E"; k_whole))))
  (k_with "eval Attribute Name" => (k_here; k_extra "D"; k_dflt (first | ((with_reducible refine' s_attr ?V ?F ?e ?_ ?h); k_extra "E"; (case h => with_unfolding_all rfl); k_whole))))
  (k_with "execs cons" => (k_here; k_extra "D"; k_dflt (first | k_gentoks | ((with_reducible refine' c_asgS ?V ?F ?N ?e ?x ?_ ?h); k_extra "E"; (case N => k_asm); (case x => exact rfl); (case h => exact rfl); k_whole; k_extra "S") | ((with_reducible refine' c_asg ?_ ?h); (case h => exact rfl); k_whole; (try refine (let qk8q : Value → Shared → Prop := _; (?_ : wpAny _ _ _ qk8q _ _)))) | ((with_reducible refine' c_retS ?V ?F ?e ?_); k_extra "E"; k_whole) | (with_reducible refine c_ret ?_))))
  (k_with "storeName" => (k_here; k_extra "D"; k_dflt (first | ((with_reducible refine' c_store ?V ?F ?N ?x ?_); k_extra "E0"; (case N => k_asm); (case x => exact rfl); k_whole; k_extra "S"))))
  (k_with "newList" => (k_here; k_extra "D"; k_dflt (first | ((with_reducible refine' c_newList ?F ?N ?_ ?z); (case F => k_asm); (case N => k_asm); (case z => size_fits); k_extra "A"))))
  (k_with "newTuple" => (k_here; k_extra "D"; k_dflt (first | ((with_reducible refine' c_newTuple ?F ?N ?_ ?z); (case F => k_asm); (case N => k_asm); (case z => kmk_size); k_extra "A"))))
  (k_with "binaryOp Mult int int" => (k_here; k_extra "D"; k_dflt (first | ((with_reducible refine' c_mul ?_ ?z); (case z => mul_fits)))))
  (k_with "binaryOp Add int int" => (k_here; k_extra "D"; k_dflt (first | (with_reducible refine c_add ?_))))
  (k_with "binaryOp Sub int int" => (k_here; k_extra "D"; k_dflt (first | (with_reducible refine c_sub ?_))))
  (k_with "unaryOp USub int" => (k_here; k_extra "D"; k_dflt (first | (with_reducible refine c_neg ?_))))
  (k_with "callWith ref" => (k_here; k_extra "D"; k_dflt (first | ((with_reducible refine' s_with ?V ?F ?X ?k ?e ?_); k_extra "E"; (case X => k_asm); (case k => k_is); k_whole))))
  (k_with "eval Call" => (k_here; k_extra "D"; k_dflt (first | ((with_reducible refine' s_call ?V ?F ?X ?T ?n ?x ?d ?k ?e ?_ ?h); k_extra "E"; (case x => exact rfl); (case X => k_asm); (case T => k_asm); (case d => decide); (case n => k_is); (case k => k_is); (case h => exact rfl); k_whole))))
  (k_with "eval Name" => (k_here; k_extra "D"; k_dflt (first | ((with_reducible refine' s_val ?V ?F ?e ?_); k_extra "E"; k_whole))))
  (k_with "ktr_enter" => first
  | (refine' codeG ?k1 ?k2 ?k3 ?k4 ?k5 ?kA ?kF ?kK ?k6 ?k7 ?k8 ?k9 ?kB ?_ ?c2 ?c3 ?c4 ?c5; (case kA => exact rfl); (case kF => exact rfl); (case kK => assumption); (case k1 => first | k_asm | exact topb_of rfl rfl (by k_asm)); (case k2 => k_asm); (case k3 => k_asm); (case k4 => k_asm); (case k5 => k_asm); (case k6 => k_is); (case k7 => k_is); (case k8 => (k_extra "rm")); (case k9 => first | exact BindsTo.of_eq rfl | exact binds_K (by k_in) rfl (by k_is) rfl rfl rfl); (case c5 => decide); (case kB => exact locs rfl); (case c2 => exact rfl); (case c3 => exact rfl); (case c4 => exact rfl); k_whole; intro g'9q L'9q h'9q tk'9q st'9q FG'9q F'9q N'9q B'9q X'9q T'9q l1'9q; (try dsimp only); (try k_fold)))
  (k_with "k_inst" => exact inst_base (by k_asm) (by assumption) (by assumption))
  (k_with "getMethod ref" => (k_here; (with_reducible show wpAny _ _ (getMethod (Value.ref _) (Str.ofString "get") _) _ _ _); k_dflt (refine sd_method (SDict.base (by k_asm) (by assumption)) ?_)))
  (k_with "call builtin:dict.get" => (k_here; (with_reducible show wpAny _ _ (call (Value.builtin "dict.get") [Value.ref _, Value.str _ _]) _ _ _); k_dflt (first
  | (refine sd_get1s (SDict.base (by k_asm) (by assumption)) (by assumption) ?_; intro t'9q)
  | (refine sd_get1n (SDict.base (by k_asm) (by assumption)) (by assumption) ?_)
  | (refine sd_get1 (SDict.base (by k_asm) (by assumption)) (fun hg09q => ?_) (fun v'9q t'9q hg19q => ?_)))))
  (k_with "k_room" => (k_extra "rm"))
  (k_with "subscriptTail" => (k_here; (with_reducible show wpAny _ _ (subscriptTail _ _ (Value.ref _) (Value.str _ _)) _ _ _); k_dflt (refine sd_item (SDict.base (by k_asm) (by assumption)) (by assumption) ?_); intro t'9q))
  (k_with "call ref" => (k_here; (with_reducible show wpAny _ _ (call (Value.ref _) _) _ _ _); (try k_fold); k_dflt (refine' spec_use0 ?S ?k1 ?k2 ?k3 ?k4 ?k5 ?kK ?kP ?kd ?ku ?_; (case S => assumption); (case k1 => first | k_asm | exact topb_of rfl rfl (by k_asm)); (case k2 => k_asm); (case k3 => k_asm); (case k4 => k_asm); (case k5 => k_asm); (case kK => exact rfl); (case kP => first | exact trivial | exact ElOf.base (by k_asm) (by assumption)); (case kd => (k_extra "rm")); (case ku => (k_extra "un"))); intro r'9q tl'9q h'9q tk'9q F'9q N'9q fr'9q st'9q hR'9q; (try dsimp only at hR'9q)))
  (k_with "k_mem" => ((show _ ∈ (_ ++ _ : List (Addr × Obj))); first | (refine List.mem_append_right _ ?_; k_mem) | (refine List.mem_append_left _ ?_; k_mem)))
  (k_with "call builtin:dict.get" => (k_here; (with_reducible show wpAny _ _ (call (Value.builtin "dict.get") [Value.ref _, Value.str _ _, Value.str _ _]) _ _ _); k_dflt (refine sd_get2L (SDict.base (by k_asm) (by assumption)) (by first | assumption | decide) ?_); intro t'9q hlen'9q))
  have hD0 := N (D, _) (.head _)
  have hat : s.heap.IsList D vs.toArray := list_of_get hD0.1
  have hlt : D < s.heap.objs.size := Heap.lt_size hD0.1
  refine wpAny_pyIter_list hat ?_
  have up : ∀ b o', s.heap.get? b = some o' → (s.heap.push { cls := .type "list_iterator", data := .fields #[.ref D, .int 0 0] }).get? b = some o' := fun b o' e => Heap.get?_push_of_some _ e
  have hI0 : h₀.get? s.heap.objs.size = none := next_is_new F
  have hLI : env.locals ≠ s.heap.objs.size := Nat.ne_of_lt F.ns.lt
  refine ex9 s.heap.objs.size _ _ _ _ _ m news (fun i m₁ nw => (∀ p ∈ nw, p.1 ≠ D) ∧ J i m₁ nw) ⟨rfl, Walks.list hh s.heap.objs.size D (Nat.ne_of_lt hlt) vs.toArray, ?_, ?_, ?_, ?_, F.keeps up, (fun p hp => N.grown up p (.tail _ hp)), ⟨hoff, h0⟩, ?_, ?_⟩
  · intro hm
    rcases List.mem_cons.mp hm with h | h
    · exact hLI h
    · exact hD0.2.1 (List.mem_singleton.mp h).symm
  · intro b hb; rw [List.mem_singleton.mp hb]; exact hI0
  · intro p hp hm; exact absurd (Heap.lt_size (N p (.tail _ hp)).1) (by rw [List.mem_singleton.mp hm]; exact Nat.lt_irrefl _)
  · exact ⟨⟨_, Heap.get?_push_size _ rfl, rfl, rfl⟩, list_of_get (up _ _ hD0.1)⟩
  · rintro i v m₁ news₁ s₁ own ⟨h, tk, rfl⟩ hi hv ⟨hoff1, hJ⟩ hn1 hsub hget hall st F₁ N₁
    obtain ⟨oI, hoI, _⟩ := st.1
    obtain ⟨oD, hoD, _⟩ := st.2
    have hown : ∀ p ∈ own, p = (s.heap.objs.size, oI) ∨ p = (D, oD) := fun p hp => by
      have a1 := hsub p hp
      have a2 := hget p hp
      obtain ⟨b, ob⟩ := p
      rcases List.mem_cons.mp a1 with h | h
      · dsimp only at h a2
        subst h
        rw [hoI] at a2; cases a2; exact .inl rfl
      · have h' : b = D := List.mem_singleton.mp h
        subst h'
        dsimp only at a2
        rw [hoD] at a2; cases a2; exact .inr rfl
    have hmI : (s.heap.objs.size, oI) ∈ own := hall _ (by simp) hI0 _ hoI
    have hmD : (D, oD) ∈ own := hall _ (by simp) hD0.2.2 _ hoD
    have N₂ : News h₀ env.locals h ((s.heap.objs.size, oI) :: (D, oD) :: news₁) := fun p hp => by
      rcases List.mem_cons.mp hp with rfl | hp
      · exact N₁ _ (List.mem_append_left _ hmI)
      · rcases List.mem_cons.mp hp with rfl | hp
        · exact N₁ _ (List.mem_append_left _ hmD)
        · exact N₁ _ (List.mem_append_right _ hp)
    refine wpAny_mono (turn i v m₁ h tk _ oI oD news₁ (by simpa using hv) hJ F₁ N₂ (Ne.symm (Nat.ne_of_lt hlt)) (fun p hp => ⟨fun e => hn1 p hp (by rw [e]; exact List.mem_singleton.mpr rfl), hoff1 p hp⟩)) (fun f s₂ hE => ?_) fun _ _ e => e
    k_extra "gn"; (obtain ⟨rfl, h', tk', m₂, nw, rfl, F', N', ne', hJ'⟩ := hE) <;> k_unfold
    refine LoopStepV.next ⟨rfl, h', tk', _, nw, rfl, F', fun p hp => ?_, fun p hp e => (ne' p hp).1 (List.mem_singleton.mp e), fun p hp => (ne' p hp).2, hJ'⟩
    rcases List.mem_append.mp hp with hp | hp
    · rcases hown p hp with h | h
      · rw [h]; exact N' _ (.head _)
      · rw [h]; exact N' _ (.tail _ (.head _))
    · exact N' _ (.tail _ (.tail _ hp))
  · rintro h' tk m' news' F' N' hn' ⟨_, hJ⟩
    exact done h' tk m' news' F' N' (by simpa using hJ)
noncomputable def idStep (acc : List (Str × El)) : El → List (Str × El)
  | .mk n a k t => match a.lookup (Str.ofString "id") with
    | none => acc
    | some i => match acc.lookup i with
      | some _ => acc
      | none => acc ++ [(i, .mk n a k t)]
noncomputable def idsE (es : List El) : List (Str × El) := es.foldl idStep []
theorem idsE_take {es : List El} {i : Nat} {e : El} (h : es[i]? = some e) : idsE (es.take (i + 1)) = idStep (idsE (es.take i)) e := by
  rw [List.take_add_one, h]; unfold idsE; rw [List.foldl_append]; rfl
theorem idsAre_put {w : World} {G : Addr → Obj → Prop} {kvs : List (Str × Value)} {ids : List (Str × El)} {k : Str} {v : Value} {e : El} (h : IdsAre w G kvs ids) (hl : ids.lookup k = none) (hE : ElOf w G v e) : IdsAre w G (stored kvs k v) (ids ++ [(k, e)]) := by
  have e1 : kvs.any (fun p => decide (p.1 = k)) = false := by
    induction h with
    | nil => rfl
    | @cons k' v' e' kvs ids hE' _ ih =>
      rw [List.lookup_cons] at hl
      by_cases hk : k = k'
      · subst hk; simp at hl
      · have h1 : (k == k') = false := beq_eq_false_iff_ne.mpr hk
        rw [h1] at hl
        rw [List.any_cons, ih hl, Bool.or_false]
        exact decide_eq_false fun q => hk q.symm
  unfold stored
  rw [if_neg (by rw [e1]; exact Bool.false_ne_true)]
  clear e1 hl
  induction h with
  | nil => exact .cons k hE .nil
  | cons k' a _ ih => exact .cons k' a ih
theorem idsAre_len {w : World} {G : Addr → Obj → Prop} {kvs : List (Str × Value)} {ids : List (Str × El)} (h : IdsAre w G kvs ids) : kvs.length = ids.length := by
  induction h with
  | nil => rfl
  | cons _ _ _ ih => rw [List.length_cons, List.length_cons, ih]
theorem idsE_len {es : List El} : (idsE es).length ≤ es.length := by
  have key : ∀ (es : List El) (acc : List (Str × El)), (es.foldl idStep acc).length ≤ acc.length + es.length := by
    intro es
    induction es with
    | nil => intro acc; simp
    | cons e es ih =>
      intro acc
      have h1 : (idStep acc e).length ≤ acc.length + 1 := by
        k_extra "gn"; (obtain ⟨n, a, k, t⟩ := e) <;> k_unfold
        unfold idStep
        dsimp only
        split
        · omega
        · split
          · omega
          · rw [List.length_append]; simp
      have := ih (idStep acc e)
      rw [List.foldl_cons, List.length_cons]; omega
  have := key es []
  simpa [idsE] using this
theorem ids_set {w : World} {A : Around} {E : Value → Shared → Prop} {s : Shared} {h₀ : Heap} {L d : Addr} {o : Obj} {m : Str → Option Value} {news : List (Addr × Obj)} {g : Obj → List (Addr × Obj)} {ids : List (Str × El)} {k : Str} {v : Value} {e : El} {tk : Tok} {G : Addr → Obj → Prop} {kvs : List (Str × Value)} {Q : Unit → Shared → Prop}
    (F : Fr h₀ L s.heap m) (N : News h₀ L s.heap news) (U : UpdF d o news g) (hd : o.IsDictOf (PySem.strKind PG w) kvs) (hA : IdsAre w G kvs ids) (hl : kvs.length ≤ 99) (hk : ids.lookup k = none) (hE : ElOf w G v e)
    (h : ∀ h' o' kvs', Fr h₀ L h' m → News h₀ L h' (g o') → o'.IsDictOf (PySem.strKind PG w) kvs' → IdsAre w G kvs' (ids ++ [(k, e)]) → Q () { s with heap := h', toks := s.toks + 1 }) :
    wpAny (model PG w) A (setItem (.ref d) (.str k tk) v) Q E s := by
  refine kda_set F N U hd (strKind_is PG w k tk) (by rw [sizeLine_eq]; omega) fun h' o' F' N' hd' => ?_
  exact h h' o' _ F' N' hd' (idsAre_put hA hk hE)
theorem keepGU {g h : Heap} {L : Addr} {m : Str → Option Value} {G : Addr → Obj → Prop} {tl news : List (Addr × Obj)} (F : Fr g L h m) (N : News g L h news) (hm : ∀ q ∈ tl, q ∈ news) (hg : ∀ a o, G a o → g.get? a = some o) : ∀ a o, GU G tl a o → h.get? a = some o := fun a o q => q.elim (fun q => F.keep a o (hg a o q)) (fun q => (N _ (hm _ q)).1)
theorem id_spec (w : World) (mean : ExcName → Option Value) (mg mb : Str → Option Value) (G : Addr → Obj → Prop) (v : Value) (e : El) (hsz : El.size e ≤ 90) (hsz2 : (allE e).length ≤ 90) :
  Spec w mean mg mb 35 [v] [] 6 (fun h => (∀ a o, G a o → h.get? a = some o) ∧ ElOf w G v e) (fun r _ tl => ∃ d, r = .ref d ∧ IdsOf w (GU G tl) d (idsE (allE e))) := by
  (k_with "ite" => (first | with_reducible refine ite_ff ?_ | with_reducible refine ite_tt ?_))
  (k_with "compareOp NotIn str ref" => (k_here; k_dflt (first
  | refine ids_notinY (by assumption) (keepGU (by k_asm) (by k_asm) (by intro q9q hq9q; rw [List.mem_singleton.mp hq9q]; k_mem) (by assumption)) (by assumption) ?_
  | refine ids_notinN (by assumption) (keepGU (by k_asm) (by k_asm) (by intro q9q hq9q; rw [List.mem_singleton.mp hq9q]; k_mem) (by assumption)) (by assumption) ?_)))
  (k_with "exec For Name Call cons nil" => (k_here; k_dflt (refine For_invVF (by k_asm) (by rfl) (by rfl) ?_)))
  (k_with "call ref" => (k_here; (with_reducible show wpAny _ _ (call (Value.ref 28) _) _ _ _); (try k_fold); k_dflt ((refine' spec_use0 (all_spec _ _ _ _ _ _ _ (by assumption)) ?k1 ?k2 ?k3 ?k4 ?k5 ?kK ?kP ?kd ?ku ?_; (case k1 => first | k_asm | exact topb_of rfl rfl (by k_asm)); (case k2 => k_asm); (case k3 => k_asm); (case k4 => k_asm); (case k5 => k_asm); (case kK => exact rfl); (case kP => (exact ⟨keepG (by k_asm) (by assumption), by assumption⟩)); (case kd => (k_extra "rm")); (case ku => (k_extra "un")))); intro r'9q tlA h'9q tk'9q F'9q N'9q fr'9q st'9q hR'9q; (try dsimp only)))
  unfold Spec
  k_fill
  intro dp un gd cn cs a' ccd cl' outer A₀ base h₀ L m s Q E B F X N T hk hP hd hu hret
  refine wpAny_call ?_
  k_dflt ktr_enter
  first | refine (let ak : Around := _; let nk : Env := _; let sg9 : Array GenState := _; let sd9 : Drawn := _; let so9 : OsState := _; (?_ : wpAny _ ak (execs _ nk) _ _ (Shared.mk _ sg9 sd9 _ so9))) | refine (let ak : Around := _; let nk : Env := _; (?_ : wpAny _ ak (execs _ nk) _ _ _))
  try (have TB9 : TopB ak _ _ (dp + 1) (un + 3) := topb_of rfl rfl (by assumption))
  try (have FE9 : FnE nk L'9q := ⟨rfl, rfl, rfl⟩)
  try (rename Fr _ _ _ (fun y => List.lookup y (List.reverse _)) => FX9; replace FX9 := fr_binds [(Str.ofString "root", (v : Value))] rfl FX9)
  rename Stood _ _ _ => st
  obtain ⟨hG, hE⟩ := hP
  have hG' : ∀ a o, G a o → _ := fun a o q => st a o (hG a o q) (fun h => nomatch h)
  (k_extra "st")
  rename (∀ q ∈ _, Heap.get? _ _ = none) => hfr1
  rename (∃ D vs k, _) => hR1
  k_extra "gn"; (obtain ⟨D, vs, kk, hr, hDm, hvs⟩ := hR1) <;> k_unfold
  subst hr
  rename Obj.IsDictOf (intKind _ _) _ [] => hzi
  rename Obj.IsDictOf (PySem.strKind _ _) _ [] => hz
  clear hzi
  rename (_ == sysModules) = false => lo1
  rename News _ _ _ (tlA ++ _) => N1
  rename Fr _ _ _ _ => F1
  rename News _ _ _ [(_, _)] => N0
  obtain ⟨Fo, hFo⟩ := news_hd N0
  k_extra "gn"; (obtain ⟨m₀, g₁, hm₀, e3⟩ := fr_m F1) <;> k_unfold
  subst hFo e3
  rw [← hm₀] at F1
  have hDF : D ≠ Fo := fresh_off hfr1 (news_get1 N0) _ hDm
  refine iter_list rfl F1 (news := [(Fo, _)]) (D := D) (vs := vs) (k := kk) (fun p hp => N1 p ?sub) ?off (fun i m₁ nw => ∃ u v o1 kvs, m₁ = (fun y => if y = Str.ofString "told" then u else if y = Str.ofString "element" then v else m₀ y) ∧ nw = [(Fo, o1)] ∧ o1.IsDictOf (PySem.strKind PG w) kvs ∧ IdsAre w G kvs (idsE ((allE e).take i))) ⟨none, none, _, [], ?i0, rfl, hz, .nil⟩ ?turn ?done
  case sub =>
    rcases List.mem_cons.mp hp with rfl | hp
    · exact List.mem_append_left _ hDm
    · exact List.mem_append_right _ hp
  case off => intro p hp; rw [List.mem_singleton.mp hp]; exact Ne.symm hDF
  case i0 =>
    subst hm₀
    funext y
    by_cases h1 : y = Str.ofString "told"
    · subst h1; rfl
    · rw [if_neg h1]
      by_cases h2 : y = Str.ofString "element"
      · subst h2; rfl
      · rw [if_neg h2]
  case done =>
    rintro h' tk m₁ nw F2 N2 ⟨u, v', o1, kvs, rfl, rfl, hd1, hA1⟩
    rw [hvs.length, List.take_length] at hA1
    subst hm₀
    clear F1 N1 N0
    (k_extra "st")
    refine spec_ret0 hret st (by assumption) (by assumption) (by assumption) (by assumption) [(Fo, o1)] (fun _ h => h) ⟨Fo, rfl, o1, kvs, .inr (.head _), hd1, hA1.mono fun a o q => .inl q, lo1, ?_⟩
    have := idsE_len (es := allE e)
    rw [idsAre_len hA1]; omega
  case turn =>
    rintro i v' m₁ h tk I oI oD nw hiv ⟨u, v0, o1, kvs, rfl, rfl, hd1, hA1⟩ F2 N2 hID hoff2
    obtain ⟨ee, hee, hv⟩ := hvs.at hiv
    obtain ⟨nI, nD⟩ := hoff2 _ (.head _)
    dsimp only at nI nD
    have hlen : kvs.length ≤ 90 := by
      have := idsE_len (es := (allE e).take i)
      have h2 := List.length_take_le i (allE e)
      rw [idsAre_len hA1]
      have h3 : ((allE e).take i).length ≤ (allE e).length := List.length_take_le' i (allE e)
      omega
    have hI : IdsOf w (GU G [(Fo, o1)]) Fo (idsE ((allE e).take i)) := ⟨o1, kvs, .inr (.head _), hd1, hA1.mono fun a o q => .inl q, lo1, by omega⟩
    have hst := idsE_take hee
    subst hm₀
    clear F1 N1 N0
    cases hv with | mk a1 a2 a3 a4 a5 a6 =>
    rename List (Str × Str) => attrs
    have b1 := hG' _ _ a1
    have b2 := hG' _ _ a2
    have b3 : SDict w (HG _) _ attrs := a3.mono hG'
    have hend : ∀ (x y z t : Option Value) (mm : Str → Option Value), (fun q => if q = Str.ofString "told" then x else if q = Str.ofString "element" then y else if q = Str.ofString "told" then z else if q = Str.ofString "element" then t else mm q) = (fun q => if q = Str.ofString "told" then x else if q = Str.ofString "element" then y else mm q) := fun x y z t mm => by
      funext q
      by_cases h1 : q = Str.ofString "told"
      · rw [if_pos h1, if_pos h1]
      · by_cases h2 : q = Str.ofString "element"
        · rw [if_neg h1, if_pos h2, if_neg h1, if_pos h2]
        · rw [if_neg h1, if_neg h2, if_neg h1, if_neg h2, if_neg h1, if_neg h2]
    cases hid : attrs.lookup (Str.ofString "id") with
    | none =>
      unfold idStep at hst
      simp only [hid] at hst
      (k_extra "st")
      refine ⟨rfl, _, _, _, [(Fo, o1)], rfl, by k_asm, by k_asm, fun p hp => hoff2 p (by rw [List.mem_singleton.mp hp]; exact .head _), _, _, o1, kvs, hend _ _ _ _ _, rfl, hd1, by rw [hst]; exact hA1⟩
    | some s0 =>
      cases hfo : (idsE ((allE e).take i)).lookup s0 with
      | some e0 =>
        unfold idStep at hst
        simp only [hid, hfo] at hst
        (k_extra "st")
        refine ⟨rfl, _, _, _, [(Fo, o1)], rfl, by k_asm, by k_asm, fun p hp => hoff2 p (by rw [List.mem_singleton.mp hp]; exact .head _), _, _, o1, kvs, hend _ _ _ _ _, rfl, hd1, by rw [hst]; exact hA1⟩
      | none =>
        unfold idStep at hst
        simp only [hid, hfo] at hst
        (k_extra "st")
        refine ids_set (by k_asm) (by k_asm) (UpdF.tail (Ne.symm nI) (UpdF.tail (Ne.symm nD) (UpdF.head (by intro p h; cases h)))) hd1 hA1 (by omega) hfo (ElOf.mk a1 a2 a3 a4 a5 a6) ?_
        intro h' o' kvs' F' N' hd' hA'
        (k_extra "st")
        refine ⟨rfl, _, _, _, [(Fo, o')], rfl, by k_asm, by k_asm, fun p hp => by rw [List.mem_singleton.mp hp]; exact ⟨nI, nD⟩, _, _, o', kvs', hend _ _ _ _ _, rfl, hd', by rw [hst]; exact hA'⟩

section
variable {M : Model} {A₀ : Around} {base g G h₅ : Heap} {outer : List Env} {env : Env} {L : Addr} {m : Str → Option Value}
theorem ground_U (K : Below A₀ base outer g) (F : Fr g L G m) (hf : env.frame = some L) (hg : ∀ b o, g.get? b = some o → b ∉ outer.filterMap (·.frame) → h₅.get? b = some o)
    (hs : ∀ b ∈ (env :: outer).filterMap (·.frame), ∀ o, G.get? b = some o → (∀ vs, o.data ≠ .fields vs) → ∃ sl, h₅.get? b = some { o with slots := sl }) :
    ∃ g', KtsTurn (outer.filterMap (·.frame)) g g' ∧ Fr g' L h₅ m ∧ Below A₀ base outer g' := by
  k_with_none
  w_top off
  (k_with "an" => (first | assumption | exact And.left (by assumption) | exact And.left (And.right (by assumption)) | exact And.left (And.right (And.right (by assumption))) | exact And.left (And.right (And.right (And.right (by assumption)))) | exact And.left (And.right (And.right (And.right (And.right (by assumption))))) | exact And.left (And.right (And.right (And.right (And.right (And.right (by assumption)))))) | exact And.left (And.right (And.right (And.right (And.right (And.right (And.right (by assumption))))))) | exact And.left (And.right (And.right (And.right (And.right (And.right (And.right (And.right (by assumption)))))))) | exact And.left (And.right (And.right (And.right (And.right (And.right (And.right (And.right (And.right (by assumption)))))))))))
  (k_with "k_ne" => (refine neN ?_; (try dsimp only); first | (refine Nat.ne_of_lt ?_; k_extra "an") | (refine Nat.ne_of_gt ?_; k_extra "an")))
  (k_with "sub" => (first | assumption | (refine List.mem_append_left _ ?_; k_extra "sub") | (refine List.mem_append_right _ ?_; k_extra "sub") | (refine List.Mem.tail _ ?_; k_extra "sub")))
  have hin : ∀ b, b ∈ outer.filterMap (·.frame) → b ∈ (env :: outer).filterMap (·.frame) := fun b hb => by
    obtain ⟨env', he, hf'⟩ := List.mem_filterMap.mp hb
    exact List.mem_filterMap.mpr ⟨env', .tail _ he, hf'⟩
  obtain ⟨T, S⟩ := kts_turn_at (h := h₅) (fs := outer.filterMap (·.frame)) (g := g)
    (fun b hb => by
      obtain ⟨_, o, ho, _⟩ := K.frames.mem hb
      exact ⟨o, ho⟩) hg
    (fun b o e hm => by
      obtain ⟨_, o', ho', hd⟩ := K.frames.mem hm
      rw [e] at ho'
      cases ho'
      exact hs b (hin b hm) o (F.keep b o e) hd)
  obtain ⟨o, es, ep, ho, hd, r⟩ := F.ns
  obtain ⟨sl, hsl⟩ := hs L (List.mem_filterMap.mpr ⟨env, .head _, hf⟩) o ho (fun vs q => by rw [hd] at q; cases q)
  refine ⟨_, T, ⟨⟨_, es, ep, hsl, hd, r⟩, S, by rw [T.size]; exact F.above⟩, ⟨K.stack, fun b o e => T.other b o (K.stays b o e) (fun hm => by
    rw [(K.frames.mem hm).1] at e
    cases e), K.frames.of_keeps fun b o e _ => ?_⟩⟩
  obtain ⟨sl, hs⟩ := T.up e
  exact ⟨_, hs, rfl⟩
end
noncomputable def HandS (base : Heap) (env : Env) (outer : List Env) (G : Heap) (led led' : List (Addr × Obj)) (e C : Addr) (h : Heap) : Prop :=
  ∃ B a0, base.StaysIn B ∧ (∀ b o, G.get? b = some o → b ∉ led.map (·.1) → b ∉ (env :: outer).filterMap (·.frame) → B.get? b = some o) ∧ (∀ q ∈ led', B.get? q.1 = some q.2) ∧ Heap.FlyingW B (env :: outer) e (.ref C) a0 h ∧
    (∀ b ∈ (env :: outer).filterMap (·.frame), ∀ o, G.get? b = some o → (∀ vs, o.data ≠ .fields vs) → ∃ sl, h.get? b = some { o with slots := sl })
section
variable {M : Model} {A A₀ : Around} {E : Value → Shared → Prop} {s : Shared} {base g G h : Heap} {outer : List Env} {env : Env} {L e C : Addr} {m : Str → Option Value} {led led' news : List (Addr × Obj)}
theorem slots_up {l : List Addr} {h' : Heap} (hs : ∀ b ∈ l, ∀ o, G.get? b = some o → (∀ vs, o.data ≠ .fields vs) → ∃ sl, h.get? b = some { o with slots := sl }) (u : h.UpToSlots h') :
    ∀ b ∈ l, ∀ o, G.get? b = some o → (∀ vs, o.data ≠ .fields vs) → ∃ sl, h'.get? b = some { o with slots := sl } := fun b hb o ho hn => by
  obtain ⟨sl, hsl⟩ := hs b hb o ho hn
  obtain ⟨sl', hsl'⟩ := u b _ hsl hn
  exact ⟨sl', hsl'⟩
theorem hand_start {Q : Unit → Shared → Prop} (hA : A.frames = some (env :: outer)) (hf : env.frame = some L) (x : FlyX base (env :: outer) led led' G e C s.heap)
    (hQ : ∀ h', HandS base env outer G led led' e C h' → Q () { s with heap := h' }) : wpAny M A (noteFrame (.ref e) env) (fun _ s₂ => wpAny M A (setFlight (.ref e) none) Q E s₂) E s := by
  obtain ⟨_, x2, B, x3, x4, x5, x6⟩ := x
  refine note_U hA hf x6 fun h' a0 hh u => ?_
  refine wpAny_landsW hh fun h'' hfl u2 => ?_
  exact hQ h'' ⟨B, a0, x3, x4, x5, hfl, slots_up (slots_up x2 u) u2⟩
theorem HandS.ground (x : HandS base env outer G led led' e C h) (hf : env.frame = some L) (K : Below A₀ base outer g) (F : Fr g L G m) (N : News g L G news) (hsub : ∀ b ∈ led.map (·.1), b ∈ news.map (·.1)) :
    ∃ g', KtsTurn (outer.filterMap (·.frame)) g g' ∧ Fr g' L h m ∧ Below A₀ base outer g' ∧ (∀ q, q ∈ led' ∨ (q ∈ news ∧ q.1 ∉ led.map (·.1)) → q.1 ∈ news.map (·.1) → h.get? q.1 = some q.2 ∧ q.1 ≠ L ∧ g'.get? q.1 = none) := by
  obtain ⟨B, a0, x3, x4, x5, x6, x7⟩ := x
  have hno : ∀ b o, g.get? b = some o → b ∉ led.map (·.1) := fun b o ho hb => by
    obtain ⟨q, hq, rfl⟩ := List.mem_map.mp (hsub b hb)
    rw [(N q hq).2.2] at ho; cases ho
  obtain ⟨g', T, F', K'⟩ := ground_U K F hf (fun b o ho hb => x6.1 b o (x4 b o (F.keep b o ho) (hno b o ho) fun hm => by
    rcases frames_mem hf hm with z | z
    · rw [z, kts_self F] at ho; cases ho
    · exact hb z)) x7
  refine ⟨g', T, F', K', fun q hq hm => ?_⟩
  obtain ⟨p, hp, hpq⟩ := List.mem_map.mp hm
  have hn : q.1 ≠ L := hpq ▸ (N p hp).2.1
  have hg : g.get? q.1 = none := hpq ▸ (N p hp).2.2
  refine ⟨?_, hn, T.none_ _ hg⟩
  rcases hq with hq | ⟨hq, hq2⟩
  · exact x6.1 _ _ (x5 q hq)
  · exact x6.1 _ _ (x4 _ _ (N q hq).1 hq2 (frames_off K N hf hq))
end
section
variable {M : Model} {A : Around} {E : Value → Shared → Prop} {h : Heap} {g : Array GenState} {d : Drawn} {t : Nat} {os : OsState}
theorem excMatches_other {nm nm' q q' : Str} {C D N N' : Addr} {bs bs' bm bm' : List Value} {hdct hdct' : Bool} {sn sn' : List Str} {sub sub' : List Value} {ab ab' : Bool} {col col' : Option Bool} {dd dd' : Option Addr} {k0 k1 k2 k3 k5 k0' k1' k2' k3' k5' : Option Value} {newId newId' : String} {e : Addr} {oe : Obj} {Q : Bool → Shared → Prop}
    (hC : h.get? C = some (excClassObj nm q C N bs bm hdct sn sub ab col dd k0 k1 k2 k3 k5 newId)) (hD : h.get? D = some (excClassObj nm' q' D N' bs' bm' hdct' sn' sub' ab' col' dd' k0' k1' k2' k3' k5' newId')) (he : h.get? e = some oe) (hcls : oe.cls = .ref C) (hbase : bm'.contains (.type "BaseException") = true)
    (hno : (Value.ref C :: bm).contains (.ref D) = false) (hq : Q false ⟨h, g, d, t, os⟩) : wpAny M A (excMatches (.ref e) (.ref D)) Q E ⟨h, g, d, t, os⟩ := by
  have hcB : (Value.ref D :: bm').contains (.type "BaseException") = true := by rw [List.contains_cons, hbase, Bool.or_true]
  have f := tc_notTuple
  unfold excMatches
  repeat (first | (with_reducible refine wpAny_loadPart_at he ?_; rw [hcls]) | with_reducible refine wpAny_loadPart_at hD ?_ | (with_reducible refine wpAny_isSubtype_exc hD ?_; rw [hcB]) | (with_reducible refine wpAny_isSubtype_exc hC ?_; rw [hno]) | wp_step)
  exact hq
end
noncomputable abbrev TopG (mean : ExcName → Option Value) (mg mb : Str → Option Value) (h : Heap) : Prop := Top hd.view_1_40 (looseW hd.view_1_40 [Str.ofString "fraction", Str.ofString "write_decimal", Str.ofString "length", Str.ofString "Uses"]) mean mg mb h
section
variable {w : World} {mean : ExcName → Option Value} {mg mb : Str → Option Value} {A A₀ : Around} {E : Value → Shared → Prop} {s : Shared} {base g G : Heap} {outer : List Env} {L a e : Addr} {m : Str → Option Value} {led led' news : List (Addr × Obj)} {name : Str} {scope : Scope} {cd : Value} {np pos : Pos} {b₀ : Stmt} {suite : List Stmt} {rest : List ExceptHandler} {Q : Flow → Shared → Prop}
theorem hand_skip (x : HandS base (envOf name scope L a cd) outer G led led' e 77 s.heap) (K : Below A₀ base outer g) (F : Fr g L G m) (N : News g L G news) (hsub : ∀ b ∈ led.map (·.1), b ∈ news.map (·.1)) (XB : (hd.heap_1_39 w.params).In base) (TB : TopG mean mg mb base)
    (hk : scope.kind = .function) (hx : (envOf name scope L a cd).kindOf (Str.ofString "LimitFault") = some .globalImplicit) (h : wpAny (model PG w) A (handleBy (.ref e) (envOf name scope L a cd) rest) Q E s) :
    wpAny (model PG w) A (handleBy (.ref e) (envOf name scope L a cd) (.ExceptHandler (some (.Name (Str.ofString "LimitFault") np)) none (b₀ :: suite) pos :: rest)) Q E s := by
  obtain ⟨g', T, F', K', _⟩ := x.ground rfl K F N hsub
  obtain ⟨B, a0, x3, x4, x5, x6, x7⟩ := x
  have X' := XB.keeps K'.stays
  have P' := topRead_of (TB.keeps K'.stays)
  obtain ⟨ob, hob, hobc⟩ := x6.there
  have h7 := F'.keep _ _ (err_77 X')
  have h8 := F'.keep _ _ (err_89 X')
  refine wpAny_handleBy_cons (codeAny_handlers_test (name_K F' X' P' (v := .ref 89) (by with_unfolding_all rfl) ?_ hk hx (by decide))) (by intro q; cases q)
  obtain ⟨hh, gg, d, tk, os⟩ := s
  exact excMatches_other h7 h8 hob hobc (by decide) (by decide) h
theorem hand_hit {C : Addr} {x' : Str} (x : HandS base (envOf name scope L a cd) outer G led led' e C s.heap) (K : Below A₀ base outer g) (F : Fr g L G m) (N : News g L G news) (hsub : ∀ b ∈ led.map (·.1), b ∈ news.map (·.1)) (XB : (hd.heap_1_39 w.params).In base) (TB : TopG mean mg mb base)
    (hk : scope.kind = .function) (hC : (C = 89 ∧ x' = Str.ofString "LimitFault") ∨ (C = 77 ∧ x' = Str.ofString "SheetFault")) (hx : (envOf name scope L a cd).kindOf x' = some .globalImplicit)
    (k : ∀ h' g', KtsTurn (outer.filterMap (·.frame)) g g' → Fr g' L h' m → Below A₀ base outer g' → (hd.heap_1_39 w.params).In g' → TopG mean mg mb g' → (∀ q, q ∈ led' ∨ (q ∈ news ∧ q.1 ∉ led.map (·.1)) → q.1 ∈ news.map (·.1) → h'.get? q.1 = some q.2 ∧ q.1 ≠ L ∧ g'.get? q.1 = none) →
      wpAny (model PG w) (A.mark (some (.ref e))) (execs (b₀ :: suite) (envOf name scope L a cd)) Q (fun _ _ => False) { s with heap := h' }) :
    wpAny (model PG w) A (handleBy (.ref e) (envOf name scope L a cd) (.ExceptHandler (some (.Name x' np)) none (b₀ :: suite) pos :: rest)) Q (fun _ _ => False) s := by
  obtain ⟨g', T, F', K', _⟩ := x.ground rfl K F N hsub
  obtain ⟨B, a0, x3, x4, x5, x6, x7⟩ := x
  have X' := XB.keeps K'.stays
  have P' := topRead_of (TB.keeps K'.stays)
  obtain ⟨ob, hob, hobc⟩ := x6.there
  have h7 := F'.keep _ _ (err_77 X')
  have h8 := F'.keep _ _ (err_89 X')
  have hn : nsIn (hd.heap_1_39 w.params) mainGlobals x' = some (some (.ref C)) := by rcases hC with ⟨rfl, rfl⟩ | ⟨rfl, rfl⟩ <;> with_unfolding_all rfl
  have hdb : (x' == ("__debug__" : Str)) = false := by rcases hC with ⟨rfl, rfl⟩ | ⟨rfl, rfl⟩ <;> decide
  refine wpAny_handleBy_cons (codeAny_handlers_test (name_K F' X' P' (v := .ref C) hn ?_ hk hx hdb)) (by intro q; cases q)
  have key : wpAny (model PG w) (A.mark (some (.ref e))) (setFlight (.ref e) none) (fun _ s₁ => wpAny (model PG w) (A.mark (some (.ref e))) (execs (b₀ :: suite) (envOf name scope L a cd)) Q (fun _ _ => False) s₁) (fun _ _ => False) s := by
    refine lands_againW x6 fun h₆ hfl₆ u => ?_
    obtain ⟨g₆, T₆, F₆, K₆, N₆⟩ := HandS.ground (base := base) (g := g) (G := G) ⟨B, a0, x3, x4, x5, hfl₆, slots_up x7 u⟩ rfl K F N hsub
    exact k h₆ g₆ T₆ F₆ K₆ (XB.keeps K₆.stays) (TB.keeps K₆.stays) N₆
  obtain ⟨hh, gg, d, tk, os⟩ := s
  rcases hC with ⟨rfl, rfl⟩ | ⟨rfl, rfl⟩
  · refine wpAny_excMatches_sub_self h8 hob hobc (by decide) (codeAny_handlers_suite ?_)
    exact wpAny_mono key (fun _ s₁ q => wpAny_mono q (fun _ _ q => q) fun _ _ q => q.elim) fun _ _ q => q.elim
  · refine wpAny_excMatches_sub_self h7 hob hobc (by decide) (codeAny_handlers_suite ?_)
    exact wpAny_mono key (fun _ s₁ q => wpAny_mono q (fun _ _ q => q) fun _ _ q => q.elim) fun _ _ q => q.elim
end
section
variable {prog : Program} {w : World} {A A₀ : Around} {s : Shared} {K : Frag} {L : Addr} {h₀ base : Heap} {m mg mb : Str → Option Value} {news : List (Addr × Obj)} {p : Program} {loose : List Str} {mean : ExcName → Option Value}
  {env : Env} {outer : List Env} {R : Result → Shared → Prop} {name qual : Str} {params : Arguments} {body : List Stmt} {scope : Scope} {dV kV doc pm cdv ct oc : Value} {an od : Option Addr} {osl : Array (Option Value)} {f : Addr} {args : Args} {binds : List (Str × Value)}
theorem codeGT (B : Below A₀ base outer h₀) (F : Fr h₀ L s.heap m) (X₀ : K.In h₀) (N : News h₀ L s.heap news) (T : Top p loose mean mg mb h₀) (hA : A.frames = some (env :: outer)) (hf : env.frame = some L) (hke : env.scope.kind = .function)
    (ho : K.lookup f = some ⟨oc, od, .func (fnOf name qual params body scope dV kV doc pm an cdv ct), osl⟩) (hcd : codeIn K cdv qual = true) (hroom : A.depth < recursionLimit)
    (hbind : BindsTo s (fnOf name qual params body scope dV kV doc pm an cdv ct) args binds) (hloc : ∀ y ∈ binds, scope.names.lookup y.1 = some .local)
    (h : ∀ g L' h₁ (tk : Nat), Stood s.heap g news → Fr h₀ L g m → Fr g L' h₁ (fun y => binds.reverse.lookup y) → News g L' h₁ news → Below A base (env :: outer) g → K.In g → Top p loose mean mg mb g → (∀ p ∈ news, p.1 < L') →
      wpAny (model prog w) (A.deeper (envOf qual scope L' f cdv)) (execs body (envOf qual scope L' f cdv))
        (fun fl s' => R (.ok (.ret (match fl with | .ret v => v | _ => .none))) s')
        (fun e s' => wpAny (model prog w) (A.deeper (envOf qual scope L' f cdv)) (leaving (envOf qual scope L' f cdv) e) (fun _ s'' => R (.error e) s'') (fun e' s'' => R (.error e') s'') s')
        { s with heap := h₁, toks := tk })
    (hco : scope.isCoroutine = false) (hgen : scope.isGenerator = false) (hk : scope.kind = .function)
    (hcell : ∀ x ∈ scope.names, x.2 ≠ .cell) : codeAny (model prog w) A (.call (.ref f) args) R s := by
  k_with_none
  w_top off
  (k_with "an" => (first | assumption | exact And.left (by assumption) | exact And.left (And.right (by assumption)) | exact And.left (And.right (And.right (by assumption))) | exact And.left (And.right (And.right (And.right (by assumption)))) | exact And.left (And.right (And.right (And.right (And.right (by assumption))))) | exact And.left (And.right (And.right (And.right (And.right (And.right (by assumption)))))) | exact And.left (And.right (And.right (And.right (And.right (And.right (And.right (by assumption))))))) | exact And.left (And.right (And.right (And.right (And.right (And.right (And.right (And.right (by assumption)))))))) | exact And.left (And.right (And.right (And.right (And.right (And.right (And.right (And.right (And.right (by assumption)))))))))))
  (k_with "k_ne" => (refine neN ?_; (try dsimp only); first | (refine Nat.ne_of_lt ?_; k_extra "an") | (refine Nat.ne_of_gt ?_; k_extra "an")))
  (k_with "sub" => (first | assumption | (refine List.mem_append_left _ ?_; k_extra "sub") | (refine List.mem_append_right _ ?_; k_extra "sub") | (refine List.Mem.tail _ ?_; k_extra "sub")))
  have gr := groundX (R := R) B F N hA hf hke
  have XG := X₀.keeps gr.2.2.1
  have TG := T.keeps gr.2.2.1
  refine codeAny_call_def (fd := fnX name qual params body scope [] dV kV doc pm an cdv ct) (body := body) (binds := binds) hroom ((X₀.keeps F.keep) _ _ ho) rfl (T.nolimit.keeps F.keep) (codeRec_of (X₀.keeps F.keep) hcd) rfl hbind hcell hloc (fun h₁ hns hk₁ => ?_) hco hgen hk
  refine wpAny_mono (h (hideAll s.heap (news.map (·.1))) s.heap.objs.size h₁ _ (fun b o e n => hideAll_get _ e n) gr.1 ?_ ?_ gr.2.1 XG TG fun p hp => Heap.lt_size (N p hp).1) (fun fl s' hl => hl) fun _ _ y => y
  · exact ⟨hns, fun b o e => hk₁ b o (of_hideAll _ e), Nat.le_of_eq (hideAll_size _ _)⟩
  · exact fun q hq => ⟨hk₁ _ _ (N q hq).1, Nat.ne_of_lt (Heap.lt_size (N q hq).1), hideAll_none _ (List.mem_map_of_mem hq)⟩
end
noncomputable def CSpec (w : World) (mean : ExcName → Option Value) (mg mb : Str → Option Value) (f : Addr) (vs : List Value) (k : Nat) (P : Heap → Prop) (R : Value → Prop) : Prop :=
  ∀ (dp un : Nat) (gd : Option (List Code)) (cn : Str) (cs : Scope) (a : Addr) (ccd : Value) (cl : List (Str × Addr)) (outer : List Env) (A₀ : Around) (base h₀ : Heap) (L : Addr) (m : Str → Option Value) (s : Shared) (Q E : Value → Shared → Prop),
    Below A₀ base outer h₀ → Fr h₀ L s.heap m → (hd.heap_1_39 w.params).In h₀ → TopG mean mg mb h₀ → (hd.heap_1_39 w.params).In base → TopG mean mg mb base →
    cs.kind = .function → P s.heap → dp + k < recursionLimit → un + 8 * k < cLine →
    (∀ r h₁ h' tk', KtsTurn (outer.filterMap (·.frame)) h₀ h₁ → Fr h₁ L h' m → Below A₀ base outer h₁ → (hd.heap_1_39 w.params).In h₁ → TopG mean mg mb h₁ → (∀ b o, s.heap.get? b = some o → b ∉ (envX cn cs L a ccd cl :: outer).filterMap (·.frame) → h'.get? b = some o) → R r → Q r { s with heap := h', toks := tk' }) →
    wpAny (model PySem.Challenge.rw_nu0026_01.row.prog w) (ktrTop dp un gd cn cs L a ccd cl outer) (call (.ref f) vs) Q E s
theorem cspec_ret {w : World} {mean : ExcName → Option Value} {mg mb : Str → Option Value} {cn : Str} {cs : Scope} {a : Addr} {ccd : Value} {cl : List (Str × Addr)} {outer : List Env} {A₀ : Around} {base h₀ g g₆ h' : Heap} {L L' : Addr} {m m' : Str → Option Value} {s : Shared} {Q : Value → Shared → Prop} {R : Value → Prop} {r : Value} {tk' : Nat} {fs : List Addr}
    (hret : ∀ r h₁ h' tk', KtsTurn (outer.filterMap (·.frame)) h₀ h₁ → Fr h₁ L h' m → Below A₀ base outer h₁ → (hd.heap_1_39 w.params).In h₁ → TopG mean mg mb h₁ → (∀ b o, s.heap.get? b = some o → b ∉ (envX cn cs L a ccd cl :: outer).filterMap (·.frame) → h'.get? b = some o) → R r → Q r { s with heap := h', toks := tk' })
    (K : Below A₀ base outer h₀) (F : Fr h₀ L s.heap m) (XB : (hd.heap_1_39 w.params).In base) (TB : TopG mean mg mb base) (st : Stood s.heap g []) (hfs : fs = (envX cn cs L a ccd cl :: outer).filterMap (·.frame)) (T₆ : KtsTurn fs g g₆) (F' : Fr g₆ L' h' m') (hR : R r) : Q r { s with heap := h', toks := tk' } := by
  subst hfs
  have up : ∀ b o, s.heap.get? b = some o → ∃ sl, h'.get? b = some { o with slots := sl } := fun b o ho => by
    obtain ⟨sl, hs⟩ := T₆.up (st b o ho (fun h => nomatch h))
    exact ⟨sl, F'.keep _ _ hs⟩
  have kp : ∀ b o, s.heap.get? b = some o → b ∉ (envX cn cs L a ccd cl :: outer).filterMap (·.frame) → h'.get? b = some o := fun b o ho hb => F'.keep _ _ (T₆.other b o (st b o ho (fun h => nomatch h)) hb)
  obtain ⟨h₁, T₁, F₁, K₁⟩ := ground_U (env := envX cn cs L a ccd cl) (h₅ := h') K F rfl (fun b o ho hb => kp b o (F.keep b o ho) fun hm => by
    rcases frames_mem (env := envX cn cs L a ccd cl) rfl hm with z | z
    · rw [z, kts_self F] at ho; cases ho
    · exact hb z) (fun b _ o ho _ => up b o ho)
  exact hret r h₁ h' tk' T₁ F₁ K₁ (XB.keeps K₁.stays) (TB.keeps K₁.stays) kp hR
-- twice
theorem led2x {h h₀ : Heap} {L a b : Addr} {oa ob : Obj} {r : List (Addr × Obj)} (_ : News h₀ L h ((a, oa) :: (b, ob) :: r)) : ∃ a' b', a' = a ∧ b' = b := ⟨a, b, rfl, rfl⟩
theorem st_g {h g : Heap} {led : List (Addr × Obj)} (_ : Stood h g led) : ∃ g', g' = g := ⟨g, rfl⟩
theorem fr_h {h h₀ : Heap} {L : Addr} {m : Str → Option Value} (_ : Fr h₀ L h m) : ∃ h', h' = h := ⟨h, rfl⟩
theorem ids_tl {w : World} {G : Addr → Obj → Prop} {d : Addr} {tl : List (Addr × Obj)} {ids : List (Str × El)} (_ : IdsOf w (GU G tl) d ids) : ∃ d' tl', d' = d ∧ tl' = tl := ⟨d, tl, rfl, rfl⟩
theorem hand_news {g6 h6 : Heap} {xu du L : Addr} {oi o o' : Obj} {rest : List (Addr × Obj)} (hxd : xu ≠ du) (N6 : ∀ q : Addr × Obj, q ∈ [(du, o')] ∨ (q ∈ (xu, oi) :: (du, o) :: rest ∧ q.1 ∉ [(du, o)].map (·.1)) → q.1 ∈ ((xu, oi) :: (du, o) :: rest).map (·.1) → h6.get? q.1 = some q.2 ∧ q.1 ≠ L ∧ g6.get? q.1 = none) : News g6 L h6 [(xu, oi), (du, o')] := fun p hp => by
  rcases List.mem_cons.mp hp with rfl | hp
  · exact N6 _ (.inr ⟨.head _, fun q => hxd (List.mem_singleton.mp q)⟩) (.head _)
  · rw [List.mem_singleton.mp hp]
    exact N6 _ (.inl (.head _)) (.tail _ (.head _))
noncomputable def Due (res : Out) (kind : Str) (made : Int) : Prop := (∃ e m, res = .ok e m ∧ kind = Str.ofString "none") ∨ (res = .limit made ∧ kind = Str.ofString "limit") ∨ (∃ m, res = .sheet m ∧ kind = Str.ofString "sheet")
theorem refused_spec (w : World) (mean : ExcName → Option Value) (mg mb : Str → Option Value) (G : Addr → Obj → Prop) (v : Value) (name text : Str) (attrs : List (Str × Str)) (kids : List El) (kind : Str) (most made : Int) (n : Nat) (t0 t1 t2 : Tok)
  (hdue : Due (putE (idsE (allE (.mk name attrs kids text))) most (n + 1) 0 [] (.mk name attrs kids text)) kind made) (hno : putE (idsE (allE (.mk name attrs kids text))) most (n + 1) 0 [] (.mk name attrs kids text) ≠ .off) (hnu : name ≠ Str.ofString "use") (hm1 : ¬ (0 : Int) + 1 > most) (hm2 : most ≤ 5000) (hsz : El.size (.mk name attrs kids text) ≤ 90) (hsz2 : (allE (.mk name attrs kids text)).length ≤ 90) :
    CSpec w mean mg mb 362 [v, .str kind t0, .int most t1, .int made t2] (2 * n + 22) (fun h => (∀ a o, G a o → h.get? a = some o) ∧ ElOf w G v (.mk name attrs kids text)) (fun r => r = .bool true) := by
  k_with_none
  w_top off
  (k_with "an" => (first | assumption | exact And.left (by assumption) | exact And.left (And.right (by assumption)) | exact And.left (And.right (And.right (by assumption))) | exact And.left (And.right (And.right (And.right (by assumption)))) | exact And.left (And.right (And.right (And.right (And.right (by assumption))))) | exact And.left (And.right (And.right (And.right (And.right (And.right (by assumption)))))) | exact And.left (And.right (And.right (And.right (And.right (And.right (And.right (by assumption))))))) | exact And.left (And.right (And.right (And.right (And.right (And.right (And.right (And.right (by assumption)))))))) | exact And.left (And.right (And.right (And.right (And.right (And.right (And.right (And.right (And.right (by assumption)))))))))))
  (k_with "k_ne" => (refine neN ?_; (try dsimp only); first | (refine Nat.ne_of_lt ?_; k_extra "an") | (refine Nat.ne_of_gt ?_; k_extra "an")))
  (k_with "sub" => (first | assumption | (refine List.mem_append_left _ ?_; k_extra "sub") | (refine List.mem_append_right _ ?_; k_extra "sub") | (refine List.Mem.tail _ ?_; k_extra "sub")))
  (k_with "rm" => (first | exact room_of 1 rfl (by assumption) rfl | exact room_of 0 rfl (by assumption) rfl | exact room_of1 1 rfl (by assumption) rfl | exact room_of1 0 rfl (by assumption) rfl | ktr_room))
  (k_with "un" => (first | exact units_of 3 rfl (by assumption) rfl | exact units_of 4 rfl (by assumption) rfl | exact units_of 0 rfl (by assumption) rfl | ktr_units))
  (k_with "gn" => refine (let P9 : Prop := _; (?_ : P9)))
  (k_with "st" => (repeat' (first | ((with_reducible show wpAny _ _ (PySem.exec _ _) _ _ _); k_fold) | ((fail_if_success (fail_if_success k_unfold)); (show wpAny _ _ _ _ _ _); (try dsimp only)) | (k_unfold; (try dsimp only)) | (k_end; wrow_close) | walk1 | (dsimp only; walk1) | (leave1; walk_say "STEP leave1"; try dsimp only) | fail "no step")))
  (k_with "D" => try ((with_reducible show wpAny _ _ _ _ _ (Shared.mk (Shared.heap _) _ _ _ _)); dsimp only))
  (k_with "E0" => ((case F => k_asm); (case V => first | assumption | exact ⟨rfl, rfl, rfl⟩)))
  (k_with "E" => (k_extra "E0"; (case e => exact rfl)))
  (k_with "S" => (intro h'8q tk'8q F'8q N'8q; (try k_sweep)))
  (k_with "A" => (intro l'8q h'8q F'8q N'8q l18q; (try k_lt l18q); (try k_sweep)))
  (k_with "spliced" => (k_here; k_extra "D"; k_dflt (first | ((with_reducible refine' s_args ?V ?F ?e ?_); k_extra "E"; k_whole; (try dsimp only [List.cons_append, List.nil_append])))))
  (k_with "evalPairs" => (k_here; k_extra "D"; k_dflt (first | ((with_reducible refine' s_pair ?V ?F ?e ?f ?_); k_extra "E"; (case f => exact rfl); k_whole))))
  (k_with "eval BinOp" => (k_here; k_extra "D"; k_dflt (first | ((with_reducible refine' s_bin ?V ?F ?e ?f ?_); k_extra "E"; (case f => exact rfl); k_whole) | ((with_reducible refine' s_binL ?V ?F ?e ?_); k_extra "E"; k_whole))))
  (k_with "isTrue Compare" => (k_here; k_extra "D"; k_dflt (first | ((with_reducible refine' s_cmp ?V ?F ?e ?f ?h ?_); k_extra "E"; (case f => exact rfl); (case h => with_unfolding_all rfl); k_whole) | ((with_reducible refine' s_cmpL ?V ?F ?e ?h ?_); k_extra "E"; (case h => with_unfolding_all rfl); k_whole))))
  (k_with "eval Subscript" => (k_here; k_extra "D"; k_dflt (first | ((with_reducible refine' s_sub ?V ?F ?e ?f ?_); k_extra "E"; (case f => exact rfl); k_whole) | ((with_reducible refine' s_subL ?V ?F ?e ?_); k_extra "E"; k_whole))))
  (k_with "eval List" => (k_here; k_extra "D"; k_dflt (first | ((with_reducible refine' s_list ?V ?F ?e ?_); k_extra "E"; k_whole))))
  (k_with "eval Tuple" => (k_here; k_extra "D"; k_dflt (first | ((with_reducible refine' s_tuple ?V ?F ?e ?_); k_extra "E"; k_whole))))
  (k_with "exec Return some" => (k_here; k_extra "D"; k_dflt (first | ((with_reducible refine' s_ret ?V ?F ?e ?_); k_extra "E"; k_whole))))
  (k_with "eval Attribute Name" => (k_here; k_extra "D"; k_dflt (first | ((with_reducible refine' s_attr ?V ?F ?e ?_ ?h); k_extra "E"; (case h => with_unfolding_all rfl); k_whole))))
  (k_with "execs cons" => (k_here; k_extra "D"; k_dflt (first | k_gentoks | ((with_reducible refine' c_asgS ?V ?F ?N ?e ?x ?_ ?h); k_extra "E"; (case N => k_asm); (case x => exact rfl); (case h => exact rfl); k_whole; k_extra "S") | ((with_reducible refine' c_asg ?_ ?h); (case h => exact rfl); k_whole; (try refine (let qk8q : Value → Shared → Prop := _; (?_ : wpAny _ _ _ qk8q _ _)))) | ((with_reducible refine' c_retS ?V ?F ?e ?_); k_extra "E"; k_whole) | (with_reducible refine c_ret ?_))))
  (k_with "storeName" => (k_here; k_extra "D"; k_dflt (first | ((with_reducible refine' c_store ?V ?F ?N ?x ?_); k_extra "E0"; (case N => k_asm); (case x => exact rfl); k_whole; k_extra "S"))))
  (k_with "newList" => (k_here; k_extra "D"; k_dflt (first | ((with_reducible refine' c_newList ?F ?N ?_ ?z); (case F => k_asm); (case N => k_asm); (case z => size_fits); k_extra "A"))))
  (k_with "newTuple" => (k_here; k_extra "D"; k_dflt (first | ((with_reducible refine' c_newTuple ?F ?N ?_ ?z); (case F => k_asm); (case N => k_asm); (case z => kmk_size); k_extra "A"))))
  (k_with "binaryOp Mult int int" => (k_here; k_extra "D"; k_dflt (first | ((with_reducible refine' c_mul ?_ ?z); (case z => mul_fits)))))
  (k_with "binaryOp Add int int" => (k_here; k_extra "D"; k_dflt (first | (with_reducible refine c_add ?_))))
  (k_with "binaryOp Sub int int" => (k_here; k_extra "D"; k_dflt (first | (with_reducible refine c_sub ?_))))
  (k_with "unaryOp USub int" => (k_here; k_extra "D"; k_dflt (first | (with_reducible refine c_neg ?_))))
  (k_with "callWith ref" => (k_here; k_extra "D"; k_dflt (first | ((with_reducible refine' s_with ?V ?F ?X ?k ?e ?_); k_extra "E"; (case X => k_asm); (case k => k_is); k_whole))))
  (k_with "eval Call" => (k_here; k_extra "D"; k_dflt (first | ((with_reducible refine' s_call ?V ?F ?X ?T ?n ?x ?d ?k ?e ?_ ?h); k_extra "E"; (case x => exact rfl); (case X => k_asm); (case T => k_asm); (case d => decide); (case n => k_is); (case k => k_is); (case h => exact rfl); k_whole))))
  (k_with "eval Name" => (k_here; k_extra "D"; k_dflt (first | ((with_reducible refine' s_val ?V ?F ?e ?_); k_extra "E"; k_whole))))
  (k_with "ktr_enter" => first
  | (refine' codeG ?k1 ?k2 ?k3 ?k4 ?k5 ?kA ?kF ?kK ?k6 ?k7 ?k8 ?k9 ?kB ?_ ?c2 ?c3 ?c4 ?c5; (case kA => exact rfl); (case kF => exact rfl); (case kK => assumption); (case k1 => first | k_asm | exact topb_of rfl rfl (by k_asm)); (case k2 => k_asm); (case k3 => k_asm); (case k4 => k_asm); (case k5 => k_asm); (case k6 => k_is); (case k7 => k_is); (case k8 => (k_extra "rm")); (case k9 => first | exact BindsTo.of_eq rfl | exact binds_K (by k_in) rfl (by k_is) rfl rfl rfl); (case c5 => decide); (case kB => exact locs rfl); (case c2 => exact rfl); (case c3 => exact rfl); (case c4 => exact rfl); k_whole; intro g'9q L'9q h'9q tk'9q st'9q FG'9q F'9q N'9q B'9q X'9q T'9q l1'9q; (try dsimp only); (try k_fold)))
  (k_with "k_inst" => exact inst_base (by k_asm) (by assumption) (by assumption))
  (k_with "getMethod ref" => (k_here; (with_reducible show wpAny _ _ (getMethod (Value.ref _) (Str.ofString "get") _) _ _ _); k_dflt (refine sd_method (SDict.base (by k_asm) (by assumption)) ?_)))
  (k_with "call builtin:dict.get" => (k_here; (with_reducible show wpAny _ _ (call (Value.builtin "dict.get") [Value.ref _, Value.str _ _]) _ _ _); k_dflt (first
  | (refine sd_get1s (SDict.base (by k_asm) (by assumption)) (by assumption) ?_; intro t'9q)
  | (refine sd_get1n (SDict.base (by k_asm) (by assumption)) (by assumption) ?_)
  | (refine sd_get1 (SDict.base (by k_asm) (by assumption)) (fun hg09q => ?_) (fun v'9q t'9q hg19q => ?_)))))
  (k_with "k_room" => (k_extra "rm"))
  (k_with "subscriptTail" => (k_here; (with_reducible show wpAny _ _ (subscriptTail _ _ (Value.ref _) (Value.str _ _)) _ _ _); k_dflt (refine sd_item (SDict.base (by k_asm) (by assumption)) (by assumption) ?_); intro t'9q))
  (k_with "call ref" => (k_here; (with_reducible show wpAny _ _ (call (Value.ref _) _) _ _ _); (try k_fold); k_dflt (refine' spec_use0 ?S ?k1 ?k2 ?k3 ?k4 ?k5 ?kK ?kP ?kd ?ku ?_; (case S => assumption); (case k1 => first | k_asm | exact topb_of rfl rfl (by k_asm)); (case k2 => k_asm); (case k3 => k_asm); (case k4 => k_asm); (case k5 => k_asm); (case kK => exact rfl); (case kP => first | exact trivial | exact ElOf.base (by k_asm) (by assumption)); (case kd => (k_extra "rm")); (case ku => (k_extra "un"))); intro r'9q tl'9q h'9q tk'9q F'9q N'9q fr'9q st'9q hR'9q; (try dsimp only at hR'9q)))
  (k_with "k_mem" => ((show _ ∈ (_ ++ _ : List (Addr × Obj))); first | (refine List.mem_append_right _ ?_; k_mem) | (refine List.mem_append_left _ ?_; k_mem)))
  (k_with "call builtin:dict.get" => (k_here; (with_reducible show wpAny _ _ (call (Value.builtin "dict.get") [Value.ref _, Value.str _ _, Value.str _ _]) _ _ _); k_dflt (refine sd_get2L (SDict.base (by k_asm) (by assumption)) (by first | assumption | decide) ?_); intro t'9q hlen'9q))
  (k_with "ktr_enter" => (refine' codeGT ?k1 ?k2 ?k3 ?k4 ?k5 ?kA ?kF ?kK ?k6 ?k7 ?k8 ?k9 ?kB ?_ ?c2 ?c3 ?c4 ?c5; (case kA => exact rfl); (case kF => exact rfl); (case kK => assumption); (case k1 => first | k_asm | exact topb_of rfl rfl (by k_asm)); (case k2 => k_asm); (case k3 => k_asm); (case k4 => k_asm); (case k5 => k_asm); (case k6 => k_is); (case k7 => k_is); (case k8 => (k_extra "rm")); (case k9 => first | exact BindsTo.of_eq rfl | exact binds_K (by k_in) rfl (by k_is) rfl rfl rfl); (case c5 => decide); (case kB => exact locs rfl); (case c2 => exact rfl); (case c3 => exact rfl); (case c4 => exact rfl); k_whole; intro g'9q L'9q h'9q tk'9q st'9q FG'9q F'9q N'9q B'9q X'9q T'9q l1'9q; (try dsimp only); (try k_fold)))
  (k_with "ite" => (first | with_reducible refine ite_ff ?_ | with_reducible refine ite_tt ?_ | refine ite_dt (by assumption) ?_ | refine ite_df (by assumption) ?_))
  (k_with "call ref" => (k_here; (with_reducible show wpAny _ _ (call (Value.ref 35) _) _ _ _); (try k_fold); k_dflt ((refine' use_ref (id_spec _ _ _ _ _ _ _ (by assumption) (by assumption)) ?k1 ?k2 ?k3 ?k4 ?k5 ?kK ?kP ?kd ?ku ?_; (case k1 => first | k_asm | exact topb_of rfl rfl (by k_asm)); (case k2 => k_asm); (case k3 => k_asm); (case k4 => k_asm); (case k5 => k_asm); (case kK => exact rfl); (case kP => (exact ⟨keepG (by k_asm) (by assumption), by assumption⟩)); (case kd => (k_extra "rm")); (case ku => (k_extra "un")))); intro d'9q tl'9q h'9q tk'9q F'9q N'9q fr'9q st'9q hR'9q; (try dsimp only)))
  unfold CSpec
  k_fill
  intro dp un gd cn cs a' ccd cl' outer A₀ base h₀ L m s Q E B F X T XB TB hk hP hd hu hret
  have N : News h₀ L s.heap [] := fun _ h => nomatch h
  refine wpAny_call ?_
  k_dflt ktr_enter
  first | refine (let ak : Around := _; let nk : Env := _; let sg9 : Array GenState := _; let sd9 : Drawn := _; let so9 : OsState := _; (?_ : wpAny _ ak (execs _ nk) _ _ (Shared.mk _ sg9 sd9 _ so9))) | refine (let ak : Around := _; let nk : Env := _; (?_ : wpAny _ ak (execs _ nk) _ _ _))
  try (have TB9 : TopB ak _ _ (dp + 1) (un + 3) := topb_of rfl rfl (by assumption))
  try (have FE9 : FnE nk L'9q := ⟨rfl, rfl, rfl⟩)
  try (rename Fr _ _ _ (fun y => List.lookup y (List.reverse _)) => FX9; replace FX9 := fr_binds [(Str.ofString "root", (v : Value)), (Str.ofString "kind", (.str kind t0 : Value)), (Str.ofString "most", (.int most t1 : Value)), (Str.ofString "made", (.int made t2 : Value))] rfl FX9)
  rename Stood _ _ _ => st
  obtain ⟨hG, hE⟩ := hP
  have hG' : ∀ a o, G a o → _ := fun a o q => st a o (hG a o q) (fun h => nomatch h)
  repeat ((fail_if_success (with_reducible show wpAny _ _ (exec (Stmt.Try _ _ _ _ _) _) _ _ _)); first | ((with_reducible show wpAny _ _ (PySem.exec _ _) _ _ _); k_fold) | ((fail_if_success (fail_if_success k_unfold)); (show wpAny _ _ _ _ _ _); (try dsimp only)) | (k_unfold; (try dsimp only)) | (k_end; wrow_close) | walk1 | (dsimp only; walk1) | (leave1; walk_say "STEP lea"))
  refine wpAny_mono (E := fun _ _ => False) (wpAny_Try_except ?_) (fun _ _ q => q) (fun _ _ q => q.elim)
  repeat ((fail_if_success (with_reducible show wpAny _ _ (call (Value.ref 268) _) _ _ _)); first | ((with_reducible show wpAny _ _ (PySem.exec _ _) _ _ _); k_fold) | ((fail_if_success (fail_if_success k_unfold)); (show wpAny _ _ _ _ _ _); (try dsimp only)) | (k_unfold; (try dsimp only)) | (k_end; wrow_close) | walk1 | (dsimp only; walk1) | (leave1; walk_say "STEP lea"))
  rename IdsOf _ _ _ _ => hIds
  k_extra "gn"; (obtain ⟨di, tlI, z1, z2⟩ := ids_tl hIds) <;> k_unfold
  subst z1 z2
  rename News g'9q _ _ ((_, _) :: _) => N1
  rename Fr g'9q _ _ _ => F1
  k_extra "gn"; (obtain ⟨xu, du, z1, z2⟩ := led2x N1) <;> k_unfold
  obtain ⟨hh1, z3⟩ := fr_h F1
  subst z1 z2 z3
  rename (∀ p ∈ tlI ++ _, p.1 < _) => hlt
  rename Below _ base (_ :: outer) g'9q => K1
  rename Frag.In _ g'9q => X1
  have hdg := (N1 _ (.tail _ (.head _))).2.2
  have hxd : xu ≠ du := fun z => by
    have z1 := (N1 _ (.head _)).1
    have z2 := (N1 _ (.tail _ (.head _))).1
    dsimp only at z1 z2
    rw [z, z2] at z1
    cases z1
  have hG2 : ∀ a o, G a o → hh1.get? a = some o ∧ a ≠ du := fun a o q => ⟨F1.keep a o (hG' a o q), fun z => by
    have z1 := hG' a o q
    rw [z] at z1
    dsimp only at hdg
    rw [hdg] at z1
    cases z1⟩
  have h262 := X1 262 { cls := .type "tuple", data := .seq (List.toArray []) 0 } (by with_unfolding_all rfl)
  have hdn : ∀ a o, g'9q.get? a = some o → a ≠ du := fun a o q z => by
    dsimp only at hdg
    rw [z, hdg] at q
    cases q
  have hI2 : IdsOf w (fun a o => hh1.get? a = some o ∧ a ≠ du) di (idsE (allE (.mk name attrs kids text))) := hIds.mono fun a o q => q.elim (hG2 a o) fun q => ⟨(N1 _ (.tail _ (.tail _ (List.mem_append_left _ q)))).1, Nat.ne_of_lt (hlt _ (List.mem_append_left _ q))⟩
  refine pspec_use1 (put_root w mean mg mb _ most n (put_all w mean mg mb _ most n) (fun a o => hh1.get? a = some o ∧ a ≠ du) xu du di [] v name text attrs kids _ 0 hno UsesO.intro (by omega) (by omega) hm2 hm1 hnu) K1 F1 X1 N1 (.tail hxd (.head fun p hp => Nat.ne_of_lt (hlt p hp))) (by k_asm) rfl ⟨fun _ _ q => q, ⟨(N1 _ (.head _)).1, hxd⟩, hI2, ⟨[], 0, ⟨F1.keep _ _ h262, hdn _ _ h262⟩, .nil, by decide⟩, hE.mono hG2⟩ (by (k_extra "rm")) (by (k_extra "un")) ?ret ?exc
  case ret =>
    intro r tlP o' h' tk' F3 N3 hfr3 st3 hR
    k_extra "gn"; (obtain ⟨e', m', o4, hr1, -⟩ := hR) <;> k_unfold
    unfold Due at hdue
    rw [hr1] at hdue
    k_extra "gn"; (rcases hdue with ⟨_, _, q1, rfl⟩ | ⟨q1, _⟩ | ⟨_, q1, _⟩) <;> k_unfold
    · clear F1 N1 hr1 q1
      ((k_extra "st"); (k_extra "st"))
      try dsimp only
      exact cspec_ret hret B F XB TB st rfl KtsTurn.refl (by k_asm) (by rw [beq_self_eq_true])
    · cases q1
    · cases q1
  case exc =>
    intro er Ce o' h' tk' hX hx
    k_extra "gn"; (obtain ⟨mm, o4, e4, hU4, hr⟩ := hX) <;> k_unfold
    obtain rfl : o' = o4 := (Prod.mk.inj (List.cons.inj e4).1).2
    refine hand_start rfl rfl hx (fun h5 HS => ?_)
    rcases hr with ⟨rfl, hl⟩ | ⟨rfl, hl⟩
    · unfold Due at hdue
      rw [hl] at hdue
      k_extra "gn"; (rcases hdue with ⟨_, _, q1, _⟩ | ⟨q1, rfl⟩ | ⟨_, q1, _⟩) <;> k_unfold
      · cases q1
      · obtain rfl := Out.limit.inj q1
        refine hand_hit HS K1 F1 N1 (fun b hb => by rw [List.mem_singleton.mp hb]; exact .tail _ (.head _)) XB TB rfl (.inl ⟨rfl, rfl⟩) (by with_unfolding_all rfl) (fun h6 g6 T6 F6 K6 X6 P6 N6 => ?_)
        replace N6 := hand_news hxd N6
        k_extra "gn"; (obtain ⟨h1, h2, h3, u1, u2, u3, u4, u5, rfl⟩ := hU4) <;> k_unfold
        clear hx HS F1 N1 K1 X1 hl hI2 hG2
        ((k_extra "st"); (k_extra "st"))
        try dsimp only
        exact cspec_ret hret B F XB TB st rfl T6 (by k_asm) (by simp)
      · cases q1
    · unfold Due at hdue
      rw [hl] at hdue
      k_extra "gn"; (rcases hdue with ⟨_, _, q1, _⟩ | ⟨q1, _⟩ | ⟨_, q1, rfl⟩) <;> k_unfold
      · cases q1
      · cases q1
      · refine hand_skip HS K1 F1 N1 (fun b hb => by rw [List.mem_singleton.mp hb]; exact .tail _ (.head _)) XB TB rfl (by with_unfolding_all rfl) (hand_hit HS K1 F1 N1 (fun b hb => by rw [List.mem_singleton.mp hb]; exact .tail _ (.head _)) XB TB rfl (.inr ⟨rfl, rfl⟩) (by with_unfolding_all rfl) (fun h6 g6 T6 F6 K6 X6 P6 N6 => ?_))
        replace N6 := hand_news hxd N6
        clear hx HS F1 N1 K1 X1 hl hI2 hG2
        ((k_extra "st"); (k_extra "st"))
        try dsimp only
        exact cspec_ret hret B F XB TB st rfl T6 (by k_asm) (by simp)
noncomputable abbrev tS (s : String) : Str := Str.ofString s
noncomputable def w1E : El := .mk (tS "svg") [] [.mk (tS "use") [(tS "href", tS "#q")] [] (tS "")] (tS "")
noncomputable def w2E : El := .mk (tS "svg") [] [.mk (tS "use") [] [] (tS "")] (tS "")
noncomputable def w3E (o : Str) : El := .mk (tS "svg") [] [.mk (tS "g") [(tS "id", tS "p")] [.mk (tS "use") [(tS "href", tS "#" ++ o)] [] (tS "")] (tS ""), .mk (tS "g") [(tS "id", tS "q")] [.mk (tS "use") [(tS "href", tS "#p")] [] (tS "")] (tS "")] (tS "")
noncomputable def w4E : El := .mk (tS "svg") [] [.mk (tS "rect") [] [] (tS ""), .mk (tS "rect") [] [] (tS ""), .mk (tS "rect") [] [] (tS "")] (tS "")
theorem w1_put : putE (idsE (allE w1E)) 50 3 0 [] w1E = .sheet 2 := by with_unfolding_all rfl
theorem w2_put : putE (idsE (allE w2E)) 50 3 0 [] w2E = .sheet 2 := by with_unfolding_all rfl
theorem w3_putp : putE (idsE (allE (w3E (tS "p")))) 50 6 0 [] (w3E (tS "p")) = .limit 5 := by with_unfolding_all rfl
theorem w3_putq : putE (idsE (allE (w3E (tS "q")))) 50 8 0 [] (w3E (tS "q")) = .limit 7 := by with_unfolding_all rfl
theorem w4_put4 : putE (idsE (allE w4E)) 4 3 0 [] w4E = .ok w4E 4 := by with_unfolding_all rfl
theorem w4_put3 : putE (idsE (allE w4E)) 3 3 0 [] w4E = .limit 4 := by with_unfolding_all rfl
section
variable (w : World) (mean : ExcName → Option Value) (mg mb : Str → Option Value) (G : Addr → Obj → Prop) (v : Value) (t0 t1 t2 : Tok)
theorem refuse1 : CSpec w mean mg mb 362 [v, .str (Str.ofString "sheet") t0, .int 50 t1, .int 2 t2] 26 (fun h => (∀ a o, G a o → h.get? a = some o) ∧ ElOf w G v w1E) (fun r => r = .bool true) :=
  refused_spec w mean mg mb G v _ _ _ _ _ 50 2 2 t0 t1 t2 (.inr (.inr ⟨_, w1_put, rfl⟩)) (by have h := w1_put; exact fun q => by cases h.symm.trans q) (by decide) (by decide) (by decide) (by decide) (by decide)
theorem refuse2 : CSpec w mean mg mb 362 [v, .str (Str.ofString "sheet") t0, .int 50 t1, .int 2 t2] 26 (fun h => (∀ a o, G a o → h.get? a = some o) ∧ ElOf w G v w2E) (fun r => r = .bool true) :=
  refused_spec w mean mg mb G v _ _ _ _ _ 50 2 2 t0 t1 t2 (.inr (.inr ⟨_, w2_put, rfl⟩)) (by have h := w2_put; exact fun q => by cases h.symm.trans q) (by decide) (by decide) (by decide) (by decide) (by decide)
theorem refuse3p : CSpec w mean mg mb 362 [v, .str (Str.ofString "limit") t0, .int 50 t1, .int 5 t2] 32 (fun h => (∀ a o, G a o → h.get? a = some o) ∧ ElOf w G v (w3E (Str.ofString "p"))) (fun r => r = .bool true) :=
  refused_spec w mean mg mb G v _ _ _ _ _ 50 5 5 t0 t1 t2 (.inr (.inl ⟨w3_putp, rfl⟩)) (by have h := w3_putp; exact fun q => by cases h.symm.trans q) (by decide) (by decide) (by decide) (by decide) (by decide)
theorem refuse3q : CSpec w mean mg mb 362 [v, .str (Str.ofString "limit") t0, .int 50 t1, .int 7 t2] 36 (fun h => (∀ a o, G a o → h.get? a = some o) ∧ ElOf w G v (w3E (Str.ofString "q"))) (fun r => r = .bool true) :=
  refused_spec w mean mg mb G v _ _ _ _ _ 50 7 7 t0 t1 t2 (.inr (.inl ⟨w3_putq, rfl⟩)) (by have h := w3_putq; exact fun q => by cases h.symm.trans q) (by decide) (by decide) (by decide) (by decide) (by decide)
theorem refuse4 : CSpec w mean mg mb 362 [v, .str (Str.ofString "none") t0, .int 4 t1, .int 4 t2] 26 (fun h => (∀ a o, G a o → h.get? a = some o) ∧ ElOf w G v w4E) (fun r => r = .bool true) :=
  refused_spec w mean mg mb G v _ _ _ _ _ 4 4 2 t0 t1 t2 (.inl ⟨_, _, w4_put4, rfl⟩) (by have h := w4_put4; exact fun q => by cases h.symm.trans q) (by decide) (by decide) (by decide) (by decide) (by decide)
theorem refuse5 : CSpec w mean mg mb 362 [v, .str (Str.ofString "limit") t0, .int 3 t1, .int 4 t2] 26 (fun h => (∀ a o, G a o → h.get? a = some o) ∧ ElOf w G v w4E) (fun r => r = .bool true) :=
  refused_spec w mean mg mb G v _ _ _ _ _ 3 4 2 t0 t1 t2 (.inr (.inl ⟨w4_put3, rfl⟩)) (by have h := w4_put3; exact fun q => by cases h.symm.trans q) (by decide) (by decide) (by decide) (by decide) (by decide)
end
-- notopb
theorem sd_lit {w : World} {g h : Heap} {L d : Addr} {o : Obj} {news : List (Addr × Obj)} {kvs : List (Str × Value)} {as : List (Str × Str)} (N : News g L h news) (hm : (d, o) ∈ news) (hd : o.IsDictOf (PySem.strKind PG w) kvs) (lo : (d == sysModules) = false) (hA : AttrsAre kvs as) (hf : Fine as) : SDict w (HG h) d as := ⟨o, kvs, (N _ hm).1, hd, hA, lo, hf⟩
noncomputable def WSpec (w : World) (mean : ExcName → Option Value) (mg mb : Str → Option Value) (f : Addr) (vs : List Value) (led : List (Addr × Obj)) (k : Nat) (P : Heap → Prop) (R : Value → Prop) : Prop :=
  ∀ (dp un : Nat) (gd : Option (List Code)) (cn : Str) (cs : Scope) (a : Addr) (ccd : Value) (cl : List (Str × Addr)) (outer : List Env) (A₀ : Around) (base h₀ : Heap) (L : Addr) (m : Str → Option Value) (s : Shared) (Q E : Value → Shared → Prop),
    Below A₀ base outer h₀ → Fr h₀ L s.heap m → (hd.heap_1_39 w.params).In h₀ → News h₀ L s.heap led → TopG mean mg mb h₀ → (hd.heap_1_39 w.params).In base → TopG mean mg mb base →
    cs.kind = .function → P s.heap → dp + k < recursionLimit → un + 8 * k < cLine →
    (∀ r h₁ h' tk' m', KtsTurn (outer.filterMap (·.frame)) h₀ h₁ → Fr h₁ L h' m' → R r → Q r { s with heap := h', toks := tk' }) →
    wpAny (model PySem.Challenge.rw_nu0026_01.row.prog w) (ktrTop dp un gd cn cs L a ccd cl outer) (call (.ref f) vs) Q E s
theorem wspec_ret {cn : Str} {cs : Scope} {a : Addr} {ccd : Value} {cl : List (Str × Addr)} {outer : List Env} {A₀ : Around} {base h₀ g g₆ h' : Heap} {L L' : Addr} {m m' : Str → Option Value} {s : Shared} {Q : Value → Shared → Prop} {R : Value → Prop} {r : Value} {tk' : Nat} {fs : List Addr} {led : List (Addr × Obj)}
    (hret : ∀ r h₁ h' tk' m', KtsTurn (outer.filterMap (·.frame)) h₀ h₁ → Fr h₁ L h' m' → R r → Q r { s with heap := h', toks := tk' })
    (K : Below A₀ base outer h₀) (F : Fr h₀ L s.heap m) (N : News h₀ L s.heap led) (st : Stood s.heap g led) (hfs : fs = (envX cn cs L a ccd cl :: outer).filterMap (·.frame)) (T₆ : KtsTurn fs g g₆) (F' : Fr g₆ L' h' m') (hR : R r) : Q r { s with heap := h', toks := tk' } := by
  k_with_none
  w_top off
  (k_with "an" => (first | assumption | exact And.left (by assumption) | exact And.left (And.right (by assumption)) | exact And.left (And.right (And.right (by assumption))) | exact And.left (And.right (And.right (And.right (by assumption)))) | exact And.left (And.right (And.right (And.right (And.right (by assumption))))) | exact And.left (And.right (And.right (And.right (And.right (And.right (by assumption)))))) | exact And.left (And.right (And.right (And.right (And.right (And.right (And.right (by assumption))))))) | exact And.left (And.right (And.right (And.right (And.right (And.right (And.right (And.right (by assumption)))))))) | exact And.left (And.right (And.right (And.right (And.right (And.right (And.right (And.right (And.right (by assumption)))))))))))
  (k_with "k_ne" => (refine neN ?_; (try dsimp only); first | (refine Nat.ne_of_lt ?_; k_extra "an") | (refine Nat.ne_of_gt ?_; k_extra "an")))
  (k_with "sub" => (first | assumption | (refine List.mem_append_left _ ?_; k_extra "sub") | (refine List.mem_append_right _ ?_; k_extra "sub") | (refine List.Mem.tail _ ?_; k_extra "sub")))
  (k_with "rm" => (first | exact room_of 1 rfl (by assumption) rfl | exact room_of 0 rfl (by assumption) rfl | exact room_of1 1 rfl (by assumption) rfl | exact room_of1 0 rfl (by assumption) rfl | ktr_room))
  (k_with "un" => (first | exact units_of 3 rfl (by assumption) rfl | exact units_of 4 rfl (by assumption) rfl | exact units_of 0 rfl (by assumption) rfl | ktr_units))
  (k_with "gn" => refine (let P9 : Prop := _; (?_ : P9)))
  (k_with "st" => (repeat' (first | ((with_reducible show wpAny _ _ (PySem.exec _ _) _ _ _); k_fold) | ((fail_if_success (fail_if_success k_unfold)); (show wpAny _ _ _ _ _ _); (try dsimp only)) | (k_unfold; (try dsimp only)) | (k_end; wrow_close) | walk1 | (dsimp only; walk1) | (leave1; walk_say "STEP leave1"; try dsimp only) | fail "no step")))
  (k_with "D" => try ((with_reducible show wpAny _ _ _ _ _ (Shared.mk (Shared.heap _) _ _ _ _)); dsimp only))
  (k_with "E0" => ((case F => k_asm); (case V => first | assumption | exact ⟨rfl, rfl, rfl⟩)))
  (k_with "E" => (k_extra "E0"; (case e => exact rfl)))
  (k_with "S" => (intro h'8q tk'8q F'8q N'8q; (try k_sweep)))
  (k_with "A" => (intro l'8q h'8q F'8q N'8q l18q; (try k_lt l18q); (try k_sweep)))
  (k_with "spliced" => (k_here; k_extra "D"; k_dflt (first | ((with_reducible refine' s_args ?V ?F ?e ?_); k_extra "E"; k_whole; (try dsimp only [List.cons_append, List.nil_append])))))
  (k_with "evalPairs" => (k_here; k_extra "D"; k_dflt (first | ((with_reducible refine' s_pair ?V ?F ?e ?f ?_); k_extra "E"; (case f => exact rfl); k_whole))))
  (k_with "eval BinOp" => (k_here; k_extra "D"; k_dflt (first | ((with_reducible refine' s_bin ?V ?F ?e ?f ?_); k_extra "E"; (case f => exact rfl); k_whole) | ((with_reducible refine' s_binL ?V ?F ?e ?_); k_extra "E"; k_whole))))
  (k_with "isTrue Compare" => (k_here; k_extra "D"; k_dflt (first | ((with_reducible refine' s_cmp ?V ?F ?e ?f ?h ?_); k_extra "E"; (case f => exact rfl); (case h => with_unfolding_all rfl); k_whole) | ((with_reducible refine' s_cmpL ?V ?F ?e ?h ?_); k_extra "E"; (case h => with_unfolding_all rfl); k_whole))))
  (k_with "eval Subscript" => (k_here; k_extra "D"; k_dflt (first | ((with_reducible refine' s_sub ?V ?F ?e ?f ?_); k_extra "E"; (case f => exact rfl); k_whole) | ((with_reducible refine' s_subL ?V ?F ?e ?_); k_extra "E"; k_whole))))
  (k_with "eval List" => (k_here; k_extra "D"; k_dflt (first | ((with_reducible refine' s_list ?V ?F ?e ?_); k_extra "E"; k_whole))))
  (k_with "eval Tuple" => (k_here; k_extra "D"; k_dflt (first | ((with_reducible refine' s_tuple ?V ?F ?e ?_); k_extra "E"; k_whole))))
  (k_with "exec Return some" => (k_here; k_extra "D"; k_dflt (first | ((with_reducible refine' s_ret ?V ?F ?e ?_); k_extra "E"; k_whole))))
  (k_with "eval Attribute Name" => (k_here; k_extra "D"; k_dflt (first | ((with_reducible refine' s_attr ?V ?F ?e ?_ ?h); k_extra "E"; (case h => with_unfolding_all rfl); k_whole))))
  (k_with "execs cons" => (k_here; k_extra "D"; k_dflt (first | k_gentoks | ((with_reducible refine' c_asgS ?V ?F ?N ?e ?x ?_ ?h); k_extra "E"; (case N => k_asm); (case x => exact rfl); (case h => exact rfl); k_whole; k_extra "S") | ((with_reducible refine' c_asg ?_ ?h); (case h => exact rfl); k_whole; (try refine (let qk8q : Value → Shared → Prop := _; (?_ : wpAny _ _ _ qk8q _ _)))) | ((with_reducible refine' c_retS ?V ?F ?e ?_); k_extra "E"; k_whole) | (with_reducible refine c_ret ?_))))
  (k_with "storeName" => (k_here; k_extra "D"; k_dflt (first | ((with_reducible refine' c_store ?V ?F ?N ?x ?_); k_extra "E0"; (case N => k_asm); (case x => exact rfl); k_whole; k_extra "S"))))
  (k_with "newList" => (k_here; k_extra "D"; k_dflt (first | ((with_reducible refine' c_newList ?F ?N ?_ ?z); (case F => k_asm); (case N => k_asm); (case z => size_fits); k_extra "A"))))
  (k_with "newTuple" => (k_here; k_extra "D"; k_dflt (first | ((with_reducible refine' c_newTuple ?F ?N ?_ ?z); (case F => k_asm); (case N => k_asm); (case z => kmk_size); k_extra "A"))))
  (k_with "binaryOp Mult int int" => (k_here; k_extra "D"; k_dflt (first | ((with_reducible refine' c_mul ?_ ?z); (case z => mul_fits)))))
  (k_with "binaryOp Add int int" => (k_here; k_extra "D"; k_dflt (first | (with_reducible refine c_add ?_))))
  (k_with "binaryOp Sub int int" => (k_here; k_extra "D"; k_dflt (first | (with_reducible refine c_sub ?_))))
  (k_with "unaryOp USub int" => (k_here; k_extra "D"; k_dflt (first | (with_reducible refine c_neg ?_))))
  (k_with "callWith ref" => (k_here; k_extra "D"; k_dflt (first | ((with_reducible refine' s_with ?V ?F ?X ?k ?e ?_); k_extra "E"; (case X => k_asm); (case k => k_is); k_whole))))
  (k_with "eval Call" => (k_here; k_extra "D"; k_dflt (first | ((with_reducible refine' s_call ?V ?F ?X ?T ?n ?x ?d ?k ?e ?_ ?h); k_extra "E"; (case x => exact rfl); (case X => k_asm); (case T => k_asm); (case d => decide); (case n => k_is); (case k => k_is); (case h => exact rfl); k_whole))))
  (k_with "eval Name" => (k_here; k_extra "D"; k_dflt (first | ((with_reducible refine' s_val ?V ?F ?e ?_); k_extra "E"; k_whole))))
  (k_with "ktr_enter" => first
  | (refine' codeG ?k1 ?k2 ?k3 ?k4 ?k5 ?kA ?kF ?kK ?k6 ?k7 ?k8 ?k9 ?kB ?_ ?c2 ?c3 ?c4 ?c5; (case kA => exact rfl); (case kF => exact rfl); (case kK => assumption); (case k1 => first | k_asm | exact topb_of rfl rfl (by k_asm)); (case k2 => k_asm); (case k3 => k_asm); (case k4 => k_asm); (case k5 => k_asm); (case k6 => k_is); (case k7 => k_is); (case k8 => (k_extra "rm")); (case k9 => first | exact BindsTo.of_eq rfl | exact binds_K (by k_in) rfl (by k_is) rfl rfl rfl); (case c5 => decide); (case kB => exact locs rfl); (case c2 => exact rfl); (case c3 => exact rfl); (case c4 => exact rfl); k_whole; intro g'9q L'9q h'9q tk'9q st'9q FG'9q F'9q N'9q B'9q X'9q T'9q l1'9q; (try dsimp only); (try k_fold)))
  (k_with "k_inst" => exact inst_base (by k_asm) (by assumption) (by assumption))
  (k_with "getMethod ref" => (k_here; (with_reducible show wpAny _ _ (getMethod (Value.ref _) (Str.ofString "get") _) _ _ _); k_dflt (refine sd_method (SDict.base (by k_asm) (by assumption)) ?_)))
  (k_with "call builtin:dict.get" => (k_here; (with_reducible show wpAny _ _ (call (Value.builtin "dict.get") [Value.ref _, Value.str _ _]) _ _ _); k_dflt (first
  | (refine sd_get1s (SDict.base (by k_asm) (by assumption)) (by assumption) ?_; intro t'9q)
  | (refine sd_get1n (SDict.base (by k_asm) (by assumption)) (by assumption) ?_)
  | (refine sd_get1 (SDict.base (by k_asm) (by assumption)) (fun hg09q => ?_) (fun v'9q t'9q hg19q => ?_)))))
  (k_with "k_room" => (k_extra "rm"))
  (k_with "subscriptTail" => (k_here; (with_reducible show wpAny _ _ (subscriptTail _ _ (Value.ref _) (Value.str _ _)) _ _ _); k_dflt (refine sd_item (SDict.base (by k_asm) (by assumption)) (by assumption) ?_); intro t'9q))
  (k_with "call ref" => (k_here; (with_reducible show wpAny _ _ (call (Value.ref _) _) _ _ _); (try k_fold); k_dflt (refine' spec_use0 ?S ?k1 ?k2 ?k3 ?k4 ?k5 ?kK ?kP ?kd ?ku ?_; (case S => assumption); (case k1 => first | k_asm | exact topb_of rfl rfl (by k_asm)); (case k2 => k_asm); (case k3 => k_asm); (case k4 => k_asm); (case k5 => k_asm); (case kK => exact rfl); (case kP => first | exact trivial | exact ElOf.base (by k_asm) (by assumption)); (case kd => (k_extra "rm")); (case ku => (k_extra "un"))); intro r'9q tl'9q h'9q tk'9q F'9q N'9q fr'9q st'9q hR'9q; (try dsimp only at hR'9q)))
  (k_with "k_mem" => ((show _ ∈ (_ ++ _ : List (Addr × Obj))); first | (refine List.mem_append_right _ ?_; k_mem) | (refine List.mem_append_left _ ?_; k_mem)))
  (k_with "call builtin:dict.get" => (k_here; (with_reducible show wpAny _ _ (call (Value.builtin "dict.get") [Value.ref _, Value.str _ _, Value.str _ _]) _ _ _); k_dflt (refine sd_get2L (SDict.base (by k_asm) (by assumption)) (by first | assumption | decide) ?_); intro t'9q hlen'9q))
  subst hfs
  have nled : ∀ b o, h₀.get? b = some o → b ∉ led.map (·.1) := fun b o ho hb => by
    obtain ⟨q, hq, rfl⟩ := List.mem_map.mp hb
    rw [(N q hq).2.2] at ho; cases ho
  have nfr : ∀ b ∈ (envX cn cs L a ccd cl :: outer).filterMap (·.frame), b ∉ led.map (·.1) := fun b hb hm => by
    obtain ⟨q, hq, rfl⟩ := List.mem_map.mp hm
    exact frames_off K N rfl hq hb
  obtain ⟨h₁, T₁, F₁, K₁⟩ := ground_U (env := envX cn cs L a ccd cl) (h₅ := h') K F rfl (fun b o ho hb => F'.keep _ _ (T₆.other b o (st b o (F.keep b o ho) (nled b o ho)) fun hm => by
    rcases frames_mem (env := envX cn cs L a ccd cl) rfl hm with z | z
    · rw [z, kts_self F] at ho; cases ho
    · exact hb z)) (fun b hb o ho _ => by
      obtain ⟨sl, hs⟩ := T₆.up (st b o ho (nfr b hb))
      exact ⟨sl, F'.keep _ _ hs⟩)
  exact hret r h₁ h' tk' m T₁ F₁ hR
theorem cspec_use {w : World} {mean : ExcName → Option Value} {mg mb : Str → Option Value} {f : Addr} {vs : List Value} {k : Nat} {P : Heap → Prop} {R : Value → Prop} {dp un : Nat} {gd : Option (List Code)} {cn : Str} {cs : Scope} {a : Addr} {ccd : Value} {cl : List (Str × Addr)} {outer : List Env} {A₀ : Around} {base h₀ : Heap} {L : Addr} {m : Str → Option Value} {s : Shared} {Q E : Value → Shared → Prop} {news : List (Addr × Obj)}
    (S : CSpec w mean mg mb f vs k P R) (B : Below A₀ base outer h₀) (F : Fr h₀ L s.heap m) (X : (hd.heap_1_39 w.params).In h₀) (T : TopG mean mg mb h₀) (XB : (hd.heap_1_39 w.params).In base) (TB : TopG mean mg mb base) (N : News h₀ L s.heap news)
    (hk : cs.kind = .function) (hP : P s.heap) (hd : dp + k < recursionLimit) (hu : un + 8 * k < cLine)
    (ret : ∀ r h₁ h' tk', KtsTurn (outer.filterMap (·.frame)) h₀ h₁ → Fr h₁ L h' m → News h₁ L h' news → Below A₀ base outer h₁ → (Mine.hd.heap_1_39 w.params).In h₁ → TopG mean mg mb h₁ → R r → Q r { s with heap := h', toks := tk' }) :
    wpAny (model PySem.Challenge.rw_nu0026_01.row.prog w) (ktrTop dp un gd cn cs L a ccd cl outer) (call (.ref f) vs) Q E s :=
  S dp un gd cn cs a ccd cl outer A₀ base h₀ L m s Q E B F X T XB TB hk hP hd hu fun r h₁ h' tk' T₁ F₁ K₁ X₁ P₁ kp hR => ret r h₁ h' tk' T₁ F₁ (fun q hq => ⟨kp _ _ (N q hq).1 (frames_off (env := envX cn cs L a ccd cl) B N rfl hq), (N q hq).2.1, T₁.none_ _ (N q hq).2.2⟩) K₁ X₁ P₁ hR
theorem Shell.txt {w : World} {G : Addr → Obj → Prop} {v : Value} {name : Str} {attrs : List (Str × Str)} {vs : List Value} {t t' : Str} (h : Shell w G v name attrs vs t) (e : t = t') : Shell w G v name attrs vs t' := e ▸ h
theorem led_one {g h : Heap} {L d : Addr} {o : Obj} {news : List (Addr × Obj)} (N : News g L h news) (hm : (d, o) ∈ news) : News g L h [(d, o)] := fun p hp => by rw [List.mem_singleton.mp hp]; exact N _ hm
theorem Shell.el' {w : World} {g h : Heap} {L : Addr} {tl news : List (Addr × Obj)} {v : Value} {name text : Str} {attrs : List (Str × Str)} {vs : List Value} {kids : List El} (S : Shell w (LG tl) v name attrs vs text) (N : News g L h news) (hs : ∀ q ∈ tl, q ∈ news) (k : ElsOf w (HG h) vs kids) : ElOf w (HG h) v (.mk name attrs kids text) :=
  (S.mono fun a o q => (N _ (hs _ q)).1).el k
section
variable {prog : Program} {w : World} {A : Around} {s : Shared} {h₀ : Heap} {L : Addr} {m : Str → Option Value} {env : Env}
theorem rest_elems {elt : PySem.Expr} {x : Str} {scope : Scope} {cl : List (Str × Addr)} {S : List (Addr × Obj) → Prop} {P : Nat → Value → Prop} {Fin : List Value → List (Addr × Obj) → Prop} {news : List (Addr × Obj)} {n : Nat} (e : El)
    (turn : ∀ v tl I oI C oC D m₂ ys h tk (E' : Value → Shared → Prop), LCg.NsObj oC m₂ → m₂ x = some v → Fr h₀ L h m → News h₀ L h ((I, oI) :: (C, oC) :: (D, LCg.lst ys) :: (tl ++ news)) → LCg.Off3 I C D (tl ++ news) → ((@Ne Nat I C) ∧ (@Ne Nat I D) ∧ (@Ne Nat C D)) →
      wpAny (model prog w) A (eval elt (compEnvC scope cl C env)) (LCg.CompEnd h₀ L m { s with heap := h, toks := tk } I oI C oC D (LCg.lst ys) S (fun y news' => ∃ tl', news' = tl' ++ (tl ++ news) ∧ ElOf w (LG tl') y e)) E' { s with heap := h, toks := tk })
    (fin : ∀ ys tl, ElsOf w (LG tl) ys (List.replicate n e) → Fin ys (tl ++ news)) : LCg.CompRest prog w A h₀ L m env elt x scope cl s S P Fin n 0 [] news := by
  (k_with "ktr_enter" => (refine' codeGT ?k1 ?k2 ?k3 ?k4 ?k5 ?kA ?kF ?kK ?k6 ?k7 ?k8 ?k9 ?kB ?_ ?c2 ?c3 ?c4 ?c5; (case kA => exact rfl); (case kF => exact rfl); (case kK => assumption); (case k1 => first | k_asm | exact topb_of rfl rfl (by k_asm)); (case k2 => k_asm); (case k3 => k_asm); (case k4 => k_asm); (case k5 => k_asm); (case k6 => k_is); (case k7 => k_is); (case k8 => (k_extra "rm")); (case k9 => first | exact BindsTo.of_eq rfl | exact binds_K (by k_in) rfl (by k_is) rfl rfl rfl); (case c5 => decide); (case kB => exact locs rfl); (case c2 => exact rfl); (case c3 => exact rfl); (case c4 => exact rfl); k_whole; intro g'9q L'9q h'9q tk'9q st'9q FG'9q F'9q N'9q B'9q X'9q T'9q l1'9q; (try dsimp only); (try k_fold)))
  (k_with "ite" => (first | with_reducible refine ite_ff ?_ | with_reducible refine ite_tt ?_ | refine ite_dt (by assumption) ?_ | refine ite_df (by assumption) ?_))
  (k_with "eval Dict" => (k_here; k_dflt (refine' kdn_eval (knd := PySem.strKind _ _) ?F ?N ?b ?a ?l ?e ?n ?_; (case F => k_asm); (case N => first | k_asm | exact News.nil); (case b => exact Top.nolimit (by k_asm)); (case a => rfl); (case l => rfl); (case e => exact List.cons_ne_nil _ _); (case n => exact Nat.le_of_ble_eq_true rfl)); intro d'9q h'9q o'9q F'9q N'9q l19q lo'9q hd'9q; (try k_lt l19q)))
  (k_with "call ref" => (k_here; (with_reducible show wpAny _ _ (call (Value.ref 331) _) _ _ _); (try k_fold); k_dflt (refine' spec_use0 (element_spec _ _ _ _ _ _ _ _ _ _ ?hl) ?k1 ?k2 ?k3 ?k4 ?k5 ?kK ?kP ?kd ?ku ?_; (case k1 => first | k_asm | exact topb_of rfl rfl (by k_asm)); (case k2 => k_asm); (case k3 => k_asm); (case k4 => k_asm); (case k5 => k_asm); (case kK => exact rfl); (case kP => exact ⟨sd_lit (by k_asm) (by k_mem) (by assumption) (by assumption) (by first | exact AttrsAre.nil | exact AttrsAre.cons _ _ _ .nil | exact AttrsAre.cons _ _ _ (.cons _ _ _ .nil) | exact AttrsAre.cons _ _ _ (.cons _ _ _ (.cons _ _ _ .nil))) ⟨by decide, by decide +kernel⟩, list_of_get (News.get (by k_asm) (by k_mem))⟩); (case kd => (k_extra "rm")); (case ku => (k_extra "un")); (case hl => first | exact Nat.le_of_ble_eq_true rfl | assumption)); intro r'9q tl'9q h'9q tk'9q F'9q N'9q fr'9q st'9q hR'9q; (first | (replace hR'9q := hR'9q.txt (textOf_f (by decide +kernel))) | (replace hR'9q := hR'9q.txt (textOf_t (by decide +kernel)))); (try dsimp only)))
  (k_with "call ref" => (k_here; (with_reducible show wpAny _ _ (call (Value.ref 324) _) _ _ _); (try k_fold); k_dflt (refine' use_one (one_spec _ _ _ _ _ _ _ _ _ _ _ _ ?ha ?hb ?hb2 ?ht ?ht2) ?k1 ?k2 ?k3 ?k4 ?kU ?k5 ?kK ?kP ?kd ?ku ?_; (case k1 => first | k_asm | exact topb_of rfl rfl (by k_asm)); (case k2 => k_asm); (case k3 => k_asm); (case k4 => k_asm); (case kU => k_updF); (case k5 => k_asm); (case kK => exact rfl); (case kP => exact ⟨list_of_get (News.get (by k_asm) (by k_mem)), by first | assumption | exact Nat.ne_of_lt (by assumption) | exact Nat.ne_of_gt (by assumption)⟩); (case kd => (k_extra "rm")); (case ku => (k_extra "un")); (case ha => assumption); (case hb => assumption); (case hb2 => assumption); (case ht => simp); (case ht2 => simp)); intro r'9q a'9q b'9q ta'9q tb'9q n'9q h'9q tk'9q F'9q N'9q hR19q hR49q hR59q hR69q; (try dsimp only at N'9q)))
  have key : ∀ (j i : Nat) (ys : List Value) (tl : List (Addr × Obj)), i + j = n → ElsOf w (LG tl) ys (List.replicate i e) → LCg.CompRest prog w A h₀ L m env elt x scope cl s S P Fin j i ys (tl ++ news) := by
    intro j
    induction j with
    | zero =>
      intro i ys tl hi hy
      have e : i = n := by omega
      subst e
      exact LCg.CompRest.zero (fin ys tl hy)
    | succ j ih =>
      intro i ys tl hi hy
      refine LCg.CompRest.succ ?_
      intro v I oI C oC D m₂ h tk E' hk hC hx F N off ne
      refine wpAny_mono (turn v tl I oI C oC D m₂ ys h tk E' hC hx F N off ne) (fun y s₂ hq => ?_) fun _ _ e => e
      k_extra "gn"; (obtain ⟨h', tk', nw', e', F', N', off', hS, tl', rfl, hE⟩ := hq) <;> k_unfold
      refine ex3 h' tk' _ ⟨e', F', N', off', hS, ?_⟩
      rw [← List.append_assoc]
      refine ih (i + 1) _ (tl' ++ tl) (by omega) ?_
      rw [List.replicate_succ']
      exact elsOf_snoc (hy.mono fun a o q => List.mem_append_right _ q) (hE.mono fun a o q => List.mem_append_left _ q)
  exact key n 0 [] [] (by omega) .nil
end
theorem els_up {w : World} {g h : Heap} {L : Addr} {tl news : List (Addr × Obj)} {vs : List Value} {es : List El} (S : ElsOf w (LG tl) vs es) (N : News g L h news) (hs : ∀ q ∈ tl, q ∈ news) : ElsOf w (HG h) vs es := S.mono fun a o q => (N _ (hs _ q)).1
theorem turn_end {g h1 h' : Heap} {L I C D l d : Addr} {oI oC oD ol od : Obj} {nw tlR : List (Addr × Obj)} (N3 : News g L h' (tlR ++ (l, ol) :: (d, od) :: (I, oI) :: (C, oC) :: (D, oD) :: nw)) (N1 : News g L h1 ((l, ol) :: (d, od) :: (I, oI) :: (C, oC) :: (D, oD) :: nw)) (fr : ∀ q ∈ tlR, h1.get? q.1 = none) (off : LCg.Off3 I C D nw)
    (hd : (@Ne Nat d I) ∧ (@Ne Nat d C) ∧ (@Ne Nat d D)) (hl : (@Ne Nat l I) ∧ (@Ne Nat l C) ∧ (@Ne Nat l D)) : News g L h' ((I, oI) :: (C, oC) :: (D, oD) :: ((tlR ++ [(l, ol), (d, od)]) ++ nw)) ∧ LCg.Off3 I C D ((tlR ++ [(l, ol), (d, od)]) ++ nw) := by
  refine ⟨fun p hp => N3 p ?_, LCg.Off3.of fun p hp => ?_⟩
  · simp only [List.mem_append, List.mem_cons, List.not_mem_nil, or_false] at hp ⊢
    rcases hp with hp | hp | hp | (hp | hp | hp) | hp
    · exact .inr (.inr (.inr (.inl hp)))
    · exact .inr (.inr (.inr (.inr (.inl hp))))
    · exact .inr (.inr (.inr (.inr (.inr (.inl hp)))))
    · exact .inl hp
    · exact .inr (.inl hp)
    · exact .inr (.inr (.inl hp))
    · exact .inr (.inr (.inr (.inr (.inr (.inr hp)))))
  · rcases List.mem_append.mp hp with hp | hp
    · rcases List.mem_append.mp hp with hp | hp
      · have z := fr p hp
        refine ⟨fun e => ?_, fun e => ?_, fun e => ?_⟩
        · rw [e, (N1 (I, oI) (.tail _ (.tail _ (.head _)))).1] at z; cases z
        · rw [e, (N1 (C, oC) (.tail _ (.tail _ (.tail _ (.head _))))).1] at z; cases z
        · rw [e, (N1 (D, oD) (.tail _ (.tail _ (.tail _ (.tail _ (.head _)))))).1] at z; cases z
      · rcases List.mem_cons.mp hp with rfl | hp
        · exact hl
        · rw [List.mem_singleton.mp hp]; exact hd
    · exact off.mem p hp
theorem wrong_spec (w : World) (mean : ExcName → Option Value) (mg mb : Str → Option Value) (src : Addr) (a b : Int) (ta tb : Tok) (n : Nat) (ha : 0 ≤ a) (hb : 0 ≤ b) (hb2 : b < 2147483647) :
    WSpec w mean mg mb 367 [.ref src] [(src, PySem.W.listOf #[.int a ta, .int b tb] n)] 50 (fun _ => True) (fun r => r = .bool true) := by
  unfold WSpec
  k_fill
  intro dp un gd cn cs a' ccd cl' outer A₀ base h₀ L m s Q E B F X N T XB TB hk hP hd hu hret
  clear hP
  refine wpAny_call ?_
  k_dflt ktr_enter
  first | refine (let ak : Around := _; let nk : Env := _; let sg9 : Array GenState := _; let sd9 : Drawn := _; let so9 : OsState := _; (?_ : wpAny _ ak (execs _ nk) _ _ (Shared.mk _ sg9 sd9 _ so9))) | refine (let ak : Around := _; let nk : Env := _; (?_ : wpAny _ ak (execs _ nk) _ _ _))
  try (have FE9 : FnE nk L'9q := ⟨rfl, rfl, rfl⟩)
  try (rename Fr _ _ _ (fun y => List.lookup y (List.reverse _)) => FX9; replace FX9 := fr_binds [(Str.ofString "source", (.ref src : Value))] rfl FX9)
  rename Stood _ _ _ => st
  repeat ((fail_if_success (with_reducible show wpAny _ _ (call (Value.ref 362) _) _ _ _)); first | ((with_reducible show wpAny _ _ (PySem.exec _ _) _ _ _); k_fold) | ((fail_if_success (fail_if_success k_unfold)); (show wpAny _ _ _ _ _ _); (try dsimp only)) | (k_unfold; (try dsimp only)) | (k_end; wrow_close) | walk1 | (dsimp only; walk1) | (leave1; walk_say "STEP lea"))
  rename Shell _ _ _ (Str.ofString "svg") _ _ _ => S2
  rename Shell _ _ _ (Str.ofString "use") _ _ _ => S1
  rename News g'9q _ _ _ => N1
  rename Fr g'9q _ _ _ => F1
  rename Below _ base (_ :: outer) g'9q => K1
  rename Frag.In _ g'9q => X1
  rename Top _ _ _ _ _ g'9q => P1
  refine cspec_use (refuse1 w mean mg mb (HG _) _ _ _ _) K1 F1 X1 P1 XB TB (led_one (d := src) N1 (by k_mem)) rfl ⟨fun _ _ q => q, S2.el' N1 (by intro q hq; first | k_extra "sub" | simp only [List.mem_append, List.mem_cons, hq, true_or, or_true]) (.cons (S1.el' N1 (by intro q hq; first | k_extra "sub" | simp only [List.mem_append, List.mem_cons, hq, true_or, or_true]) .nil) .nil)⟩ (by (k_extra "rm")) (by (k_extra "un")) ?_
  intro r g₂ h2 tk2 T2 F2 N2 K2 X2 P2 hr
  subst hr
  clear S1 S2 F1 N1 K1 X1 P1
  repeat ((fail_if_success (with_reducible show wpAny _ _ (call (Value.ref 362) _) _ _ _)); first | ((with_reducible show wpAny _ _ (PySem.exec _ _) _ _ _); k_fold) | ((fail_if_success (fail_if_success k_unfold)); (show wpAny _ _ _ _ _ _); (try dsimp only)) | (k_unfold; (try dsimp only)) | (k_end; wrow_close) | walk1 | (dsimp only; walk1) | (leave1; walk_say "STEP lea"))
  rename Shell _ _ _ (Str.ofString "svg") _ _ _ => S2
  rename Shell _ _ _ (Str.ofString "use") _ _ _ => S1
  rename News g₂ _ _ _ => N1
  rename Fr g₂ _ _ _ => F1
  refine cspec_use (refuse2 w mean mg mb (HG _) _ _ _ _) K2 F1 X2 P2 XB TB (led_one (d := src) N1 (by k_mem)) rfl ⟨fun _ _ q => q, S2.el' N1 (by intro q hq; first | k_extra "sub" | simp only [List.mem_append, List.mem_cons, hq, true_or, or_true]) (.cons (S1.el' N1 (by intro q hq; first | k_extra "sub" | simp only [List.mem_append, List.mem_cons, hq, true_or, or_true]) .nil) .nil)⟩ (by (k_extra "rm")) (by (k_extra "un")) ?_
  intro r g₃ h2 tk2 T3 F2 N2 K3 X3 P3 hr
  subst hr
  clear S1 S2 F1 N1 K2 X2 P2
  repeat ((fail_if_success (with_reducible show wpAny _ _ (call (Value.ref 324) _) _ _ _)); first | ((with_reducible show wpAny _ _ (PySem.exec _ _) _ _ _); k_fold) | ((fail_if_success (fail_if_success k_unfold)); (show wpAny _ _ _ _ _ _); (try dsimp only)) | (k_unfold; (try dsimp only)) | (k_end; wrow_close) | walk1 | (dsimp only; walk1) | (leave1; walk_say "STEP lea"))
  walk1
  rename (_ ∈ ([_, _] : List Value)) => hm
  simp only [List.mem_cons, List.not_mem_nil, or_false] at hm
  rcases hm with rfl | rfl
  · repeat ((fail_if_success (with_reducible show wpAny _ _ (call (Value.ref 362) _) _ _ _)); first | ((with_reducible show wpAny _ _ (PySem.exec _ _) _ _ _); k_fold) | ((fail_if_success (fail_if_success k_unfold)); (show wpAny _ _ _ _ _ _); (try dsimp only)) | (k_unfold; (try dsimp only)) | (k_end; wrow_close) | walk1 | (dsimp only; walk1) | (leave1; walk_say "STEP lea"))
    rename Shell _ _ _ (Str.ofString "svg") _ _ _ => S0
    rename Shell _ _ _ (Str.ofString "g") [(Str.ofString "id", Str.ofString "p")] _ _ => SP
    rename Shell _ _ _ (Str.ofString "g") [(Str.ofString "id", Str.ofString "q")] _ _ => SQ
    rename Shell _ _ _ (Str.ofString "use") [(Str.ofString "href", Str.ofString "#p")] _ _ => U2'
    rename Shell _ _ _ (Str.ofString "use") [(Str.ofString "href", Str.ofString "#" ++ _)] _ _ => U1'
    rename News g₃ _ _ _ => N1
    rename Fr g₃ _ _ _ => F1
    refine cspec_use (refuse3p w mean mg mb (HG _) _ _ _ _) K3 F1 X3 P3 XB TB (led_one (d := src) N1 (by k_mem)) rfl ⟨fun _ _ q => q, S0.el' N1 (by intro q hq; first | k_extra "sub" | simp only [List.mem_append, List.mem_cons, hq, true_or, or_true]) (.cons (SP.el' N1 (by intro q hq; first | k_extra "sub" | simp only [List.mem_append, List.mem_cons, hq, true_or, or_true]) (.cons (U1'.el' N1 (by intro q hq; first | k_extra "sub" | simp only [List.mem_append, List.mem_cons, hq, true_or, or_true]) .nil) .nil)) (.cons (SQ.el' N1 (by intro q hq; first | k_extra "sub" | simp only [List.mem_append, List.mem_cons, hq, true_or, or_true]) (.cons (U2'.el' N1 (by intro q hq; first | k_extra "sub" | simp only [List.mem_append, List.mem_cons, hq, true_or, or_true]) .nil) .nil)) .nil))⟩ (by (k_extra "rm")) (by (k_extra "un")) ?_
    intro r g₄ h2 tk2 T4 F2 N2 K4 X4 P4 hr
    subst hr
    clear S0 SP SQ U1' U2' F1 N1 K3 X3 P3
    repeat ((fail_if_success (with_reducible show LCg.CompSrc _ _ _ _ _ _ _ _ _ _ _ _ _ _)); first | ((with_reducible show wpAny _ _ (PySem.exec _ _) _ _ _); k_fold) | ((fail_if_success (fail_if_success k_unfold)); (show wpAny _ _ _ _ _ _); (try dsimp only)) | (k_unfold; (try dsimp only)) | (k_end; wrow_close) | walk1 | (dsimp only; walk1) | (leave1; walk_say "STEP lea"))
    refine LCg.CompSrc.range (n := 3) (by rfl) (by k_asm) (by k_asm) (by assumption) (by first | decide | rfl) (by first | rfl | decide) (by first | size_fits | exact Nat.le_of_ble_eq_true rfl) ?_
    intro gg
    refine rest_elems (.mk (Str.ofString "rect") [] [] (Str.ofString "")) (fun v tl I oI C oC D m₂ ys h tk E' hC hx F2 N2 off ne => ?_) (fun ys tl hr => ?_)
    · repeat ((fail_if_success (with_reducible show wpAny _ _ (call (Value.ref 331) _) _ _ _)); first | ((with_reducible show wpAny _ _ (PySem.exec _ _) _ _ _); k_fold) | ((fail_if_success (fail_if_success k_unfold)); (show wpAny _ _ _ _ _ _); (try dsimp only)) | (k_unfold; (try dsimp only)) | (k_end; wrow_close) | walk1 | (dsimp only; walk1) | (leave1; walk_say "STEP lea"))
      rename News g₄ _ _ _ => N3
      walk1
      rename Shell _ _ _ (Str.ofString "rect") _ _ _ => SR
      rename (∀ q ∈ _, Heap.get? _ _ = none) => frR
      rename News g₄ _ _ _ => N4
      obtain ⟨z1, z2⟩ := turn_end N4 N3 frR off ⟨by k_ne, by k_ne, by k_ne⟩ ⟨by k_ne, by k_ne, by k_ne⟩
      exact ⟨_, _, _, rfl, by k_asm, z1, z2, trivial, _, rfl, (SR.mono fun a o q => List.mem_append_left _ q).el .nil⟩
    · have hyl : ys.length ≤ 40 := by rw [hr.length]; decide
      intro D h tk F2 N2 off
      dsimp only
      replace N2 : News _ _ _ ((D, PySem.W.listOf (List.toArray ys) _) :: _) := N2
      repeat ((fail_if_success (with_reducible show wpAny _ _ (call (Value.ref 331) _) _ _ _)); first | ((with_reducible show wpAny _ _ (PySem.exec _ _) _ _ _); k_fold) | ((fail_if_success (fail_if_success k_unfold)); (show wpAny _ _ _ _ _ _); (try dsimp only)) | (k_unfold; (try dsimp only)) | (k_end; wrow_close) | walk1 | (dsimp only; walk1) | (leave1; walk_say "STEP lea"))
      walk1
      rename Shell _ _ _ (Str.ofString "svg") _ _ _ => S0
      repeat ((fail_if_success (with_reducible show wpAny _ _ (call (Value.ref 362) _) _ _ _)); first | ((with_reducible show wpAny _ _ (PySem.exec _ _) _ _ _); k_fold) | ((fail_if_success (fail_if_success k_unfold)); (show wpAny _ _ _ _ _ _); (try dsimp only)) | (k_unfold; (try dsimp only)) | (k_end; wrow_close) | walk1 | (dsimp only; walk1) | (leave1; walk_say "STEP lea"))
      rename News g₄ _ _ _ => N1
      rename Fr g₄ _ _ _ => F1
      refine cspec_use (refuse4 w mean mg mb (HG _) _ _ _ _) K4 F1 X4 P4 XB TB N1 rfl ⟨fun _ _ q => q, S0.el' N1 (by intro q hq; first | k_extra "sub" | simp only [List.mem_append, List.mem_cons, hq, true_or, or_true]) (els_up hr N1 (by intro q hq; first | k_extra "sub" | simp only [List.mem_append, List.mem_cons, hq, true_or, or_true]))⟩ (by (k_extra "rm")) (by (k_extra "un")) ?_
      intro r g₅ h2 tk2 T5 F2 N2 K5 X5 P5 hr2
      subst hr2
      clear F1 N1 K4 X4 P4
      repeat ((fail_if_success (with_reducible show wpAny _ _ (call (Value.ref 362) _) _ _ _)); first | ((with_reducible show wpAny _ _ (PySem.exec _ _) _ _ _); k_fold) | ((fail_if_success (fail_if_success k_unfold)); (show wpAny _ _ _ _ _ _); (try dsimp only)) | (k_unfold; (try dsimp only)) | (k_end; wrow_close) | walk1 | (dsimp only; walk1) | (leave1; walk_say "STEP lea"))
      rename News g₅ _ _ _ => N1
      rename Fr g₅ _ _ _ => F1
      refine cspec_use (refuse5 w mean mg mb (HG _) _ _ _ _) K5 F1 X5 P5 XB TB (led_one (d := src) N1 (by k_mem)) rfl ⟨fun _ _ q => q, S0.el' N1 (by intro q hq; first | k_extra "sub" | simp only [List.mem_append, List.mem_cons, hq, true_or, or_true]) (els_up hr N1 (by intro q hq; first | k_extra "sub" | simp only [List.mem_append, List.mem_cons, hq, true_or, or_true]))⟩ (by (k_extra "rm")) (by (k_extra "un")) ?_
      intro r g₆ h2 tk2 T6 F2 N2 K6 X6 P6 hr2
      subst hr2
      clear F1 N1 K5 X5 P5
      (k_extra "st")
      (try dsimp only)
      exact wspec_ret hret B F N st rfl ((((T2.trans T3).trans T4).trans T5).trans T6) (by k_asm) rfl
  · repeat ((fail_if_success (with_reducible show wpAny _ _ (call (Value.ref 362) _) _ _ _)); first | ((with_reducible show wpAny _ _ (PySem.exec _ _) _ _ _); k_fold) | ((fail_if_success (fail_if_success k_unfold)); (show wpAny _ _ _ _ _ _); (try dsimp only)) | (k_unfold; (try dsimp only)) | (k_end; wrow_close) | walk1 | (dsimp only; walk1) | (leave1; walk_say "STEP lea"))
    rename Shell _ _ _ (Str.ofString "svg") _ _ _ => S0
    rename Shell _ _ _ (Str.ofString "g") [(Str.ofString "id", Str.ofString "p")] _ _ => SP
    rename Shell _ _ _ (Str.ofString "g") [(Str.ofString "id", Str.ofString "q")] _ _ => SQ
    rename Shell _ _ _ (Str.ofString "use") [(Str.ofString "href", Str.ofString "#p")] _ _ => U2'
    rename Shell _ _ _ (Str.ofString "use") [(Str.ofString "href", Str.ofString "#" ++ _)] _ _ => U1'
    rename News g₃ _ _ _ => N1
    rename Fr g₃ _ _ _ => F1
    refine cspec_use (refuse3q w mean mg mb (HG _) _ _ _ _) K3 F1 X3 P3 XB TB (led_one (d := src) N1 (by k_mem)) rfl ⟨fun _ _ q => q, S0.el' N1 (by intro q hq; first | k_extra "sub" | simp only [List.mem_append, List.mem_cons, hq, true_or, or_true]) (.cons (SP.el' N1 (by intro q hq; first | k_extra "sub" | simp only [List.mem_append, List.mem_cons, hq, true_or, or_true]) (.cons (U1'.el' N1 (by intro q hq; first | k_extra "sub" | simp only [List.mem_append, List.mem_cons, hq, true_or, or_true]) .nil) .nil)) (.cons (SQ.el' N1 (by intro q hq; first | k_extra "sub" | simp only [List.mem_append, List.mem_cons, hq, true_or, or_true]) (.cons (U2'.el' N1 (by intro q hq; first | k_extra "sub" | simp only [List.mem_append, List.mem_cons, hq, true_or, or_true]) .nil) .nil)) .nil))⟩ (by (k_extra "rm")) (by (k_extra "un")) ?_
    intro r g₄ h2 tk2 T4 F2 N2 K4 X4 P4 hr
    subst hr
    clear S0 SP SQ U1' U2' F1 N1 K3 X3 P3
    repeat ((fail_if_success (with_reducible show LCg.CompSrc _ _ _ _ _ _ _ _ _ _ _ _ _ _)); first | ((with_reducible show wpAny _ _ (PySem.exec _ _) _ _ _); k_fold) | ((fail_if_success (fail_if_success k_unfold)); (show wpAny _ _ _ _ _ _); (try dsimp only)) | (k_unfold; (try dsimp only)) | (k_end; wrow_close) | walk1 | (dsimp only; walk1) | (leave1; walk_say "STEP lea"))
    refine LCg.CompSrc.range (n := 3) (by rfl) (by k_asm) (by k_asm) (by assumption) (by first | decide | rfl) (by first | rfl | decide) (by first | size_fits | exact Nat.le_of_ble_eq_true rfl) ?_
    intro gg
    refine rest_elems (.mk (Str.ofString "rect") [] [] (Str.ofString "")) (fun v tl I oI C oC D m₂ ys h tk E' hC hx F2 N2 off ne => ?_) (fun ys tl hr => ?_)
    · repeat ((fail_if_success (with_reducible show wpAny _ _ (call (Value.ref 331) _) _ _ _)); first | ((with_reducible show wpAny _ _ (PySem.exec _ _) _ _ _); k_fold) | ((fail_if_success (fail_if_success k_unfold)); (show wpAny _ _ _ _ _ _); (try dsimp only)) | (k_unfold; (try dsimp only)) | (k_end; wrow_close) | walk1 | (dsimp only; walk1) | (leave1; walk_say "STEP lea"))
      rename News g₄ _ _ _ => N3
      walk1
      rename Shell _ _ _ (Str.ofString "rect") _ _ _ => SR
      rename (∀ q ∈ _, Heap.get? _ _ = none) => frR
      rename News g₄ _ _ _ => N4
      obtain ⟨z1, z2⟩ := turn_end N4 N3 frR off ⟨by k_ne, by k_ne, by k_ne⟩ ⟨by k_ne, by k_ne, by k_ne⟩
      exact ⟨_, _, _, rfl, by k_asm, z1, z2, trivial, _, rfl, (SR.mono fun a o q => List.mem_append_left _ q).el .nil⟩
    · have hyl : ys.length ≤ 40 := by rw [hr.length]; decide
      intro D h tk F2 N2 off
      dsimp only
      replace N2 : News _ _ _ ((D, PySem.W.listOf (List.toArray ys) _) :: _) := N2
      repeat ((fail_if_success (with_reducible show wpAny _ _ (call (Value.ref 331) _) _ _ _)); first | ((with_reducible show wpAny _ _ (PySem.exec _ _) _ _ _); k_fold) | ((fail_if_success (fail_if_success k_unfold)); (show wpAny _ _ _ _ _ _); (try dsimp only)) | (k_unfold; (try dsimp only)) | (k_end; wrow_close) | walk1 | (dsimp only; walk1) | (leave1; walk_say "STEP lea"))
      walk1
      rename Shell _ _ _ (Str.ofString "svg") _ _ _ => S0
      repeat ((fail_if_success (with_reducible show wpAny _ _ (call (Value.ref 362) _) _ _ _)); first | ((with_reducible show wpAny _ _ (PySem.exec _ _) _ _ _); k_fold) | ((fail_if_success (fail_if_success k_unfold)); (show wpAny _ _ _ _ _ _); (try dsimp only)) | (k_unfold; (try dsimp only)) | (k_end; wrow_close) | walk1 | (dsimp only; walk1) | (leave1; walk_say "STEP lea"))
      rename News g₄ _ _ _ => N1
      rename Fr g₄ _ _ _ => F1
      refine cspec_use (refuse4 w mean mg mb (HG _) _ _ _ _) K4 F1 X4 P4 XB TB N1 rfl ⟨fun _ _ q => q, S0.el' N1 (by intro q hq; first | k_extra "sub" | simp only [List.mem_append, List.mem_cons, hq, true_or, or_true]) (els_up hr N1 (by intro q hq; first | k_extra "sub" | simp only [List.mem_append, List.mem_cons, hq, true_or, or_true]))⟩ (by (k_extra "rm")) (by (k_extra "un")) ?_
      intro r g₅ h2 tk2 T5 F2 N2 K5 X5 P5 hr2
      subst hr2
      clear F1 N1 K4 X4 P4
      repeat ((fail_if_success (with_reducible show wpAny _ _ (call (Value.ref 362) _) _ _ _)); first | ((with_reducible show wpAny _ _ (PySem.exec _ _) _ _ _); k_fold) | ((fail_if_success (fail_if_success k_unfold)); (show wpAny _ _ _ _ _ _); (try dsimp only)) | (k_unfold; (try dsimp only)) | (k_end; wrow_close) | walk1 | (dsimp only; walk1) | (leave1; walk_say "STEP lea"))
      rename News g₅ _ _ _ => N1
      rename Fr g₅ _ _ _ => F1
      refine cspec_use (refuse5 w mean mg mb (HG _) _ _ _ _) K5 F1 X5 P5 XB TB (led_one (d := src) N1 (by k_mem)) rfl ⟨fun _ _ q => q, S0.el' N1 (by intro q hq; first | k_extra "sub" | simp only [List.mem_append, List.mem_cons, hq, true_or, or_true]) (els_up hr N1 (by intro q hq; first | k_extra "sub" | simp only [List.mem_append, List.mem_cons, hq, true_or, or_true]))⟩ (by (k_extra "rm")) (by (k_extra "un")) ?_
      intro r g₆ h2 tk2 T6 F2 N2 K6 X6 P6 hr2
      subst hr2
      clear F1 N1 K5 X5 P5
      (k_extra "st")
      (try dsimp only)
      exact wspec_ret hret B F N st rfl ((((T2.trans T3).trans T4).trans T5).trans T6) (by k_asm) rfl
noncomputable def OptV (v : Value) (o : Option Str) : Prop := (v = .none ∧ o = none) ∨ ∃ s t, v = .str s t ∧ o = some s
noncomputable def HrOk (x : Str) : Prop := x = Str.ofString "href" ∨ x = Str.ofString "xlink:href"
noncomputable def TrOk (x : Str) : Prop := x = Str.ofString "" ∨ x = Str.ofString "scale(2)"
noncomputable def XOk (o : Option Str) : Prop := o = none ∨ o = some (Str.ofString "3") ∨ o = some (Str.ofString "-2")
noncomputable def YOk (o : Option Str) : Prop := o = none ∨ o = some (Str.ofString "4.5") ∨ o = some (Str.ofString "0")
theorem mem_hr {r : Value} {t1 t2 : Tok} (h : r ∈ [Value.str (Str.ofString "href") t1, Value.str (Str.ofString "xlink:href") t2]) : ∃ x t, r = .str x t ∧ HrOk x := by
  k_with_none
  w_top off
  (k_with "an" => (first | assumption | exact And.left (by assumption) | exact And.left (And.right (by assumption)) | exact And.left (And.right (And.right (by assumption))) | exact And.left (And.right (And.right (And.right (by assumption)))) | exact And.left (And.right (And.right (And.right (And.right (by assumption))))) | exact And.left (And.right (And.right (And.right (And.right (And.right (by assumption)))))) | exact And.left (And.right (And.right (And.right (And.right (And.right (And.right (by assumption))))))) | exact And.left (And.right (And.right (And.right (And.right (And.right (And.right (And.right (by assumption)))))))) | exact And.left (And.right (And.right (And.right (And.right (And.right (And.right (And.right (And.right (by assumption)))))))))))
  (k_with "k_ne" => (refine neN ?_; (try dsimp only); first | (refine Nat.ne_of_lt ?_; k_extra "an") | (refine Nat.ne_of_gt ?_; k_extra "an")))
  (k_with "sub" => (first | assumption | (refine List.mem_append_left _ ?_; k_extra "sub") | (refine List.mem_append_right _ ?_; k_extra "sub") | (refine List.Mem.tail _ ?_; k_extra "sub")))
  (k_with "rm" => (first | exact room_of 1 rfl (by assumption) rfl | exact room_of 0 rfl (by assumption) rfl | exact room_of1 1 rfl (by assumption) rfl | exact room_of1 0 rfl (by assumption) rfl | ktr_room))
  (k_with "un" => (first | exact units_of 3 rfl (by assumption) rfl | exact units_of 4 rfl (by assumption) rfl | exact units_of 0 rfl (by assumption) rfl | ktr_units))
  (k_with "gn" => refine (let P9 : Prop := _; (?_ : P9)))
  (k_with "st" => (repeat' (first | ((with_reducible show wpAny _ _ (PySem.exec _ _) _ _ _); k_fold) | ((fail_if_success (fail_if_success k_unfold)); (show wpAny _ _ _ _ _ _); (try dsimp only)) | (k_unfold; (try dsimp only)) | (k_end; wrow_close) | walk1 | (dsimp only; walk1) | (leave1; walk_say "STEP leave1"; try dsimp only) | fail "no step")))
  (k_with "D" => try ((with_reducible show wpAny _ _ _ _ _ (Shared.mk (Shared.heap _) _ _ _ _)); dsimp only))
  (k_with "E0" => ((case F => k_asm); (case V => first | assumption | exact ⟨rfl, rfl, rfl⟩)))
  (k_with "E" => (k_extra "E0"; (case e => exact rfl)))
  (k_with "S" => (intro h'8q tk'8q F'8q N'8q; (try k_sweep)))
  (k_with "A" => (intro l'8q h'8q F'8q N'8q l18q; (try k_lt l18q); (try k_sweep)))
  (k_with "spliced" => (k_here; k_extra "D"; k_dflt (first | ((with_reducible refine' s_args ?V ?F ?e ?_); k_extra "E"; k_whole; (try dsimp only [List.cons_append, List.nil_append])))))
  (k_with "evalPairs" => (k_here; k_extra "D"; k_dflt (first | ((with_reducible refine' s_pair ?V ?F ?e ?f ?_); k_extra "E"; (case f => exact rfl); k_whole))))
  (k_with "eval BinOp" => (k_here; k_extra "D"; k_dflt (first | ((with_reducible refine' s_bin ?V ?F ?e ?f ?_); k_extra "E"; (case f => exact rfl); k_whole) | ((with_reducible refine' s_binL ?V ?F ?e ?_); k_extra "E"; k_whole))))
  (k_with "isTrue Compare" => (k_here; k_extra "D"; k_dflt (first | ((with_reducible refine' s_cmp ?V ?F ?e ?f ?h ?_); k_extra "E"; (case f => exact rfl); (case h => with_unfolding_all rfl); k_whole) | ((with_reducible refine' s_cmpL ?V ?F ?e ?h ?_); k_extra "E"; (case h => with_unfolding_all rfl); k_whole))))
  (k_with "eval Subscript" => (k_here; k_extra "D"; k_dflt (first | ((with_reducible refine' s_sub ?V ?F ?e ?f ?_); k_extra "E"; (case f => exact rfl); k_whole) | ((with_reducible refine' s_subL ?V ?F ?e ?_); k_extra "E"; k_whole))))
  (k_with "eval List" => (k_here; k_extra "D"; k_dflt (first | ((with_reducible refine' s_list ?V ?F ?e ?_); k_extra "E"; k_whole))))
  (k_with "eval Tuple" => (k_here; k_extra "D"; k_dflt (first | ((with_reducible refine' s_tuple ?V ?F ?e ?_); k_extra "E"; k_whole))))
  (k_with "exec Return some" => (k_here; k_extra "D"; k_dflt (first | ((with_reducible refine' s_ret ?V ?F ?e ?_); k_extra "E"; k_whole))))
  (k_with "eval Attribute Name" => (k_here; k_extra "D"; k_dflt (first | ((with_reducible refine' s_attr ?V ?F ?e ?_ ?h); k_extra "E"; (case h => with_unfolding_all rfl); k_whole))))
  (k_with "execs cons" => (k_here; k_extra "D"; k_dflt (first | k_gentoks | ((with_reducible refine' c_asgS ?V ?F ?N ?e ?x ?_ ?h); k_extra "E"; (case N => k_asm); (case x => exact rfl); (case h => exact rfl); k_whole; k_extra "S") | ((with_reducible refine' c_asg ?_ ?h); (case h => exact rfl); k_whole; (try refine (let qk8q : Value → Shared → Prop := _; (?_ : wpAny _ _ _ qk8q _ _)))) | ((with_reducible refine' c_retS ?V ?F ?e ?_); k_extra "E"; k_whole) | (with_reducible refine c_ret ?_))))
  (k_with "newList" => (k_here; k_extra "D"; k_dflt (first | ((with_reducible refine' c_newList ?F ?N ?_ ?z); (case F => k_asm); (case N => k_asm); (case z => size_fits); k_extra "A"))))
  (k_with "newTuple" => (k_here; k_extra "D"; k_dflt (first | ((with_reducible refine' c_newTuple ?F ?N ?_ ?z); (case F => k_asm); (case N => k_asm); (case z => kmk_size); k_extra "A"))))
  (k_with "binaryOp Mult int int" => (k_here; k_extra "D"; k_dflt (first | ((with_reducible refine' c_mul ?_ ?z); (case z => mul_fits)))))
  (k_with "binaryOp Add int int" => (k_here; k_extra "D"; k_dflt (first | (with_reducible refine c_add ?_))))
  (k_with "binaryOp Sub int int" => (k_here; k_extra "D"; k_dflt (first | (with_reducible refine c_sub ?_))))
  (k_with "unaryOp USub int" => (k_here; k_extra "D"; k_dflt (first | (with_reducible refine c_neg ?_))))
  (k_with "callWith ref" => (k_here; k_extra "D"; k_dflt (first | ((with_reducible refine' s_with ?V ?F ?X ?k ?e ?_); k_extra "E"; (case X => k_asm); (case k => k_is); k_whole))))
  (k_with "eval Call" => (k_here; k_extra "D"; k_dflt (first | ((with_reducible refine' s_call ?V ?F ?X ?T ?n ?x ?d ?k ?e ?_ ?h); k_extra "E"; (case x => exact rfl); (case X => k_asm); (case T => k_asm); (case d => decide); (case n => k_is); (case k => k_is); (case h => exact rfl); k_whole))))
  (k_with "eval Name" => (k_here; k_extra "D"; k_dflt (first | ((with_reducible refine' s_val ?V ?F ?e ?_); k_extra "E"; k_whole))))
  (k_with "ktr_enter" => first
  | (refine' codeG ?k1 ?k2 ?k3 ?k4 ?k5 ?kA ?kF ?kK ?k6 ?k7 ?k8 ?k9 ?kB ?_ ?c2 ?c3 ?c4 ?c5; (case kA => exact rfl); (case kF => exact rfl); (case kK => assumption); (case k1 => first | k_asm | exact topb_of rfl rfl (by k_asm)); (case k2 => k_asm); (case k3 => k_asm); (case k4 => k_asm); (case k5 => k_asm); (case k6 => k_is); (case k7 => k_is); (case k8 => (k_extra "rm")); (case k9 => first | exact BindsTo.of_eq rfl | exact binds_K (by k_in) rfl (by k_is) rfl rfl rfl); (case c5 => decide); (case kB => exact locs rfl); (case c2 => exact rfl); (case c3 => exact rfl); (case c4 => exact rfl); k_whole; intro g'9q L'9q h'9q tk'9q st'9q FG'9q F'9q N'9q B'9q X'9q T'9q l1'9q; (try dsimp only); (try k_fold)))
  (k_with "k_inst" => exact inst_base (by k_asm) (by assumption) (by assumption))
  (k_with "getMethod ref" => (k_here; (with_reducible show wpAny _ _ (getMethod (Value.ref _) (Str.ofString "get") _) _ _ _); k_dflt (refine sd_method (SDict.base (by k_asm) (by assumption)) ?_)))
  (k_with "call builtin:dict.get" => (k_here; (with_reducible show wpAny _ _ (call (Value.builtin "dict.get") [Value.ref _, Value.str _ _]) _ _ _); k_dflt (first
  | (refine sd_get1s (SDict.base (by k_asm) (by assumption)) (by assumption) ?_; intro t'9q)
  | (refine sd_get1n (SDict.base (by k_asm) (by assumption)) (by assumption) ?_)
  | (refine sd_get1 (SDict.base (by k_asm) (by assumption)) (fun hg09q => ?_) (fun v'9q t'9q hg19q => ?_)))))
  (k_with "k_room" => (k_extra "rm"))
  (k_with "subscriptTail" => (k_here; (with_reducible show wpAny _ _ (subscriptTail _ _ (Value.ref _) (Value.str _ _)) _ _ _); k_dflt (refine sd_item (SDict.base (by k_asm) (by assumption)) (by assumption) ?_); intro t'9q))
  (k_with "call ref" => (k_here; (with_reducible show wpAny _ _ (call (Value.ref _) _) _ _ _); (try k_fold); k_dflt (refine' spec_use0 ?S ?k1 ?k2 ?k3 ?k4 ?k5 ?kK ?kP ?kd ?ku ?_; (case S => assumption); (case k1 => first | k_asm | exact topb_of rfl rfl (by k_asm)); (case k2 => k_asm); (case k3 => k_asm); (case k4 => k_asm); (case k5 => k_asm); (case kK => exact rfl); (case kP => first | exact trivial | exact ElOf.base (by k_asm) (by assumption)); (case kd => (k_extra "rm")); (case ku => (k_extra "un"))); intro r'9q tl'9q h'9q tk'9q F'9q N'9q fr'9q st'9q hR'9q; (try dsimp only at hR'9q)))
  (k_with "k_mem" => ((show _ ∈ (_ ++ _ : List (Addr × Obj))); first | (refine List.mem_append_right _ ?_; k_mem) | (refine List.mem_append_left _ ?_; k_mem)))
  (k_with "call builtin:dict.get" => (k_here; (with_reducible show wpAny _ _ (call (Value.builtin "dict.get") [Value.ref _, Value.str _ _, Value.str _ _]) _ _ _); k_dflt (refine sd_get2L (SDict.base (by k_asm) (by assumption)) (by first | assumption | decide) ?_); intro t'9q hlen'9q))
  (k_with "ite" => (first | with_reducible refine ite_ff ?_ | with_reducible refine ite_tt ?_ | refine ite_dt (by assumption) ?_ | refine ite_df (by assumption) ?_))
  (k_with "eval Dict" => (k_here; k_dflt (refine' kdn_eval (knd := PySem.strKind _ _) ?F ?N ?b ?a ?l ?e ?n ?_; (case F => k_asm); (case N => first | k_asm | exact News.nil); (case b => exact Top.nolimit (by k_asm)); (case a => rfl); (case l => rfl); (case e => exact List.cons_ne_nil _ _); (case n => exact Nat.le_of_ble_eq_true rfl)); intro d'9q h'9q o'9q F'9q N'9q l19q lo'9q hd'9q; (try k_lt l19q)))
  (k_with "call ref" => (k_here; (with_reducible show wpAny _ _ (call (Value.ref 324) _) _ _ _); (try k_fold); k_dflt (refine' use_one (one_spec _ _ _ _ _ _ _ _ _ _ _ _ ?ha ?hb ?hb2 ?ht ?ht2) ?k1 ?k2 ?k3 ?k4 ?kU ?k5 ?kK ?kP ?kd ?ku ?_; (case k1 => first | k_asm | exact topb_of rfl rfl (by k_asm)); (case k2 => k_asm); (case k3 => k_asm); (case k4 => k_asm); (case kU => k_updF); (case k5 => k_asm); (case kK => exact rfl); (case kP => exact ⟨list_of_get (News.get (by k_asm) (by k_mem)), by k_ne⟩); (case kd => (k_extra "rm")); (case ku => (k_extra "un")); (case ha => assumption); (case hb => assumption); (case hb2 => assumption); (case ht => simp); (case ht2 => simp)); intro r'9q a'9q b'9q ta'9q tb'9q n'9q h'9q tk'9q F'9q N'9q hR19q hR49q hR59q hR69q; (try dsimp only at N'9q)))
  (k_with "call ref" => (k_here; (with_reducible show wpAny _ _ (call (Value.ref 317) _) _ _ _); (try k_fold); k_dflt (refine' use_take (take_spec _ _ _ _ _ _ _ _ _ _ _ _ ?ha ?hb ?hb2 ?ht ?ht2) ?k1 ?k2 ?k3 ?k4 ?kU ?k5 ?kK ?kP ?kd ?ku ?_; (case k1 => first | k_asm | exact topb_of rfl rfl (by k_asm)); (case k2 => k_asm); (case k3 => k_asm); (case k4 => k_asm); (case kU => k_updF); (case k5 => k_asm); (case kK => exact rfl); (case kP => exact trivial); (case kd => (k_extra "rm")); (case ku => (k_extra "un")); (case ha => assumption); (case hb => assumption); (case hb2 => assumption); (case ht => decide); (case ht2 => decide)); intro v'9q t'9q a'9q b'9q ta'9q tb'9q n'9q h'9q tk'9q F'9q N'9q hR29q hR39q hR49q hR59q hR69q; (try dsimp only at N'9q)))
  simp only [List.mem_cons, List.not_mem_nil, or_false] at h
  rcases h with rfl | rfl
  · exact ⟨_, _, rfl, .inl rfl⟩
  · exact ⟨_, _, rfl, .inr rfl⟩
theorem mem_tr {r : Value} {t1 t2 : Tok} (h : r ∈ [Value.str (Str.ofString "") t1, Value.str (Str.ofString "scale(2)") t2]) : ∃ x t, r = .str x t ∧ TrOk x := by
  simp only [List.mem_cons, List.not_mem_nil, or_false] at h
  rcases h with rfl | rfl
  · exact ⟨_, _, rfl, .inl rfl⟩
  · exact ⟨_, _, rfl, .inr rfl⟩
theorem mem_x {r : Value} {t1 t2 : Tok} (h : r ∈ [Value.none, Value.str (Str.ofString "3") t1, Value.str (Str.ofString "-2") t2]) : ∃ o, OptV r o ∧ XOk o := by
  simp only [List.mem_cons, List.not_mem_nil, or_false] at h
  rcases h with rfl | rfl | rfl
  · exact ⟨none, .inl ⟨rfl, rfl⟩, .inl rfl⟩
  · exact ⟨_, .inr ⟨_, _, rfl, rfl⟩, .inr (.inl rfl)⟩
  · exact ⟨_, .inr ⟨_, _, rfl, rfl⟩, .inr (.inr rfl)⟩
theorem mem_y {r : Value} {t1 t2 : Tok} (h : r ∈ [Value.none, Value.str (Str.ofString "4.5") t1, Value.str (Str.ofString "0") t2]) : ∃ o, OptV r o ∧ YOk o := by
  simp only [List.mem_cons, List.not_mem_nil, or_false] at h
  rcases h with rfl | rfl | rfl
  · exact ⟨none, .inl ⟨rfl, rfl⟩, .inl rfl⟩
  · exact ⟨_, .inr ⟨_, _, rfl, rfl⟩, .inr (.inl rfl)⟩
  · exact ⟨_, .inr ⟨_, _, rfl, rfl⟩, .inr (.inr rfl)⟩
noncomputable def putO (W : List (Str × Str)) (k : Str) : Option Str → List (Str × Str)
  | none => W
  | some v => putA W k v
theorem putO_len (W : List (Str × Str)) (k : Str) (o : Option Str) : (putO W k o).length ≤ W.length + 1 := by
  cases o with
  | none => exact Nat.le_succ _
  | some v => exact putA_len W k v
theorem led_use {g h : Heap} {L dd dw : Addr} {od ow : Obj} {p1 p2 p4 p6 : Addr × Obj} (_ : News g L h [p1, p2, (dd, od), p4, (dw, ow), p6]) : ∃ dd' od' dw' ow', dd' = dd ∧ od' = od ∧ dw' = dw ∧ ow' = ow := ⟨_, _, _, _, rfl, rfl, rfl, rfl⟩
theorem XOk.len {o : Option Str} (h : XOk o) {v : Str} (e : o = some v) : v.length ≤ 4000 := by
  subst e
  rcases h with h | h | h
  · cases h
  · cases h; decide
  · cases h; decide
theorem YOk.len {o : Option Str} (h : YOk o) {v : Str} (e : o = some v) : v.length ≤ 4000 := by
  subst e
  rcases h with h | h | h
  · cases h
  · cases h; decide
  · cases h; decide
section
variable {w : World} {A : Around} {E : Value → Shared → Prop} {Q : Flow → Shared → Prop} {s : Shared} {env : Env} {g : Heap} {L dw : Addr} {m : Str → Option Value} {ow : Obj} {news : List (Addr × Obj)} {gU : Obj → List (Addr × Obj)} {W : List (Str × Str)} {stmt : Stmt}
noncomputable def JEnd (w : World) (g : Heap) (L dw : Addr) (m : Str → Option Value) (gU : Obj → List (Addr × Obj)) (W' : List (Str × Str)) (s : Shared) (f : Flow) (s' : Shared) : Prop :=
  f = .next ∧ ∃ h' tk' ow', s' = { s with heap := h', toks := tk' } ∧ Fr g L h' m ∧ News g L h' (gU ow') ∧ SDict w (LG [(dw, ow')]) dw W'
theorem jend {W' : List (Str × Str)} {h' : Heap} {tk' : Nat} {ow' : Obj} (F : Fr g L h' m) (N : News g L h' (gU ow')) (hS : SDict w (LG [(dw, ow')]) dw W') : JEnd w g L dw m gU W' s .next { s with heap := h', toks := tk' } := ⟨rfl, h', tk', ow', rfl, F, N, hS⟩
theorem if_join (W' : List (Str × Str)) (F : Fr g L s.heap m) (N : News g L s.heap news) (U : UpdF dw ow news gU)
    (branch : wpAny (model PG w) A (exec stmt env) (JEnd w g L dw m gU W' s) E s)
    (cont : ∀ h' tk' ow', Fr g L h' m → News g L h' (gU ow') → SDict w (LG [(dw, ow')]) dw W' → Q .next { s with heap := h', toks := tk' }) : wpAny (model PG w) A (exec stmt env) Q E s := by
  refine wpAny_mono branch (fun f s' hq => ?_) fun _ _ e => e
  k_extra "gn"; (obtain ⟨rfl, h', tk', ow', rfl, F', N', hS⟩ := hq) <;> k_unfold
  exact cont h' tk' ow' F' N' hS
end
noncomputable def putT (W : List (Str × Str)) (tr : Str) : List (Str × Str) := if tr = Str.ofString "" then W else putA W (Str.ofString "transform") tr
theorem putT_len (W : List (Str × Str)) (tr : Str) : (putT W tr).length ≤ W.length + 1 := by
  unfold putT
  split
  · exact Nat.le_succ _
  · exact putA_len _ _ _
noncomputable def FoOk (o : Option Str) : Prop := o = none ∨ o = some (Str.ofString "red")
noncomputable def WoOk (o : Option Str) : Prop := o = none ∨ o = some (Str.ofString "7")
noncomputable def HoOk (o : Option Str) : Prop := o = none ∨ o = some (Str.ofString "5")
noncomputable def IoOk (o : Option Str) : Prop := o = none ∨ o = some (Str.ofString "n")
noncomputable def UseW (hr name : Str) (xo yo : Option Str) (tr : Str) (fo wo ho io : Option Str) : List (Str × Str) := putO (putO (putO (putO (putT (putO (putO [(hr, Str.ofString "#" ++ name)] (Str.ofString "x") xo) (Str.ofString "y") yo) tr) (Str.ofString "fill") fo) (Str.ofString "width") wo) (Str.ofString "height") ho) (Str.ofString "id") io
noncomputable def UseD (xo yo : Option Str) (tr : Str) (fo : Option Str) : List (Str × Str) := putA (putO [] (Str.ofString "fill") fo) (Str.ofString "transform") (trOf tr (xo.getD (Str.ofString "0")) (yo.getD (Str.ofString "0")))
noncomputable def UseOk (name : Str) (W D : List (Str × Str)) : Prop := ∃ hr xo yo tr fo wo ho io, HrOk hr ∧ XOk xo ∧ YOk yo ∧ TrOk tr ∧ FoOk fo ∧ WoOk wo ∧ HoOk ho ∧ IoOk io ∧ W = UseW hr name xo yo tr fo wo ho io ∧ D = UseD xo yo tr fo
section
variable {w : World} {A : Around} {E : Value → Shared → Prop} {Q : Flow → Shared → Prop} {s : Shared} {env : Env} {g : Heap} {L dd dw src : Addr} {m : Str → Option Value} {news : List (Addr × Obj)} {stmt : Stmt}
noncomputable def JEnd2 (w : World) (g : Heap) (L dd dw src : Addr) (Fm : Heap → Prop) (Rel : List (Str × Str) → List (Str × Str) → Prop) (s : Shared) (f : Flow) (s' : Shared) : Prop :=
  f = .next ∧ ∃ h' tk' od ow a b ta tb n W D, s' = { s with heap := h', toks := tk' } ∧ Fm h' ∧ News g L h' [(dd, od), (dw, ow), (src, PySem.W.listOf #[.int a ta, .int b tb] n)] ∧ 0 ≤ a ∧ 0 ≤ b ∧ b < 2147483647 ∧ SDict w (LG [(dd, od)]) dd D ∧ SDict w (LG [(dw, ow)]) dw W ∧ Rel W D
theorem jend2 {Fm : Heap → Prop} {Rel : List (Str × Str) → List (Str × Str) → Prop} {h' : Heap} {tk' : Nat} {od ow : Obj} {a b : Int} {ta tb : Tok} {n : Nat} {W D : List (Str × Str)} {all : List (Addr × Obj)} (hF : Fm h') (N : News g L h' all) (hd : (dd, od) ∈ all) (hw : (dw, ow) ∈ all) (hs : (src, PySem.W.listOf #[.int a ta, .int b tb] n) ∈ all)
    (h1 : 0 ≤ a) (h2 : 0 ≤ b) (h3 : b < 2147483647) (hD : SDict w (LG [(dd, od)]) dd D) (hW : SDict w (LG [(dw, ow)]) dw W) (hR : Rel W D) : JEnd2 w g L dd dw src Fm Rel s .next { s with heap := h', toks := tk' } :=
  ⟨rfl, h', tk', od, ow, a, b, ta, tb, n, W, D, rfl, hF, fun p hp => by
    rcases List.mem_cons.mp hp with rfl | hp
    · exact N _ hd
    · rcases List.mem_cons.mp hp with rfl | hp
      · exact N _ hw
      · rw [List.mem_singleton.mp hp]; exact N _ hs, h1, h2, h3, hD, hW, hR⟩
theorem fr_eq {h : Heap} {m' : Str → Option Value} (F : Fr g L h m) (e : ∀ y, m y = m' y) : Fr g L h m' := by
  rw [← (funext e : m = m')]; exact F
theorem fr_norm {h : Heap} {V T : Str} {v1 t1 : Option Value} {rest base : Str → Option Value} (F : Fr g L h (fun y => if y = V then v1 else if y = T then t1 else rest y)) (e : ∀ y, y ≠ V → y ≠ T → rest y = base y) : Fr g L h (fun y => if y = V then v1 else if y = T then t1 else base y) := fr_eq F fun y => by
  by_cases h1 : y = V
  · rw [if_pos h1, if_pos h1]
  · by_cases h2 : y = T
    · rw [if_neg h1, if_pos h2, if_neg h1, if_pos h2]
    · rw [if_neg h1, if_neg h2, if_neg h1, if_neg h2]; exact e y h1 h2
theorem if_join2 (Fm : Heap → Addr → (Str → Option Value) → Heap → Prop) (F : Fr g L s.heap m) (Rel : List (Str × Str) → List (Str × Str) → Prop)
    (branch : wpAny (model PG w) A (exec stmt env) (JEnd2 w g L dd dw src (Fm g L m) Rel s) E s)
    (cont : ∀ h' tk' od ow a b ta tb n W D, Fm g L m h' → News g L h' [(dd, od), (dw, ow), (src, PySem.W.listOf #[.int a ta, .int b tb] n)] → 0 ≤ a → 0 ≤ b → b < 2147483647 → SDict w (LG [(dd, od)]) dd D → SDict w (LG [(dw, ow)]) dw W → Rel W D → Q .next { s with heap := h', toks := tk' }) : wpAny (model PG w) A (exec stmt env) Q E s := by
  refine wpAny_mono branch (fun f s' hq => ?_) fun _ _ e => e
  k_extra "gn"; (obtain ⟨rfl, h', tk', od, ow, a, b, ta, tb, n, W, D, rfl, q1, q2, q3, q4, q5, q6, q7, q8⟩ := hq) <;> k_unfold
  exact cont h' tk' od ow a b ta tb n W D q1 q2 q3 q4 q5 q6 q7 q8
theorem news5 {h : Heap} {p1 p2 p3 p4 p5 q1 q2 q3 : Addr × Obj} (N : News g L h [p1, p2, p3, p4, p5, q1, q2, q3]) : News g L h [p1, p2, p3, p4, p5] := fun p hp => N p (List.mem_append_left [q1, q2, q3] hp)
theorem news_app {h : Heap} {a b : List (Addr × Obj)} (x : News g L h a) (y : News g L h b) : News g L h (a ++ b) := fun p hp => (List.mem_append.mp hp).elim (x p) (y p)
theorem if_join5 {p1 p2 p3 p4 p5 : Addr × Obj} {od0 ow0 so : Obj} (F : Fr g L s.heap m) (_N : News g L s.heap [p1, p2, p3, p4, p5, (dd, od0), (dw, ow0), (src, so)]) (Rel : List (Str × Str) → List (Str × Str) → Prop)
    (branch : wpAny (model PG w) A (exec stmt env) (JEnd2 w g L dd dw src (fun h' => Fr g L h' m ∧ News g L h' [p1, p2, p3, p4, p5]) Rel s) E s)
    (cont : ∀ h' tk' od ow a b ta tb n W D, Fr g L h' m → News g L h' [p1, p2, p3, p4, p5, (dd, od), (dw, ow), (src, PySem.W.listOf #[.int a ta, .int b tb] n)] → 0 ≤ a → 0 ≤ b → b < 2147483647 → SDict w (LG [(dd, od)]) dd D → SDict w (LG [(dw, ow)]) dw W → Rel W D → Q .next { s with heap := h', toks := tk' }) : wpAny (model PG w) A (exec stmt env) Q E s := by
  refine wpAny_mono branch (fun f s' hq => ?_) fun _ _ e => e
  k_extra "gn"; (obtain ⟨rfl, h', tk', od, ow, a, b, ta, tb, n, W, D, rfl, ⟨q1, q0⟩, q2, q3, q4, q5, q6, q7, q8⟩ := hq) <;> k_unfold
  exact cont h' tk' od ow a b ta tb n W D q1 (news_app q0 q2) q3 q4 q5 q6 q7 q8
theorem ite_sp {p : Prop} [Decidable p] {a b : Prop} (h1 : p → a) (h2 : ¬p → b) : if decide p = true then a else b := by
  by_cases h : p
  · exact ite_dt h (h1 h)
  · exact ite_df h (h2 h)
noncomputable def OrEnd (z : Str) (s : Shared) (v : Value) (s' : Shared) : Prop := ∃ t tk, v = .str z t ∧ s' = { s with toks := tk }
theorem orend {z : Str} {t : Tok} {tk : Nat} : OrEnd z s (.str z t) { s with toks := tk } := ⟨t, tk, rfl, rfl⟩
theorem or_join {Q : Value → Shared → Prop} {e : PySem.Expr} (z : Str) (branch : wpAny (model PG w) A (eval e env) (OrEnd z s) E s) (cont : ∀ t tk, Q (.str z t) { s with toks := tk }) : wpAny (model PG w) A (eval e env) Q E s := by
  refine wpAny_mono branch (fun v s' hq => ?_) fun _ _ e => e
  k_extra "gn"; (obtain ⟨t, tk, rfl, rfl⟩ := hq) <;> k_unfold
  exact cont t tk
end
theorem or_opt {w : World} {A : Around} {E : Value → Shared → Prop} {s : Shared} {h₀ : Heap} {L : Addr} {m : Str → Option Value} {nm : Str} {scope : Scope} {a : Addr} {cd : Value} {x : Str} {pos pos2 pos3 : Pos} {v : Value} {o : Option Str}
    (X : (hd.heap_1_39 w.params).In h₀) (F : Fr h₀ L s.heap m) (hm : m x = some v) (hov : OptV v o) (hy : ∀ y, o = some y → y = Str.ofString "3" ∨ y = Str.ofString "-2" ∨ y = Str.ofString "4.5" ∨ y = Str.ofString "0")
    (hk : scope.kind = .function) (hl : (envOf nm scope L a cd).kindOf x = some .local) (hd : (x == ("__debug__" : Str)) = false) :
    wpAny (model PG w) A (eval (.BoolOp .Or [.Name x pos, .Constant (.str (Str.ofString "0")) 0 pos2] pos3) (envOf nm scope L a cd)) (OrEnd (o.getD (Str.ofString "0")) s) E s := by
  refine BoolOp_or (ld F hm ?_ hk hl hd)
  k_extra "gn"; (rcases hov with ⟨rfl, rfl⟩ | ⟨y, t, rfl, rfl⟩) <;> k_unfold
  · (k_extra "st")
    exact orend
  · rcases hy y rfl with rfl | rfl | rfl | rfl
    all_goals ((k_extra "st"); exact orend)
theorem ne_dec {prog : Program} {w : World} {A : Around} {E : Value → Shared → Prop} {s : Shared} {x y : Str} {t u : Tok} {Q : Value → Shared → Prop} (b : Bool) (e : (x != y) = b) (h : Q (.bool b) s) : wpAny (model prog w) A (compareOp .NotEq (.str x t) (.str y u)) Q E s := PyProof.Rows.ne_str (e ▸ h)
noncomputable def UseR (w : World) (src : Addr) (name : Str) (r : Value) (led' tl : List (Addr × Obj)) : Prop := ∃ t dw dd W D a b ta tb n, r = .ref t ∧ (t, ({ cls := .type "tuple", data := .seq #[.ref dw, .ref dd] } : Obj)) ∈ tl ∧ SDict w (LG tl) dw W ∧ SDict w (LG tl) dd D ∧ UseOk name W D ∧ 0 ≤ a ∧ 0 ≤ b ∧ b < 2147483647 ∧ led' = [(src, PySem.W.listOf #[.int a ta, .int b tb] n)]
theorem HrOk.len {x : Str} (h : HrOk x) : x.length ≤ 4000 := by rcases h with rfl | rfl <;> decide
theorem ten_len {x : Str} (h : x.length ≤ 10) : (Str.ofString "#" ++ x).length ≤ 4000 := by
  (k_with "compareOp NotEq str str" => (k_here; (with_reducible show wpAny _ _ (compareOp CmpOp.NotEq (Value.str (Str.ofString _) _) (Value.str (Str.ofString _) _)) _ _ _); k_dflt (first | refine ne_dec false (by decide +kernel) ?_ | refine ne_dec true (by decide +kernel) ?_)))
  (k_with "setItem ref str" => (k_here; (with_reducible show wpAny _ _ (setItem (Value.ref _) (Value.str _ _) (Value.str _ _)) _ _ _); k_dflt (refine' sd_set ?D ?F ?N ?U ?l ?k ?v ?_; (case D => assumption); (case F => k_asm); (case N => k_asm); (case U => k_updF); (case l => first | assumption | omega | decide | (refine Nat.le_trans (putA_len _ _ _) (Nat.succ_le_succ (m := 38) ?_); first | omega | (refine Nat.le_trans (putA_len _ _ _) (Nat.succ_le_succ (m := 37) ?_); omega))); (case k => first | assumption | decide); (case v => first | assumption | decide)); intro h'9q o'9q F'9q N'9q hD'9q; (try dsimp only at N'9q)))
  (k_with "newTuple" => (k_here; k_dflt (refine' kup_newTuple ?F ?N ?_ ?z; (case F => k_asm); (case N => k_asm); (case z => first | kmk_size | decide)); intro D'9q h'9q F'9q N'9q l19q; (try k_lt l19q)))
  rw [PySem.Str.length_append]
  have : (Str.ofString "#").length = 1 := by decide
  omega
theorem XOk.ten {o : Option Str} (h : XOk o) : (o.getD (Str.ofString "0")).length ≤ 10 := by rcases h with rfl | rfl | rfl <;> decide
theorem YOk.ten {o : Option Str} (h : YOk o) : (o.getD (Str.ofString "0")).length ≤ 10 := by rcases h with rfl | rfl | rfl <;> decide
theorem tr_len {xo yo : Option Str} {tr : Str} (hx : XOk xo) (hy : YOk yo) (ht : TrOk tr) : (trOf tr (xo.getD (Str.ofString "0")) (yo.getD (Str.ofString "0"))).length ≤ 4000 := by rcases hx with rfl | rfl | rfl <;> rcases hy with rfl | rfl | rfl <;> rcases ht with rfl | rfl <;> decide +kernel
theorem fr_gen {g h : Heap} {L : Addr} {m : Str → Option Value} (F : Fr g L h m) : ∃ m', m' = m ∧ Fr g L h m' := ⟨m, rfl, F⟩
theorem mm_at {m m' : Str → Option Value} (h : m' = m) (k : Str) {v : Value} (e : m k = some v) : m' k = some v := by rw [h]; exact e
theorem off5 {g h : Heap} {L dd dw src : Addr} {p1 p2 p3 p4 p5 : Addr × Obj} {od ow so : Obj} (_ : News g L h [p1, p2, p3, p4, p5, (dd, od), (dw, ow), (src, so)]) (h1 : p1.1 ≠ src ∧ p1.1 ≠ dw) (h2 : p2.1 ≠ src ∧ p2.1 ≠ dw) (h3 : p3.1 ≠ src ∧ p3.1 ≠ dw) (h4 : p4.1 ≠ src ∧ p4.1 ≠ dw) (h5 : p5.1 ≠ src ∧ p5.1 ≠ dw) : (p1.1 ≠ src ∧ p1.1 ≠ dw) ∧ (p2.1 ≠ src ∧ p2.1 ≠ dw) ∧ (p3.1 ≠ src ∧ p3.1 ≠ dw) ∧ (p4.1 ≠ src ∧ p4.1 ≠ dw) ∧ (p5.1 ≠ src ∧ p5.1 ≠ dw) := ⟨h1, h2, h3, h4, h5⟩
noncomputable def scopeU : Scope := ({ kind := .function, names := [(Str.ofString "source", NameKind.local), (Str.ofString "name", NameKind.local), (Str.ofString "words", NameKind.local), (Str.ofString "due", NameKind.local), (Str.ofString "x", NameKind.local), (Str.ofString "y", NameKind.local), (Str.ofString "told", NameKind.local), (Str.ofString "value", NameKind.local), (Str.ofString "transform", NameKind.local), (Str.ofString "place", NameKind.local), (Str.ofString "_law_one", NameKind.globalImplicit), (Str.ofString "_law_take", NameKind.globalImplicit)], isGenerator := false, isCoroutine := false } : Scope)
theorem use_turn {w : World} {mean : ExcName → Option Value} {mg mb : Str → Option Value} {A : Around} {DD UU : Nat} {E : Value → Shared → Prop} {s : Shared} {g : Heap} {L dd dw src fa : Addr} {cd : Value} {m : Str → Option Value} {p1 p2 p3 p4 p5 : Addr × Obj} {od ow : Obj} {a b : Int} {ta tb tk tv : Tok} {n : Nat} {k v : Str} {W0 D0 D4 : List (Str × Str)} {i1 i2 i3 i4 i5 i6 i7 i8 i9 i10 i11 i12 : Pos}
    (TB : TopB A g L DD UU) (X : (hd.heap_1_39 w.params).In g) (T : Top hd.view_1_40 (looseW hd.view_1_40 [Str.ofString "fraction", Str.ofString "write_decimal", Str.ofString "length", Str.ofString "Uses"]) mean mg mb g)
    (F : Fr g L s.heap m) (N : News g L s.heap [p1, p2, p3, p4, p5, (dd, od), (dw, ow), (src, PySem.W.listOf #[.int a ta, .int b tb] n)])
    (h1 : p1.1 ≠ src ∧ p1.1 ≠ dw) (h2 : p2.1 ≠ src ∧ p2.1 ≠ dw) (h3 : p3.1 ≠ src ∧ p3.1 ≠ dw) (h4 : p4.1 ≠ src ∧ p4.1 ≠ dw) (h5 : p5.1 ≠ src ∧ p5.1 ≠ dw) (n1 : @LT.lt Nat instLTNat src dw) (n2 : @LT.lt Nat instLTNat dw dd) (n3 : @LT.lt Nat instLTNat src dd)
    (e1 : m (Str.ofString "source") = some (.ref src)) (e2 : m (Str.ofString "words") = some (.ref dw)) (e3 : m (Str.ofString "told") = some (.str k tk)) (e4 : m (Str.ofString "value") = some (.str v tv))
    (ha : 0 ≤ a) (hb : 0 ≤ b) (hb2 : b < 2147483647) (hD : SDict w (LG [(dd, od)]) dd D0) (hW : SDict w (LG [(dw, ow)]) dw W0) (hl : W0.length ≤ 39) (hk : k.length ≤ 4000) (hv : v.length ≤ 4000) (eD : D0 = D4) (hdp : DD + 2 < recursionLimit) (hup : UU + 16 < cLine) :
    wpAny (model PG w) A (exec (.If (.Compare (.Call (.Name (Str.ofString "_law_take") i1) [.Name (Str.ofString "source") i2, .Constant (.int 3) 0 i3] [] i4) [.Eq] [.Constant (.int 0) 0 i5] i6)
      [.Assign [.Subscript (.Name (Str.ofString "words") i7) (.Name (Str.ofString "told") i8) i9] (.Name (Str.ofString "value") i10) i11] [] i12) (envOf (Str.ofString "_law_use") scopeU L fa cd))
      (JEnd2 w g L dd dw src (fun h' => Fr g L h' m ∧ News g L h' [p1, p2, p3, p4, p5]) (fun W D => D = D4 ∧ ∃ q, (q = none ∨ q = some v) ∧ W = putO W0 k q) s) E s := by
  (k_with "eval Name" => (k_here; k_dflt (refine' ld ?k1 ?k2 ?_; (case k1 => first | k_asm | exact topb_of rfl rfl (by k_asm)); (case k2 => assumption); k_whole)))
  unfold scopeU
  have hfill : (hd.heap_1_39 w.params).In g → PySem.Challenge.rw_nu0026_01.row.prog = PG := by
    k_fill
    exact fun _ => rfl
  clear hfill
  obtain ⟨h1a, h1b⟩ := h1
  obtain ⟨h2a, h2b⟩ := h2
  obtain ⟨h3a, h3b⟩ := h3
  obtain ⟨h4a, h4b⟩ := h4
  obtain ⟨h5a, h5b⟩ := h5
  (k_extra "st")
  · exact jend2 ⟨by k_asm, news5 (by k_asm)⟩ (by k_asm) (by k_mem) (by k_mem) (by k_mem) (by assumption) (by assumption) (by assumption) hD (by assumption) ⟨eD, some v, .inr rfl, rfl⟩
  · exact jend2 ⟨by k_asm, news5 (by k_asm)⟩ (by k_asm) (by k_mem) (by k_mem) (by k_mem) (by assumption) (by assumption) (by assumption) hD hW ⟨eD, none, .inl rfl, rfl⟩
theorem use_spec (w : World) (mean : ExcName → Option Value) (mg mb : Str → Option Value) (src : Addr) (a b : Int) (ta tb : Tok) (n : Nat) (name : Str) (tn : Tok) (hname : name.length ≤ 10) (ha : 0 ≤ a) (hb : 0 ≤ b) (hb2 : b < 2147483647) :
    Spec w mean mg mb 343 [.ref src, .str name tn] [(src, PySem.W.listOf #[.int a ta, .int b tb] n)] 4 (fun _ => True) (UseR w src name) := by
  unfold Spec
  k_fill
  intro dp un gd cn cs a' ccd cl' outer A₀ base h₀ L m s Q E B F X N T hk hP hd hu hret
  clear hP
  refine wpAny_call ?_
  k_dflt ktr_enter
  first | refine (let ak : Around := _; let nk : Env := _; let sg9 : Array GenState := _; let sd9 : Drawn := _; let so9 : OsState := _; (?_ : wpAny _ ak (execs _ nk) _ _ (Shared.mk _ sg9 sd9 _ so9))) | refine (let ak : Around := _; let nk : Env := _; (?_ : wpAny _ ak (execs _ nk) _ _ _))
  try (have TB9 : TopB ak _ _ (dp + 1) (un + 3) := topb_of rfl rfl (by assumption))
  try (have FE9 : FnE nk L'9q := ⟨rfl, rfl, rfl⟩)
  try (rename Fr _ _ _ (fun y => List.lookup y (List.reverse _)) => FX9; replace FX9 := fr_binds [(Str.ofString "source", (.ref src : Value)), (Str.ofString "name", (.str name tn : Value))] rfl FX9)
  rename Stood _ _ _ => st
  repeat ((fail_if_success (with_reducible show wpAny _ _ (call (Value.ref 324) _) _ _ _)); first | ((with_reducible show wpAny _ _ (PySem.exec _ _) _ _ _); k_fold) | ((fail_if_success (fail_if_success k_unfold)); (show wpAny _ _ _ _ _ _); (try dsimp only)) | (k_unfold; (try dsimp only)) | (k_end; wrow_close) | walk1 | (dsimp only; walk1) | (leave1; walk_say "STEP lea"))
  walk1
  rename (_ ∈ ([_, _] : List Value)) => hm
  k_extra "gn"; (obtain ⟨hr, th, rfl, hhr⟩ := mem_hr hm) <;> k_unfold
  clear hm
  repeat ((fail_if_success (with_reducible show wpAny _ _ (call (Value.ref 324) _) _ _ _)); first | ((with_reducible show wpAny _ _ (PySem.exec _ _) _ _ _); k_fold) | ((fail_if_success (fail_if_success k_unfold)); (show wpAny _ _ _ _ _ _); (try dsimp only)) | (k_unfold; (try dsimp only)) | (k_end; wrow_close) | walk1 | (dsimp only; walk1) | (leave1; walk_say "STEP lea"))
  rename News g'9q _ _ [_, _, (_, _), _, (_, _), _] => N1
  k_extra "gn"; (obtain ⟨dd, od, dw, ow, z1, z2, z3, z4⟩ := led_use N1) <;> k_unfold
  subst z1 z2 z3 z4
  rename ((dw == sysModules) = false) => low
  rename ((dd == sysModules) = false) => lod
  rename Obj.IsDictOf (PySem.strKind _ _) ow _ => hdw
  rename Obj.IsDictOf (PySem.strKind _ _) od _ => hdd
  have hW : SDict w (LG [(dw, ow)]) dw [(hr, Str.ofString "#" ++ name)] := ⟨ow, _, .head _, hdw, .cons _ _ _ .nil, low, by show 1 ≤ 40; decide, by
    intro p hp
    rw [List.mem_singleton.mp hp]
    exact ⟨hhr.len, ten_len hname⟩⟩
  have hD : SDict w (LG [(dd, od)]) dd [] := ⟨od, [], .head _, hdd, .nil, lod, by decide, fun _ h => nomatch h⟩
  clear hdw hdd
  walk1
  rename (_ ∈ ([_, _, _] : List Value)) => hm
  obtain ⟨xo, hxo, hxk⟩ := mem_x hm
  clear hm
  repeat ((fail_if_success (with_reducible show wpAny _ _ (call (Value.ref 324) _) _ _ _)); first | ((with_reducible show wpAny _ _ (PySem.exec _ _) _ _ _); k_fold) | ((fail_if_success (fail_if_success k_unfold)); (show wpAny _ _ _ _ _ _); (try dsimp only)) | (k_unfold; (try dsimp only)) | (k_end; wrow_close) | walk1 | (dsimp only; walk1) | (leave1; walk_say "STEP lea"))
  walk1
  rename (_ ∈ ([_, _, _] : List Value)) => hm
  obtain ⟨yo, hyo, hyk⟩ := mem_y hm
  clear hm
  repeat ((fail_if_success (with_reducible show wpAny _ _ (exec (Stmt.If _ _ _ _) _) _ _ _)); first | ((with_reducible show wpAny _ _ (PySem.exec _ _) _ _ _); k_fold) | ((fail_if_success (fail_if_success k_unfold)); (show wpAny _ _ _ _ _ _); (try dsimp only)) | (k_unfold; (try dsimp only)) | (k_end; wrow_close) | walk1 | (dsimp only; walk1) | (leave1; walk_say "STEP lea"))
  rename Fr g'9q _ _ _ => FM
  obtain ⟨m1, hm1, FM1⟩ := fr_gen FM
  have lk1 := mm_at hm1 (Str.ofString "source") rfl
  have lk2 := mm_at hm1 (Str.ofString "name") rfl
  have lk3 := mm_at hm1 (Str.ofString "words") rfl
  have lk4 := mm_at hm1 (Str.ofString "due") rfl
  have lk5 := mm_at hm1 (Str.ofString "x") rfl
  have lk6 := mm_at hm1 (Str.ofString "y") rfl
  have lk7 := mm_at hm1 (Str.ofString "told") rfl
  have lk8 := mm_at hm1 (Str.ofString "value") rfl
  clear hm1 FM
  refine if_join (dw := dw) (ow := ow) (putO [(hr, Str.ofString "#" ++ name)] (Str.ofString "x") xo) (by k_asm) (by k_asm) (by k_updF) ?br ?co
  case br =>
    k_extra "gn"; (rcases hxo with ⟨rfl, rfl⟩ | ⟨xs, tx, rfl, rfl⟩) <;> k_unfold
    · (k_extra "st")
      exact jend (by k_asm) (by k_asm) hW
    · have hxl := hxk.len rfl
      have hl1 : [(hr, Str.ofString "#" ++ name)].length ≤ 39 := by show 1 ≤ 39; decide
      (k_extra "st")
      exact jend (by k_asm) (by k_asm) (by assumption)
  case co =>
    intro h2 tk2 ow2 F2 N2 hW2
    clear hW
    obtain ⟨W1, hW1⟩ : ∃ W1, W1 = putO [(hr, Str.ofString "#" ++ name)] (Str.ofString "x") xo := ⟨_, rfl⟩
    have hl1 : W1.length ≤ 2 := by rw [hW1]; exact putO_len _ _ _
    rw [← hW1] at hW2
    repeat ((fail_if_success (with_reducible show wpAny _ _ (exec (Stmt.If _ _ _ _) _) _ _ _)); first | ((with_reducible show wpAny _ _ (PySem.exec _ _) _ _ _); k_fold) | ((fail_if_success (fail_if_success k_unfold)); (show wpAny _ _ _ _ _ _); (try dsimp only)) | (k_unfold; (try dsimp only)) | (k_end; wrow_close) | walk1 | (dsimp only; walk1) | (leave1; walk_say "STEP lea"))
    refine if_join (dw := dw) (ow := ow2) (putO W1 (Str.ofString "y") yo) (by k_asm) (by k_asm) (by k_updF) ?br ?co
    case br =>
      k_extra "gn"; (rcases hyo with ⟨rfl, rfl⟩ | ⟨xs, tx, rfl, rfl⟩) <;> k_unfold
      · (k_extra "st")
        exact jend (by k_asm) (by k_asm) hW2
      · have hxl := hyk.len rfl
        (k_extra "st")
        exact jend (by k_asm) (by k_asm) (by assumption)
    case co =>
      intro h3 tk3 ow3 F3 N3 hW3
      clear hW2
      obtain ⟨W2, hW2⟩ : ∃ W2, W2 = putO W1 (Str.ofString "y") yo := ⟨_, rfl⟩
      have hl2 : W2.length ≤ 3 := by rw [hW2]; exact Nat.le_trans (putO_len _ _ _) (by omega)
      rw [← hW2] at hW3
      repeat ((fail_if_success (with_reducible show wpAny _ _ (call (Value.ref 324) _) _ _ _)); first | ((with_reducible show wpAny _ _ (PySem.exec _ _) _ _ _); k_fold) | ((fail_if_success (fail_if_success k_unfold)); (show wpAny _ _ _ _ _ _); (try dsimp only)) | (k_unfold; (try dsimp only)) | (k_end; wrow_close) | walk1 | (dsimp only; walk1) | (leave1; walk_say "STEP lea"))
      walk1
      rename (_ ∈ ([_, _] : List Value)) => hm
      k_extra "gn"; (obtain ⟨tr, ttr, rfl, htr⟩ := mem_tr hm) <;> k_unfold
      clear hm
      repeat ((fail_if_success (with_reducible show wpAny _ _ (exec (Stmt.If _ _ _ _) _) _ _ _)); first | ((with_reducible show wpAny _ _ (PySem.exec _ _) _ _ _); k_fold) | ((fail_if_success (fail_if_success k_unfold)); (show wpAny _ _ _ _ _ _); (try dsimp only)) | (k_unfold; (try dsimp only)) | (k_end; wrow_close) | walk1 | (dsimp only; walk1) | (leave1; walk_say "STEP lea"))
      have n1 : @LT.lt Nat instLTNat src dw := by omega
      have n2 : @LT.lt Nat instLTNat dw dd := by omega
      have n3 : @LT.lt Nat instLTNat src dd := by omega
      refine if_join2 (dd := dd) (dw := dw) (src := src) (fun g L m h' => Fr g L h' m) (by k_asm) (fun W D => D = [] ∧ W = putT W2 tr) ?br ?co
      case br =>
        rcases htr with rfl | rfl
        · (k_extra "st")
          exact jend2 (by k_asm) (by k_asm) (by k_mem) (by k_mem) (by k_mem) (by assumption) (by assumption) (by assumption) hD hW3 ⟨rfl, rfl⟩
        · (k_extra "st")
          exact jend2 (by k_asm) (by k_asm) (by k_mem) (by k_mem) (by k_mem) (by assumption) (by assumption) (by assumption) hD (by assumption) ⟨rfl, rfl⟩
      case co =>
        clear hD hW3
        repeat (rename (_ ∧ _) => hz; clear hz)
        repeat (rename (∀ b o, _ → _ ≠ _ → _) => hz; clear hz)
        repeat (rename (∀ q ∈ [], _) => hz; clear hz)
        repeat (rename News _ _ _ _ => hz; clear hz)
        repeat (rename Fr _ _ _ _ => hz; clear hz)
        repeat (rename (_ ≤ (_ : Int)) => hz; clear hz)
        repeat (rename ((_ : Int) < _) => hz; clear hz)
        intro h4 tk4 od4 ow4 a4 b4 ta4 tb4 n4 W3' D3 F4 N4 ha4 hb4 hc4 hD hW4 hrel0
        obtain ⟨rfl, rfl⟩ := hrel0
        obtain ⟨W3, hW3⟩ : ∃ W3, W3 = putT W2 tr := ⟨_, rfl⟩
        have hl3 : W3.length ≤ 4 := by rw [hW3]; exact Nat.le_trans (putT_len _ _) (by omega)
        rw [← hW3] at hW4
        repeat ((fail_if_success (with_reducible show wpAny _ _ (exec (Stmt.If _ _ _ _) _) _ _ _)); first | ((with_reducible show wpAny _ _ (PySem.exec _ _) _ _ _); k_fold) | ((fail_if_success (fail_if_success k_unfold)); (show wpAny _ _ _ _ _ _); (try dsimp only)) | (k_unfold; (try dsimp only)) | (k_end; wrow_close) | walk1 | (dsimp only; walk1) | (leave1; walk_say "STEP lea"))
        refine if_join2 (dd := dd) (dw := dw) (src := src) (fun g L m h' => Fr g L h' m) (by k_asm) (fun W D => ∃ fo, FoOk fo ∧ W = putO W3 (Str.ofString "fill") fo ∧ D = putO [] (Str.ofString "fill") fo) ?br ?co
        case br =>
          (k_extra "st")
          · exact jend2 (by k_asm) (by k_asm) (by k_mem) (by k_mem) (by k_mem) (by assumption) (by assumption) (by assumption) (by assumption) (by assumption) ⟨some (Str.ofString "red"), .inr rfl, rfl, rfl⟩
          · exact jend2 (by k_asm) (by k_asm) (by k_mem) (by k_mem) (by k_mem) (by assumption) (by assumption) (by assumption) hD hW4 ⟨none, .inl rfl, rfl, rfl⟩
        case co =>
          clear hD hW4
          repeat (rename (_ ∧ _) => hz; clear hz)
          repeat (rename (∀ b o, _ → _ ≠ _ → _) => hz; clear hz)
          repeat (rename (∀ q ∈ [], _) => hz; clear hz)
          repeat (rename News _ _ _ _ => hz; clear hz)
          repeat (rename Fr _ _ _ _ => hz; clear hz)
          repeat (rename (_ ≤ (_ : Int)) => hz; clear hz)
          repeat (rename ((_ : Int) < _) => hz; clear hz)
          intro h5 tk5 od5 ow5 a5 b5 ta5 tb5 n5 W4 D4 F5 N5 ha5 hb5 hc5 hD5 hW5 hrel
          k_extra "gn"; (obtain ⟨fo, hfo, hW4, hD4⟩ := hrel) <;> k_unfold
          repeat ((fail_if_success (with_reducible show wpAny _ _ (exec (Stmt.For _ _ _ _ _) _) _ _ _)); first | ((with_reducible show wpAny _ _ (PySem.exec _ _) _ _ _); k_fold) | ((fail_if_success (fail_if_success k_unfold)); (show wpAny _ _ _ _ _ _); (try dsimp only)) | (k_unfold; (try dsimp only)) | (k_end; wrow_close) | walk1 | (dsimp only; walk1) | (leave1; walk_say "STEP lea"))
          have hl4 : W4.length ≤ 5 := by rw [hW4]; exact Nat.le_trans (putO_len _ _ _) (by omega)
          refine if_join2 (dd := dd) (dw := dw) (src := src) (fun g L m h' => ∃ t1 t2, Fr g L h' (fun y => if y = Str.ofString "value" then some (.str (Str.ofString "n") t1) else if y = Str.ofString "told" then some (.str (Str.ofString "id") t2) else m y)) (by k_asm) (fun W D => D = D4 ∧ ∃ wo ho io, WoOk wo ∧ HoOk ho ∧ IoOk io ∧ W = putO (putO (putO W4 (Str.ofString "width") wo) (Str.ofString "height") ho) (Str.ofString "id") io) ?br ?co
          case br =>
            repeat ((fail_if_success (with_reducible show wpAny _ _ (exec (Stmt.If _ _ _ _) _) _ _ _)); first | ((with_reducible show wpAny _ _ (PySem.exec _ _) _ _ _); k_fold) | ((fail_if_success (fail_if_success k_unfold)); (show wpAny _ _ _ _ _ _); (try dsimp only)) | (k_unfold; (try dsimp only)) | (k_end; wrow_close) | walk1 | (dsimp only; walk1) | (leave1; walk_say "STEP lea"))
            k_extra "gn"; (obtain ⟨hq1, hq2, hq3, hq4, hq5⟩ := off5 (dd := dd) (dw := dw) (src := src) (by k_asm) ⟨by k_ne, by k_ne⟩ ⟨by k_ne, by k_ne⟩ ⟨by k_ne, by k_ne⟩ ⟨by k_ne, by k_ne⟩ ⟨by k_ne, by k_ne⟩) <;> k_unfold
            refine if_join5 (dd := dd) (dw := dw) (src := src) (by k_asm) (by k_asm) (fun W D => D = D4 ∧ ∃ q, WoOk q ∧ W = putO W4 (Str.ofString "width") q) ?br1 ?co1
            case br1 =>
              exact use_turn (k := Str.ofString "width") (v := Str.ofString "7") (by assumption) (by k_asm) (by k_asm) (by k_asm) (by k_asm) hq1 hq2 hq3 hq4 hq5 n1 n2 n3 (by first | assumption | exact rfl) (by first | assumption | exact rfl) (by exact rfl) (by exact rfl) (by assumption) (by assumption) (by assumption) hD5 hW5 (Nat.le_trans hl4 (by decide)) (by decide) (by decide) rfl (room_of 1 rfl (by assumption) rfl) (units_of 3 rfl (by assumption) rfl)
            case co1 =>
              repeat (rename (∀ b o, _ → _ ≠ _ → _) => hz; clear hz)
              repeat (rename (∀ q ∈ [], _) => hz; clear hz)
              repeat (rename News _ _ _ _ => hz; clear hz)
              repeat (rename Fr _ _ _ _ => hz; clear hz)
              repeat (rename (_ ≤ (_ : Int)) => hz; clear hz)
              repeat (rename ((_ : Int) < _) => hz; clear hz)
              intro h70 tk70 od70 ow70 a70 b70 ta70 tb70 n70 W70 D70 F70 N70 ha70 hb70 hc70 hD70 hW70 hrel70
              k_extra "gn"; (obtain ⟨hD70e, q70, hq70, hW70e⟩ := hrel70) <;> k_unfold
              have hlen70 : W70.length ≤ 6 := by rw [hW70e]; exact Nat.le_trans (putO_len _ _ _) (by omega)
              repeat ((fail_if_success (with_reducible show wpAny _ _ (exec (Stmt.If _ _ _ _) _) _ _ _)); first | ((with_reducible show wpAny _ _ (PySem.exec _ _) _ _ _); k_fold) | ((fail_if_success (fail_if_success k_unfold)); (show wpAny _ _ _ _ _ _); (try dsimp only)) | (k_unfold; (try dsimp only)) | (k_end; wrow_close) | walk1 | (dsimp only; walk1) | (leave1; walk_say "STEP lea"))
              refine if_join5 (dd := dd) (dw := dw) (src := src) (by k_asm) (by k_asm) (fun W D => D = D4 ∧ ∃ q, HoOk q ∧ W = putO W70 (Str.ofString "height") q) ?br2 ?co2
              case br2 =>
                exact use_turn (k := Str.ofString "height") (v := Str.ofString "5") (by assumption) (by k_asm) (by k_asm) (by k_asm) (by k_asm) hq1 hq2 hq3 hq4 hq5 n1 n2 n3 (by first | assumption | exact rfl) (by first | assumption | exact rfl) (by exact rfl) (by exact rfl) (by assumption) (by assumption) (by assumption) hD70 hW70 (Nat.le_trans hlen70 (by decide)) (by decide) (by decide) hD70e (room_of 1 rfl (by assumption) rfl) (units_of 3 rfl (by assumption) rfl)
              case co2 =>
                repeat (rename (∀ b o, _ → _ ≠ _ → _) => hz; clear hz)
                repeat (rename (∀ q ∈ [], _) => hz; clear hz)
                repeat (rename News _ _ _ _ => hz; clear hz)
                repeat (rename Fr _ _ _ _ => hz; clear hz)
                repeat (rename (_ ≤ (_ : Int)) => hz; clear hz)
                repeat (rename ((_ : Int) < _) => hz; clear hz)
                intro h71 tk71 od71 ow71 a71 b71 ta71 tb71 n71 W71 D71 F71 N71 ha71 hb71 hc71 hD71 hW71 hrel71
                k_extra "gn"; (obtain ⟨hD71e, q71, hq71, hW71e⟩ := hrel71) <;> k_unfold
                have hlen71 : W71.length ≤ 7 := by rw [hW71e]; exact Nat.le_trans (putO_len _ _ _) (by omega)
                repeat ((fail_if_success (with_reducible show wpAny _ _ (exec (Stmt.If _ _ _ _) _) _ _ _)); first | ((with_reducible show wpAny _ _ (PySem.exec _ _) _ _ _); k_fold) | ((fail_if_success (fail_if_success k_unfold)); (show wpAny _ _ _ _ _ _); (try dsimp only)) | (k_unfold; (try dsimp only)) | (k_end; wrow_close) | walk1 | (dsimp only; walk1) | (leave1; walk_say "STEP lea"))
                refine if_join5 (dd := dd) (dw := dw) (src := src) (by k_asm) (by k_asm) (fun W D => D = D4 ∧ ∃ q, IoOk q ∧ W = putO W71 (Str.ofString "id") q) ?br3 ?co3
                case br3 =>
                  exact use_turn (k := Str.ofString "id") (v := Str.ofString "n") (by assumption) (by k_asm) (by k_asm) (by k_asm) (by k_asm) hq1 hq2 hq3 hq4 hq5 n1 n2 n3 (by first | assumption | exact rfl) (by first | assumption | exact rfl) (by exact rfl) (by exact rfl) (by assumption) (by assumption) (by assumption) hD71 hW71 (Nat.le_trans hlen71 (by decide)) (by decide) (by decide) hD71e (room_of 1 rfl (by assumption) rfl) (units_of 3 rfl (by assumption) rfl)
                case co3 =>
                  repeat (rename (∀ b o, _ → _ ≠ _ → _) => hz; clear hz)
                  repeat (rename (∀ q ∈ [], _) => hz; clear hz)
                  repeat (rename News _ _ _ _ => hz; clear hz)
                  repeat (rename Fr _ _ _ _ => hz; clear hz)
                  repeat (rename (_ ≤ (_ : Int)) => hz; clear hz)
                  repeat (rename ((_ : Int) < _) => hz; clear hz)
                  intro h72 tk72 od72 ow72 a72 b72 ta72 tb72 n72 W72 D72 F72 N72 ha72 hb72 hc72 hD72 hW72 hrel72
                  k_extra "gn"; (obtain ⟨hD72e, q72, hq72, hW72e⟩ := hrel72) <;> k_unfold
                  have hlen72 : W72.length ≤ 8 := by rw [hW72e]; exact Nat.le_trans (putO_len _ _ _) (by omega)
                  (k_extra "st")
                  exact jend2 ⟨_, _, fr_norm (by k_asm) (by intro y h1 h2; simp only [if_neg h1, if_neg h2])⟩ (by k_asm) (by k_mem) (by k_mem) (by k_mem) (by assumption) (by assumption) (by assumption) (by rw [← hD72e]; exact hD72) hW72 ⟨rfl, q70, q71, q72, hq70, hq71, hq72, by rw [hW72e, hW71e, hW70e]⟩
          case co =>
            clear hD5 hW5
            repeat (rename (_ ∧ _) => hz; clear hz)
            repeat (rename (∀ b o, _ → _ ≠ _ → _) => hz; clear hz)
            repeat (rename (∀ q ∈ [], _) => hz; clear hz)
            repeat (rename News _ _ _ _ => hz; clear hz)
            repeat (rename Fr _ _ _ _ => hz; clear hz)
            repeat (rename (_ ≤ (_ : Int)) => hz; clear hz)
            repeat (rename ((_ : Int) < _) => hz; clear hz)
            intro h6 tk6 od6 ow6 a6 b6 ta6 tb6 n6 W5 D5 F6 N6 ha6 hb6 hc6 hD6 hW6 hrel2
            obtain ⟨t61, t62, F6⟩ := F6
            k_extra "gn"; (obtain ⟨rfl, wo, ho, io, hwo, hho, hio, hW5⟩ := hrel2) <;> k_unfold
            repeat ((fail_if_success (with_reducible show wpAny _ _ (eval (PySem.Expr.BoolOp _ _ _) _) _ _ _)); first | ((with_reducible show wpAny _ _ (PySem.exec _ _) _ _ _); k_fold) | ((fail_if_success (fail_if_success k_unfold)); (show wpAny _ _ _ _ _ _); (try dsimp only)) | (k_unfold; (try dsimp only)) | (k_end; wrow_close) | walk1 | (dsimp only; walk1) | (leave1; walk_say "STEP lea"))
            have hx10 := hxk.ten
            have hy10 := hyk.ten
            have htl := tr_len hxk hyk htr
            refine or_join (xo.getD (Str.ofString "0")) (or_opt (by k_asm) (by k_asm) (by assumption) hxo (by intro y e; rcases hxk with q | q | q <;> rw [q] at e <;> cases e <;> simp) rfl rfl (by decide)) ?co
            case co =>
              intro tX tkX
              repeat ((fail_if_success (with_reducible show wpAny _ _ (eval (PySem.Expr.BoolOp _ _ _) _) _ _ _)); first | ((with_reducible show wpAny _ _ (PySem.exec _ _) _ _ _); k_fold) | ((fail_if_success (fail_if_success k_unfold)); (show wpAny _ _ _ _ _ _); (try dsimp only)) | (k_unfold; (try dsimp only)) | (k_end; wrow_close) | walk1 | (dsimp only; walk1) | (leave1; walk_say "STEP lea"))
              refine or_join (yo.getD (Str.ofString "0")) (or_opt (by k_asm) (by k_asm) (by assumption) hyo (by intro y e; rcases hyk with q | q | q <;> rw [q] at e <;> cases e <;> simp) rfl rfl (by decide)) ?co
              case co =>
                intro tY tkY
                have hl6 : D5.length ≤ 39 := by rw [hD4]; exact Nat.le_trans (putO_len _ _ _) (by decide)
                rcases htr with rfl | rfl
                · (k_extra "st")
                  rename SDict _ _ dd (putA _ _ _) => hD'
                  rename News g'9q _ _ ((_, _) :: _) => N9
                  obtain ⟨t, ht⟩ := news_hd N9
                  subst ht
                  refine spec_ret (tl := [(t, _), (dd, _), (dw, ow6)]) (led' := [(src, PySem.W.listOf #[.int a6 ta6, .int b6 tb6] n6)]) hret st (by assumption) (by assumption) (by assumption) (by assumption) (fun _ h => h) rfl ?_ ⟨t, ex9 dw dd _ _ _ _ _ _ _ ⟨rfl, .head _, SDict.one hW6 (.tail _ (.tail _ (.head _))), SDict.one hD' (.tail _ (.head _)), ⟨hr, xo, yo, _, fo, wo, ho, io, hhr, hxk, hyk, .inl rfl, hfo, hwo, hho, hio, ?_, ?_⟩, ha6, hb6, hc6, rfl⟩⟩
                  · intro q hq b hb
                    rw [List.mem_singleton.mp hb]
                    rcases List.mem_cons.mp hq with rfl | hq
                    · exact Ne.symm (Nat.ne_of_lt (by omega : @LT.lt Nat instLTNat src t))
                    · rcases List.mem_cons.mp hq with rfl | hq
                      · exact Ne.symm (Nat.ne_of_lt n3)
                      · rw [List.mem_singleton.mp hq]; exact Ne.symm (Nat.ne_of_lt n1)
                  · rw [hW5, hW4, hW3, hW2, hW1]; rfl
                  · rw [hD4]; rfl
                · (k_extra "st")
                  rename SDict _ _ dd (putA _ _ _) => hD'
                  rename News g'9q _ _ ((_, _) :: _) => N9
                  obtain ⟨t, ht⟩ := news_hd N9
                  subst ht
                  refine spec_ret (tl := [(t, _), (dd, _), (dw, ow6)]) (led' := [(src, PySem.W.listOf #[.int a6 ta6, .int b6 tb6] n6)]) hret st (by assumption) (by assumption) (by assumption) (by assumption) (fun _ h => h) rfl ?_ ⟨t, ex9 dw dd _ _ _ _ _ _ _ ⟨rfl, .head _, SDict.one hW6 (.tail _ (.tail _ (.head _))), SDict.one hD' (.tail _ (.head _)), ⟨hr, xo, yo, _, fo, wo, ho, io, hhr, hxk, hyk, .inr rfl, hfo, hwo, hho, hio, ?_, ?_⟩, ha6, hb6, hc6, rfl⟩⟩
                  · intro q hq b hb
                    rw [List.mem_singleton.mp hb]
                    rcases List.mem_cons.mp hq with rfl | hq
                    · exact Ne.symm (Nat.ne_of_lt (by omega : @LT.lt Nat instLTNat src t))
                    · rcases List.mem_cons.mp hq with rfl | hq
                      · exact Ne.symm (Nat.ne_of_lt n3)
                      · rw [List.mem_singleton.mp hq]; exact Ne.symm (Nat.ne_of_lt n1)
                  · rw [hW5, hW4, hW3, hW2, hW1]; rfl
                  · rw [hD4]; rfl
theorem pool_a (x : Int) {p : Prop} [Decidable p] : 0 ≤ (if -1 - x > x then -1 - x else x) * (if p then 1 else 0) := by
  k_with_none
  w_top off
  (k_with "an" => (first | assumption | exact And.left (by assumption) | exact And.left (And.right (by assumption)) | exact And.left (And.right (And.right (by assumption))) | exact And.left (And.right (And.right (And.right (by assumption)))) | exact And.left (And.right (And.right (And.right (And.right (by assumption))))) | exact And.left (And.right (And.right (And.right (And.right (And.right (by assumption)))))) | exact And.left (And.right (And.right (And.right (And.right (And.right (And.right (by assumption))))))) | exact And.left (And.right (And.right (And.right (And.right (And.right (And.right (And.right (by assumption)))))))) | exact And.left (And.right (And.right (And.right (And.right (And.right (And.right (And.right (And.right (by assumption)))))))))))
  (k_with "k_ne" => (refine neN ?_; (try dsimp only); first | (refine Nat.ne_of_lt ?_; k_extra "an") | (refine Nat.ne_of_gt ?_; k_extra "an")))
  (k_with "sub" => (first | assumption | (refine List.mem_append_left _ ?_; k_extra "sub") | (refine List.mem_append_right _ ?_; k_extra "sub") | (refine List.Mem.tail _ ?_; k_extra "sub")))
  (k_with "rm" => (first | exact room_of 1 rfl (by assumption) rfl | exact room_of 0 rfl (by assumption) rfl | exact room_of1 1 rfl (by assumption) rfl | exact room_of1 0 rfl (by assumption) rfl | ktr_room))
  (k_with "un" => (first | exact units_of 3 rfl (by assumption) rfl | exact units_of 4 rfl (by assumption) rfl | exact units_of 0 rfl (by assumption) rfl | ktr_units))
  (k_with "st" => (repeat' (first | ((with_reducible show wpAny _ _ (PySem.exec _ _) _ _ _); k_fold) | ((fail_if_success (fail_if_success k_unfold)); (show wpAny _ _ _ _ _ _); (try dsimp only)) | (k_unfold; (try dsimp only)) | (k_end; wrow_close) | walk1 | (dsimp only; walk1) | (leave1; walk_say "STEP leave1"; try dsimp only) | fail "no step")))
  (k_with "D" => try ((with_reducible show wpAny _ _ _ _ _ (Shared.mk (Shared.heap _) _ _ _ _)); dsimp only))
  (k_with "E0" => ((case F => k_asm); (case V => first | assumption | exact ⟨rfl, rfl, rfl⟩)))
  (k_with "E" => (k_extra "E0"; (case e => exact rfl)))
  (k_with "S" => (intro h'8q tk'8q F'8q N'8q; (try k_sweep)))
  (k_with "A" => (intro l'8q h'8q F'8q N'8q l18q; (try k_lt l18q); (try k_sweep)))
  (k_with "spliced" => (k_here; k_extra "D"; k_dflt (first | ((with_reducible refine' s_args ?V ?F ?e ?_); k_extra "E"; k_whole; (try dsimp only [List.cons_append, List.nil_append])))))
  (k_with "evalPairs" => (k_here; k_extra "D"; k_dflt (first | ((with_reducible refine' s_pair ?V ?F ?e ?f ?_); k_extra "E"; (case f => exact rfl); k_whole))))
  (k_with "eval BinOp" => (k_here; k_extra "D"; k_dflt (first | ((with_reducible refine' s_bin ?V ?F ?e ?f ?_); k_extra "E"; (case f => exact rfl); k_whole) | ((with_reducible refine' s_binL ?V ?F ?e ?_); k_extra "E"; k_whole))))
  (k_with "isTrue Compare" => (k_here; k_extra "D"; k_dflt (first | ((with_reducible refine' s_cmp ?V ?F ?e ?f ?h ?_); k_extra "E"; (case f => exact rfl); (case h => with_unfolding_all rfl); k_whole) | ((with_reducible refine' s_cmpL ?V ?F ?e ?h ?_); k_extra "E"; (case h => with_unfolding_all rfl); k_whole))))
  (k_with "eval Subscript" => (k_here; k_extra "D"; k_dflt (first | ((with_reducible refine' s_sub ?V ?F ?e ?f ?_); k_extra "E"; (case f => exact rfl); k_whole) | ((with_reducible refine' s_subL ?V ?F ?e ?_); k_extra "E"; k_whole))))
  (k_with "eval List" => (k_here; k_extra "D"; k_dflt (first | ((with_reducible refine' s_list ?V ?F ?e ?_); k_extra "E"; k_whole))))
  (k_with "eval Tuple" => (k_here; k_extra "D"; k_dflt (first | ((with_reducible refine' s_tuple ?V ?F ?e ?_); k_extra "E"; k_whole))))
  (k_with "exec Return some" => (k_here; k_extra "D"; k_dflt (first | ((with_reducible refine' s_ret ?V ?F ?e ?_); k_extra "E"; k_whole))))
  (k_with "eval Attribute Name" => (k_here; k_extra "D"; k_dflt (first | ((with_reducible refine' s_attr ?V ?F ?e ?_ ?h); k_extra "E"; (case h => with_unfolding_all rfl); k_whole))))
  (k_with "execs cons" => (k_here; k_extra "D"; k_dflt (first | k_gentoks | ((with_reducible refine' c_asgS ?V ?F ?N ?e ?x ?_ ?h); k_extra "E"; (case N => k_asm); (case x => exact rfl); (case h => exact rfl); k_whole; k_extra "S") | ((with_reducible refine' c_asg ?_ ?h); (case h => exact rfl); k_whole; (try refine (let qk8q : Value → Shared → Prop := _; (?_ : wpAny _ _ _ qk8q _ _)))) | ((with_reducible refine' c_retS ?V ?F ?e ?_); k_extra "E"; k_whole) | (with_reducible refine c_ret ?_))))
  (k_with "storeName" => (k_here; k_extra "D"; k_dflt (first | ((with_reducible refine' c_store ?V ?F ?N ?x ?_); k_extra "E0"; (case N => k_asm); (case x => exact rfl); k_whole; k_extra "S"))))
  (k_with "newList" => (k_here; k_extra "D"; k_dflt (first | ((with_reducible refine' c_newList ?F ?N ?_ ?z); (case F => k_asm); (case N => k_asm); (case z => size_fits); k_extra "A"))))
  (k_with "newTuple" => (k_here; k_extra "D"; k_dflt (first | ((with_reducible refine' c_newTuple ?F ?N ?_ ?z); (case F => k_asm); (case N => k_asm); (case z => kmk_size); k_extra "A"))))
  (k_with "binaryOp Mult int int" => (k_here; k_extra "D"; k_dflt (first | ((with_reducible refine' c_mul ?_ ?z); (case z => mul_fits)))))
  (k_with "binaryOp Add int int" => (k_here; k_extra "D"; k_dflt (first | (with_reducible refine c_add ?_))))
  (k_with "binaryOp Sub int int" => (k_here; k_extra "D"; k_dflt (first | (with_reducible refine c_sub ?_))))
  (k_with "unaryOp USub int" => (k_here; k_extra "D"; k_dflt (first | (with_reducible refine c_neg ?_))))
  (k_with "callWith ref" => (k_here; k_extra "D"; k_dflt (first | ((with_reducible refine' s_with ?V ?F ?X ?k ?e ?_); k_extra "E"; (case X => k_asm); (case k => k_is); k_whole))))
  (k_with "eval Call" => (k_here; k_extra "D"; k_dflt (first | ((with_reducible refine' s_call ?V ?F ?X ?T ?n ?x ?d ?k ?e ?_ ?h); k_extra "E"; (case x => exact rfl); (case X => k_asm); (case T => k_asm); (case d => decide); (case n => k_is); (case k => k_is); (case h => exact rfl); k_whole))))
  (k_with "eval Name" => (k_here; k_extra "D"; k_dflt (first | ((with_reducible refine' s_val ?V ?F ?e ?_); k_extra "E"; k_whole))))
  (k_with "ktr_enter" => first
  | (refine' codeG ?k1 ?k2 ?k3 ?k4 ?k5 ?kA ?kF ?kK ?k6 ?k7 ?k8 ?k9 ?kB ?_ ?c2 ?c3 ?c4 ?c5; (case kA => exact rfl); (case kF => exact rfl); (case kK => assumption); (case k1 => first | k_asm | exact topb_of rfl rfl (by k_asm)); (case k2 => k_asm); (case k3 => k_asm); (case k4 => k_asm); (case k5 => k_asm); (case k6 => k_is); (case k7 => k_is); (case k8 => (k_extra "rm")); (case k9 => first | exact BindsTo.of_eq rfl | exact binds_K (by k_in) rfl (by k_is) rfl rfl rfl); (case c5 => decide); (case kB => exact locs rfl); (case c2 => exact rfl); (case c3 => exact rfl); (case c4 => exact rfl); k_whole; intro g'9q L'9q h'9q tk'9q st'9q FG'9q F'9q N'9q B'9q X'9q T'9q l1'9q; (try dsimp only); (try k_fold)))
  (k_with "k_inst" => exact inst_base (by k_asm) (by assumption) (by assumption))
  (k_with "getMethod ref" => (k_here; (with_reducible show wpAny _ _ (getMethod (Value.ref _) (Str.ofString "get") _) _ _ _); k_dflt (refine sd_method (SDict.base (by k_asm) (by assumption)) ?_)))
  (k_with "call builtin:dict.get" => (k_here; (with_reducible show wpAny _ _ (call (Value.builtin "dict.get") [Value.ref _, Value.str _ _]) _ _ _); k_dflt (first
  | (refine sd_get1s (SDict.base (by k_asm) (by assumption)) (by assumption) ?_; intro t'9q)
  | (refine sd_get1n (SDict.base (by k_asm) (by assumption)) (by assumption) ?_)
  | (refine sd_get1 (SDict.base (by k_asm) (by assumption)) (fun hg09q => ?_) (fun v'9q t'9q hg19q => ?_)))))
  (k_with "k_room" => (k_extra "rm"))
  (k_with "subscriptTail" => (k_here; (with_reducible show wpAny _ _ (subscriptTail _ _ (Value.ref _) (Value.str _ _)) _ _ _); k_dflt (refine sd_item (SDict.base (by k_asm) (by assumption)) (by assumption) ?_); intro t'9q))
  (k_with "call ref" => (k_here; (with_reducible show wpAny _ _ (call (Value.ref _) _) _ _ _); (try k_fold); k_dflt (refine' spec_use0 ?S ?k1 ?k2 ?k3 ?k4 ?k5 ?kK ?kP ?kd ?ku ?_; (case S => assumption); (case k1 => first | k_asm | exact topb_of rfl rfl (by k_asm)); (case k2 => k_asm); (case k3 => k_asm); (case k4 => k_asm); (case k5 => k_asm); (case kK => exact rfl); (case kP => first | exact trivial | exact ElOf.base (by k_asm) (by assumption)); (case kd => (k_extra "rm")); (case ku => (k_extra "un"))); intro r'9q tl'9q h'9q tk'9q F'9q N'9q fr'9q st'9q hR'9q; (try dsimp only at hR'9q)))
  (k_with "k_mem" => ((show _ ∈ (_ ++ _ : List (Addr × Obj))); first | (refine List.mem_append_right _ ?_; k_mem) | (refine List.mem_append_left _ ?_; k_mem)))
  (k_with "call builtin:dict.get" => (k_here; (with_reducible show wpAny _ _ (call (Value.builtin "dict.get") [Value.ref _, Value.str _ _, Value.str _ _]) _ _ _); k_dflt (refine sd_get2L (SDict.base (by k_asm) (by assumption)) (by first | assumption | decide) ?_); intro t'9q hlen'9q))
  refine Int.mul_nonneg ?_ ?_
  · split <;> omega
  · split <;> decide
theorem item0_base {w : World} {A : Around} {E : Value → Shared → Prop} {s : Shared} {g : Heap} {L l : Addr} {m : Str → Option Value} {x : Value} {vs : List Value} {Q : Value → Shared → Prop} {value slice : PySem.Expr} {u : Tok}
    (F : Fr g L s.heap m) (hl : g.IsList l (x :: vs).toArray) (hz : (x :: vs).toArray.size ≤ 1000) (h : Q x s)
    (hs : subscripted slice false (.ref l) (.int 0 u) = operate [.ref l, .int 0 u] (getItem (.ref l) (.int 0 u)) := by with_unfolding_all rfl) (hg : ∀ r, letTemporaryGo value (.ref l) r = pure () := by intro _; with_unfolding_all rfl) :
    wpAny (model PG w) A (subscriptTail value slice (.ref l) (.int 0 u)) Q E s := by
  have hL : s.heap.IsList l (x :: vs).toArray := hl.at fun o e => F.keep l o e
  exact subscriptTail_builtin hL.typeIs slot_list_getitem.lookup (wpAny_getItem_list (k := 0) hL (by omega) (by omega) (by simp) h) hs hg
theorem pool_spec (w : World) (mean : ExcName → Option Value) (mg mb : Str → Option Value) (l : Addr) (vs : List Value) (ns : List Int) (hI : IntsAre vs ns) (hlen : vs.length ≤ 63) (tk : Tok) :
    Spec w mean mg mb 310 [.ref l, .int 0 tk] [] 2 (fun h => h.IsList l vs.toArray) (fun r led' tl => ∃ D a b ta tb n, r = .ref D ∧ (D, PySem.W.listOf #[.int a ta, .int b tb] n) ∈ tl ∧ 0 ≤ a ∧ 0 ≤ b ∧ b < 2147483647) := by
  (k_with "call builtin:len" => (k_here; (with_reducible show wpAny _ _ (call (Value.builtin "len") [Value.ref _]) _ _ _); k_dflt (refine len_base (by k_asm) (by assumption) (by assumption) (fun t'9q tk'9q => ?_))))
  (k_with "subscriptTail" => (k_here; (with_reducible show wpAny _ _ (subscriptTail _ _ (Value.ref _) (Value.int _ _)) _ _ _); k_dflt (refine item0_base (by k_asm) (by assumption) (by assumption) ?_)))
  unfold Spec
  k_fill
  intro dp un gd cn cs a' ccd cl' outer A₀ base h₀ L m s Q E B F X N T hk hP hd hu hret
  refine wpAny_call ?_
  k_dflt ktr_enter
  first | refine (let ak : Around := _; let nk : Env := _; let sg9 : Array GenState := _; let sd9 : Drawn := _; let so9 : OsState := _; (?_ : wpAny _ ak (execs _ nk) _ _ (Shared.mk _ sg9 sd9 _ so9))) | refine (let ak : Around := _; let nk : Env := _; (?_ : wpAny _ ak (execs _ nk) _ _ _))
  try (have TB9 : TopB ak _ _ (dp + 1) (un + 3) := topb_of rfl rfl (by assumption))
  try (have FE9 : FnE nk L'9q := ⟨rfl, rfl, rfl⟩)
  try (rename Fr _ _ _ (fun y => List.lookup y (List.reverse _)) => FX9; replace FX9 := fr_binds [(Str.ofString "script", (.ref l : Value)), (Str.ofString "k", (.int 0 tk : Value))] rfl FX9)
  rename Stood _ _ _ => st
  obtain ⟨o1, h1, h2⟩ := hP
  have hl : Heap.IsList _ l vs.toArray := ⟨o1, st _ _ h1 (fun h => nomatch h), h2⟩
  clear h1 h2
  cases hI with
  | nil =>
    have hz : ([] : List Value).toArray.size ≤ 1000 := by decide
    (k_extra "st")
    all_goals refine spec_ret0 hret st (by assumption) (by assumption) (by assumption) (by assumption) _ (by exact fun _ h => h) ⟨_, _, _, _, _, _, rfl, List.Mem.head _, ?_, ?_, ?_⟩
    all_goals first | exact pool_a _ | exact tk_lo _ (by decide) | exact tk_hi _ (by decide)
  | cons c tc hr =>
    rename List Value => vr
    have hz : (Value.int c tc :: vr).toArray.size ≤ 1000 := by rw [List.size_toArray]; omega
    (k_extra "st")
    all_goals refine spec_ret0 hret st (by assumption) (by assumption) (by assumption) (by assumption) _ (by exact fun _ h => h) ⟨_, _, _, _, _, _, rfl, List.Mem.head _, ?_, ?_, ?_⟩
    all_goals first | exact pool_a _ | exact tk_lo _ (by decide) | exact tk_hi _ (by decide)
theorem putA_lookup (as : List (Str × Str)) (k v q : Str) : (putA as k v).lookup q = if q = k then some v else as.lookup q := by
  k_with_none
  w_top off
  (k_with "an" => (first | assumption | exact And.left (by assumption) | exact And.left (And.right (by assumption)) | exact And.left (And.right (And.right (by assumption))) | exact And.left (And.right (And.right (And.right (by assumption)))) | exact And.left (And.right (And.right (And.right (And.right (by assumption))))) | exact And.left (And.right (And.right (And.right (And.right (And.right (by assumption)))))) | exact And.left (And.right (And.right (And.right (And.right (And.right (And.right (by assumption))))))) | exact And.left (And.right (And.right (And.right (And.right (And.right (And.right (And.right (by assumption)))))))) | exact And.left (And.right (And.right (And.right (And.right (And.right (And.right (And.right (And.right (by assumption)))))))))))
  (k_with "k_ne" => (refine neN ?_; (try dsimp only); first | (refine Nat.ne_of_lt ?_; k_extra "an") | (refine Nat.ne_of_gt ?_; k_extra "an")))
  (k_with "sub" => (first | assumption | (refine List.mem_append_left _ ?_; k_extra "sub") | (refine List.mem_append_right _ ?_; k_extra "sub") | (refine List.Mem.tail _ ?_; k_extra "sub")))
  have hmap : ∀ as : List (Str × Str), (as.map fun p => if p.1 = k then (p.1, v) else p).lookup q = if q = k then (if as.any (fun p => decide (p.1 = k)) = true then some v else none) else as.lookup q := by
    intro as
    induction as with
    | nil => by_cases h : q = k <;> simp [h]
    | cons p as ih =>
      obtain ⟨a, b⟩ := p
      rw [List.map_cons, List.lookup_cons, List.lookup_cons, List.any_cons]
      by_cases ha : a = k
      · subst ha
        simp only [if_true, decide_true, Bool.true_or]
        by_cases hq : q = a
        · subst hq; simp
        · have h1 : (q == a) = false := beq_eq_false_iff_ne.mpr hq
          simp only [h1, if_neg hq, ih]
      · rw [if_neg ha, decide_eq_false ha, Bool.false_or]
        by_cases hq : q = a
        · subst hq; simp [ha]
        · have h1 : (q == a) = false := beq_eq_false_iff_ne.mpr hq
          simp only [h1, ih]
  unfold putA
  by_cases h : as.any (fun p => decide (p.1 = k)) = true
  · rw [if_pos h, hmap, if_pos h]
  · rw [if_neg h]
    have hno : q = k → as.lookup q = none := fun e => by
      subst e
      rw [Bool.not_eq_true, List.any_eq_false] at h
      rw [List.lookup_eq_none_iff]
      intro p hp
      exact bne_iff_ne.mpr fun z => h p hp (decide_eq_true z.symm)
    rw [List.lookup_append]
    by_cases hq : q = k
    · rw [hno hq, if_pos hq]; simp [hq]
    · rw [if_neg hq]
      have h1 : (q == k) = false := beq_eq_false_iff_ne.mpr hq
      simp [List.lookup_cons, h1]
theorem putO_lookup (as : List (Str × Str)) (k : Str) (o : Option Str) (q : Str) : (putO as k o).lookup q = if q = k then (match o with | some v => some v | none => as.lookup q) else as.lookup q := by
  cases o with
  | none => by_cases h : q = k <;> simp [putO]
  | some v => exact putA_lookup as k v q
theorem putT_lookup (as : List (Str × Str)) (tr q : Str) : (putT as tr).lookup q = if q = Str.ofString "transform" then (if tr = Str.ofString "" then as.lookup q else some tr) else as.lookup q := by
  unfold putT
  by_cases h : tr = Str.ofString ""
  · simp [h]
  · rw [if_neg h, putA_lookup]; simp [h]
theorem putA_keys {as : List (Str × Str)} {k v : Str} {P : Str → Prop} (h : ∀ p ∈ as, P p.1) (hk : P k) : ∀ p ∈ putA as k v, P p.1 := by
  intro p hp
  unfold putA at hp
  split at hp
  · obtain ⟨q, hq, rfl⟩ := List.mem_map.mp hp
    by_cases e : q.1 = k
    · rw [if_pos e]; exact h q hq
    · rw [if_neg e]; exact h q hq
  · rcases List.mem_append.mp hp with hp | hp
    · exact h p hp
    · rw [List.mem_singleton.mp hp]; exact hk
theorem putO_keys {as : List (Str × Str)} {k : Str} {o : Option Str} {P : Str → Prop} (h : ∀ p ∈ as, P p.1) (hk : P k) : ∀ p ∈ putO as k o, P p.1 := by
  cases o with
  | none => exact h
  | some v => exact putA_keys h hk
theorem putT_keys {as : List (Str × Str)} {tr : Str} {P : Str → Prop} (h : ∀ p ∈ as, P p.1) (hk : P (Str.ofString "transform")) : ∀ p ∈ putT as tr, P p.1 := by
  unfold putT
  split
  · exact h
  · exact putA_keys h hk
theorem flt_own_put {as : List (Str × Str)} {k v : Str} (hk : ownWords.contains k = true) : flt (putA as k v) = flt as := by
  have hm : ∀ as : List (Str × Str), flt (as.map fun p => if p.1 = k then (p.1, v) else p) = flt as := by
    intro as
    induction as with
    | nil => rfl
    | cons p as ih =>
      unfold flt at ih ⊢
      rw [List.map_cons, List.filter_cons, List.filter_cons, ih]
      by_cases e : p.1 = k
      · rw [if_pos e]; dsimp only; rw [e, hk]; rfl
      · rw [if_neg e]
  unfold putA
  split
  · exact hm as
  · unfold flt; rw [List.filter_append]; simp only [List.filter_cons, hk, Bool.not_true, Bool.false_eq_true, if_false, List.filter_nil, List.append_nil]
theorem flt_own_putO {as : List (Str × Str)} {k : Str} {o : Option Str} (hk : ownWords.contains k = true) : flt (putO as k o) = flt as := by
  cases o with
  | none => rfl
  | some v => exact flt_own_put hk
theorem flt_own_putT {as : List (Str × Str)} {tr : Str} : flt (putT as tr) = flt as := by
  unfold putT
  split
  · rfl
  · exact flt_own_put (by decide +kernel)
theorem flt_fill {as : List (Str × Str)} {o : Option Str} (h : flt as = []) (hf : ∀ p ∈ as, p.1 ≠ Str.ofString "fill") : flt (putO as (Str.ofString "fill") o) = putO [] (Str.ofString "fill") o := by
  cases o with
  | none => exact h
  | some v =>
    show flt (putA _ _ _) = putA [] _ _
    unfold putA
    have h1 : as.any (fun p => decide (p.1 = Str.ofString "fill")) = false := List.any_eq_false.mpr fun p hp => by simpa using hf p hp
    rw [if_neg (by rw [h1]; exact Bool.false_ne_true)]
    unfold flt at h ⊢
    have h2 : ownWords.contains (Str.ofString "fill") = false := by decide +kernel
    rw [List.filter_append, h]; simp only [List.filter_cons, h2, Bool.not_false, if_true, List.filter_nil, List.nil_append]
    rfl
section
variable {hr name : Str} {xo yo : Option Str} {tr : Str} {fo wo ho io : Option Str}
theorem HrOk.cases {P : Str → Prop} (h : HrOk hr) (h1 : P (Str.ofString "href")) (h2 : P (Str.ofString "xlink:href")) : P hr := by rcases h with rfl | rfl <;> assumption
theorem useW_lookup (q : Str) : (UseW hr name xo yo tr fo wo ho io).lookup q = (if q = Str.ofString "id" then (match io with | some v => some v | none => if q = hr then some (Str.ofString "#" ++ name) else none) else
    if q = Str.ofString "height" then (match ho with | some v => some v | none => if q = hr then some (Str.ofString "#" ++ name) else none) else if q = Str.ofString "width" then (match wo with | some v => some v | none => if q = hr then some (Str.ofString "#" ++ name) else none) else
    if q = Str.ofString "fill" then (match fo with | some v => some v | none => if q = hr then some (Str.ofString "#" ++ name) else none) else if q = Str.ofString "transform" then (if tr = Str.ofString "" then (if q = hr then some (Str.ofString "#" ++ name) else none) else some tr) else
    if q = Str.ofString "y" then (match yo with | some v => some v | none => if q = hr then some (Str.ofString "#" ++ name) else none) else if q = Str.ofString "x" then (match xo with | some v => some v | none => if q = hr then some (Str.ofString "#" ++ name) else none) else if q = hr then some (Str.ofString "#" ++ name) else none) := by
  unfold UseW
  simp only [putO_lookup, putT_lookup]
  have h0 : ([(hr, Str.ofString "#" ++ name)] : List (Str × Str)).lookup q = if q = hr then some (Str.ofString "#" ++ name) else none := by
    rw [List.lookup_cons]
    by_cases h : q = hr
    · subst h; simp
    · have h1 : (q == hr) = false := beq_eq_false_iff_ne.mpr h
      simp [h1, h]
  rw [h0]
  by_cases e1 : q = Str.ofString "id"
  · subst e1
    have n1 : Str.ofString "id" ≠ Str.ofString "height" := by decide
    have n2 : Str.ofString "id" ≠ Str.ofString "width" := by decide
    have n3 : Str.ofString "id" ≠ Str.ofString "fill" := by decide
    have n4 : Str.ofString "id" ≠ Str.ofString "transform" := by decide
    have n5 : Str.ofString "id" ≠ Str.ofString "y" := by decide
    have n6 : Str.ofString "id" ≠ Str.ofString "x" := by decide
    simp only [if_true, if_neg n1, if_neg n2, if_neg n3, if_neg n4, if_neg n5, if_neg n6]
  · simp only [if_neg e1]
    by_cases e2 : q = Str.ofString "height"
    · subst e2
      have n2 : Str.ofString "height" ≠ Str.ofString "width" := by decide
      have n3 : Str.ofString "height" ≠ Str.ofString "fill" := by decide
      have n4 : Str.ofString "height" ≠ Str.ofString "transform" := by decide
      have n5 : Str.ofString "height" ≠ Str.ofString "y" := by decide
      have n6 : Str.ofString "height" ≠ Str.ofString "x" := by decide
      simp only [if_true, if_neg n2, if_neg n3, if_neg n4, if_neg n5, if_neg n6]
    · simp only [if_neg e2]
      by_cases e3 : q = Str.ofString "width"
      · subst e3
        have n3 : Str.ofString "width" ≠ Str.ofString "fill" := by decide
        have n4 : Str.ofString "width" ≠ Str.ofString "transform" := by decide
        have n5 : Str.ofString "width" ≠ Str.ofString "y" := by decide
        have n6 : Str.ofString "width" ≠ Str.ofString "x" := by decide
        simp only [if_true, if_neg n3, if_neg n4, if_neg n5, if_neg n6]
      · simp only [if_neg e3]
        by_cases e4 : q = Str.ofString "fill"
        · subst e4
          have n4 : Str.ofString "fill" ≠ Str.ofString "transform" := by decide
          have n5 : Str.ofString "fill" ≠ Str.ofString "y" := by decide
          have n6 : Str.ofString "fill" ≠ Str.ofString "x" := by decide
          simp only [if_true, if_neg n4, if_neg n5, if_neg n6]
        · simp only [if_neg e4]
          by_cases e5 : q = Str.ofString "transform"
          · subst e5
            have n5 : Str.ofString "transform" ≠ Str.ofString "y" := by decide
            have n6 : Str.ofString "transform" ≠ Str.ofString "x" := by decide
            simp only [if_true, if_neg n5, if_neg n6]
          · simp only [if_neg e5]
            by_cases e6 : q = Str.ofString "y"
            · subst e6
              have n6 : Str.ofString "y" ≠ Str.ofString "x" := by decide
              simp only [if_true, if_neg n6]
            · simp only [if_neg e6]
theorem useW_x (h : HrOk hr) : (UseW hr name xo yo tr fo wo ho io).lookup (Str.ofString "x") = xo := by
  rw [useW_lookup]
  rcases h with rfl | rfl <;> cases xo <;> rfl
theorem useW_y (h : HrOk hr) : (UseW hr name xo yo tr fo wo ho io).lookup (Str.ofString "y") = yo := by
  rw [useW_lookup]
  rcases h with rfl | rfl <;> cases yo <;> rfl
theorem useW_w (h : HrOk hr) : (UseW hr name xo yo tr fo wo ho io).lookup (Str.ofString "width") = wo := by
  rw [useW_lookup]
  rcases h with rfl | rfl <;> cases wo <;> rfl
theorem useW_h (h : HrOk hr) : (UseW hr name xo yo tr fo wo ho io).lookup (Str.ofString "height") = ho := by
  rw [useW_lookup]
  rcases h with rfl | rfl <;> cases ho <;> rfl
theorem useW_id (h : HrOk hr) : (UseW hr name xo yo tr fo wo ho io).lookup (Str.ofString "id") = io := by
  rw [useW_lookup]
  rcases h with rfl | rfl <;> cases io <;> rfl
theorem useW_tr (h : HrOk hr) (ht : TrOk tr) : ((UseW hr name xo yo tr fo wo ho io).lookup (Str.ofString "transform")).getD (Str.ofString "") = tr := by
  rw [useW_lookup]
  rcases h with rfl | rfl <;> rcases ht with rfl | rfl <;> rfl
theorem useW_keys (h : HrOk hr) : ∀ p ∈ UseW hr name xo yo tr fo wo ho io, p.1 ∈ allWords := by
  unfold UseW
  refine putO_keys (P := fun k => k ∈ allWords) (putO_keys (P := fun k => k ∈ allWords) (putO_keys (P := fun k => k ∈ allWords) (putO_keys (P := fun k => k ∈ allWords) (putT_keys (P := fun k => k ∈ allWords) (putO_keys (P := fun k => k ∈ allWords) (putO_keys (P := fun k => k ∈ allWords) ?_ ?_) ?_) ?_) ?_) ?_) ?_) ?_
  · intro p hp
    rw [List.mem_singleton.mp hp]
    rcases h with rfl | rfl <;> (dsimp only; decide +kernel)
  all_goals decide +kernel
theorem putO_ne {as : List (Str × Str)} {k : Str} {o : Option Str} (h : as ≠ []) : putO as k o ≠ [] := by
  cases o with
  | none => exact h
  | some v =>
    show putA as k v ≠ []
    unfold putA
    split
    · exact fun e => h (List.map_eq_nil_iff.mp e)
    · simp
theorem putT_ne {as : List (Str × Str)} {tr : Str} (h : as ≠ []) : putT as tr ≠ [] := by
  unfold putT
  split
  · exact h
  · exact putO_ne (o := some tr) h
theorem useW_ne : UseW hr name xo yo tr fo wo ho io ≠ [] := by
  unfold UseW
  exact putO_ne (putO_ne (putO_ne (putO_ne (putT_ne (putO_ne (putO_ne (by simp)))))))
theorem useW_len : (UseW hr name xo yo tr fo wo ho io).length ≤ 30 := by
  unfold UseW
  have h1 := putO_len [(hr, Str.ofString "#" ++ name)] (Str.ofString "x") xo
  have h2 := putO_len (putO [(hr, Str.ofString "#" ++ name)] (Str.ofString "x") xo) (Str.ofString "y") yo
  have h3 := putT_len (putO (putO [(hr, Str.ofString "#" ++ name)] (Str.ofString "x") xo) (Str.ofString "y") yo) tr
  have h4 := putO_len (putT (putO (putO [(hr, Str.ofString "#" ++ name)] (Str.ofString "x") xo) (Str.ofString "y") yo) tr) (Str.ofString "fill") fo
  have h5 := putO_len (putO (putT (putO (putO [(hr, Str.ofString "#" ++ name)] (Str.ofString "x") xo) (Str.ofString "y") yo) tr) (Str.ofString "fill") fo) (Str.ofString "width") wo
  have h6 := putO_len (putO (putO (putT (putO (putO [(hr, Str.ofString "#" ++ name)] (Str.ofString "x") xo) (Str.ofString "y") yo) tr) (Str.ofString "fill") fo) (Str.ofString "width") wo) (Str.ofString "height") ho
  refine Nat.le_trans (putO_len _ _ _) ?_
  have h0 : [(hr, Str.ofString "#" ++ name)].length = 1 := rfl
  omega
theorem flt_hr (h : HrOk hr) {v : Str} : flt [(hr, v)] = [] := by
  rcases h with rfl | rfl
  · unfold flt; rw [List.filter_cons]; have : ownWords.contains (Str.ofString "href") = true := by decide +kernel
    simp only [this]; rfl
  · unfold flt; rw [List.filter_cons]; have : ownWords.contains (Str.ofString "xlink:href") = true := by decide +kernel
    simp only [this]; rfl
theorem useW_flt (h : HrOk hr) : flt (UseW hr name xo yo tr fo wo ho io) = putO [] (Str.ofString "fill") fo := by
  unfold UseW
  rw [flt_own_putO (by decide +kernel), flt_own_putO (by decide +kernel), flt_own_putO (by decide +kernel)]
  refine flt_fill ?_ ?_
  · rw [flt_own_putT, flt_own_putO (by decide +kernel), flt_own_putO (by decide +kernel)]
    exact flt_hr h
  · refine putT_keys (P := fun k => k ≠ Str.ofString "fill") (putO_keys (P := fun k => k ≠ Str.ofString "fill") (putO_keys (P := fun k => k ≠ Str.ofString "fill") ?_ (by decide)) (by decide)) (by decide)
    intro p hp
    rw [List.mem_singleton.mp hp]
    rcases h with rfl | rfl <;> (dsimp only; decide)
theorem useW_gw (h : HrOk hr) (ht : TrOk tr) : gwE (UseW hr name xo yo tr fo wo ho io) = UseD xo yo tr fo := by
  unfold gwE UseD
  rw [useW_flt h, useW_tr h ht, useW_x h, useW_y h]
theorem XOk.t4 {o : Option Str} (h : XOk o) : ∃ a b, T4 (o.getD (Str.ofString "0")) a b := by
  rcases h with rfl | rfl | rfl
  · exact ⟨_, _, .inl ⟨rfl, rfl, rfl⟩⟩
  · exact ⟨_, _, .inr (.inl ⟨rfl, rfl, rfl⟩)⟩
  · exact ⟨_, _, .inr (.inr (.inl ⟨rfl, rfl, rfl⟩))⟩
theorem YOk.t4 {o : Option Str} (h : YOk o) : ∃ a b, T4 (o.getD (Str.ofString "0")) a b := by
  rcases h with rfl | rfl | rfl
  · exact ⟨_, _, .inl ⟨rfl, rfl, rfl⟩⟩
  · exact ⟨_, _, .inr (.inr (.inr ⟨rfl, rfl, rfl⟩))⟩
  · exact ⟨_, _, .inl ⟨rfl, rfl, rfl⟩⟩
theorem useW_xy (h : HrOk hr) (hx : XOk xo) (hy : YOk yo) (ht : TrOk tr) : XyOk (UseW hr name xo yo tr fo wo ho io) := by
  refine ⟨useW_keys h, useW_ne, useW_len, ?_, ?_, ?_⟩
  · rw [useW_x h]; exact hx.t4
  · rw [useW_y h]; exact hy.t4
  · rw [useW_tr h ht]; exact ht
noncomputable def NmOk (n : Str) : Prop := n = Str.ofString "r" ∨ n = Str.ofString "k" ∨ n = Str.ofString "s"
theorem useW_link (h : HrOk hr) (hn : NmOk name) : linkE (UseW hr name xo yo tr fo wo ho io) = some (some name) := by
  unfold linkE
  rw [useW_lookup, useW_lookup]
  rcases h with rfl | rfl <;> rcases hn with rfl | rfl | rfl <;> rfl
end
noncomputable def shapeE : El := .mk (tS "rect") [(tS "id", tS "r"), (tS "width", tS "2")] [] (tS "")
noncomputable def textE : El := .mk (tS "text") [] [] (tS "t")
noncomputable def useE (W : List (Str × Str)) : El := .mk (tS "use") W [] (tS "")
noncomputable def groupSE (iW : List (Str × Str)) : El := .mk (tS "g") [(tS "id", tS "k")] [useE iW, textE] (tS "")
noncomputable def circleE : El := .mk (tS "circle") [(tS "r", tS "1")] [] (tS "")
noncomputable def symbolE : El := .mk (tS "symbol") [(tS "id", tS "s"), (tS "viewBox", tS "0 0 1 1")] [circleE] (tS "")
noncomputable def defsE (iW : List (Str × Str)) : El := .mk (tS "defs") [] [shapeE, groupSE iW, symbolE] (tS "")
noncomputable def rootE (iW W : List (Str × Str)) : El := .mk (tS "svg") [] [defsE iW, .mk (tS "g") [] [useE W] (tS "")] (tS "")
noncomputable def groupOE (iW : List (Str × Str)) : El := .mk (tS "g") [(tS "id", tS "k")] [.mk (tS "g") (gwE iW) [shapeE] (tS ""), textE] (tS "")
noncomputable def copyE (iW W : List (Str × Str)) (name : Str) : El := if name = tS "r" then shapeE else if name = tS "k" then groupOE iW else .mk (tS "svg") (fw W [(tS "id", tS "s"), (tS "viewBox", tS "0 0 1 1")]) [circleE] (tS "")
noncomputable def outE (iW W : List (Str × Str)) (name : Str) : El := .mk (tS "svg") [] [.mk (tS "defs") [] [shapeE, groupOE iW, symbolE] (tS ""), .mk (tS "g") [] [.mk (tS "g") (gwE W) [copyE iW W name] (tS "")] (tS "")] (tS "")
section
variable {ids : List (Str × El)} {most made m m' : Int} {n : Nat} {names : List Str} {name text nm : Str} {attrs : List (Str × Str)} {kids es : List El} {e e' inner target fe : El} {f : Int → El → Out}
theorem putE_node (hn : name ≠ tS "use") (hm : ¬ made + 1 > most) (h : putAll (fun m e => putE ids most n m names e) (made + 1) kids = .ok es m) : putE ids most (n + 1) made names (.mk name attrs kids text) = .ok (.mk name attrs es text) m := by
  k_with_none
  w_top off
  (k_with "an" => (first | assumption | exact And.left (by assumption) | exact And.left (And.right (by assumption)) | exact And.left (And.right (And.right (by assumption))) | exact And.left (And.right (And.right (And.right (by assumption)))) | exact And.left (And.right (And.right (And.right (And.right (by assumption))))) | exact And.left (And.right (And.right (And.right (And.right (And.right (by assumption)))))) | exact And.left (And.right (And.right (And.right (And.right (And.right (And.right (by assumption))))))) | exact And.left (And.right (And.right (And.right (And.right (And.right (And.right (And.right (by assumption)))))))) | exact And.left (And.right (And.right (And.right (And.right (And.right (And.right (And.right (And.right (by assumption)))))))))))
  (k_with "k_ne" => (refine neN ?_; (try dsimp only); first | (refine Nat.ne_of_lt ?_; k_extra "an") | (refine Nat.ne_of_gt ?_; k_extra "an")))
  (k_with "sub" => (first | assumption | (refine List.mem_append_left _ ?_; k_extra "sub") | (refine List.mem_append_right _ ?_; k_extra "sub") | (refine List.Mem.tail _ ?_; k_extra "sub")))
  (k_with "gn" => refine (let P9 : Prop := _; (?_ : P9)))
  rw [putE, if_neg hm, if_neg hn]
  show (match putAll (fun m e => putE ids most n m names e) (made + 1) kids with | .ok es m => _ | .limit m => _ | .sheet m => _ | .off => _) = _
  rw [h]
theorem putE_use (hm : ¬ made + 1 > most) (hl : linkE attrs = some (some nm)) (hid : ids.lookup nm = some target) (hn : ¬ (nm ∈ names ∨ 12 ≤ names.length)) (hf : framedE attrs target = some fe) (hx : XyOk attrs) (h : putE ids most n (made + 1) (names ++ [nm]) fe = .ok inner m) :
    putE ids most (n + 1) made names (.mk (tS "use") attrs kids text) = .ok (.mk (tS "g") (gwE attrs) [inner] (tS "")) m := by
  rw [putE, if_neg hm, if_pos rfl]
  simp only [groupE, hl, hid, if_neg hn, hf, h, if_pos hx]
theorem putAll_nil : putAll f made [] = .ok [] made := rfl
theorem putAll_cons (h1 : f made e = .ok e' m) (h2 : putAll f m kids = .ok es m') : putAll f made (e :: kids) = .ok (e' :: es) m' := by
  simp only [putAll, h1, h2]
end
theorem idStep_none (acc : List (Str × El)) {W : List (Str × Str)} (h : W.lookup (tS "id") = none) : idStep acc (useE W) = acc := by
  unfold useE idStep
  dsimp only
  rw [h]
theorem idStep_some (acc : List (Str × El)) {W : List (Str × Str)} {i : Str} (h : W.lookup (tS "id") = some i) : idStep acc (useE W) = (match acc.lookup i with | some _ => acc | none => acc ++ [(i, useE W)]) := by
  unfold useE idStep
  dsimp only
  rw [h] <;> rfl
theorem ids_root (iW W : List (Str × Str)) (hi : IoOk (iW.lookup (tS "id"))) (ho : IoOk (W.lookup (tS "id"))) : (idsE (allE (rootE iW W))).lookup (tS "r") = some shapeE ∧ (idsE (allE (rootE iW W))).lookup (tS "k") = some (groupSE iW) ∧ (idsE (allE (rootE iW W))).lookup (tS "s") = some symbolE := by
  have e : allE (rootE iW W) = [rootE iW W, defsE iW, shapeE, groupSE iW, useE iW, textE, symbolE, circleE, .mk (tS "g") [] [useE W] (tS ""), useE W] := by
    simp only [rootE, defsE, shapeE, groupSE, useE, textE, symbolE, circleE, allE, allEs, List.cons_append, List.nil_append, List.append_nil]
  rw [e]
  rcases hi with hi | hi <;> rcases ho with ho | ho
  all_goals
    unfold idsE
    simp only [List.foldl_cons, List.foldl_nil]
    first | rw [idStep_none _ hi] | rw [idStep_some _ hi]
    first | rw [idStep_none _ ho] | rw [idStep_some _ ho]
    exact ⟨rfl, rfl, rfl⟩
theorem root_put {iW iD W D : List (Str × Str)} {name : Str} (hn : NmOk name) (hI : UseOk (tS "r") iW iD) (hO : UseOk name W D) : ∃ m, putE (idsE (allE (rootE iW W))) 2000 8 0 [] (rootE iW W) = .ok (outE iW W name) m := by
  k_extra "gn"; (obtain ⟨hr1, xo1, yo1, tr1, fo1, wo1, ho1, io1, a1, a2, a3, a4, a5, a6, a7, a8, rfl, rfl⟩ := hI) <;> k_unfold
  k_extra "gn"; (obtain ⟨hr2, xo2, yo2, tr2, fo2, wo2, ho2, io2, b1, b2, b3, b4, b5, b6, b7, b8, rfl, rfl⟩ := hO) <;> k_unfold
  obtain ⟨i1, i2, i3⟩ := ids_root (UseW hr1 (tS "r") xo1 yo1 tr1 fo1 wo1 ho1 io1) (UseW hr2 name xo2 yo2 tr2 fo2 wo2 ho2 io2) (by rw [useW_id a1]; exact a8) (by rw [useW_id b1]; exact b8)
  have l1 := useW_link (xo := xo1) (yo := yo1) (tr := tr1) (fo := fo1) (wo := wo1) (ho := ho1) (io := io1) a1 (.inl rfl : NmOk (tS "r"))
  have l2 := useW_link (xo := xo2) (yo := yo2) (tr := tr2) (fo := fo2) (wo := wo2) (ho := ho2) (io := io2) b1 hn
  have y1 := useW_xy (name := tS "r") (fo := fo1) (wo := wo1) (ho := ho1) (io := io1) a1 a2 a3 a4
  have y2 := useW_xy (name := name) (fo := fo2) (wo := wo2) (ho := ho2) (io := io2) b1 b2 b3 b4
  generalize hi : UseW hr1 (tS "r") xo1 yo1 tr1 fo1 wo1 ho1 io1 = iW at *
  generalize ho : UseW hr2 name xo2 yo2 tr2 fo2 wo2 ho2 io2 = W at *
  clear hi ho
  have shape : ∀ n made names, ¬ made + 1 > (2000 : Int) → putE (idsE (allE (rootE iW W))) 2000 (n + 1) made names shapeE = .ok shapeE (made + 1) := fun n made names h => putE_node (by decide) h putAll_nil
  have grp : ∀ n made names, made + 4 ≤ (2000 : Int) → names.length < 12 → tS "r" ∉ names → putE (idsE (allE (rootE iW W))) 2000 (n + 3) made names (groupSE iW) = .ok (groupOE iW) (made + 4) := fun n made names h hl hn =>
    putE_node (by decide) (by omega) (putAll_cons (putE_use (by omega) l1 i1 (by rintro (h | h); exact hn h; omega) rfl y1 (shape n (made + 1 + 1) _ (by omega))) (putAll_cons (e' := textE) (m := made + 4) (by
      have := putE_node (ids := idsE (allE (rootE iW W))) (most := 2000) (made := made + 1 + 1 + 1) (n := n + 1) (names := names) (name := tS "text") (attrs := []) (text := tS "t") (kids := []) (by decide) (by omega) putAll_nil
      rw [show made + 4 = made + 1 + 1 + 1 + 1 by omega]; exact this) putAll_nil))
  have circ : ∀ n made names, ¬ made + 1 > (2000 : Int) → putE (idsE (allE (rootE iW W))) 2000 (n + 1) made names circleE = .ok circleE (made + 1) := fun n made names h => putE_node (by decide) h putAll_nil
  have cpy : ∃ m, putE (idsE (allE (rootE iW W))) 2000 6 (9 + 1) [] (useE W) = .ok (.mk (tS "g") (gwE W) [copyE iW W name] (tS "")) m := by
    rcases hn with rfl | rfl | rfl
    · exact ⟨_, putE_use (by decide) l2 i1 (by decide) rfl y2 (shape _ _ _ (by decide))⟩
    · exact ⟨_, putE_use (by decide) l2 i2 (by decide) rfl y2 (grp _ _ _ (by decide) (by decide) (by decide))⟩
    · exact ⟨_, putE_use (by decide) l2 i3 (by decide) (by unfold framedE symbolE; rfl) y2 (putE_node (by decide) (by decide) (putAll_cons (circ _ _ _ (by decide)) putAll_nil))⟩
  obtain ⟨m, hm⟩ := cpy
  have defs : putE (idsE (allE (rootE iW W))) 2000 7 1 [] (defsE iW) = .ok (.mk (tS "defs") [] [shapeE, groupOE iW, symbolE] (tS "")) 9 :=
    putE_node (by decide) (by decide) (putAll_cons (shape _ _ _ (by decide)) (putAll_cons (grp _ _ _ (by decide) (by decide) (by decide)) (putAll_cons (e' := symbolE) (m := 9) (putE_node (by decide) (by decide) (putAll_cons (circ _ _ _ (by decide)) putAll_nil)) putAll_nil)))
  exact ⟨m, putE_node (by decide) (by decide) (putAll_cons defs (putAll_cons (putE_node (by decide) (by decide) (putAll_cons hm putAll_nil)) putAll_nil))⟩
mutual
noncomputable def rowD : Row → PyData
  | .mk name words kids text => .list [.str name, .list (words.map PyData.str), .list (rowsD kids), .str text]
noncomputable def rowsD : List Row → List PyData
  | [] => []
  | r :: rs => rowD r :: rowsD rs
end
theorem reads_strs {h : Heap} : ∀ {vs : List Value} {ws : List Str}, StrsAre vs ws → ReadsAll h vs (ws.map PyData.str) []
  | _, _, .nil => .nil
  | _, _, .cons x t r => ReadsAll.cons (.str x t) (reads_strs r)
mutual
theorem reads_row {G : Addr → Obj → Prop} {h : Heap} (hG : ∀ a o, G a o → h.get? a = some o) : ∀ {v : Value} {r : Row}, RowOf G v r → ∃ as, Reads h v (rowD r) as
  | _, _, .mk a b c d e => by
    obtain ⟨bs, hb⟩ := reads_rows hG e
    rw [rowD]
    exact ⟨_, .list (hG _ _ a) rfl rfl (.cons (.str _ _) (.cons (.list (hG _ _ b) rfl rfl (by simpa using reads_strs c)) (.cons (.list (hG _ _ d) rfl rfl (by simpa using hb)) (.cons (.str _ _) .nil))))⟩
theorem reads_rows {G : Addr → Obj → Prop} {h : Heap} (hG : ∀ a o, G a o → h.get? a = some o) : ∀ {vs : List Value} {rs : List Row}, RowsOf G vs rs → ∃ as, ReadsAll h vs (rowsD rs) as
  | _, _, .nil => ⟨[], .nil⟩
  | _, _, .cons a b => by
    obtain ⟨as, ha⟩ := reads_row hG a
    obtain ⟨bs, hb⟩ := reads_rows hG b
    exact ⟨_, .cons ha hb⟩
end
noncomputable def okS (x : Str) : Bool := PySem.PyData.strOk x
mutual
noncomputable def okE : El → Prop
  | .mk n a k t => okS n = true ∧ okS t = true ∧ (∀ p ∈ a, okS p.1 = true ∧ okS p.2 = true) ∧ okEs k
noncomputable def okEs : List El → Prop
  | [] => True
  | e :: es => okE e ∧ okEs es
end
theorem okS_append {a b : Str} (ha : okS a = true) (hb : okS b = true) : okS (a ++ b) = true := by
  k_with_none
  w_top off
  (k_with "an" => (first | assumption | exact And.left (by assumption) | exact And.left (And.right (by assumption)) | exact And.left (And.right (And.right (by assumption))) | exact And.left (And.right (And.right (And.right (by assumption)))) | exact And.left (And.right (And.right (And.right (And.right (by assumption))))) | exact And.left (And.right (And.right (And.right (And.right (And.right (by assumption)))))) | exact And.left (And.right (And.right (And.right (And.right (And.right (And.right (by assumption))))))) | exact And.left (And.right (And.right (And.right (And.right (And.right (And.right (And.right (by assumption)))))))) | exact And.left (And.right (And.right (And.right (And.right (And.right (And.right (And.right (And.right (by assumption)))))))))))
  (k_with "k_ne" => (refine neN ?_; (try dsimp only); first | (refine Nat.ne_of_lt ?_; k_extra "an") | (refine Nat.ne_of_gt ?_; k_extra "an")))
  (k_with "sub" => (first | assumption | (refine List.mem_append_left _ ?_; k_extra "sub") | (refine List.mem_append_right _ ?_; k_extra "sub") | (refine List.Mem.tail _ ?_; k_extra "sub")))
  (k_with "gn" => refine (let P9 : Prop := _; (?_ : P9)))
  unfold okS PySem.PyData.strOk at *
  simp only [Str.cps_append, Array.all_append, ha, hb, Bool.and_self]
theorem okS_word {p : Str × Str} (h : okS p.1 = true ∧ okS p.2 = true) : okS (wordOf p) = true := okS_append (okS_append h.1 (by decide +kernel)) h.2
theorem sortS_perm (l : List Str) : (sortS l).Perm l := by
  unfold sortS
  split
  · rename_i h; exact h.choose_spec.1
  · exact .refl _
theorem lay_strs : ∀ {ws : List Str}, (∀ x ∈ ws, okS x = true) → PyData.canLayAll0 (ws.map PyData.str) = true
  | [], _ => rfl
  | x :: ws, h => by
    rw [List.map_cons, PyData.canLayAll0, PyData.canLay0, lay_strs fun y hy => h y (.tail _ hy), Bool.and_true]
    exact h x (.head _)
theorem dep_strs : ∀ {ws : List Str}, PyData.depthAll (ws.map PyData.str) = 0
  | [] => rfl
  | x :: ws => by
    rw [List.map_cons, PyData.depthAll, PyData.depth, dep_strs]; rfl
mutual
theorem lay_row : ∀ {e : El}, okE e → (rowD (rowOf e)).canLay0 = true
  | .mk n a k t, h => by
    k_extra "gn"; (obtain ⟨h1, h2, h3, h4⟩ := h) <;> k_unfold
    rw [rowOf, rowD, PyData.canLay0, PyData.canLayAll0, PyData.canLayAll0, PyData.canLayAll0, PyData.canLayAll0, PyData.canLayAll0, PyData.canLay0, PyData.canLay0, PyData.canLay0, PyData.canLay0]
    rw [lay_rows h4, lay_strs (fun x hx => ?_), Bool.true_and, Bool.true_and, Bool.and_true]
    · exact Bool.and_eq_true_iff.mpr ⟨h1, h2⟩
    · obtain ⟨p, hp, rfl⟩ := List.mem_map.mp ((sortS_perm _).mem_iff.mp hx)
      exact okS_word (h3 p hp)
theorem lay_rows : ∀ {es : List El}, okEs es → PyData.canLayAll0 (rowsD (rowsOf es)) = true
  | [], _ => rfl
  | e :: es, h => by rw [rowsOf, rowsD, PyData.canLayAll0, lay_row h.1, lay_rows h.2]; rfl
end
mutual
theorem dep_row : ∀ (e : El), (rowD (rowOf e)).depth ≤ 2 * El.size e
  | .mk n a k t => by
    have h := dep_rows k
    rw [rowOf, rowD, PyData.depth, PyData.depthAll, PyData.depthAll, PyData.depthAll, PyData.depthAll, PyData.depthAll, PyData.depth, PyData.depth, PyData.depth, PyData.depth, dep_strs]
    rw [El.size]
    omega
theorem dep_rows : ∀ (es : List El), PyData.depthAll (rowsD (rowsOf es)) ≤ 2 * sizes es
  | [] => Nat.le_refl _
  | e :: es => by
    have h1 := dep_row e
    have h2 := dep_rows es
    rw [rowsOf, rowsD, PyData.depthAll, sizes]
    omega
end
theorem shaped_row {e : El} (h : okE e) (hz : El.size e ≤ 32) : PySem.SeqAt.shaped (rowD (rowOf e)) = true := by
  unfold PySem.SeqAt.shaped
  rw [lay_row h, Bool.true_and]
  exact decide_eq_true (by have := dep_row e; omega)
theorem okA_put {as : List (Str × Str)} {k v : Str} (h : ∀ p ∈ as, okS p.1 = true ∧ okS p.2 = true) (hk : okS k = true) (hv : okS v = true) : ∀ p ∈ putA as k v, okS p.1 = true ∧ okS p.2 = true := by
  intro p hp
  unfold putA at hp
  split at hp
  · obtain ⟨q, hq, rfl⟩ := List.mem_map.mp hp
    by_cases e : q.1 = k
    · rw [if_pos e]; exact ⟨(h q hq).1, hv⟩
    · rw [if_neg e]; exact h q hq
  · rcases List.mem_append.mp hp with hp | hp
    · exact h p hp
    · rw [List.mem_singleton.mp hp]; exact ⟨hk, hv⟩
theorem okA_putO {as : List (Str × Str)} {k : Str} {o : Option Str} (h : ∀ p ∈ as, okS p.1 = true ∧ okS p.2 = true) (hk : okS k = true) (hv : ∀ v, o = some v → okS v = true) : ∀ p ∈ putO as k o, okS p.1 = true ∧ okS p.2 = true := by
  cases o with
  | none => exact h
  | some v => exact okA_put h hk (hv v rfl)
theorem okA_putT {as : List (Str × Str)} {tr : Str} (h : ∀ p ∈ as, okS p.1 = true ∧ okS p.2 = true) (hv : okS tr = true) : ∀ p ∈ putT as tr, okS p.1 = true ∧ okS p.2 = true := by
  unfold putT
  split
  · exact h
  · exact okA_put h (by decide +kernel) hv
theorem XOk.ok {o : Option Str} (h : XOk o) : ∀ v, o = some v → okS v = true := by
  intro v e
  subst e
  rcases h with h | h | h <;> cases h <;> decide +kernel
theorem YOk.ok {o : Option Str} (h : YOk o) : ∀ v, o = some v → okS v = true := by
  intro v e
  subst e
  rcases h with h | h | h <;> cases h <;> decide +kernel
theorem two_ok {x : Str} (hx : okS x = true) {o : Option Str} (h : o = none ∨ o = some x) : ∀ v, o = some v → okS v = true := by
  intro v e
  subst e
  rcases h with h | h
  · cases h
  · cases h; exact hx
theorem useW_ok {hr name : Str} {xo yo : Option Str} {tr : Str} {fo wo ho io : Option Str} (h1 : HrOk hr) (h2 : XOk xo) (h3 : YOk yo) (h4 : TrOk tr) (h5 : FoOk fo) (h6 : WoOk wo) (h7 : HoOk ho) (h8 : IoOk io) (hn : okS name = true) : ∀ p ∈ UseW hr name xo yo tr fo wo ho io, okS p.1 = true ∧ okS p.2 = true := by
  unfold UseW
  refine okA_putO (okA_putO (okA_putO (okA_putO (okA_putT (okA_putO (okA_putO ?_ (by decide +kernel) h2.ok) (by decide +kernel) h3.ok) ?_) (by decide +kernel) (two_ok (by decide +kernel) h5)) (by decide +kernel) (two_ok (by decide +kernel) h6)) (by decide +kernel) (two_ok (by decide +kernel) h7)) (by decide +kernel) (two_ok (by decide +kernel) h8)
  · intro p hp
    rw [List.mem_singleton.mp hp]
    exact ⟨by rcases h1 with rfl | rfl <;> (dsimp only; decide +kernel), okS_append (by decide +kernel) hn⟩
  · rcases h4 with rfl | rfl <;> decide +kernel
theorem tr_ok {xo yo : Option Str} {tr : Str} (hx : XOk xo) (hy : YOk yo) (ht : TrOk tr) : okS (trOf tr (xo.getD (Str.ofString "0")) (yo.getD (Str.ofString "0"))) = true := by rcases hx with rfl | rfl | rfl <;> rcases hy with rfl | rfl | rfl <;> rcases ht with rfl | rfl <;> decide +kernel
theorem useD_ok {xo yo : Option Str} {tr : Str} {fo : Option Str} (h2 : XOk xo) (h3 : YOk yo) (h4 : TrOk tr) (h5 : FoOk fo) : ∀ p ∈ UseD xo yo tr fo, okS p.1 = true ∧ okS p.2 = true := by
  unfold UseD
  exact okA_put (okA_putO (fun _ h => nomatch h) (by decide +kernel) (two_ok (by decide +kernel) h5)) (by decide +kernel) (tr_ok h2 h3 h4)
noncomputable def gRow (D : List (Str × Str)) (r : Row) : Row := .mk (tS "g") (sortS (D.map wordOf)) [r] (tS "")
noncomputable def grpRow (iD : List (Str × Str)) : Row := .mk (tS "g") [tS "id=k"] [gRow iD (rowOf shapeE), .mk (tS "text") [] [] (tS "t")] (tS "")
noncomputable def symRow (W : List (Str × Str)) : Row := .mk (tS "svg") [tS "height=" ++ (W.lookup (tS "height")).getD (tS "100%"), tS "id=s", tS "viewBox=0 0 1 1", tS "width=" ++ (W.lookup (tS "width")).getD (tS "100%")] [.mk (tS "circle") [tS "r=1"] [] (tS "")] (tS "")
noncomputable def cpyRow (iD W : List (Str × Str)) (name : Str) : Row := if name = tS "r" then rowOf shapeE else if name = tS "k" then grpRow iD else symRow W
noncomputable def expRow (iD W D : List (Str × Str)) (name : Str) : Row := .mk (tS "svg") [] [.mk (tS "defs") [] [rowOf shapeE, grpRow iD, rowOf symbolE] (tS ""), .mk (tS "g") [] [gRow D (cpyRow iD W name)] (tS "")] (tS "")
theorem sort_nil : sortS (([] : List (Str × Str)).map wordOf) = [] := sortS_eq .nil rfl
theorem sort_k : sortS (([(tS "id", tS "k")] : List (Str × Str)).map wordOf) = [tS "id=k"] := sortS_eq (.of_eq (by decide +kernel)) (by decide +kernel)
theorem sort_r1 : sortS (([(tS "r", tS "1")] : List (Str × Str)).map wordOf) = [tS "r=1"] := sortS_eq (.of_eq (by decide +kernel)) (by decide +kernel)
theorem sort_sym {W : List (Str × Str)} (hw : WoOk (W.lookup (tS "width"))) (hh : HoOk (W.lookup (tS "height"))) : sortS ((fw W [(tS "id", tS "s"), (tS "viewBox", tS "0 0 1 1")]).map wordOf) = [tS "height=" ++ (W.lookup (tS "height")).getD (tS "100%"), tS "id=s", tS "viewBox=0 0 1 1", tS "width=" ++ (W.lookup (tS "width")).getD (tS "100%")] := by
  unfold fw
  generalize W.lookup (tS "width") = wo at *
  generalize W.lookup (tS "height") = ho at *
  rcases hw with rfl | rfl <;> rcases hh with rfl | rfl
  all_goals exact sortS_eq (by decide +kernel) (by decide +kernel)
theorem row_out {iW iD W D : List (Str × Str)} {name : Str} (hn : NmOk name) (hI : UseOk (tS "r") iW iD) (hO : UseOk name W D) : rowOf (outE iW W name) = expRow iD W D name := by
  k_extra "gn"; (obtain ⟨hr1, xo1, yo1, tr1, fo1, wo1, ho1, io1, a1, a2, a3, a4, a5, a6, a7, a8, rfl, rfl⟩ := hI) <;> k_unfold
  k_extra "gn"; (obtain ⟨hr2, xo2, yo2, tr2, fo2, wo2, ho2, io2, b1, b2, b3, b4, b5, b6, b7, b8, rfl, rfl⟩ := hO) <;> k_unfold
  have hw := b6
  have hh := b7
  rw [← useW_w (name := name) (xo := xo2) (yo := yo2) (tr := tr2) (fo := fo2) (wo := wo2) (ho := ho2) (io := io2) b1] at hw
  rw [← useW_h (name := name) (xo := xo2) (yo := yo2) (tr := tr2) (fo := fo2) (wo := wo2) (ho := ho2) (io := io2) b1] at hh
  have hs := sort_sym hw hh
  unfold outE expRow gRow cpyRow copyE
  simp only [rowOf, rowsOf, sort_nil, groupOE, grpRow, gRow, textE, sort_k, useW_gw a1 a4, useW_gw b1 b4]
  rcases hn with rfl | rfl | rfl
  · rfl
  · rw [if_neg (by decide), if_pos rfl, if_neg (by decide), if_pos rfl]
    simp only [rowOf, rowsOf, sort_nil, groupOE, grpRow, gRow, textE, sort_k, useW_gw a1 a4]
  · rw [if_neg (by decide), if_neg (by decide), if_neg (by decide), if_neg (by decide)]
    simp only [rowOf, rowsOf, hs, symRow, circleE, sort_r1]
theorem nm_ok {n : Str} (h : NmOk n) : okS n = true ∧ n.length ≤ 10 := by rcases h with rfl | rfl | rfl <;> decide +kernel
theorem use_ok {n : Str} {W D : List (Str × Str)} (hn : NmOk n) (h : UseOk n W D) : (∀ p ∈ W, okS p.1 = true ∧ okS p.2 = true) ∧ (∀ p ∈ gwE W, okS p.1 = true ∧ okS p.2 = true) ∧ (∀ p ∈ fw W [(tS "id", tS "s"), (tS "viewBox", tS "0 0 1 1")], okS p.1 = true ∧ okS p.2 = true) := by
  k_extra "gn"; (obtain ⟨hr1, xo1, yo1, tr1, fo1, wo1, ho1, io1, a1, a2, a3, a4, a5, a6, a7, a8, rfl, rfl⟩ := h) <;> k_unfold
  refine ⟨useW_ok a1 a2 a3 a4 a5 a6 a7 a8 (nm_ok hn).1, by rw [useW_gw a1 a4]; exact useD_ok a2 a3 a4 a5, ?_⟩
  unfold fw
  rw [useW_w a1, useW_h a1]
  refine okA_put (okA_put ?_ (by decide +kernel) ?_) (by decide +kernel) ?_
  · decide +kernel
  · rcases a6 with rfl | rfl <;> decide +kernel
  · rcases a7 with rfl | rfl <;> decide +kernel
theorem okA_nil : ∀ p ∈ ([] : List (Str × Str)), okS p.1 = true ∧ okS p.2 = true := fun _ h => nomatch h
theorem shape_ok : okE shapeE := ⟨by decide +kernel, by decide +kernel, by decide +kernel, trivial⟩
theorem text_ok : okE textE := ⟨by decide +kernel, by decide +kernel, by decide +kernel, trivial⟩
theorem circle_ok : okE circleE := ⟨by decide +kernel, by decide +kernel, by decide +kernel, trivial⟩
theorem symbol_ok : okE symbolE := ⟨by decide +kernel, by decide +kernel, by decide +kernel, circle_ok, trivial⟩
theorem root_ok {iW iD W D : List (Str × Str)} {name : Str} (hn : NmOk name) (hI : UseOk (tS "r") iW iD) (hO : UseOk name W D) : okE (rootE iW W) :=
  ⟨by decide +kernel, by decide +kernel, okA_nil, ⟨by decide +kernel, by decide +kernel, okA_nil, shape_ok, ⟨by decide +kernel, by decide +kernel, by decide +kernel, ⟨by decide +kernel, by decide +kernel, (use_ok (.inl rfl) hI).1, trivial⟩, text_ok, trivial⟩, symbol_ok, trivial⟩, ⟨by decide +kernel, by decide +kernel, okA_nil, ⟨by decide +kernel, by decide +kernel, (use_ok hn hO).1, trivial⟩, trivial⟩, trivial⟩
theorem grp_ok {iW iD : List (Str × Str)} (hI : UseOk (tS "r") iW iD) : okE (groupOE iW) :=
  ⟨by decide +kernel, by decide +kernel, by decide +kernel, ⟨by decide +kernel, by decide +kernel, (use_ok (.inl rfl) hI).2.1, shape_ok, trivial⟩, text_ok, trivial⟩
theorem copy_ok {iW iD W D : List (Str × Str)} {name : Str} (hn : NmOk name) (hI : UseOk (tS "r") iW iD) (hO : UseOk name W D) : okE (copyE iW W name) ∧ El.size (copyE iW W name) ≤ 4 := by
  unfold copyE
  split
  · exact ⟨shape_ok, by show 1 ≤ 4; decide⟩
  · split
    · exact ⟨grp_ok hI, by show 4 ≤ 4; decide⟩
    · exact ⟨⟨by decide +kernel, by decide +kernel, (use_ok hn hO).2.2, circle_ok, trivial⟩, by show 2 ≤ 4; decide⟩
theorem out_ok {iW iD W D : List (Str × Str)} {name : Str} (hn : NmOk name) (hI : UseOk (tS "r") iW iD) (hO : UseOk name W D) : okE (outE iW W name) ∧ El.size (outE iW W name) ≤ 20 := by
  obtain ⟨h1, h2⟩ := copy_ok hn hI hO
  refine ⟨⟨by decide +kernel, by decide +kernel, okA_nil, ⟨by decide +kernel, by decide +kernel, okA_nil, shape_ok, grp_ok hI, symbol_ok, trivial⟩, ⟨by decide +kernel, by decide +kernel, okA_nil, ⟨by decide +kernel, by decide +kernel, (use_ok hn hO).2.1, h1, trivial⟩, trivial⟩, trivial⟩, ?_⟩
  simp only [outE, El.size, sizes, shapeE, groupOE, symbolE, circleE, textE]
  omega
theorem exp_shaped {iW iD W D : List (Str × Str)} {name : Str} (hn : NmOk name) (hI : UseOk (tS "r") iW iD) (hO : UseOk name W D) : PySem.SeqAt.shaped (rowD (expRow iD W D name)) = true := by
  rw [← row_out hn hI hO]
  exact shaped_row (out_ok hn hI hO).1 (Nat.le_trans (out_ok hn hI hO).2 (by decide))
theorem root_shaped {iW iD W D : List (Str × Str)} {name : Str} (hn : NmOk name) (hI : UseOk (tS "r") iW iD) (hO : UseOk name W D) : PySem.SeqAt.shaped (rowD (rowOf (rootE iW W))) = true :=
  shaped_row (root_ok hn hI hO) (by show 10 ≤ 32; decide)
theorem row_self {r : Row} (h : PySem.SeqAt.shaped (rowD r) = true) : PyData.eqv (rowD r) (rowD r) = true := PySem.SeqAt.eqv_refl _ (PySem.SeqAt.canLay_of_shaped h)
theorem row_ne {w : World} {A : Around} {E : Value → Shared → Prop} {s : Shared} {a b : Value} {r : Row} {G : Addr → Obj → Prop} {Q : Value → Shared → Prop} (hG : ∀ a o, G a o → s.heap.get? a = some o) (ha : RowOf G a r) (hb : RowOf G b r) (hs : PySem.SeqAt.shaped (rowD r) = true) (hu : A.units + 64 < cLine) (h : Q (.bool false) s) : wpAny (model PG w) A (compareOp .NotEq a b) Q E s := by
  obtain ⟨_, h1⟩ := reads_row hG ha
  obtain ⟨_, h2⟩ := reads_row hG hb
  exact ne_dataH h1 h2 hs hs hu (by rw [row_self hs]; exact h)
theorem row_eq {w : World} {A : Around} {E : Value → Shared → Prop} {s : Shared} {a b : Value} {r : Row} {G : Addr → Obj → Prop} {Q : Value → Shared → Prop} (hG : ∀ a o, G a o → s.heap.get? a = some o) (ha : RowOf G a r) (hb : RowOf G b r) (hs : PySem.SeqAt.shaped (rowD r) = true) (hu : A.units + 64 < cLine) (h : Q (.bool true) s) : wpAny (model PG w) A (compareOp .Eq a b) Q E s := by
  obtain ⟨_, h1⟩ := reads_row hG ha
  obtain ⟨_, h2⟩ := reads_row hG hb
  exact eq_dataH h1 h2 hs hs hu (by rw [row_self hs]; exact h)
theorem sd_up {w : World} {g h : Heap} {L d : Addr} {tl news : List (Addr × Obj)} {as : List (Str × Str)} (D : SDict w (LG tl) d as) (N : News g L h news) (hs : ∀ q ∈ tl, q ∈ news) : SDict w (HG h) d as := D.mono fun a o q => (N _ (hs _ q)).1
theorem el_up {w : World} {g h : Heap} {L : Addr} {tl news : List (Addr × Obj)} {v : Value} {e : El} (D : ElOf w (LG tl) v e) (N : News g L h news) (hs : ∀ q ∈ tl, q ∈ news) : ElOf w (HG h) v e := D.mono fun a o q => (N _ (hs _ q)).1
theorem len63 {vs : List Value} {ns : List Int} (h : IntsAre vs ns) (hc : ¬ (((63 : Nat) : Int) < (ns.length : Int))) : vs.length ≤ 63 := by
  k_with_none
  w_top off
  (k_with "an" => (first | assumption | exact And.left (by assumption) | exact And.left (And.right (by assumption)) | exact And.left (And.right (And.right (by assumption))) | exact And.left (And.right (And.right (And.right (by assumption)))) | exact And.left (And.right (And.right (And.right (And.right (by assumption))))) | exact And.left (And.right (And.right (And.right (And.right (And.right (by assumption)))))) | exact And.left (And.right (And.right (And.right (And.right (And.right (And.right (by assumption))))))) | exact And.left (And.right (And.right (And.right (And.right (And.right (And.right (And.right (by assumption)))))))) | exact And.left (And.right (And.right (And.right (And.right (And.right (And.right (And.right (And.right (by assumption)))))))))))
  (k_with "k_ne" => (refine neN ?_; (try dsimp only); first | (refine Nat.ne_of_lt ?_; k_extra "an") | (refine Nat.ne_of_gt ?_; k_extra "an")))
  (k_with "sub" => (first | assumption | (refine List.mem_append_left _ ?_; k_extra "sub") | (refine List.mem_append_right _ ?_; k_extra "sub") | (refine List.Mem.tail _ ?_; k_extra "sub")))
  (k_with "rm" => (first | exact room_of 1 rfl (by assumption) rfl | exact room_of 0 rfl (by assumption) rfl | exact room_of1 1 rfl (by assumption) rfl | exact room_of1 0 rfl (by assumption) rfl | ktr_room))
  (k_with "un" => (first | exact units_of 3 rfl (by assumption) rfl | exact units_of 4 rfl (by assumption) rfl | exact units_of 0 rfl (by assumption) rfl | ktr_units))
  (k_with "gn" => refine (let P9 : Prop := _; (?_ : P9)))
  (k_with "D" => try ((with_reducible show wpAny _ _ _ _ _ (Shared.mk (Shared.heap _) _ _ _ _)); dsimp only))
  (k_with "E0" => ((case F => k_asm); (case V => first | assumption | exact ⟨rfl, rfl, rfl⟩)))
  (k_with "E" => (k_extra "E0"; (case e => exact rfl)))
  (k_with "S" => (intro h'8q tk'8q F'8q N'8q; (try k_sweep)))
  (k_with "A" => (intro l'8q h'8q F'8q N'8q l18q; (try k_lt l18q); (try k_sweep)))
  (k_with "spliced" => (k_here; k_extra "D"; k_dflt (first | ((with_reducible refine' s_args ?V ?F ?e ?_); k_extra "E"; k_whole; (try dsimp only [List.cons_append, List.nil_append])))))
  (k_with "evalPairs" => (k_here; k_extra "D"; k_dflt (first | ((with_reducible refine' s_pair ?V ?F ?e ?f ?_); k_extra "E"; (case f => exact rfl); k_whole))))
  (k_with "eval BinOp" => (k_here; k_extra "D"; k_dflt (first | ((with_reducible refine' s_bin ?V ?F ?e ?f ?_); k_extra "E"; (case f => exact rfl); k_whole) | ((with_reducible refine' s_binL ?V ?F ?e ?_); k_extra "E"; k_whole))))
  (k_with "isTrue Compare" => (k_here; k_extra "D"; k_dflt (first | ((with_reducible refine' s_cmp ?V ?F ?e ?f ?h ?_); k_extra "E"; (case f => exact rfl); (case h => with_unfolding_all rfl); k_whole) | ((with_reducible refine' s_cmpL ?V ?F ?e ?h ?_); k_extra "E"; (case h => with_unfolding_all rfl); k_whole))))
  (k_with "eval Subscript" => (k_here; k_extra "D"; k_dflt (first | ((with_reducible refine' s_sub ?V ?F ?e ?f ?_); k_extra "E"; (case f => exact rfl); k_whole) | ((with_reducible refine' s_subL ?V ?F ?e ?_); k_extra "E"; k_whole))))
  (k_with "eval List" => (k_here; k_extra "D"; k_dflt (first | ((with_reducible refine' s_list ?V ?F ?e ?_); k_extra "E"; k_whole))))
  (k_with "eval Tuple" => (k_here; k_extra "D"; k_dflt (first | ((with_reducible refine' s_tuple ?V ?F ?e ?_); k_extra "E"; k_whole))))
  (k_with "exec Return some" => (k_here; k_extra "D"; k_dflt (first | ((with_reducible refine' s_ret ?V ?F ?e ?_); k_extra "E"; k_whole))))
  (k_with "eval Attribute Name" => (k_here; k_extra "D"; k_dflt (first | ((with_reducible refine' s_attr ?V ?F ?e ?_ ?h); k_extra "E"; (case h => with_unfolding_all rfl); k_whole))))
  (k_with "storeName" => (k_here; k_extra "D"; k_dflt (first | ((with_reducible refine' c_store ?V ?F ?N ?x ?_); k_extra "E0"; (case N => k_asm); (case x => exact rfl); k_whole; k_extra "S"))))
  (k_with "newList" => (k_here; k_extra "D"; k_dflt (first | ((with_reducible refine' c_newList ?F ?N ?_ ?z); (case F => k_asm); (case N => k_asm); (case z => size_fits); k_extra "A"))))
  (k_with "newTuple" => (k_here; k_extra "D"; k_dflt (first | ((with_reducible refine' c_newTuple ?F ?N ?_ ?z); (case F => k_asm); (case N => k_asm); (case z => kmk_size); k_extra "A"))))
  (k_with "binaryOp Mult int int" => (k_here; k_extra "D"; k_dflt (first | ((with_reducible refine' c_mul ?_ ?z); (case z => mul_fits)))))
  (k_with "binaryOp Add int int" => (k_here; k_extra "D"; k_dflt (first | (with_reducible refine c_add ?_))))
  (k_with "binaryOp Sub int int" => (k_here; k_extra "D"; k_dflt (first | (with_reducible refine c_sub ?_))))
  (k_with "unaryOp USub int" => (k_here; k_extra "D"; k_dflt (first | (with_reducible refine c_neg ?_))))
  (k_with "callWith ref" => (k_here; k_extra "D"; k_dflt (first | ((with_reducible refine' s_with ?V ?F ?X ?k ?e ?_); k_extra "E"; (case X => k_asm); (case k => k_is); k_whole))))
  (k_with "eval Call" => (k_here; k_extra "D"; k_dflt (first | ((with_reducible refine' s_call ?V ?F ?X ?T ?n ?x ?d ?k ?e ?_ ?h); k_extra "E"; (case x => exact rfl); (case X => k_asm); (case T => k_asm); (case d => decide); (case n => k_is); (case k => k_is); (case h => exact rfl); k_whole))))
  (k_with "eval Name" => (k_here; k_extra "D"; k_dflt (first | ((with_reducible refine' s_val ?V ?F ?e ?_); k_extra "E"; k_whole))))
  (k_with "ktr_enter" => first
  | (refine' codeG ?k1 ?k2 ?k3 ?k4 ?k5 ?kA ?kF ?kK ?k6 ?k7 ?k8 ?k9 ?kB ?_ ?c2 ?c3 ?c4 ?c5; (case kA => exact rfl); (case kF => exact rfl); (case kK => assumption); (case k1 => first | k_asm | exact topb_of rfl rfl (by k_asm)); (case k2 => k_asm); (case k3 => k_asm); (case k4 => k_asm); (case k5 => k_asm); (case k6 => k_is); (case k7 => k_is); (case k8 => (k_extra "rm")); (case k9 => first | exact BindsTo.of_eq rfl | exact binds_K (by k_in) rfl (by k_is) rfl rfl rfl); (case c5 => decide); (case kB => exact locs rfl); (case c2 => exact rfl); (case c3 => exact rfl); (case c4 => exact rfl); k_whole; intro g'9q L'9q h'9q tk'9q st'9q FG'9q F'9q N'9q B'9q X'9q T'9q l1'9q; (try dsimp only); (try k_fold)))
  (k_with "k_inst" => exact inst_base (by k_asm) (by assumption) (by assumption))
  (k_with "getMethod ref" => (k_here; (with_reducible show wpAny _ _ (getMethod (Value.ref _) (Str.ofString "get") _) _ _ _); k_dflt (refine sd_method (SDict.base (by k_asm) (by assumption)) ?_)))
  (k_with "call builtin:dict.get" => (k_here; (with_reducible show wpAny _ _ (call (Value.builtin "dict.get") [Value.ref _, Value.str _ _]) _ _ _); k_dflt (first
  | (refine sd_get1s (SDict.base (by k_asm) (by assumption)) (by assumption) ?_; intro t'9q)
  | (refine sd_get1n (SDict.base (by k_asm) (by assumption)) (by assumption) ?_)
  | (refine sd_get1 (SDict.base (by k_asm) (by assumption)) (fun hg09q => ?_) (fun v'9q t'9q hg19q => ?_)))))
  (k_with "k_room" => (k_extra "rm"))
  (k_with "subscriptTail" => (k_here; (with_reducible show wpAny _ _ (subscriptTail _ _ (Value.ref _) (Value.str _ _)) _ _ _); k_dflt (refine sd_item (SDict.base (by k_asm) (by assumption)) (by assumption) ?_); intro t'9q))
  (k_with "call ref" => (k_here; (with_reducible show wpAny _ _ (call (Value.ref _) _) _ _ _); (try k_fold); k_dflt (refine' spec_use0 ?S ?k1 ?k2 ?k3 ?k4 ?k5 ?kK ?kP ?kd ?ku ?_; (case S => assumption); (case k1 => first | k_asm | exact topb_of rfl rfl (by k_asm)); (case k2 => k_asm); (case k3 => k_asm); (case k4 => k_asm); (case k5 => k_asm); (case kK => exact rfl); (case kP => first | exact trivial | exact ElOf.base (by k_asm) (by assumption)); (case kd => (k_extra "rm")); (case ku => (k_extra "un"))); intro r'9q tl'9q h'9q tk'9q F'9q N'9q fr'9q st'9q hR'9q; (try dsimp only at hR'9q)))
  (k_with "k_mem" => ((show _ ∈ (_ ++ _ : List (Addr × Obj))); first | (refine List.mem_append_right _ ?_; k_mem) | (refine List.mem_append_left _ ?_; k_mem)))
  (k_with "call builtin:dict.get" => (k_here; (with_reducible show wpAny _ _ (call (Value.builtin "dict.get") [Value.ref _, Value.str _ _, Value.str _ _]) _ _ _); k_dflt (refine sd_get2L (SDict.base (by k_asm) (by assumption)) (by first | assumption | decide) ?_); intro t'9q hlen'9q))
  (k_with "ite" => (first | with_reducible refine ite_ff ?_ | with_reducible refine ite_tt ?_ | refine ite_dt (by assumption) ?_ | refine ite_df (by assumption) ?_))
  (k_with "eval Dict" => (k_here; k_dflt (refine' kdn_eval (knd := PySem.strKind _ _) ?F ?N ?b ?a ?l ?e ?n ?_; (case F => k_asm); (case N => first | k_asm | exact News.nil); (case b => exact Top.nolimit (by k_asm)); (case a => rfl); (case l => rfl); (case e => exact List.cons_ne_nil _ _); (case n => exact Nat.le_of_ble_eq_true rfl)); intro d'9q h'9q o'9q F'9q N'9q l19q lo'9q hd'9q; (try k_lt l19q)))
  (k_with "call ref" => (k_here; (with_reducible show wpAny _ _ (call (Value.ref 310) _) _ _ _); (try k_fold); k_dflt ((refine' spec_use0 (pool_spec _ _ _ _ _ _ _ (by assumption) (by assumption) _) ?k1 ?k2 ?k3 ?k4 ?k5 ?kK ?kP ?kd ?ku ?_; (case k1 => first | k_asm | exact topb_of rfl rfl (by k_asm)); (case k2 => k_asm); (case k3 => k_asm); (case k4 => k_asm); (case k5 => k_asm); (case kK => exact rfl); (case kP => (exact Heap.IsList.at (by assumption) (fun o9q e9q => Fr.keep (by k_asm) _ _ e9q))); (case kd => (k_extra "rm")); (case ku => (k_extra "un")))); intro r'9q tl'9q h'9q tk'9q F'9q N'9q fr'9q st'9q hR'9q))
  (k_with "call ref" => (k_here; (with_reducible show wpAny _ _ (call (Value.ref 331) _) _ _ _); (try k_fold); k_dflt (refine' spec_use0 (element_spec _ _ _ _ _ _ _ _ _ _ ?hl7) ?k1 ?k2 ?k3 ?k4 ?k5 ?kK ?kP ?kd ?ku ?_; (case k1 => first | k_asm | exact topb_of rfl rfl (by k_asm)); (case k2 => k_asm); (case k3 => k_asm); (case k4 => k_asm); (case k5 => k_asm); (case kK => exact rfl); (case kP => first | exact ⟨sd_lit (by k_asm) (by k_mem) (by assumption) (by assumption) (by first | exact AttrsAre.nil | exact AttrsAre.cons _ _ _ .nil | exact AttrsAre.cons _ _ _ (.cons _ _ _ .nil) | exact AttrsAre.cons _ _ _ (.cons _ _ _ (.cons _ _ _ .nil))) ⟨by decide, by decide +kernel⟩, list_of_get (News.get (by k_asm) (by k_mem))⟩ | exact ⟨sd_up (by assumption) (by k_asm) (by intro q9q hq9q; first | k_extra "sub" | simp only [List.mem_append, List.mem_cons, hq9q, true_or, or_true]), list_of_get (News.get (by k_asm) (by k_mem))⟩); (case kd => (k_extra "rm")); (case ku => (k_extra "un")); (case hl7 => first | exact Nat.le_of_ble_eq_true rfl | assumption)); (first | (intro r'9q tsh h'9q tk'9q F'9q N'9q fr'9q st'9q hR'9q; (with_reducible change Shell _ _ _ (Str.ofString "rect") _ _ _ at hR'9q)) | ((fail_if_success (have := tui)); intro r'9q tui h'9q tk'9q F'9q N'9q fr'9q st'9q hR'9q; (with_reducible change Shell _ _ _ (Str.ofString "use") _ _ _ at hR'9q)) | (intro r'9q tuo h'9q tk'9q F'9q N'9q fr'9q st'9q hR'9q; (with_reducible change Shell _ _ _ (Str.ofString "use") _ _ _ at hR'9q)) | (intro r'9q ttx h'9q tk'9q F'9q N'9q fr'9q st'9q hR'9q; (with_reducible change Shell _ _ _ (Str.ofString "text") _ _ _ at hR'9q)) | ((fail_if_success (have := tgr)); intro r'9q tgr h'9q tk'9q F'9q N'9q fr'9q st'9q hR'9q; (with_reducible change Shell _ _ _ (Str.ofString "g") _ _ _ at hR'9q)) | (intro r'9q tou h'9q tk'9q F'9q N'9q fr'9q st'9q hR'9q; (with_reducible change Shell _ _ _ (Str.ofString "g") _ _ _ at hR'9q)) | (intro r'9q tci h'9q tk'9q F'9q N'9q fr'9q st'9q hR'9q; (with_reducible change Shell _ _ _ (Str.ofString "circle") _ _ _ at hR'9q)) | (intro sy tsy h'9q tk'9q F'9q N'9q fr'9q st'9q hR'9q; (with_reducible change Shell _ _ _ (Str.ofString "symbol") _ _ _ at hR'9q)) | (intro rr tro h'9q tk'9q F'9q N'9q fr'9q st'9q hR'9q; (with_reducible change Shell _ _ _ (Str.ofString "svg") _ _ _ at hR'9q)) | (intro r'9q tde h'9q tk'9q F'9q N'9q fr'9q st'9q hR'9q; (with_reducible change Shell _ _ _ (Str.ofString "defs") _ _ _ at hR'9q))); (first | (replace hR'9q := hR'9q.txt (textOf_f (by decide +kernel))) | (replace hR'9q := hR'9q.txt (textOf_t (by decide +kernel)))); (have hfN'9q := fresh_offN fr'9q (by k_asm)); (try dsimp only)))
  have := IntsAre.length h
  omega
theorem news_front {g h : Heap} {L : Addr} {p : Addr × Obj} {news : List (Addr × Obj)} (N : News g L h news) (hp : p ∈ news) : News g L h (p :: news) := fun q hq => by
  rcases List.mem_cons.mp hq with rfl | hq
  · exact N _ hp
  · exact N _ hq
theorem updF_app {d : Addr} {o : Obj} {tl r news : List (Addr × Obj)} {o' : Obj} {g : Obj → List (Addr × Obj)} (hf : ∀ q ∈ tl, ∀ p ∈ news, q.1 ≠ p.1) (hm : (d, o') ∈ news) (U : UpdF d o r g) : UpdF d o (tl ++ r) (fun o' => tl ++ g o') := by
  have h : ∀ q ∈ tl, q.1 ≠ d := fun q hq => hf q hq _ hm
  clear hf hm
  induction tl with
  | nil => exact U
  | cons p tl ih => exact .tail (h p (.head _)) (ih fun q hq => h q (.tail _ hq))
theorem ne_l1 {x d : Addr} {o : Obj} {news : List (Addr × Obj)} (h : ∀ p ∈ news, p.1 < x) (hm : (d, o) ∈ news) : x ≠ d := Ne.symm (Nat.ne_of_lt (h _ hm))
theorem one_obj {d : Addr} {o o' : Obj} (h : [(d, o)] = [(d, o')]) : o = o' := (Prod.mk.inj (List.cons.inj h).1).2
theorem mem_nm {r : Value} {t1 t2 t3 : Tok} (h : r ∈ [Value.str (Str.ofString "r") t1, Value.str (Str.ofString "k") t2, Value.str (Str.ofString "s") t3]) : ∃ x t, r = .str x t ∧ NmOk x := by
  (k_with "k_updF" => (refine' updF_app ?f ?m ?u; (case f => assumption); (case m => k_mem); (case u => k_updF)))
  (k_with "k_ne" => first | assumption | ((try dsimp only); refine' ne_l1 ?f ?m; (case f => assumption); (case m => k_mem)))
  (k_with "call ref" => (k_here; (with_reducible show wpAny _ _ (call (Value.ref 343) _) _ _ _); (try k_fold); k_dflt (refine' spec_use1 (use_spec _ _ _ _ _ _ _ _ _ _ _ _ ?hn ?ha ?hb ?hb2) ?k1 ?k2 ?k3 ?k4 ?kU ?k5 ?kK ?kP ?kd ?ku ?_; (case k1 => first | k_asm | exact topb_of rfl rfl (by k_asm)); (case k2 => k_asm); (case k3 => k_asm); (case k4 => k_asm); (case kU => k_updF); (case k5 => k_asm); (case kK => exact rfl); (case kP => exact trivial); (case kd => (k_extra "rm")); (case ku => (k_extra "un")); (case ha => assumption); (case hb => assumption); (case hb2 => assumption); (case hn => first | assumption | decide)); intro r'9q tq1 o'9q h'9q tk'9q F'9q N'9q fr'9q st'9q hR'9q; (have hfN'9q := fresh_offN fr'9q (by k_asm))))
  (k_with "call ref" => (k_here; (with_reducible show wpAny _ _ (call (Value.ref 324) _) _ _ _); (try k_fold); k_dflt (refine' spec_use1 (one_spec _ _ _ _ _ _ _ _ _ _ _ _ ?ha ?hb ?hb2 ?ht ?ht2) ?k1 ?k2 ?k3 ?k4 ?kU ?k5 ?kK ?kP ?kd ?ku ?_; (case k1 => first | k_asm | exact topb_of rfl rfl (by k_asm)); (case k2 => k_asm); (case k3 => k_asm); (case k4 => k_asm); (case kU => k_updF); (case k5 => k_asm); (case kK => exact rfl); (case kP => exact ⟨list_of_get (News.get (by k_asm) (by k_mem)), by k_ne⟩); (case kd => (k_extra "rm")); (case ku => (k_extra "un")); (case ha => assumption); (case hb => assumption); (case hb2 => assumption); (case ht => simp); (case ht2 => simp)); intro r'9q tl'9q o'9q h'9q tk'9q F'9q N'9q fr'9q st'9q hR'9q; obtain ⟨hR09q, hR19q, a'9q, b'9q, ta'9q, tb'9q, n'9q, hR49q, hR59q, hR69q, hR79q⟩ := hR'9q; subst hR09q; (have hR89q := (Prod.mk.inj (List.cons.inj hR79q).1).2); subst hR89q; clear hR79q; (try simp only [List.nil_append] at N'9q)))
  simp only [List.mem_cons, List.not_mem_nil, or_false] at h
  rcases h with rfl | rfl | rfl
  · exact ⟨_, _, rfl, .inl rfl⟩
  · exact ⟨_, _, rfl, .inr (.inl rfl)⟩
  · exact ⟨_, _, rfl, .inr (.inr rfl)⟩
theorem sh_tl {w : World} {tl : List (Addr × Obj)} {v : Value} {name text : Str} {attrs : List (Str × Str)} {vs : List Value} (_ : Shell w (LG tl) v name attrs vs text) : ∃ tl', tl' = tl := ⟨tl, rfl⟩
theorem off_app {d : Addr} {a b : List (Addr × Obj)} (ha : ∀ q ∈ a, q.1 ≠ d) (hb : ∀ q ∈ b, q.1 ≠ d) : ∀ q ∈ a ++ b, q.1 ≠ d := fun q hq => (List.mem_append.mp hq).elim (ha q) (hb q)
theorem sub_app {a b c : List (Addr × Obj)} (ha : ∀ q ∈ a, q ∈ c) (hb : ∀ q ∈ b, q ∈ c) : ∀ q ∈ a ++ b, q ∈ c := fun q hq => (List.mem_append.mp hq).elim (ha q) (hb q)
theorem news_cut {g h : Heap} {L d : Addr} {o : Obj} {a news : List (Addr × Obj)} (N : News g L h news) (hd : (d, o) ∈ news) (ha : ∀ q ∈ a, q ∈ news) : News g L h ((d, o) :: a) := fun q hq => by
  rcases List.mem_cons.mp hq with rfl | hq
  · exact N _ hd
  · exact N _ (ha q hq)
theorem ne_list {g h : Heap} {L l d : Addr} {vs us : Array Value} {n k : Nat} {news : List (Addr × Obj)} (N : News g L h news) (h1 : (l, PySem.W.listOf vs n) ∈ news) (h2 : (d, PySem.W.listOf us k) ∈ news) (hs : vs.size ≠ us.size) : l ≠ d := fun e => by
  have a := (N _ h1).1
  have b := (N _ h2).1
  dsimp only at a b
  rw [e, b] at a
  have c := congrArg Obj.data (Option.some.inj a)
  unfold PySem.W.listOf at c
  dsimp only at c
  injection c with c1 c2
  exact hs (by rw [c1])
theorem Shell.elL {w : World} {tl TL : List (Addr × Obj)} {v : Value} {name text : Str} {attrs : List (Str × Str)} {vs : List Value} {kids : List El} (S : Shell w (LG tl) v name attrs vs text) (hs : ∀ q ∈ tl, q ∈ TL) (k : ElsOf w (LG TL) vs kids) : ElOf w (LG TL) v (.mk name attrs kids text) := (S.mono fun a o q => hs _ q).el k
theorem row20 (w : World) (mean : ExcName → Option Value) (mg mb : Str → Option Value) (e : El) (v : Value) (hz : El.size e ≤ 20) : Spec w mean mg mb 336 [v] [] 20 (fun h => ElOf w (HG h) v e) (fun r _ tl => RowOf (LG tl) r (rowOf e)) := spec_weak (row_all w mean mg mb e v) hz (fun _ q => q) (fun _ _ _ q => q)
theorem row_ref {G : Addr → Obj → Prop} {v : Value} {r : Row} (h : RowOf G v r) : ∃ a, v = .ref a := by cases h; exact ⟨_, rfl⟩
theorem use_row {w : World} {mean : ExcName → Option Value} {mg mb : Str → Option Value} {f : Addr} {vs : List Value} {k : Nat} {P : Heap → Prop} {row : Row} {A : Around} {D U : Nat} {h₀ : Heap} {L : Addr} {m : Str → Option Value} {s : Shared} {Q E : Value → Shared → Prop} {news : List (Addr × Obj)}
    (S : Spec w mean mg mb f vs [] k P (fun r _ tl => RowOf (LG tl) r row)) (B : TopB A h₀ L D U) (F : Fr h₀ L s.heap m) (X : (hd.heap_1_39 w.params).In h₀) (N : News h₀ L s.heap news) (T : Top hd.view_1_40 (looseW hd.view_1_40 [Str.ofString "fraction", Str.ofString "write_decimal", Str.ofString "length", Str.ofString "Uses"]) mean mg mb h₀) (hk : 0 = 0) (hP : P s.heap) (hd : D + k < recursionLimit) (hu : U + 8 * k < cLine)
    (ret : ∀ d tl h' tk', Fr h₀ L h' m → News h₀ L h' (tl ++ news) → (∀ q ∈ tl, s.heap.get? q.1 = none) → (∀ b o, s.heap.get? b = some o → h'.get? b = some o) → RowOf (LG tl) (.ref d) row → Q (.ref d) { s with heap := h', toks := tk' }) : wpAny (model PySem.Challenge.rw_nu0026_01.row.prog w) A (call (.ref f) vs) Q E s := spec_use0 S B F X N T hk hP hd hu fun r tl h' tk' F' N' fr st hR => by
  obtain ⟨d, rfl⟩ := row_ref hR
  exact ret d tl h' tk' F' N' fr st hR
noncomputable def pickA (name : Str) (a b c : Addr) : Addr := if name = tS "r" then a else if name = tS "k" then b else c
theorem value_pick {name : Str} {a b c : Addr} {t1 t2 t3 : Tok} (hn : NmOk name) : valueAt (strPairs [(.str (Str.ofString "r") t1, .ref a), (.str (Str.ofString "k") t2, .ref b), (.str (Str.ofString "s") t3, .ref c)]) name = some (.ref (pickA name a b c)) := by rcases hn with rfl | rfl | rfl <;> rfl
theorem row_pick {G : Addr → Obj → Prop} {name : Str} {a b c : Addr} {iD W : List (Str × Str)} (hn : NmOk name) (h1 : RowOf G (.ref a) (rowOf shapeE)) (h2 : RowOf G (.ref b) (grpRow iD)) (h3 : RowOf G (.ref c) (symRow W)) : RowOf G (.ref (pickA name a b c)) (cpyRow iD W name) := by
  (k_with "call ref" => (k_here; (with_reducible show wpAny _ _ (call (Value.ref 336) _) _ _ _); (try k_fold); k_dflt (refine' use_row (row20 _ _ _ _ _ _ ?hz) ?k1 ?k2 ?k3 ?k4 ?k5 ?kK ?kP ?kd ?ku ?_; (case k1 => first | k_asm | exact topb_of rfl rfl (by k_asm)); (case k2 => k_asm); (case k3 => k_asm); (case k4 => k_asm); (case k5 => k_asm); (case kK => exact rfl); (case kP => exact el_up (by assumption) (by k_asm) (by (repeat' (refine sub_app ?_ ?_)) <;> (intro q9q hq9q; first | k_extra "sub" | simp only [List.mem_append, List.mem_cons, hq9q, true_or, or_true]))); (case kd => (k_extra "rm")); (case ku => (k_extra "un")); (case hz => exact Nat.le_of_ble_eq_true rfl)); (first | ((fail_if_success (have := bef)); intro bef tl'9q h'9q tk'9q F'9q N'9q fr'9q st'9q hR'9q) | ((fail_if_success (have := shr)); intro shr tl'9q h'9q tk'9q F'9q N'9q fr'9q st'9q hR'9q) | intro r'9q tl'9q h'9q tk'9q F'9q N'9q fr'9q st'9q hR'9q)))
  (k_with "call ref" => (k_here; (with_reducible show wpAny _ _ (call (Value.ref 348) _) _ _ _); (try k_fold); k_dflt ((refine' spec_use0 (group_spec _ _ _ _ _ _ _) ?k1 ?k2 ?k3 ?k4 ?k5 ?kK ?kP ?kd ?ku ?_; (case k1 => first | k_asm | exact topb_of rfl rfl (by k_asm)); (case k2 => k_asm); (case k3 => k_asm); (case k4 => k_asm); (case k5 => k_asm); (case kK => exact rfl); (case kP => (exact sd_up (by assumption) (by k_asm) (by (repeat' (refine sub_app ?_ ?_)) <;> (intro q9q hq9q; first | k_extra "sub" | simp only [List.mem_append, List.mem_cons, hq9q, true_or, or_true])))); (case kd => (k_extra "rm")); (case ku => (k_extra "un")))); intro r'9q tl'9q h'9q tk'9q F'9q N'9q fr'9q st'9q hR'9q))
  (k_with "call ref" => (k_here; (with_reducible show wpAny _ _ (call (Value.ref 355) _) _ _ _); (try k_fold); k_dflt ((refine' use_row (symbol_spec _ _ _ _ _ _) ?k1 ?k2 ?k3 ?k4 ?k5 ?kK ?kP ?kd ?ku ?_; (case k1 => first | k_asm | exact topb_of rfl rfl (by k_asm)); (case k2 => k_asm); (case k3 => k_asm); (case k4 => k_asm); (case k5 => k_asm); (case kK => exact rfl); (case kP => (exact sd_up (by assumption) (by k_asm) (by (repeat' (refine sub_app ?_ ?_)) <;> (intro q9q hq9q; first | k_extra "sub" | simp only [List.mem_append, List.mem_cons, hq9q, true_or, or_true])))); (case kd => (k_extra "rm")); (case ku => (k_extra "un")))); intro syr tl'9q h'9q tk'9q F'9q N'9q fr'9q st'9q hR'9q))
  rcases hn with rfl | rfl | rfl
  · exact h1
  · exact h2
  · exact h3
theorem grow_row {g h : Heap} {L grow wa ka gi tx xa xb : Addr} {t1 t2 t3 t4 t5 : Tok} {n1 n2 n3 n4 n5 n6 : Nat} {AL : List (Addr × Obj)} {iD : List (Str × Str)} (_ : News g L h AL)
    (h1 : (grow, PySem.W.listOf #[.str (Str.ofString "g") t1, .ref wa, .ref ka, .str (Str.ofString "") t2] n1) ∈ AL) (h2 : (wa, PySem.W.listOf #[.str (Str.ofString "id=k") t3] n2) ∈ AL) (h3 : (ka, PySem.W.listOf #[.ref gi, .ref tx] n3) ∈ AL)
    (h4 : (tx, PySem.W.listOf #[.str (Str.ofString "text") t4, .ref xa, .ref xb, .str (Str.ofString "t") t5] n4) ∈ AL) (h5 : (xa, PySem.W.listOf #[] n5) ∈ AL) (h6 : (xb, PySem.W.listOf #[] n6) ∈ AL) (hgi : RowOf (LG AL) (.ref gi) (gRow iD (rowOf shapeE))) : RowOf (LG AL) (.ref grow) (grpRow iD) :=
  .mk (ws := [_]) (ks := [_, _]) h1 h2 (.cons _ _ .nil) h3 (.cons hgi (.cons (.mk (ws := []) (ks := []) h4 h5 .nil h6 .nil) .nil))
theorem row_sub {g h : Heap} {L : Addr} {AL tl : List (Addr × Obj)} {v : Value} {r : Row} (_ : News g L h AL) (x : RowOf (LG tl) v r) (hs : ∀ q ∈ tl, q ∈ AL) : RowOf (LG AL) v r := x.mono fun a o q => hs _ q
theorem row_subU {g h : Heap} {L : Addr} {AL tl tl2 : List (Addr × Obj)} {v : Value} {r : Row} (_ : News g L h AL) (x : RowOf (GU (LG tl) tl2) v r) (hs : ∀ q ∈ tl, q ∈ AL) (hs2 : ∀ q ∈ tl2, q ∈ AL) : RowOf (LG AL) v r := x.mono fun a o q => q.elim (hs _) (hs2 _)
theorem el_sub {w : World} {g h : Heap} {L : Addr} {AL tl : List (Addr × Obj)} {v : Value} {r : El} (_ : News g L h AL) (x : ElOf w (LG tl) v r) (hs : ∀ q ∈ tl, q ∈ AL) : ElOf w (LG AL) v r := x.mono fun a o q => hs _ q
theorem sd_sub {w : World} {g h : Heap} {L d : Addr} {AL tl : List (Addr × Obj)} {r : List (Str × Str)} (_ : News g L h AL) (x : SDict w (LG tl) d r) (hs : ∀ q ∈ tl, q ∈ AL) : SDict w (LG AL) d r := x.mono fun a o q => hs _ q
noncomputable def Known (w : World) (src : Addr) (so : Obj) (rr sy sh : Value) (bef shr grow cp dd : Addr) (iW iD W D : List (Str × Str)) (name : Str) (AL : List (Addr × Obj)) : Prop :=
  (src, so) ∈ AL ∧ ElOf w (LG AL) rr (rootE iW W) ∧ ElOf w (LG AL) sy symbolE ∧ ElOf w (LG AL) sh shapeE ∧ RowOf (LG AL) (.ref bef) (rowOf (rootE iW W)) ∧ RowOf (LG AL) (.ref shr) (rowOf shapeE) ∧ RowOf (LG AL) (.ref grow) (grpRow iD) ∧ RowOf (LG AL) (.ref cp) (cpyRow iD W name) ∧ SDict w (LG AL) dd D
theorem Known.mono {w : World} {src : Addr} {so : Obj} {rr sy sh : Value} {bef shr grow cp dd : Addr} {iW iD W D : List (Str × Str)} {name : Str} {AL BL : List (Addr × Obj)} (x : Known w src so rr sy sh bef shr grow cp dd iW iD W D name AL) (hs : ∀ q ∈ AL, q ∈ BL) : Known w src so rr sy sh bef shr grow cp dd iW iD W D name BL := by
  k_extra "gn"; (obtain ⟨a1, a2, a3, a4, a5, a6, a7, a8, a9⟩ := x) <;> k_unfold
  have hm : ∀ a o, LG AL a o → LG BL a o := fun a o q => hs _ q
  exact ⟨hs _ a1, a2.mono hm, a3.mono hm, a4.mono hm, a5.mono hm, a6.mono hm, a7.mono hm, a8.mono hm, a9.mono hm⟩
structure Keep (p : Prop) : Prop where
  v : p
theorem pack {g h : Heap} {L : Addr} {AL : List (Addr × Obj)} {P : List (Addr × Obj) → Prop} (N : News g L h AL) (hP : P AL) : ∃ BL, News g L h BL ∧ P BL := ⟨AL, N, hP⟩
theorem nth3 {g h : Heap} {L d x : Addr} {o ox : Obj} {tl r : List (Addr × Obj)} (_ : News g L h (tl ++ (d, o) :: (x, ox) :: r)) : ∃ x', x' = x := ⟨_, rfl⟩
theorem all_root (iW W : List (Str × Str)) : (allE (rootE iW W)).length ≤ 90 := by
  simp only [rootE, defsE, shapeE, groupSE, useE, textE, symbolE, circleE, allE, allEs, List.cons_append, List.nil_append, List.append_nil, List.length_cons, List.length_nil]
  decide
theorem known_rr {w : World} {src : Addr} {so : Obj} {rr sy sh : Value} {bef shr grow cp dd : Addr} {iW iD W D : List (Str × Str)} {name : Str} {AL : List (Addr × Obj)} (_ : Known w src so rr sy sh bef shr grow cp dd iW iD W D name AL) : ∃ w' rr' sy', w' = w ∧ rr' = rr ∧ sy' = sy := ⟨w, rr, sy, rfl, rfl, rfl⟩
theorem exp_rowL {g h : Heap} {L top wa ka df og dwa dka gwa gka shr grow sy2 gr2 : Addr} {t1 t2 t3 t4 t5 t6 : Tok} {n1 n2 n3 n4 n5 n6 n7 n8 n9 : Nat} {AL : List (Addr × Obj)} {iD W D : List (Str × Str)} {name : Str} (_ : News g L h AL)
    (h1 : (top, PySem.W.listOf #[.str (Str.ofString "svg") t1, .ref wa, .ref ka, .str (Str.ofString "") t2] n1) ∈ AL) (h2 : (wa, PySem.W.listOf #[] n2) ∈ AL) (h3 : (ka, PySem.W.listOf #[.ref df, .ref og] n3) ∈ AL)
    (d1 : (df, PySem.W.listOf #[.str (Str.ofString "defs") t3, .ref dwa, .ref dka, .str (Str.ofString "") t4] n4) ∈ AL) (d2 : (dwa, PySem.W.listOf #[] n5) ∈ AL) (d3 : (dka, PySem.W.listOf #[.ref shr, .ref grow, .ref sy2] n6) ∈ AL)
    (g1 : (og, PySem.W.listOf #[.str (Str.ofString "g") t5, .ref gwa, .ref gka, .str (Str.ofString "") t6] n7) ∈ AL) (g2 : (gwa, PySem.W.listOf #[] n8) ∈ AL) (g3 : (gka, PySem.W.listOf #[.ref gr2] n9) ∈ AL)
    (hs : RowOf (LG AL) (.ref shr) (rowOf shapeE)) (hg : RowOf (LG AL) (.ref grow) (grpRow iD)) (hy : RowOf (LG AL) (.ref sy2) (rowOf symbolE)) (hgr : RowOf (LG AL) (.ref gr2) (gRow D (cpyRow iD W name))) : RowOf (LG AL) (.ref top) (expRow iD W D name) :=
  .mk (ws := []) (ks := [_, _]) h1 h2 .nil h3 (.cons (.mk (ws := []) (ks := [_, _, _]) d1 d2 .nil d3 (.cons hs (.cons hg (.cons hy .nil)))) (.cons (.mk (ws := []) (ks := [_]) g1 g2 .nil g3 (.cons hgr .nil)) .nil))
theorem fr_base {g h1 h : Heap} {L : Addr} {m : Str → Option Value} (T : KtsTurn [] g h1) (F : Fr h1 L h m) : Fr g L h m := ⟨F.ns, fun b o e => F.keep b o (T.other b o e (fun q => nomatch q)), by rw [← T.size]; exact F.above⟩
theorem lk_skip {k x : Str} {v r : Option Value} {rest : Str → Option Value} (h : x ≠ k) (e : rest x = r) : (fun y => if y = k then v else rest y) x = r := by
  (k_with "eval Name" => (k_here; k_dflt (refine' ld ?k1 ?k2 ?_; (case k1 => first | k_asm | exact topb_of rfl rfl (by k_asm)); (case k2 => ((repeat (refine lk_skip (by decide) ?_)); assumption)); k_whole)))
  dsimp only
  rw [if_neg h]
  exact e
theorem law_end {cl : Str → Option Addr} {mean : ExcName → Option Value} {l : List Int} {s₁ : Shared} {h : Heap} {t : Nat} {L : Addr} {m : Str → Option Value} (F : Fr s₁.heap L h m) (hg : s₁.gens = #[]) : GoodW PySem.Challenge.rw_nu0026_01.row.claim cl mean [ofPy (PyData.list (List.map PyData.int l))] s₁ (Except.ok (Flow.ret (Value.bool true))) { heap := h, gens := s₁.gens, drawn := s₁.drawn, toks := t, os := s₁.os } := by
  wrow_close
set_option Elab.async true in
theorem law_all : PySem.Challenge.rw_nu0026_01.Holds := by
  w_on
  o_law
  k_head
  (case hw => w_witness2)
  w_strict (k_go0
            rename World => w
            rename Shared => s1
            generalize hL9 : s1.heap.objs.size = L9 at *
            rename Below callerA _ _ _ => K09
            change Below callerA s1.heap [] s1.heap at K09
            have : hd.heap_1_39 = hd.heap_1_39 ∧ PySem.Challenge.rw_nu0026_01 = PySem.Challenge.rw_nu0026_01 := by k_fill; exact ⟨rfl, rfl⟩
            clear this
            rename Frag.In _ _ => KX9
            replace KX9 : (hd.heap_1_39 w.params).In s1.heap := KX9
            rename Top _ _ _ _ _ _ => T9
            replace T9 : Top hd.view_1_40 (looseW hd.view_1_40 [Str.ofString "fraction", Str.ofString "write_decimal", Str.ofString "length", Str.ofString "Uses"]) _ _ _ s1.heap := T9
            first | refine (let ak : Around := _; let nk : Env := _; let sg9 : Array GenState := _; let sd9 : Drawn := _; let so9 : OsState := _; (?_ : wpAny _ ak (execs _ nk) _ _ (Shared.mk _ sg9 sd9 _ so9))) | refine (let ak : Around := _; let nk : Env := _; (?_ : wpAny _ ak (execs _ nk) _ _ _))
            have TB9 : TopB ak s1.heap L9 302 7 := topb_of rfl rfl K09
            (all_goals try k_fold)
            rename IntsAre _ _ => hIA
            have hlen := len63 hIA (by assumption)
            repeat ((fail_if_success (with_reducible show wpAny _ _ (call (Value.ref 310) _) _ _ _)); first | ((with_reducible show wpAny _ _ (PySem.exec _ _) _ _ _); k_fold) | ((fail_if_success (fail_if_success k_unfold)); (show wpAny _ _ _ _ _ _); (try dsimp only)) | (k_unfold; (try dsimp only)) | (k_end; wrow_close) | walk1 | (dsimp only; walk1) | (leave1; walk_say "STEP lea"))
            walk1
            rename ∃ _, _ => hR
            k_extra "gn"; (obtain ⟨src, a0, b0, ta0, tb0, n0, rfl, hsrc, ha0, hb0, hc0⟩ := hR) <;> k_unfold
            rename News _ _ _ (_ ++ _) => N1
            replace N1 := led_one (d := src) N1 (List.mem_append_left _ hsrc)
            clear hsrc
            repeat ((fail_if_success (with_reducible show wpAny _ _ (call (Value.ref 343) _) _ _ _)); first | ((with_reducible show wpAny _ _ (PySem.exec _ _) _ _ _); k_fold) | ((fail_if_success (fail_if_success k_unfold)); (show wpAny _ _ _ _ _ _); (try dsimp only)) | (k_unfold; (try dsimp only)) | (k_end; wrow_close) | walk1 | (dsimp only; walk1) | (leave1; walk_say "STEP lea"))
            walk1
            rename UseR _ _ _ _ _ _ => hR
            rename News _ _ _ (_ ++ _) => N1
            k_extra "gn"; (obtain ⟨tu1, dw1, dd1, iW, iD, a1, b1, ta1, tb1, n1, rfl, htu1, hiW, hiD, hiU, ha1, hb1, hc1, hled1⟩ := hR) <;> k_unfold
            obtain rfl := one_obj hled1
            clear hled1
            rename (∀ q ∈ tq1, ∀ p ∈ _, _ ≠ _) => hft1
            have hne1 : tu1 ≠ src := hft1 _ htu1 (src, _) (by k_mem)
            replace N1 := news_front N1 (List.mem_append_left _ htu1)
            repeat ((fail_if_success (with_reducible show wpAny _ _ (call (Value.ref 324) _) _ _ _)); first | ((with_reducible show wpAny _ _ (PySem.exec _ _) _ _ _); k_fold) | ((fail_if_success (fail_if_success k_unfold)); (show wpAny _ _ _ _ _ _); (try dsimp only)) | (k_unfold; (try dsimp only)) | (k_end; wrow_close) | walk1 | (dsimp only; walk1) | (leave1; walk_say "STEP lea"))
            rename Shell _ _ _ (Str.ofString "rect") _ _ _ => Ssh
            rename (∀ q ∈ tsh, ∀ p ∈ _, _ ≠ _) => hftsh
            have hntsh : ∀ q ∈ tsh, q.1 ≠ src := fun q hq => hftsh q hq (src, _) (by k_mem)
            rename Shell _ _ _ (Str.ofString "use") iW _ _ => Sui
            rename (∀ q ∈ tui, ∀ p ∈ _, _ ≠ _) => hftui
            have hntui : ∀ q ∈ tui, q.1 ≠ src := fun q hq => hftui q hq (src, _) (by k_mem)
            rename Shell _ _ _ (Str.ofString "text") _ _ _ => Stx
            rename (∀ q ∈ ttx, ∀ p ∈ _, _ ≠ _) => hfttx
            have hnttx : ∀ q ∈ ttx, q.1 ≠ src := fun q hq => hfttx q hq (src, _) (by k_mem)
            rename Shell _ _ _ (Str.ofString "g") _ _ _ => Sgr
            rename (∀ q ∈ tgr, ∀ p ∈ _, _ ≠ _) => hftgr
            have hntgr : ∀ q ∈ tgr, q.1 ≠ src := fun q hq => hftgr q hq (src, _) (by k_mem)
            rename Shell _ _ _ (Str.ofString "circle") _ _ _ => Sci
            rename (∀ q ∈ tci, ∀ p ∈ _, _ ≠ _) => hftci
            have hntci : ∀ q ∈ tci, q.1 ≠ src := fun q hq => hftci q hq (src, _) (by k_mem)
            rename Shell _ _ _ (Str.ofString "symbol") _ _ _ => Ssy
            rename (∀ q ∈ tsy, ∀ p ∈ _, _ ≠ _) => hftsy
            have hntsy : ∀ q ∈ tsy, q.1 ≠ src := fun q hq => hftsy q hq (src, _) (by k_mem)
            have hnt1 : ∀ q ∈ tq1, q.1 ≠ src := fun q hq => hft1 q hq (src, _) (by k_mem)
            rename News _ _ _ _ => N1
            have hls := list_of_get (News.get N1 (List.Mem.head _))
            have hlne := ne_list (d := src) N1 (List.Mem.head _) (by k_mem) (by show 3 ≠ 2; decide)
            have hoff := off_app hntsh (off_app hnt1 (off_app hntui (off_app hnttx (off_app hntgr (off_app hntci hntsy)))))
            have N2 := news_cut (d := src) (a := tsh ++ (tq1 ++ (tui ++ (ttx ++ (tgr ++ (tci ++ tsy)))))) N1 (by k_mem) (sub_app (by intro q hq; first | k_extra "sub" | simp only [List.mem_append, List.mem_cons, hq, true_or, or_true]) (sub_app (by intro q hq; first | k_extra "sub" | simp only [List.mem_append, List.mem_cons, hq, true_or, or_true]) (sub_app (by intro q hq; first | k_extra "sub" | simp only [List.mem_append, List.mem_cons, hq, true_or, or_true]) (sub_app (by intro q hq; first | k_extra "sub" | simp only [List.mem_append, List.mem_cons, hq, true_or, or_true]) (sub_app (by intro q hq; first | k_extra "sub" | simp only [List.mem_append, List.mem_cons, hq, true_or, or_true]) (sub_app (by intro q hq; first | k_extra "sub" | simp only [List.mem_append, List.mem_cons, hq, true_or, or_true]) (by intro q hq; first | k_extra "sub" | simp only [List.mem_append, List.mem_cons, hq, true_or, or_true])))))))
            rename Fr _ _ _ _ => FM71
            obtain ⟨m71, hm71, FG71⟩ := fr_gen FM71
            have lk71x0 := mm_at hm71 (Str.ofString "source") (by first | exact rfl | assumption)
            have lk71x1 := mm_at hm71 (Str.ofString "shape") (by first | exact rfl | assumption)
            have lk71x2 := mm_at hm71 (Str.ofString "inner_due") (by first | exact rfl | assumption)
            have lk71x3 := mm_at hm71 (Str.ofString "group") (by first | exact rfl | assumption)
            have lk71x4 := mm_at hm71 (Str.ofString "symbol") (by first | exact rfl | assumption)
            clear hm71 FM71
            refine' spec_use1 (one_spec _ _ _ _ _ _ _ _ _ _ _ _ ?qha ?qhb ?qhb2 ?qht ?qht2) ?q1 ?q2 ?q3 N2 (UpdF.head hoff) ?q5 ?qK ⟨hls, hlne⟩ ?qd ?qu ?_
            case q1 => first | k_asm | exact topb_of rfl rfl (by k_asm)
            case q2 => k_asm
            case q3 => k_asm
            case q5 => k_asm
            case qK => exact rfl
            case qd => (k_extra "rm")
            case qu => (k_extra "un")
            case qha => assumption
            case qhb => assumption
            case qhb2 => assumption
            case qht => simp
            case qht2 => simp
            intro rn tln on hn tkn Fn Nn frn stn hRn
            k_extra "gn"; (obtain ⟨rfl, hm, a2, b2, ta2, tb2, n2, ha2, hb2, hc2, hled2⟩ := hRn) <;> k_unfold
            obtain rfl := one_obj hled2
            clear hled2 N1 N2
            k_extra "gn"; (obtain ⟨name, tn, rfl, hnm⟩ := mem_nm hm) <;> k_unfold
            clear hm
            have hnlen := (nm_ok hnm).2
            repeat ((fail_if_success (with_reducible show wpAny _ _ (call (Value.ref 343) _) _ _ _)); first | ((with_reducible show wpAny _ _ (PySem.exec _ _) _ _ _); k_fold) | ((fail_if_success (fail_if_success k_unfold)); (show wpAny _ _ _ _ _ _); (try dsimp only)) | (k_unfold; (try dsimp only)) | (k_end; wrow_close) | walk1 | (dsimp only; walk1) | (leave1; walk_say "STEP lea"))
            rename News _ _ _ _ => N1
            replace N1 : News _ _ _ ((src, PySem.W.listOf #[.int a2 ta2, .int b2 tb2] n2) :: (tsh ++ (tq1 ++ (tui ++ (ttx ++ (tgr ++ (tci ++ tsy))))))) := N1
            refine' spec_use1 (use_spec _ _ _ _ _ _ _ _ _ _ _ _ hnlen ?qha ?qhb ?qhb2) ?q1 ?q2 ?q3 N1 (UpdF.head hoff) ?q5 ?qK trivial ?qd ?qu ?_
            case q1 => first | k_asm | exact topb_of rfl rfl (by k_asm)
            case q2 => k_asm
            case q3 => k_asm
            case q5 => k_asm
            case qK => exact rfl
            case qd => (k_extra "rm")
            case qu => (k_extra "un")
            case qha => assumption
            case qhb => assumption
            case qhb2 => assumption
            intro rn t2 on hn2 tkn2 Fn2 Nn2 frn2 stn2 hRn
            k_extra "gn"; (obtain ⟨tu2, dw2, dd2, W, D, a3, b3, ta3, tb3, n3, rfl, htu2, hW, hD, hU, ha3, hb3, hc3, hled2⟩ := hRn) <;> k_unfold
            obtain rfl := one_obj hled2
            clear hled2 N1
            replace Nn2 := news_front Nn2 (List.mem_append_left _ htu2)
            repeat ((fail_if_success (with_reducible show wpAny _ _ (call (Value.ref 336) _) _ _ _)); first | ((with_reducible show wpAny _ _ (PySem.exec _ _) _ _ _); k_fold) | ((fail_if_success (fail_if_success k_unfold)); (show wpAny _ _ _ _ _ _); (try dsimp only)) | (k_unfold; (try dsimp only)) | (k_end; wrow_close) | walk1 | (dsimp only; walk1) | (leave1; walk_say "STEP lea"))
            rename Shell _ _ _ (Str.ofString "svg") _ _ _ => Sro
            rename Shell _ _ _ (Str.ofString "defs") _ _ _ => Sde
            rename Shell _ _ _ (Str.ofString "g") [] _ _ => Sou
            rename Shell _ _ _ (Str.ofString "use") W _ _ => Suo
            rename Fr _ _ _ _ => FM72
            obtain ⟨m72, hm72, FG72⟩ := fr_gen FM72
            have lk72x0 := mm_at hm72 (Str.ofString "source") (by first | exact rfl | assumption)
            have lk72x1 := mm_at hm72 (Str.ofString "shape") (by first | exact rfl | assumption)
            have lk72x2 := mm_at hm72 (Str.ofString "inner_due") (by first | exact rfl | assumption)
            have lk72x3 := mm_at hm72 (Str.ofString "symbol") (by first | exact rfl | assumption)
            have lk72x4 := mm_at hm72 (Str.ofString "name") (by first | exact rfl | assumption)
            have lk72x5 := mm_at hm72 (Str.ofString "words") (by first | exact rfl | assumption)
            have lk72x6 := mm_at hm72 (Str.ofString "due") (by first | exact rfl | assumption)
            have lk72x7 := mm_at hm72 (Str.ofString "root") (by first | exact rfl | assumption)
            clear hm72 FM72
            have hRoot : ElOf _ (LG (tro ++ (tde ++ (tou ++ (tuo ++ (tsh ++ (tui ++ (ttx ++ (tgr ++ (tci ++ tsy)))))))))) _ (rootE iW W) := Sro.elL (by intro q hq; simp only [List.mem_append, hq, true_or, or_true]) (.cons (Sde.elL (by intro q hq; simp only [List.mem_append, hq, true_or, or_true]) (.cons (Ssh.elL (by intro q hq; simp only [List.mem_append, hq, true_or, or_true]) .nil) (.cons (Sgr.elL (by intro q hq; simp only [List.mem_append, hq, true_or, or_true]) (.cons (Sui.elL (by intro q hq; simp only [List.mem_append, hq, true_or, or_true]) .nil) (.cons (Stx.elL (by intro q hq; simp only [List.mem_append, hq, true_or, or_true]) .nil) .nil))) (.cons (Ssy.elL (by intro q hq; simp only [List.mem_append, hq, true_or, or_true]) (.cons (Sci.elL (by intro q hq; simp only [List.mem_append, hq, true_or, or_true]) .nil) .nil)) .nil)))) (.cons (Sou.elL (by intro q hq; simp only [List.mem_append, hq, true_or, or_true]) (.cons (Suo.elL (by intro q hq; simp only [List.mem_append, hq, true_or, or_true]) .nil) .nil)) .nil))
            have hShape : ElOf _ (LG tsh) _ shapeE := Ssh.elL (fun _ h => h) .nil
            have hSym : ElOf _ (LG (tsy ++ tci)) _ symbolE := Ssy.elL (by intro q hq; simp only [List.mem_append, hq, true_or, or_true]) (.cons (Sci.elL (by intro q hq; simp only [List.mem_append, hq, true_or, or_true]) .nil) .nil)
            walk1
            rename RowOf _ _ _ => hBef
            repeat ((fail_if_success (with_reducible show wpAny _ _ (call (Value.ref 336) _) _ _ _)); first | ((with_reducible show wpAny _ _ (PySem.exec _ _) _ _ _); k_fold) | ((fail_if_success (fail_if_success k_unfold)); (show wpAny _ _ _ _ _ _); (try dsimp only)) | (k_unfold; (try dsimp only)) | (k_end; wrow_close) | walk1 | (dsimp only; walk1) | (leave1; walk_say "STEP lea"))
            walk1
            rename RowOf _ _ _ => hShr
            repeat ((fail_if_success (with_reducible show wpAny _ _ (call (Value.ref 348) _) _ _ _)); first | ((with_reducible show wpAny _ _ (PySem.exec _ _) _ _ _); k_fold) | ((fail_if_success (fail_if_success k_unfold)); (show wpAny _ _ _ _ _ _); (try dsimp only)) | (k_unfold; (try dsimp only)) | (k_end; wrow_close) | walk1 | (dsimp only; walk1) | (leave1; walk_say "STEP lea"))
            walk1
            rename (∀ (G : Addr → Obj → Prop) (row : Row), _ → _) => hR
            have hGi := hR _ _ hShr
            clear hR
            obtain ⟨gi, rfl⟩ := row_ref hGi
            repeat ((fail_if_success (with_reducible show wpAny _ _ (eval (PySem.Expr.Dict _ _ _) _) _ _ _)); first | ((with_reducible show wpAny _ _ (PySem.exec _ _) _ _ _); k_fold) | ((fail_if_success (fail_if_success k_unfold)); (show wpAny _ _ _ _ _ _); (try dsimp only)) | (k_unfold; (try dsimp only)) | (k_end; wrow_close) | walk1 | (dsimp only; walk1) | (leave1; walk_say "STEP lea"))
            k_here
            rename Fr _ _ _ _ => FM73
            obtain ⟨m73, hm73, FG73⟩ := fr_gen FM73
            have lk73x0 := mm_at hm73 (Str.ofString "source") (by first | exact rfl | assumption)
            have lk73x1 := mm_at hm73 (Str.ofString "symbol") (by first | exact rfl | assumption)
            have lk73x2 := mm_at hm73 (Str.ofString "name") (by first | exact rfl | assumption)
            have lk73x3 := mm_at hm73 (Str.ofString "words") (by first | exact rfl | assumption)
            have lk73x4 := mm_at hm73 (Str.ofString "due") (by first | exact rfl | assumption)
            have lk73x5 := mm_at hm73 (Str.ofString "root") (by first | exact rfl | assumption)
            have lk73x6 := mm_at hm73 (Str.ofString "before") (by first | exact rfl | assumption)
            have lk73x7 := mm_at hm73 (Str.ofString "shape_row") (by first | exact rfl | assumption)
            have lk73x8 := mm_at hm73 (Str.ofString "group_row") (by first | exact rfl | assumption)
            clear hm73 FM73
            rename News _ _ _ _ => N1
            rename Fr _ _ _ _ => F1
            refine' kdn_eval (knd := PySem.strKind _ _) F1 N1 ?qb ?qa ?ql ?qe ?qn ?_
            case qb => exact Top.nolimit (by k_asm)
            case qa => rfl
            case ql => rfl
            case qe => exact List.cons_ne_nil _ _
            case qn => exact Nat.le_of_ble_eq_true rfl
            intro d3 h3 o3 F3 N3 l3 lo3 hd3
            repeat ((fail_if_success (with_reducible show wpAny _ _ (call (Value.ref 355) _) _ _ _)); first | ((with_reducible show wpAny _ _ (PySem.exec _ _) _ _ _); k_fold) | ((fail_if_success (fail_if_success k_unfold)); (show wpAny _ _ _ _ _ _); (try dsimp only)) | (k_unfold; (try dsimp only)) | (k_end; wrow_close) | walk1 | (dsimp only; walk1) | (leave1; walk_say "STEP lea"))
            walk1
            rename RowOf (LG _) _ (Row.mk (Str.ofString "svg") _ _ _) => hSyr
            repeat ((fail_if_success (show KdnMade _ _ _ _ _ _ _)); first | ((with_reducible show wpAny _ _ (PySem.exec _ _) _ _ _); k_fold) | ((fail_if_success (fail_if_success k_unfold)); (show wpAny _ _ _ _ _ _); (try dsimp only)) | (k_unfold; (try dsimp only)) | (k_end; wrow_close) | walk1 | (dsimp only; walk1) | (leave1; walk_say "STEP lea"))
            rename (∀ q ∈ _, Heap.get? _ _ = none) => hfr3
            have hf3 := fresh_offN hfr3 N3
            refine' kdn_made_str (by k_asm) (by k_asm) (updF_app hf3 (List.Mem.head _) (UpdF.head fun p hp => Nat.ne_of_lt (l3 p hp))) hd3 rfl ?qn ?_
            case qn => exact of_decide_eq_true (by first | rfl | kernel_rfl!)
            intro h4 o4 F4 N4 hd4
            repeat ((fail_if_success (with_reducible show wpAny _ _ (subscriptTail _ _ (Value.ref _) (Value.str name _)) _ _ _)); first | ((with_reducible show wpAny _ _ (PySem.exec _ _) _ _ _); k_fold) | ((fail_if_success (fail_if_success k_unfold)); (show wpAny _ _ _ _ _ _); (try dsimp only)) | (k_unfold; (try dsimp only)) | (k_end; wrow_close) | walk1 | (dsimp only; walk1) | (leave1; walk_say "STEP lea"))
            k_here
            refine kdt_tail (knd := PySem.strKind _ _) N4 (by k_mem) hd4 (kdt_getItem (knd := PySem.strKind _ _) N4 (by k_mem) hd4 (strKind_is _ _ _ _) (value_pick hnm) ?_)
            obtain ⟨grow, zz⟩ := nth3 N4
            subst zz
            have hGrow := grow_row (iD := iD) N4 (grow := grow) (by k_mem) (by k_mem) (by k_mem) (by k_mem) (by k_mem) (by k_mem) (row_subU N4 hGi (by intro q hq; first | k_extra "sub" | simp only [List.mem_append, List.mem_cons, hq, true_or, or_true]) (by intro q hq; first | k_extra "sub" | simp only [List.mem_append, List.mem_cons, hq, true_or, or_true]))
            have hCp := row_pick (W := W) hnm (row_sub N4 hShr (by intro q hq; first | k_extra "sub" | simp only [List.mem_append, List.mem_cons, hq, true_or, or_true])) hGrow (row_sub N4 hSyr (by intro q hq; first | k_extra "sub" | simp only [List.mem_append, List.mem_cons, hq, true_or, or_true]))
            generalize pickA name shr grow syr = cp at hCp ⊢
            obtain ⟨AL, NA, hK⟩ := pack (P := Known _ src _ _ _ _ bef shr grow cp dd2 iW iD W D name) N4 ⟨by k_mem, el_sub N4 hRoot (by (repeat' (refine sub_app ?_ ?_)) <;> (intro q hq; first | k_extra "sub" | simp only [List.mem_append, List.mem_cons, hq, true_or, or_true])), el_sub N4 hSym (by (repeat' (refine sub_app ?_ ?_)) <;> (intro q hq; first | k_extra "sub" | simp only [List.mem_append, List.mem_cons, hq, true_or, or_true])), el_sub N4 hShape (by (repeat' (refine sub_app ?_ ?_)) <;> (intro q hq; first | k_extra "sub" | simp only [List.mem_append, List.mem_cons, hq, true_or, or_true])), row_sub N4 hBef (by intro q hq; first | k_extra "sub" | simp only [List.mem_append, List.mem_cons, hq, true_or, or_true]), row_sub N4 hShr (by intro q hq; first | k_extra "sub" | simp only [List.mem_append, List.mem_cons, hq, true_or, or_true]), hGrow, hCp, sd_sub N4 hD (by (repeat' (refine sub_app ?_ ?_)) <;> (intro q hq; first | k_extra "sub" | simp only [List.mem_append, List.mem_cons, hq, true_or, or_true]))⟩
            clear N4 hGrow hCp
            repeat ((fail_if_success (with_reducible show wpAny _ _ (call (Value.ref 35) _) _ _ _)); first | ((with_reducible show wpAny _ _ (PySem.exec _ _) _ _ _); k_fold) | ((fail_if_success (fail_if_success k_unfold)); (show wpAny _ _ _ _ _ _); (try dsimp only)) | (k_unfold; (try dsimp only)) | (k_end; wrow_close) | walk1 | (dsimp only; walk1) | (leave1; walk_say "STEP lea"))
            k_here
            rename Fr _ _ _ _ => FM74
            obtain ⟨m74, hm74, FG74⟩ := fr_gen FM74
            have lk74x0 := mm_at hm74 (Str.ofString "source") (by first | exact rfl | assumption)
            have lk74x1 := mm_at hm74 (Str.ofString "symbol") (by first | exact rfl | assumption)
            have lk74x2 := mm_at hm74 (Str.ofString "due") (by first | exact rfl | assumption)
            have lk74x3 := mm_at hm74 (Str.ofString "root") (by first | exact rfl | assumption)
            have lk74x4 := mm_at hm74 (Str.ofString "before") (by first | exact rfl | assumption)
            have lk74x5 := mm_at hm74 (Str.ofString "shape_row") (by first | exact rfl | assumption)
            have lk74x6 := mm_at hm74 (Str.ofString "group_row") (by first | exact rfl | assumption)
            have lk74x7 := mm_at hm74 (Str.ofString "copy") (by first | exact rfl | assumption)
            clear hm74 FM74
            rename News _ _ _ AL => N5
            replace N5 := Keep.mk N5
            repeat (rename (∀ (q : Addr × Obj), q ∈ _ → _) => z; clear z)
            repeat (rename (∀ (b : Addr) (o : Obj), Heap.get? _ b = some o → Heap.get? _ b = some o) => z; clear z)
            repeat (rename (∀ (b : Addr) (o : Obj), Heap.get? _ b = some o → b ≠ _ → Heap.get? _ b = some o) => z; clear z)
            repeat (rename (@LT.lt Nat _ _ _ ∧ _) => z; clear z)
            repeat (rename Obj.IsDictOf _ _ _ => z; clear z)
            repeat (rename PyProof.V.FlatPairs _ _ _ => z; clear z)
            repeat (rename ((_ == sysModules) = false) => z; clear z)
            repeat (rename Shell _ _ _ _ _ _ _ => z; clear z)
            repeat (rename SDict _ _ _ _ => z; clear z)
            repeat (rename RowOf _ _ _ => z; clear z)
            repeat (rename ElOf _ _ _ _ => z; clear z)
            replace N5 := N5.v
            refine' spec_use0 (id_spec _ _ _ _ (LG AL) _ (rootE iW W) (by show 10 ≤ 90; decide) (all_root iW W)) ?q1 ?q2 ?q3 N5 ?q5 ?qK ⟨fun a o q => (N5 _ q).1, hK.2.1⟩ ?qd ?qu ?_
            case q1 => first | k_asm | exact topb_of rfl rfl (by k_asm)
            case q2 => k_asm
            case q3 => k_asm
            case q5 => k_asm
            case qK => exact rfl
            case qd => (k_extra "rm")
            case qu => (k_extra "un")
            intro ri tlI h5 tk5 F6 N6 fr5 st5 hR5
            obtain ⟨di, rfl, hIds⟩ := hR5
            repeat ((fail_if_success (with_reducible show wpAny _ _ (call (Value.ref 278) _) _ _ _)); first | ((with_reducible show wpAny _ _ (PySem.exec _ _) _ _ _); k_fold) | ((fail_if_success (fail_if_success k_unfold)); (show wpAny _ _ _ _ _ _); (try dsimp only)) | (k_unfold; (try dsimp only)) | (k_end; wrow_close) | walk1 | (dsimp only; walk1) | (leave1; walk_say "STEP lea"))
            k_here
            refine' call_cls ?k1 ?k2 ?k3 ?k4 ?k5 ?k6 ?_
            case k1 => k_asm
            case k2 => k_asm
            case k3 => k_asm
            case k4 => k_is
            case k5 => k_is
            case k6 => k_is
            k_whole
            intro xu du h6 F7 N7 l7 l8
            have l7' := l7
            have l8' := l8
            (try k_lt l7')
            (try k_lt2 l8')
            (try k_sweep)
            refine' code_def ?k1 ?k2 ?k3 ?k4 ?k5 ?kA ?kF ?kK ?k6 ?k7 ?k8 ?k9 ?kB ?_ ?c2 ?c3 ?c4 ?c5
            case kA => exact rfl
            case kF => exact rfl
            case kK => exact rfl
            case k1 => k_asm
            case k2 => k_asm
            case k3 => k_asm
            case k4 => k_asm
            case k5 => k_asm
            case k6 => k_is
            case k7 => k_is
            case k8 => first | exact (show 303 < recursionLimit by decide) | exact (show 304 < recursionLimit by decide)
            case k9 => exact binds_K (K := hd.heap_1_39 _) (Frag.In.keeps (by k_asm) F7.keep) rfl (by k_is) rfl rfl rfl
            case c5 => decide
            case kB => exact locs rfl
            case c2 => exact rfl
            case c3 => exact rfl
            case c4 => exact rfl
            k_whole
            intro gU LU hU6 FGU FU NU BU XU TU
            try dsimp only
            try k_lift BU
            try k_fold
            repeat ((fail_if_success (with_reducible show wpAny _ _ (call (Value.ref 268) _) _ _ _)); first | ((with_reducible show wpAny _ _ (PySem.exec _ _) _ _ _); k_fold) | ((fail_if_success (fail_if_success k_unfold)); (show wpAny _ _ _ _ _ _); (try dsimp only)) | (k_unfold; (try dsimp only)) | (k_end; wrow_close) | walk1 | (dsimp only; walk1) | (leave1; walk_say "STEP lea"))
            k_here
            rename News _ _ _ ((_, _) :: _) => N8
            rename Fr _ _ _ _ => F8
            rename Below callerA _ _ _ => K8
            rename Frag.In _ _ => X8
            dsimp only at N8 F8
            rename Heap => hh8
            have hdg := (N8 _ (.tail _ (.head _))).2.2
            have hxd : xu ≠ du := Nat.ne_of_gt l8
            have hG2 : ∀ a o, (a, o) ∈ AL → hh8.get? a = some o ∧ a ≠ du := fun a o q => ⟨(N8 _ (.tail _ (.tail _ (List.mem_append_right _ q)))).1, Nat.ne_of_lt (l7 _ (List.mem_append_right _ q))⟩
            have hI2 : IdsOf w (fun a o => hh8.get? a = some o ∧ a ≠ du) di (idsE (allE (rootE iW W))) := hIds.mono fun a o q => q.elim (hG2 a o) fun q => ⟨(N8 _ (.tail _ (.tail _ (List.mem_append_left _ q)))).1, Nat.ne_of_lt (l7 _ (List.mem_append_left _ q))⟩
            have h262 := X8 262 { cls := .type "tuple", data := .seq (List.toArray []) 0 } (by with_unfolding_all rfl)
            have hdn : ∀ a o, Heap.get? _ a = some o → a ≠ du := fun a o q z => by
              dsimp only at hdg
              rw [z, hdg] at q
              cases q
            obtain ⟨mF, hput⟩ := root_put hnm hiU hU
            have hno : putE (idsE (allE (rootE iW W))) 2000 8 0 [] (rootE iW W) ≠ .off := by rw [hput]; intro q; cases q
            refine pspec_use1 (put_root _ _ _ _ _ 2000 7 (put_all _ _ _ _ _ 2000 7) (fun a o => hh8.get? a = some o ∧ a ≠ du) xu du di [] rr (tS "svg") (tS "") [] _ _ 0 hno UsesO.intro (by decide) (by decide) (by decide) (by decide) (by decide)) K8 F8 X8 N8 (.tail hxd (.head fun p hp => Nat.ne_of_lt (l7 p hp))) (by k_asm) rfl ⟨fun _ _ q => q, ⟨(N8 _ (.head _)).1, hxd⟩, hI2, ⟨[], 0, ⟨F8.keep _ _ h262, hdn _ _ h262⟩, .nil, by decide⟩, hK.2.1.mono hG2⟩ (by (k_extra "rm")) (by (k_extra "un")) ?ret ?exc
            case exc =>
              intro er Ce o' h' tk' hX hx
              k_extra "gn"; (obtain ⟨mm, o4, e4, hU4, hr⟩ := hX) <;> k_unfold
              rcases hr with ⟨_, hl⟩ | ⟨_, hl⟩
              · cases hput.symm.trans hl
              · cases hput.symm.trans hl
            case ret =>
              intro rP tlP oP h9 tk9 F9 N9 fr9 st9 hR
              k_extra "gn"; (obtain ⟨e', m', o4, hr1, z1, z2, hOut, z3, z4⟩ := hR) <;> k_unfold
              obtain ⟨rfl, z5⟩ := Out.ok.inj (hput.symm.trans hr1)
              have hOutL : ElOf w (HG h9) rP (outE iW W name) := hOut.mono fun a o q => q.elim (fun q => st9 a o q.1 q.2) fun q => (N9 _ (List.mem_append_left _ q)).1
              clear hOut hI2 hIds hno hr1 hput z1 z2 z3 z4 z5 N8 F8
              repeat ((fail_if_success (with_reducible show wpAny _ _ (call (Value.ref 336) _) _ _ _)); first | ((with_reducible show wpAny _ _ (PySem.exec _ _) _ _ _); k_fold) | ((fail_if_success (fail_if_success k_unfold)); (show wpAny _ _ _ _ _ _); (try dsimp only)) | (k_unfold; (try dsimp only)) | (k_end; wrow_close) | walk1 | (dsimp only; walk1) | (leave1; walk_say "STEP lea"))
              k_here
              refine' use_row (row20 _ _ _ _ (outE iW W name) _ (out_ok hnm hiU hU).2) ?q1 ?q2 ?q3 N9 ?q5 ?qK hOutL ?qd ?qu ?_
              case q1 => first | k_asm | exact topb_of rfl rfl (by k_asm)
              case q2 => k_asm
              case q3 => k_asm
              case q5 => k_asm
              case qK => exact rfl
              case qd => (k_extra "rm")
              case qu => (k_extra "un")
              intro fnd tlF h10 tk10 F10 N10 fr10 st10 hF
              rw [row_out hnm hiU hU] at hF
              k_extra "gn"; (obtain ⟨BL, NB, hKB, hFB⟩ := pack (P := fun l => Known w src (PySem.W.listOf #[.int a3 ta3, .int b3 tb3] n3) rr sy _ bef shr grow cp dd2 iW iD W D name l ∧ RowOf (LG l) (.ref fnd) (expRow iD W D name)) N10 ⟨hK.mono (by intro q hq; first | k_extra "sub" | simp only [List.mem_append, List.mem_cons, hq, true_or, or_true]), row_sub N10 hF (by intro q hq; first | k_extra "sub" | simp only [List.mem_append, List.mem_cons, hq, true_or, or_true])⟩) <;> k_unfold
              clear hOutL hK hF N9 N10 fr10 st10 fr9 st9 hdn h262 hG2 hdg l7 l8
              repeat ((fail_if_success (with_reducible show wpAny _ _ (call (Value.ref 336) _) _ _ _)); first | ((with_reducible show wpAny _ _ (PySem.exec _ _) _ _ _); k_fold) | ((fail_if_success (fail_if_success k_unfold)); (show wpAny _ _ _ _ _ _); (try dsimp only)) | (k_unfold; (try dsimp only)) | (k_end; wrow_close) | walk1 | (dsimp only; walk1) | (leave1; walk_say "STEP lea"))
              k_here
              rename News _ _ _ _ => NC
              refine' use_row (row20 _ _ _ _ symbolE _ (by show 2 ≤ 20; decide)) ?q1 ?q2 ?q3 NC ?q5 ?qK (hKB.2.2.1.mono fun a o q => (NC _ (.tail _ q)).1) ?qd ?qu ?_
              case q1 => first | k_asm | exact topb_of rfl rfl (by k_asm)
              case q2 => k_asm
              case q3 => k_asm
              case q5 => k_asm
              case qK => exact rfl
              case qd => (k_extra "rm")
              case qu => (k_extra "un")
              intro sy2 tlS h11 tk11 F11 N11 fr11 st11 hS
              clear NC fr11 st11
              repeat ((fail_if_success (with_reducible show wpAny _ _ (call (Value.ref 348) _) _ _ _)); first | ((with_reducible show wpAny _ _ (PySem.exec _ _) _ _ _); k_fold) | ((fail_if_success (fail_if_success k_unfold)); (show wpAny _ _ _ _ _ _); (try dsimp only)) | (k_unfold; (try dsimp only)) | (k_end; wrow_close) | walk1 | (dsimp only; walk1) | (leave1; walk_say "STEP lea"))
              k_here
              rename News _ _ _ _ => NC
              refine' spec_use0 (group_spec _ _ _ _ _ _ D) ?q1 ?q2 ?q3 NC ?q5 ?qK (sd_up hKB.2.2.2.2.2.2.2.2 NC (by intro q hq; first | k_extra "sub" | simp only [List.mem_append, List.mem_cons, hq, true_or, or_true])) ?qd ?qu ?_
              case q1 => first | k_asm | exact topb_of rfl rfl (by k_asm)
              case q2 => k_asm
              case q3 => k_asm
              case q5 => k_asm
              case qK => exact rfl
              case qd => (k_extra "rm")
              case qu => (k_extra "un")
              intro rG tlG h12 tk12 F12 N12 fr12 st12 hG
              have hG := hG _ _ hKB.2.2.2.2.2.2.2.1
              obtain ⟨gr2, rfl⟩ := row_ref hG
              clear NC fr12 st12
              repeat ((fail_if_success (with_reducible show wpAny _ _ (compareOp _ (Value.ref fnd) _) _ _ _)); first | ((with_reducible show wpAny _ _ (PySem.exec _ _) _ _ _); k_fold) | ((fail_if_success (fail_if_success k_unfold)); (show wpAny _ _ _ _ _ _); (try dsimp only)) | (k_unfold; (try dsimp only)) | (k_end; wrow_close) | walk1 | (dsimp only; walk1) | (leave1; walk_say "STEP lea"))
              k_here
              rename News _ _ _ _ => NC
              have hE := exp_rowL (iD := iD) (W := W) (D := D) (name := name) NC (by k_mem) (by k_mem) (by k_mem) (by k_mem) (by k_mem) (by k_mem) (by k_mem) (by k_mem) (by k_mem) (row_sub NC hKB.2.2.2.2.2.1 (by intro q hq; first | k_extra "sub" | simp only [List.mem_append, List.mem_cons, hq, true_or, or_true])) (row_sub NC hKB.2.2.2.2.2.2.1 (by intro q hq; first | k_extra "sub" | simp only [List.mem_append, List.mem_cons, hq, true_or, or_true])) (row_sub NC hS (by intro q hq; first | k_extra "sub" | simp only [List.mem_append, List.mem_cons, hq, true_or, or_true])) (row_subU NC hG (by intro q hq; first | k_extra "sub" | simp only [List.mem_append, List.mem_cons, hq, true_or, or_true]) (by intro q hq; first | k_extra "sub" | simp only [List.mem_append, List.mem_cons, hq, true_or, or_true]))
              refine row_ne (G := LG _) (fun a o q => (NC _ q).1) (row_sub NC hFB (by intro q hq; first | k_extra "sub" | simp only [List.mem_append, List.mem_cons, hq, true_or, or_true])) hE (exp_shaped hnm hiU hU) (show 7 + 64 < cLine by decide) ?_
              obtain ⟨CL, NC, hKC⟩ := pack (P := fun l => Known w src (PySem.W.listOf #[.int a3 ta3, .int b3 tb3] n3) rr sy _ bef shr grow cp dd2 iW iD W D name l) NC (hKB.mono (by intro q hq; first | k_extra "sub" | simp only [List.mem_append, List.mem_cons, hq, true_or, or_true]))
              clear hE hG hS hFB hKB
              repeat ((fail_if_success (with_reducible show wpAny _ _ (call (Value.ref 336) _) _ _ _)); first | ((with_reducible show wpAny _ _ (PySem.exec _ _) _ _ _); k_fold) | ((fail_if_success (fail_if_success k_unfold)); (show wpAny _ _ _ _ _ _); (try dsimp only)) | (k_unfold; (try dsimp only)) | (k_end; wrow_close) | walk1 | (dsimp only; walk1) | (leave1; walk_say "STEP lea"))
              k_here
              rename News _ _ _ _ => NC
              refine' use_row (row20 _ _ _ _ (rootE iW W) _ (by show 10 ≤ 20; decide)) ?q1 ?q2 ?q3 NC ?q5 ?qK (el_up hKC.2.1 NC (by intro q hq; first | k_extra "sub" | simp only [List.mem_append, List.mem_cons, hq, true_or, or_true])) ?qd ?qu ?_
              case q1 => first | k_asm | exact topb_of rfl rfl (by k_asm)
              case q2 => k_asm
              case q3 => k_asm
              case q5 => k_asm
              case qK => exact rfl
              case qd => (k_extra "rm")
              case qu => (k_extra "un")
              intro ra tlS h13 tk13 F13 N13 fr13 st13 hS
              repeat ((fail_if_success (with_reducible show wpAny _ _ (compareOp _ (Value.ref ra) _) _ _ _)); first | ((with_reducible show wpAny _ _ (PySem.exec _ _) _ _ _); k_fold) | ((fail_if_success (fail_if_success k_unfold)); (show wpAny _ _ _ _ _ _); (try dsimp only)) | (k_unfold; (try dsimp only)) | (k_end; wrow_close) | walk1 | (dsimp only; walk1) | (leave1; walk_say "STEP lea"))
              k_here
              rename News _ _ _ _ => NC
              refine row_eq (G := LG _) (fun a o q => (NC _ q).1) (row_sub NC hS (by intro q hq; first | k_extra "sub" | simp only [List.mem_append, List.mem_cons, hq, true_or, or_true])) (row_sub NC hKC.2.2.2.2.1 (by intro q hq; first | k_extra "sub" | simp only [List.mem_append, List.mem_cons, hq, true_or, or_true])) (root_shaped hnm hiU hU) (show 7 + 64 < cLine by decide) ?_
              repeat ((fail_if_success (with_reducible show wpAny _ _ (call (Value.ref 367) _) _ _ _)); first | ((with_reducible show wpAny _ _ (PySem.exec _ _) _ _ _); k_fold) | ((fail_if_success (fail_if_success k_unfold)); (show wpAny _ _ _ _ _ _); (try dsimp only)) | (k_unfold; (try dsimp only)) | (k_end; wrow_close) | walk1 | (dsimp only; walk1) | (leave1; walk_say "STEP lea"))
              k_here
              refine wrong_spec _ _ _ _ src a3 b3 ta3 tb3 n3 ha3 hb3 hc3 _ _ _ _ _ _ _ _ _ _ _ _ _ _ _ _ _ K8 F13 X8 (led_one (d := src) NC (List.mem_append_right _ hKC.1)) (by k_asm) X8 (by k_asm) rfl trivial (by (k_extra "rm")) (by (k_extra "un")) ?_
              intro rW h1 h14 tk14 m14 T14 F14 hr
              subst hr
              have F15 := fr_base T14 F14
              try dsimp only
              try k_unmd
              try k_unfold
              try dsimp only
              exact law_end F15 (by assumption))
end Mine
theorem PySem.Challenge.cw_nu0026_01_holds : PySem.Challenge.rw_nu0026_01.Holds :=
  Mine.law_all
