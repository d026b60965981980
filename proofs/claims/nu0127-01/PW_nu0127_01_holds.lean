import PyProof.Rows.All
import Wide.All
import OpenK.AllK
import Wide.FinOn
import Lean
import PySem.Challenge.RW_nu0127_01
open PySem PySem.W PyProof.Rows PySem.Calls
set_option Elab.async false
namespace Mine
def IsP {H : Prop} (_ : H) : Prop := H
theorem isP {H : Prop} (h : H) : IsP h := h
theorem isP_elim {T H : Prop} {f : T → H} (h : ∀ x, IsP (f x)) : T → H := h
theorem hd0.tw10046214379172474726 : True := trivial
theorem hd0.tw10069731379804114837 : True := trivial
theorem hd0.tw10121685255857489051 : True := trivial
theorem hd0.tw10131604004383188290 : True := trivial
theorem hd0.tw10136247527163813263 : True := trivial
theorem hd0.tw10176971302787931466 : True := trivial
theorem hd0.tw10236485129801162741 : True := trivial
theorem hd0.tw10260036693505685281 : True := trivial
theorem hd0.tw10272058630525278733 : True := trivial
theorem hd0.tw10297934492154968163 : True := trivial
theorem hd0.tw10299701338536963064 : True := trivial
theorem hd0.tw10542246809792872130 : True := trivial
theorem hd0.tw10566386253777865092 : True := trivial
theorem hd0.tw10679606280593905679 : True := trivial
theorem hd0.tw10702419455615826468 : True := trivial
theorem hd0.tw10722490830574553991 : True := trivial
theorem hd0.tw10763176690372330244 : True := trivial
theorem hd0.tw1078058097833363317 : True := trivial
theorem hd0.tw10783142842391291914 : True := trivial
theorem hd0.tw10831172887324590962 : True := trivial
theorem hd0.tw10834066803405267298 : True := trivial
theorem hd0.tw1087435185961119440 : True := trivial
theorem hd0.tw10893015288667660014 : True := trivial
theorem hd0.tw10950015098503667 : True := trivial
theorem hd0.tw11017282251955597146 : True := trivial
theorem hd0.tw11064160589316715639 : True := trivial
theorem hd0.tw11119462899506271795 : True := trivial
theorem hd0.tw11129907215468651723 : True := trivial
theorem hd0.tw11237116216057311745 : True := trivial
theorem hd0.tw11249123509674406191 : True := trivial
theorem hd0.tw11296317026604976579 : True := trivial
theorem hd0.tw11342738394816991558 : True := trivial
theorem hd0.tw113680085351987624 : True := trivial
theorem hd0.tw1144143789490447932 : True := trivial
theorem hd0.tw11510660921149772417 : True := trivial
theorem hd0.tw11532703464391966607 : True := trivial
theorem hd0.tw11573459230172034977 : True := trivial
theorem hd0.tw11614672710775262937 : True := trivial
theorem hd0.tw1167153357290378160 : True := trivial
theorem hd0.tw11713894155979806921 : True := trivial
theorem hd0.tw11759931035086368862 : True := trivial
theorem hd0.tw1176053044683504432 : True := trivial
theorem hd0.tw11772256920040780592 : True := trivial
theorem hd0.tw11778973446423218807 : True := trivial
theorem hd0.tw11810131695468439018 : True := trivial
theorem hd0.tw11837375871785574032 : True := trivial
theorem hd0.tw1189054894648436682 : True := trivial
theorem hd0.tw1191622958437496830 : True := trivial
theorem hd0.tw12003068471920674386 : True := trivial
theorem hd0.tw12014350970595483805 : True := trivial
theorem hd0.tw12042970921518469988 : True := trivial
theorem hd0.tw12056577157831287533 : True := trivial
theorem hd0.tw12118671535382520970 : True := trivial
theorem hd0.tw12158446373679332284 : True := trivial
theorem hd0.tw12267492742709321793 : True := trivial
theorem hd0.tw12274314036958901727 : True := trivial
theorem hd0.tw12322794258418571040 : True := trivial
theorem hd0.tw1237551924186500246 : True := trivial
theorem hd0.tw12457655390460550545 : True := trivial
theorem hd0.tw12482913051474129847 : True := trivial
theorem hd0.tw12607126878928665686 : True := trivial
theorem hd0.tw12753557443971426460 : True := trivial
theorem hd0.tw12782592981888142045 : True := trivial
theorem hd0.tw12784123285358203314 : True := trivial
theorem hd0.tw1280484567907817961 : True := trivial
theorem hd0.tw12933712334415985070 : True := trivial
theorem hd0.tw12949994812025541312 : True := trivial
theorem hd0.tw13008693350213662659 : True := trivial
theorem hd0.tw13012256603424907846 : True := trivial
theorem hd0.tw13130983519766148356 : True := trivial
theorem hd0.tw13143500989680652158 : True := trivial
theorem hd0.tw13198788859858803882 : True := trivial
theorem hd0.tw13396925332426190305 : True := trivial
theorem hd0.tw13407135678810255579 : True := trivial
theorem hd0.tw1347276711482885108 : True := trivial
theorem hd0.tw1347409029562170106 : True := trivial
theorem hd0.tw13545224959385804456 : True := trivial
theorem hd0.tw1359104647744391194 : True := trivial
theorem hd0.tw1371689408390092745 : True := trivial
theorem hd0.tw13774004877433310113 : True := trivial
theorem hd0.tw13786618180910815691 : True := trivial
theorem hd0.tw13823000061887915914 : True := trivial
theorem hd0.tw13860332498241106628 : True := trivial
theorem hd0.tw1389663046417831361 : True := trivial
theorem hd0.tw13929583824512669342 : True := trivial
theorem hd0.tw13969635912206726010 : True := trivial
theorem hd0.tw1405133032699174042 : True := trivial
theorem hd0.tw14069131116232622754 : True := trivial
theorem hd0.tw14115321166360365155 : True := trivial
theorem hd0.tw14133583787211923317 : True := trivial
theorem hd0.tw14139502865228493775 : True := trivial
theorem hd0.tw14198383729236097778 : True := trivial
theorem hd0.tw14210159926740337751 : True := trivial
theorem hd0.tw14298012290074134488 : True := trivial
theorem hd0.tw14341870401148061235 : True := trivial
theorem hd0.tw14364967241312749879 : True := trivial
theorem hd0.tw14397348241044380734 : True := trivial
theorem hd0.tw14449037358852596738 : True := trivial
theorem hd0.tw14469414521783600489 : True := trivial
theorem hd0.tw14487139744964632365 : True := trivial
theorem hd0.tw1450596053491749582 : True := trivial
theorem hd0.tw14574581053450234351 : True := trivial
theorem hd0.tw14693713190999327560 : True := trivial
theorem hd0.tw14707159364453948219 : True := trivial
theorem hd0.tw14708056100453182282 : True := trivial
theorem hd0.tw14727694407236729852 : True := trivial
theorem hd0.tw14751195016474515691 : True := trivial
theorem hd0.tw14816634249844379933 : True := trivial
theorem hd0.tw14861641958691549802 : True := trivial
theorem hd0.tw1489290327475714230 : True := trivial
theorem hd0.tw14943190808241422403 : True := trivial
theorem hd0.tw14997161635575945179 : True := trivial
theorem hd0.tw1500556042865797202 : True := trivial
theorem hd0.tw15129630465062437422 : True := trivial
theorem hd0.tw15134839469752433495 : True := trivial
theorem hd0.tw15200775214083542848 : True := trivial
theorem hd0.tw15231096910501823895 : True := trivial
theorem hd0.tw15233396900245208191 : True := trivial
theorem hd0.tw15248397019474160181 : True := trivial
theorem hd0.tw15429971745270200749 : True := trivial
theorem hd0.tw15543821095186356926 : True := trivial
theorem hd0.tw15549164469732841750 : True := trivial
theorem hd0.tw15617416376691679683 : True := trivial
theorem hd0.tw1562688426800042800 : True := trivial
theorem hd0.tw15726108546692610502 : True := trivial
theorem hd0.tw15728283652489511788 : True := trivial
theorem hd0.tw15764005096722370900 : True := trivial
theorem hd0.tw15781893600449674551 : True := trivial
theorem hd0.tw15783581761236437582 : True := trivial
theorem hd0.tw15786525453032505339 : True := trivial
theorem hd0.tw1597637715128213681 : True := trivial
theorem hd0.tw1601430817000102872 : True := trivial
theorem hd0.tw16057218211864961754 : True := trivial
theorem hd0.tw16112012934339231772 : True := trivial
theorem hd0.tw16112634630230434484 : True := trivial
theorem hd0.tw16255563409837272293 : True := trivial
theorem hd0.tw16269486087580614188 : True := trivial
theorem hd0.tw16356745440860276358 : True := trivial
theorem hd0.tw16381550347020097468 : True := trivial
theorem hd0.tw16426948963021806353 : True := trivial
theorem hd0.tw16427158468746511654 : True := trivial
theorem hd0.tw16480236498267893192 : True := trivial
theorem hd0.tw16577491470658047865 : True := trivial
theorem hd0.tw16799398214865156367 : True := trivial
theorem hd0.tw16866877141584463672 : True := trivial
theorem hd0.tw1690223966290365743 : True := trivial
theorem hd0.tw16912591420726631485 : True := trivial
theorem hd0.tw16945641315097055003 : True := trivial
theorem hd0.tw16965341205158008236 : True := trivial
theorem hd0.tw1700567991170962110 : True := trivial
theorem hd0.tw17011805984709885637 : True := trivial
theorem hd0.tw17043531303389682065 : True := trivial
theorem hd0.tw17087212701041150630 : True := trivial
theorem hd0.tw1711921733434153721 : True := trivial
theorem hd0.tw17132104802792603634 : True := trivial
theorem hd0.tw17167256753883008182 : True := trivial
theorem hd0.tw17310554660023955137 : True := trivial
theorem hd0.tw17327177587765197472 : True := trivial
theorem hd0.tw17529906274252830889 : True := trivial
theorem hd0.tw17564057355376757762 : True := trivial
theorem hd0.tw17637000432345029825 : True := trivial
theorem hd0.tw17703592380641002728 : True := trivial
theorem hd0.tw17705790862779081903 : True := trivial
theorem hd0.tw17763732069537761205 : True := trivial
theorem hd0.tw17781076316100833504 : True := trivial
theorem hd0.tw17788234752527007362 : True := trivial
theorem hd0.tw1779554380871787090 : True := trivial
theorem hd0.tw17828249871568911703 : True := trivial
theorem hd0.tw17984987178924691041 : True := trivial
theorem hd0.tw17998732546299578792 : True := trivial
theorem hd0.tw18078784917974338621 : True := trivial
theorem hd0.tw18098247460298835536 : True := trivial
theorem hd0.tw18132021507681513943 : True := trivial
theorem hd0.tw18134629352650391119 : True := trivial
theorem hd0.tw18143006822010427664 : True := trivial
theorem hd0.tw1817164187568313849 : True := trivial
theorem hd0.tw18184378558241788753 : True := trivial
theorem hd0.tw1825929278167054478 : True := trivial
theorem hd0.tw1830908064365640755 : True := trivial
theorem hd0.tw18310740603297040469 : True := trivial
theorem hd0.tw18353199073579788961 : True := trivial
theorem hd0.tw18416291653570748741 : True := trivial
theorem hd0.tw1842381645623777423 : True := trivial
theorem hd0.tw18430945745249023057 : True := trivial
theorem hd0.tw1958745321591857818 : True := trivial
theorem hd0.tw1964151592259241686 : True := trivial
theorem hd0.tw1967676767884184963 : True := trivial
theorem hd0.tw2008372144067494435 : True := trivial
theorem hd0.tw201601121702685456 : True := trivial
theorem hd0.tw2080979622161356455 : True := trivial
theorem hd0.tw208745692366851961 : True := trivial
theorem hd0.tw2093440984422149139 : True := trivial
theorem hd0.tw2128425038151221735 : True := trivial
theorem hd0.tw2202114373748815983 : True := trivial
theorem hd0.tw2280702184356970510 : True := trivial
theorem hd0.tw2290972259769597638 : True := trivial
theorem hd0.tw2329996539569397640 : True := trivial
theorem hd0.tw2338661219346607142 : True := trivial
theorem hd0.tw241197298611353260 : True := trivial
theorem hd0.tw2431039718480141022 : True := trivial
theorem hd0.tw2510589942101626497 : True := trivial
theorem hd0.tw2510654449352665463 : True := trivial
theorem hd0.tw2735401655943086511 : True := trivial
theorem hd0.tw2738655298557570645 : True := trivial
theorem hd0.tw2784943137000400733 : True := trivial
theorem hd0.tw2808911380250203912 : True := trivial
theorem hd0.tw2827288076518157466 : True := trivial
theorem hd0.tw2834553128231939821 : True := trivial
theorem hd0.tw284370698878744938 : True := trivial
theorem hd0.tw2846630024949705071 : True := trivial
theorem hd0.tw2860899101727606338 : True := trivial
theorem hd0.tw2919583234286436895 : True := trivial
theorem hd0.tw2920931838809075660 : True := trivial
theorem hd0.tw309277354587492579 : True := trivial
theorem hd0.tw3153493263474777528 : True := trivial
theorem hd0.tw3178646243906574223 : True := trivial
theorem hd0.tw3198289665323921157 : True := trivial
theorem hd0.tw3233326631691786436 : True := trivial
theorem hd0.tw3361144743427637995 : True := trivial
theorem hd0.tw3369087671447212929 : True := trivial
theorem hd0.tw3404567561779638057 : True := trivial
theorem hd0.tw3465554795787012971 : True := trivial
theorem hd0.tw3466419429004618768 : True := trivial
theorem hd0.tw3478441296818514767 : True := trivial
theorem hd0.tw3525650266765315696 : True := trivial
theorem hd0.tw3563376653281826072 : True := trivial
theorem hd0.tw3577928350658445783 : True := trivial
theorem hd0.tw3640104315449746964 : True := trivial
theorem hd0.tw3641787699958872423 : True := trivial
theorem hd0.tw3687058039446345037 : True := trivial
theorem hd0.tw3687841886611527418 : True := trivial
theorem hd0.tw3771890792122485445 : True := trivial
theorem hd0.tw3801730876566874525 : True := trivial
theorem hd0.tw3801753739915242578 : True := trivial
theorem hd0.tw3832096840286635077 : True := trivial
theorem hd0.tw3949515639412079851 : True := trivial
theorem hd0.tw4061320783067801059 : True := trivial
theorem hd0.tw4116054870980984685 : True := trivial
theorem hd0.tw4192044030403024501 : True := trivial
theorem hd0.tw4195005255235515290 : True := trivial
theorem hd0.tw4301605040222552612 : True := trivial
theorem hd0.tw4345986799964169788 : True := trivial
theorem hd0.tw4362339590307168383 : True := trivial
theorem hd0.tw447684426723917565 : True := trivial
theorem hd0.tw4505414625599408467 : True := trivial
theorem hd0.tw4509526690794525690 : True := trivial
theorem hd0.tw4539016668912386218 : True := trivial
theorem hd0.tw4550181199752876123 : True := trivial
theorem hd0.tw4562695010225406382 : True := trivial
theorem hd0.tw4582842965409387306 : True := trivial
theorem hd0.tw4632445285567490079 : True := trivial
theorem hd0.tw463379757040502600 : True := trivial
theorem hd0.tw4663038693165263023 : True := trivial
theorem hd0.tw4691257246625332865 : True := trivial
theorem hd0.tw4747281084397564757 : True := trivial
theorem hd0.tw474916242839058 : True := trivial
theorem hd0.tw4837166207565515596 : True := trivial
theorem hd0.tw4863585562482331352 : True := trivial
theorem hd0.tw4864754268065981865 : True := trivial
theorem hd0.tw4909664616505572318 : True := trivial
theorem hd0.tw4958161400511572651 : True := trivial
theorem hd0.tw4964845553990846222 : True := trivial
theorem hd0.tw4983706646000405154 : True := trivial
theorem hd0.tw5009392681941405746 : True := trivial
theorem hd0.tw5057337168837947518 : True := trivial
theorem hd0.tw5099789754451425677 : True := trivial
theorem hd0.tw5145303074121384310 : True := trivial
theorem hd0.tw5336939312866089149 : True := trivial
theorem hd0.tw5341192815897622196 : True := trivial
theorem hd0.tw5353220722972676460 : True := trivial
theorem hd0.tw5364393782896679965 : True := trivial
theorem hd0.tw5366906053448781924 : True := trivial
theorem hd0.tw539940733940218950 : True := trivial
theorem hd0.tw5428070130070536091 : True := trivial
theorem hd0.tw5429866549726478036 : True := trivial
theorem hd0.tw545614883460498859 : True := trivial
theorem hd0.tw5487660210450000937 : True := trivial
theorem hd0.tw5583339228994031707 : True := trivial
theorem hd0.tw5677135109947497480 : True := trivial
theorem hd0.tw5795620790108031851 : True := trivial
theorem hd0.tw5851460317537991607 : True := trivial
theorem hd0.tw5873444610005042059 : True := trivial
theorem hd0.tw6014977574509414443 : True := trivial
theorem hd0.tw6070584094110415979 : True := trivial
theorem hd0.tw6302951332473218875 : True := trivial
theorem hd0.tw6304940225609730636 : True := trivial
theorem hd0.tw6326191274288118561 : True := trivial
theorem hd0.tw6414887533649200790 : True := trivial
theorem hd0.tw650764759088172349 : True := trivial
theorem hd0.tw6518245875282815045 : True := trivial
theorem hd0.tw6538509518478292348 : True := trivial
theorem hd0.tw6595308224653121280 : True := trivial
theorem hd0.tw6643238626148955698 : True := trivial
theorem hd0.tw6811188038993529759 : True := trivial
theorem hd0.tw6865537962405302380 : True := trivial
theorem hd0.tw6974484485679511188 : True := trivial
theorem hd0.tw7026590804218146370 : True := trivial
theorem hd0.tw7079748053240274874 : True := trivial
theorem hd0.tw7226121837844521555 : True := trivial
theorem hd0.tw7236157760442490695 : True := trivial
theorem hd0.tw7237386881181516464 : True := trivial
theorem hd0.tw7288751869163876638 : True := trivial
theorem hd0.tw7359261033328424013 : True := trivial
theorem hd0.tw7415385052924869713 : True := trivial
theorem hd0.tw7493280530175958909 : True := trivial
theorem hd0.tw7579484373256523769 : True := trivial
theorem hd0.tw7609028302745033977 : True := trivial
theorem hd0.tw7614193382627860833 : True := trivial
theorem hd0.tw7647748658271166302 : True := trivial
theorem hd0.tw7731734453053413589 : True := trivial
theorem hd0.tw7746724291664459861 : True := trivial
theorem hd0.tw7808699968346434859 : True := trivial
theorem hd0.tw7826759426205029736 : True := trivial
theorem hd0.tw7836344262993359910 : True := trivial
theorem hd0.tw7895234915340226546 : True := trivial
theorem hd0.tw7899677334849272793 : True := trivial
theorem hd0.tw7937780131228529215 : True := trivial
theorem hd0.tw8016032594811649588 : True := trivial
theorem hd0.tw8021989280010895897 : True := trivial
theorem hd0.tw8052174542758884176 : True := trivial
theorem hd0.tw8053029068741257462 : True := trivial
theorem hd0.tw8066634004926191738 : True := trivial
theorem hd0.tw8077860469154291183 : True := trivial
theorem hd0.tw8239782323564299538 : True := trivial
theorem hd0.tw8330566291976316301 : True := trivial
theorem hd0.tw8335509276093603395 : True := trivial
theorem hd0.tw8412496611741829076 : True := trivial
theorem hd0.tw8413799840646086991 : True := trivial
theorem hd0.tw8464541185895156213 : True := trivial
theorem hd0.tw8503028519756171898 : True := trivial
theorem hd0.tw8548193846160381696 : True := trivial
theorem hd0.tw866052350247734544 : True := trivial
theorem hd0.tw8708807820475274586 : True := trivial
theorem hd0.tw8785302206795578915 : True := trivial
theorem hd0.tw8907265306392417265 : True := trivial
theorem hd0.tw891186494875849158 : True := trivial
theorem hd0.tw9001251600818444179 : True := trivial
theorem hd0.tw901327545473398541 : True := trivial
theorem hd0.tw9056650140919055547 : True := trivial
theorem hd0.tw906593335335552129 : True := trivial
theorem hd0.tw9126222054196385890 : True := trivial
theorem hd0.tw9454721371543059285 : True := trivial
theorem hd0.tw9526941815458186415 : True := trivial
theorem hd0.tw9563851893216371074 : True := trivial
theorem hd0.tw961968547571948100 : True := trivial
theorem hd0.tw9636976457204810352 : True := trivial
theorem hd0.tw9777354187630944624 : True := trivial
theorem hd0.tw9802666196054454208 : True := trivial
theorem hd0.tw9846644877726163059 : True := trivial
theorem hd0.tw9915369828831269134 : True := trivial
theorem hl0.tw11129907215468651723 : True := trivial
theorem hl0.tw3369087671447212929 : True := trivial
set_option Elab.async true
set_option maxRecDepth 100000 in
set_option maxHeartbeats 8000000 in
theorem hd0 : True := by
  clear hd0
  refine (?f : ∀ (p : PySem.Challenge.rw_nu0127_01.row.Holds), (IsP p ∧ True) → True) ?p ⟨?q, (True.intro : (fun (_ : _) => True) ?W)⟩
  case f => exact fun _ _ => True.intro
  case p =>
    w_on
    k_head
    (case hw => w_witness2)
    exact ?W
  generalize ?W = x
  revert x
  as_aux_lemma => exact fun x => isP _
set_option Elab.async false
set_option Elab.async true
set_option maxRecDepth 100000 in
theorem hl0 (h : PySem.Challenge.rw_nu0127_01.row.Holds) : PySem.Challenge.rw_nu0127_01.Holds := by
  w_on
  o_law
  exact h
set_option Elab.async false
set_option maxRecDepth 100000
theorem fill0 : PySem.Challenge.rw_nu0127_01.Holds = PySem.Challenge.rw_nu0127_01.Holds ∧ hd0.heap_1_1 = hd0.heap_1_1 := by
  k_fill
  exact ⟨rfl, rfl⟩
local macro_rules | `(tactic| walk_at $s:str) => `(tactic| k_extra $s)
local macro_rules | `(tactic| ktr_room) => `(tactic| k_extra "ktr_room")
local macro_rules | `(tactic| k_all) => `(tactic| k_extra "k_all")
local macro_rules | `(tactic| k_ne) => `(tactic| k_extra "k_ne")
local macro_rules | `(tactic| k_get) => `(tactic| k_extra "k_get")
local macro_rules | `(tactic| ktr_units) => `(tactic| k_extra "ktr_units")
local macro_rules | `(tactic| k_mem) => `(tactic| k_extra "k_mem")

/-- the surroundings of a call: the frame, the ledger, the written part, room -/
def Cx (w : World) (A : Around) (D U : Nat) (h₀ : Heap) (L : Addr) (m : Str → Option Value) (news : List (Addr × Obj)) (s : Shared) : Prop :=
  ∃ (dp un : Nat) (gd : Option (List Code)) (cn : Str) (cs : Scope) (a : Addr) (ccd : Value) (cl : List (Str × Addr)) (outer : List Env) (A₀ : Around) (base : Heap)
    (mg mb : Str → Option Value) (mean : ExcName → Option Value) (loose : List Str),
    A = ktrTop dp un gd cn cs L a ccd cl outer ∧ Below A₀ base outer h₀ ∧ Fr h₀ L s.heap m ∧ (hd0.heap_1_1 w.params).In h₀ ∧ News h₀ L s.heap news ∧ Top hd0.view_1_2 loose mean mg mb h₀ ∧
    cs.kind = .function ∧ dp + D < recursionLimit ∧ un + U < cLine
theorem cx_mk {w : World} {D U : Nat} {h₀ : Heap} {L : Addr} {m : Str → Option Value} {news : List (Addr × Obj)} {s : Shared} {dp un : Nat} {gd : Option (List Code)} {cn : Str} {cs : Scope} {a : Addr} {ccd : Value} {cl : List (Str × Addr)} {outer : List Env} {A₀ : Around} {base : Heap}
    {mg mb : Str → Option Value} {mean : ExcName → Option Value} {loose : List Str}
    (B : Below A₀ base outer h₀) (F : Fr h₀ L s.heap m) (X : (hd0.heap_1_1 w.params).In h₀) (N : News h₀ L s.heap news) (T : Top hd0.view_1_2 loose mean mg mb h₀) (hk : cs.kind = .function) (hdp : dp + D < recursionLimit) (hun : un + U < cLine) :
    Cx w (ktrTop dp un gd cn cs L a ccd cl outer) D U h₀ L m news s := ⟨dp, un, gd, cn, cs, a, ccd, cl, outer, A₀, base, mg, mb, mean, loose, rfl, B, F, X, N, T, hk, hdp, hun⟩
theorem Cx.elim {w : World} {A : Around} {D U : Nat} {h₀ : Heap} {L : Addr} {m : Str → Option Value} {news : List (Addr × Obj)} {s : Shared} {P : Around → Prop} (C : Cx w A D U h₀ L m news s)
    (k : ∀ (dp un : Nat) (gd : Option (List Code)) (cn : Str) (cs : Scope) (a : Addr) (ccd : Value) (cl : List (Str × Addr)) (outer : List Env) (A₀ : Around) (base : Heap) (mg mb : Str → Option Value) (mean : ExcName → Option Value) (loose : List Str),
      Below A₀ base outer h₀ → Fr h₀ L s.heap m → (hd0.heap_1_1 w.params).In h₀ → News h₀ L s.heap news → Top hd0.view_1_2 loose mean mg mb h₀ → cs.kind = .function → dp + D < recursionLimit → un + U < cLine → P (ktrTop dp un gd cn cs L a ccd cl outer)) : P A := by
  obtain ⟨dp, un, gd, cn, cs, a, ccd, cl, outer, A₀, base, mg, mb, mean, loose, rfl, B, F, X, N, T, hk, hdp, hun⟩ := C
  exact k dp un gd cn cs a ccd cl outer A₀ base mg mb mean loose B F X N T hk hdp hun
theorem u8abs (c : UInt8) : ((c.toNat : Nat) : Int).natAbs < 2 ^ 64 := by
  have := UInt8.toNat_lt c
  lia
theorem allLt_ne {d : Addr} {l : List (Addr × Obj)} (h : AllLt d l) : ∀ p ∈ l, p.1 ≠ d := fun p hp => Nat.ne_of_lt (ktn_ltOf h p hp)
theorem allLt_lt {d : Addr} {l : List (Addr × Obj)} (h : AllLt d l) : ∀ p ∈ l, p.1 < d := ktn_ltOf h
theorem lt_ne_of {d : Addr} {l : List (Addr × Obj)} (h : ∀ p ∈ l, p.1 < d) : ∀ p ∈ l, p.1 ≠ d := fun p hp => Nat.ne_of_lt (h p hp)
theorem gt_ne_of {d : Addr} {l : List (Addr × Obj)} (h : ∀ p ∈ l, d < p.1) : ∀ p ∈ l, p.1 ≠ d := fun p hp => Nat.ne_of_gt (h p hp)
theorem unrEnd_at {h₀ h' : Heap} {L I : Addr} {it : Obj} {rest : (Str → Option Value) → List (Addr × Obj) → Prop} {s₁ : Shared} {tk : Nat} {m' : Str → Option Value} {news' : List (Addr × Obj)}
    (F : Fr h₀ L h' m') (N : News h₀ L h' ((I, it) :: news')) (off : ∀ p ∈ news', p.1 ≠ I) (r : rest m' news') : UnrEnd h₀ L s₁ I it rest { s₁ with heap := h', toks := tk } := ⟨h', tk, m', news', rfl, F, N, off, r⟩
theorem set_set {x : Str} {a b : Option Value} {m : Str → Option Value} : (fun y => if y = x then a else if y = x then b else m y) = fun y => if y = x then a else m y := by
  funext y
  by_cases h : y = x <;> simp [h]
def Keep (P : Prop) : Prop := P
section
variable {α : Type} {l r A B e : List α} {x i y : α}
theorem pm1 : ∀ p ∈ x :: (l ++ r), p ∈ l ++ x :: r := fun _ h => List.perm_middle.symm.subset h
theorem pm2 : ∀ p ∈ l ++ x :: r, p ∈ x :: (l ++ r) := fun _ h => List.perm_middle.subset h
theorem pm3 : ∀ p ∈ i :: (A ++ (B ++ (e ++ r))), p ∈ A ++ (e ++ (B ++ i :: r)) := fun p hp => by
  simp only [List.mem_cons, List.mem_append] at hp ⊢
  rcases hp with h | h | h | h | h <;> simp only [h, true_or, or_true]
theorem pm4 : ∀ p ∈ x :: i :: (A ++ (e ++ r)), p ∈ x :: (e ++ i :: (A ++ r)) := fun p hp => by
  simp only [List.mem_cons, List.mem_append] at hp ⊢
  rcases hp with h | h | h | h | h <;> simp only [h, true_or, or_true]
theorem pm5 : ∀ p ∈ A ++ y :: x :: (B ++ r), p ∈ x :: (A ++ (B ++ y :: r)) := fun p hp => by
  simp only [List.mem_cons, List.mem_append] at hp ⊢
  rcases hp with h | h | h | h | h <;> simp only [h, true_or, or_true]
theorem pm6 : ∀ p ∈ x :: (A ++ (B ++ y :: r)), p ∈ A ++ y :: x :: (B ++ r) := fun p hp => by
  simp only [List.mem_cons, List.mem_append] at hp ⊢
  rcases hp with h | h | h | h | h <;> simp only [h, true_or, or_true]
end
theorem al_cons {x : Addr × Obj} {X : Addr} {r : List (Addr × Obj)} (h : x.1 ≠ X) (k : ∀ p ∈ r, p.1 ≠ X) : ∀ p ∈ x :: r, p.1 ≠ X := fun p hp => by
  rcases List.mem_cons.mp hp with rfl | hp
  · exact h
  · exact k p hp
theorem nroom {d c R s : Nat} (h : d + c < R) (e : Nat.ble s c = true) : d + s < R := Nat.lt_of_le_of_lt (Nat.add_le_add_left (Nat.le_of_ble_eq_true e) d) h
section
variable {dp un : Nat} {gd : Option (List Code)} {cn : Str} {cs : Scope} {L a : Addr} {ccd : Value} {cl : List (Str × Addr)} {outer : List Env} {c x y z : Nat}
theorem kroom0 (h : dp + c < recursionLimit) : (ktrTop dp un gd cn cs L a ccd cl outer).depth < recursionLimit := by
  show dp < _
  exact Nat.lt_of_le_of_lt (Nat.le_add_right _ _) h
theorem kroom1 (h : dp + c < recursionLimit) (e : Nat.ble (x) c = true) : (ktrTop dp un gd cn cs L a ccd cl outer).depth + x < recursionLimit := by
  show dp + x < _
  exact nroom h e
theorem kroom2 (h : dp + c < recursionLimit) (e : Nat.ble (x + y) c = true) : (ktrTop dp un gd cn cs L a ccd cl outer).depth + x + y < recursionLimit := by
  show dp + x + y < _
  rw [Nat.add_assoc]
  exact nroom h e
theorem kroom3 (h : dp + c < recursionLimit) (e : Nat.ble (x + y + z) c = true) : (ktrTop dp un gd cn cs L a ccd cl outer).depth + x + y + z < recursionLimit := by
  show dp + x + y + z < _
  rw [Nat.add_assoc, Nat.add_assoc]
  exact nroom h (by rw [← Nat.add_assoc]; exact e)
theorem kunit0 (h : un + c < cLine) : (ktrTop dp un gd cn cs L a ccd cl outer).units < cLine := by
  show un < _
  exact Nat.lt_of_le_of_lt (Nat.le_add_right _ _) h
theorem kunit1 (h : un + c < cLine) (e : Nat.ble (x) c = true) : (ktrTop dp un gd cn cs L a ccd cl outer).units + x < cLine := by
  show un + x < _
  exact nroom h e
theorem kunit2 (h : un + c < cLine) (e : Nat.ble (x + y) c = true) : (ktrTop dp un gd cn cs L a ccd cl outer).units + x + y < cLine := by
  show un + x + y < _
  rw [Nat.add_assoc]
  exact nroom h e
theorem kunit3 (h : un + c < cLine) (e : Nat.ble (x + y + z) c = true) : (ktrTop dp un gd cn cs L a ccd cl outer).units + x + y + z < cLine := by
  show un + x + y + z < _
  rw [Nat.add_assoc, Nat.add_assoc]
  exact nroom h (by rw [← Nat.add_assoc]; exact e)
end
theorem reg_head_1 : True := by
  (k_with "off" => (first | assumption | exact lt_ne_of (by assumption) | exact gt_ne_of (by assumption) | exact allLt_ne (by assumption) | ((repeat (rename (_ ∧ _) => hcj; cases hcj)); first | assumption | exact allLt_ne (by assumption) | exact lt_ne_of (by assumption) | exact gt_ne_of (by assumption))))
  (k_with "k_all" => (k_extra "off"))
  (k_with "UnrEnd" => ((refine unrEnd_at (by assumption) (by assumption) ?_ ?_; k_all)))
  (k_with "cx_now" => ((refine' cx_mk ?zzb ?zzf ?zzx ?zzn ?zzt ?zzk ?zzd ?zzu; (case zzb => k_asm); (case zzf => k_asm); (case zzx => k_asm); (case zzn => k_asm); (case zzt => k_asm); (case zzk => first | exact rfl | assumption); (case zzd => ktr_room); (case zzu => ktr_units))))
  (k_with "led" => (first | assumption | exact cb_drop (by assumption) (fun p hp => List.mem_cons_of_mem _ hp) | (refine cb_drop (by assumption) ?_; intro p hp; simp only [List.mem_cons, List.mem_append, hp, or_true, true_or])))
  (k_with "subscriptTail Name Name bytes int" => ((k_dflt (refine' KBy.item_N ?zzh1 ?zzh2 ?zzh3 ?_; (case zzh1 => lia); (case zzh2 => lia); (case zzh3 => lia)))))
  (k_with "subscriptTail Name BinOp bytes int" => ((k_dflt (refine' KBy.item_N ?zzh1 ?zzh2 ?zzh3 ?_; (case zzh1 => lia); (case zzh2 => lia); (case zzh3 => lia)))))
  (k_with "binaryOp LShift int int" => ((k_dflt (refine' lshift_int_small ?zzh1 ?zzh2 ?zzh3 ?_; (case zzh1 => first | lia | decide); (case zzh2 => first | lia | decide); (case zzh3 => first | lia | decide | exact u8abs _)))))
  (k_with "enterC" => ((refine' code_defC ?zzk1 ?zzk2 ?zzk3 ?zzk4 ?zzk5 ?zzkA ?zzkF ?zzkK ?zzk6 ?zzk7 ?zzk8 ?zzk9 ?zzkB ?zzkD ?_ ?zzc2 ?zzc3 ?zzc4; (case zzkA => exact rfl); (case zzkF => exact rfl); (case zzkK => first | exact rfl | assumption); (case zzk1 => k_asm); (case zzk2 => k_asm); (case zzk3 => k_asm); (case zzk4 => k_asm); (case zzk5 => k_asm); (case zzk6 => k_is); (case zzk7 => k_is); (case zzk8 => ktr_room); (case zzk9 => first | exact BindsTo.of_eq rfl | exact binds_K (by k_in) rfl (by k_is) rfl rfl rfl); (case zzkB => exact rfl); (case zzkD => decide +kernel); (case zzc2 => exact rfl); (case zzc3 => exact rfl); (case zzc4 => exact rfl); k_whole; intro g' L' h' tk' cells' FG' F' N' Y' B' X' T' l1; (try k_lt l1); k_cells Y'; (try simp only [List.cons_append, List.nil_append] at N'); (try dsimp only); (try k_lift B'); (try k_fold))))
  (k_with "call type:bytes" => (((with_reducible show wpAny _ _ (call (Value.type "bytes") [Value.ref _]) _ _ _); k_dflt (refine' bytes_K ?zzF ?zzN ?zzl ?zzi ?zzr ?zzz ?zzh ?_; (case zzF => k_asm); (case zzN => k_asm); (case zzl => is_list); (case zzi => l_ints); (case zzr => k_extra "bytes_in"); (case zzz => size_fits); (case zzh => rfl); k_whole); intro h' t' k' F' N' hB')))
  (k_with "binaryOp RShift int int" => ((k_dflt (refine' rshift_int ?zzh1 ?_; (case zzh1 => first | decide | lia)))))
  (k_with "binaryOp FloorDiv int int" => ((k_dflt (refine' floordiv_int ?zzh1 ?_ ?zzh2; (case zzh1 => first | decide | lia | k_extra "div ne"); (case zzh2 => first | exact Or.inl (PyProof.noPylong_of_log2 (by first | assumption | decide +kernel)) | k_extra "div py")))))
  (k_with "binaryOp Mod int int" => ((k_dflt (refine' mod_int' ?zzh1 ?_; (case zzh1 => first | decide | lia | k_extra "div ne")))))
  (k_with "binaryOp Pow int int" => ((k_dflt (refine' pow_int_small ?zzh1 ?zzh2 ?zzh3 ?_; (case zzh1 => first | decide | lia | k_extra "pow0"); (case zzh2 => first | decide | lia | k_extra "pow1"); (case zzh3 => first | decide | lia)))))
  (k_with "k_get" => (with_reducible assumption))
  (k_with "enter" => ((refine' code_def ?zzk1 ?zzk2 ?zzk3 ?zzk4 ?zzk5 ?zzkA ?zzkF ?zzkK ?zzk6 ?zzk7 ?zzk8 ?zzk9 ?zzkB ?_ ?zzc2 ?zzc3 ?zzc4 ?zzc5; (case zzkA => exact rfl); (case zzkF => exact rfl); (case zzkK => first | exact rfl | assumption); (case zzk1 => k_asm); (case zzk2 => k_asm); (case zzk3 => k_asm); (case zzk4 => k_asm); (case zzk5 => k_asm); (case zzk6 => k_is); (case zzk7 => k_is); (case zzk8 => ktr_room); (case zzk9 => first | exact BindsTo.of_eq rfl | exact binds_K (by k_in) rfl (by k_is) rfl rfl rfl); (case zzc5 => decide); (case zzkB => exact locs rfl); (case zzc2 => exact rfl); (case zzc3 => exact rfl); (case zzc4 => exact rfl); k_whole; intro g' L' h' FG' F' N' B' X' T'; (try dsimp only); (try k_fold))))
  (k_with "zroom" => (first | exact kroom2 (by assumption) (by rfl) | exact kroom0 (by assumption) | exact kroom1 (by assumption) (by rfl) | exact kroom3 (by assumption) (by rfl)))
  (k_with "zunits" => (first | exact kunit2 (by assumption) (by rfl) | exact kunit0 (by assumption) | exact kunit1 (by assumption) (by rfl) | exact kunit3 (by assumption) (by rfl)))
  (k_with "ktr_room" => (first | k_extra "zroom" | ((simp only [depth_under_make, depth_under_kw, depth_in1, depth_deeper, depth_caller]); k_extra "zroom")))
  (k_with "ktr_units" => (first | k_extra "zunits" | ((simp only [units_in1, units_deeper, Around.mark_units, units_caller]); k_extra "zunits")))
  (k_with "execs cons" => (((try k_gentoks); (with_reducible refine wpAny_execs_cons ?_); (try dsimp only); (try k_fold))))
  exact trivial
theorem upc1 {x1 x y : Nat} (h : x1 < x) (e : x < y) : x < y ∧ x1 < y := ⟨e, Nat.lt_trans h e⟩
theorem upcT1 {x1 x y : Nat} {R : Prop} (h : x1 < x ∧ R) (e : x < y) : x < y ∧ x1 < y := ⟨e, Nat.lt_trans h.1 e⟩
theorem upc2 {x1 x2 x y : Nat} (h : x1 < x ∧ x2 < x) (e : x < y) : x < y ∧ x1 < y ∧ x2 < y := ⟨e, Nat.lt_trans h.1 e, Nat.lt_trans h.2 e⟩
theorem upcT2 {x1 x2 x y : Nat} {R : Prop} (h : x1 < x ∧ x2 < x ∧ R) (e : x < y) : x < y ∧ x1 < y ∧ x2 < y := ⟨e, Nat.lt_trans h.1 e, Nat.lt_trans h.2.1 e⟩
theorem upc3 {x1 x2 x3 x y : Nat} (h : x1 < x ∧ x2 < x ∧ x3 < x) (e : x < y) : x < y ∧ x1 < y ∧ x2 < y ∧ x3 < y := ⟨e, Nat.lt_trans h.1 e, Nat.lt_trans h.2.1 e, Nat.lt_trans h.2.2 e⟩
theorem upcT3 {x1 x2 x3 x y : Nat} {R : Prop} (h : x1 < x ∧ x2 < x ∧ x3 < x ∧ R) (e : x < y) : x < y ∧ x1 < y ∧ x2 < y ∧ x3 < y := ⟨e, Nat.lt_trans h.1 e, Nat.lt_trans h.2.1 e, Nat.lt_trans h.2.2.1 e⟩
theorem upc4 {x1 x2 x3 x4 x y : Nat} (h : x1 < x ∧ x2 < x ∧ x3 < x ∧ x4 < x) (e : x < y) : x < y ∧ x1 < y ∧ x2 < y ∧ x3 < y ∧ x4 < y := ⟨e, Nat.lt_trans h.1 e, Nat.lt_trans h.2.1 e, Nat.lt_trans h.2.2.1 e, Nat.lt_trans h.2.2.2 e⟩
theorem upcT4 {x1 x2 x3 x4 x y : Nat} {R : Prop} (h : x1 < x ∧ x2 < x ∧ x3 < x ∧ x4 < x ∧ R) (e : x < y) : x < y ∧ x1 < y ∧ x2 < y ∧ x3 < y ∧ x4 < y := ⟨e, Nat.lt_trans h.1 e, Nat.lt_trans h.2.1 e, Nat.lt_trans h.2.2.1 e, Nat.lt_trans h.2.2.2.1 e⟩
theorem upc5 {x1 x2 x3 x4 x5 x y : Nat} (h : x1 < x ∧ x2 < x ∧ x3 < x ∧ x4 < x ∧ x5 < x) (e : x < y) : x < y ∧ x1 < y ∧ x2 < y ∧ x3 < y ∧ x4 < y ∧ x5 < y := ⟨e, Nat.lt_trans h.1 e, Nat.lt_trans h.2.1 e, Nat.lt_trans h.2.2.1 e, Nat.lt_trans h.2.2.2.1 e, Nat.lt_trans h.2.2.2.2 e⟩
theorem upcT5 {x1 x2 x3 x4 x5 x y : Nat} {R : Prop} (h : x1 < x ∧ x2 < x ∧ x3 < x ∧ x4 < x ∧ x5 < x ∧ R) (e : x < y) : x < y ∧ x1 < y ∧ x2 < y ∧ x3 < y ∧ x4 < y ∧ x5 < y := ⟨e, Nat.lt_trans h.1 e, Nat.lt_trans h.2.1 e, Nat.lt_trans h.2.2.1 e, Nat.lt_trans h.2.2.2.1 e, Nat.lt_trans h.2.2.2.2.1 e⟩
theorem upc6 {x1 x2 x3 x4 x5 x6 x y : Nat} (h : x1 < x ∧ x2 < x ∧ x3 < x ∧ x4 < x ∧ x5 < x ∧ x6 < x) (e : x < y) : x < y ∧ x1 < y ∧ x2 < y ∧ x3 < y ∧ x4 < y ∧ x5 < y ∧ x6 < y := ⟨e, Nat.lt_trans h.1 e, Nat.lt_trans h.2.1 e, Nat.lt_trans h.2.2.1 e, Nat.lt_trans h.2.2.2.1 e, Nat.lt_trans h.2.2.2.2.1 e, Nat.lt_trans h.2.2.2.2.2 e⟩
theorem upcT6 {x1 x2 x3 x4 x5 x6 x y : Nat} {R : Prop} (h : x1 < x ∧ x2 < x ∧ x3 < x ∧ x4 < x ∧ x5 < x ∧ x6 < x ∧ R) (e : x < y) : x < y ∧ x1 < y ∧ x2 < y ∧ x3 < y ∧ x4 < y ∧ x5 < y ∧ x6 < y := ⟨e, Nat.lt_trans h.1 e, Nat.lt_trans h.2.1 e, Nat.lt_trans h.2.2.1 e, Nat.lt_trans h.2.2.2.1 e, Nat.lt_trans h.2.2.2.2.1 e, Nat.lt_trans h.2.2.2.2.2.1 e⟩
theorem upc7 {x1 x2 x3 x4 x5 x6 x7 x y : Nat} (h : x1 < x ∧ x2 < x ∧ x3 < x ∧ x4 < x ∧ x5 < x ∧ x6 < x ∧ x7 < x) (e : x < y) : x < y ∧ x1 < y ∧ x2 < y ∧ x3 < y ∧ x4 < y ∧ x5 < y ∧ x6 < y ∧ x7 < y := ⟨e, Nat.lt_trans h.1 e, Nat.lt_trans h.2.1 e, Nat.lt_trans h.2.2.1 e, Nat.lt_trans h.2.2.2.1 e, Nat.lt_trans h.2.2.2.2.1 e, Nat.lt_trans h.2.2.2.2.2.1 e, Nat.lt_trans h.2.2.2.2.2.2 e⟩
theorem upcT7 {x1 x2 x3 x4 x5 x6 x7 x y : Nat} {R : Prop} (h : x1 < x ∧ x2 < x ∧ x3 < x ∧ x4 < x ∧ x5 < x ∧ x6 < x ∧ x7 < x ∧ R) (e : x < y) : x < y ∧ x1 < y ∧ x2 < y ∧ x3 < y ∧ x4 < y ∧ x5 < y ∧ x6 < y ∧ x7 < y := ⟨e, Nat.lt_trans h.1 e, Nat.lt_trans h.2.1 e, Nat.lt_trans h.2.2.1 e, Nat.lt_trans h.2.2.2.1 e, Nat.lt_trans h.2.2.2.2.1 e, Nat.lt_trans h.2.2.2.2.2.1 e, Nat.lt_trans h.2.2.2.2.2.2.1 e⟩
theorem upc8 {x1 x2 x3 x4 x5 x6 x7 x8 x y : Nat} (h : x1 < x ∧ x2 < x ∧ x3 < x ∧ x4 < x ∧ x5 < x ∧ x6 < x ∧ x7 < x ∧ x8 < x) (e : x < y) : x < y ∧ x1 < y ∧ x2 < y ∧ x3 < y ∧ x4 < y ∧ x5 < y ∧ x6 < y ∧ x7 < y ∧ x8 < y := ⟨e, Nat.lt_trans h.1 e, Nat.lt_trans h.2.1 e, Nat.lt_trans h.2.2.1 e, Nat.lt_trans h.2.2.2.1 e, Nat.lt_trans h.2.2.2.2.1 e, Nat.lt_trans h.2.2.2.2.2.1 e, Nat.lt_trans h.2.2.2.2.2.2.1 e, Nat.lt_trans h.2.2.2.2.2.2.2 e⟩
theorem upcT8 {x1 x2 x3 x4 x5 x6 x7 x8 x y : Nat} {R : Prop} (h : x1 < x ∧ x2 < x ∧ x3 < x ∧ x4 < x ∧ x5 < x ∧ x6 < x ∧ x7 < x ∧ x8 < x ∧ R) (e : x < y) : x < y ∧ x1 < y ∧ x2 < y ∧ x3 < y ∧ x4 < y ∧ x5 < y ∧ x6 < y ∧ x7 < y ∧ x8 < y := ⟨e, Nat.lt_trans h.1 e, Nat.lt_trans h.2.1 e, Nat.lt_trans h.2.2.1 e, Nat.lt_trans h.2.2.2.1 e, Nat.lt_trans h.2.2.2.2.1 e, Nat.lt_trans h.2.2.2.2.2.1 e, Nat.lt_trans h.2.2.2.2.2.2.1 e, Nat.lt_trans h.2.2.2.2.2.2.2.1 e⟩
theorem upc9 {x1 x2 x3 x4 x5 x6 x7 x8 x9 x y : Nat} (h : x1 < x ∧ x2 < x ∧ x3 < x ∧ x4 < x ∧ x5 < x ∧ x6 < x ∧ x7 < x ∧ x8 < x ∧ x9 < x) (e : x < y) : x < y ∧ x1 < y ∧ x2 < y ∧ x3 < y ∧ x4 < y ∧ x5 < y ∧ x6 < y ∧ x7 < y ∧ x8 < y ∧ x9 < y := ⟨e, Nat.lt_trans h.1 e, Nat.lt_trans h.2.1 e, Nat.lt_trans h.2.2.1 e, Nat.lt_trans h.2.2.2.1 e, Nat.lt_trans h.2.2.2.2.1 e, Nat.lt_trans h.2.2.2.2.2.1 e, Nat.lt_trans h.2.2.2.2.2.2.1 e, Nat.lt_trans h.2.2.2.2.2.2.2.1 e, Nat.lt_trans h.2.2.2.2.2.2.2.2 e⟩
theorem upcT9 {x1 x2 x3 x4 x5 x6 x7 x8 x9 x y : Nat} {R : Prop} (h : x1 < x ∧ x2 < x ∧ x3 < x ∧ x4 < x ∧ x5 < x ∧ x6 < x ∧ x7 < x ∧ x8 < x ∧ x9 < x ∧ R) (e : x < y) : x < y ∧ x1 < y ∧ x2 < y ∧ x3 < y ∧ x4 < y ∧ x5 < y ∧ x6 < y ∧ x7 < y ∧ x8 < y ∧ x9 < y := ⟨e, Nat.lt_trans h.1 e, Nat.lt_trans h.2.1 e, Nat.lt_trans h.2.2.1 e, Nat.lt_trans h.2.2.2.1 e, Nat.lt_trans h.2.2.2.2.1 e, Nat.lt_trans h.2.2.2.2.2.1 e, Nat.lt_trans h.2.2.2.2.2.2.1 e, Nat.lt_trans h.2.2.2.2.2.2.2.1 e, Nat.lt_trans h.2.2.2.2.2.2.2.2.1 e⟩
theorem upc10 {x1 x2 x3 x4 x5 x6 x7 x8 x9 x10 x y : Nat} (h : x1 < x ∧ x2 < x ∧ x3 < x ∧ x4 < x ∧ x5 < x ∧ x6 < x ∧ x7 < x ∧ x8 < x ∧ x9 < x ∧ x10 < x) (e : x < y) : x < y ∧ x1 < y ∧ x2 < y ∧ x3 < y ∧ x4 < y ∧ x5 < y ∧ x6 < y ∧ x7 < y ∧ x8 < y ∧ x9 < y ∧ x10 < y := ⟨e, Nat.lt_trans h.1 e, Nat.lt_trans h.2.1 e, Nat.lt_trans h.2.2.1 e, Nat.lt_trans h.2.2.2.1 e, Nat.lt_trans h.2.2.2.2.1 e, Nat.lt_trans h.2.2.2.2.2.1 e, Nat.lt_trans h.2.2.2.2.2.2.1 e, Nat.lt_trans h.2.2.2.2.2.2.2.1 e, Nat.lt_trans h.2.2.2.2.2.2.2.2.1 e, Nat.lt_trans h.2.2.2.2.2.2.2.2.2 e⟩
theorem upcT10 {x1 x2 x3 x4 x5 x6 x7 x8 x9 x10 x y : Nat} {R : Prop} (h : x1 < x ∧ x2 < x ∧ x3 < x ∧ x4 < x ∧ x5 < x ∧ x6 < x ∧ x7 < x ∧ x8 < x ∧ x9 < x ∧ x10 < x ∧ R) (e : x < y) : x < y ∧ x1 < y ∧ x2 < y ∧ x3 < y ∧ x4 < y ∧ x5 < y ∧ x6 < y ∧ x7 < y ∧ x8 < y ∧ x9 < y ∧ x10 < y := ⟨e, Nat.lt_trans h.1 e, Nat.lt_trans h.2.1 e, Nat.lt_trans h.2.2.1 e, Nat.lt_trans h.2.2.2.1 e, Nat.lt_trans h.2.2.2.2.1 e, Nat.lt_trans h.2.2.2.2.2.1 e, Nat.lt_trans h.2.2.2.2.2.2.1 e, Nat.lt_trans h.2.2.2.2.2.2.2.1 e, Nat.lt_trans h.2.2.2.2.2.2.2.2.1 e, Nat.lt_trans h.2.2.2.2.2.2.2.2.2.1 e⟩
theorem upc11 {x1 x2 x3 x4 x5 x6 x7 x8 x9 x10 x11 x y : Nat} (h : x1 < x ∧ x2 < x ∧ x3 < x ∧ x4 < x ∧ x5 < x ∧ x6 < x ∧ x7 < x ∧ x8 < x ∧ x9 < x ∧ x10 < x ∧ x11 < x) (e : x < y) : x < y ∧ x1 < y ∧ x2 < y ∧ x3 < y ∧ x4 < y ∧ x5 < y ∧ x6 < y ∧ x7 < y ∧ x8 < y ∧ x9 < y ∧ x10 < y ∧ x11 < y := ⟨e, Nat.lt_trans h.1 e, Nat.lt_trans h.2.1 e, Nat.lt_trans h.2.2.1 e, Nat.lt_trans h.2.2.2.1 e, Nat.lt_trans h.2.2.2.2.1 e, Nat.lt_trans h.2.2.2.2.2.1 e, Nat.lt_trans h.2.2.2.2.2.2.1 e, Nat.lt_trans h.2.2.2.2.2.2.2.1 e, Nat.lt_trans h.2.2.2.2.2.2.2.2.1 e, Nat.lt_trans h.2.2.2.2.2.2.2.2.2.1 e, Nat.lt_trans h.2.2.2.2.2.2.2.2.2.2 e⟩
theorem upcT11 {x1 x2 x3 x4 x5 x6 x7 x8 x9 x10 x11 x y : Nat} {R : Prop} (h : x1 < x ∧ x2 < x ∧ x3 < x ∧ x4 < x ∧ x5 < x ∧ x6 < x ∧ x7 < x ∧ x8 < x ∧ x9 < x ∧ x10 < x ∧ x11 < x ∧ R) (e : x < y) : x < y ∧ x1 < y ∧ x2 < y ∧ x3 < y ∧ x4 < y ∧ x5 < y ∧ x6 < y ∧ x7 < y ∧ x8 < y ∧ x9 < y ∧ x10 < y ∧ x11 < y := ⟨e, Nat.lt_trans h.1 e, Nat.lt_trans h.2.1 e, Nat.lt_trans h.2.2.1 e, Nat.lt_trans h.2.2.2.1 e, Nat.lt_trans h.2.2.2.2.1 e, Nat.lt_trans h.2.2.2.2.2.1 e, Nat.lt_trans h.2.2.2.2.2.2.1 e, Nat.lt_trans h.2.2.2.2.2.2.2.1 e, Nat.lt_trans h.2.2.2.2.2.2.2.2.1 e, Nat.lt_trans h.2.2.2.2.2.2.2.2.2.1 e, Nat.lt_trans h.2.2.2.2.2.2.2.2.2.2.1 e⟩
theorem upc12 {x1 x2 x3 x4 x5 x6 x7 x8 x9 x10 x11 x12 x y : Nat} (h : x1 < x ∧ x2 < x ∧ x3 < x ∧ x4 < x ∧ x5 < x ∧ x6 < x ∧ x7 < x ∧ x8 < x ∧ x9 < x ∧ x10 < x ∧ x11 < x ∧ x12 < x) (e : x < y) : x < y ∧ x1 < y ∧ x2 < y ∧ x3 < y ∧ x4 < y ∧ x5 < y ∧ x6 < y ∧ x7 < y ∧ x8 < y ∧ x9 < y ∧ x10 < y ∧ x11 < y ∧ x12 < y := ⟨e, Nat.lt_trans h.1 e, Nat.lt_trans h.2.1 e, Nat.lt_trans h.2.2.1 e, Nat.lt_trans h.2.2.2.1 e, Nat.lt_trans h.2.2.2.2.1 e, Nat.lt_trans h.2.2.2.2.2.1 e, Nat.lt_trans h.2.2.2.2.2.2.1 e, Nat.lt_trans h.2.2.2.2.2.2.2.1 e, Nat.lt_trans h.2.2.2.2.2.2.2.2.1 e, Nat.lt_trans h.2.2.2.2.2.2.2.2.2.1 e, Nat.lt_trans h.2.2.2.2.2.2.2.2.2.2.1 e, Nat.lt_trans h.2.2.2.2.2.2.2.2.2.2.2 e⟩
theorem upcT12 {x1 x2 x3 x4 x5 x6 x7 x8 x9 x10 x11 x12 x y : Nat} {R : Prop} (h : x1 < x ∧ x2 < x ∧ x3 < x ∧ x4 < x ∧ x5 < x ∧ x6 < x ∧ x7 < x ∧ x8 < x ∧ x9 < x ∧ x10 < x ∧ x11 < x ∧ x12 < x ∧ R) (e : x < y) : x < y ∧ x1 < y ∧ x2 < y ∧ x3 < y ∧ x4 < y ∧ x5 < y ∧ x6 < y ∧ x7 < y ∧ x8 < y ∧ x9 < y ∧ x10 < y ∧ x11 < y ∧ x12 < y := ⟨e, Nat.lt_trans h.1 e, Nat.lt_trans h.2.1 e, Nat.lt_trans h.2.2.1 e, Nat.lt_trans h.2.2.2.1 e, Nat.lt_trans h.2.2.2.2.1 e, Nat.lt_trans h.2.2.2.2.2.1 e, Nat.lt_trans h.2.2.2.2.2.2.1 e, Nat.lt_trans h.2.2.2.2.2.2.2.1 e, Nat.lt_trans h.2.2.2.2.2.2.2.2.1 e, Nat.lt_trans h.2.2.2.2.2.2.2.2.2.1 e, Nat.lt_trans h.2.2.2.2.2.2.2.2.2.2.1 e, Nat.lt_trans h.2.2.2.2.2.2.2.2.2.2.2.1 e⟩
theorem reg_NE_1 : True := by
  (k_with "path" => (((iterate 15 (try (first | (with_reducible assumption) | apply And.right))); done)))
  (k_with "ne" => (first | with_reducible assumption | with_reducible exact Ne.symm (by assumption) | with_reducible exact Nat.ne_of_lt (by assumption) | with_reducible exact Nat.ne_of_gt (by assumption) | (apply Nat.ne_of_lt; apply And.left; k_extra "path") | (apply Nat.ne_of_gt; apply And.left; k_extra "path") | (apply And.left; k_extra "path") | (apply Ne.symm; apply And.left; k_extra "path") | (apply Nat.ne_of_lt; apply And.right; k_extra "path") | (apply Nat.ne_of_gt; apply And.right; k_extra "path") | (apply And.left; apply And.left; k_extra "path") | (apply And.left; apply And.right; apply And.left; k_extra "path") | (apply And.right; apply And.right; apply And.left; k_extra "path") | (apply Ne.symm; apply And.left; apply And.left; k_extra "path") | (apply Ne.symm; apply And.left; apply And.right; apply And.left; k_extra "path") | (apply Ne.symm; apply And.right; apply And.right; apply And.left; k_extra "path")))
  (k_with "k_ne" => (((try dsimp only); first | k_extra "ne" | (refine neN ?_; lia))))
  (k_with "zlt" => (first | (with_reducible assumption) | (apply And.left; k_extra "path") | (apply And.right; k_extra "path") | (refine ltN ?_; lia)))
  (k_with "off" => (first | assumption | exact lt_ne_of (by assumption) | exact gt_ne_of (by assumption) | exact allLt_ne (by assumption) | (apply allLt_ne; apply And.right; k_extra "path") | ((repeat (rename (_ ∧ _) => hcj; cases hcj)); first | assumption | exact allLt_ne (by assumption) | exact lt_ne_of (by assumption) | exact gt_ne_of (by assumption))))
  exact trivial
theorem bz_no_bytes : typeLookup (.type "int") "__bytes__" = pure none := by rw [typeLookup_type, builtinLookup_eq_fast]; kernel_rfl
theorem bz_index : typeLookup (.type "int") "__index__" = pure (some (.builtin "int.__index__")) := by rw [typeLookup_type, builtinLookup_eq_fast]; kernel_rfl
section
variable {prog : Program} {w : World} {A : Around} {E : Value → Shared → Prop} {s : Shared}
theorem bz_new {n : Int} {t : Tok} {Q : Value → Shared → Prop} (h0 : 0 ≤ n) (hn : n ≤ 100000)
    (hQ : ∀ t k, Q (.bytes (Array.replicate n.toNat 0) t) { s with toks := k }) :
    codeAny (model prog w) A (.call (.builtin "bytes.__new__") ⟨[.type "bytes", .int n t], []⟩) (wants Q E) s := by
  refine codeAny_of_tree ?_
  show wpAny _ A.in1 (do checkBuiltinCall "bytes.__new__" ⟨[.type "bytes", .int n t], []⟩; again (.builtin "bytes.__new__" ⟨[.type "bytes", .int n t], []⟩)) _ _ s
  refine wpAny_bind (wpAny_of_eq (F.bm_newCall _) (wpAny_pure ⟨plainId_quiet F.bm_plain _, codeAny_builtin F.bm_entry ?_⟩))
  rw [Around.under_plainId F.bm_plain _]
  have hT : s.TypeIs (.int n t) "int" := typeIs_int s n t
  unfold Builtin.«bytes.__new__»
  refine wpAny_bind (wpAny_of_eq (a := true) rfl ?_)
  refine bm_if_false rfl ?_
  refine wpAny_bind (wpAny_of_eq F.bm_sub ?_)
  refine bm_if_false rfl ?_
  refine wpAny_bind (wpAny_of_eq (F.bm_bind _) ?_)
  refine wpAny_bind (wpAny_of_eq (a := ()) rfl ?_)
  refine wpAny_bind (wpAny_of_eq (a := ()) rfl ?_)
  refine bm_if_false rfl ?_
  refine wpAny_bind (wpAny_specialOf hT bz_no_bytes ?_)
  refine wpAny_bind (wpAny_of_eq (a := false) rfl ?_)
  refine bm_if_false rfl ?_
  refine wpAny_bind (wpAny_specialOf hT bz_index ?_)
  refine bm_if_false rfl ?_
  refine wpAny_bind (wpAny_attempt (wpAny_of_eq (rfl : asIndex (.int n t) = pure n) ?_))
  dsimp only
  have hfit : Builtin.Bytes.fitsIndex n = true := by
    unfold Builtin.Bytes.fitsIndex
    simp only [Bool.and_eq_true, decide_eq_true_eq]
    lia
  have htl : Builtin.Bytes.tooLong n.toNat = false := KBy.tooLong_not (by lia)
  rw [hfit, if_neg (show ¬ ((!true) = true) by decide), if_neg (show ¬ (n < 0) by lia), if_neg (show ¬ (n > 2 ^ 63 - 34) by lia), htl]
  refine bm_if_false rfl ?_
  refine wpAny_bind (wpAny_rule ?_)
  refine wpAny_bind (wpAny_mkBytes ?_ (by rw [Array.size_replicate, sizeLine_eq]; lia))
  show wpAny _ _ (if (Value.type "bytes" == Value.type "bytes") = true then _ else _) _ _ _
  refine bm_if_true (by decide) ?_
  first
    | exact wpAny_pure (hQ _ _)
    | exact wpAny_bind (wpAny_pure (wpAny_pure (hQ _ _)))
theorem call_bytes_zero {n : Int} {t : Tok} {Q : Value → Shared → Prop} (h0 : 0 ≤ n) (hn : n ≤ 100000)
    (hQ : ∀ t k, Q (.bytes (List.replicate n.toNat (0 : UInt8)).toArray t) { s with toks := k }) : wpAny (model prog w) A (call (.type "bytes") [.int n t]) Q E s := by
  have e : (List.replicate n.toNat (0 : UInt8)).toArray = Array.replicate n.toNat 0 := by simp
  rw [e] at hQ
  refine callType_codes (Q₁ := fun obj s₁ => s₁.TypeIs obj "bytes" ∧ Q obj s₁) F.bm_called (F.bm_typeCall _) F.entry_object_init
    (bz_new h0 hn fun t k => ⟨PySem.W.typeIs_bytes _ _ _, hQ t k⟩) fun obj s₁ h₁ => ?_
  exact ⟨h₁.1, F.args_object_init_2 obj _, object_init_meets F.bm_called.init.lookup F.bm_called.made (by decide) prog w A.in1 _ s₁ ⟨h₁.1, rfl, h₁.2⟩⟩
theorem len_bytesL {b : List UInt8} {t : Tok} {Q : Value → Shared → Prop} (hb : b.length ≤ 100000) (h : ∀ t k, Q (.int (b.length : Nat) t) { s with toks := k }) : wpAny (model prog w) A (call (.builtin "len") [.bytes b.toArray t]) Q E s :=
  len_bytes (by rw [List.size_toArray]; lia) (by rw [List.size_toArray]; exact h _ _)
theorem add_bytesL {b c : List UInt8} {t u : Tok} {Q : Value → Shared → Prop} (hsz : b.length + c.length ≤ 100000) (h : ∀ t' k, Q (.bytes (b ++ c).toArray t') { s with toks := k }) :
    wpAny (model prog w) A (binaryOp .Add (.bytes b.toArray t) (.bytes c.toArray u)) Q E s := bytes_add_K (by simp only [List.size_toArray]; lia) rfl h
theorem eq_bytesL {b c : List UInt8} {t u : Tok} {Q : Value → Shared → Prop} (h : Q (.bool (b == c)) s) : wpAny (model prog w) A (compareOp .Eq (.bytes b.toArray t) (.bytes c.toArray u)) Q E s := eq_bytes h
theorem ne_bytesL {b c : List UInt8} {t u : Tok} {Q : Value → Shared → Prop} (h : Q (.bool (b != c)) s) : wpAny (model prog w) A (compareOp .NotEq (.bytes b.toArray t) (.bytes c.toArray u)) Q E s := ne_bytes h
theorem clip4 (n : Nat) : clipAt n (-4) = n - 4 := clipAt_neg n 4 (by decide)
section
variable {value slice : PySem.Expr} {b : List UInt8} {t : Tok} {h₀ : Heap} {L : Addr} {m : PySem.Str → Option Value} {news : List (Addr × Obj)} {Q : Value → Shared → Prop} {x : Int} {tx : Tok} {k : Nat}
theorem slice_hiL (hF : Fr h₀ L s.heap m) (hN : News h₀ L s.heap news) (hk : clipAt b.length x = k) (hz : b.length ≤ 100000)
    (h : ∀ h' t' kk, Fr h₀ L h' m → News h₀ L h' news → Q (.bytes (b.take k).toArray t') { s with heap := h', toks := kk })
    (hs : subscripted slice false (.bytes b.toArray t) (.ref s.heap.objs.size) = operate [.ref s.heap.objs.size, .bytes b.toArray t] (getItem (.bytes b.toArray t) (.ref s.heap.objs.size)) := by with_unfolding_all rfl)
    (ht : ∀ r, letTemporaryGo value (.bytes b.toArray t) r = pure () := by intro _; with_unfolding_all rfl) :
    wpAny (model prog w) A (subscriptTail value slice (.bytes b.toArray t) (.ref s.heap.objs.size)) Q E { s with heap := s.heap.push { cls := .type "slice", data := .fields #[.none, .int x tx, .none] } } := by
  refine KBc.slice_K (lo := none) (hi := some x) hF hN rfl .none (.int _ _) (by rw [KBw.ints_length, List.size_toArray]; lia) (fun h' t' kk F' N' _ => ?_) hs ht
  have e : KBy.picked b.toArray none (some x) = (b.take k).toArray := by
    rw [KBc.picked_eq]
    simp [hk]
  rw [e]
  exact h h' t' kk F' N'
theorem slice_loL (hF : Fr h₀ L s.heap m) (hN : News h₀ L s.heap news) (hk : clipAt b.length x = k) (hz : b.length ≤ 100000)
    (h : ∀ h' t' kk, Fr h₀ L h' m → News h₀ L h' news → Q (.bytes (b.drop k).toArray t') { s with heap := h', toks := kk })
    (hs : subscripted slice false (.bytes b.toArray t) (.ref s.heap.objs.size) = operate [.ref s.heap.objs.size, .bytes b.toArray t] (getItem (.bytes b.toArray t) (.ref s.heap.objs.size)) := by with_unfolding_all rfl)
    (ht : ∀ r, letTemporaryGo value (.bytes b.toArray t) r = pure () := by intro _; with_unfolding_all rfl) :
    wpAny (model prog w) A (subscriptTail value slice (.bytes b.toArray t) (.ref s.heap.objs.size)) Q E { s with heap := s.heap.push { cls := .type "slice", data := .fields #[.int x tx, .none, .none] } } := by
  refine KBc.slice_K (lo := some x) (hi := none) hF hN rfl (.int _ _) .none (by rw [KBw.ints_length, List.size_toArray]; lia) (fun h' t' kk F' N' _ => ?_) hs ht
  have e : KBy.picked b.toArray (some x) none = (b.drop k).toArray := by
    rw [KBc.picked_eq]
    simp [hk]
    exact List.take_of_length_le (by rw [List.length_drop]; exact Nat.le_refl _)
  rw [e]
  exact h h' t' kk F' N'
end
end
theorem reg_B0_1 : True := by
  (k_with "blen" => (first | assumption | lia | (simp only [List.length_append, List.length_replicate, List.length_cons, List.length_nil, List.length_take, List.length_drop] at *; lia)))
  (k_with "call type:bytes" => (((with_reducible show wpAny _ _ (call (Value.type "bytes") [Value.int _ _]) _ _ _); k_dflt (refine' call_bytes_zero ?zzh1 ?zzh2 ?_; (case zzh1 => k_extra "blen"); (case zzh2 => k_extra "blen")); intro _ _)))
  (k_with "call builtin:len" => (((with_reducible show wpAny _ _ (call (Value.builtin "len") [Value.bytes (List.toArray _) _]) _ _ _); k_dflt (refine' len_bytesL ?zzh1 ?_; (case zzh1 => k_extra "blen")); intro _ _)))
  (k_with "binaryOp Add bytes bytes" => (((with_reducible show wpAny _ _ (binaryOp Operator.Add (Value.bytes (List.toArray _) _) (Value.bytes (List.toArray _) _)) _ _ _); k_dflt (refine' add_bytesL ?zzh1 ?_; (case zzh1 => k_extra "blen")); intro _ _)))
  (k_with "compareOp Eq bytes bytes" => (((with_reducible show wpAny _ _ (compareOp CmpOp.Eq (Value.bytes (List.toArray _) _) (Value.bytes (List.toArray _) _)) _ _ _); k_dflt (refine' eq_bytesL ?_))))
  (k_with "compareOp NotEq bytes bytes" => (((with_reducible show wpAny _ _ (compareOp CmpOp.NotEq (Value.bytes (List.toArray _) _) (Value.bytes (List.toArray _) _)) _ _ _); k_dflt (refine' ne_bytesL ?_))))
  (k_with "subscriptTail Name Slice bytes ref" => ((k_dflt (first | (refine' slice_hiL ?zzk1 ?zzk2 ?zzk3 ?zzk4 ?_; (case zzk1 => k_asm); (case zzk2 => k_asm); (case zzk3 => first | exact clip4 _ | (refine clipAt_in ?_ ?_ <;> k_extra "blen")); (case zzk4 => k_extra "blen"); intro h' t' kk' F' N') | (refine' slice_loL ?zzk1 ?zzk2 ?zzk3 ?zzk4 ?_; (case zzk1 => k_asm); (case zzk2 => k_asm); (case zzk3 => first | exact clip4 _ | (refine clipAt_in ?_ ?_ <;> k_extra "blen")); (case zzk4 => k_extra "blen"); intro h' t' kk' F' N')))))
  exact trivial
theorem fmodB {c m : Int} (hm : 0 < m) : 0 ≤ c.fmod m ∧ c.fmod m < m := by
  rw [Int.fmod_eq_emod_of_nonneg _ (Int.le_of_lt hm)]
  exact ⟨Int.emod_nonneg _ (by omega), Int.emod_lt_of_pos _ hm⟩
set_option maxHeartbeats 8000000 in
theorem take_call {w : World} {A : Around} {h₀ : Heap} {L : Addr} {m : Str → Option Value} {news : List (Addr × Obj)} {s : Shared} {Q E : Value → Shared → Prop}
   {a : Addr} {b c : Int} {tb tc t : Tok} {k : Nat} {top : Int}
   (C : Cx w A 2 20 h₀ L m ((a, listOf #[.int b tb, .int c tc] k) :: news) s)
   (hb : 0 ≤ b) (hc : 0 ≤ c) (hc' : c < 2147483648) (ht : 1 ≤ top) (ht' : top ≤ 2^60) (hne : ∀ p ∈ news, p.1 ≠ a)
   (ret : ∀ d b' c' t' tb' tc' h' tk', 0 ≤ d → d < top → 0 ≤ b' → 0 ≤ c' → c' < 2147483648 → Fr h₀ L h' m → News h₀ L h' ((a, listOf #[.int b' tb', .int c' tc'] k) :: news) → Q (.int d t') { s with heap := h', toks := tk' }) :
   wpAny (model PySem.Challenge.pw_nu0127_01 w) A (call (.ref 310) [.ref a, .int top t]) Q E s := by
  refine Cx.elim (P := fun A => wpAny _ A _ _ _ _) C fun dp un gd cn cs fa ccd cl outer A₀ base mg mb mean loose B F X N T hk hdp hun => ?_
  have hlg : top.natAbs.log2 < 9000 := by
    have : top.natAbs < 2 ^ 61 := by omega
    have := (Nat.log2_lt (n := top.natAbs) (k := 61) (by omega)).mpr this
    omega
  have e0 : ∀ x y : Int, [x, y].getD (Int.toNat 0) 0 = x := fun _ _ => rfl
  have e1 : ∀ x y : Int, [x, y].getD (Int.toNat 1) 0 = y := fun _ _ => rfl
  have mB := @fmodB (c * 39373 + 7) 2147483647 (by decide)
  refine wpAny_call ?_
  have gdA1_2 : Unit := ()
  w_top off
  w_strict (
    (k_with "binaryOp FloorDiv int int" => (fail_if_success fail_if_success have := gdA1_2); refine floordiv_int (by first | omega | decide) ?_ (Or.inl (PyProof.noPylong_of_log2 (by first | assumption | decide +kernel))))
    (k_with "binaryOp Mult int int" => (fail_if_success fail_if_success have := gdA1_2); (refine mul_int ?_ (IntMulOk.of_right (PySem.intBits_le_64 ?h1 ?h2)); (case h1 => (simp only [e0, e1]; omega)); (case h2 => (simp only [e0, e1]; omega))))
    k_dflt ktr_enter
    k_steps
    all_goals (refine ret _ _ _ _ _ _ _ _ ?_ ?_ ?_ ?_ ?_ (by assumption) (by assumption))
    all_goals (try simp only [e0, e1])
    all_goals first | omega | exact (fmodB (by omega)).1 | exact (fmodB (by omega)).2 | exact Int.fdiv_nonneg hb (by omega))
def be16 (x : Int) : List UInt8 := [(x / 256 % 256).toNat.toUInt8, (x % 256).toNat.toUInt8]
def be32 (x : Int) : List UInt8 := be16 (x / 65536) ++ be16 x
def be48 (x : Int) : List UInt8 := be16 (x / 4294967296) ++ be32 x
theorem be16_len (x : Int) : (be16 x).length = 2 := rfl
theorem be48_len (x : Int) : (be48 x).length = 6 := rfl
theorem andHi (a b k : Nat) (hb : b < 2 ^ k) : (a * 2 ^ k) &&& b = 0 := by
  apply Nat.eq_of_testBit_eq
  intro i
  rw [Nat.testBit_and, Nat.testBit_mul_two_pow, Nat.zero_testBit]
  by_cases h : k ≤ i
  · rw [Nat.testBit_lt_two_pow (Nat.lt_of_lt_of_le hb (Nat.pow_le_pow_right (by decide) h)), Bool.and_false]
  · simp [h]
theorem bitOrN (a b k : Nat) (hb : b < 2 ^ k) : Builtin.bitOr ((a : Int) * ((2 ^ k : Nat) : Int)) (b : Int) = ((a * 2 ^ k + b : Nat) : Int) := by
  have e : (a : Int) * ((2 ^ k : Nat) : Int) = ((a * 2 ^ k : Nat) : Int) := (Int.natCast_mul a (2 ^ k)).symm
  rw [e, bitOr_and, bitAnd_pp (Int.natCast_nonneg _) (Int.natCast_nonneg _), Int.toNat_natCast, Int.toNat_natCast, andHi a b k hb]
  lia
theorem xa_step {x y X Y p q A B z r u v : Nat} (hx : x = 2 * X + p) (hy : y = 2 * Y + q) (h : X + Y = A + 2 * B) (hu : u = 2 * A + z) (hv : v = 2 * B + r) (hc : p + q = z + 2 * r) : x + y = u + 2 * v := by lia
theorem xa_bit {p q z r : Nat} (hp : p = 0 ∨ p = 1) (hq : q = 0 ∨ q = 1) (hz : z = 0 ∨ z = 1) (hr : r = 0 ∨ r = 1) (h1 : z = 1 ↔ ¬(p = 1 ↔ q = 1)) (h2 : r = 1 ↔ p = 1 ∧ q = 1) : p + q = z + 2 * r := by
  rcases hp with rfl | rfl <;> rcases hq with rfl | rfl <;> rcases hz with rfl | rfl <;> rcases hr with rfl | rfl <;> simp at h1 h2 ⊢
theorem xor_and_add : ∀ x y : Nat, x + y = (x ^^^ y) + 2 * (x &&& y) := by
  intro x
  induction x using Nat.strongRecOn with
  | ind x ih =>
    intro y
    by_cases hx : x = 0
    · subst hx; rw [Nat.zero_xor, Nat.zero_and, Nat.zero_add, Nat.mul_zero, Nat.add_zero]
    · have h1 := ih (x / 2) (Nat.div_lt_self (Nat.pos_of_ne_zero hx) (by decide)) (y / 2)
      rw [← Nat.xor_div_two, ← Nat.and_div_two] at h1
      exact xa_step (Nat.div_add_mod x 2).symm (Nat.div_add_mod y 2).symm h1 (Nat.div_add_mod _ 2).symm (Nat.div_add_mod _ 2).symm
        (xa_bit (Nat.mod_two_eq_zero_or_one _) (Nat.mod_two_eq_zero_or_one _) (Nat.mod_two_eq_zero_or_one _) (Nat.mod_two_eq_zero_or_one _) Nat.xor_mod_two_eq_one Nat.and_mod_two_eq_one)
theorem bitXorN (a b : Nat) : Builtin.bitXor (a : Int) (b : Int) = ((a ^^^ b : Nat) : Int) := by
  rw [bitXor_and, bitAnd_pp (Int.natCast_nonneg _) (Int.natCast_nonneg _), Int.toNat_natCast, Int.toNat_natCast]
  have := xor_and_add a b
  lia
theorem fdivP {x b : Int} (h : 0 ≤ b) : x.fdiv b = x / b := Int.fdiv_eq_ediv_of_nonneg _ h
section
variable {w : World} {A : Around} {h₀ : Heap} {L : Addr} {m : Str → Option Value} {news : List (Addr × Obj)} {s : Shared} {Q E : Value → Shared → Prop}
set_option maxHeartbeats 8000000 in
theorem put16_call {x : Int} {t : Tok} (C : Cx w A 2 20 h₀ L m news s)
   (ret : ∀ t' h' tk', Fr h₀ L h' m → News h₀ L h' news → Q (.bytes (be16 x).toArray t') { s with heap := h', toks := tk' }) :
   wpAny (model PySem.Challenge.pw_nu0127_01 w) A (call (.ref 91) [.int x t]) Q E s := by
  refine Cx.elim (P := fun A => wpAny _ A _ _ _ _) C fun dp un gd cn cs fa ccd cl outer A₀ base mg mb mean loose B F X N T hk hdp hun => ?_
  have e1 : Builtin.bitAnd (x.fdiv (2 ^ Int.toNat 8)) 255 = x / 256 % 256 := by rw [bitAnd_m8, fdivP (by decide)]; rfl
  have e2 : Builtin.bitAnd x 255 = x % 256 := bitAnd_m8 x
  refine wpAny_call ?_
  have gdA2_10 : Unit := ()
  w_top off
  w_strict (
    (k_with "call type:bytes" => (fail_if_success fail_if_success have := gdA2_10); (k_dflt (refine' bytes_K ?F ?N ?l ?i ?r ?z ?h ?_; (case F => k_asm); (case N => k_asm); (case l => is_list); (case i => l_ints); (case r => (simp only [e1, e2]; by_in)); (case z => size_fits); (case h => rfl); k_whole); intro h' t' k' F' N' hB'))
    k_dflt ktr_enter
    k_steps
    all_goals (try dsimp only [List.map])
    all_goals (rw [e1, e2]; exact ret _ _ _ (by assumption) (by k_extra "led")))
theorem put32_call {x : Int} {t : Tok} (C : Cx w A 4 40 h₀ L m news s)
   (ret : ∀ t' h' tk', Fr h₀ L h' m → News h₀ L h' news → Q (.bytes (be32 x).toArray t') { s with heap := h', toks := tk' }) :
   wpAny (model PySem.Challenge.pw_nu0127_01 w) A (call (.ref 98) [.int x t]) Q E s := by
  refine Cx.elim (P := fun A => wpAny _ A _ _ _ _) C fun dp un gd cn cs fa ccd cl outer A₀ base mg mb mean loose B F X N T hk hdp hun => ?_
  refine wpAny_call ?_
  have gdA2_11 : Unit := ()
  w_top off
  w_strict (
    (k_with "call ref" => (fail_if_success fail_if_success have := gdA2_11); (k_dflt (refine' put16_call ?C ?_; (case C => k_extra "cx_now")); intro t' h' tk' F' N'))
    k_dflt ktr_enter
    k_steps
    all_goals (rw [show x.fdiv (2 ^ Int.toNat 16) = x / 65536 from fdivP (by decide)]; exact ret _ _ _ (by assumption) (by k_extra "led")))
theorem put48_call {x : Int} {t : Tok} (C : Cx w A 6 60 h₀ L m news s)
   (ret : ∀ t' h' tk', Fr h₀ L h' m → News h₀ L h' news → Q (.bytes (be48 x).toArray t') { s with heap := h', toks := tk' }) :
   wpAny (model PySem.Challenge.pw_nu0127_01 w) A (call (.ref 105) [.int x t]) Q E s := by
  refine Cx.elim (P := fun A => wpAny _ A _ _ _ _) C fun dp un gd cn cs fa ccd cl outer A₀ base mg mb mean loose B F X N T hk hdp hun => ?_
  refine wpAny_call ?_
  have gdA2_12 : Unit := ()
  w_top off
  w_strict (
    (k_with "call ref" => (fail_if_success fail_if_success have := gdA2_12); first | (k_dflt (refine' put16_call ?C ?_; (case C => k_extra "cx_now")); intro t' h' tk' F' N') | (k_dflt (refine' put32_call ?C ?_; (case C => k_extra "cx_now")); intro t' h' tk' F' N'))
    k_dflt ktr_enter
    k_steps
    all_goals (rw [show x.fdiv (2 ^ Int.toNat 32) = x / 4294967296 from fdivP (by decide)]; exact ret _ _ _ (by assumption) (by k_extra "led")))
theorem need_call {b : List UInt8} {a z : Int} {t ta tz : Tok} (C : Cx w A 2 20 h₀ L m news s) (hb : b.length ≤ 100000) (ha : 0 ≤ a) (haz : a + z ≤ b.length)
   (ret : ∀ h' tk', Fr h₀ L h' m → News h₀ L h' news → Q .none { s with heap := h', toks := tk' }) :
   wpAny (model PySem.Challenge.pw_nu0127_01 w) A (call (.ref 112) [.bytes b.toArray t, .int a ta, .int z tz]) Q E s := by
  refine Cx.elim (P := fun A => wpAny _ A _ _ _ _) C fun dp un gd cn cs fa ccd cl outer A₀ base mg mb mean loose B F X N T hk hdp hun => ?_
  refine wpAny_call ?_
  have gdA2_13 : Unit := ()
  w_top off
  w_strict (
    k_dflt ktr_enter
    k_steps
    all_goals exact ret _ _ (by assumption) (by k_extra "led"))
def val16 (b : List UInt8) (a : Nat) : Nat := (b.getD a 0).toNat * 256 + (b.getD (a + 1) 0).toNat
def val32 (b : List UInt8) (a : Nat) : Nat := val16 b a * 65536 + val16 b (a + 2)
def val48 (b : List UInt8) (a : Nat) : Nat := val16 b a * 4294967296 + val32 b (a + 2)
theorem get16_call {b : List UInt8} {a : Int} {t ta : Tok} (C : Cx w A 4 40 h₀ L m news s) (hb : b.length ≤ 100000) (ha : 0 ≤ a) (haz : a + 2 ≤ b.length)
   (ret : ∀ t' h' tk', Fr h₀ L h' m → News h₀ L h' news → Q (.int (val16 b a.toNat) t') { s with heap := h', toks := tk' }) :
   wpAny (model PySem.Challenge.pw_nu0127_01 w) A (call (.ref 119) [.bytes b.toArray t, .int a ta]) Q E s := by
  refine Cx.elim (P := fun A => wpAny _ A _ _ _ _) C fun dp un gd cn cs fa ccd cl outer A₀ base mg mb mean loose B F X N T hk hdp hun => ?_
  refine wpAny_call ?_
  have gdA2_14 : Unit := ()
  w_top off
  w_strict (
    (k_with "call ref" => (fail_if_success fail_if_success have := gdA2_14); (k_dflt (refine' need_call ?C ?h1 ?h2 ?h3 ?_; (case C => k_extra "cx_now"); (case h1 => lia); (case h2 => lia); (case h3 => lia)); intro h' tk' F' N'))
    k_dflt ktr_enter
    k_steps
    all_goals (rw [show ((b.getD a.toNat 0).toNat : Int) * 2 ^ Int.toNat 8 = ((b.getD a.toNat 0).toNat : Int) * ((2 ^ 8 : Nat) : Int) from rfl, bitOrN _ _ 8 (UInt8.toNat_lt _), show (a + 1).toNat = a.toNat + 1 by lia]; exact ret _ _ _ (by assumption) (by k_extra "led")))
theorem val16_lt (b : List UInt8) (a : Nat) : val16 b a < 65536 := by
  unfold val16
  have h1 := UInt8.toNat_lt (b.getD a 0)
  have h2 := UInt8.toNat_lt (b.getD (a + 1) 0)
  lia
theorem val32_lt (b : List UInt8) (a : Nat) : val32 b a < 4294967296 := by
  unfold val32
  have h1 := val16_lt b a
  have h2 := val16_lt b (a + 2)
  lia
theorem get32_call {b : List UInt8} {a : Int} {t ta : Tok} (C : Cx w A 6 60 h₀ L m news s) (hb : b.length ≤ 100000) (ha : 0 ≤ a) (haz : a + 4 ≤ b.length)
   (ret : ∀ t' h' tk', Fr h₀ L h' m → News h₀ L h' news → Q (.int (val32 b a.toNat) t') { s with heap := h', toks := tk' }) :
   wpAny (model PySem.Challenge.pw_nu0127_01 w) A (call (.ref 126) [.bytes b.toArray t, .int a ta]) Q E s := by
  refine Cx.elim (P := fun A => wpAny _ A _ _ _ _) C fun dp un gd cn cs fa ccd cl outer A₀ base mg mb mean loose B F X N T hk hdp hun => ?_
  have hv := val16_lt b a.toNat
  refine wpAny_call ?_
  have gdA2_17 : Unit := ()
  w_top off
  w_strict (
    (k_with "call ref" => (fail_if_success fail_if_success have := gdA2_17); first | (k_dflt (refine' need_call ?C ?h1 ?h2 ?h3 ?_; (case C => k_extra "cx_now"); (case h1 => lia); (case h2 => lia); (case h3 => lia)); intro h' tk' F' N') | (k_dflt (refine' get16_call ?C ?h1 ?h2 ?h3 ?_; (case C => k_extra "cx_now"); (case h1 => lia); (case h2 => lia); (case h3 => lia)); intro t' h' tk' F' N'))
    k_dflt ktr_enter
    k_steps
    all_goals (rw [show (val16 b a.toNat : Int) * 2 ^ Int.toNat 16 = (val16 b a.toNat : Int) * ((2 ^ 16 : Nat) : Int) from rfl, bitOrN _ _ 16 (val16_lt _ _), show (a + 2).toNat = a.toNat + 2 by lia]; exact ret _ _ _ (by assumption) (by k_extra "led")))
theorem get48_call {b : List UInt8} {a : Int} {t ta : Tok} (C : Cx w A 8 80 h₀ L m news s) (hb : b.length ≤ 100000) (ha : 0 ≤ a) (haz : a + 6 ≤ b.length)
   (ret : ∀ t' h' tk', Fr h₀ L h' m → News h₀ L h' news → Q (.int (val48 b a.toNat) t') { s with heap := h', toks := tk' }) :
   wpAny (model PySem.Challenge.pw_nu0127_01 w) A (call (.ref 133) [.bytes b.toArray t, .int a ta]) Q E s := by
  refine Cx.elim (P := fun A => wpAny _ A _ _ _ _) C fun dp un gd cn cs fa ccd cl outer A₀ base mg mb mean loose B F X N T hk hdp hun => ?_
  have hv := val16_lt b a.toNat
  refine wpAny_call ?_
  have gdA2_18 : Unit := ()
  w_top off
  w_strict (
    (k_with "call ref" => (fail_if_success fail_if_success have := gdA2_18); first | (k_dflt (refine' need_call ?C ?h1 ?h2 ?h3 ?_; (case C => k_extra "cx_now"); (case h1 => lia); (case h2 => lia); (case h3 => lia)); intro h' tk' F' N') | (k_dflt (refine' get16_call ?C ?h1 ?h2 ?h3 ?_; (case C => k_extra "cx_now"); (case h1 => lia); (case h2 => lia); (case h3 => lia)); intro t' h' tk' F' N') | (k_dflt (refine' get32_call ?C ?h1 ?h2 ?h3 ?_; (case C => k_extra "cx_now"); (case h1 => lia); (case h2 => lia); (case h3 => lia)); intro t' h' tk' F' N'))
    k_dflt ktr_enter
    k_steps
    all_goals (rw [show (val16 b a.toNat : Int) * 2 ^ Int.toNat 32 = (val16 b a.toNat : Int) * ((2 ^ 32 : Nat) : Int) from rfl, bitOrN _ _ 32 (val32_lt _ _), show (a + 2).toNat = a.toNat + 2 by lia]; exact ret _ _ _ (by assumption) (by k_extra "led")))
end
section
variable {prog : Program} {w : World} {A : Around} {E : Value → Shared → Prop} {s : Shared} {env : Env} {h₀ : Heap} {target : Expr} {body : List Stmt} {Q : Flow → Shared → Prop}
def TRest (prog : Program) (w : World) (A : Around) (E : Value → Shared → Prop) (h₀ : Heap) (env : Env) (target : Expr) (body : List Stmt) (Q : Flow → Shared → Prop) (s : Shared) (I : Addr) (P : Nat → Value → Prop) (ItP : Nat → Obj → Prop) (S : List (Addr × Obj) → Prop) :
    Nat → Nat → (Str → Option Value) → List (Addr × Obj) → Prop
  | 0, _, m, news => ∀ h tk, Fr h₀ env.locals h m → News h₀ env.locals h news → Q .next { s with heap := h, toks := tk }
  | k + 1, i, m, news => ∀ v it h tk, P i v → ItP (i + 1) it → Fr h₀ env.locals h m → News h₀ env.locals h ((I, it) :: news) →
      wpAny (model prog w) A (assign target env v) (fun _ s₂ => wpAny (model prog w) A (execs body env) (UnrPost h₀ env.locals { s with heap := h, toks := tk } I it (fun m' n' => S n' ∧ TRest prog w A E h₀ env target body Q s I P ItP S k (i + 1) m' n') Q) E s₂) E { s with heap := h, toks := tk }
theorem TRest.ind {I : Addr} {P : Nat → Value → Prop} {ItP : Nat → Obj → Prop} {S : List (Addr × Obj) → Prop} {n : Nat} (J : Nat → (Str → Option Value) → List (Addr × Obj) → Prop)
    (turn : ∀ i m news v it h tk, i < n → J i m news → P i v → ItP (i + 1) it → Fr h₀ env.locals h m → News h₀ env.locals h ((I, it) :: news) →
      wpAny (model prog w) A (assign target env v) (fun _ s₂ => wpAny (model prog w) A (execs body env) (UnrPost h₀ env.locals { s with heap := h, toks := tk } I it (fun m' n' => S n' ∧ J (i + 1) m' n') Q) E s₂) E { s with heap := h, toks := tk })
    (done : ∀ m news h tk, J n m news → Fr h₀ env.locals h m → News h₀ env.locals h news → Q .next { s with heap := h, toks := tk })
    {m : Str → Option Value} {news : List (Addr × Obj)} (h0 : J 0 m news) : TRest prog w A E h₀ env target body Q s I P ItP S n 0 m news := by
  have key : ∀ k i m news, i + k = n → J i m news → TRest prog w A E h₀ env target body Q s I P ItP S k i m news := by
    intro k
    induction k with
    | zero =>
      intro i m news hi hJ
      have : i = n := by lia
      subst this
      exact fun h tk F N => done m news h tk hJ F N
    | succ k ih =>
      intro i m news hi hJ v it h tk hP hI F N
      refine wpAny_mono (turn i m news v it h tk (by lia) hJ hP hI F N) (fun _ s₂ h₂ => wpAny_mono h₂ (fun f s₃ h₃ => ?_) fun _ _ e => e) fun _ _ e => e
      have fin : UnrEnd h₀ env.locals { s with heap := h, toks := tk } I it (fun m' n' => S n' ∧ J (i + 1) m' n') s₃ → UnrEnd h₀ env.locals { s with heap := h, toks := tk } I it (fun m' n' => S n' ∧ TRest prog w A E h₀ env target body Q s I P ItP S k (i + 1) m' n') s₃ := by
        rintro ⟨h', tk', m', n', e, F', N', o, hs, hj⟩
        exact ⟨h', tk', m', n', e, F', N', o, hs, ih (i + 1) m' n' (by lia) hj⟩
      cases f with
      | ret v => exact h₃
      | brk => exact h₃
      | next => exact fin h₃
      | cont => exact fin h₃
  exact key n 0 m news (by lia) h0
/-- the same, a turn shown for any invariant behind it, any post, any state around: its terms stay small -/
theorem TRest.indO {I : Addr} {P : Nat → Value → Prop} {ItP : Nat → Obj → Prop} {S : List (Addr × Obj) → Prop} {n : Nat} (J : Nat → (Str → Option Value) → List (Addr × Obj) → Prop)
    (turn : ∀ (K : (Str → Option Value) → List (Addr × Obj) → Prop) (Q' : Flow → Shared → Prop) (z : Shared) i m news v it h tk, (∀ m' n', J (i + 1) m' n' → K m' n') → i < n → J i m news → P i v → ItP (i + 1) it → Fr h₀ env.locals h m → News h₀ env.locals h ((I, it) :: news) →
      wpAny (model prog w) A (assign target env v) (fun _ s₂ => wpAny (model prog w) A (execs body env) (UnrPost h₀ env.locals { z with heap := h, toks := tk } I it (fun m' n' => S n' ∧ K m' n') Q') E s₂) E { z with heap := h, toks := tk })
    (done : ∀ m news h tk, J n m news → Fr h₀ env.locals h m → News h₀ env.locals h news → Q .next { s with heap := h, toks := tk })
    {m : Str → Option Value} {news : List (Addr × Obj)} (h0 : J 0 m news) : TRest prog w A E h₀ env target body Q s I P ItP S n 0 m news :=
  TRest.ind J (fun i m news v it h tk hi hJ hP hI F N => turn (J (i + 1)) Q s i m news v it h tk (fun _ _ h => h) hi hJ hP hI F N) done h0
theorem for_walkT {I : Addr} {fp : List Addr} {n : Nat} {P : Nat → Value → Prop} {St : Nat → Heap → Prop} {ItP : Nat → Obj → Prop} {S : List (Addr × Obj) → Prop} {m : Str → Option Value} {news : List (Addr × Obj)}
    (W : Walks prog w A I fp [I] n P St) (hIo : ∀ i h, St i h → ∃ o, h.get? I = some o ∧ ItP i o)
    (hSt : ∀ i h h' o nw, St i h → h.get? I = some o → h'.get? I = some o → (∀ b o, h₀.get? b = some o → h'.get? b = some o) → News h₀ env.locals h' nw → S nw → St i h')
    (hst : St 0 s.heap) (F : Fr h₀ env.locals s.heap m) (N : News h₀ env.locals s.heap news) (hIL : env.locals ≠ I) (hI₀ : h₀.get? I = none) (off : ∀ p ∈ news, p.1 ≠ I) (hS : S news)
    (R : TRest prog w A E h₀ env target body Q s I P ItP S n 0 m news) (hE : PassesOwn (model prog w) A env E) (ht : ∀ v, letOwnedTupleGo target (.ref I) v = pure ()) :
    codeAny (model prog w) A (.forLoop target (.ref I) body [] env) (fun r s' => match r with | .ok f => Q f s' | .error e => cameBackBy (model prog w) A env E e s') s := by
  refine codeAny_forLoop
    (fun k s' => ∃ h' tk m' news' i, s' = { s with heap := h', toks := tk } ∧ St i h' ∧ Fr h₀ env.locals h' m' ∧ News h₀ env.locals h' news' ∧ (∀ p ∈ news', p.1 ≠ I) ∧ S news' ∧ TRest prog w A E h₀ env target body Q s I P ItP S (n - i) i m' news' ∧ i ≤ n ∧ k = n + 1 - i) ?_ (n + 1)
    ⟨s.heap, s.toks, m, news, 0, rfl, hst, F, N, off, hS, R, Nat.zero_le _, rfl⟩ ht
  rintro k s' ⟨h', tk, m', news', i, rfl, hst', F', N', off', hS', R', hi, rfl⟩
  by_cases hlt : i < n
  · obtain ⟨j, hj⟩ : ∃ j, n - i = j + 1 := ⟨n - i - 1, by lia⟩
    rw [hj] at R'
    refine W.item i _ _ _ hlt hst' fun v h₂ tk₂ hPv hst₂ hk₂ => ?_
    obtain ⟨oI, heI, hoI⟩ := hIo _ _ hst₂
    have F₂ : Fr h₀ env.locals h₂ m' := LCg.fr_but F' hk₂ hIL hI₀
    have N₂ : News h₀ env.locals h₂ news' := LCg.news_but N' hk₂ off'
    have N₃ : News h₀ env.locals h₂ ((I, oI) :: news') := fun p hp => by
      rcases List.mem_cons.mp hp with rfl | hp
      · exact ⟨heI, Ne.symm hIL, hI₀⟩
      · exact N₂ p hp
    refine wpAny_passesOwn hE (wpAny_mono (R' v oI h₂ tk₂ hPv hoI F₂ N₃) (fun _ s₃ h₃ => wpAny_passesOwn hE (wpAny_mono h₃ (fun f s₄ hp₄ => ?_) fun _ _ e => e)) fun _ _ e => e)
    have fin : UnrEnd h₀ env.locals { s with heap := h₂, toks := tk₂ } I oI (fun m' n' => S n' ∧ TRest prog w A E h₀ env target body Q s I P ItP S j (i + 1) m' n') s₄ →
        ∃ m_1, m_1 < n + 1 - i ∧ ∃ h' tk m' news' i_1, s₄ = { s with heap := h', toks := tk } ∧ St i_1 h' ∧ Fr h₀ env.locals h' m' ∧ News h₀ env.locals h' news' ∧ (∀ p ∈ news', p.1 ≠ I) ∧ S news' ∧ TRest prog w A E h₀ env target body Q s I P ItP S (n - i_1) i_1 m' news' ∧ i_1 ≤ n ∧ m_1 = n + 1 - i_1 := by
      rintro ⟨h₄, tk₄, m₄, n₄, rfl, F₄, N₄, o₄, S₄, R₄⟩
      have zI := (N₄ (I, oI) List.mem_cons_self).1
      have N₄' : News h₀ env.locals h₄ n₄ := fun p hp => N₄ p (List.mem_cons_of_mem _ hp)
      refine ⟨n + 1 - (i + 1), by lia, h₄, tk₄, m₄, n₄, i + 1, rfl, hSt _ _ _ _ _ hst₂ heI zI F₄.keep N₄' S₄, F₄, N₄', o₄, S₄, ?_, hlt, rfl⟩
      rw [show n - (i + 1) = j by lia]
      exact R₄
    cases f with
    | ret v => exact hp₄
    | brk => exact hp₄
    | next => exact fin hp₄
    | cont => exact fin hp₄
  · obtain rfl : i = n := Nat.le_antisymm hi (Nat.not_lt.mp hlt)
    rw [Nat.sub_self] at R'
    refine W.done _ _ _ hst' fun h₂ tk₂ hk₂ => wpAny_execs_nil ?_
    exact R' h₂ tk₂ (LCg.fr_but F' hk₂ hIL hI₀) (LCg.news_but N' hk₂ off')

/-- what a loop is to be shown for, at the iterable's value -/
def ForSrc (prog : Program) (w : World) (A : Around) (E : Value → Shared → Prop) (env : Env) (target : Expr) (body : List Stmt) (Q : Flow → Shared → Prop) (xv : Value) (s : Shared) : Prop :=
  wpAny (model prog w) A (pyIter xv) (fun it s₂ => codeAny (model prog w) A (.forLoop target it body [] env) (fun r s' => match r with | .ok f => Q f s' | .error e => cameBackBy (model prog w) A env E e s') s₂) E s
theorem For_T {iter : Expr} {pos : Pos} (h : wpAny (model prog w) A (eval iter env) (ForSrc prog w A E env target body Q) E s)
    (hs : ∀ x, foldedSetIterable iter env x = pure x := by intro _; rfl) : wpAny (model prog w) A (exec (.For target iter body [] pos) env) Q E s :=
  wpAny_For h hs
theorem ForSrc.range {r : Addr} {a b : Int} {t u v : Tok} {n : Nat} {m : Str → Option Value} {news : List (Addr × Obj)} (hh : A.handled = none) (hE : PassesOwn (model prog w) A env E) (F : Fr h₀ env.locals s.heap m) (N : News h₀ env.locals s.heap news)
    (hr : IsRange s.heap r a b 1 t u v) (hsm : Builtin.Range.small a b 1 = true) (hn : Builtin.Range.rangeSize a b 1 = ((n : Nat) : Int))
    (R : ∀ I g, (∀ p ∈ news, p.1 < I) → TRest prog w A E h₀ env target body Q { s with heap := g } I (fun i v => ∃ t, v = .int (a + (i : Int)) t) (fun i o => o = itR (a + ((i : Nat) : Int)) ((n : Int) - ((i : Nat) : Int))) (fun _ => True) n 0 m news)
    (ht : ∀ it v, letOwnedTupleGo target it v = pure () := by intro _ _; rfl) : ForSrc prog w A E env target body Q (.ref r) s := by
  refine wpAny_pyIter_range hr hsm ?_
  refine for_walkT (LCg.range_walks hh a n) (fun i h st => ⟨_, st, by simp [itR]⟩) LCg.range_st (by show IsRangeIter _ _ _ _ _; rw [hn]; simpa using Heap.get?_push_size _ rfl)
    (F.keeps fun _ _ e => Heap.get?_push_of_some _ e) (N.grown fun _ _ e => Heap.get?_push_of_some _ e) (Nat.ne_of_lt F.ns.lt) (next_is_new F) (fun p hp => Nat.ne_of_lt (Heap.lt_size (N p hp).1)) trivial (R _ _ fun p hp => Heap.lt_size (N p hp).1) hE (fun v => ht _ v)
theorem ForSrc.list {ax : Addr} {its : Array Value} {k : Nat} {m : Str → Option Value} {news : List (Addr × Obj)} (hh : A.handled = none) (hE : PassesOwn (model prog w) A env E) (F : Fr h₀ env.locals s.heap m) (N : News h₀ env.locals s.heap news)
    (hm : (ax, listOf its k) ∈ news)
    (R : ∀ I g, (∀ p ∈ news, p.1 < I) → TRest prog w A E h₀ env target body Q { s with heap := g } I (fun i v => its[i]? = some v) (fun _ o => o.cls = .type "list_iterator") (fun nw => (ax, listOf its k) ∈ nw) its.size 0 m news)
    (ht : ∀ it v, letOwnedTupleGo target it v = pure () := by intro _ _; rfl) : ForSrc prog w A E env target body Q (.ref ax) s := by
  have hl : s.heap.IsList ax its := ⟨_, (N _ hm).1, rfl, _, rfl⟩
  have hlt : ax < s.heap.objs.size := Heap.lt_size (N _ hm).1
  refine wpAny_pyIter_list hl ?_
  refine for_walkT (fp := [s.heap.objs.size, ax]) (St := fun i h => h.IsListIter s.heap.objs.size ax i ∧ h.IsList ax its) (Walks.list hh s.heap.objs.size ax (Nat.ne_of_lt hlt) its) (fun i h st => by obtain ⟨o, e, c, _⟩ := st.1; exact ⟨o, e, c⟩) ?_ ⟨⟨_, Heap.get?_push_size _ rfl, rfl, rfl⟩, hl.push _⟩
    (F.keeps fun _ _ e => Heap.get?_push_of_some _ e) (N.grown fun _ _ e => Heap.get?_push_of_some _ e) (Nat.ne_of_lt F.ns.lt) (next_is_new F) (fun p hp => Nat.ne_of_lt (Heap.lt_size (N p hp).1)) hm (R _ _ fun p hp => Heap.lt_size (N p hp).1) hE (fun v => ht _ v)
  intro i h h' o nw st e e' k N' hm'
  exact ⟨by obtain ⟨o', q, r⟩ := st.1; rw [e] at q; cases q; exact ⟨o, e', r⟩, ⟨_, (N' _ hm').1, rfl, _, rfl⟩⟩
theorem ForSrc.bytes {b : List UInt8} {t : Tok} {m : Str → Option Value} {news : List (Addr × Obj)} (hh : A.handled = none) (hE : PassesOwn (model prog w) A env E) (F : Fr h₀ env.locals s.heap m) (N : News h₀ env.locals s.heap news)
    (R : ∀ I g, (∀ p ∈ news, p.1 < I) → TRest prog w A E h₀ env target body Q { s with heap := g } I (fun i v => ∃ c u, b[i]? = some c ∧ v = .int ((c.toNat : Nat) : Int) u) (fun _ _ => True) (fun _ => True) b.length 0 m news)
    (ht : ∀ it v, letOwnedTupleGo target it v = pure () := by intro _ _; rfl) : ForSrc prog w A E env target body Q (.bytes b.toArray t) s := by
  refine KBw.pyIter_bytes ?_
  have W := KBw.walks (prog := prog) (w := w) hh s.heap.objs.size b.toArray t
  rw [List.size_toArray] at W
  have W' : Walks prog w A s.heap.objs.size [s.heap.objs.size] [s.heap.objs.size] b.length (fun i v => ∃ c u, b[i]? = some c ∧ v = .int ((c.toNat : Nat) : Int) u) (fun i h => KBw.IsBytesIter h s.heap.objs.size b.toArray t i) :=
    { sub := W.sub, frame := W.frame, done := W.done, self := W.self, item := fun i s Q E hi st hQ => W.item i s Q E hi st fun v h' tk hP => hQ v h' tk (by simpa using hP) }
  refine for_walkT W' (fun i h st => by obtain ⟨o, e, _⟩ := st; exact ⟨o, e, trivial⟩) ?_ ⟨_, Heap.get?_push_size _ rfl, rfl, rfl⟩
    (F.keeps fun _ _ e => Heap.get?_push_of_some _ e) (N.grown fun _ _ e => Heap.get?_push_of_some _ e) (Nat.ne_of_lt F.ns.lt) (next_is_new F) (fun p hp => Nat.ne_of_lt (Heap.lt_size (N p hp).1)) trivial (R _ _ fun p hp => Heap.lt_size (N p hp).1) hE (fun v => ht _ v)
  intro i h h' o nw st e e' k N' _
  obtain ⟨o', q, r⟩ := st; rw [e] at q; cases q; exact ⟨o, e', r⟩
end
def polyN : Nat := 3988292384
def stepN (n : Nat) : Nat := if n % 2 = 1 then n / 2 ^^^ polyN else n / 2
def bsI (i : Nat) : Int := [(stepN (stepN (stepN polyN)) : Int), (stepN (stepN polyN) : Int), (stepN polyN : Int), (polyN : Int)].getD i 0
def fndI : Nat → List Int
  | 0 => [0]
  | i + 1 => fndI i ++ (fndI i).map fun a => Builtin.bitXor a (bsI i)
theorem fnd_len : ∀ i, (fndI i).length = 2 ^ i
  | 0 => rfl
  | i + 1 => by rw [fndI, List.length_append, List.length_map, fnd_len i, Nat.pow_succ]; lia
section
variable {w : World} {A : Around} {h₀ : Heap} {L : Addr} {m : Str → Option Value} {news : List (Addr × Obj)} {s : Shared} {Q E : Value → Shared → Prop}
set_option maxHeartbeats 8000000 in
theorem shifted_call {x : Int} {n : Nat} {t : Tok} (C : Cx w A 2 20 h₀ L m news s) (hx : x = (n : Int))
   (ret : ∀ t' h' tk', Fr h₀ L h' m → News h₀ L h' news → Q (.int (stepN n) t') { s with heap := h', toks := tk' }) :
   wpAny (model PySem.Challenge.pw_nu0127_01 w) A (call (.ref 28) [.int x t]) Q E s := by
  refine Cx.elim (P := fun A => wpAny _ A _ _ _ _) C fun dp un gd cn cs fa ccd cl outer A₀ base mg mb mean loose B F X N T hk hdp hun => ?_
  have e2 : Builtin.bitAnd (n : Int) 1 = ((n % 2 : Nat) : Int) := by rw [bitAnd_m1]; lia
  have e3 : (n : Int).fdiv (2 ^ Int.toNat 1) = ((n / 2 : Nat) : Int) := by rw [fdivP (by decide)]; show (n : Int) / 2 = _; lia
  have e4 : Builtin.bitXor ((n / 2 : Nat) : Int) 3988292384 = ((n / 2 ^^^ polyN : Nat) : Int) := bitXorN (n / 2) polyN
  subst hx
  refine wpAny_call ?_
  have gdA3_2 : Unit := ()
  w_top off
  w_strict (
    k_dflt ktr_enter
    k_steps
    · rename_i hc _ _ _ _
      rw [e3, e4]
      rw [e2] at hc
      have e : stepN n = n / 2 ^^^ polyN := if_pos (by simp at hc; lia)
      rw [← e]
      exact ret _ _ _ (by assumption) (by k_extra "led")
    · rename_i hc _ _ _ _
      rw [e3]
      rw [e2] at hc
      have e : stepN n = n / 2 := if_neg (by simp at hc; lia)
      rw [← e]
      exact ret _ _ _ (by assumption) (by k_extra "led"))
set_option maxHeartbeats 8000000 in
theorem halves_call (C : Cx w A 8 80 h₀ L m news s)
   (ret : ∀ (l : Addr) (vs : List Value) (n : Nat) h' tk', IntsAre vs (fndI 4) → Fr h₀ L h' m → News h₀ L h' ((l, listOf vs.toArray n) :: news) → Q (.ref l) { s with heap := h', toks := tk' }) :
   wpAny (model PySem.Challenge.pw_nu0127_01 w) A (call (.ref 33) []) Q E s := by
  refine Cx.elim (P := fun A => wpAny _ A _ _ _ _) C fun dp un gd cn cs fa ccd cl outer A₀ base mg mb mean loose B F X N T hk hdp hun => ?_
  refine wpAny_call ?_
  have gdA3_3 : Unit := ()
  w_top off
  w_strict (
    (k_with "call ref" => (fail_if_success fail_if_success have := gdA3_3); (k_dflt (refine' shifted_call ?C ?h ?_; (case C => k_extra "cx_now"); (case h => rfl)); intro t' h' tk' F' N'))
    (k_with "exec For Name Subscript cons nil" => (fail_if_success fail_if_success have := gdA3_3); (refine For_T ?_))
    k_dflt (refine' code_defC ?k1 ?k2 ?k3 ?k4 ?k5 ?kA ?kF ?kK ?k6 ?k7 ?k8 ?k9 ?kB ?kD ?_ ?c2 ?c3 ?c4; (case kA => exact rfl); (case kF => exact rfl); (case kK => first | exact rfl | assumption); (case k1 => k_asm); (case k2 => k_asm); (case k3 => k_asm); (case k4 => k_asm); (case k5 => k_asm); (case k6 => k_is); (case k7 => k_is); (case k8 => ktr_room); (case k9 => first | exact BindsTo.of_eq rfl | exact binds_K (by k_in) rfl (by k_is) rfl rfl rfl); (case kB => exact rfl); (case kD => decide +kernel); (case c2 => exact rfl); (case c3 => exact rfl); (case c4 => exact rfl); k_whole; intro g1 L1 h1 tk1 cellsE FG1 F1 N1 YE B1 X1 T1 lE; (have l0 := lE); (try k_lt lE); (obtain ⟨o1, hEc, d1⟩ := CellsAre.one YE; subst hEc; clear YE); (try simp only [List.cons_append, List.nil_append] at N1); (try dsimp only); (try k_lift B1); (try k_fold))
    have F2 : Fr _ _ _ (fun _ => none) := F1
    clear F1
    have d2 : _ = Data.cell none := d1
    clear d1
    k_steps
    rename Fr _ _ _ _ => F3
    rename News _ _ _ _ => N3
    rename_i lf _ _ _ l1f _ D hD lD
    have N4 : ∃ a1 a2 a3 a4 tz, News g1 L1 hD ((lf, listOf #[.int 0 tz] 0) :: (D, listOf #[.int (stepN (stepN (stepN polyN)) : Nat) a1, .int (stepN (stepN polyN) : Nat) a2, .int (stepN polyN : Nat) a3, .int (polyN : Nat) a4] 0) :: (L1 + 1, o1) :: news) :=
      ⟨_, _, _, _, _, cb_drop N3 (by
        intro p hp
        rcases List.mem_cons.mp hp with rfl | hp
        · exact .tail _ (.head _)
        rcases List.mem_cons.mp hp with rfl | hp
        · exact .head _
        exact .tail _ (.tail _ (.tail _ hp)))⟩
    obtain ⟨a1, a2, a3, a4, tz, N4⟩ := N4
    clear N3
    obtain ⟨M0, F4⟩ : ∃ M0 : Str → Option Value, Fr g1 L1 hD (fun y => if y = Str.ofString "found" then some (.ref lf) else M0 y) := ⟨_, F3⟩
    clear F3
    refine ForSrc.list (by rfl) (by first | passes_own | with_unfolding_all passes_own) F4 N4 (List.Mem.tail _ (List.Mem.head _)) (fun I g hI => TRest.ind (fun i m' nw => ∃ (lf' : Addr) (vs : List Value) (nf : Nat) (o : Obj) (vo : Option Value),
      nw = (lf', listOf vs.toArray nf) :: (D, listOf #[.int (stepN (stepN (stepN polyN)) : Nat) a1, .int (stepN (stepN polyN) : Nat) a2, .int (stepN polyN : Nat) a3, .int (polyN : Nat) a4] 0) :: (L1 + 1, o) :: news ∧
      IntsAre vs (fndI i) ∧ m' = (fun y => if y = Str.ofString "found" then some (.ref lf') else M0 y) ∧ o.data = .cell vo ∧ @LT.lt Nat _ (L1 + 1) lf' ∧ @Ne Nat lf' D ∧ @Ne Nat lf' I) ?turn ?done ?start)
    case start => exact ⟨lf, _, _, o1, _, rfl, .cons 0 _ .nil, rfl, d2, l1f.2.1, Nat.ne_of_lt lD.1, Nat.ne_of_lt (hI _ (.head _))⟩
    case done =>
      clear F4 N4
      rintro m' nw h tk ⟨lf', vs, nf, o, vo, rfl, hvs, rfl, ho, h1, h2, h3⟩ F5 N5
      (try dsimp only)
      k_steps
      exact ret _ _ _ _ _ hvs (by assumption) (cb_drop (by assumption) (fun p hp => by
        rcases List.mem_cons.mp hp with rfl | hp
        · exact .head _
        · exact .tail _ (.tail _ (.tail _ hp))))
    case turn =>
      have hI0 := hI
      replace hI := allLt_of hI
      simp only [AllLt, and_true] at hI
      have l0' : ∀ p ∈ news, p.1 ≠ L1 + 1 := fun p hp => Nat.ne_of_lt (Nat.lt_succ_of_lt (l0 p hp))
      clear F4 N4
      rintro i m' nw v it h tk hi ⟨lf', vs, nf, o, vo, rfl, hvs, rfl, ho, h1, h2, h3⟩ hP hit F5 N5
      have hv : ∃ t, v = .int (bsI i) t := by
        match i, hi, hP with
        | 0, _, hP => exact ⟨a1, (Option.some.inj hP).symm⟩
        | 1, _, hP => exact ⟨a2, (Option.some.inj hP).symm⟩
        | 2, _, hP => exact ⟨a3, (Option.some.inj hP).symm⟩
        | 3, _, hP => exact ⟨a4, (Option.some.inj hP).symm⟩
      obtain ⟨t, rfl⟩ := hv
      have hlen := hvs.length
      have hi4 : i < 4 := hi
      rw [fnd_len] at hlen
      have hp2 : 2 ^ i ≤ 2 ^ 3 := Nat.pow_le_pow_right (by decide) (by lia)
      k_steps
      rename Fr _ _ _ _ => F6
      rename News _ _ _ _ => N6
      rename_i hc oN dN tkc hkl gc hI8 hL8 Dc hcc tkk o1c Dn ws hdd hws lN hN
      refine UnrEnd.intro F6 N6 ((Dn, listOf ws.toArray 0) :: (D, listOf #[.int (stepN (stepN (stepN polyN)) : Nat) a1, .int (stepN (stepN polyN) : Nat) a2, .int (stepN polyN : Nat) a3, .int (polyN : Nat) a4] 0) :: (L1 + 1, oN) :: news) ?sub ?off
        ⟨.tail _ (.head _), Dn, ws, 0, oN, _, rfl, hws, set_set, dN, lN.2.2.2.2.1, Nat.ne_of_gt lN.2.2.2.1, Nat.ne_of_gt lN.2.1⟩
      case sub =>
        intro p hp
        simp only [List.mem_cons] at hp ⊢
        rcases hp with h | h | h | h | h <;> simp [h]
      case off =>
        have hIn : ∀ p ∈ news, p.1 ≠ I := allLt_ne hI.2.2.2
        k_all)
end
theorem reg_A4_1 : True := by
  (k_with "exec For Name Name cons nil" => ((k_dflt refine For_T ?_)))
  (k_with "exec For Name Call cons nil" => ((k_dflt refine For_T ?_)))
  exact trivial
def tabN : List Nat := [0, 498536548, 997073096, 651767980, 1994146192, 1802195444, 1303535960, 1342533948, 3988292384, 4027552580, 3604390888, 3412177804, 2607071920, 2262029012, 2685067896, 3183342108]
theorem tab_eq : fndI 4 = tabN.map fun n : Nat => (n : Int) := by decide +kernel
def nibN (w : Nat) : Nat := w / 16 ^^^ tabN.getD (w % 16) 0
def octN (w o : Nat) : Nat := nibN (nibN (w ^^^ o))
def crcW (w : Nat) (b : List UInt8) : Nat := b.foldl (fun w c => octN w c.toNat) w
def crcN (b : List UInt8) : Nat := crcW 4294967295 b ^^^ 4294967295
theorem nib_int (w : Nat) : Builtin.bitXor ((w : Int).fdiv (2 ^ Int.toNat 4)) ((fndI 4).getD (Builtin.bitAnd (w : Int) 15).toNat 0) = ((nibN w : Nat) : Int) := by
  have e1 : (w : Int).fdiv (2 ^ Int.toNat 4) = ((w / 16 : Nat) : Int) := by rw [fdivP (by decide)]; show (w : Int) / 16 = _; lia
  have e2 : (Builtin.bitAnd (w : Int) 15).toNat = w % 16 := by rw [bitAnd_m4]; lia
  have e3 : ∀ j : Nat, (tabN.map fun n : Nat => (n : Int)).getD j 0 = ((tabN.getD j 0 : Nat) : Int) := by
    intro j
    simp only [List.getD, List.getElem?_map]
    cases tabN[j]? <;> rfl
  rw [e1, e2, tab_eq, e3, bitXorN]
  rfl
section
variable {w : World} {A : Around} {h₀ : Heap} {L : Addr} {m : Str → Option Value} {news : List (Addr × Obj)} {s : Shared} {Q E : Value → Shared → Prop}
set_option maxHeartbeats 8000000 in
theorem crc32_call {b : List UInt8} {t : Tok} (C : Cx w A 12 120 h₀ L m news s) (hb : b.length ≤ 100000)
   (ret : ∀ t' h' tk', Fr h₀ L h' m → News h₀ L h' news → Q (.int (crcN b) t') { s with heap := h', toks := tk' }) :
   wpAny (model PySem.Challenge.pw_nu0127_01 w) A (call (.ref 40) [.bytes b.toArray t]) Q E s := by
  refine Cx.elim (P := fun A => wpAny _ A _ _ _ _) C fun dp un gd cn cs fa ccd cl outer A₀ base mg mb mean loose B F X N T hk hdp hun => ?_
  refine wpAny_call ?_
  have gdA4_3 : Unit := ()
  w_top off
  w_strict (
    (k_with "call ref" => (fail_if_success fail_if_success have := gdA4_3); (k_dflt (refine' halves_call ?C ?_; (case C => k_extra "cx_now")); intro l' vs' n' h' tk' hi' F' N'))
    (k_with "subscriptTail Name BinOp ref int" => (fail_if_success fail_if_success have := gdA4_3); (k_dflt (refine' ksa_sub ?k1 ?k2 ?k3 ?k4 ?k5 ?k6 ?_ ?k7; (case k1 => k_asm); (case k2 => k_mem); (case k3 => with_reducible assumption); (case k4 => (rw [bitAnd_m4]; exact Int.emod_nonneg _ (by decide))); (case k5 => (rw [bitAnd_m4, fnd_len]; exact Int.emod_lt_of_pos _ (by decide))); (case k6 => (rw [bitAnd_m4]; exact Int.lt_trans (Int.emod_lt_of_pos _ (by decide)) (by decide))); (case k7 => with_unfolding_all rfl)); intro _))
    k_dflt ktr_enter
    rename Fr _ _ _ _ => F1
    have F2 : Fr _ _ _ (fun y => List.lookup y [(Str.ofString "octets", Value.bytes b.toArray t)]) := F1
    clear F1
    k_steps
    rename Fr _ _ _ _ => F3
    rename News _ _ _ _ => N3
    refine ForSrc.bytes (by rfl) (by first | passes_own | with_unfolding_all passes_own) F3 N3 (fun I g hI => TRest.ind (fun i m' nw => Keep (∃ (tw : Tok) (u : Option Value), nw = (l', listOf vs'.toArray n') :: news ∧
      m' = (fun y => if y = Str.ofString "word" then some (.int (crcW 4294967295 (b.take i) : Nat) tw) else if y = Str.ofString "octet" then u else if y = Str.ofString "table" then some (Value.ref l') else List.lookup y [(Str.ofString "octets", Value.bytes b.toArray t)]))) ?turn ?done ?start)
    case start => exact ⟨_, none, rfl, by
      funext y
      by_cases h1 : y = Str.ofString "word"
      · simp only [h1, if_true]; rfl
      · by_cases h2 : y = Str.ofString "octet"
        · subst h2; rfl
        · simp only [h1, h2, if_false]⟩
    case done =>
      clear F3 N3
      rintro m' nw h tk ⟨tw, u, rfl, rfl⟩ F5 N5
      (try dsimp only)
      k_steps
      rw [List.take_length, show Builtin.bitXor ((crcW 4294967295 b : Nat) : Int) 4294967295 = ((crcN b : Nat) : Int) from bitXorN _ 4294967295]
      exact ret _ _ _ (by assumption) (by k_extra "led")
    case turn =>
      have hI0 := hI
      replace hI := allLt_of hI
      simp only [AllLt] at hI
      have hIn : ∀ p ∈ news, p.1 ≠ I := allLt_ne hI.2
      clear F3 N3
      rintro i m' nw v it h tk hi ⟨tw, u, rfl, rfl⟩ ⟨c, tc, hc, rfl⟩ hit F5 N5
      k_steps
      exact trivial
      refine' ⟨_, some (.int ((c.toNat : Nat) : Int) tc), rfl, ?eq⟩
      case eq =>
        have e : crcW 4294967295 (b.take (i + 1)) = octN (crcW 4294967295 (b.take i)) c.toNat := by
          unfold crcW
          rw [List.take_add_one, hc]
          simp
        rw [bitXorN, nib_int, nib_int]
        rw [e]
        funext y
        by_cases h1 : y = Str.ofString "word"
        · simp only [h1, if_true]; rfl
        · by_cases h2 : y = Str.ofString "octet"
          · subst h2; rfl
          · simp only [h1, h2, if_false])
end
def le32 (n : Nat) : List UInt8 := [(n % 256).toUInt8, (n / 256 % 256).toUInt8, (n / 65536 % 256).toUInt8, (n / 16777216).toUInt8]
theorem le32_len (n : Nat) : (le32 n).length = 4 := rfl
theorem reg_A5_1 : True := by
  (k_with "blen" => ((simp only [List.length_append, List.length_replicate, be48_len, be16_len, le32_len] at *; lia)))
  exact trivial
theorem tab_lt : ∀ j, tabN.getD j 0 < 2 ^ 32 := by
  intro j
  by_cases h : j < 16
  · have : ∀ i : Fin 16, tabN.getD i.val 0 < 2 ^ 32 := by decide +kernel
    exact this ⟨j, h⟩
  · have : tabN.getD j 0 = 0 := by
      have hl : tabN.length = 16 := by decide +kernel
      simp [List.getD, List.getElem?_eq_none (show tabN.length ≤ j by lia)]
    rw [this]; decide
theorem nib_lt {w : Nat} (h : w < 2 ^ 32) : nibN w < 2 ^ 32 := by
  unfold nibN
  exact Nat.xor_lt_two_pow (by lia) (tab_lt _)
theorem oct_lt {w o : Nat} (h : w < 2 ^ 32) (ho : o < 256) : octN w o < 2 ^ 32 := by
  unfold octN
  exact nib_lt (nib_lt (Nat.xor_lt_two_pow h (by lia)))
theorem crcW_lt : ∀ (b : List UInt8) {w : Nat}, w < 2 ^ 32 → crcW w b < 2 ^ 32
  | [], _, h => h
  | c :: r, w, h => by
    have : crcW w (c :: r) = crcW (octN w c.toNat) r := rfl
    rw [this]
    exact crcW_lt r (oct_lt h (UInt8.toNat_lt c))
theorem crcN_lt (b : List UInt8) : crcN b < 2 ^ 32 := by
  unfold crcN
  exact Nat.xor_lt_two_pow (crcW_lt b (by decide)) (by decide)
section
variable {w : World} {A : Around} {h₀ : Heap} {L : Addr} {m : Str → Option Value} {news : List (Addr × Obj)} {s : Shared} {Q E : Value → Shared → Prop}
set_option maxHeartbeats 8000000 in
theorem sumoct_call {b : List UInt8} {t : Tok} (C : Cx w A 14 140 h₀ L m news s) (hb : b.length ≤ 100000)
   (ret : ∀ t' h' tk', Fr h₀ L h' m → News h₀ L h' news → Q (.bytes (le32 (crcN b)).toArray t') { s with heap := h', toks := tk' }) :
   wpAny (model PySem.Challenge.pw_nu0127_01 w) A (call (.ref 168) [.bytes b.toArray t]) Q E s := by
  refine Cx.elim (P := fun A => wpAny _ A _ _ _ _) C fun dp un gd cn cs fa ccd cl outer A₀ base mg mb mean loose B F X N T hk hdp hun => ?_
  have hc := crcN_lt b
  generalize hv : crcN b = v at hc ret
  have e1 : Builtin.bitAnd (v : Int) 255 = ((v % 256 : Nat) : Int) := by rw [bitAnd_m8]; lia
  have e2 : Builtin.bitAnd ((v : Int).fdiv (2 ^ Int.toNat 8)) 255 = ((v / 256 % 256 : Nat) : Int) := by rw [bitAnd_m8, fdivP (by decide)]; show (v : Int) / 256 % 256 = _; lia
  have e3 : Builtin.bitAnd ((v : Int).fdiv (2 ^ Int.toNat 16)) 255 = ((v / 65536 % 256 : Nat) : Int) := by rw [bitAnd_m8, fdivP (by decide)]; show (v : Int) / 65536 % 256 = _; lia
  have e4 : (v : Int).fdiv (2 ^ Int.toNat 24) = ((v / 16777216 : Nat) : Int) := by rw [fdivP (by decide)]; show (v : Int) / 16777216 = _; lia
  refine wpAny_call ?_
  have gdA5_7 : Unit := ()
  w_top off
  w_strict (
    (k_with "call ref" => (fail_if_success fail_if_success have := gdA5_7); (k_dflt (refine' crc32_call ?C ?h ?_; (case C => k_extra "cx_now"); (case h => assumption)); intro t' h' tk' F' N'; rw [hv]))
    (k_with "bytes_in" => (fail_if_success fail_if_success have := gdA5_7); (intro z hz; simp only [e1, e2, e3, e4, List.mem_cons, List.not_mem_nil, or_false] at hz; lia))
    k_dflt k_extra "enter"
    k_steps
    simp only [e1, e2, e3, e4]
    exact ret _ _ _ (by assumption) (by k_extra "led"))
set_option maxHeartbeats 8000000 in
theorem pack_call {fx dx : Addr} {a b k : Int} {p : List UInt8} {z : Int} {ta tb tk tp tz : Tok} {es : List DictEntry} {n : Nat}
   (C : Cx w A 18 200 h₀ L m ((fx, instObj 157 dx) :: (dx, dictOf es n) :: news) s)
   (g1 : getL "target" es = some (some (.int a ta))) (g2 : getL "source" es = some (some (.int b tb))) (g3 : getL "kind" es = some (some (.int k tk))) (g4 : getL "payload" es = some (some (.bytes p.toArray tp)))
   (hp : p.length ≤ 100) (hz0 : 0 ≤ z) (hz : z ≤ 100)
   (ret : ∀ t' h' tk', Fr h₀ L h' m → News h₀ L h' ((fx, instObj 157 dx) :: (dx, dictOf es n) :: news) → Q (.bytes (be48 a ++ be48 b ++ be16 k ++ (p ++ List.replicate (z.toNat - p.length) 0) ++ le32 (crcN (be48 a ++ be48 b ++ be16 k ++ (p ++ List.replicate (z.toNat - p.length) 0)))).toArray t') { s with heap := h', toks := tk' }) :
   wpAny (model PySem.Challenge.pw_nu0127_01 w) A (call (.ref 176) [.ref fx, .int z tz]) Q E s := by
  refine Cx.elim (P := fun A => wpAny _ A _ _ _ _) C fun dp un gd cn cs fa ccd cl outer A₀ base mg mb mean loose B F X N T hk hdp hun => ?_
  refine wpAny_call ?_
  have gdA5_8 : Unit := ()
  w_top off
  w_strict (
    (k_with "call ref" => (fail_if_success fail_if_success have := gdA5_8); first | (k_dflt (refine' put48_call ?C ?_; (case C => k_extra "cx_now")); intro t' h' tk' F' N') | (k_dflt (refine' put16_call ?C ?_; (case C => k_extra "cx_now")); intro t' h' tk' F' N') | (k_dflt (refine' sumoct_call ?C ?h ?_; (case C => k_extra "cx_now"); (case h => k_extra "blen")); intro t' h' tk' F' N'))
    k_dflt k_extra "enter"
    k_steps
    · rw [show (z - (p.length : Int)).toNat = z.toNat - p.length by lia]
      exact ret _ _ _ (by assumption) (by k_extra "led")
    · have e0 : z.toNat - p.length = 0 := by lia
      rw [e0, List.replicate_zero, List.append_nil] at ret
      exact ret _ _ _ (by assumption) (by k_extra "led"))
end
section
variable {w : World} {A : Around} {h₀ : Heap} {L : Addr} {m : Str → Option Value} {news : List (Addr × Obj)} {s : Shared} {Q E : Value → Shared → Prop}
set_option maxHeartbeats 8000000 in
theorem frame_call {v1 v2 v3 v4 : Value} (C : Cx w A 8 80 h₀ L m news s)
   (ret : ∀ fx dx es n h' tk', Fr h₀ L h' m → News h₀ L h' ((fx, instObj 157 dx) :: (dx, dictOf es n) :: news) → (∀ p ∈ news, p.1 < dx) → @LT.lt Nat _ dx fx →
      getL "target" es = some (some v1) → getL "source" es = some (some v2) → getL "kind" es = some (some v3) → getL "payload" es = some (some v4) → Q (.ref fx) { s with heap := h', toks := tk' }) :
   wpAny (model PySem.Challenge.pw_nu0127_01 w) A (call (.ref 157) [v1, v2, v3, v4]) Q E s := by
  refine Cx.elim (P := fun A => wpAny _ A _ _ _ _) C fun dp un gd cn cs fa ccd cl outer A₀ base mg mb mean loose B F X N T hk hdp hun => ?_
  have gdA6a_1 : Unit := ()
  w_top off
  w_strict (
    k_dflt (refine' call_cls ?k1 ?k2 ?k3 ?k4 ?k5 ?k6 ?_; (case k1 => k_asm); (case k2 => k_asm); (case k3 => k_asm); (case k4 => k_is); (case k5 => k_is); (case k6 => k_is); k_whole; intro x' d' h' F' N' l1 l2; (have l1o := l1); (try k_lt l1); (try k_lt2 l2))
    k_dflt k_extra "enter"
    k_steps
    all_goals (refine' ret _ _ _ _ _ _ ?a ?b ?c ?d ?e ?f ?g ?h; (case a => assumption); (case b => assumption); (case c => assumption); (case d => assumption); (case e => k_get); (case f => k_get); (case g => k_get); (case h => k_get)))
end
def okF (b : List UInt8) : Prop := 18 ≤ b.length ∧ le32 (crcN (b.take (b.length - 4))) = b.drop (b.length - 4)
section
variable {w : World} {A : Around} {h₀ : Heap} {L : Addr} {m : Str → Option Value} {news : List (Addr × Obj)} {s : Shared} {Q E : Value → Shared → Prop}
set_option maxHeartbeats 8000000 in
theorem unpack_call {b : List UInt8} {t : Tok} (C : Cx w A 18 200 h₀ L m news s) (hb : b.length ≤ 1000) (ok : okF b)
   (ret : ∀ fx dx es n ta tb tk tp h' tk', Fr h₀ L h' m → News h₀ L h' ((fx, instObj 157 dx) :: (dx, dictOf es n) :: news) → (∀ p ∈ news, p.1 < dx) → @LT.lt Nat _ dx fx →
      getL "target" es = some (some (.int (val48 (b.take (b.length - 4)) 0 : Nat) ta)) → getL "source" es = some (some (.int (val48 (b.take (b.length - 4)) 6 : Nat) tb)) →
      getL "kind" es = some (some (.int (val16 (b.take (b.length - 4)) 12 : Nat) tk)) → getL "payload" es = some (some (.bytes ((b.take (b.length - 4)).drop 14).toArray tp)) → Q (.ref fx) { s with heap := h', toks := tk' }) :
   wpAny (model PySem.Challenge.pw_nu0127_01 w) A (call (.ref 183) [.bytes b.toArray t]) Q E s := by
  refine Cx.elim (P := fun A => wpAny _ A _ _ _ _) C fun dp un gd cn cs fa ccd cl outer A₀ base mg mb mean loose B F X N T hk hdp hun => ?_
  refine wpAny_call ?_
  have gdA6_1 : Unit := ()
  w_top off
  w_strict (
    (k_with "call ref" => (fail_if_success fail_if_success have := gdA6_1); first | (k_dflt (refine' frame_call ?C ?_; (case C => k_extra "cx_now")); intro fx' dx' es' n' h' tk' F' N' l1 l2 e1 e2 e3 e4) | (exfalso; have := ok.1; lia) | (exfalso; have := ok.2; simp_all; done) | (k_dflt (refine' sumoct_call ?C ?h ?_; (case C => k_extra "cx_now"); (case h => k_extra "blen")); intro t' h' tk' F' N') | (k_dflt (refine' get16_call ?C ?h1 ?h2 ?h3 ?_; (case C => k_extra "cx_now"); (case h1 => k_extra "blen"); (case h2 => k_extra "blen"); (case h3 => k_extra "blen")); intro t' h' tk' F' N') | (k_dflt (refine' get48_call ?C ?h1 ?h2 ?h3 ?_; (case C => k_extra "cx_now"); (case h1 => k_extra "blen"); (case h2 => k_extra "blen"); (case h3 => k_extra "blen")); intro t' h' tk' F' N'))
    k_dflt k_extra "enter"
    k_steps
    all_goals exact ret _ _ _ _ _ _ _ _ _ _ (by assumption) (by assumption) l1 l2 e1 e2 e3 e4)
end
/-! raising the program's own error class (class object 70, its `__init__` is the function 54) -/
section
variable {prog : Program} {w : World} {A : Around} {R : Result → Shared → Prop} {h : Heap} {g : Array GenState} {d : Drawn} {t : Nat} {os : OsState}
variable {nm q : Str} {C N : Addr} {bs bm : List Value} {hdct : Bool} {sn : List Str} {sub : List Value} {ab : Bool} {col : Option Bool} {dd : Option Addr} {k0 k1 k2 k3 k5 : Option Value} {B newId initId : String} {bmB : List Value}
theorem fe_check (F : ExcBaseFacts B newId initId bmB) (T : ∀ X, bm.contains (.type X) = bmB.contains (.type X)) {rest : List Value} {M : Model} {E : Value → Shared → Prop} {Q : Unit → Shared → Prop} (hC : h.get? C = some (excClassObj nm q C N bs bm hdct sn sub ab col dd k0 k1 k2 k3 k5 newId))
    (hq : Q () ⟨h, g, d, t, os⟩) : wpAny M A (checkBuiltinCall newId ⟨.ref C :: rest, []⟩) Q E ⟨h, g, d, t, os⟩ := by
  have hcont : (Value.ref C :: bm).contains (.type B) = true := by rw [List.contains_cons, T, F.hasB, Bool.or_true]
  have hstar := F.noStar
  simp only [checkBuiltinCall, F.newKind, F.newSplit, F.newRow]
  repeat (first | refine wpAny_loadPart_at hC ?_ | (refine wpAny_isSubtype_exc hC ?_; rw [hcont]) | refine wpAny_staticBase_exc hC ?_ | refine wpAny_madeBy_exc hC ?_ | simp only [bne_self_eq_false, Bool.false_eq_true, if_false] | wp_step)
  exact hq
theorem fe_new (F : ExcBaseFacts B newId initId bmB) (T : ∀ X, bm.contains (.type X) = bmB.contains (.type X)) {rest : List Value} (hC : h.get? C = some (excClassObj nm q C N bs bm hdct sn sub ab col dd k0 k1 k2 k3 k5 newId))
    (hq : R (.ok (.ret (.ref (h.objs.size + 1)))) ⟨(h.push { cls := .type "tuple", data := .seq rest.toArray }).push
      { cls := .ref C, data := .fields #[.ref h.objs.size, .none, .none, .none, .bool false, .none] }, g, d, t, os⟩) (hrest : rest.length ≤ sizeLine := by size_fits) :
    codeAny (model prog w) A (.builtin newId ⟨.ref C :: rest, []⟩) R ⟨h, g, d, t, os⟩ := by
  have hends := F.ends
  have hcB : (Value.ref C :: bm).contains (.type B) = true := by rw [List.contains_cons, T, F.hasB, Bool.or_true]
  have hcA : (Value.ref C :: bm).contains (.type "AttributeError") = false := by rw [List.contains_cons, T, F.noAttr]; rfl
  have hcN : (Value.ref C :: bm).contains (.type "NameError") = false := by rw [List.contains_cons, T, F.noName]; rfl
  refine codeAny_builtinAt F.entry ?_
  unfold Builtin.«BaseException.__new__»
  refine PySem.wpAt_bind ?_
  show PySem.wpAt _ _ _ (stack >>= _) _ _ _
  refine PySem.wpAt_bind (PySem.wpAt_stack fun p below => PySem.wpAt_of_wpAny ?_)
  wp_walk
  refine PySem.wpAt_of_wpAny ?_
  rw [F.owner]
  repeat (first | with_reducible refine wpAny_madeHere_exc F.canon hC ?_ | with_reducible refine wpAny_loadPart_at hC ?_ | (with_reducible refine wpAny_isSubtype_exc hC ?_; first | rw [hcB] | rw [hcA] | rw [hcN]) | wp_step)
  show R _ _
  rw [Heap.size_push]
  exact hq
end
abbrev feB : List Value := [.type "Exception", .type "BaseException", .type "object"]
theorem fe_mem (X : String) : (Value.ref 57 :: feB).contains (.type X) = feB.contains (.type X) := by rw [List.contains_cons]; rfl
theorem fe_cls (w : World) : ∃ nm q bs hdct sn sub ab col dd k0 k1 k2 k3 k5, (hd0.heap_1_1 w.params).lookup 70 = some (excClassObj nm q 70 69 bs (Value.ref 57 :: feB) hdct sn sub ab col dd k0 k1 k2 k3 k5 "Exception.__new__") := ⟨_, _, _, _, _, _, _, _, _, _, _, _, _, _, rfl⟩

abbrev feTup (v : Value) : Obj := { cls := .type "tuple", data := .seq #[v] }
abbrev feObj (t : Addr) (dx : Option Addr) : Obj := { cls := .ref 70, dict := dx, data := .fields #[.ref t, .none, .none, .none, .bool false, .none] }
section
variable {w : World} {A : Around} {R : Result → Shared → Prop} {h : Heap} {g : Array GenState} {d : Drawn} {t : Nat} {os : OsState}
set_option maxHeartbeats 4000000 in
theorem fe_core {v : Value} (X : (hd0.heap_1_1 w.params).In h)
    (hq : codeAny (model PySem.Challenge.pw_nu0127_01 w) (A.under (.builtin "type.__call__" ⟨[.ref 70, v], []⟩)) (.call (.ref 54) ⟨[.ref (h.objs.size + 1), v], []⟩) (InitBack (h.objs.size + 1) R) ⟨(h.push (feTup v)).push (feObj h.objs.size none), g, d, t, os⟩) :
    codeAny (model PySem.Challenge.pw_nu0127_01 w) A (.call (.ref 70) ⟨[v], []⟩) R ⟨h, g, d, t, os⟩ := by
  obtain ⟨nm, q, bs, hdct, sn, sub, ab, col, dd, k0, k1, k2, k3, k5, h70⟩ := fe_cls w
  have hC := X _ _ h70
  have F := PySem.F.excBase_Exception
  refine codeAny_of_tree ?_
  show wpAny _ _ (callAny (.ref 70) _) _ _ _
  refine nd_load hC ?_
  show wpAny _ _ (callAny.viaDunder (.ref 70) _) _ _ _
  unfold callAny.viaDunder
  have call : Looks (model PySem.Challenge.pw_nu0127_01 w) h (specialOf (.ref 70) "__call__") (some (.builtin "type.__call__")) := looks_specialIn X (by with_unfolding_all rfl)
  refine wpAny_bind (call.at ?_)
  dsimp only
  rw [tc_bind]
  refine wpAny_bind (wpAny_pure (wpAny_bind (wpAny_pure ?_)))
  refine wpAny_pure (a := Fin.again (.call (.builtin "type.__call__") ⟨[.ref 70, v], []⟩)) (And.intro rfl ?_)
  refine codeAny_call_builtin_at (Code.quiet_builtin _ (by decide +kernel)) entry_typeCall (wpAny_check_type_call_sub hC ?_)
  repeat (first | with_reducible refine wpAny_loadPart_at hC ?_ | with_reducible refine wpAny_madeBy_exc hC ?_ | wp_step)
  refine codeAny_call_builtin_code (Code.quiet_builtin _ F.quiet) (fe_check F fe_mem hC ?_)
  refine fe_new F fe_mem hC ?_
  show wpAny _ _ _ _ _ _
  have hC₁ := Heap.get?_push_of_some (feObj h.objs.size none) (Heap.get?_push_of_some (feTup v) hC)
  have X₁ : (hd0.heap_1_1 w.params).In ((h.push (feTup v)).push (feObj h.objs.size none)) := fun b o e => Heap.get?_push_of_some _ (Heap.get?_push_of_some _ (X b o e))
  have hget : ((h.push (feTup v)).push (feObj h.objs.size none)).get? (h.objs.size + 1) = some (feObj h.objs.size none) := by heap_get
  have hcC : (Value.ref 70 :: Value.ref 57 :: feB).contains (.ref 70) = true := by simp
  unfold isInstance
  repeat (first | with_reducible refine wpAny_loadPart_at hget ?_ | (with_reducible refine wpAny_isSubtype_exc hC₁ ?_; rw [hcC]) | wp_step)
  show wpAny _ _ (typeLookup (.ref 70) _) _ _ _
  refine (looks_findIn (K := hd0.heap_1_1 w.params) (t := .ref 70) (name := Str.ofString "__init__") (r := some (.ref 54)) X₁ (by with_unfolding_all rfl)).at ?_
  refine wpAny_holding (wpAny_bind ((bind_fn X₁ _ (by with_unfolding_all rfl)).at ?_))
  refine wpAny_bind (wpAny_call (codeAny_mono hq fun r s' z => ?_))
  rcases r with e | (v | _ | _ | _) <;> first | exact z | exact z.elim | skip
  obtain ⟨rfl, z⟩ := z
  exact wpAny_pure (wpAny_pure z)
end

section
variable {w : World} {A : Around} {E : Value → Shared → Prop} {s : Shared} {h₀ : Heap} {L : Addr} {m : Str → Option Value} {news : List (Addr × Obj)}
theorem fe_call {v : Value} {Q : Value → Shared → Prop} (F : Fr h₀ L s.heap m) (X₀ : (hd0.heap_1_1 w.params).In h₀) (N : News h₀ L s.heap news)
   (h : ∀ e t h', Fr h₀ L h' m → News h₀ L h' ((e, feObj t none) :: (t, feTup v) :: news) → (∀ p ∈ news, p.1 < t) → @LT.lt Nat _ t e → (∀ p ∈ (t, feTup v) :: news, p.1 ≠ e) →
     codeAny (model PySem.Challenge.pw_nu0127_01 w) (A.under (.builtin "type.__call__" ⟨[.ref 70, v], []⟩)) (.call (.ref 54) ⟨[.ref e, v], []⟩) (InitBack e fun r s' => match r with | .ok (.ret v) => Q v s' | .ok _ => False | .error e => E e s') { s with heap := h' }) :
   wpAny (model PySem.Challenge.pw_nu0127_01 w) A (call (.ref 70) [v]) Q E s := by
  obtain ⟨hh, g, d, t, os⟩ := s
  refine wpAny_call (fe_core (X₀.keeps F.keep) (h _ hh.objs.size _ ((F.push _).push _) ?_ (fun p hp => Heap.lt_size (N p hp).1) (Nat.lt_succ_self _) (fun p hp => ?_)))
  rotate_left
  · rcases List.mem_cons.mp hp with rfl | hp
    · exact Nat.ne_of_lt (Nat.lt_succ_self _)
    · exact Nat.ne_of_lt (Nat.lt_succ_of_lt (Heap.lt_size (N p hp).1))
  have := (N.push F (feTup v)).push (F.push _) (feObj hh.objs.size none)
  rwa [Heap.size_push] at this
theorem fe_refuse (self : Value) : refuseLoop self "__setattr__" (Value.ref 70 :: Value.ref 57 :: feB) = pure () := by
  rw [refuseLoop_ref, refuseLoop_ref]
  kernel_rfl
theorem fe_mro (w : World) : ∃ cd, clsIn (hd0.heap_1_1 w.params) 70 = some cd ∧ cd.mro = Value.ref 70 :: Value.ref 57 :: feB ∧ cd.hasDict = true := ⟨_, rfl, rfl, rfl⟩
theorem fe_set {v : Value} {e t : Addr} {Q : Unit → Shared → Prop} (F : Fr h₀ L s.heap m) (X₀ : (hd0.heap_1_1 w.params).In h₀) (N : News h₀ L s.heap ((e, feObj t none) :: news)) (off : ∀ p ∈ news, p.1 ≠ e)
   (h : ∀ dx o h', Fr h₀ L h' m → News h₀ L h' ((e, feObj t (some dx)) :: (dx, o) :: news) → (∀ p ∈ (dx, o) :: news, p.1 ≠ e) → Q () { s with heap := h', toks := s.toks + 2 }) :
   wpAny (model PySem.Challenge.pw_nu0127_01 w) A (setAttr (.ref e) "message" v) Q E s := by
  have X := X₀.keeps F.keep
  have SF := PySem.F.store_object
  obtain ⟨cd, hc, hm, hh⟩ := fe_mro w
  have I : InstAt s.heap e (feObj t none) 70 none := ⟨(N _ (.head _)).1, rfl, rfl, trivial⟩
  refine set_plain X I (by with_unfolding_all rfl) ?_
  obtain ⟨hp, g, d, tk, os⟩ := s
  have sub : Looks (model PySem.Challenge.pw_nu0127_01 w) hp (isInstance (.ref e) (.type "object")) true := I.type.andThen (looks_mroIn X (by with_unfolding_all rfl))
  refine codeAny_call_builtin SF.slot.plain SF.entry (@check_slot (model PySem.Challenge.pw_nu0127_01 w) _ _ _ "object.__setattr__" "object" "__setattr__" (.ref e) [.str "message" tk, v] [] _ SF.kind SF.split sub (SF.args (.ref e) (.str "message" tk) v) ?_)
  have Lm : Looks (model PySem.Challenge.pw_nu0127_01 w) hp (mroOf (.ref 70)) cd.mro := (looks_clsIn X hc).andThen .now
  rw [osa_eq, refuse_eq]
  refine wpAny_bind (wpAny_bind (I.type.at (wpAny_bind (Lm.at ?_))))
  rw [hm, fe_refuse]
  refine wpAny_pure (wpAny_bind (I.type.at (wpAny_bind ((looks_findIn (K := hd0.heap_1_1 w.params) (t := .ref 70) (name := Str.ofString "message") (r := none) X (by with_unfolding_all rfl)).at (wpAny_bind (wpAny_pure ?_))))))
  refine wpAny_bind (wpAny_pure (wpAny_bind (wpAny_bind (wpAny_loadPart (N _ (.head _)).1 (wpAny_bind ((looks_clsIn X hc).at ?_))))))
  rw [hh]
  show wpAny _ _ ((alloc emptyDict >>= fun d => update e (fun o => { o with dict := some d }) >>= fun _ => dictMade (.ref 70) e d) >>= _) _ _ _
  have F1 := F.push emptyDict
  have N1 := N.push F emptyDict
  refine wpAny_bind (wpAny_bind (wpAny_alloc (wpAny_bind (wpAny_update (N1 _ (.tail _ (.head _))).1 (wpAny_pure ?_)))))
  obtain ⟨F2, N2⟩ := news_upd (pre := [(hp.objs.size, emptyDict)]) (d := e) (o := feObj t none) (o' := feObj t (some hp.objs.size)) (f := fun o => { o with dict := some hp.objs.size }) F1 N1 (fun p hp' => by rcases List.mem_singleton.mp hp' with rfl; exact Nat.ne_of_gt (Heap.lt_size (N _ (.head _)).1)) off rfl rfl
  refine wpAny_pure (a := some hp.objs.size) (wpAny_bind (wpAny_pure (wpAny_bind ?_)))
  unfold nsSet
  have D := (N2 (hp.objs.size, emptyDict) (.head _)).1
  refine wpAny_bind (wpAny_bind (wpAny_askSetting (wpAny_pure (wpAny_bind (wpAny_mkText (wpAny_bind (wpAny_loadPart D ?_)))))))
  obtain ⟨F3, N3⟩ := news_upd (pre := []) (d := hp.objs.size) (o := dictOf [] 0) (o' := dictOf [⟨PyData.keyHash w.params "message", .str "message" (tk + 1), v⟩] 1) (f := Obj.putName "message" (PyData.keyHash w.params "message") (.str "message" (tk + 1)) v) F2 N2 (fun p hp' => (nomatch hp')) (fun p hp' => (by rcases List.mem_cons.mp hp' with rfl | q; exact Nat.ne_of_lt (Heap.lt_size (N _ (.head _)).1); exact Nat.ne_of_lt (Heap.lt_size (N p (List.mem_cons_of_mem _ q)).1))) (by rw [putName_dict]; rfl) rfl
  dsimp only
  rw [show aRefKeyMayBeTheName (Str.ofString "message") #[] = false from rfl]
  refine wpAny_updatePart D ?_
  refine wpAny_bind (wpAny_lookBehind (N3 _ (.head _)).1 (pastItsLine_dict (by rw [sizeLine_eq]; exact Nat.le_of_ble_eq_true rfl)) ?_)
  exact wpAny_pure (h _ _ _ F3 (fun p q => N3 p (by rcases List.mem_cons.mp q with rfl | q; exact .tail _ (.head _); rcases List.mem_cons.mp q with rfl | q; exact .head _; exact .tail _ (.tail _ q))) (fun p q => by rcases List.mem_cons.mp q with rfl | q; exact Nat.ne_of_gt (Heap.lt_size (N _ (.head _)).1); exact off p q))
end
/-! the raise statement, the leaving of the first frame, the catching; outer frames may change their slots -/
abbrev framesOf (l : List Env) : List Addr := l.filterMap (·.frame)
def RaisC (w : World) (E : Value → Shared → Prop) (v : Value) (s₁ : Shared) : Prop :=
  ∃ e t dx, v = .ref e ∧ (hd0.heap_1_1 w.params).In s₁.heap ∧ s₁.heap.get? e = some (feObj t dx) ∧ E (.ref e) s₁
section
variable {M : Model} {A : Around} {E : Value → Shared → Prop} {s : Shared} {env : Env} {w : World}
theorem raiseStmt_F {x : Sem Value} {Q : Flow → Shared → Prop} (hh : A.handled = none) (h : wpAny M A x (RaisC w E) E s) : wpAny M A (raiseStmt env (some x) none) Q E s := by
  have hcB : (Value.ref 70 :: Value.ref 57 :: feB).contains (.type "BaseException") = true := by decide
  unfold raiseStmt
  refine wpAny_bind (wpAny_mono h (fun v s₁ h₁ => ?_) fun _ _ x => x)
  obtain ⟨e, t, dx, rfl, X, he, hE⟩ := h₁
  obtain ⟨hp, g, d, tk, os⟩ := s₁
  obtain ⟨nm, q, bs, hdct, sn, sub, ab, col, dd, k0, k1, k2, k3, k5, h70⟩ := fe_cls w
  have hC := X _ _ h70
  repeat (first | with_reducible refine wpAny_loadPart_at he ?_ | with_reducible refine wpAny_loadPart_at hC ?_ | (with_reducible refine wpAny_isSubtype_exc hC ?_; rw [hcB]) | wp_step)
  exact wpAny_raiseNew_none hh hE
theorem raise_F {e : Expr} {pos : Pos} {Q : Flow → Shared → Prop} (hh : A.handled = none) (h : wpAny M A (eval e env) (RaisC w E) E s) : wpAny M A (exec (.Raise (some e) none pos) env) Q E s := by
  show wpAny M A (do standAt pos; raiseStmt env (some (do let v ← eval e env; standAt pos; pure v)) none) Q E s
  exact wpAny_bind (wpAny_standAt (raiseStmt_F hh (wpAny_bind (wpAny_mono h (fun v s₁ h₁ => wpAny_bind (wpAny_standAt (wpAny_pure h₁))) fun _ _ x => x))))
end
def RaisedF (g : Heap) (l : List Env) (e : Addr) (news : List (Addr × Obj)) (h : Heap) : Prop :=
  ∃ B a0, (∀ b o, g.get? b = some o → b ∉ framesOf l → B.get? b = some o) ∧ (∀ q ∈ news, B.get? q.1 = some q.2) ∧ Heap.FlyingW B l e (.ref 70) a0 h
section
variable {M : Model} {A : Around} {E : Value → Shared → Prop} {s : Shared} {base g : Heap} {outer : List Env} {L e : Addr} {m : Str → Option Value} {env : Env} {Q : Unit → Shared → Prop} {news : List (Addr × Obj)}
theorem leave_F {t : Addr} {dx : Option Addr} (K : Below A base outer g) (F : Fr g L s.heap m) (N : News g L s.heap ((e, feObj t dx) :: news)) (off : ∀ p ∈ news, p.1 ≠ e) (hf : env.frame = some L) (hk : env.scope.kind = .function)
    (hQ : ∀ h', RaisedF g outer e news h' → g.UpToSlots h' → Q () { s with heap := h' }) :
    wpAny M (A.deeper env) (leaving env (.ref e)) Q E s := by
  have K' := pushX K F hf hk
  have he := (N _ (.head _)).1
  have hin : ∀ en ∈ (env :: outer), ∀ b, en.frame = some b → b ∈ e :: framesOf (env :: outer) := fun en hen b hb => .tail _ (List.mem_filterMap.mpr ⟨en, hen, hb⟩)
  have hge : g.get? e = none := (N _ (.head _)).2.2
  have keep : ∀ b o, g.get? b = some o → b ∉ framesOf outer → (hideAll s.heap (e :: framesOf (env :: outer))).get? b = some o := fun b o q nb => hideAll_get _ (F.keep b o q) fun hm => by
    rcases List.mem_cons.mp hm with rfl | hm
    · rw [hge] at q; cases q
    · obtain ⟨en, he', hf'⟩ := List.mem_filterMap.mp hm
      rcases List.mem_cons.mp he' with rfl | he'
      · obtain rfl : L = b := Option.some.inj (hf.symm.trans hf')
        exact absurd (Heap.lt_size q) (Nat.not_lt_of_le F.above)
      · exact nb (List.mem_filterMap.mpr ⟨en, he', hf'⟩)
  have hl : ∀ q ∈ news, (hideAll s.heap (e :: framesOf (env :: outer))).get? q.1 = some q.2 := fun q hq => by
    refine hideAll_get _ (N q (.tail _ hq)).1 fun hm => ?_
    rcases List.mem_cons.mp hm with h | hm
    · exact off q hq h
    · obtain ⟨en, he', hf'⟩ := List.mem_filterMap.mp hm
      rcases List.mem_cons.mp he' with rfl | he'
      · exact (N q (.tail _ hq)).2.1 (Option.some.inj (hf'.symm.trans hf))
      · obtain ⟨o, ho, _⟩ := (K.frames.mem (List.mem_filterMap.mpr ⟨en, he', hf'⟩)).2
        rw [(N q (.tail _ hq)).2.2] at ho; cases ho
  have hen : (hideAll s.heap (e :: framesOf (env :: outer))).get? e = none := hideAll_none _ (.head _)
  refine wpAny_leaving_firstW (a0 := .ref t) (Around.frames_deeper K.stack) (funFrames_hide K'.frames hin) hf he (fun b o hb => of_hideAll _ hb) hen rfl rfl rfl fun h' hL => ?_
  obtain ⟨k1, ⟨_, _, k2⟩, k3, k4⟩ := hL
  exact hQ h' ⟨_, _, keep, hl, k1, hen, k2, k3⟩ ((Heap.UpToSlots.of_keeps F.keep).trans k4)
end
section
variable {prog : Program} {w : World} {A₀ : Around} {E : Value → Shared → Prop} {s' : Shared} {base g h : Heap} {outer : List Env} {L a e : Addr} {m : Str → Option Value} {name : Str} {scope : Scope} {cd : Value}
  {b₀ : Stmt} {suite : List Stmt} {pos np : Pos} {rest : List ExceptHandler} {Q : Flow → Shared → Prop} {news : List (Addr × Obj)}
  {p : Program} {loose : List Str} {mean : ExcName → Option Value} {mg mb : Str → Option Value}
theorem caught_F (K : Below A₀ base outer g) (F : Fr g L h m) (hsm : h.UpToSlots s'.heap) (R : RaisedF g (envOf name scope L a cd :: outer) e news s'.heap)
    (X : (hd0.heap_1_1 w.params).In base) (T : Top p loose mean mg mb base)
    (k : ∀ h', h.UpToSlots h' → (∀ b o, g.get? b = some o → b ∉ framesOf outer → h'.get? b = some o) → (∀ q ∈ news, h'.get? q.1 = some q.2) →
      wpAny (model prog w) ((A₀.deeper (envOf name scope L a cd)).mark (some (.ref e))) (execs (b₀ :: suite) (envOf name scope L a cd)) Q E { s' with heap := h' })
    (hk : scope.kind = .function := by rfl) (hx : (envOf name scope L a cd).kindOf "FormError" = some .globalImplicit := by rfl)
    (hE : PassesOwnAt (model prog w) ((A₀.deeper (envOf name scope L a cd)).mark (some (.ref e))) (A₀.deeper (envOf name scope L a cd)) (envOf name scope L a cd) E := by passes_own) :
    wpAny (model prog w) (A₀.deeper (envOf name scope L a cd)) (noteFrame (.ref e) (envOf name scope L a cd))
      (fun _ s₂ => wpAny (model prog w) (A₀.deeper (envOf name scope L a cd)) (setFlight (.ref e) none) (fun _ s₃ =>
        wpAny (model prog w) (A₀.deeper (envOf name scope L a cd)) (handleBy (.ref e) (envOf name scope L a cd) (.ExceptHandler (some (.Name "FormError" np)) none (b₀ :: suite) pos :: rest)) Q E s₃) E s₂) E s' := by
  obtain ⟨B, a0, hB, hl, hfl⟩ := R
  have nL : ∀ b o, g.get? b = some o → b ∉ framesOf outer → b ∉ framesOf (envOf name scope L a cd :: outer) := fun b o q nb hm => by
    obtain ⟨en, he', hf'⟩ := List.mem_filterMap.mp hm
    rcases List.mem_cons.mp he' with rfl | he'
    · obtain rfl : L = b := Option.some.inj hf'
      exact absurd (Heap.lt_size q) (Nat.not_lt_of_le F.above)
    · exact nb (List.mem_filterMap.mpr ⟨en, he', hf'⟩)
  have gh : ∀ b o, (hideAll g (framesOf outer)).get? b = some o → g.get? b = some o ∧ b ∉ framesOf outer := fun b o q => ⟨of_hideAll _ q, fun hm => by rw [hideAll_none _ hm] at q; cases q⟩
  have bg : base.StaysIn (hideAll g (framesOf outer)) := fun b o q => hideAll_get _ (K.stays b o q) fun hm => by rw [(K.frames.mem hm).1] at q; cases q
  have X₁ : (hd0.heap_1_1 w.params).In (hideAll g (framesOf outer)) := X.keeps bg
  have T₁ := topRead_of (T.keeps bg)
  have frS : ∀ h', B.StaysIn h' → h.UpToSlots h' → Fr (hideAll g (framesOf outer)) L h' m := fun h' hb hu => ⟨hu.ns F.ns, fun b o q => hb b o (hB b o (gh b o q).1 (nL b o (gh b o q).1 (gh b o q).2)), by rw [hideAll_size]; exact F.above⟩
  refine wpAny_looks_onW (Around.frames_deeper K.stack) rfl hfl fun h₄ hheld₄ hsm₄ => ?_
  refine wpAny_landsW hheld₄ fun h₅ hheld hsm₅' => ?_
  have hsm₅ := hsm₄.trans hsm₅'
  have F₅ := frS h₅ hheld.1 (hsm.trans hsm₅)
  obtain ⟨ob, hob, hobc⟩ := hheld.there
  refine wpAny_handleBy_cons (codeAny_handlers_test (name_K F₅ X₁ T₁ (v := .ref 70) (by with_unfolding_all rfl) ?_ hk hx (by decide))) (by intro q; cases q)
  obtain ⟨nm, q, bs, hdct, sn, sub, ab, col, dd, k0, k1, k2, k3, k5, h70⟩ := fe_cls w
  refine wpAny_excMatches_sub_self ((X₁.keeps F₅.keep) _ _ h70) hob hobc (by decide) (codeAny_handlers_suite ?_)
  refine lands_againW hheld fun h₆ hfl₆ hsm₆ => ?_
  exact wpAny_passesOwnAt hE (k h₆ ((hsm.trans hsm₅).trans hsm₆) (fun b o q nb => hfl₆.1 _ _ (hB b o q (nL b o q nb))) fun q hq => hfl₆.1 _ _ (hl q hq))
end
theorem RaisedF.weaken {g g' : Heap} {l : List Env} {e : Addr} {news news' : List (Addr × Obj)} {h : Heap} (R : RaisedF g l e news h) (k : ∀ b o, g'.get? b = some o → g.get? b = some o) (sub : ∀ q ∈ news', q ∈ news) : RaisedF g' l e news' h := by
  obtain ⟨B, a0, x, y, z⟩ := R
  exact ⟨B, a0, fun b o q nb => x b o (k b o q) nb, fun q hq => y q (sub q hq), z⟩
section
variable {w : World} {A : Around} {h₀ : Heap} {L : Addr} {m : Str → Option Value} {news : List (Addr × Obj)} {s : Shared} {Q E : Value → Shared → Prop}
set_option maxHeartbeats 8000000 in
theorem unpack_bad {b : List UInt8} {t : Tok} (C : Cx w A 18 200 h₀ L m news s) (hb : b.length ≤ 1000) (ok : ¬ okF b)
   (bad : ∀ e g h' tk' l, A.frames = some l → Fr h₀ L g m → g.UpToSlots h' → RaisedF h₀ l e news h' → E (.ref e) { s with heap := h', toks := tk' }) :
   wpAny (model PySem.Challenge.pw_nu0127_01 w) A (call (.ref 183) [.bytes b.toArray t]) Q E s := by
  obtain ⟨dp, un, gd, cn, cs, fa, ccd, cl, outer, A₀, base, mg, mb, mean, loose, rfl, B, F, X, N, T, hk, hdp, hun⟩ := C
  refine wpAny_call ?_
  have gdA7_2 : Unit := ()
  w_top off
  w_strict (
    (k_with "call ref" => (fail_if_success fail_if_success have := gdA7_2); first | (k_dflt (refine' fe_call ?k1 ?k2 ?k3 ?_; (case k1 => k_asm); (case k2 => k_asm); (case k3 => k_asm)); intro e' t' h' F' N' l1 l2 l3; k_dflt k_extra "enter") | (exfalso; apply ok; refine ⟨by lia, ?_⟩; first | assumption | (simp_all; done)) | (k_dflt (refine' sumoct_call ?C ?h ?_; (case C => k_extra "cx_now"); (case h => k_extra "blen")); intro t' h' tk' F' N') | (k_dflt (refine' get16_call ?C ?h1 ?h2 ?h3 ?_; (case C => k_extra "cx_now"); (case h1 => k_extra "blen"); (case h2 => k_extra "blen"); (case h3 => k_extra "blen")); intro t' h' tk' F' N') | (k_dflt (refine' get48_call ?C ?h1 ?h2 ?h3 ?_; (case C => k_extra "cx_now"); (case h1 => k_extra "blen"); (case h2 => k_extra "blen"); (case h3 => k_extra "blen")); intro t' h' tk' F' N'))
    (k_with "exec Raise some none" => (fail_if_success fail_if_success have := gdA7_2); (k_dflt (refine raise_F (w := w) rfl ?_)))
    (k_with "setAttr ref" => (fail_if_success fail_if_success have := gdA7_2); (k_dflt (refine' fe_set ?k1 ?k2 ?k3 ?k4 ?_; (case k1 => k_asm); (case k2 => k_asm); (case k3 => k_asm); (case k4 => assumption)); intro dx' o' h' F' N' l4))
    k_dflt k_extra "enter"
    k_steps
    all_goals (rename News _ _ _ _ => kN1; rename Fr _ _ _ _ => kF1; rename Frag.In _ _ => kX1)
    all_goals (refine ⟨_, _, _, rfl, Frag.In.keeps kX1 kF1.keep, (kN1 _ (.head _)).1, ?_⟩)
    all_goals (show wpAny _ _ (leaving _ _) _ _ _)
    all_goals (refine leave_F (by assumption) (by assumption) (by assumption) (by assumption) rfl rfl ?_)
    all_goals (intro h2 R2 U2; exact bad _ _ _ _ _ rfl (by assumption) U2 (R2.weaken (Fr.keep (by assumption)) (fun q hq => .tail _ (.tail _ hq)))))
end
/-! a callee that catches: its caller's base heap is patched at the outer frames -/
theorem patch_ok (h₀ h₆ : Heap) : ∀ l : List Addr, (∀ a ∈ l, ∀ o, h₀.get? a = some o → ∃ o', h₆.get? a = some o') →
    ∃ h₁ : Heap, h₁.objs.size = h₀.objs.size ∧ (∀ b, b ∉ l → h₁.get? b = h₀.get? b) ∧ (∀ b ∈ l, h₁.get? b = (h₀.get? b).bind fun _ => h₆.get? b)
  | [], _ => ⟨h₀, rfl, fun _ _ => rfl, fun _ h => nomatch h⟩
  | a :: r, k => by
    obtain ⟨h₁, z, x, y⟩ := patch_ok h₀ h₆ r (fun b hb => k b (.tail _ hb))
    cases e : h₀.get? a with
    | none =>
      refine ⟨h₁, z, fun b nb => x b (fun q => nb (.tail _ q)), fun b hb => ?_⟩
      by_cases hr : b ∈ r
      · exact y b hr
      · rcases List.mem_cons.mp hb with rfl | hb
        · rw [x _ hr, e]; rfl
        · exact absurd hb hr
    | some o =>
      obtain ⟨o', ho'⟩ := k a (.head _) o e
      by_cases hr : a ∈ r
      · refine ⟨h₁, z, fun b nb => x b (fun q => nb (.tail _ q)), fun b hb => ?_⟩
        rcases List.mem_cons.mp hb with rfl | hb
        · exact y _ hr
        · exact y _ hb
      · refine ⟨h₁.update a (fun _ => o'), by rw [Heap.size_update, z], fun b nb => ?_, fun b hb => ?_⟩
        · rw [Heap.get?_update_ne _ _ _ _ (fun q => nb (by rw [q]; exact .head _))]; exact x b (fun q => nb (.tail _ q))
        · by_cases q : b = a
          · subst q
            rw [Heap.get?_update_self _ ((x _ hr).trans e) (Heap.get?_some_iff.mp ho').2, e, Option.bind_some, ho']
          · rw [Heap.get?_update_ne _ _ _ _ q]; exact y b ((List.mem_cons.mp hb).resolve_left q)
def Near (outer : List Env) (h₀ h₁ : Heap) : Prop := h₀.UpToSlots h₁ ∧ ∀ b o, h₀.get? b = some o → b ∉ framesOf outer → h₁.get? b = some o
section
variable {A₀ : Around} {base h₀ g h₆ : Heap} {outer : List Env} {env : Env} {L : Addr} {m : Str → Option Value} {news : List (Addr × Obj)}
theorem near_ok {hN : Heap} (B : Below A₀ base outer h₀) (FG : Fr h₀ L g m) (N : News h₀ L hN news) (hf : env.frame = some L) (u : g.UpToSlots h₆)
    (st : ∀ b o, g.get? b = some o → b ∉ framesOf (env :: outer) → h₆.get? b = some o) (N₆ : ∀ q ∈ news, h₆.get? q.1 = some q.2) :
    ∃ h₁, Near outer h₀ h₁ ∧ Below A₀ base outer h₁ ∧ Fr h₁ L h₆ m ∧ News h₁ L h₆ news := by
  have dat : ∀ b, b ∈ framesOf outer → ∀ o, h₀.get? b = some o → ∃ sl, h₆.get? b = some { o with slots := sl } := fun b hb o q => by
    obtain ⟨o₁, ho, hd⟩ := (B.frames.mem hb).2
    obtain rfl : o₁ = o := Option.some.inj (ho.symm.trans q)
    exact u b o₁ (FG.keep b o₁ q) hd
  obtain ⟨h₁, z, x, y⟩ := patch_ok h₀ h₆ (framesOf outer) (fun b hb o q => let ⟨sl, e⟩ := dat b hb o q; ⟨_, e⟩)
  have ups : h₀.UpToSlots h₁ := fun b o q hn => by
    by_cases hb : b ∈ framesOf outer
    · obtain ⟨sl, e⟩ := dat b hb o q
      exact ⟨sl, by rw [y b hb, q]; exact e⟩
    · exact ⟨o.slots, by rw [x b hb, q]⟩
  have hin : ∀ b o, h₁.get? b = some o → h₆.get? b = some o := fun b o q => by
    by_cases hb : b ∈ framesOf outer
    · rw [y b hb] at q
      cases e : h₀.get? b with
      | none => rw [e] at q; cases q
      | some o₁ => rw [e] at q; exact q
    · rw [x b hb] at q
      refine st b o (FG.keep b o q) fun hm => ?_
      obtain ⟨en, he', hf'⟩ := List.mem_filterMap.mp hm
      rcases List.mem_cons.mp he' with rfl | he'
      · obtain rfl : L = b := Option.some.inj (hf.symm.trans hf')
        exact absurd (Heap.lt_size q) (Nat.not_lt_of_le FG.above)
      · exact hb (List.mem_filterMap.mpr ⟨en, he', hf'⟩)
  refine ⟨h₁, ⟨ups, fun b o q nb => (x b nb).trans q⟩, ⟨B.stack, fun b o q => (x b (fun hm => by rw [(B.frames.mem hm).1] at q; cases q)).trans (B.stays b o q), B.frames.of_keeps fun b o q hn => ?_⟩, ⟨u.ns FG.ns, hin, by rw [z]; exact FG.above⟩, fun q hq => ⟨N₆ q hq, (N q hq).2.1, ?_⟩⟩
  · obtain ⟨sl, e⟩ := ups b o q hn
    exact ⟨_, e, rfl⟩
  · have n0 := (N q hq).2.2
    by_cases hb : q.1 ∈ framesOf outer
    · rw [y _ hb, n0]; rfl
    · rw [x _ hb, n0]
theorem Near.refl (outer : List Env) (h : Heap) : Near outer h h := ⟨.refl h, fun _ _ e _ => e⟩
theorem Near.trans {a b c : Heap} (x : Near outer a b) (y : Near outer b c) : Near outer a c := ⟨x.1.trans y.1, fun p o e n => y.2 p o (x.2 p o e n) n⟩
theorem fr_up {L' : Addr} {m' : Str → Option Value} {h : Heap} (FG : Fr h₀ L g m) (F : Fr g L' h m') : Fr h₀ L h m := ⟨FG.ns.keeps F.keep, fun b o e => F.keep _ _ (FG.keep _ _ e), FG.above⟩
theorem news_up {L' : Addr} {m' : Str → Option Value} {h : Heap} {news' : List (Addr × Obj)} (FG : Fr h₀ L g m) (F : Fr g L' h m') (N' : News g L' h news') (sub : ∀ q ∈ news, q ∈ news') : News h₀ L h news := fun p hp => by
  obtain ⟨oL, es, ep, hL, -⟩ := FG.ns
  refine ⟨(N' p (sub p hp)).1, fun q => ?_, ?_⟩
  · have := (N' p (sub p hp)).2.2; rw [q, hL] at this; cases this
  · cases q : h₀.get? p.1 with
    | none => rfl
    | some o => have := (N' p (sub p hp)).2.2; rw [FG.keep _ _ q] at this; cases this
theorem news_g {h : Heap} {L' : Addr} (FG : Fr h₀ L g m) (N' : News h₀ L h news) (st : ∀ q ∈ news, g.get? q.1 = some q.2) : News h₀ L g news := fun p hp => ⟨st p hp, (N' p hp).2⟩
end
section
variable {prog : Program} {w : World} {A₀ A : Around} {s : Shared} {K : Frag} {base h₀ : Heap} {L : Addr} {m : Str → Option Value} {news : List (Addr × Obj)} {p : Program} {loose : List Str} {mean : ExcName → Option Value} {mg mb : Str → Option Value}
theorem code_defH {env : Env} {outer : List Env} {R : Result → Shared → Prop} {name qual : Str} {params : Arguments} {body : List Stmt} {scope : Scope} {dV kV doc pm cdv ct oc : Value} {an od : Option Addr} {osl : Array (Option Value)} {f : Addr} {args : Args} {binds : List (Str × Value)}
    (B : Below A₀ base outer h₀) (F : Fr h₀ L s.heap m) (X₀ : K.In h₀) (N : News h₀ L s.heap news) (T : Top p loose mean mg mb h₀) (hA : A.frames = some (env :: outer)) (hf : env.frame = some L) (hke : env.scope.kind = .function)
    (ho : K.lookup f = some ⟨oc, od, .func (fnOf name qual params body scope dV kV doc pm an cdv ct), osl⟩) (hcd : codeIn K cdv qual = true) (hroom : A.depth < recursionLimit)
    (hbind : BindsTo s (fnOf name qual params body scope dV kV doc pm an cdv ct) args binds) (hloc : ∀ y ∈ binds, scope.names.lookup y.1 = some .local)
    (h : ∀ g L' h₁, Fr h₀ L g m → Fr g L' h₁ (fun y => binds.reverse.lookup y) → News g L' h₁ news → Below A base (env :: outer) g → K.In g → Top p loose mean mg mb g →
      wpAny (model prog w) (A.deeper (envOf qual scope L' f cdv)) (execs body (envOf qual scope L' f cdv))
        (fun fl s' => Keep (R (.ok (.ret (match fl with | .ret v => v | _ => .none))) s'))
        (fun e s' => wpAny (model prog w) (A.deeper (envOf qual scope L' f cdv)) (leaving (envOf qual scope L' f cdv) e) (fun _ s'' => R (.error e) s'') (fun e' s'' => R (.error e') s'') s')
        { s with heap := h₁, toks := s.toks + binds.length })
    (hco : scope.isCoroutine = false) (hgen : scope.isGenerator = false) (hk : scope.kind = .function)
    (hcell : ∀ x ∈ scope.names, x.2 ≠ .cell) : codeAny (model prog w) A (.call (.ref f) args) R s := by
  obtain ⟨FG, BG, st, lv⟩ := groundX (R := R) B F N hA hf hke
  refine codeAny_call_def (fd := fnOf name qual params body scope dV kV doc pm an cdv ct) (body := body) (binds := binds) hroom ((X₀.keeps F.keep) _ _ ho) rfl (T.nolimit.keeps F.keep) (codeRec_of (X₀.keeps F.keep) hcd) rfl hbind hcell hloc (fun h₁ hns hk₁ => ?_) hco hgen hk
  exact wpAny_mono (h _ s.heap.objs.size h₁ FG ⟨hns, fun b o e => hk₁ b o (of_hideAll _ e), Nat.le_of_eq (hideAll_size _ _)⟩
    (fun p hp => ⟨hk₁ _ _ (N p hp).1, Nat.ne_of_lt (Heap.lt_size (N p hp).1), hideAll_none _ (List.mem_map_of_mem hp)⟩) BG (X₀.keeps st) (T.keeps st)) (fun fl s' hl => hl) fun _ _ y => y
theorem code_defHC {env : Env} {outer : List Env} {R : Result → Shared → Prop} {name qual : Str} {params : Arguments} {body : List Stmt} {scope : Scope} {dV kV doc pm cdv ct oc : Value} {an od : Option Addr} {osl : Array (Option Value)} {f : Addr} {args : Args} {binds : List (Str × Value)}
    (B : Below A₀ base outer h₀) (F : Fr h₀ L s.heap m) (X₀ : K.In h₀) (N : News h₀ L s.heap news) (T : Top p loose mean mg mb h₀) (hA : A.frames = some (env :: outer)) (hf : env.frame = some L) (hke : env.scope.kind = .function)
    (ho : K.lookup f = some ⟨oc, od, .func (fnOf name qual params body scope dV kV doc pm an cdv ct), osl⟩) (hcd : codeIn K cdv qual = true) (hroom : A.depth < recursionLimit)
    (hbind : BindsTo s (fnOf name qual params body scope dV kV doc pm an cdv ct) args binds) (hkind : (binds.all fun y => scope.names.lookup y.1 == some .local || scope.names.lookup y.1 == some .cell) = true)
    (hnd : ((cellsFrom 0 scope.names []).map (·.1)).Nodup)
    (h : ∀ g L' h₁ tk cells, Fr h₀ L g m → Fr g L' h₁ (bindL (envOfC qual scope L' f cdv).kindOf binds fun _ => none) → News g L' h₁ (cells ++ news) →
      CellsAre (bindC (envOfC qual scope L' f cdv).kindOf binds fun _ => none) (cellsFrom (L' + 1) scope.names []) cells → Below A base (env :: outer) g → K.In g → Top p loose mean mg mb g → (∀ p ∈ news, p.1 < L') →
      wpAny (model prog w) (A.deeper (envOfC qual scope L' f cdv)) (execs body (envOfC qual scope L' f cdv))
        (fun fl s' => Keep (R (.ok (.ret (match fl with | .ret v => v | _ => .none))) s'))
        (fun e s' => wpAny (model prog w) (A.deeper (envOfC qual scope L' f cdv)) (leaving (envOfC qual scope L' f cdv) e) (fun _ s'' => R (.error e) s'') (fun e' s'' => R (.error e') s'') s')
        { s with heap := h₁, toks := tk })
    (hco : scope.isCoroutine = false) (hgen : scope.isGenerator = false) (hk : scope.kind = .function) : codeAny (model prog w) A (.call (.ref f) args) R s := by
  obtain ⟨FG, BG, st, lv⟩ := groundX (R := R) B F N hA hf hke
  refine codeAny_call_function hroom ((X₀.keeps F.keep) _ _ ho) rfl hco hgen rfl (codeRec_of (X₀.keeps F.keep) hcd) (hbind _ _ _ _ ?_)
  refine wpAny_newFunctionEnv_cells hk (kindsX hkind _) fun env' he s' x => ?_
  subst he
  refine ⟨(T.nolimit.keeps F.keep).keeps x.toInCall.keep, codeAny_func ?_⟩
  obtain ⟨h₁, tk, rfl, _⟩ := x.done
  have hk₁ := x.toInCall.keep
  obtain ⟨cells, NC, Y⟩ := Cl.news (h₀ := s.heap) (Nat.le_refl _) fun n c hm => ⟨x.cell n c (lookup_of_mem_nodup (cellsFrom_names scope.names 0 (s.heap.objs.size + 1) [] [] rfl ▸ hnd) hm), x.above n c hm⟩
  refine wpAny_mono (h _ s.heap.objs.size h₁ tk cells FG ⟨x.toInCall.ns, fun b o e => hk₁ b o (of_hideAll _ e), Nat.le_of_eq (hideAll_size _ _)⟩ (fun p hp => ?_) Y BG (X₀.keeps st) (T.keeps st) (fun p hp => Heap.lt_size (N p hp).1)) (fun fl s' hl => hl) fun _ _ y => y
  rcases List.mem_append.mp hp with hp | hp
  · refine ⟨(NC p hp).1, (NC p hp).2.1, ?_⟩
    cases q : (hideAll s.heap (news.map (·.1))).get? p.1 with
    | none => rfl
    | some o => have := of_hideAll _ q; rw [(NC p hp).2.2] at this; cases this
  · exact ⟨hk₁ _ _ (N p hp).1, Nat.ne_of_lt (Heap.lt_size (N p hp).1), hideAll_none _ (List.mem_map_of_mem hp)⟩
end
theorem reg_A8_1 : True := by
  (k_with "enterH" => ((refine' code_defH ?zzk1 ?zzk2 ?zzk3 ?zzk4 ?zzk5 ?zzkA ?zzkF ?zzkK ?zzk6 ?zzk7 ?zzk8 ?zzk9 ?zzkB ?_ ?zzc2 ?zzc3 ?zzc4 ?zzc5; (case zzkA => exact rfl); (case zzkF => exact rfl); (case zzkK => first | exact rfl | assumption); (case zzk1 => k_asm); (case zzk2 => k_asm); (case zzk3 => k_asm); (case zzk4 => k_asm); (case zzk5 => k_asm); (case zzk6 => k_is); (case zzk7 => k_is); (case zzk8 => ktr_room); (case zzk9 => first | exact BindsTo.of_eq rfl | exact binds_K (by k_in) rfl (by k_is) rfl rfl rfl); (case zzc5 => decide); (case zzkB => exact locs rfl); (case zzc2 => exact rfl); (case zzc3 => exact rfl); (case zzc4 => exact rfl); k_whole; intro g' L' h' FG' F' N' B' X' T'; (try dsimp only); (try k_fold))))
  (k_with "enterHC" => ((refine' code_defHC ?zzk1 ?zzk2 ?zzk3 ?zzk4 ?zzk5 ?zzkA ?zzkF ?zzkK ?zzk6 ?zzk7 ?zzk8 ?zzk9 ?zzkB ?zzkD ?_ ?zzc2 ?zzc3 ?zzc4; (case zzkA => exact rfl); (case zzkF => exact rfl); (case zzkK => first | exact rfl | assumption); (case zzk1 => k_asm); (case zzk2 => k_asm); (case zzk3 => k_asm); (case zzk4 => k_asm); (case zzk5 => k_asm); (case zzk6 => k_is); (case zzk7 => k_is); (case zzk8 => ktr_room); (case zzk9 => first | exact BindsTo.of_eq rfl | exact binds_K (by k_in) rfl (by k_is) rfl rfl rfl); (case zzkB => exact rfl); (case zzkD => decide +kernel); (case zzc2 => exact rfl); (case zzc3 => exact rfl); (case zzc4 => exact rfl); k_whole; intro g' L' h' tk' cells' FG' F' N' Y' B' X' T' l1; (try k_lt l1); k_cells Y'; (try simp only [List.cons_append, List.nil_append] at N'); (try dsimp only); (try k_lift B'); (try k_fold))))
  exact trivial
section
variable {w : World} {h₀ : Heap} {L : Addr} {m : Str → Option Value} {news : List (Addr × Obj)} {s : Shared} {Q E : Value → Shared → Prop}
  {dp un : Nat} {gd : Option (List Code)} {cn : Str} {cs : Scope} {fa : Addr} {ccd : Value} {cl : List (Str × Addr)} {outer : List Env} {A₀ : Around} {base : Heap}
    {mg mb : Str → Option Value} {mean : ExcName → Option Value} {loose : List Str}
set_option maxHeartbeats 8000000 in
theorem refused_call {b : List UInt8} {t : Tok} (B : Below A₀ base outer h₀) (F : Fr h₀ L s.heap m) (Xb : (hd0.heap_1_1 w.params).In base) (N : News h₀ L s.heap news) (Tb : Top hd0.view_1_2 loose mean mg mb base)
   (hk : cs.kind = .function) (hdp : dp + 30 < recursionLimit) (hun : un + 300 < cLine) (hb : b.length ≤ 1000)
   (ret : ∀ v h₁ h' tk', (v = true ↔ ¬ okF b) → Near outer h₀ h₁ → Below A₀ base outer h₁ → Fr h₁ L h' m → News h₁ L h' news → Q (.bool v) { s with heap := h', toks := tk' }) :
   wpAny (model PySem.Challenge.pw_nu0127_01 w) (ktrTop dp un gd cn cs L fa ccd cl outer) (call (.ref 336) [.bytes b.toArray t]) Q E s := by
  have X : (hd0.heap_1_1 w.params).In h₀ := Xb.keeps B.stays
  have T : Top hd0.view_1_2 loose mean mg mb h₀ := Tb.keeps B.stays
  by_cases ok : okF b
  · refine wpAny_call ?_
    have gdA8_1 : Unit := ()
    w_top off
    w_strict (
      (k_with "call ref" => (fail_if_success fail_if_success have := gdA8_1); first | (k_dflt (refine' unpack_call ?C ?h ok ?_; (case C => k_extra "cx_now"); (case h => assumption)); intro fx dx es n ta tb tk tp h' tk' F' N' l1 l2 e1 e2 e3 e4))
      k_dflt k_extra "enterH"
      k_steps)
    all_goals (exact ret false h₀ _ _ (by simp [ok]) (Near.refl _ _) B (fr_up (by assumption) F') (news_up (by assumption) F' N' (fun q hq => .tail _ (.tail _ hq))))
  · refine wpAny_call ?_
    have gdA8_1 : Unit := ()
    w_top off
    w_strict (
      (k_with "call ref" => (fail_if_success fail_if_success have := gdA8_1); first | (k_dflt (refine' unpack_bad ?C ?h ok ?_; (case C => k_extra "cx_now"); (case h => assumption)); intro e' g' h' tk' l' al FG U R))
      (k_with "noteFrame ref" => (fail_if_success fail_if_success have := gdA8_1); (k_dflt (obtain rfl := Option.some.inj (al : some (_ :: _) = some l'); refine caught_F (by assumption) FG U R Xb Tb ?_); intro h6 u6 st6 n6))
      k_dflt k_extra "enterH"
      k_steps)
    all_goals (obtain ⟨h₁, n1, n2, n3, n4⟩ := near_ok (env := envX cn cs L fa ccd cl) (g := _) B (by assumption) N rfl ((Heap.UpToSlots.of_keeps FG.keep).trans u6) st6 n6)
    all_goals (exact ret true h₁ _ _ (by simp [ok]) n1 n2 n3 n4)
end
theorem reg_C0_1 : True := by
  (k_with "binaryOp FloorDiv int int" => (((k_dflt (refine' floordiv_int ?zzh1 ?_ ?zzh2; (case zzh1 => first | decide | lia | k_extra "div ne"); (case zzh2 => first | exact Or.inl (PyProof.noPylong_of_log2 (by first | assumption | decide +kernel)) | k_extra "div py"))); (try k_extra "div fix"))))
  (k_with "binaryOp Mod int int" => (((k_dflt (refine' mod_int' ?zzh1 ?_; (case zzh1 => first | decide | lia | k_extra "div ne"))); (try k_extra "mod fix"))))
  exact trivial
/-- one bit of an octet string turned -/
def turnB (b : List UInt8) (k : Nat) : List UInt8 := b.take (k / 8) ++ ((b.getD (k / 8) 0).toNat ^^^ 2 ^ (k % 8)).toUInt8 :: b.drop (k / 8 + 1)
theorem xor_u8 (c : UInt8) (j : Nat) (hj : j < 8) : (c.toNat ^^^ 2 ^ j) < 256 := by
  have h1 := UInt8.toNat_lt c
  have h2 : 2 ^ j < 2 ^ 8 := Nat.pow_lt_pow_right (by decide) hj
  exact Nat.xor_lt_two_pow (n := 8) h1 h2
section
variable {w : World} {A : Around} {h₀ : Heap} {L : Addr} {m : Str → Option Value} {news : List (Addr × Obj)} {s : Shared} {Q E : Value → Shared → Prop}
set_option maxHeartbeats 8000000 in
theorem turned_call {b : List UInt8} {t tk : Tok} {k : Nat} (C : Cx w A 4 40 h₀ L m news s) (hb : b.length ≤ 1000) (hk8 : k < 8 * b.length)
   (ret : ∀ t' h' tk', Fr h₀ L h' m → News h₀ L h' news → Q (.bytes (turnB b k).toArray t') { s with heap := h', toks := tk' }) :
   wpAny (model PySem.Challenge.pw_nu0127_01 w) A (call (.ref 329) [.bytes b.toArray t, .int (k : Int) tk]) Q E s := by
  refine Cx.elim (P := fun A => wpAny _ A _ _ _ _) C fun dp un gd cn cs fa ccd cl outer A₀ base mg mb mean loose B F X N T hk hdp hun => ?_
  have e1 : (k : Int).fdiv 8 = ((k / 8 : Nat) : Int) := by rw [fdivP (by decide)]; rfl
  have e2 : (k : Int).fmod 8 = ((k % 8 : Nat) : Int) := by rw [Int.fmod_eq_emod_of_nonneg _ (by decide)]; rfl
  have hx := xor_u8 (b.getD (k / 8) 0) (k % 8) (by lia)
  have e3 : Builtin.bitXor (((b.getD (((k / 8 : Nat) : Int)).toNat 0).toNat : Nat) : Int) ((2 : Int) ^ ((((k % 8 : Nat) : Int)).toNat)) = (((b.getD (k / 8) 0).toNat ^^^ 2 ^ (k % 8) : Nat) : Int) := by
    rw [Int.toNat_natCast, Int.toNat_natCast, show (2 : Int) ^ (k % 8) = ((2 ^ (k % 8) : Nat) : Int) by rw [Int.natCast_pow]; rfl]
    exact bitXorN _ _
  have e6 : Builtin.bitXor (((b.getD (k / 8) 0).toNat : Nat) : Int) ((2 : Int) ^ (k % 8)) = (((b.getD (k / 8) 0).toNat ^^^ 2 ^ (k % 8) : Nat) : Int) := by
    rw [show (2 : Int) ^ (k % 8) = ((2 ^ (k % 8) : Nat) : Int) by rw [Int.natCast_pow]; rfl]
    exact bitXorN _ _
  refine wpAny_call ?_
  have gdC0_2 : Unit := ()
  w_top off
  w_strict (
    (k_with "div fix" => (fail_if_success fail_if_success have := gdC0_2); rw [e1])
    (k_with "mod fix" => (fail_if_success fail_if_success have := gdC0_2); rw [e2])
    (k_with "blen" => (fail_if_success fail_if_success have := gdC0_2); (simp only [List.length_take, List.length_drop, List.length_append, List.length_map, List.length_cons, List.length_nil]; lia))
    (k_with "bytes_in" => (fail_if_success fail_if_success have := gdC0_2); (intro n hn; rcases List.mem_singleton.mp hn with rfl; rw [e3]; lia))
    k_dflt k_extra "enter"
    k_steps
    all_goals (refine (show ∀ l : List UInt8, l = turnB b k → Q (.bytes l.toArray _) _ from fun l e => e ▸ ret _ _ _ (by assumption) (by k_extra "led")) _ ?_)
    all_goals (have e5 : (((k / 8 : Nat) : Int) + 1).toNat = k / 8 + 1 := by lia)
    all_goals (simp only [List.map, e5, Int.toNat_natCast, Int.one_mul, e6, turnB, List.append_assoc, List.singleton_append]))
end
section
variable {w : World} {A : Around} {h₀ : Heap} {L : Addr} {m : Str → Option Value} {news : List (Addr × Obj)} {s : Shared} {Q E : Value → Shared → Prop}
set_option maxHeartbeats 8000000 in
theorem bitturn_call {b : List UInt8} {t tk : Tok} {k : Nat} (C : Cx w A 4 40 h₀ L m news s) (hb : b.length ≤ 1000) (hk8 : k < 8 * b.length)
   (ret : ∀ t' h' tk', Fr h₀ L h' m → News h₀ L h' news → Q (.bytes (turnB b k).toArray t') { s with heap := h', toks := tk' }) :
   wpAny (model PySem.Challenge.pw_nu0127_01 w) A (call (.ref 296) [.bytes b.toArray t, .int (k : Int) tk]) Q E s := by
  refine Cx.elim (P := fun A => wpAny _ A _ _ _ _) C fun dp un gd cn cs fa ccd cl outer A₀ base mg mb mean loose B F X N T hk hdp hun => ?_
  have e1 : (k : Int).fdiv 8 = ((k / 8 : Nat) : Int) := by rw [fdivP (by decide)]; rfl
  have e2 : (k : Int).fmod 8 = ((k % 8 : Nat) : Int) := by rw [Int.fmod_eq_emod_of_nonneg _ (by decide)]; rfl
  have hx := xor_u8 (b.getD (k / 8) 0) (k % 8) (by lia)
  have e3 : Builtin.bitXor (((b.getD (((k / 8 : Nat) : Int)).toNat 0).toNat : Nat) : Int) (1 * (2 : Int) ^ ((((k % 8 : Nat) : Int)).toNat)) = (((b.getD (k / 8) 0).toNat ^^^ 2 ^ (k % 8) : Nat) : Int) := by
    rw [Int.one_mul, Int.toNat_natCast, Int.toNat_natCast, show (2 : Int) ^ (k % 8) = ((2 ^ (k % 8) : Nat) : Int) by rw [Int.natCast_pow]; rfl]
    exact bitXorN _ _
  have e6 : Builtin.bitXor (((b.getD (k / 8) 0).toNat : Nat) : Int) ((2 : Int) ^ (k % 8)) = (((b.getD (k / 8) 0).toNat ^^^ 2 ^ (k % 8) : Nat) : Int) := by
    rw [show (2 : Int) ^ (k % 8) = ((2 ^ (k % 8) : Nat) : Int) by rw [Int.natCast_pow]; rfl]
    exact bitXorN _ _
  refine wpAny_call ?_
  have gdC0_3 : Unit := ()
  w_top off
  w_strict (
    (k_with "div fix" => (fail_if_success fail_if_success have := gdC0_3); rw [e1])
    (k_with "mod fix" => (fail_if_success fail_if_success have := gdC0_3); rw [e2])
    (k_with "blen" => (fail_if_success fail_if_success have := gdC0_3); (simp only [List.length_take, List.length_drop, List.length_append, List.length_map, List.length_cons, List.length_nil]; lia))
    (k_with "bytes_in" => (fail_if_success fail_if_success have := gdC0_3); (intro n hn; rcases List.mem_singleton.mp hn with rfl; rw [e3]; lia))
    k_dflt k_extra "enter"
    k_steps
    all_goals (refine (show ∀ l : List UInt8, l = turnB b k → Q (.bytes l.toArray _) _ from fun l e => e ▸ ret _ _ _ (by assumption) (by k_extra "led")) _ ?_)
    all_goals (have e5 : (((k / 8 : Nat) : Int) + 1).toNat = k / 8 + 1 := by lia)
    all_goals (simp only [List.map, e5, Int.toNat_natCast, Int.one_mul, e6, turnB, List.append_assoc, List.singleton_append]))
end
section
variable {prog : Program} {w : World} {A : Around} {s : Shared} {h₀ : Heap} {L : Addr} {m : Str → Option Value} {env : Env}
theorem CRest.ind {elt : Expr} {x : Str} {scope : Scope} {cl : List (Str × Addr)} {S : List (Addr × Obj) → Prop} {P : Nat → Value → Prop} {Fin : List Value → List (Addr × Obj) → Prop} {n : Nat} (J : Nat → List Value → List (Addr × Obj) → Prop)
    (turn : ∀ i ys news v I oI C oC D m₂ h tk (E' : Value → Shared → Prop), i < n → J i ys news → P i v → LCg.NsObj oC m₂ → m₂ x = some v → Fr h₀ L h m → News h₀ L h ((I, oI) :: (C, oC) :: (D, LCg.lst ys) :: news) → LCg.Off3 I C D news → ((@Ne Nat I C) ∧ (@Ne Nat I D) ∧ (@Ne Nat C D)) →
      wpAny (model prog w) A (eval elt (compEnvC scope cl C env)) (LCg.CompEnd h₀ L m { s with heap := h, toks := tk } I oI C oC D (LCg.lst ys) S (fun y news' => J (i + 1) (ys ++ [y]) news')) E' { s with heap := h, toks := tk })
    (done : ∀ ys news, J n ys news → Fin ys news) {news : List (Addr × Obj)} (h0 : J 0 [] news) : LCg.CompRest prog w A h₀ L m env elt x scope cl s S P Fin n 0 [] news := by
  have key : ∀ k i ys news, i + k = n → J i ys news → LCg.CompRest prog w A h₀ L m env elt x scope cl s S P Fin k i ys news := by
    intro k
    induction k with
    | zero =>
      intro i ys news hi hJ
      have : i = n := by lia
      subst this
      exact LCg.CompRest.zero (done ys news hJ)
    | succ k ih =>
      intro i ys news hi hJ
      refine LCg.CompRest.succ fun v I oI C oC D m₂ h tk E' hP ho hm F N off ne => ?_
      refine wpAny_mono (turn i ys news v I oI C oC D m₂ h tk E' (by lia) hJ hP ho hm F N off ne) (fun y s₂ h₂ => ?_) fun _ _ e => e
      obtain ⟨h', tk', nw, e, F', N', o, hs, hj⟩ := h₂
      exact ⟨h', tk', nw, e, F', N', o, hs, ih (i + 1) _ nw (by lia) hj⟩
  exact key n 0 [] news (by lia) h0
theorem CRest.indO {elt : Expr} {x : Str} {scope : Scope} {cl : List (Str × Addr)} {S : List (Addr × Obj) → Prop} {P : Nat → Value → Prop} {Fin : List Value → List (Addr × Obj) → Prop} {n : Nat} (J : Nat → List Value → List (Addr × Obj) → Prop)
    (turn : ∀ (K : List Value → List (Addr × Obj) → Prop) (z : Shared) i ys news v I oI C oC D m₂ h tk (E' : Value → Shared → Prop), (∀ y n', J (i + 1) y n' → K y n') → i < n → J i ys news → P i v → LCg.NsObj oC m₂ → m₂ x = some v → Fr h₀ L h m → News h₀ L h ((I, oI) :: (C, oC) :: (D, LCg.lst ys) :: news) → LCg.Off3 I C D news → ((@Ne Nat I C) ∧ (@Ne Nat I D) ∧ (@Ne Nat C D)) →
      wpAny (model prog w) A (eval elt (compEnvC scope cl C env)) (LCg.CompEnd h₀ L m { z with heap := h, toks := tk } I oI C oC D (LCg.lst ys) S (fun y news' => K (ys ++ [y]) news')) E' { z with heap := h, toks := tk })
    (done : ∀ ys news, J n ys news → Fin ys news) {news : List (Addr × Obj)} (h0 : J 0 [] news) : LCg.CompRest prog w A h₀ L m env elt x scope cl s S P Fin n 0 [] news :=
  CRest.ind J (fun i ys news v I oI C oC D m₂ h tk E' hi hJ hP ho hm F N off ne => turn (J (i + 1)) s i ys news v I oI C oC D m₂ h tk E' (fun _ _ h => h) hi hJ hP ho hm F N off ne) done h0
end
theorem keep_of {P : Prop} (h : Keep P) : P := h
theorem reg_C1_1 : True := by
  (k_with "CompSrc" => (refine keep_of ?_))
  exact trivial
theorem Cx.led {w : World} {A : Around} {D U : Nat} {h₀ : Heap} {L : Addr} {m : Str → Option Value} {news news' : List (Addr × Obj)} {s : Shared} (C : Cx w A D U h₀ L m news s) (sub : ∀ p ∈ news', p ∈ news) : Cx w A D U h₀ L m news' s := by
  refine Cx.elim (P := fun A => Cx w A D U h₀ L m news' s) C fun dp un gd cn cs fa ccd cl outer A₀ base mg mb mean loose B F X N T hk hdp hun => ?_
  exact ⟨dp, un, gd, cn, cs, fa, ccd, cl, outer, A₀, base, mg, mb, mean, loose, rfl, B, F, X, cb_drop N sub, T, hk, hdp, hun⟩
section
variable {w : World} {A : Around} {h₀ : Heap} {L : Addr} {m : Str → Option Value} {nw : List (Addr × Obj)} {s : Shared} {Q E : Value → Shared → Prop}
theorem take_callF {a : Addr} {b c : Int} {tb tc t : Tok} {k : Nat} {top : Int} {g : Obj → List (Addr × Obj)} (C : Cx w A 2 20 h₀ L m nw s) (U : UpdF a (listOf #[.int b tb, .int c tc] k) nw g)
   (hb : 0 ≤ b) (hc : 0 ≤ c) (hc' : c < 2147483648) (ht : 1 ≤ top) (ht' : top ≤ 2^60)
   (ret : ∀ d b' c' t' tb' tc' h' tk', 0 ≤ d → d < top → 0 ≤ b' → 0 ≤ c' → c' < 2147483648 → Fr h₀ L h' m → News h₀ L h' (g (listOf #[.int b' tb', .int c' tc'] k)) → Q (.int d t') { s with heap := h', toks := tk' }) :
   wpAny (model PySem.Challenge.pw_nu0127_01 w) A (call (.ref 310) [.ref a, .int top t]) Q E s := by
  obtain ⟨own, rest, rfl, hg, h1, h2⟩ := U.split
  refine take_call (C.led (news' := (a, listOf #[.int b tb, .int c tc] k) :: (own ++ rest)) fun p hp => ?_) hb hc hc' ht ht' (fun p hp => ?_) fun d b' c' t' tb' tc' h' tk' g1 g2 g3 g4 g5 F' N' => ?_
  · rcases List.mem_cons.mp hp with rfl | hp
    · exact List.mem_append_right _ (.head _)
    · exact (List.mem_append.mp hp).elim (List.mem_append_left _) fun q => List.mem_append_right _ (.tail _ q)
  · exact (List.mem_append.mp hp).elim (h1 p) (h2 p)
  · refine ret d b' c' t' tb' tc' h' tk' g1 g2 g3 g4 g5 F' ?_
    rw [hg]
    refine cb_drop N' fun p hp => ?_
    rcases List.mem_append.mp hp with hp | hp
    · exact .tail _ (List.mem_append_left _ hp)
    · rcases List.mem_cons.mp hp with rfl | hp
      · exact .head _
      · exact .tail _ (List.mem_append_right _ hp)
end
section
variable {w : World} {A : Around} {h₀ : Heap} {L : Addr} {m : Str → Option Value} {news : List (Addr × Obj)} {s : Shared} {Q E : Value → Shared → Prop}
inductive OCm (L1 a : Addr) (oc : Obj) (k : Nat) (news : List (Addr × Obj)) (i : Nat) (ys : List Value) (nw : List (Addr × Obj)) : Prop
  | mk (b2 c2 : Int) (tb2 tc2 : Tok) (ns : List Int) (_ : nw = (L1 + 1, oc) :: (a, listOf #[.int b2 tb2, .int c2 tc2] k) :: news) (_ : 0 ≤ b2) (_ : 0 ≤ c2) (_ : c2 < 2147483648) (_ : IntsAre ys ns) (_ : ∀ n ∈ ns, 0 ≤ n ∧ n < 256) (_ : ns.length = i) : OCm L1 a oc k news i ys nw
set_option maxHeartbeats 8000000 in
theorem octets_call {a : Addr} {b c : Int} {tb tc t : Tok} {k : Nat} {most : Nat} (C : Cx w A 6 60 h₀ L m ((a, listOf #[.int b tb, .int c tc] k) :: news) s)
   (hb : 0 ≤ b) (hc : 0 ≤ c) (hc' : c < 2147483648) (hm : most ≤ 100) (hne : ∀ p ∈ news, p.1 ≠ a)
   (ret : ∀ l b' c' t' tb' tc' h' tk', l.length ≤ most → 0 ≤ b' → 0 ≤ c' → c' < 2147483648 → Fr h₀ L h' m → News h₀ L h' ((a, listOf #[.int b' tb', .int c' tc'] k) :: news) → Q (.bytes (List.toArray l) t') { s with heap := h', toks := tk' }) :
   wpAny (model PySem.Challenge.pw_nu0127_01 w) A (call (.ref 315) [.ref a, .int (most : Int) t]) Q E s := by
  refine Cx.elim (P := fun A => wpAny _ A _ _ _ _) C fun dp un gd cn cs fa ccd cl outer A₀ base mg mb mean loose B F X N T hk hdp hun => ?_
  refine wpAny_call ?_
  have gdC1_4 : Unit := ()
  w_top off
  w_strict (
    (k_with "call ref" => (fail_if_success fail_if_success have := gdC1_4); first | (k_dflt (refine' take_callF ?C ?U ?h1 ?h2 ?h3 ?h4 ?h5 ?_; (case C => k_extra "cx_now"); (case U => k_updF); (case h1 => assumption); (case h2 => assumption); (case h3 => assumption); (case h4 => lia); (case h5 => lia)); intro d1 b1 c1 t1 tb1 tc1 h1 tk1 g1 g2 g3 g4 g5 F1 N1))
    (k_with "bytes_in" => (fail_if_success fail_if_success have := gdC1_4); assumption)
    k_dflt (refine' code_defC ?k1 ?k2 ?k3 ?k4 ?k5 ?kA ?kF ?kK ?k6 ?k7 ?k8 ?k9 ?kB ?kD ?_ ?c2 ?c3 ?c4; (case kA => exact rfl); (case kF => exact rfl); (case kK => first | exact rfl | assumption); (case k1 => k_asm); (case k2 => k_asm); (case k3 => k_asm); (case k4 => k_asm); (case k5 => k_asm); (case k6 => k_is); (case k7 => k_is); (case k8 => ktr_room); (case k9 => first | exact BindsTo.of_eq rfl | exact binds_K (by k_in) rfl (by k_is) rfl rfl rfl); (case kB => exact rfl); (case kD => decide +kernel); (case c2 => exact rfl); (case c3 => exact rfl); (case c4 => exact rfl); k_whole; intro gE L1 hE tkE cellsE FGE FE NE YE BE XE TE lE; (have lE1 := lE); (try k_lt lE); (obtain ⟨oc, hEc, dc⟩ := CellsAre.one YE; subst hEc; clear YE); (try simp only [List.cons_append, List.nil_append] at NE); (try dsimp only); (try k_lift BE); (try k_fold))
    k_steps
    rename News _ _ _ _ => N3
    rename Fr _ _ _ _ => F3
    unfold Keep
    refine LCg.CompSrc.range (n := d1.toNat) (by rfl) F3 N3 (by assumption) ?c1 ?c2 ?c3 (fun gz => CRest.indO (OCm L1 a oc k news) ?turn ?done ?start)
    case c1 => exact small_one (by lia) (by lia) (by lia) (by lia)
    case c2 => rw [rangeSize_nat]; simp only [Int.sub_zero]
    case c3 => rw [PySem.sizeLine_eq]; lia
    case start => exact ⟨b1, c1, tb1, tc1, [], rfl, g3, g4, g5, .nil, (fun _ h => nomatch h), rfl⟩
    case turn =>
      rintro KK zz i ys nw v I oI Cx1 oC D m₂ hh tk2 E' up hi ⟨b2, c2, tb2, tc2, ns, rfl, p1, p2, p3, p4, p5, p6⟩ ⟨tv, rfl⟩ ho hm F5 N5 off ne
      have offK := off
      simp only [LCg.Off3] at off
      k_steps
      all_goals (refine LCg.CompEnd.intro F1 N1 _ (fun p hp => hp) offK trivial (up _ _ ⟨b1, c1, tb1, tc1, ns ++ [d1], rfl, g3, g4, g5, IntsAre.append p4 (.cons _ _ .nil), fun n hn => ?_, by rw [List.length_append, p6]; rfl⟩))
      all_goals (rcases List.mem_append.mp hn with hn | hn)
      all_goals first | exact p5 n hn | (rcases List.mem_singleton.mp hn with rfl; lia)
    case done =>
      rintro ys nw ⟨b2, c2, tb2, tc2, ns, rfl, p1, p2, p3, p4, p5, p6⟩ D hh tk2 F5 N5 off
      have offK := off
      simp only [LCg.Off1] at off
      k_steps
      all_goals (exact ret _ b2 c2 _ tb2 tc2 _ _ (by rw [List.length_map, p6]; lia) p1 p2 p3 (by assumption) (cb_drop (by assumption) (fun p hp => .tail _ (.tail _ hp)))))

end

section
variable {w : World} {A : Around} {h₀ : Heap} {L : Addr} {m : Str → Option Value} {nw : List (Addr × Obj)} {s : Shared} {Q E : Value → Shared → Prop}
theorem octets_callF {a : Addr} {b c : Int} {tb tc t : Tok} {k : Nat} {most : Nat} {g : Obj → List (Addr × Obj)} (C : Cx w A 6 60 h₀ L m nw s) (U : UpdF a (listOf #[.int b tb, .int c tc] k) nw g)
   (hb : 0 ≤ b) (hc : 0 ≤ c) (hc' : c < 2147483648) (hm : most ≤ 100)
   (ret : ∀ l b' c' t' tb' tc' h' tk', l.length ≤ most → 0 ≤ b' → 0 ≤ c' → c' < 2147483648 → Fr h₀ L h' m → News h₀ L h' (g (listOf #[.int b' tb', .int c' tc'] k)) → Q (.bytes (List.toArray l) t') { s with heap := h', toks := tk' }) :
   wpAny (model PySem.Challenge.pw_nu0127_01 w) A (call (.ref 315) [.ref a, .int (most : Int) t]) Q E s := by
  obtain ⟨own, rest, rfl, hg, h1, h2⟩ := U.split
  refine octets_call (C.led (news' := (a, listOf #[.int b tb, .int c tc] k) :: (own ++ rest)) fun p hp => ?_) hb hc hc' hm (fun p hp => ?_) fun l b' c' t' tb' tc' h' tk' g3 g4 g5 g6 F' N' => ?_
  · rcases List.mem_cons.mp hp with rfl | hp
    · exact List.mem_append_right _ (.head _)
    · exact (List.mem_append.mp hp).elim (List.mem_append_left _) fun q => List.mem_append_right _ (.tail _ q)
  · exact (List.mem_append.mp hp).elim (h1 p) (h2 p)
  · refine ret l b' c' t' tb' tc' h' tk' g3 g4 g5 g6 F' ?_
    rw [hg]
    refine cb_drop N' fun p hp => ?_
    rcases List.mem_append.mp hp with hp | hp
    · exact .tail _ (List.mem_append_left _ hp)
    · rcases List.mem_cons.mp hp with rfl | hp
      · exact .head _
      · exact .tail _ (List.mem_append_right _ hp)
end
section
variable {prog : Program} {w : World} {A : Around} {E : Value → Shared → Prop} {s : Shared} {env : Env} {h₀ : Heap} {target : Expr} {body : List Stmt} {Q : Flow → Shared → Prop}
theorem ForSrc.rangeS {r : Addr} {a b c : Int} {t u v : Tok} {n : Nat} {m : Str → Option Value} {news : List (Addr × Obj)} (hh : A.handled = none) (hE : PassesOwn (model prog w) A env E) (F : Fr h₀ env.locals s.heap m) (N : News h₀ env.locals s.heap news)
    (hr : IsRange s.heap r a b c t u v) (hsm : Builtin.Range.small a b c = true) (hn : Builtin.Range.rangeSize a b c = ((n : Nat) : Int))
    (R : ∀ I g, (∀ p ∈ news, p.1 < I) → TRest prog w A E h₀ env target body Q { s with heap := g } I (fun i v => ∃ t, v = .int (a + ((i : Nat) : Int) * c) t) (fun _ _ => True) (fun _ => True) n 0 m news)
    (ht : ∀ it v, letOwnedTupleGo target it v = pure () := by intro _ _; rfl) : ForSrc prog w A E env target body Q (.ref r) s := by
  refine wpAny_pyIter_range hr hsm ?_
  have W := Walks.range (prog := prog) (w := w) hh s.heap.objs.size a c n
  refine for_walkT W (fun i h st => ⟨_, st, trivial⟩) ?_ (by show IsRangeIter _ _ _ _ _; rw [hn]; simpa using Heap.get?_push_size _ rfl)
    (F.keeps fun _ _ e => Heap.get?_push_of_some _ e) (N.grown fun _ _ e => Heap.get?_push_of_some _ e) (Nat.ne_of_lt F.ns.lt) (next_is_new F) (fun p hp => Nat.ne_of_lt (Heap.lt_size (N p hp).1)) trivial (R _ _ fun p hp => Heap.lt_size (N p hp).1) hE (fun v => ht _ v)
  intro i h h' o nw st e e' k N' _
  have st' : h.get? s.heap.objs.size = some _ := st
  show h'.get? s.heap.objs.size = some _
  rw [e', ← e]; exact st'
end
theorem reg_C2_1 : True := by
  (k_with "eval Name" => (((with_reducible show wpAny _ _ (eval (Expr.Name _ _) (envOf _ _ _ _ _)) _ _ _); k_dflt (refine' ld ?zzk1 ?zzk2 ?_; (case zzk1 => k_asm); (case zzk2 => assumption)))))
  exact trivial
def sbit (n o k : Nat) : Nat := n * 2 + o / 2 ^ k % 2
def soct (n : Nat) (c : UInt8) : Nat := (List.range 8).foldl (fun n k => sbit n c.toNat k) n
def sumA (b : List UInt8) : Nat := b.foldl soct 0
def sumB (b : List UInt8) : Nat := (sumA b * 4294967296) ^^^ (4294967295 * 2 ^ (8 * b.length))
def red1 (n k : Nat) : Nat := if n / 2 ^ (k + 32) = 1 then n ^^^ (4374732215 * 2 ^ k) else n
def sumC (n : Nat) : Nat → Nat
  | 0 => n
  | k + 1 => sumC (red1 n k) k
def sumD (n : Nat) : Nat := (List.range 32).foldl (fun f k => f * 2 + 1 - n / 2 ^ k % 2) 0
def lawSum (b : List UInt8) : Nat := sumD (sumC (sumB b) (8 * b.length))
theorem sbit_int (x o k : Nat) : (x : Int) * 2 + ((o : Int).fdiv ((2 : Int) ^ (0 + (k : Int)).toNat)).fmod 2 = ((sbit x o k : Nat) : Int) := by
  have e : (0 + (k : Int)).toNat = k := by lia
  have e2 : (2 : Int) ^ k = ((2 ^ k : Nat) : Int) := by rw [Int.natCast_pow]; rfl
  rw [e, e2, fdivP (Int.natCast_nonneg _), Int.fmod_eq_emod_of_nonneg _ (by decide)]
  unfold sbit
  lia
theorem sumC_step (x N k : Nat) (hk : k < N) : sumC x (N - k) = sumC (red1 x (N - (k + 1))) (N - (k + 1)) := by
  rw [show N - k = (N - (k + 1)) + 1 by lia]; rfl
theorem red_at (l k : Nat) (hk : k < 8 * l) : (8 * (l : Int) + 32 - 1 + (k : Int) * -1).toNat = (8 * l - (k + 1)) + 32 := by lia
theorem red_at2 (l k : Nat) (hk : k < 8 * l) : (8 * (l : Int) + 32 - 1 + (k : Int) * -1 - 32).toNat = 8 * l - (k + 1) := by lia
theorem pow2I (j : Nat) : (2 : Int) ^ j = ((2 ^ j : Nat) : Int) := by rw [Int.natCast_pow]; rfl
theorem red_div (x j : Nat) : (x : Int).fdiv ((2 : Int) ^ j) = ((x / 2 ^ j : Nat) : Int) := by
  rw [pow2I, fdivP (Int.natCast_nonneg _)]; rfl
theorem down_small (l : Nat) (h : l ≤ 1000) : Builtin.Range.small (8 * (l : Int) + 32 - 1) 31 (-1) = true ∧ Builtin.Range.rangeSize (8 * (l : Int) + 32 - 1) 31 (-1) = ((8 * l : Nat) : Int) := by
  have e : Builtin.Range.rangeSize (8 * (l : Int) + 32 - 1) 31 (-1) = ((8 * l : Nat) : Int) := by
    unfold Builtin.Range.rangeSize
    rw [if_neg (by decide)]
    split
    · rw [show (-(-1 : Int)) = 1 from rfl, Int.ediv_one]; lia
    · lia
  refine ⟨?_, e⟩
  unfold Builtin.Range.small
  rw [e]
  simp only [Builtin.Range.rangeFitsLong, Bool.and_eq_true, Bool.or_eq_true, decide_eq_true_eq, beq_iff_eq]
  exact ⟨by lia, Or.inr (by decide)⟩
theorem xorB (x l : Nat) : Builtin.bitXor ((x : Int) * 2 ^ Int.toNat 32) ((2 ^ Int.toNat 32 - 1) * 2 ^ (8 * (l : Int) + 32 - 32).toNat) = (((x * 4294967296) ^^^ (4294967295 * 2 ^ (8 * l)) : Nat) : Int) := by
  rw [show (8 * (l : Int) + 32 - 32).toNat = 8 * l by lia, show (2 : Int) ^ Int.toNat 32 = ((4294967296 : Nat) : Int) from rfl, show ((4294967296 : Nat) : Int) - 1 = ((4294967295 : Nat) : Int) from rfl, pow2I, ← Int.natCast_mul, ← Int.natCast_mul]
  exact bitXorN _ _
theorem xorR (x j : Nat) : Builtin.bitXor (x : Int) (4374732215 * 2 ^ j) = ((x ^^^ (4374732215 * 2 ^ j) : Nat) : Int) := by
  rw [pow2I, show (4374732215 : Int) = ((4374732215 : Nat) : Int) from rfl, ← Int.natCast_mul]
  exact bitXorN _ _
theorem sumd_int (f n k : Nat) (hf : 0 ≤ f) : (f : Int) * 2 + 1 - ((n : Int).fdiv ((2 : Int) ^ (0 + (k : Int)).toNat)).fmod 2 = ((f * 2 + 1 - n / 2 ^ k % 2 : Nat) : Int) := by
  have e : (0 + (k : Int)).toNat = k := by lia
  rw [e, red_div, Int.fmod_eq_emod_of_nonneg _ (by decide)]
  lia
section
variable {w : World} {A : Around} {h₀ : Heap} {L : Addr} {m : Str → Option Value} {news : List (Addr × Obj)} {s : Shared} {Q E : Value → Shared → Prop}
set_option maxHeartbeats 8000000 in
theorem sum_call {b : List UInt8} {t : Tok} (C : Cx w A 6 60 h₀ L m news s) (hb : b.length ≤ 1000)
   (ret : ∀ t' h' tk', Fr h₀ L h' m → News h₀ L h' news → Q (.int (lawSum b : Nat) t') { s with heap := h', toks := tk' }) :
   wpAny (model PySem.Challenge.pw_nu0127_01 w) A (call (.ref 322) [.bytes b.toArray t]) Q E s := by
  refine Cx.elim (P := fun A => wpAny _ A _ _ _ _) C fun dp un gd cn cs fa ccd cl outer A₀ base mg mb mean loose B F X N T hk hdp hun => ?_
  refine wpAny_call ?_
  have gdC2_11 : Unit := ()
  w_top off
  w_strict (
    k_dflt (refine' code_def ?k1 ?k2 ?k3 ?k4 ?k5 ?kA ?kF ?kK ?k6 ?k7 ?k8 ?k9 ?kB ?_ ?c2 ?c3 ?c4 ?c5; (case kA => exact rfl); (case kF => exact rfl); (case kK => first | exact rfl | assumption); (case k1 => k_asm); (case k2 => k_asm); (case k3 => k_asm); (case k4 => k_asm); (case k5 => k_asm); (case k6 => k_is); (case k7 => k_is); (case k8 => ktr_room); (case k9 => first | exact BindsTo.of_eq rfl | exact binds_K (by k_in) rfl (by k_is) rfl rfl rfl); (case c5 => decide); (case kB => exact locs rfl); (case c2 => exact rfl); (case c3 => exact rfl); (case c4 => exact rfl); k_whole; intro gE L1 hE FGE FE NE BE XE TE; (try dsimp only); (try k_fold))
    k_steps
    rename News _ _ _ _ => N3
    rename Fr _ _ _ _ => F3
    refine ForSrc.bytes (by rfl) (by first | passes_own | with_unfolding_all passes_own) F3 N3 (fun I g hI => TRest.indO (fun i m' nw => Keep (nw = news ∧ ∃ tn, m' "number" = some (.int (((b.take i).foldl soct 0 : Nat) : Int) tn) ∧ m' "octets" = some (.bytes b.toArray t))) ?turn ?done ?start)
    case start => exact ⟨rfl, _, rfl, rfl⟩
    case turn =>
      have hI0 := hI
      have hIn : ∀ p ∈ news, p.1 ≠ I := allLt_ne (allLt_of hI)
      clear F3 N3
      rintro K1 Q1 z1 i m' nw v it h tk up1 hi ⟨rfl, tn, v1, v2⟩ ⟨c, tc, hc, rfl⟩ hit F5 N5
      k_steps
      rename News _ _ _ _ => N6
      rename Fr _ _ _ _ => F6
      refine ForSrc.range (n := 8) (by rfl) (by first | passes_own | with_unfolding_all passes_own) F6 N6 (by assumption) rfl rfl (fun I2 g2 hI2 => TRest.indO (fun k m2 nw2 => Keep (nw2 = (I, it) :: nw ∧ (∃ tn, m2 "number" = some (.int (((List.range k).foldl (fun n k => sbit n c.toNat k) ((b.take i).foldl soct 0) : Nat) : Int) tn)) ∧ m2 "octets" = some (.bytes b.toArray t) ∧ m2 "octet" = some (.int (c.toNat : Int) tc))) ?turn2 ?done2 ?start2)
      case start2 => exact ⟨rfl, ⟨_, v1⟩, v2, rfl⟩
      case turn2 =>
        have hI2n : ∀ p ∈ nw, p.1 ≠ I2 := allLt_ne (allLt_of fun p hp => hI2 p (.tail _ hp))
        have hI2m := hI2 _ (.head _)
        clear F6 N6
        rintro K2 Q2 z2 k m2 nw2 v it2 h2 tk2 up2 hk2 ⟨rfl, ⟨tn2, w1⟩, w2, w3⟩ ⟨t3, rfl⟩ hit2 F7 N7
        k_steps
        exact trivial
        exact up2 _ _ ⟨rfl, ⟨_, congrArg (fun z => some (Value.int z _)) (by rw [sbit_int, List.range_succ, List.foldl_append]; rfl)⟩, w2, w3⟩
      case done2 =>
        clear F6 N6
        rintro m2 nw2 h2 tk2 ⟨rfl, ⟨tn2, w1⟩, w2, w3⟩ F7 N7
        k_steps
        exact trivial
        have e : (b.take (i + 1)).foldl soct 0 = (List.range 8).foldl (fun n k => sbit n c.toNat k) ((b.take i).foldl soct 0) := by
          rw [List.take_add_one, hc, List.foldl_append]
          rfl
        exact up1 _ _ ⟨rfl, tn2, by rw [e]; exact w1, w2⟩
    case done =>
      clear F3 N3
      rintro m' nw h tk ⟨rfl, tn, v1, v2⟩ F5 N5
      rw [List.take_length] at v1
      k_steps
      rename News _ _ _ _ => N6
      rename Fr _ _ _ _ => F6
      rename IsRange _ _ _ _ _ _ _ _ => R6
      refine ForSrc.rangeS (n := 8 * b.length) (by rfl) (by first | passes_own | with_unfolding_all passes_own) F6 N6 R6 ?c1 ?c2 (fun I2 g2 hI2 => TRest.indO (fun i m2 nw2 => Keep (nw2 = nw ∧ ∃ x tn, m2 "number" = some (.int ((x : Nat) : Int) tn) ∧ sumC x (8 * b.length - i) = sumC (sumB b) (8 * b.length))) ?turn2 ?done2 ?start2)
      case start2 => exact ⟨rfl, sumB b, _, congrArg (fun z => some (Value.int z _)) (xorB _ _), rfl⟩
      case c1 => exact (down_small _ hb).1
      case c2 => exact (down_small _ hb).2
      case turn2 =>
        have hI2n : ∀ p ∈ nw, p.1 ≠ I2 := allLt_ne (allLt_of hI2)
        clear F6 N6
        rintro K2 Q2 z2 k m2 nw2 v it2 h2 tk2 up2 hk2 ⟨rfl, x, tn2, w1, w2⟩ ⟨t3, rfl⟩ hit2 F7 N7
        k_steps
        exact trivial
        rename _ = (1 : Int) => hq
        rw [red_at _ _ hk2, red_div] at hq
        refine up2 _ _ ⟨rfl, _, _, congrArg (fun z => some (Value.int z _)) (by rw [red_at2 _ _ hk2]; exact xorR _ _), ?_⟩
        rw [← w2, sumC_step _ _ _ hk2]
        unfold red1
        rw [if_pos (by lia)]
        exact trivial
        rename _ ≠ (1 : Int) => hq
        rw [red_at _ _ hk2, red_div] at hq
        refine up2 _ _ ⟨rfl, _, _, w1, ?_⟩
        rw [← w2, sumC_step _ _ _ hk2]
        unfold red1
        rw [if_neg (by lia)]
      case done2 =>
        clear F6 N6
        rintro m2 nw2 h2 tk2 ⟨rfl, x, tn2, w1, w2⟩ F7 N7
        have w3 : x = sumC (sumB b) (8 * b.length) := by rw [← w2, Nat.sub_self]; rfl
        k_steps
        rename News _ _ _ _ => N8
        rename Fr _ _ _ _ => F8
        rename IsRange _ _ _ _ _ _ _ _ => R8
        refine ForSrc.range (n := 32) (by rfl) (by first | passes_own | with_unfolding_all passes_own) F8 N8 R8 rfl rfl (fun I3 g3 hI3 => TRest.indO (fun k m3 nw3 => Keep (nw3 = nw2 ∧ m3 "number" = some (.int ((x : Nat) : Int) tn2) ∧ ∃ tn, m3 "found" = some (.int (((List.range k).foldl (fun f k => f * 2 + 1 - x / 2 ^ k % 2) 0 : Nat) : Int) tn))) ?turn3 ?done3 ?start3)
        case start3 => exact ⟨rfl, w1, _, rfl⟩
        case turn3 =>
          have hI3n : ∀ p ∈ nw2, p.1 ≠ I3 := allLt_ne (allLt_of hI3)
          clear F8 N8
          rintro K3 Q3 z3 k m3 nw3 v it3 h3 tk3 up3 hk3 ⟨rfl, y1, tn3, y2⟩ ⟨t4, rfl⟩ hit3 F9 N9
          k_steps
          exact trivial
          exact up3 _ _ ⟨rfl, y1, _, congrArg (fun z => some (Value.int z _)) (by rw [sumd_int _ _ _ (Nat.zero_le _), List.range_succ, List.foldl_append]; rfl)⟩
        case done3 =>
          clear F8 N8
          rintro m3 nw3 h3 tk3 ⟨rfl, y1, tn3, y2⟩ F9 N9
          k_steps
          rw [w3]
          exact ret _ _ _ (by assumption) (by k_extra "led"))
end
section
variable {w : World} {A : Around} {h₀ : Heap} {L : Addr} {m : Str → Option Value} {news : List (Addr × Obj)} {s : Shared} {Q E : Value → Shared → Prop}
set_option maxHeartbeats 8000000 in
theorem pool_call {sp : Addr} {vs : List Value} {ns : List Int} {k : Nat} {t : Tok} (C : Cx w A 4 40 h₀ L m news s) (hl : h₀.IsList sp vs.toArray) (hi : IntsAre vs ns) (hz : ns.length ≤ 63) (hk5 : k ≤ 5)
   (ret : ∀ l b c tb tc n h' tk', 0 ≤ b → 0 ≤ c → c < 2147483648 → (∀ p ∈ news, p.1 < l) → Fr h₀ L h' m → News h₀ L h' ((l, listOf #[.int b tb, .int c tc] n) :: news) → Q (.ref l) { s with heap := h', toks := tk' }) :
   wpAny (model PySem.Challenge.pw_nu0127_01 w) A (call (.ref 303) [.ref sp, .int (k : Int) t]) Q E s := by
  refine Cx.elim (P := fun A => wpAny _ A _ _ _ _) C fun dp un gd cn cs fa ccd cl outer A₀ base mg mb mean loose B F X N T hk hdp hun => ?_
  refine wpAny_call ?_
  have gdC3_1 : Unit := ()
  w_top off
  w_strict (
    k_dflt (refine' code_def ?k1 ?k2 ?k3 ?k4 ?k5 ?kA ?kF ?kK ?k6 ?k7 ?k8 ?k9 ?kB ?_ ?c2 ?c3 ?c4 ?c5; (case kA => exact rfl); (case kF => exact rfl); (case kK => first | exact rfl | assumption); (case k1 => k_asm); (case k2 => k_asm); (case k3 => k_asm); (case k4 => k_asm); (case k5 => k_asm); (case k6 => k_is); (case k7 => k_is); (case k8 => ktr_room); (case k9 => first | exact BindsTo.of_eq rfl | exact binds_K (by k_in) rfl (by k_is) rfl rfl rfl); (case c5 => decide); (case kB => exact locs rfl); (case c2 => exact rfl); (case c3 => exact rfl); (case c4 => exact rfl); k_whole; intro gE L1 hE FGE FE NE BE XE TE; (try dsimp only); (try k_fold))
    have hl1 : gE.IsList sp vs.toArray := by
      obtain ⟨o, ho, r⟩ := hl
      exact ⟨o, FGE.keep _ _ ho, r⟩
    have hlen := hi.length
    k_steps
    all_goals (refine ret _ _ _ _ _ _ _ _ ?_ ?_ ?_ (by assumption) (by assumption) (by assumption))
    all_goals first | omega | with_reducible exact Int.le_refl 0 | with_reducible exact (fmodB (by decide)).1 | (refine Int.lt_trans (b := 2147483647) ?_ (by decide); with_reducible exact (fmodB (by decide)).2) | skip)
end
section
variable {prog : Program} {w : World} {A : Around} {E : Value → Shared → Prop} {s : Shared}
theorem eqAt_bytes (b c : List UInt8) (t u : Tok) : SeqAt.EqAt A s (.bytes b.toArray t) (.bytes c.toArray u) (b == c) := fun prog w E Q h => by
  unfold eqBool
  refine wpAny_holding ?_
  refine wpAny_ite_split (fun hab => ?_) (fun _ => ?_)
  · have q := eq_of_beq hab
    injection q with e1 e2
    have e3 : b = c := by simpa using e1
    subst e3
    rw [beq_self_eq_true] at h
    exact wpAny_bind (wpAny_rule (wpAny_pure h))
  · exact wpAny_bind (show wpAny _ _ (richCompare .Eq _ _) _ _ _ from eq_bytesL (wpAny_truthy_bool h))
theorem ne_tup4 {x y : Addr} {a b c : Int} {p : List UInt8} {t1 t2 t3 t4 u1 u2 u3 u4 : Tok} {Q : Value → Shared → Prop} (hx : s.heap.IsTuple x #[.int a t1, .int b t2, .int c t3, .bytes p.toArray t4]) (hy : s.heap.IsTuple y #[.int a u1, .int b u2, .int c u3, .bytes p.toArray u4]) (hu : A.units < cLine)
    (h : Q (.bool false) s) : wpAny (model prog w) A (compareOp .NotEq (.ref x) (.ref y)) Q E s := by
  have key := SeqAt.RcNeAt.tuples (e := fun _ => true) hx hy hu (fun j h1 h2 => by
    match j, h1, h2 with
    | 0, _, _ => exact (beq_self_eq_true a) ▸ SeqAt.EqAt.int_int a t1 a u1
    | 1, _, _ => exact (beq_self_eq_true b) ▸ SeqAt.EqAt.int_int b t2 b u2
    | 2, _, _ => exact (beq_self_eq_true c) ▸ SeqAt.EqAt.int_int c t3 c u3
    | 3, _, _ => exact (beq_self_eq_true p) ▸ eqAt_bytes p p t4 u4)
  exact key prog w E Q h
end
theorem units_under_kw (A : Around) (C : Addr) (vals : List Value) (kw : List (Str × Value)) : (A.under (.builtin "type.__call__" ⟨.ref C :: vals, kw⟩)).units = A.units + 1 := rfl
theorem reg_E0_1 : True := by
  (k_with "ktr_units" => (first | k_extra "zunits" | ((simp only [units_under_kw, units_in1, units_deeper, Around.mark_units, units_caller]); k_extra "zunits") | ((simp only [units_under_kw, units_in1, units_deeper, Around.mark_units, units_caller] at *); (try dsimp only [ktrTop] at *); lia)))
  (k_with "loadName" => (((with_reducible show wpAny _ _ (loadName (envOf _ _ _ _ _) _) _ _ _); k_dflt (refine' ldn ?zzk1 ?zzk2 ?_; (case zzk1 => k_asm); (case zzk2 => assumption)))))
  (k_with "callWith ref" => ((k_here; k_dflt (first | (refine' callWith_K ?zzk1 ?zzk2 ?_; (case zzk1 => k_asm); (case zzk2 => k_is); k_whole; (try dsimp only [List.nil_append, List.cons_append, List.append_nil])) | (refine' callWith_K0 ?zzk1 ?zzk2 ?_; (case zzk1 => k_in); (case zzk2 => k_is); k_whole; (try dsimp only [List.nil_append, List.cons_append, List.append_nil]))))))
  (k_with "k_mem" => (assumption))
  exact trivial
section
variable {w : World} {A : Around} {h₀ : Heap} {L : Addr} {m : Str → Option Value} {news : List (Addr × Obj)} {s : Shared} {Q E : Value → Shared → Prop}
set_option maxHeartbeats 8000000 in
theorem transit_call {v1 v2 v3 v4 : Value} (C : Cx w A 8 80 h₀ L m news s)
   (ret : ∀ fx dx es n h' tk', Fr h₀ L h' m → News h₀ L h' ((fx, instObj 200 dx) :: (dx, dictOf es n) :: news) → (∀ p ∈ news, p.1 < dx) → @LT.lt Nat _ dx fx →
      getL "time" es = some (some v1) → getL "end" es = some (some v3) → getL "octets" es = some (some v4) → Q (.ref fx) { s with heap := h', toks := tk' }) :
   wpAny (model PySem.Challenge.pw_nu0127_01 w) A (call (.ref 200) [v1, v2, v3, v4]) Q E s := by
  refine Cx.elim (P := fun A => wpAny _ A _ _ _ _) C fun dp un gd cn cs fa ccd cl outer A₀ base mg mb mean loose B F X N T hk hdp hun => ?_
  have gdE0_2 : Unit := ()
  w_top off
  w_strict (
    k_dflt (refine' call_cls ?k1 ?k2 ?k3 ?k4 ?k5 ?k6 ?_; (case k1 => k_asm); (case k2 => k_asm); (case k3 => k_asm); (case k4 => k_is); (case k5 => k_is); (case k6 => k_is); k_whole; intro x' d' h' F' N' l1 l2; (have l1o := l1); (try k_lt l1); (try k_lt2 l2))
    k_dflt k_extra "enter"
    k_steps
    all_goals (refine' ret _ _ _ _ _ _ ?a ?b ?c ?d ?e ?f ?g; (case a => assumption); (case b => assumption); (case c => assumption); (case d => assumption); (case e => k_get); (case f => k_get); (case g => k_get)))
end
def tok2 (a b : Tok) : Nat → Tok
  | 0 => a
  | _ => b
theorem nw_rot3 {h₀ h : Heap} {L : Addr} {a b c : Addr × Obj} {r : List (Addr × Obj)} (N : News h₀ L h (a :: b :: c :: r)) : News h₀ L h (b :: c :: a :: r) := cb_drop N fun p hp => by
  simp only [List.mem_cons] at hp ⊢
  rcases hp with h | h | h | h
  · exact .inr (.inl h)
  · exact .inr (.inr (.inl h))
  · exact .inl h
  · exact .inr (.inr (.inr h))
def fatesD (w : World) (T : Nat → Tok) (nl : Addr) (x : Int) (tx : Tok) : List DictEntry :=
  [⟨PyData.keyHash w.params "numbers", .str "numbers" (T 0), .ref nl⟩, ⟨PyData.keyHash w.params "at", .str "at" (T 1), .int x tx⟩]
section
variable {w : World} {A : Around} {h₀ : Heap} {L : Addr} {m : Str → Option Value} {news : List (Addr × Obj)} {s : Shared} {Q E : Value → Shared → Prop}
set_option maxHeartbeats 8000000 in
theorem fates_call {fl : Addr} {vs : List Value} {ns : List Int} {k : Nat} (C : Cx w A 8 80 h₀ L m ((fl, listOf vs.toArray k) :: news) s) (hi : IntsAre vs ns) (hz : ns.length ≤ 100)
   (ret : ∀ fo df nl us k2 T tx h' tk', IntsAre us ns → Fr h₀ L h' m → News h₀ L h' ((fo, instObj 228 df) :: (df, dictOf (fatesD w T nl 0 tx) 2) :: (nl, listOf us.toArray k2) :: (fl, listOf vs.toArray k) :: news) →
     (∀ p ∈ (fl, listOf vs.toArray k) :: news, p.1 < df) → @LT.lt Nat _ df fo → @LT.lt Nat _ fo nl → Q (.ref fo) { s with heap := h', toks := tk' }) :
   wpAny (model PySem.Challenge.pw_nu0127_01 w) A (call (.ref 228) [.ref fl]) Q E s := by
  refine Cx.elim (P := fun A => wpAny _ A _ _ _ _) C fun dp un gd cn cs fa ccd cl outer A₀ base mg mb mean loose B F X N T hk hdp hun => ?_
  have gdE1_2 : Unit := ()
  w_top off
  w_strict (
    k_dflt (refine' call_cls ?k1 ?k2 ?k3 ?k4 ?k5 ?k6 ?_; (case k1 => k_asm); (case k2 => k_asm); (case k3 => k_asm); (case k4 => k_is); (case k5 => k_is); (case k6 => k_is); k_whole; intro x' d' h' F' N' l1 l2; (have l1o := l1); (try k_lt l1); (try k_lt2 l2))
    k_dflt k_extra "enter"
    k_steps
    rename News _ _ _ _ => N9
    rename Fr _ _ _ _ => F9
    rename (x' < _ ∧ _) => l9
    rename IntsAre _ _ => i9
    exact ret x' d' _ _ _ (tok2 _ _) _ _ _ i9 F9 (nw_rot3 N9) l1o l2 l9.1)
end
section
variable {w : World} {A : Around} {h₀ : Heap} {L : Addr} {m : Str → Option Value} {news : List (Addr × Obj)} {s : Shared} {Q E : Value → Shared → Prop}
theorem fmodN (x n : Nat) : ((x : Int) + 1).fmod (n : Int) = (((x + 1) % n : Nat) : Int) := by
  rw [Int.fmod_eq_emod_of_nonneg _ (Int.natCast_nonneg _)]
  rfl
set_option maxHeartbeats 8000000 in
theorem next_call {fo df nl : Addr} {TT : Nat → Tok} {k : Nat} {x : Nat} {tx : Tok} {vs : List Value} {ns : List Int} (C : Cx w A 8 80 h₀ L m ((fo, instObj 228 df) :: (df, dictOf (fatesD w TT nl x tx) 2) :: (nl, listOf vs.toArray k) :: news) s) (hi : IntsAre vs ns) (hz : ns.length ≤ 100)
   (hx : ns ≠ [] → x < ns.length) (o1 : @LT.lt Nat _ df fo) (o2 : @LT.lt Nat _ fo nl) (o3 : ∀ p ∈ news, p.1 ≠ df)
   (ret : ∀ t tx' h' tk', Fr h₀ L h' m → News h₀ L h' ((fo, instObj 228 df) :: (df, dictOf (fatesD w TT nl (if ns = [] then x else ((x + 1) % ns.length : Nat)) tx') 2) :: (nl, listOf vs.toArray k) :: news) →
     Q (.int (if ns = [] then 0 else ns.getD x 0) t) { s with heap := h', toks := tk' }) :
   wpAny (model PySem.Challenge.pw_nu0127_01 w) A (call (.ref 225) [.ref fo]) Q E s := by
  refine Cx.elim (P := fun A => wpAny _ A _ _ _ _) C fun dp un gd cn cs fa ccd cl outer A₀ base mg mb mean loose B F X N T hk hdp hun => ?_
  refine wpAny_call ?_
  have gdE2_2 : Unit := ()
  w_top off
  w_strict (
    (k_with "subscriptTail Name Attribute ref int" => (fail_if_success fail_if_success have := gdE2_2); ((have hne : ns ≠ [] := of_decide_eq_false (by assumption)); (have hxl := hx hne); k_dflt (refine' ksa_sub ?k1 ?k2 ?k3 ?k4 ?k5 ?k6 ?_ ?k7; (case k1 => k_asm); (case k2 => k_mem); (case k3 => with_reducible assumption); (case k4 => lia); (case k5 => lia); (case k6 => lia); (case k7 => with_unfolding_all rfl)); intro _))
    (k_with "div ne" => (fail_if_success fail_if_success have := gdE2_2); lia)
    (k_with "mod fix" => (fail_if_success fail_if_success have := gdE2_2); rw [fmodN])
    k_dflt k_extra "enter"
    rename Fr _ _ _ _ => F1
    have F2 : Fr _ _ _ (fun y => List.lookup y [(Str.ofString "self", Value.ref fo)]) := F1
    clear F1
    k_steps
    · rename (decide _ = true) => hq
      have hq := of_decide_eq_true hq
      rw [if_pos hq] at ret
      simp only [if_pos hq] at ret
      exact ret _ tx _ _ (by assumption) (by k_extra "led")
    · simp only [if_neg hne] at ret
      rename News _ _ _ _ => N9
      rename Fr _ _ _ _ => F9
      exact ret _ _ _ _ F9 (cb_drop N9 (fun p hp => .tail _ hp)))
end
def fn3 {α : Type} (a b c : α) : Nat → α
  | 0 => a
  | 1 => b
  | _ => c
def fn4 {α : Type} (a b c d : α) : Nat → α
  | 0 => a
  | 1 => b
  | 2 => c
  | _ => d
def fn10 {α : Type} (a b c d e f g h i j : α) : Nat → α
  | 0 => a
  | 1 => b
  | 2 => c
  | 3 => d
  | 4 => e
  | 5 => f
  | 6 => g
  | 7 => h
  | 8 => i
  | _ => j
theorem nw_line {h₀ h : Heap} {L : Addr} {a b c d e f g : Addr × Obj} {r : List (Addr × Obj)} (N : News h₀ L h (a :: b :: c :: d :: e :: f :: g :: r)) : News h₀ L h (f :: g :: c :: d :: e :: b :: a :: r) := cb_drop N fun p hp => by
  simp only [List.mem_cons] at hp ⊢
  rcases hp with h | h | h | h | h | h | h | h <;> simp only [h, true_or, or_true]
def lineD (w : World) (TT : Nat → Tok) (fo bl tl : Addr) (d sp mo : Int) (tf : Nat → Tok) (cn : Nat → Int) (tc : Nat → Tok) : List DictEntry :=
  [⟨PyData.keyHash w.params "fates", .str "fates" (TT 0), .ref fo⟩, ⟨PyData.keyHash w.params "delay", .str "delay" (TT 1), .int d (tf 0)⟩, ⟨PyData.keyHash w.params "spread", .str "spread" (TT 2), .int sp (tf 1)⟩,
   ⟨PyData.keyHash w.params "most_bad", .str "most_bad" (TT 3), .int mo (tf 2)⟩, ⟨PyData.keyHash w.params "bad", .str "bad" (TT 4), .ref bl⟩, ⟨PyData.keyHash w.params "sent", .str "sent" (TT 5), .int (cn 0) (tc 0)⟩,
   ⟨PyData.keyHash w.params "lost", .str "lost" (TT 6), .int (cn 1) (tc 1)⟩, ⟨PyData.keyHash w.params "spoilt", .str "spoilt" (TT 7), .int (cn 2) (tc 2)⟩, ⟨PyData.keyHash w.params "doubled", .str "doubled" (TT 8), .int (cn 3) (tc 3)⟩,
   ⟨PyData.keyHash w.params "transits", .str "transits" (TT 9), .ref tl⟩]
section
variable {w : World} {A : Around} {h₀ : Heap} {L : Addr} {m : Str → Option Value} {news : List (Addr × Obj)} {s : Shared} {Q E : Value → Shared → Prop}
theorem fates_callM {fl : Addr} {vs : List Value} {ns : List Int} {k : Nat} (C : Cx w A 8 80 h₀ L m news s) (hm : (fl, listOf vs.toArray k) ∈ news) (hi : IntsAre vs ns) (hz : ns.length ≤ 100)
   (ret : ∀ fo df nl us k2 T tx h' tk', IntsAre us ns → Fr h₀ L h' m → News h₀ L h' ((fo, instObj 228 df) :: (df, dictOf (fatesD w T nl 0 tx) 2) :: (nl, listOf us.toArray k2) :: news) →
     (∀ p ∈ news, p.1 < df) → @LT.lt Nat _ df fo → @LT.lt Nat _ fo nl → Q (.ref fo) { s with heap := h', toks := tk' }) :
   wpAny (model PySem.Challenge.pw_nu0127_01 w) A (call (.ref 228) [.ref fl]) Q E s := by
  refine fates_call (k := k) (vs := vs) (news := news) (C.led fun p hp => ?_) hi hz fun fo df nl us k2 T tx h' tk' i1 F1 N1 q1 q2 q3 => ret fo df nl us k2 T tx h' tk' i1 F1 (cb_drop N1 fun p hp => ?_) (fun p hp => q1 p (.tail _ hp)) q2 q3
  · rcases List.mem_cons.mp hp with rfl | hp
    · exact hm
    · exact hp
  · simp only [List.mem_cons] at hp ⊢
    rcases hp with h | h | h | h
    · exact .inl h
    · exact .inr (.inl h)
    · exact .inr (.inr (.inl h))
    · exact .inr (.inr (.inr (.inr h)))
set_option maxHeartbeats 8000000 in
theorem line_call {fl : Addr} {vs : List Value} {ns : List Int} {k : Nat} {d sp mo : Int} {t1 t2 t3 : Tok} (C : Cx w A 10 100 h₀ L m ((fl, listOf vs.toArray k) :: news) s) (hi : IntsAre vs ns) (hz : ns.length ≤ 100)
   (ret : ∀ ln dl fo df nl bl tl us k2 b0 b1 kb kt TT tf cn tc T2 tx h' tk', IntsAre us ns → Fr h₀ L h' m →
     News h₀ L h' ((ln, instObj 285 dl) :: (dl, dictOf (lineD w TT fo bl tl d sp mo tf cn tc) 10) :: (fo, instObj 228 df) :: (df, dictOf (fatesD w T2 nl 0 tx) 2) :: (nl, listOf us.toArray k2) :: (bl, listOf #[.int 0 b0, .int 0 b1] kb) :: (tl, listOf #[] kt) :: (fl, listOf vs.toArray k) :: news) →
     (∀ p ∈ (fl, listOf vs.toArray k) :: news, p.1 < dl) → @LT.lt Nat _ dl ln → @LT.lt Nat _ ln df → @LT.lt Nat _ df fo → @LT.lt Nat _ fo nl → @LT.lt Nat _ nl bl → @LT.lt Nat _ bl tl → Q (.ref ln) { s with heap := h', toks := tk' }) :
   wpAny (model PySem.Challenge.pw_nu0127_01 w) A (call (.ref 285) [.ref fl, .int d t1, .int sp t2] [(Str.ofString "most_bad", .int mo t3)]) Q E s := by
  refine Cx.elim (P := fun A => wpAny _ A _ _ _ _) C fun dp un gd cn cs fa ccd cl outer A₀ base mg mb mean loose B F X N T hk hdp hun => ?_
  have gdE3_3 : Unit := ()
  w_top off
  w_strict (
    (k_with "call ref" => (fail_if_success fail_if_success have := gdE3_3); ((with_reducible show wpAny _ _ (call (Value.ref 228) _) _ _ _); k_dflt (refine' fates_callM ?C ?hm ?hi ?hz ?_; (case C => k_extra "cx_now"); (case hm => k_mem); (case hi => assumption); (case hz => assumption)); intro fo df nl us k2 T2 tx h1 tk1 i1 F1 N1 q1 q2 q3; (have q1o := q1); (try k_lt q1); (try k_lt2 q2); (try k_lt2 q3)))
    k_dflt (refine' call_cls ?k1 ?k2 ?k3 ?k4 ?k5 ?k6 ?_; (case k1 => k_asm); (case k2 => k_asm); (case k3 => k_asm); (case k4 => k_is); (case k5 => k_is); (case k6 => k_is); k_whole; intro x' d' h' F' N' l1 l2; (have l1o := l1); (try k_lt l1); (try k_lt2 l2))
    k_dflt k_extra "enter"
    k_steps
    rename News _ _ _ _ => N9
    rename Fr _ _ _ _ => F9
    rename (_ < _ ∧ fo < _ ∧ _) => c1
    rename (fo < _ ∧ _) => c2
    exact ret x' d' fo df nl _ _ us k2 _ _ _ _ (fn10 _ _ _ _ _ _ _ _ _ _) (fn3 t1 t2 t3) (fn4 0 0 0 0) (fn4 _ _ _ _) T2 tx _ _ i1 F9 (nw_line N9) l1o l2 q1.1 q2 q3 c2.2.2.1 c1.1)
end
/-! what waits on the line: its transits, by membership in the ledger -/
structure R where
  tm : Int
  no : Nat
  en : Int
  oc : List UInt8
def TrAt (nw : List (Addr × Obj)) (v : Value) (r : R) : Prop :=
  ∃ x d es n t1 t2 t3, v = .ref x ∧ (x, instObj 200 d) ∈ nw ∧ (d, dictOf es n) ∈ nw ∧ getL "time" es = some (some (.int r.tm t1)) ∧ getL "end" es = some (some (.int r.en t2)) ∧ getL "octets" es = some (some (.bytes r.oc.toArray t3))
inductive Trs (nw : List (Addr × Obj)) : List Value → List R → Prop
  | nil : Trs nw [] []
  | cons {v r vs rs} : TrAt nw v r → Trs nw vs rs → Trs nw (v :: vs) (r :: rs)
theorem Trs.len {nw : List (Addr × Obj)} : ∀ {vs rs}, Trs nw vs rs → vs.length = rs.length
  | _, _, .nil => rfl
  | _, _, .cons _ h => by rw [List.length_cons, List.length_cons, h.len]
theorem TrAt.mono {nw nw' : List (Addr × Obj)} {v r} (h : TrAt nw v r) (k : ∀ p ∈ nw, p ∈ nw') : TrAt nw' v r := by
  obtain ⟨x, d, es, n, t1, t2, t3, e, h1, h2, h3⟩ := h
  exact ⟨x, d, es, n, t1, t2, t3, e, k _ h1, k _ h2, h3⟩
theorem Trs.mono {nw nw' : List (Addr × Obj)} (k : ∀ p ∈ nw, p ∈ nw') : ∀ {vs rs}, Trs nw vs rs → Trs nw' vs rs
  | _, _, .nil => .nil
  | _, _, .cons a h => .cons (a.mono k) (h.mono k)
theorem Trs.get {nw : List (Addr × Obj)} : ∀ {vs rs} (_ : Trs nw vs rs) {i : Nat}, i < rs.length → ∃ v r, vs[i]? = some v ∧ rs[i]? = some r ∧ TrAt nw v r
  | _, _, .nil, i, hi => by simp at hi
  | _, _, .cons a _, 0, _ => ⟨_, _, rfl, rfl, a⟩
  | _, _, .cons _ h, i + 1, hi => by
    obtain ⟨v, r, e1, e2, e3⟩ := h.get (i := i) (by simpa using hi)
    exact ⟨v, r, by simpa using e1, by simpa using e2, e3⟩
theorem Trs.take {nw : List (Addr × Obj)} : ∀ {vs rs} (_ : Trs nw vs rs) (k : Nat), Trs nw (vs.take k) (rs.take k)
  | _, _, .nil, k => by rw [List.take_nil, List.take_nil]; exact .nil
  | _, _, .cons _ _, 0 => .nil
  | _, _, .cons a h, k + 1 => .cons a (h.take k)
theorem Trs.drop {nw : List (Addr × Obj)} : ∀ {vs rs} (_ : Trs nw vs rs) (k : Nat), Trs nw (vs.drop k) (rs.drop k)
  | _, _, .nil, k => by rw [List.drop_nil, List.drop_nil]; exact .nil
  | _, _, .cons a h, 0 => .cons a h
  | _, _, .cons _ h, k + 1 => h.drop k
theorem Trs.app {nw : List (Addr × Obj)} : ∀ {vs rs us qs}, Trs nw vs rs → Trs nw us qs → Trs nw (vs ++ us) (rs ++ qs)
  | _, _, _, _, .nil, g => g
  | _, _, _, _, .cons a h, g => .cons a (h.app g)
section
variable {prog : Program} {w : World} {A : Around} {h₀ : Heap} {L : Addr} {m : Str → Option Value} {news : List (Addr × Obj)} {s : Shared} {Q E : Value → Shared → Prop}
theorem sub_list {value slice : PySem.Expr} {D : Addr} {vs : List Value} {n : Nat} {k : Int} {u : Tok} {v : Value} (N : News h₀ L s.heap news) (hm : (D, listOf vs.toArray n) ∈ news) (h0 : 0 ≤ k) (hv : vs[k.toNat]? = some v) (hfit : k < 2 ^ 63) (h : Q v s)
    (hs : subscripted slice false (.ref D) (.int k u) = operate [.ref D, .int k u] (getItem (.ref D) (.int k u)) := by with_unfolding_all rfl) :
    wpAny (model prog w) A (subscriptTail value slice (.ref D) (.int k u)) Q E s := by
  have hl : s.heap.IsList D vs.toArray := PySem.IsL.isList (n := n) (N _ hm).1
  exact tail_any hl.typeIs slot_list_getitem.lookup (wpAny_getItem_list hl h0 hfit (x := v) (by simpa using hv) h) hs
theorem nw_put {h : Heap} {a b c d e : Addr × Obj} {r : List (Addr × Obj)} (N : News h₀ L h (a :: b :: c :: d :: e :: r)) : News h₀ L h (c :: d :: e :: a :: b :: r) := cb_drop N fun p hp => by
  simp only [List.mem_cons] at hp ⊢
  rcases hp with h | h | h | h | h | h <;> simp only [h, true_or, or_true]
theorem put_lt {ln dl tl dx : Addr} {o1 o2 o3 : Obj} {r : List (Addr × Obj)} (h : ln < dx ∧ dl < dx ∧ tl < dx ∧ AllLt dx r) : ∀ p ∈ (ln, o1) :: (dl, o2) :: (tl, o3) :: r, p.1 < dx := fun p hp => by
  simp only [List.mem_cons] at hp
  rcases hp with rfl | rfl | rfl | hp
  · exact h.1
  · exact h.2.1
  · exact h.2.2.1
  · exact allLt_lt h.2.2.2 p hp
theorem kl_insN {vs : List Value} {rs : List R} {n : Nat} {y : Value} (h : n ≤ rs.length) (hl : vs.length = rs.length) : kl_ins vs.toArray.toList (n : Int) y = vs.take n ++ y :: vs.drop n := by
  show kl_ins vs (n : Int) y = _
  unfold kl_ins
  rw [if_neg (by lia), Int.toNat_natCast, Nat.min_eq_left (by lia)]
theorem put_trs {vs : List Value} {rs : List R} {k : Nat} {fx dx : Addr} {es : List DictEntry} {n no : Nat} {x en : Int} {oc : List UInt8} {ta tb td : Tok} {nw : List (Addr × Obj)} (hr : Trs nw vs rs) (f1 : getL "time" es = some (some (.int x ta))) (f2 : getL "end" es = some (some (.int en tb))) (f3 : getL "octets" es = some (some (.bytes oc.toArray td))) :
    Trs ((fx, instObj 200 dx) :: (dx, dictOf es n) :: nw) (vs.take k ++ .ref fx :: vs.drop k) (rs.take k ++ ⟨x, no, en, oc⟩ :: rs.drop k) := by
  have up : ∀ p ∈ nw, p ∈ (fx, instObj 200 dx) :: (dx, dictOf es n) :: nw := fun p hp => .tail _ (.tail _ hp)
  exact ((hr.take k).mono up).app (.cons ⟨fx, dx, es, n, ta, tb, td, rfl, .head _, .tail _ (.head _), f1, f2, f3⟩ ((hr.drop k).mono up))
theorem lfits {n : Nat} (h : n ≤ 100000) : Builtin.List.listFitsIndex (n : Int) = true := by
  unfold Builtin.List.listFitsIndex
  simp only [Bool.and_eq_true, decide_eq_true_eq]
  lia
theorem len_listN {D : Addr} {vs : List Value} {n : Nat} (N : News h₀ L s.heap news) (hm : (D, listOf vs.toArray n) ∈ news) (hz : vs.length ≤ 100000) (h : ∀ t k, Q (.int (vs.length : Nat) t) { s with toks := k }) :
    wpAny (model prog w) A (call (.builtin "len") [.ref D]) Q E s := by
  have hl : s.heap.IsList D vs.toArray := PySem.IsL.isList (n := n) (N _ hm).1
  exact len_list hl (by rw [List.size_toArray]; lia) (by rw [List.size_toArray]; exact h _ _)
end
section
variable {w : World} {A : Around} {h₀ : Heap} {L : Addr} {m : Str → Option Value} {news : List (Addr × Obj)} {s : Shared} {Q E : Value → Shared → Prop}
inductive IncMid (w : World) (s : Shared) (gE : Heap) (L1 ln dl fo bl tl : Addr) (TT : Nat → Tok) (d sp mo : Int) (tf : Nat → Tok) (vs : List Value) (kt : Nat) (news : List (Addr × Obj)) (m : Str → Option Value) (fl : Flow) (s' : Shared) : Prop
  | mk (h : Heap) (tk : Nat) (cn : Nat → Int) (tc : Nat → Tok) (_ : fl = .next) (_ : s' = { s with heap := h, toks := tk }) (_ : Fr gE L1 h m) (_ : News gE L1 h ((ln, instObj 285 dl) :: (dl, dictOf (lineD w TT fo bl tl d sp mo tf cn tc) 10) :: (tl, listOf vs.toArray kt) :: news)) : IncMid w s gE L1 ln dl fo bl tl TT d sp mo tf vs kt news m fl s'
theorem wp_inc {M : Model} {A : Around} {E : Value → Shared → Prop} {w : World} {gE : Heap} {L1 ln dl fo bl tl : Addr} {TT : Nat → Tok} {d sp mo : Int} {tf : Nat → Tok} {vs : List Value} {kt : Nat} {news : List (Addr × Obj)} {m : Str → Option Value} {s : Shared} {x : Sem Flow} {Q : Flow → Shared → Prop} (_ : Fr gE L1 s.heap m)
    (one : wpAny M A x (fun fl s' => IncMid w s gE L1 ln dl fo bl tl TT d sp mo tf vs kt news m fl s') E s)
    (two : ∀ h tk cn tc, Fr gE L1 h m → News gE L1 h ((ln, instObj 285 dl) :: (dl, dictOf (lineD w TT fo bl tl d sp mo tf cn tc) 10) :: (tl, listOf vs.toArray kt) :: news) → Q .next { s with heap := h, toks := tk }) : wpAny M A x Q E s :=
  wpAny_mono one (fun _ _ ⟨h, tk, cn, tc, e1, e2, F, N⟩ => by subst e1 e2; exact two h tk cn tc F N) fun _ _ e => e
inductive PutMid (w : World) (s : Shared) (gE : Heap) (L1 ln dl tl : Addr) (oD : Obj) (vs : List Value) (kt : Nat) (news : List (Addr × Obj)) (x en : Int) (oc : List UInt8) (rs : List R) (ta tb td : Tok) (fl : Flow) (s' : Shared) : Prop
  | mk (h : Heap) (tk : Nat) (m' : Str → Option Value) (n : Nat) (tp : Tok) (_ : fl = .next) (_ : s' = { s with heap := h, toks := tk }) (_ : Fr gE L1 h m') (_ : News gE L1 h ((ln, instObj 285 dl) :: (dl, oD) :: (tl, listOf vs.toArray kt) :: news))
     (_ : m' "self" = some (.ref ln)) (_ : m' "time" = some (.int x ta)) (_ : m' "end" = some (.int en tb)) (_ : m' "octets" = some (.bytes oc.toArray td)) (_ : m' "place" = some (.int (n : Int) tp)) (_ : n ≤ rs.length) (_ : ∀ j r, n ≤ j → rs[j]? = some r → x < r.tm) (_ : ∀ r, 0 < n → rs[n - 1]? = some r → r.tm ≤ x) : PutMid w s gE L1 ln dl tl oD vs kt news x en oc rs ta tb td fl s'
set_option maxHeartbeats 8000000 in
theorem put_call {nt : List (Addr × Obj)} {ln dl fo bl tl : Addr} {TT : Nat → Tok} {d sp mo : Int} {tf : Nat → Tok} {cn : Nat → Int} {tc : Nat → Tok} {vs : List Value} {rs : List R} {kt : Nat} {x en : Int} {no : Nat} {oc : List UInt8} {ta tb td : Tok}
   (C : Cx w A 12 120 h₀ L m ((ln, instObj 285 dl) :: (dl, dictOf (lineD w TT fo bl tl d sp mo tf cn tc) 10) :: (tl, listOf vs.toArray kt) :: news) s) (hs : ∀ p ∈ nt, p ∈ news) (hr : Trs nt vs rs) (hz : rs.length ≤ 100)
   (o1 : @LT.lt Nat _ dl ln) (o2 : @LT.lt Nat _ ln tl) (o3 : ∀ p ∈ news, p.1 ≠ dl) (o4 : ∀ p ∈ news, p.1 ≠ tl)
   (ret : ∀ k fx dx es n us kt' cn' tc' h' tk', k ≤ rs.length → (∀ j r, k ≤ j → rs[j]? = some r → x < r.tm) → (∀ r, 0 < k → rs[k - 1]? = some r → r.tm ≤ x) →
     Fr h₀ L h' m → News h₀ L h' ((ln, instObj 285 dl) :: (dl, dictOf (lineD w TT fo bl tl d sp mo tf cn' tc') 10) :: (tl, listOf us.toArray kt') :: (fx, instObj 200 dx) :: (dx, dictOf es n) :: news) →
     Trs ((fx, instObj 200 dx) :: (dx, dictOf es n) :: nt) us (rs.take k ++ ⟨x, no, en, oc⟩ :: rs.drop k) → (∀ p ∈ (ln, instObj 285 dl) :: (dl, dictOf (lineD w TT fo bl tl d sp mo tf cn' tc') 10) :: (tl, listOf us.toArray kt') :: news, p.1 < dx) → @LT.lt Nat _ dx fx →
     Q .none { s with heap := h', toks := tk' }) :
   wpAny (model PySem.Challenge.pw_nu0127_01 w) A (call (.ref 268) [.ref ln, .int x ta, .int en tb, .bytes oc.toArray td]) Q E s := by
  refine Cx.elim (P := fun A => wpAny _ A _ _ _ _) C fun dp un gd cnn cs fa ccd cl outer A₀ base mg mb mean loose B F X N T hk hdp hun => ?_
  have hlen := hr.len
  refine wpAny_call ?_
  have gdE4_16 : Unit := ()
  w_top off
  w_strict (
    (k_with "exec AugAssign Attribute" => (fail_if_success fail_if_success have := gdE4_16); ((fail_if_success (have := hGo)); refine keep_of ?_))
    (k_with "exec While BoolOp cons nil" => (fail_if_success fail_if_success have := gdE4_16); refine keep_of ?_)
    (k_with "call builtin:len" => (fail_if_success fail_if_success have := gdE4_16); ((with_reducible show wpAny _ _ (call (Value.builtin "len") [Value.ref tl]) _ _ _); k_dflt (refine' len_listN ?N ?m ?z ?_; (case N => k_asm); (case m => k_mem); (case z => lia)); intro _ _))
    (k_with "subscriptTail Name BinOp ref int" => (fail_if_success fail_if_success have := gdE4_16); ((obtain ⟨v0, r0, e1, e2, ⟨x0, d0, es0, n0, q1, q2, q3, rfl, m1, m2, g1, g2, g3⟩⟩ := hr.get (i := n - 1) (by lia)); (replace m1 := hs _ m1); (replace m2 := hs _ m2); k_dflt (refine' sub_list ?N ?m ?h0 ?hv ?hf ?_ ?hs; (case N => k_asm); (case m => k_mem); (case h0 => lia); (case hv => (rw [show ((n : Int) - 1).toNat = n - 1 by lia]; exact e1)); (case hf => lia); (case hs => with_unfolding_all rfl))))
    (k_with "call ref" => (fail_if_success fail_if_success have := gdE4_16); ((with_reducible show wpAny _ _ (call (Value.ref 200) _) _ _ _); k_dflt (refine' transit_call ?C ?_; (case C => k_extra "cx_now")); intro fx dx es en1 h1 tk1 F1 N1 fl1 fl2 fe1 fe2 fe3; (have fl1o := fl1); (try k_lt fl1); (try k_lt2 fl2)))
    (k_with "call builtin:list.insert" => (fail_if_success fail_if_success have := gdE4_16); (k_dflt (refine' kl_insert ?F ?N ?f ?e ?U ?z ?_; (case F => k_asm); (case N => k_asm); (case f => exact lfits (by lia)); (case e => exact rfl); (case U => k_upd); (case z => (show vs.length ≤ _; rw [PySem.sizeLine_eq]; lia))); intro h7 F7 N7))
    k_dflt (refine' code_def ?k1 ?k2 ?k3 ?k4 ?k5 ?kA ?kF ?kK ?k6 ?k7 ?k8 ?k9 ?kB ?_ ?c2 ?c3 ?c4 ?c5; (case kA => exact rfl); (case kF => exact rfl); (case kK => first | exact rfl | assumption); (case k1 => k_asm); (case k2 => k_asm); (case k3 => k_asm); (case k4 => k_asm); (case k5 => k_asm); (case k6 => k_is); (case k7 => k_is); (case k8 => ktr_room); (case k9 => first | exact BindsTo.of_eq rfl | exact binds_K (by k_in) rfl (by k_is) rfl rfl rfl); (case c5 => decide); (case kB => exact locs rfl); (case c2 => exact rfl); (case c3 => exact rfl); (case c4 => exact rfl); k_whole; intro gE L1 hE FGE FE NE BE XE TE; (try dsimp only); (try k_fold))
    k_steps
    unfold Keep
    refine wp_inc (w := w) (ln := ln) (dl := dl) (fo := fo) (bl := bl) (tl := tl) (TT := TT) (d := d) (sp := sp) (mo := mo) (tf := tf) (vs := vs) (kt := kt) (news := news) FE ?inc ?go
    case inc =>
      have hGo := True.intro
      k_steps
      rename News _ _ _ _ => N3
      rename Fr _ _ _ _ => F3
      exact ⟨_, _, fn4 _ _ _ _, fn4 _ _ _ _, rfl, rfl, F3, N3⟩
    clear FE NE
    intro h3 tk3 cn3 tc3 F3 N3
    have hGo := True.intro
    k_steps
    rename News _ _ _ _ => N3
    rename Fr _ _ _ _ => F3
    generalize hD : dictOf _ 10 = oD at N3
    unfold Keep
    refine wpAny_mono (Q := fun fl' s' => PutMid w s gE L1 ln dl tl oD vs kt news x en oc rs ta tb td fl' s') ?loop ?rest (fun _ _ e => e)
    case loop =>
      refine While_inv2 (n₀ := rs.length) (fun n m' nx => Keep (nx = (ln, instObj 285 dl) :: (dl, oD) :: (tl, listOf vs.toArray kt) :: news ∧ m' "self" = some (.ref ln) ∧ m' "time" = some (.int x ta) ∧ m' "end" = some (.int en tb) ∧ m' "octets" = some (.bytes oc.toArray td) ∧
        (∃ t, m' "place" = some (.int (n : Int) t)) ∧ n ≤ rs.length ∧ (∀ j r, n ≤ j → rs[j]? = some r → x < r.tm))) F3 N3 ?start ?turn (by first | passes_own | with_unfolding_all passes_own)
      case start => exact ⟨rfl, rfl, rfl, rfl, rfl, ⟨_, by rw [← hlen]; rfl⟩, Nat.le_refl _, fun j r hj hr => absurd (List.getElem?_eq_some_iff.mp hr).1 (by lia)⟩
      case turn =>
        clear F3 N3
        rintro n m' nx h tk F5 N5 ⟨rfl, v1, v2, v3, v4, ⟨tp, v5⟩, v6, v7⟩
        subst hD
        k_steps
        · rename News _ _ _ _ => N6
          rename Fr _ _ _ _ => F6
          refine ⟨_, _, _, _, n - 1, rfl, F6, N6, by lia, ⟨rfl, v1, v2, v3, v4, ⟨_, congrArg (fun z => some (Value.int z _)) (by lia)⟩, by lia, fun j r hj hr' => ?_⟩⟩
          rcases Nat.lt_or_ge j n with hlt | hge
          · obtain rfl : j = n - 1 := by lia
            rw [e2] at hr'
            rw [← Option.some.inj hr']
            assumption
          · exact v7 j r hge hr'
        · rename News _ _ _ _ => N6
          rename Fr _ _ _ _ => F6
          exact ⟨_, _, _, n, _, rfl, rfl, F6, N6, v1, v2, v3, v4, v5, v6, v7, fun r _ hr' => by
            rw [e2] at hr'
            rw [← Option.some.inj hr']
            lia⟩
        · rename News _ _ _ _ => N6
          rename Fr _ _ _ _ => F6
          exact ⟨_, _, _, n, _, rfl, rfl, F6, N6, v1, v2, v3, v4, v5, v6, v7, fun r h0 hr' => absurd h0 (by lia)⟩
    case rest =>
      clear F3 N3
      rintro fl' s' ⟨h, tk, m', n, tp, rfl, rfl, F5, N5, v1, v2, v3, v4, v5, v6, v7, v8⟩
      subst hD
      k_steps
      rename News _ _ _ _ => N6
      rename Fr _ _ _ _ => F6
      refine ret n fx dx es en1 _ _ (fn4 _ _ _ _) (fn4 _ _ _ _) h7 _ v6 v7 v8 F6 (nw_put N6) ?_ ?_ fl2
      · rw [kl_insN v6 hlen]
        exact put_trs hr fe1 fe2 fe3
      · exact put_lt fl1)
end
def InsT (rs : List R) (r : R) (rs' : List R) : Prop :=
  ∃ k, k ≤ rs.length ∧ (∀ j q, k ≤ j → rs[j]? = some q → r.tm < q.tm) ∧ (∀ q, 0 < k → rs[k - 1]? = some q → q.tm ≤ r.tm) ∧ rs' = rs.take k ++ r :: rs.drop k
theorem InsT.len {rs rs' : List R} {r : R} (h : InsT rs r rs') : rs'.length = rs.length + 1 := by
  obtain ⟨k, h1, _, _, rfl⟩ := h
  rw [List.length_append, List.length_cons, List.length_take, List.length_drop]
  lia
def InsAll : List R → Int → Nat → List (Int × List UInt8) → List R → Prop
  | rs, _, _, [], rs' => rs' = rs
  | rs, en, no, (t, o) :: l, rs' => ∃ mid, InsT rs ⟨t, no + 1, en, o⟩ mid ∧ InsAll mid en (no + 1) l rs'
/-- what comes of one sending -/
def metL (fate rest : Nat) (oc : List UInt8) (tm : Int) (sp : Nat) : List (Int × List UInt8) :=
  if fate = 4 then [] else if fate = 5 then [(tm, oc), (tm + (1 + ((rest % sp : Nat) : Int)), oc)] else if fate = 6 then [(tm + (1 + ((rest % sp : Nat) : Int)), oc)]
  else [(tm, if fate = 7 ∧ oc ≠ [] then turnB oc (rest % (8 * oc.length)) else oc)]
theorem metL_7e {rest : Nat} {tm : Int} {sp : Nat} : metL 7 rest [] tm sp = [(tm, [])] := by simp [metL]
theorem metL_7 {rest : Nat} {tm : Int} {sp : Nat} {oc : List UInt8} (h : oc ≠ []) : metL 7 rest oc tm sp = [(tm, turnB oc (rest % (8 * oc.length)))] := by simp [metL, h]
theorem metL_o {fate rest : Nat} {tm : Int} {sp : Nat} {oc : List UInt8} (h1 : fate ≠ 4) (h2 : fate ≠ 5) (h3 : fate ≠ 6) (h4 : fate ≠ 7) : metL fate rest oc tm sp = [(tm, oc)] := by simp [metL, h1, h2, h3, h4]
theorem ext_lt1 {ln dl tl dx fx : Addr} {o1 o2 o3 p1 p2 : Obj} {nw : List (Addr × Obj)} (h : ln < dx ∧ dl < dx ∧ tl < dx ∧ AllLt dx nw) (h2 : @LT.lt Nat _ dx fx) : ∀ q ∈ [(fx, p1), (dx, p2)], ∀ p ∈ (ln, o1) :: (dl, o2) :: (tl, o3) :: nw, p.1 < q.1 := fun q hq p hp => by
  have l := put_lt (o1 := o1) (o2 := o2) (o3 := o3) h p hp
  simp only [List.mem_cons, List.not_mem_nil, or_false] at hq
  rcases hq with rfl | rfl
  · exact Nat.lt_trans l h2
  · exact l
theorem ext_lt2 {ln dl tl dx fx dx2 fx2 : Addr} {o1 o2 o3 p1 p2 p3 p4 : Obj} {nw : List (Addr × Obj)} (h : ln < dx ∧ dl < dx ∧ tl < dx ∧ AllLt dx nw) (h2 : @LT.lt Nat _ dx fx)
    (k : ln < dx2 ∧ dl < dx2 ∧ tl < dx2 ∧ fx < dx2 ∧ dx < dx2 ∧ AllLt dx2 nw) (k2 : @LT.lt Nat _ dx2 fx2) : ∀ q ∈ [(fx2, p1), (dx2, p2), (fx, p3), (dx, p4)], ∀ p ∈ (ln, o1) :: (dl, o2) :: (tl, o3) :: nw, p.1 < q.1 := fun q hq p hp => by
  have l := put_lt (o1 := o1) (o2 := o2) (o3 := o3) h p hp
  have l2 := put_lt (o1 := o1) (o2 := o2) (o3 := o3) ⟨k.1, k.2.1, k.2.2.1, k.2.2.2.2.2⟩ p hp
  simp only [List.mem_cons, List.not_mem_nil, or_false] at hq
  rcases hq with rfl | rfl | rfl | rfl
  · exact Nat.lt_trans l2 k2
  · exact l2
  · exact Nat.lt_trans l h2
  · exact l
theorem fmodNN (a b : Nat) : (a : Int).fmod (b : Int) = ((a % b : Nat) : Int) := by
  rw [Int.fmod_eq_emod_of_nonneg _ (Int.natCast_nonneg _)]
  rfl
def octM (fate rest : Nat) (oc : List UInt8) : List UInt8 := if fate = 7 ∧ oc ≠ [] then turnB oc (rest % (8 * oc.length)) else oc
theorem octM_n {rest : Nat} {oc : List UInt8} {fate : Nat} (h : (fate : Int) ≠ 7) : oc = octM fate rest oc := (if_neg fun q => h (congrArg Int.ofNat q.1)).symm
theorem octM_e {rest : Nat} {oc : List UInt8} {fate : Nat} (h : oc = []) : oc = octM fate rest oc := (if_neg fun q => q.2 h).symm
theorem octM_t {rest : Nat} {oc : List UInt8} {fate : Nat} (h : (fate : Int) = 7) (h2 : oc ≠ []) : turnB oc (rest % (8 * oc.length)) = octM fate rest oc := (if_pos ⟨Int.ofNat.inj h, h2⟩).symm
theorem metM4 {rest sp : Nat} {oc : List UInt8} {x : Int} {fate : Nat} (h : (fate : Int) = 4) : metL fate rest oc x sp = [] := by
  obtain rfl : fate = 4 := Int.ofNat.inj h
  rfl
theorem octM_len (fate rest : Nat) (oc : List UInt8) : (octM fate rest oc).length = oc.length := by
  unfold octM
  split
  · rename _ ∧ _ => h
    have h1 := List.length_pos_iff.mpr h.2
    have h2 := Nat.mod_lt rest (show 0 < 8 * oc.length by lia)
    unfold turnB
    simp only [List.length_append, List.length_take, List.length_cons, List.length_drop]
    lia
  · rfl
theorem metC5 {rest sp : Nat} {oc o : List UInt8} {x y : Int} {fate : Nat} (h : (fate : Int) = 5) (e : o = octM fate rest oc) (ey : y = if fate = 6 then x + (1 + ((rest % sp : Nat) : Int)) else x) : metL fate rest oc x sp = [(y, o), (y + 1 + ((rest % sp : Nat) : Int), o)] := by
  have hf : fate = 5 := Int.ofNat.inj h
  have eo : o = oc := e.trans (if_neg fun q => by rw [hf] at q; exact absurd q.1 (by decide))
  have hy : y = x := ey.trans (if_neg fun q => by rw [hf] at q; exact absurd q (by decide))
  rw [eo, hy, hf, Int.add_assoc]
  rfl
theorem metCo {rest sp : Nat} {oc o : List UInt8} {x y : Int} {fate : Nat} (h4 : (fate : Int) ≠ 4) (h5 : (fate : Int) ≠ 5) (e : o = octM fate rest oc) (ey : y = if fate = 6 then x + (1 + ((rest % sp : Nat) : Int)) else x) : metL fate rest oc x sp = [(y, o)] := by
  subst e ey
  unfold metL
  rw [if_neg (fun q => h4 (congrArg Int.ofNat q)), if_neg (fun q => h5 (congrArg Int.ofNat q))]
  by_cases h6 : fate = 6
  · subst h6; rfl
  · rw [if_neg h6, if_neg h6]; rfl
inductive CarMid (w : World) (s : Shared) (gE : Heap) (L1 ln dl fo bl tl : Addr) (TT : Nat → Tok) (d mo : Int) (sp : Nat) (tf : Nat → Tok) (vs : List Value) (kt : Nat) (news : List (Addr × Obj)) (fate rest : Nat) (en : Int) (R : List UInt8 → Int → Prop) (fl : Flow) (s' : Shared) : Prop
  | mk (h : Heap) (tk : Nat) (m' : Str → Option Value) (o : List UInt8) (y : Int) (cn : Nat → Int) (tc : Nat → Tok) (t1 t2 t3 t4 t5 : Tok) (_ : fl = .next) (_ : s' = { s with heap := h, toks := tk }) (_ : Fr gE L1 h m')
     (_ : News gE L1 h ((ln, instObj 285 dl) :: (dl, dictOf (lineD w TT fo bl tl d sp mo tf cn tc) 10) :: (tl, listOf vs.toArray kt) :: news)) (_ : R o y)
     (_ : m' "self" = some (.ref ln)) (_ : m' "fate" = some (.int (fate : Nat) t1)) (_ : m' "rest" = some (.int (rest : Nat) t2)) (_ : m' "end" = some (.int en t3)) (_ : m' "octets" = some (.bytes o.toArray t4)) (_ : m' "time" = some (.int y t5)) : CarMid w s gE L1 ln dl fo bl tl TT d mo sp tf vs kt news fate rest en R fl s'
section
variable {w : World} {A : Around} {h₀ : Heap} {L : Addr} {m : Str → Option Value} {news : List (Addr × Obj)} {s : Shared} {Q E : Value → Shared → Prop}
theorem put_callI {nt : List (Addr × Obj)} {ln dl fo bl tl : Addr} {TT : Nat → Tok} {d sp mo : Int} {tf : Nat → Tok} {cn : Nat → Int} {tc : Nat → Tok} {vs : List Value} {rs : List R} {kt : Nat} {x en : Int} {oc : List UInt8} {ta tb td : Tok} (no : Nat)
   (C : Cx w A 12 120 h₀ L m ((ln, instObj 285 dl) :: (dl, dictOf (lineD w TT fo bl tl d sp mo tf cn tc) 10) :: (tl, listOf vs.toArray kt) :: news) s) (hs : ∀ p ∈ nt, p ∈ news) (hr : Trs nt vs rs) (hz : rs.length ≤ 100)
   (o1 : @LT.lt Nat _ dl ln) (o2 : @LT.lt Nat _ ln tl) (o3 : ∀ p ∈ news, p.1 ≠ dl) (o4 : ∀ p ∈ news, p.1 ≠ tl)
   (ret : ∀ rs' fx dx es n us kt' cn' tc' h' tk', InsT rs ⟨x, no, en, oc⟩ rs' → rs'.length = rs.length + 1 →
     Fr h₀ L h' m → News h₀ L h' ((ln, instObj 285 dl) :: (dl, dictOf (lineD w TT fo bl tl d sp mo tf cn' tc') 10) :: (tl, listOf us.toArray kt') :: (fx, instObj 200 dx) :: (dx, dictOf es n) :: news) →
     Trs ((fx, instObj 200 dx) :: (dx, dictOf es n) :: nt) us rs' → (∀ p ∈ (ln, instObj 285 dl) :: (dl, dictOf (lineD w TT fo bl tl d sp mo tf cn' tc') 10) :: (tl, listOf us.toArray kt') :: news, p.1 < dx) → @LT.lt Nat _ dx fx →
     Q .none { s with heap := h', toks := tk' }) :
   wpAny (model PySem.Challenge.pw_nu0127_01 w) A (call (.ref 268) [.ref ln, .int x ta, .int en tb, .bytes oc.toArray td]) Q E s :=
  put_call (no := no) C hs hr hz o1 o2 o3 o4 fun k fx dx es n us kt' cn' tc' h' tk' a1 a2 a3 F1 N1 t1 l1 l2 =>
    have I : InsT rs ⟨x, no, en, oc⟩ (rs.take k ++ ⟨x, no, en, oc⟩ :: rs.drop k) := ⟨k, a1, a2, a3, rfl⟩
    ret _ fx dx es n us kt' cn' tc' h' tk' I I.len F1 N1 t1 l1 l2
set_option maxHeartbeats 8000000 in
theorem carry_call {nt : List (Addr × Obj)} {ln dl fo bl tl : Addr} {TT : Nat → Tok} {d mo : Int} {sp : Nat} {tf : Nat → Tok} {cn : Nat → Int} {tc : Nat → Tok} {vs : List Value} {rs : List R} {kt : Nat} {fate rest : Nat} {x en : Int} {oc : List UInt8} {ta tb td tg th : Tok} (no : Nat)
   (C : Cx w A 16 160 h₀ L m ((ln, instObj 285 dl) :: (dl, dictOf (lineD w TT fo bl tl d sp mo tf cn tc) 10) :: (tl, listOf vs.toArray kt) :: news) s) (hs : ∀ p ∈ nt, p ∈ news) (hr : Trs nt vs rs) (hz : rs.length ≤ 90) (ho : oc.length ≤ 100) (hsp : 0 < sp)
   (o1 : @LT.lt Nat _ dl ln) (o2 : @LT.lt Nat _ ln tl) (o3 : ∀ p ∈ news, p.1 ≠ dl) (o4 : ∀ p ∈ news, p.1 ≠ tl)
   (ret : ∀ rs' ext us kt' cn' tc' h' tk', InsAll rs en no (metL fate rest oc x sp) rs' →
     Fr h₀ L h' m → News h₀ L h' ((ln, instObj 285 dl) :: (dl, dictOf (lineD w TT fo bl tl d sp mo tf cn' tc') 10) :: (tl, listOf us.toArray kt') :: (ext ++ news)) →
     Trs (ext ++ nt) us rs' → (∀ q ∈ ext, ∀ p ∈ (ln, instObj 285 dl) :: (dl, dictOf (lineD w TT fo bl tl d sp mo tf cn tc) 10) :: (tl, listOf vs.toArray kt) :: news, p.1 < q.1) →
     Q .none { s with heap := h', toks := tk' }) :
   wpAny (model PySem.Challenge.pw_nu0127_01 w) A (call (.ref 261) [.ref ln, .int fate ta, .int rest tb, .int en td, .bytes oc.toArray tg, .int x th]) Q E s := by
  refine Cx.elim (P := fun A => wpAny _ A _ _ _ _) C fun dp un gd cnn cs fa ccd cl outer A₀ base mg mb mean loose B F X N T hk hdp hun => ?_
  have hlen := hr.len
  refine wpAny_call ?_
  have gdE5_16 : Unit := ()
  w_top off
  w_strict (
    (k_with "exec If" => (fail_if_success fail_if_success have := gdE5_16); ((fail_if_success (have := hGo)); refine keep_of ?_))
    (k_with "call ref" => (fail_if_success fail_if_success have := gdE5_16); first
      | ((with_reducible show wpAny _ _ (call (Value.ref 268) _) _ _ _); have I1' := I1; k_dflt (refine' put_callI (cn := fn4 _ _ _ _) (tc := fn4 _ _ _ _) (no + 2) ?C ?hs ?hr ?hz ?o1 ?o2 ?o3 ?o4 ?_; (case C => k_extra "cx_now"); (case hr => assumption); (case hs => first | assumption | (intro p hp; rcases List.mem_cons.mp hp with rfl | hp; exact .head _; rcases List.mem_cons.mp hp with rfl | hp; exact .tail _ (.head _); exact .tail _ (.tail _ (hs _ hp)))); (case hz => lia); (case o1 => assumption); (case o2 => assumption); (case o3 => k_all); (case o4 => k_all)); intro rs2 fx2 dx2 es2 n2 us2 kt2 cn2 tc2 h2 tk2 I2 z2 F2 N2 t2 fk1 fk2; (try k_lt fk1); (try k_lt2 fk2))
      | ((with_reducible show wpAny _ _ (call (Value.ref 268) _) _ _ _); k_dflt (refine' put_callI (no + 1) ?C ?hs ?hr ?hz ?o1 ?o2 ?o3 ?o4 ?_; (case C => k_extra "cx_now"); (case hr => assumption); (case hs => assumption); (case hz => lia); (case o1 => assumption); (case o2 => assumption); (case o3 => assumption); (case o4 => assumption)); intro rs1 fx dx es1 n1 us1 kt1 cn1 tc1 h1 tk1 I1 z1 F1 N1 t1 fl1 fl2; (try k_lt fl1); (try k_lt2 fl2))
      | ((with_reducible show wpAny _ _ (call (Value.ref 296) _) _ _ _); (rename (_ > (0 : Int)) => hoc); (have hne : 0 < 8 * oc.length := by lia); (have hml := Nat.mod_lt rest hne); (have e8 : (rest : Int).fmod (8 * (oc.length : Int)) = ((rest % (8 * oc.length) : Nat) : Int) := fmodNN rest (8 * oc.length)); (rw [e8]); k_dflt (refine' bitturn_call ?C ?h ?k ?_; (case C => k_extra "cx_now"); (case h => lia); (case k => lia)); intro t1 h1 tk1 F1 N1))
    (k_with "div ne" => (fail_if_success fail_if_success have := gdE5_16); lia)
    (k_with "mod fix" => (fail_if_success fail_if_success have := gdE5_16); rw [fmodNN])
    k_dflt (refine' code_def ?k1 ?k2 ?k3 ?k4 ?k5 ?kA ?kF ?kK ?k6 ?k7 ?k8 ?k9 ?kB ?_ ?c2 ?c3 ?c4 ?c5; (case kA => exact rfl); (case kF => exact rfl); (case kK => first | exact rfl | assumption); (case k1 => k_asm); (case k2 => k_asm); (case k3 => k_asm); (case k4 => k_asm); (case k5 => k_asm); (case k6 => k_is); (case k7 => k_is); (case k8 => ktr_room); (case k9 => first | exact BindsTo.of_eq rfl | exact binds_K (by k_in) rfl (by k_is) rfl rfl rfl); (case c5 => decide); (case kB => exact locs rfl); (case c2 => exact rfl); (case c3 => exact rfl); (case c4 => exact rfl); k_whole; intro gE L1 hE FGE FE NE BE XE TE; (try dsimp only); (try k_fold))
    k_steps
    unfold Keep
    have hGo := True.intro
    walk1
    clear hGo
    k_steps
    · rename News _ _ _ _ => N6
      rename Fr _ _ _ _ => F6
      exact ret rs [] vs kt (fn4 _ _ _ _) (fn4 _ _ _ _) _ _ (by rw [metM4 (by assumption)]; rfl) F6 N6 hr (fun q hq => nomatch hq)
    unfold Keep
    rename _ ≠ (4 : Int) => h4
    refine wpAny_mono (Q := fun fl' s' => CarMid w s gE L1 ln dl fo bl tl TT d mo sp tf vs kt news fate rest en (fun o y => oc = o ∧ y = if fate = 6 then x + (1 + ((rest % sp : Nat) : Int)) else x) fl' s') ?m2 ?r2 (fun _ _ e => e)
    case m2 =>
      have hGo := True.intro
      k_steps
      · exact ⟨_, _, _, oc, _, cn, tc, _, _, _, _, _, rfl, rfl, by assumption, by assumption, ⟨rfl, (if_pos (Int.ofNat.inj (by assumption))).symm⟩, rfl, rfl, rfl, rfl, rfl, rfl⟩
      · rename _ ≠ (6 : Int) => h6
        exact ⟨_, _, _, oc, _, cn, tc, _, _, _, _, _, rfl, rfl, by assumption, by assumption, ⟨rfl, (if_neg fun q => h6 (congrArg Int.ofNat q)).symm⟩, rfl, rfl, rfl, rfl, rfl, rfl⟩
    case r2 =>
      rintro fl' s' ⟨h, tk, m', o, y, cn', tc', t1, t2, t3, t4, t5, rfl, rfl, F2, N2, ⟨rfl, ey⟩, v0, v1, v2, v3, v4, v5⟩
      k_steps
      unfold Keep
      refine wpAny_mono (Q := fun fl' s' => CarMid w s gE L1 ln dl fo bl tl TT d mo sp tf vs kt news fate rest en (fun o y' => o = octM fate rest oc ∧ y = y') fl' s') ?m3 ?r3 (fun _ _ e => e)
      case m3 =>
        have hGo := True.intro
        k_steps
        all_goals (rename Fr _ _ _ _ => Fz; rename News _ _ _ _ => Nz)
        · exact ⟨_, _, _, _, _, fn4 _ _ _ _, fn4 _ _ _ _, _, _, _, _, _, rfl, rfl, Fz, Nz, ⟨octM_t (by assumption) (List.length_pos_iff.mp (by lia)), rfl⟩, v0, v1, v2, v3, rfl, v5⟩
        · exact ⟨_, _, _, _, _, cn', tc', _, _, _, _, _, rfl, rfl, Fz, Nz, ⟨octM_e (List.eq_nil_of_length_eq_zero (by lia)), rfl⟩, v0, v1, v2, v3, v4, v5⟩
        · exact ⟨_, _, _, _, _, cn', tc', _, _, _, _, _, rfl, rfl, Fz, Nz, ⟨octM_n (by assumption), rfl⟩, v0, v1, v2, v3, v4, v5⟩
      case r3 =>
        clear F2 N2
        rintro fl' s' ⟨h, tk, m', o, y', cn', tc', t1, t2, t3, t4, t5, rfl, rfl, F2, N2, ⟨eo, rfl⟩, v0, v1, v2, v3, v4, v5⟩
        have hol : o.length ≤ 100 := by rw [eo, octM_len]; exact ho
        k_steps
        unfold Keep
        have hGo := True.intro
        k_steps
        all_goals (rename News _ _ _ _ => N6; rename Fr _ _ _ _ => F6)
        · exact ret rs2 [(fx2, _), (dx2, _), (fx, _), (dx, _)] us2 kt2 cn2 tc2 _ _ (by rw [metC5 (by assumption) eo ey]; exact ⟨rs1, I1, rs2, I2, rfl⟩) F6 N6 t2 (ext_lt2 fl1 fl2 fk1 fk2)
        · exact ret rs1 [(fx, _), (dx, _)] us1 kt1 cn1 tc1 _ _ (by rw [metCo h4 (by assumption) eo ey]; exact ⟨rs1, I1, rfl⟩) F6 N6 t1 (ext_lt1 fl1 fl2))
end
def badL (f : Nat) (b mo : Int) : Nat × Int := if f = 4 ∨ f = 7 then (if b + 1 ≤ mo then (f, b + 1) else (0, 0)) else (f, 0)
def natI (fs : List Nat) : List Int := fs.map fun n : Nat => (n : Int)
theorem natI_len (fs : List Nat) : (natI fs).length = fs.length := List.length_map ..
theorem natI_nil (fs : List Nat) : natI fs = [] ↔ fs = [] := List.map_eq_nil_iff
theorem natI_get (fs : List Nat) (x : Nat) : (natI fs).getD x 0 = ((fs.getD x 0 : Nat) : Int) := by
  simp only [natI, List.getD, List.getElem?_map]
  cases fs[x]? <;> rfl
theorem fdiv8 (n : Nat) : (n : Int).fdiv 8 = ((n / 8 : Nat) : Int) := by rw [fdivP (by decide)]; rfl
theorem fmod8 (n : Nat) : (n : Int).fmod 8 = ((n % 8 : Nat) : Int) := by rw [Int.fmod_eq_emod_of_nonneg _ (by decide)]; rfl
def nextN (fs : List Nat) (x : Nat) : Nat := if fs = [] then 0 else fs.getD x 0
def nextX (fs : List Nat) (x : Nat) : Nat := if fs = [] then x else (x + 1) % fs.length
section
variable {w : World} {A : Around} {h₀ : Heap} {L : Addr} {m : Str → Option Value} {nw : List (Addr × Obj)} {s : Shared} {Q E : Value → Shared → Prop}
theorem next_callF {fo df nl : Addr} {TT : Nat → Tok} {k : Nat} {x : Nat} {tx : Tok} {vs : List Value} {fs : List Nat} {g : Obj → List (Addr × Obj)} (C : Cx w A 8 80 h₀ L m nw s) (mo : (fo, instObj 228 df) ∈ nw) (mn : (nl, listOf vs.toArray k) ∈ nw)
   (U : UpdF df (dictOf (fatesD w TT nl x tx) 2) nw g) (hi : IntsAre vs (natI fs)) (hz : fs.length ≤ 100)
   (hx : fs ≠ [] → x < fs.length) (o1 : @LT.lt Nat _ df fo) (o2 : @LT.lt Nat _ fo nl)
   (ret : ∀ t tx' h' tk', Fr h₀ L h' m → News h₀ L h' (g (dictOf (fatesD w TT nl (nextX fs x) tx') 2)) → Q (.int (nextN fs x : Nat) t) { s with heap := h', toks := tk' }) :
   wpAny (model PySem.Challenge.pw_nu0127_01 w) A (call (.ref 225) [.ref fo]) Q E s := by
  obtain ⟨own, rest, rfl, hg, h1, h2⟩ := U.split
  refine next_call (k := k) (TT := TT) (tx := tx) (news := own ++ rest) (C.led fun p hp => ?_) hi (by rw [natI_len]; exact hz) (fun h => by rw [natI_len]; exact hx fun q => h ((natI_nil fs).mpr q)) o1 o2 (fun p hp => ?_) fun t tx' h' tk' F' N' => ?_
  · simp only [List.mem_cons] at hp
    rcases hp with rfl | rfl | rfl | hp
    · exact mo
    · exact List.mem_append_right _ (.head _)
    · exact mn
    · exact (List.mem_append.mp hp).elim (List.mem_append_left _) fun q => List.mem_append_right _ (.tail _ q)
  · exact (List.mem_append.mp hp).elim (h1 p) (h2 p)
  · have e1 : (if natI fs = [] then (x : Int) else (((x + 1) % (natI fs).length : Nat) : Int)) = ((nextX fs x : Nat) : Int) := by
      unfold nextX
      by_cases q : fs = []
      · rw [if_pos q, if_pos ((natI_nil fs).mpr q)]
      · rw [if_neg q, if_neg (fun h => q ((natI_nil fs).mp h)), natI_len]
    have e2 : (if natI fs = [] then (0 : Int) else (natI fs).getD x 0) = ((nextN fs x : Nat) : Int) := by
      unfold nextN
      by_cases q : fs = []
      · rw [if_pos q, if_pos ((natI_nil fs).mpr q)]; rfl
      · rw [if_neg q, if_neg (fun h => q ((natI_nil fs).mp h)), natI_get]
    rw [e2]
    rw [e1] at N'
    refine ret t tx' h' tk' F' ?_
    rw [hg]
    refine cb_drop N' fun p hp => ?_
    rcases List.mem_append.mp hp with hp | hp
    · exact .tail _ (.tail _ (.tail _ (List.mem_append_left _ hp)))
    · rcases List.mem_cons.mp hp with rfl | hp
      · exact .tail _ (.head _)
      · exact .tail _ (.tail _ (.tail _ (List.mem_append_right _ hp)))
end
section
variable {w : World} {A : Around} {h₀ : Heap} {L : Addr} {m : Str → Option Value} {news : List (Addr × Obj)} {s : Shared} {Q E : Value → Shared → Prop}
theorem badA {f : Nat} {b mo : Int} (h : f = 4 ∨ f = 7) (h2 : ¬ b + 1 ≤ mo) : badL f b mo = (0, 0) := by unfold badL; rw [if_pos h, if_neg h2]
theorem badB {f : Nat} {b mo : Int} (h : f = 4 ∨ f = 7) (h2 : b + 1 ≤ mo) : badL f b mo = (f, b + 1) := by unfold badL; rw [if_pos h, if_pos h2]
theorem badC {f : Nat} {b mo : Int} (h : ¬ (f = 4 ∨ f = 7)) : badL f b mo = (f, 0) := by unfold badL; rw [if_neg h]
theorem nw_send {h₀ h : Heap} {L : Addr} {a b c d e f g : Addr × Obj} {x r : List (Addr × Obj)} (N : News h₀ L h (a :: b :: c :: (x ++ d :: e :: f :: g :: r))) : News h₀ L h (a :: b :: c :: d :: e :: f :: g :: (x ++ r)) := cb_drop N fun p hp => by
  simp only [List.mem_cons, List.mem_append] at hp ⊢
  rcases hp with h | h | h | h | h | h | h | h | h <;> simp only [h, true_or, or_true]
def bad1 (f : Nat) (b mo : Int) : Nat × Int := if f = 4 ∨ f = 7 then (if b + 1 ≤ mo then (f, b + 1) else (0, b + 1)) else (f, b)
theorem bad1A {f : Nat} {b mo : Int} (h : (f : Int) = 4 ∨ (f : Int) = 7) (h2 : mo < b + 1) : bad1 f b mo = (0, b + 1) := by unfold bad1; rw [if_pos (by lia), if_neg (by lia)]
theorem bad1B {f : Nat} {b mo : Int} (h : (f : Int) = 4 ∨ (f : Int) = 7) (h2 : ¬ mo < b + 1) : bad1 f b mo = (f, b + 1) := by unfold bad1; rw [if_pos (by lia), if_pos (by lia)]
theorem bad1C {f : Nat} {b mo : Int} (h : ¬ (f : Int) = 4 ∧ ¬ (f : Int) = 7) : bad1 f b mo = (f, b) := by unfold bad1; rw [if_neg (by lia)]
theorem bad2A {f g : Nat} {b c mo : Int} (h : (g, c) = bad1 f b mo) (k : (g : Int) = 4 ∨ (g : Int) = 7) : (g, c) = badL f b mo := by
  unfold bad1 at h
  unfold badL
  split at h
  · rename f = 4 ∨ f = 7 => q
    rw [if_pos q]
    split at h
    · rename b + 1 ≤ mo => r
      rw [if_pos r]; exact h
    · have := congrArg Prod.fst h
      have e : g = 0 := this
      lia
  · have := congrArg Prod.fst h
    have e : g = f := this
    lia
theorem bad2B {f g : Nat} {b c mo : Int} (h : (g, c) = bad1 f b mo) (k : ¬ (g : Int) = 4 ∧ ¬ (g : Int) = 7) : (g, (0 : Int)) = badL f b mo := by
  unfold bad1 at h
  unfold badL
  split at h
  · rename f = 4 ∨ f = 7 => q
    rw [if_pos q]
    split at h
    · have := congrArg Prod.fst h
      have e : g = f := this
      lia
    · rename ¬ b + 1 ≤ mo => r
      have := congrArg Prod.fst h
      have e : g = 0 := this
      rw [if_neg r, e]
  · rename ¬ (f = 4 ∨ f = 7) => q
    have := congrArg Prod.fst h
    have e : g = f := this
    rw [if_neg q, e]
theorem any47 {z : Int} (h : ([4, 7].any fun x => x == z) = true) : z = 4 ∨ z = 7 := by
  simp only [List.any_cons, List.any_nil, Bool.or_false, Bool.or_eq_true, beq_iff_eq] at h
  lia
theorem nany47 {z : Int} (h : ([4, 7].any fun x => x == z) = false) : ¬ z = 4 ∧ ¬ z = 7 := by
  simp only [List.any_cons, List.any_nil, Bool.or_false, Bool.or_eq_false_iff, beq_eq_false_iff_ne, ne_eq] at h
  lia
structure HoldF (P : Prop) : Prop where
  h : P
theorem wp_cutF {M : Model} {A : Around} {E : Value → Shared → Prop} {h₀ : Heap} {L : Addr} {m : Str → Option Value} {news : List (Addr × Obj)} {s : Shared} {x : Sem Flow} {Q : Flow → Shared → Prop} (_ : Fr h₀ L s.heap m) (_ : News h₀ L s.heap news)
    (one : wpAny M A x (fun v s' => HoldF (v = .next ∧ ∃ h tk, s' = { s with heap := h, toks := tk } ∧ Fr h₀ L h m ∧ News h₀ L h news)) E s) (two : ∀ h tk, Fr h₀ L h m → News h₀ L h news → Q .next { s with heap := h, toks := tk }) : wpAny M A x Q E s :=
  wpAny_mono one (fun v s' ⟨⟨hv, h, tk, e, F, N⟩⟩ => by subst hv e; exact two h tk F N) fun _ _ e => e
inductive SndMid (w : World) (s : Shared) (gE : Heap) (L1 ln dl fo df nl bl tl : Addr) (TT T2 : Nat → Tok) (d mo : Int) (sp : Nat) (tf : Nat → Tok) (cn : Nat → Int) (tc : Nat → Tok) (vs us : List Value) (kt kn : Nat) (X : Nat) (tx : Tok) (news : List (Addr × Obj)) (en nowv : Int) (oc : List UInt8) (rest : Nat) (R : Nat → Int → Int → Prop) (fl : Flow) (s' : Shared) : Prop
  | mk (h : Heap) (tk : Nat) (m' : Str → Option Value) (f : Nat) (c0 c1 : Int) (u0 u1 : Tok) (kb : Nat) (t1 t2 t3 t4 t5 : Tok) (_ : fl = .next) (_ : s' = { s with heap := h, toks := tk }) (_ : Fr gE L1 h m')
     (_ : News gE L1 h ((ln, instObj 285 dl) :: (dl, dictOf (lineD w TT fo bl tl d sp mo tf cn tc) 10) :: (tl, listOf vs.toArray kt) :: (fo, instObj 228 df) :: (df, dictOf (fatesD w T2 nl X tx) 2) :: (nl, listOf us.toArray kn) :: (bl, listOf #[.int c0 u0, .int c1 u1] kb) :: news)) (_ : R f c0 c1)
     (_ : m' "self" = some (.ref ln)) (_ : m' "end" = some (.int en t1)) (_ : m' "octets" = some (.bytes oc.toArray t2)) (_ : m' "now" = some (.int nowv t3)) (_ : m' "fate" = some (.int (f : Nat) t4)) (_ : m' "rest" = some (.int (rest : Nat) t5)) : SndMid w s gE L1 ln dl fo df nl bl tl TT T2 d mo sp tf cn tc vs us kt kn X tx news en nowv oc rest R fl s'
set_option maxHeartbeats 8000000 in
theorem send_call {nt : List (Addr × Obj)} {ln dl fo df nl bl tl : Addr} {TT T2 : Nat → Tok} {d mo b0 b1 : Int} {sp : Nat} {tf : Nat → Tok} {cn : Nat → Int} {tc : Nat → Tok} {vs us : List Value} {rs : List R} {kt kn kb : Nat} {fs : List Nat} {x : Nat} {tx : Tok} {nowv en : Int} {oc : List UInt8} {ta tb td t0 t1 : Tok} (no : Nat)
   (C : Cx w A 24 240 h₀ L m ((ln, instObj 285 dl) :: (dl, dictOf (lineD w TT fo bl tl d sp mo tf cn tc) 10) :: (tl, listOf vs.toArray kt) :: (fo, instObj 228 df) :: (df, dictOf (fatesD w T2 nl x tx) 2) :: (nl, listOf us.toArray kn) :: (bl, listOf #[.int b0 t0, .int b1 t1] kb) :: news) s)
   (hs : ∀ p ∈ nt, p ∈ news) (hr : Trs nt vs rs) (hz : rs.length ≤ 90) (ho : oc.length ≤ 100) (hsp : 0 < sp) (hi : IntsAre us (natI fs)) (hf : fs.length ≤ 100) (hx : fs ≠ [] → x < fs.length) (hen : en = 0 ∨ en = 1) (hb0 : 0 ≤ b0) (hb1 : 0 ≤ b1)
   (o1 : @LT.lt Nat _ dl ln) (o2 : @LT.lt Nat _ ln df) (o3 : @LT.lt Nat _ df fo) (o4 : @LT.lt Nat _ fo nl) (o5 : @LT.lt Nat _ nl bl) (o6 : @LT.lt Nat _ bl tl) (p1 : ∀ p ∈ news, p.1 ≠ dl) (p2 : ∀ p ∈ news, p.1 ≠ df) (p3 : ∀ p ∈ news, p.1 ≠ bl) (p4 : ∀ p ∈ news, p.1 ≠ tl)
   (ret : ∀ rs' ext us' kt' cn' tc' c0 c1 u0 u1 kb' tx' h' tk', InsAll rs (1 - en) no (metL (badL (nextN fs x % 8) (if en = 0 then b0 else b1) mo).1 (nextN fs x / 8) oc (nowv + d) sp) rs' →
     c0 = (if en = 0 then (badL (nextN fs x % 8) b0 mo).2 else b0) → c1 = (if en = 0 then b1 else (badL (nextN fs x % 8) b1 mo).2) →
     Fr h₀ L h' m → News h₀ L h' ((ln, instObj 285 dl) :: (dl, dictOf (lineD w TT fo bl tl d sp mo tf cn' tc') 10) :: (tl, listOf us'.toArray kt') :: (fo, instObj 228 df) :: (df, dictOf (fatesD w T2 nl (nextX fs x) tx') 2) :: (nl, listOf us.toArray kn) :: (bl, listOf #[.int c0 u0, .int c1 u1] kb') :: (ext ++ news)) →
     Trs (ext ++ nt) us' rs' → (∀ q ∈ ext, ∀ p ∈ (tl, listOf vs.toArray kt) :: news, p.1 < q.1) →
     Q .none { s with heap := h', toks := tk' }) :
   wpAny (model PySem.Challenge.pw_nu0127_01 w) A (call (.ref 254) [.ref ln, .int en ta, .bytes oc.toArray tb, .int nowv td]) Q E s := by
  refine Cx.elim (P := fun A => wpAny _ A _ _ _ _) C fun dp un gd cnn cs fa ccd cl outer A₀ base mg mb mean loose B F X N T hk hdp hun => ?_
  have hlen := hr.len
  refine wpAny_call ?_
  have gdE6_19 : Unit := ()
  w_top off
  w_strict (
    (k_with "call ref" => (fail_if_success fail_if_success have := gdE6_19); first
      | ((try dsimp only); (with_reducible show wpAny _ _ (call (Value.ref 225) _) _ _ _); (try dsimp only [List.append, List.cons_append, List.nil_append]); k_dflt (refine' next_callF ?C ?mo ?mn ?U ?hi ?hz ?hx ?o1 ?o2 ?_; (case C => k_extra "cx_now"); (case mo => k_mem); (case U => k_updF); (case mn => k_mem); (case hi => assumption); (case hz => assumption); (case hx => assumption); (case o1 => assumption); (case o2 => assumption)); intro tn txn h1 tk1 F1 N1; (have hNm := Nat.mod_lt (nextN fs x) (show 0 < 8 by decide)); (generalize nextN fs x = NN at hNm ret ⊢))
      | ((with_reducible show wpAny _ _ (call (Value.ref 261) _) _ _ _); refine keep_of ?_))
    (k_with "exec If" => (fail_if_success fail_if_success have := gdE6_19); ((fail_if_success (have := hGo)); refine keep_of ?_))
    (k_with "div ne" => (fail_if_success fail_if_success have := gdE6_19); lia)
    (k_with "div fix" => (fail_if_success fail_if_success have := gdE6_19); rw [fdiv8])
    (k_with "mod fix" => (fail_if_success fail_if_success have := gdE6_19); rw [fmod8])
    k_dflt (refine' code_def ?k1 ?k2 ?k3 ?k4 ?k5 ?kA ?kF ?kK ?k6 ?k7 ?k8 ?k9 ?kB ?_ ?c2 ?c3 ?c4 ?c5; (case kA => exact rfl); (case kF => exact rfl); (case kK => first | exact rfl | assumption); (case k1 => k_asm); (case k2 => k_asm); (case k3 => k_asm); (case k4 => k_asm); (case k5 => k_asm); (case k6 => k_is); (case k7 => k_is); (case k8 => ktr_room); (case k9 => first | exact BindsTo.of_eq rfl | exact binds_K (by k_in) rfl (by k_is) rfl rfl rfl); (case c5 => decide); (case kB => exact locs rfl); (case c2 => exact rfl); (case c3 => exact rfl); (case c4 => exact rfl); k_whole; intro gE L1 hE FGE FE NE BE XE TE; (try dsimp only); (try k_fold))
    k_steps
    unfold Keep
    refine wp_cutF FE NE ?if0 ?go0
    case if0 =>
      have hGo := True.intro
      rcases hen with rfl | rfl
      all_goals k_steps
      all_goals (rename Fr _ _ _ _ => Fz; rename News _ _ _ _ => Nz; exact ⟨⟨rfl, _, _, rfl, Fz, cb_drop Nz (fun p hp => .tail _ hp)⟩⟩)
    case go0 =>
      intro h0 tk0 F0 N0
      clear FE NE
      k_steps
      unfold Keep
      refine wpAny_mono (Q := fun fl' s' => SndMid w s gE L1 ln dl fo df nl bl tl TT T2 d mo sp tf cn tc vs us kt kn (nextX fs x) txn news en nowv oc (NN / 8) (fun f c0 c1 => (en = 0 → (f, c0) = bad1 (NN % 8) b0 mo ∧ c1 = b1) ∧ (en = 1 → (f, c1) = bad1 (NN % 8) b1 mo ∧ c0 = b0)) fl' s') ?m1 ?r1 (fun _ _ e => e)
      case m1 =>
        have hGo := True.intro
        rcases hen with rfl | rfl
        all_goals k_steps
        all_goals (rename Fr _ _ _ _ => Fz; rename News _ _ _ _ => Nz)
        · rename (List.any _ _ = true) => hq
          rename mo < _ => hmo
          exact ⟨_, _, _, 0, b0 + 1, b1, _, _, _, _, _, _, _, _, rfl, rfl, Fz, cb_drop Nz (fun p hp => .tail _ hp), ⟨fun _ => ⟨(bad1A (any47 hq) hmo).symm, rfl⟩, fun h => absurd h (by decide)⟩, rfl, rfl, rfl, rfl, rfl, rfl⟩
        · rename (List.any _ _ = true) => hq
          rename ¬ mo < _ => hmo
          exact ⟨_, _, _, _, b0 + 1, b1, _, _, _, _, _, _, _, _, rfl, rfl, Fz, cb_drop Nz (fun p hp => .tail _ hp), ⟨fun _ => ⟨(bad1B (any47 hq) hmo).symm, rfl⟩, fun h => absurd h (by decide)⟩, rfl, rfl, rfl, rfl, rfl, rfl⟩
        · rename (List.any _ _ = false) => hq
          exact ⟨_, _, _, _, b0, b1, _, _, _, _, _, _, _, _, rfl, rfl, Fz, cb_drop Nz (fun p hp => .tail _ hp), ⟨fun _ => ⟨(bad1C (nany47 hq)).symm, rfl⟩, fun h => absurd h (by decide)⟩, rfl, rfl, rfl, rfl, rfl, rfl⟩
        · rename (List.any _ _ = true) => hq
          rename mo < _ => hmo
          exact ⟨_, _, _, 0, b0, b1 + 1, _, _, _, _, _, _, _, _, rfl, rfl, Fz, cb_drop Nz (fun p hp => .tail _ hp), ⟨fun h => absurd h (by decide), fun _ => ⟨(bad1A (any47 hq) hmo).symm, rfl⟩⟩, rfl, rfl, rfl, rfl, rfl, rfl⟩
        · rename (List.any _ _ = true) => hq
          rename ¬ mo < _ => hmo
          exact ⟨_, _, _, _, b0, b1 + 1, _, _, _, _, _, _, _, _, rfl, rfl, Fz, cb_drop Nz (fun p hp => .tail _ hp), ⟨fun h => absurd h (by decide), fun _ => ⟨(bad1B (any47 hq) hmo).symm, rfl⟩⟩, rfl, rfl, rfl, rfl, rfl, rfl⟩
        · rename (List.any _ _ = false) => hq
          exact ⟨_, _, _, _, b0, b1, _, _, _, _, _, _, _, _, rfl, rfl, Fz, cb_drop Nz (fun p hp => .tail _ hp), ⟨fun h => absurd h (by decide), fun _ => ⟨(bad1C (nany47 hq)).symm, rfl⟩⟩, rfl, rfl, rfl, rfl, rfl, rfl⟩
      case r1 =>
        rintro fl' s' ⟨h, tk, m', f, c0, c1, u0, u1, kb', t1, t2, t3, t4, t5, rfl, rfl, F2, N2, R1, v0, v1, v2, v3, v4, v5⟩
        k_steps
        unfold Keep
        refine wpAny_mono (Q := fun fl' s' => SndMid w s gE L1 ln dl fo df nl bl tl TT T2 d mo sp tf cn tc vs us kt kn (nextX fs x) txn news en nowv oc (NN / 8) (fun g e0 e1 => g = (badL (NN % 8) (if en = 0 then b0 else b1) mo).1 ∧ e0 = (if en = 0 then (badL (NN % 8) b0 mo).2 else b0) ∧ e1 = (if en = 0 then b1 else (badL (NN % 8) b1 mo).2)) fl' s') ?m2 ?r2 (fun _ _ e => e)
        case m2 =>
          have hGo := True.intro
          rcases hen with rfl | rfl
          all_goals k_steps
          all_goals (rename Fr _ _ _ _ => Fz; rename News _ _ _ _ => Nz)
          · rename (List.any _ _ = true) => hq
            have e := bad2A (R1.1 rfl).1 (any47 hq)
            exact ⟨_, _, _, f, _, _, _, _, _, _, _, _, _, _, rfl, rfl, Fz, cb_drop Nz (fun p hp => .tail _ hp), ⟨by first | (rw [if_pos rfl]; exact congrArg Prod.fst e) | (rw [if_pos trivial]; exact congrArg Prod.fst e), by first | (rw [if_pos rfl]; exact congrArg Prod.snd e) | (rw [if_pos trivial]; exact congrArg Prod.snd e), by first | (rw [if_pos rfl]; exact (R1.1 rfl).2) | (rw [if_pos trivial]; exact (R1.1 rfl).2)⟩, v0, v1, v2, v3, v4, v5⟩
          · rename (List.any _ _ = false) => hq
            have e := bad2B (R1.1 rfl).1 (nany47 hq)
            exact ⟨_, _, _, f, 0, _, _, _, _, _, _, _, _, _, rfl, rfl, Fz, cb_drop Nz (fun p hp => .tail _ hp), ⟨by first | (rw [if_pos rfl]; exact congrArg Prod.fst e) | (rw [if_pos trivial]; exact congrArg Prod.fst e), by first | (rw [if_pos rfl]; exact congrArg Prod.snd e) | (rw [if_pos trivial]; exact congrArg Prod.snd e), by first | (rw [if_pos rfl]; exact (R1.1 rfl).2) | (rw [if_pos trivial]; exact (R1.1 rfl).2)⟩, v0, v1, v2, v3, v4, v5⟩
          · rename (List.any _ _ = true) => hq
            have e := bad2A (R1.2 rfl).1 (any47 hq)
            exact ⟨_, _, _, f, _, _, _, _, _, _, _, _, _, _, rfl, rfl, Fz, cb_drop Nz (fun p hp => .tail _ hp), ⟨by first | (rw [if_neg (show ¬ (1 : Int) = 0 by decide)]; exact congrArg Prod.fst e) | (rw [if_neg not_false]; exact congrArg Prod.fst e), by first | (rw [if_neg (show ¬ (1 : Int) = 0 by decide)]; exact (R1.2 rfl).2) | (rw [if_neg not_false]; exact (R1.2 rfl).2), by first | (rw [if_neg (show ¬ (1 : Int) = 0 by decide)]; exact congrArg Prod.snd e) | (rw [if_neg not_false]; exact congrArg Prod.snd e)⟩, v0, v1, v2, v3, v4, v5⟩
          · rename (List.any _ _ = false) => hq
            have e := bad2B (R1.2 rfl).1 (nany47 hq)
            exact ⟨_, _, _, f, _, 0, _, _, _, _, _, _, _, _, rfl, rfl, Fz, cb_drop Nz (fun p hp => .tail _ hp), ⟨by first | (rw [if_neg (show ¬ (1 : Int) = 0 by decide)]; exact congrArg Prod.fst e) | (rw [if_neg not_false]; exact congrArg Prod.fst e), by first | (rw [if_neg (show ¬ (1 : Int) = 0 by decide)]; exact (R1.2 rfl).2) | (rw [if_neg not_false]; exact (R1.2 rfl).2), by first | (rw [if_neg (show ¬ (1 : Int) = 0 by decide)]; exact congrArg Prod.snd e) | (rw [if_neg not_false]; exact congrArg Prod.snd e)⟩, v0, v1, v2, v3, v4, v5⟩
        case r2 =>
          clear F2 N2
          rintro fl' s' ⟨h, tk, m', f, c0, c1, u0, u1, kb', t1, t2, t3, t4, t5, rfl, rfl, F2, N2, ⟨ef, ec0, ec1⟩, v0, v1, v2, v3, v4, v5⟩
          k_steps
          unfold Keep
          refine' carry_call (nt := nt) no ?C ?hs ?hr ?hz ?ho ?hsp ?o1 ?o2 ?o3 ?o4 ?_
          case C => k_extra "cx_now"
          case hs => exact fun p hp => .tail _ (.tail _ (.tail _ (.tail _ (hs p hp))))
          case hr => exact hr
          case hz => exact hz
          case ho => exact ho
          case hsp => exact hsp
          case o1 => exact o1
          case o2 => exact Nat.lt_trans o2 (Nat.lt_trans o3 (Nat.lt_trans o4 (Nat.lt_trans o5 o6)))
          case o3 => k_all
          case o4 => k_all
          intro rs9 ext us9 kt9 cn9 tc9 h9 tk9 I9 F9 N9 t9 x9
          k_steps
          rename News h₀ _ _ _ => N8
          rename Fr h₀ _ _ m => F8
          exact ret rs9 ext us9 kt9 cn9 tc9 c0 c1 _ _ _ txn _ _ (by rw [← ef]; exact I9) ec0 ec1 F8 (nw_send N8) t9 (fun q hq p hp => x9 q hq p (by
            rcases List.mem_cons.mp hp with rfl | hp
            · exact .tail _ (.tail _ (.head _))
            · exact .tail _ (.tail _ (.tail _ (.tail _ (.tail _ (.tail _ (.tail _ hp)))))))))
end
inductive All2 {α β : Type} (P : α → β → Prop) : List α → List β → Prop
  | nil : All2 P [] []
  | cons {a b as bs} : P a b → All2 P as bs → All2 P (a :: as) (b :: bs)
theorem All2.len {α β : Type} {P : α → β → Prop} : ∀ {as bs}, All2 P as bs → as.length = bs.length
  | _, _, .nil => rfl
  | _, _, .cons _ h => by rw [List.length_cons, List.length_cons, h.len]
theorem All2.mono {α β : Type} {P Q : α → β → Prop} (k : ∀ a b, P a b → Q a b) : ∀ {as bs}, All2 P as bs → All2 Q as bs
  | _, _, .nil => .nil
  | _, _, .cons a h => .cons (k _ _ a) (h.mono k)
theorem All2.app {α β : Type} {P : α → β → Prop} : ∀ {as bs cs ds}, All2 P as bs → All2 P cs ds → All2 P (as ++ cs) (bs ++ ds)
  | _, _, _, _, .nil, g => g
  | _, _, _, _, .cons a h, g => .cons a (h.app g)
theorem All2.get {α β : Type} {P : α → β → Prop} : ∀ {as bs} (_ : All2 P as bs) {i : Nat}, i < bs.length → ∃ a b, as[i]? = some a ∧ bs[i]? = some b ∧ P a b
  | _, _, .nil, i, hi => by simp at hi
  | _, _, .cons a _, 0, _ => ⟨_, _, rfl, rfl, a⟩
  | _, _, .cons _ h, i + 1, hi => by
    obtain ⟨v, r, e1, e2, e3⟩ := h.get (i := i) (by simpa using hi)
    exact ⟨v, r, by simpa using e1, by simpa using e2, e3⟩
abbrev tupO (vs : List Value) : Obj := { cls := .type "tuple", data := .seq vs.toArray }
def TupAt (nw : List (Addr × Obj)) (v : Value) (r : R) : Prop := ∃ x t1 t2, v = .ref x ∧ (x, tupO [.int r.en t1, .bytes r.oc.toArray t2]) ∈ nw
theorem TupAt.mono {nw nw' : List (Addr × Obj)} {v r} (h : TupAt nw v r) (k : ∀ p ∈ nw, p ∈ nw') : TupAt nw' v r := by
  obtain ⟨x, t1, t2, e, h1⟩ := h
  exact ⟨x, t1, t2, e, k _ h1⟩
section
variable {prog : Program} {w : World} {A : Around} {h₀ : Heap} {L : Addr} {m : Str → Option Value} {news : List (Addr × Obj)} {s : Shared} {Q E : Value → Shared → Prop}
theorem nw_4 {h : Heap} {a b c d : Addr × Obj} {r : List (Addr × Obj)} (N : News h₀ L h (a :: b :: c :: d :: r)) : News h₀ L h (b :: c :: d :: a :: r) := cb_drop N fun p hp => by
  simp only [List.mem_cons] at hp ⊢
  rcases hp with h | h | h | h | h <;> simp only [h, true_or, or_true]
theorem nw_5 {h : Heap} {a b c d e : Addr × Obj} {x r : List (Addr × Obj)} (N : News h₀ L h (a :: b :: c :: d :: e :: (x ++ r))) : News h₀ L h (b :: c :: d :: e :: ((a :: x) ++ r)) := cb_drop N fun p hp => by
  simp only [List.mem_cons, List.mem_append, List.cons_append] at hp ⊢
  rcases hp with h | h | h | h | h | h | h <;> simp only [h, true_or, or_true]
theorem updF_upd {d : Addr} {o : Obj} (o' : Obj) : ∀ {l : List (Addr × Obj)} {g : Obj → List (Addr × Obj)}, UpdF d o l g → Upd d o o' l (g o')
  | _, _, .head h => .head h
  | _, _, .tail h r => .tail h (updF_upd o' r)
theorem pop0 {D : Addr} {v : Value} {vs : List Value} {n : Nat} {u : Tok} {g : Obj → List (Addr × Obj)} (F : Fr h₀ L s.heap m) (N : News h₀ L s.heap news) (U : UpdF D (listOf (List.toArray (v :: vs)) n) news g) (hz : vs.length ≤ 1000)
    (h : ∀ h', Fr h₀ L h' m → News h₀ L h' (g (listOf vs.toArray (n + 1))) → Q v { s with heap := h' }) : wpAny (model prog w) A (call (.builtin "list.pop") [.ref D, .int 0 u]) Q E s :=
  kl_popAt (its := List.toArray (v :: vs)) (k := 0) (p := []) (q := vs) F N rfl (seqIndex_of (k := 0) (by decide) (by rw [List.size_toArray, List.length_cons]; lia)) rfl (updF_upd _ U) (by show (v :: vs).length ≤ _; rw [PySem.sizeLine_eq, List.length_cons]; lia) h
theorem eq_nil {D b : Addr} {vs : List Value} {n k : Nat} (N : News h₀ L s.heap news) (h1 : (D, listOf vs.toArray n) ∈ news) (h2 : (b, listOf #[] k) ∈ news) (hu : A.units < cLine) (h : Q (.bool vs.isEmpty) s) :
    wpAny (model prog w) A (compareOp .Eq (.ref D) (.ref b)) Q E s := by
  have l1 : s.heap.IsList D vs.toArray := PySem.IsL.isList (n := n) (N _ h1).1
  have l2 : s.heap.IsList b #[] := PySem.IsL.isList (n := k) (N _ h2).1
  cases vs with
  | nil => exact SeqAt.RcAt.lists (e := fun _ => true) l1 l2 rfl hu (fun j h1 _ => absurd h1 (Nat.not_lt_zero _)) prog w E Q h
  | cons v r => exact SeqAt.RcAt.lists_lengths l1 l2 (by simp) hu prog w E Q h
end
section
variable {w : World} {A : Around} {h₀ : Heap} {L : Addr} {m : Str → Option Value} {news : List (Addr × Obj)} {s : Shared} {Q E : Value → Shared → Prop}
set_option maxHeartbeats 8000000 in
theorem time_call {nt : List (Addr × Obj)} {ln dl fo bl tl : Addr} {TT : Nat → Tok} {d sp mo : Int} {tf : Nat → Tok} {cn : Nat → Int} {tc : Nat → Tok} {vs : List Value} {rs : List R} {kt : Nat}
   (C : Cx w A 8 80 h₀ L m ((ln, instObj 285 dl) :: (dl, dictOf (lineD w TT fo bl tl d sp mo tf cn tc) 10) :: (tl, listOf vs.toArray kt) :: news) s) (hs : ∀ p ∈ nt, p ∈ news) (hr : Trs nt vs rs)
   (ret : ∀ t h' tk', Fr h₀ L h' m → News h₀ L h' ((ln, instObj 285 dl) :: (dl, dictOf (lineD w TT fo bl tl d sp mo tf cn tc) 10) :: (tl, listOf vs.toArray kt) :: news) →
     Q (match rs with | [] => .none | r :: _ => .int r.tm t) { s with heap := h', toks := tk' }) :
   wpAny (model PySem.Challenge.pw_nu0127_01 w) A (call (.ref 282) [.ref ln]) Q E s := by
  refine Cx.elim (P := fun A => wpAny _ A _ _ _ _) C fun dp un gd cnn cs fa ccd cl outer A₀ base mg mb mean loose B F X N T hk hdp hun => ?_
  refine wpAny_call ?_
  have gdE7_11 : Unit := ()
  w_top off
  w_strict (
    (k_with "compareOp Eq ref ref" => (fail_if_success fail_if_success have := gdE7_11); (k_dflt (refine' eq_nil ?N ?h1 ?h2 ?hu ?_; (case N => k_asm); (case h1 => k_mem); (case h2 => k_mem); (case hu => ktr_units))))
    (k_with "subscriptTail Name Constant ref int" => (fail_if_success fail_if_success have := gdE7_11); (k_dflt (refine' sub_list (v := .ref x0) ?N ?m ?h0 ?hv ?hf ?_ ?hs; (case N => k_asm); (case m => k_mem); (case h0 => decide); (case hv => exact rfl); (case hf => decide); (case hs => with_unfolding_all rfl))))
    rcases hr with _ | ⟨⟨x0, d0, es0, n0, q1, q2, q3, rfl, m1, m2, g1, g2, g3⟩, hr⟩
    all_goals try (replace m1 := hs _ m1; replace m2 := hs _ m2)
    all_goals (k_dflt (refine' code_def ?k1 ?k2 ?k3 ?k4 ?k5 ?kA ?kF ?kK ?k6 ?k7 ?k8 ?k9 ?kB ?_ ?c2 ?c3 ?c4 ?c5; (case kA => exact rfl); (case kF => exact rfl); (case kK => first | exact rfl | assumption); (case k1 => k_asm); (case k2 => k_asm); (case k3 => k_asm); (case k4 => k_asm); (case k5 => k_asm); (case k6 => k_is); (case k7 => k_is); (case k8 => ktr_room); (case k9 => first | exact BindsTo.of_eq rfl | exact binds_K (by k_in) rfl (by k_is) rfl rfl rfl); (case c5 => decide); (case kB => exact locs rfl); (case c2 => exact rfl); (case c3 => exact rfl); (case c4 => exact rfl); k_whole; intro gE L1 hE FGE FE NE BE XE TE; (try dsimp only); (try k_fold)))
    all_goals k_steps
    all_goals (rename News h₀ _ _ _ => N8; rename Fr h₀ _ _ m => F8)
    · exact ret 0 _ _ F8 (cb_drop N8 (fun p hp => .tail _ hp))
    · exfalso
      rename (List.isEmpty _ = true) => hh
      exact absurd hh (by simp)
    · exact ret q1 _ _ F8 (cb_drop N8 (fun p hp => .tail _ hp)))
set_option maxHeartbeats 8000000 in
theorem arrivals_call {nt : List (Addr × Obj)} {ln dl fo bl tl : Addr} {TT : Nat → Tok} {d sp mo : Int} {tf : Nat → Tok} {cn : Nat → Int} {tc : Nat → Tok} {vs : List Value} {rs : List R} {kt : Nat} {x : Int} {ta : Tok}
   (C : Cx w A 8 80 h₀ L m ((ln, instObj 285 dl) :: (dl, dictOf (lineD w TT fo bl tl d sp mo tf cn tc) 10) :: (tl, listOf vs.toArray kt) :: news) s) (hs : ∀ p ∈ nt, p ∈ news) (hr : Trs nt vs rs) (hz : rs.length ≤ 100)
   (o1 : @LT.lt Nat _ dl ln) (o2 : @LT.lt Nat _ ln tl) (o4 : ∀ p ∈ news, p.1 ≠ tl)
   (ret : ∀ a b us kt' fd tps nf ext h' tk', rs = a ++ b → (∀ r ∈ a, r.tm ≤ x) → (∀ r q, b = r :: q → x < r.tm) → Fr h₀ L h' m →
     News h₀ L h' ((ln, instObj 285 dl) :: (dl, dictOf (lineD w TT fo bl tl d sp mo tf cn tc) 10) :: (tl, listOf us.toArray kt') :: (fd, listOf tps.toArray nf) :: (ext ++ news)) → Trs nt us b → All2 (TupAt ext) tps a →
     (∀ p ∈ (ln, instObj 285 dl) :: (dl, dictOf (lineD w TT fo bl tl d sp mo tf cn tc) 10) :: (tl, listOf vs.toArray kt) :: news, p.1 < fd) → (∀ q ∈ ext, fd < q.1) →
     Q (.ref fd) { s with heap := h', toks := tk' }) :
   wpAny (model PySem.Challenge.pw_nu0127_01 w) A (call (.ref 275) [.ref ln, .int x ta]) Q E s := by
  refine Cx.elim (P := fun A => wpAny _ A _ _ _ _) C fun dp un gd cnn cs fa ccd cl outer A₀ base mg mb mean loose B F X N T hk hdp hun => ?_
  refine wpAny_call ?_
  have gdE7_12 : Unit := ()
  w_top off
  w_strict (
    (k_with "exec While BoolOp cons nil" => (fail_if_success fail_if_success have := gdE7_12); refine keep_of ?_)
    (k_with "call builtin:len" => (fail_if_success fail_if_success have := gdE7_12); ((with_reducible show wpAny _ _ (call (Value.builtin "len") [Value.ref tl]) _ _ _); k_dflt (refine' len_listN ?N ?m ?z ?_; (case N => k_asm); (case m => k_mem); (case z => ((try simp only [List.length_cons] at hl1 hz ⊢); lia))); intro _ _))
    (k_with "subscriptTail Name Constant ref int" => (fail_if_success fail_if_success have := gdE7_12); (k_dflt (refine' sub_list (v := .ref x0) ?N ?m ?h0 ?hv ?hf ?_ ?hs; (case N => k_asm); (case m => k_mem); (case h0 => decide); (case hv => exact rfl); (case hf => decide); (case hs => with_unfolding_all rfl))))
    (k_with "newList" => (fail_if_success fail_if_success have := gdE7_12); (k_dflt (refine' newList_K ?k1 ?k2 ?_; (case k1 => k_asm); (case k2 => k_asm); k_whole); intro fd h9 F9 N9 hfd; (have hfdo := hfd); (try k_lt hfd)))
    (k_with "call builtin:list.pop" => (fail_if_success fail_if_success have := gdE7_12); (k_dflt (refine' pop0 ?F ?N ?U ?z ?_; (case F => k_asm); (case N => k_asm); (case U => k_updF); (case z => ((try simp only [List.length_cons] at hl1 hz ⊢); lia))); intro h7 F7 N7))
    (k_with "call builtin:list.append" => (fail_if_success fail_if_success have := gdE7_12); (k_dflt (refine' append_K ?k1 ?k2 ?k3 ?_ ?z; (case k1 => k_asm); (case k2 => k_asm); (case k3 => k_upd); (case z => (show Array.size _ ≤ _; rw [PySem.sizeLine_eq, List.size_toArray]; lia)); k_whole); intro h8 F8 N8))
    k_dflt (refine' code_def ?k1 ?k2 ?k3 ?k4 ?k5 ?kA ?kF ?kK ?k6 ?k7 ?k8 ?k9 ?kB ?_ ?c2 ?c3 ?c4 ?c5; (case kA => exact rfl); (case kF => exact rfl); (case kK => first | exact rfl | assumption); (case k1 => k_asm); (case k2 => k_asm); (case k3 => k_asm); (case k4 => k_asm); (case k5 => k_asm); (case k6 => k_is); (case k7 => k_is); (case k8 => ktr_room); (case k9 => first | exact BindsTo.of_eq rfl | exact binds_K (by k_in) rfl (by k_is) rfl rfl rfl); (case c5 => decide); (case kB => exact locs rfl); (case c2 => exact rfl); (case c3 => exact rfl); (case c4 => exact rfl); k_whole; intro gE L1 hE FGE FE NE BE XE TE; (try dsimp only); (try k_fold))
    k_steps
    rename News _ _ _ _ => N3
    rename Fr _ _ _ _ => F3
    unfold Keep
    refine While_inv2 (n₀ := rs.length) (fun n m' nx => Keep (∃ a b us kt' tps nf ext, nx = (fd, listOf tps.toArray nf) :: (ln, instObj 285 dl) :: (dl, dictOf (lineD w TT fo bl tl d sp mo tf cn tc) 10) :: (tl, listOf us.toArray kt') :: (ext ++ news) ∧ b.length = n ∧
      rs = a ++ b ∧ (∀ r ∈ a, r.tm ≤ x) ∧ Trs nt us b ∧ All2 (TupAt ext) tps a ∧ (∀ q ∈ ext, fd < q.1) ∧ m' "self" = some (.ref ln) ∧ m' "now" = some (.int x ta) ∧ m' "found" = some (.ref fd))) F3 N3 ?start ?turn (by first | passes_own | with_unfolding_all passes_own)
    case start => exact ⟨[], rs, vs, kt, [], 0, [], rfl, rfl, rfl, (fun _ h => nomatch h), hr, .nil, (fun _ h => nomatch h), rfl, rfl, rfl⟩
    case turn =>
      clear F3 N3
      rintro n m' nx h tk F5 N5 ⟨a, b, us, kt', tps, nf, ext, rfl, rfl, rfl, v1, v2, v3, v4, v5, v6, v7⟩
      have hl1 := v2.len
      have hl2 := v3.len
      rw [List.length_append] at hz
      have b1 : ∀ p ∈ ext ++ news, p.1 ≠ fd := fun p hp => (List.mem_append.mp hp).elim (fun q => Nat.ne_of_gt (v4 p q)) fun q => Nat.ne_of_lt (allLt_lt hfd.2.2.2 p q)
      have b2 : ∀ p ∈ ext ++ news, p.1 ≠ tl := fun p hp => (List.mem_append.mp hp).elim (fun q => Nat.ne_of_gt (Nat.lt_trans hfd.2.2.1 (v4 p q))) fun q => o4 p q
      rcases v2 with _ | ⟨⟨x0, d0, es0, n0, q1, q2, q3, rfl, m1, m2, g1, g2, g3⟩, hr2⟩
      all_goals try (have k1 := m1; have k2 := m2; replace m1 := List.mem_append_right ext (hs _ m1); replace m2 := List.mem_append_right ext (hs _ m2))
      all_goals k_steps
      · rename News h₀ _ _ _ => N8
        rename Fr h₀ _ _ m => F8
        exact ret a [] [] kt' fd tps nf ext _ _ rfl v1 (fun _ _ e => nomatch e) F8 (nw_4 N8) .nil v3 hfdo v4
      · rename News _ _ _ _ => N9
        rename Fr _ _ _ _ => F9
        rename (fd < _ ∧ _) => hD
        rename R => r0
        rw [List.push_toArray] at N9
        refine ⟨_, _, _, _, _, rfl, F9, nw_5 N9, Nat.lt_succ_self _, ⟨a ++ [r0], _, _, _, _, _, _ :: ext, rfl, rfl, by rw [List.append_assoc]; rfl, fun r hr => ?_, hr2, (v3.mono fun a b h => h.mono fun p hp => .tail _ hp).app (.cons ⟨_, _, _, rfl, .head _⟩ .nil), fun q hq => ?_, v5, v6, v7⟩⟩
        · rcases List.mem_append.mp hr with h | h
          · exact v1 r h
          · rw [List.mem_singleton.mp h]; assumption
        · rcases List.mem_cons.mp hq with rfl | hq
          · exact hD.1
          · exact v4 q hq
      · rename News h₀ _ _ _ => N8
        rename Fr h₀ _ _ m => F8
        rename R => r0
        refine ret a (r0 :: _) _ kt' fd tps nf ext _ _ rfl v1 (fun r q e => ?_) F8 (nw_4 N8) (.cons ⟨x0, d0, es0, n0, q1, q2, q3, rfl, k1, k2, g1, g2, g3⟩ hr2) v3 hfdo v4
        cases e
        lia
      · exfalso
        rename (¬ (0 : Int) < _) => hh
        rw [List.length_cons] at hh
        lia)
end
section
variable {w : World} {A : Around} {h₀ : Heap} {L : Addr} {m : Str → Option Value} {news : List (Addr × Obj)} {s : Shared} {Q E : Value → Shared → Prop}
set_option maxHeartbeats 8000000 in
theorem fate_call {bl : Addr} {b0 b1 mo en : Int} {n kb : Nat} {t0 t1 ta tb tc : Tok}
   (C : Cx w A 6 60 h₀ L m ((bl, listOf #[.int b0 t0, .int b1 t1] kb) :: news) s) (hen : en = 0 ∨ en = 1) (o1 : ∀ p ∈ news, p.1 ≠ bl)
   (ret : ∀ c0 c1 u0 u1 kb' t h' tk', c0 = (if en = 0 then (badL (n % 8) b0 mo).2 else b0) → c1 = (if en = 0 then b1 else (badL (n % 8) b1 mo).2) →
     Fr h₀ L h' m → News h₀ L h' ((bl, listOf #[.int c0 u0, .int c1 u1] kb') :: news) →
     Q (.int ((badL (n % 8) (if en = 0 then b0 else b1) mo).1 : Nat) t) { s with heap := h', toks := tk' }) :
   wpAny (model PySem.Challenge.pw_nu0127_01 w) A (call (.ref 348) [.int n ta, .ref bl, .int en tb, .int mo tc]) Q E s := by
  refine Cx.elim (P := fun A => wpAny _ A _ _ _ _) C fun dp un gd cnn cs fa ccd cl outer A₀ base mg mb mean loose B F X N T hk hdp hun => ?_
  have hNm := Nat.mod_lt n (show 0 < 8 by decide)
  refine wpAny_call ?_
  have gdE8_1 : Unit := ()
  w_top off
  w_strict (
    (k_with "div ne" => (fail_if_success fail_if_success have := gdE8_1); lia)
    (k_with "mod fix" => (fail_if_success fail_if_success have := gdE8_1); rw [fmod8])
    rcases hen with rfl | rfl
    all_goals (k_dflt (refine' code_def ?k1 ?k2 ?k3 ?k4 ?k5 ?kA ?kF ?kK ?k6 ?k7 ?k8 ?k9 ?kB ?_ ?c2 ?c3 ?c4 ?c5; (case kA => exact rfl); (case kF => exact rfl); (case kK => first | exact rfl | assumption); (case k1 => k_asm); (case k2 => k_asm); (case k3 => k_asm); (case k4 => k_asm); (case k5 => k_asm); (case k6 => k_is); (case k7 => k_is); (case k8 => ktr_room); (case k9 => first | exact BindsTo.of_eq rfl | exact binds_K (by k_in) rfl (by k_is) rfl rfl rfl); (case c5 => decide); (case kB => exact locs rfl); (case c2 => exact rfl); (case c3 => exact rfl); (case c4 => exact rfl); k_whole; intro gE L1 hE FGE FE NE BE XE TE; (try dsimp only); (try k_fold)))
    all_goals k_steps
    all_goals (rename News h₀ _ _ _ => N8; rename Fr h₀ _ _ m => F8; rename (List.any _ _ = _) => hin)
    all_goals (simp only [List.any_cons, List.any_nil, Bool.or_false, Bool.or_eq_true, Bool.or_eq_false_iff, beq_iff_eq, beq_eq_false_iff_ne, ne_eq] at hin)
    · rename (_ ≤ mo) => hmo
      have hmo2 : b0 + 1 ≤ mo := hmo
      have hb : badL (n % 8) b0 mo = (n % 8, b0 + 1) := badB (by lia) (by lia)
      exact (show ∀ z : Nat, z = (badL (n % 8) (if (0 : Int) = 0 then b0 else b1) mo).1 → Q (.int (z : Int) _) _ from fun z e => by rw [e]; exact ret (b0 + 1) b1 _ _ _ _ _ _ (by rw [if_pos rfl, hb]) (by rw [if_pos rfl]) F8 (cb_drop N8 (fun p hp => .tail _ hp))) (n % 8) (by rw [if_pos rfl, hb])
    · rename (¬ (_ ≤ mo)) => hmo
      have hmo2 : ¬ b0 + 1 ≤ mo := hmo
      have hb : badL (n % 8) b0 mo = (0, 0) := badA (by lia) (by lia)
      exact (show ∀ z : Nat, z = (badL (n % 8) (if (0 : Int) = 0 then b0 else b1) mo).1 → Q (.int (z : Int) _) _ from fun z e => by rw [e]; exact ret 0 b1 _ _ _ _ _ _ (by rw [if_pos rfl, hb]) (by rw [if_pos rfl]) F8 (cb_drop N8 (fun p hp => .tail _ hp))) 0 (by rw [if_pos rfl, hb])
    · have hb : badL (n % 8) b0 mo = (n % 8, 0) := badC (by lia)
      exact (show ∀ z : Nat, z = (badL (n % 8) (if (0 : Int) = 0 then b0 else b1) mo).1 → Q (.int (z : Int) _) _ from fun z e => by rw [e]; exact ret 0 b1 _ _ _ _ _ _ (by rw [if_pos rfl, hb]) (by rw [if_pos rfl]) F8 (cb_drop N8 (fun p hp => .tail _ hp))) (n % 8) (by rw [if_pos rfl, hb])
    · rename (_ ≤ mo) => hmo
      have hmo2 : b1 + 1 ≤ mo := hmo
      have hb : badL (n % 8) b1 mo = (n % 8, b1 + 1) := badB (by lia) (by lia)
      exact (show ∀ z : Nat, z = (badL (n % 8) (if (1 : Int) = 0 then b0 else b1) mo).1 → Q (.int (z : Int) _) _ from fun z e => by rw [e]; exact ret b0 (b1 + 1) _ _ _ _ _ _ (by rw [if_neg (show ¬ (1 : Int) = 0 by decide)]) (by rw [if_neg (show ¬ (1 : Int) = 0 by decide), hb]) F8 (cb_drop N8 (fun p hp => .tail _ hp))) (n % 8) (by rw [if_neg (show ¬ (1 : Int) = 0 by decide), hb])
    · rename (¬ (_ ≤ mo)) => hmo
      have hmo2 : ¬ b1 + 1 ≤ mo := hmo
      have hb : badL (n % 8) b1 mo = (0, 0) := badA (by lia) (by lia)
      exact (show ∀ z : Nat, z = (badL (n % 8) (if (1 : Int) = 0 then b0 else b1) mo).1 → Q (.int (z : Int) _) _ from fun z e => by rw [e]; exact ret b0 0 _ _ _ _ _ _ (by rw [if_neg (show ¬ (1 : Int) = 0 by decide)]) (by rw [if_neg (show ¬ (1 : Int) = 0 by decide), hb]) F8 (cb_drop N8 (fun p hp => .tail _ hp))) 0 (by rw [if_neg (show ¬ (1 : Int) = 0 by decide), hb])
    · have hb : badL (n % 8) b1 mo = (n % 8, 0) := badC (by lia)
      exact (show ∀ z : Nat, z = (badL (n % 8) (if (1 : Int) = 0 then b0 else b1) mo).1 → Q (.int (z : Int) _) _ from fun z e => by rw [e]; exact ret b0 0 _ _ _ _ _ _ (by rw [if_neg (show ¬ (1 : Int) = 0 by decide)]) (by rw [if_neg (show ¬ (1 : Int) = 0 by decide), hb]) F8 (cb_drop N8 (fun p hp => .tail _ hp))) (n % 8) (by rw [if_neg (show ¬ (1 : Int) = 0 by decide), hb]))
end
section
variable {w : World} {A : Around} {h₀ : Heap} {L : Addr} {m : Str → Option Value} {nw : List (Addr × Obj)} {s : Shared} {Q E : Value → Shared → Prop}
theorem fate_callF {bl : Addr} {b0 b1 mo en : Int} {n kb : Nat} {t0 t1 ta tb tc : Tok} {g : Obj → List (Addr × Obj)} (C : Cx w A 6 60 h₀ L m nw s) (U : UpdF bl (listOf #[.int b0 t0, .int b1 t1] kb) nw g) (hen : en = 0 ∨ en = 1)
   (ret : ∀ c0 c1 u0 u1 kb' t h' tk', c0 = (if en = 0 then (badL (n % 8) b0 mo).2 else b0) → c1 = (if en = 0 then b1 else (badL (n % 8) b1 mo).2) →
     Fr h₀ L h' m → News h₀ L h' (g (listOf #[.int c0 u0, .int c1 u1] kb')) →
     Q (.int ((badL (n % 8) (if en = 0 then b0 else b1) mo).1 : Nat) t) { s with heap := h', toks := tk' }) :
   wpAny (model PySem.Challenge.pw_nu0127_01 w) A (call (.ref 348) [.int n ta, .ref bl, .int en tb, .int mo tc]) Q E s := by
  obtain ⟨own, rest, rfl, hg, h1, h2⟩ := U.split
  refine fate_call (b0 := b0) (b1 := b1) (t0 := t0) (t1 := t1) (kb := kb) (news := own ++ rest) (C.led fun p hp => ?_) hen (fun p hp => ?_) fun c0 c1 u0 u1 kb' t h' tk' e0 e1 F' N' => ?_
  · rcases List.mem_cons.mp hp with rfl | hp
    · exact List.mem_append_right _ (.head _)
    · exact (List.mem_append.mp hp).elim (List.mem_append_left _) fun q => List.mem_append_right _ (.tail _ q)
  · exact (List.mem_append.mp hp).elim (h1 p) (h2 p)
  · refine ret c0 c1 u0 u1 kb' t h' tk' e0 e1 F' ?_
    rw [hg]
    refine cb_drop N' fun p hp => ?_
    rcases List.mem_append.mp hp with hp | hp
    · exact .tail _ (List.mem_append_left _ hp)
    · rcases List.mem_cons.mp hp with rfl | hp
      · exact .head _
      · exact .tail _ (List.mem_append_right _ hp)
end
def PairAt (nw : List (Addr × Obj)) (v : Value) (r : Int × List UInt8) : Prop := ∃ x t1 t2, v = .ref x ∧ (x, tupO [.int r.1 t1, .bytes r.2.toArray t2]) ∈ nw
theorem PairAt.mono {nw nw' : List (Addr × Obj)} {v r} (h : PairAt nw v r) (k : ∀ p ∈ nw, p ∈ nw') : PairAt nw' v r := by
  obtain ⟨x, t1, t2, e, h1⟩ := h
  exact ⟨x, t1, t2, e, k _ h1⟩
section
variable {w : World} {A : Around} {h₀ : Heap} {L : Addr} {m : Str → Option Value} {news : List (Addr × Obj)} {s : Shared} {Q E : Value → Shared → Prop}
theorem met_lt2 {a b : Addr} {o p : Obj} {nw : List (Addr × Obj)} (h1 : ∀ p ∈ nw, p.1 < b) (h2 : AllLt a nw) : ∀ q ∈ [(a, o), (b, p)], ∀ p ∈ nw, p.1 < q.1 := fun q hq p hp => by
  simp only [List.mem_cons, List.not_mem_nil, or_false] at hq
  rcases hq with rfl | rfl
  · exact allLt_lt h2 _ hp
  · exact h1 _ hp
theorem met_D2 {a b D : Addr} {o p : Obj} (h1 : a < D) (h2 : b < D) : ∀ q ∈ [(a, o), (b, p)], q.1 < D := fun q hq => by
  simp only [List.mem_cons, List.not_mem_nil, or_false] at hq
  rcases hq with rfl | rfl
  · exact h1
  · exact h2
theorem met_lt1 {a : Addr} {o : Obj} {nw : List (Addr × Obj)} (h1 : ∀ p ∈ nw, p.1 < a) : ∀ q ∈ [(a, o)], ∀ p ∈ nw, p.1 < q.1 := fun q hq p hp => by
  rw [List.mem_singleton.mp hq]; exact h1 _ hp
theorem met_D1 {a D : Addr} {o : Obj} (h1 : a < D) : ∀ q ∈ [(a, o)], q.1 < D := fun q hq => by rw [List.mem_singleton.mp hq]; exact h1
theorem metM5 {rest sp : Nat} {oc o : List UInt8} {x : Int} {fate : Nat} (h : (fate : Int) = 5) (e : o = octM fate rest oc) : metL fate rest oc x sp = [(x, o), (x + (1 + ((rest % sp : Nat) : Int)), o)] := by
  obtain rfl : fate = 5 := Int.ofNat.inj h
  subst e
  rfl
theorem metM6 {rest sp : Nat} {oc o : List UInt8} {x : Int} {fate : Nat} (h : (fate : Int) = 6) (e : o = octM fate rest oc) : metL fate rest oc x sp = [(x + (1 + ((rest % sp : Nat) : Int)), o)] := by
  obtain rfl : fate = 6 := Int.ofNat.inj h
  subst e
  rfl
theorem metMo {rest sp : Nat} {oc o : List UInt8} {x : Int} {fate : Nat} (h4 : (fate : Int) ≠ 4) (h5 : (fate : Int) ≠ 5) (h6 : (fate : Int) ≠ 6) (e : o = octM fate rest oc) : metL fate rest oc x sp = [(x, o)] := by
  unfold metL
  rw [if_neg (fun q => h4 (congrArg Int.ofNat q)), if_neg (fun q => h5 (congrArg Int.ofNat q)), if_neg (fun q => h6 (congrArg Int.ofNat q)), e]
  rfl
inductive MetMid (s : Shared) (gE : Heap) (L1 : Addr) (news : List (Addr × Obj)) (fate rest : Nat) (oc : List UInt8) (x : Int) (sp : Nat) (fl : Flow) (s' : Shared) : Prop
  | mk (h : Heap) (tk : Nat) (m' : Str → Option Value) (o : List UInt8) (t1 t2 t3 t4 t5 : Tok) (_ : fl = .next) (_ : s' = { s with heap := h, toks := tk }) (_ : Fr gE L1 h m') (_ : News gE L1 h news) (_ : o = octM fate rest oc)
     (_ : m' "fate" = some (.int (fate : Nat) t1)) (_ : m' "rest" = some (.int (rest : Nat) t2)) (_ : m' "octets" = some (.bytes o.toArray t3)) (_ : m' "time" = some (.int x t4)) (_ : m' "spread" = some (.int (sp : Nat) t5)) : MetMid s gE L1 news fate rest oc x sp fl s'
set_option maxHeartbeats 8000000 in
theorem met_call {fate rest sp : Nat} {x : Int} {oc : List UInt8} {ta tb tc td te : Tok}
   (C : Cx w A 8 80 h₀ L m news s) (ho : oc.length ≤ 100) (hsp : 0 < sp)
   (ret : ∀ D tps n ext h' tk', All2 (PairAt ext) tps (metL fate rest oc x sp) → Fr h₀ L h' m → News h₀ L h' ((D, listOf tps.toArray n) :: (ext ++ news)) →
     (∀ p ∈ news, p.1 < D) → (∀ q ∈ ext, ∀ p ∈ news, p.1 < q.1) → (∀ q ∈ ext, q.1 < D) → Q (.ref D) { s with heap := h', toks := tk' }) :
   wpAny (model PySem.Challenge.pw_nu0127_01 w) A (call (.ref 355) [.int fate ta, .int rest tb, .bytes oc.toArray tc, .int x td, .int sp te]) Q E s := by
  refine Cx.elim (P := fun A => wpAny _ A _ _ _ _) C fun dp un gd cnn cs fa ccd cl outer A₀ base mg mb mean loose B F X N T hk hdp hun => ?_
  refine wpAny_call ?_
  have gdE8_11 : Unit := ()
  w_top off
  w_strict (
    (k_with "exec If" => (fail_if_success fail_if_success have := gdE8_11); ((fail_if_success (have := hMid)); refine keep_of ?_))
    (k_with "call ref" => (fail_if_success fail_if_success have := gdE8_11); first
      | ((with_reducible show wpAny _ _ (call (Value.ref 329) _) _ _ _); (rename (oc != []) = true => hoc; replace hoc := bne_iff_ne.mp hoc); (have hne : 0 < 8 * oc.length := by (have := List.length_pos_iff.mpr hoc; lia)); (have hml := Nat.mod_lt rest hne); (have e8 : (rest : Int).fmod (8 * (oc.length : Int)) = ((rest % (8 * oc.length) : Nat) : Int) := fmodNN rest (8 * oc.length)); (rw [e8]); k_dflt (refine' turned_call ?C ?h ?k ?_; (case C => k_extra "cx_now"); (case h => lia); (case k => lia)); intro t1 h1 tk1 F1 N1))
    (k_with "div ne" => (fail_if_success fail_if_success have := gdE8_11); first | lia | (rename (oc != []) = true => hoc; replace hoc := bne_iff_ne.mp hoc; (have := List.length_pos_iff.mpr hoc); lia))
    (k_with "mod fix" => (fail_if_success fail_if_success have := gdE8_11); rw [fmodNN])
    k_dflt (refine' code_def ?k1 ?k2 ?k3 ?k4 ?k5 ?kA ?kF ?kK ?k6 ?k7 ?k8 ?k9 ?kB ?_ ?c2 ?c3 ?c4 ?c5; (case kA => exact rfl); (case kF => exact rfl); (case kK => first | exact rfl | assumption); (case k1 => k_asm); (case k2 => k_asm); (case k3 => k_asm); (case k4 => k_asm); (case k5 => k_asm); (case k6 => k_is); (case k7 => k_is); (case k8 => ktr_room); (case k9 => first | exact BindsTo.of_eq rfl | exact binds_K (by k_in) rfl (by k_is) rfl rfl rfl); (case c5 => decide); (case kB => exact locs rfl); (case c2 => exact rfl); (case c3 => exact rfl); (case c4 => exact rfl); k_whole; intro gE L1 hE FGE FE NE BE XE TE; (try dsimp only); (try k_fold))
    k_steps
    have hMid := True.intro
    unfold Keep
    refine wpAny_mono (Q := fun fl' s' => MetMid s gE L1 news fate rest oc x sp fl' s') ?mid ?rest (fun _ _ e => e)
    case mid =>
      k_steps
      · exact ⟨_, _, _, _, _, _, _, _, _, rfl, rfl, by assumption, by assumption, octM_t (by assumption) (by assumption), rfl, rfl, rfl, rfl, rfl⟩
      · rename (oc != []) = false => q
        exact ⟨_, _, _, _, _, _, _, _, _, rfl, rfl, by assumption, by assumption, octM_e (bne_eq_false_iff_eq.mp q), rfl, rfl, rfl, rfl, rfl⟩
      · exact ⟨_, _, _, _, _, _, _, _, _, rfl, rfl, by assumption, by assumption, octM_n (by assumption), rfl, rfl, rfl, rfl, rfl⟩
    case rest =>
      rintro fl' s' ⟨h, tk, m', o, t1, t2, t3, t4, t5, rfl, rfl, F2, N2, eo, v1, v2, v3, v4, v5⟩
      clear FE NE
      k_steps
      all_goals (rename News h₀ _ _ _ => N8; rename Fr h₀ _ _ m => F8; try rename (_ < _ ∧ _) => hD)
      · exact ret _ [] _ [] _ _ (by rw [metM4 (by assumption)]; exact .nil) F8 N8 (by assumption) (fun q hq => nomatch hq) (fun q hq => nomatch hq)
      · rename ((_ < _ ∧ AllLt _ news)) => hD1
        exact ret _ [_, _] _ [_, _] _ _ (by rw [metM5 (by assumption) eo]; exact .cons ⟨_, _, _, rfl, .tail _ (.head _)⟩ (.cons ⟨_, _, _, rfl, .head _⟩ .nil)) F8 N8 (allLt_lt hD.2.2) (met_lt2 (by assumption) hD1.2) (met_D2 hD.1 hD.2.1)
      · exact ret _ [_] _ [_] _ _ (by rw [metM6 (by assumption) eo]; exact .cons ⟨_, _, _, rfl, .head _⟩ .nil) F8 N8 (allLt_lt hD.2) (met_lt1 (by assumption)) (met_D1 hD.1)
      · exact ret _ [_] _ [_] _ _ (by rw [metMo (by assumption) (by assumption) (by assumption) eo]; exact .cons ⟨_, _, _, rfl, .head _⟩ .nil) F8 N8 (allLt_lt hD.2) (met_lt1 (by assumption)) (met_D1 hD.1))
end
/-! the model's sort (fewer than 64 items) under a strict total order gives a sorted permutation -/
section
variable {lt : Nat → Nat → Bool} {N : Nat} {cmp : Nat → Nat → (Bool → Shared → Prop) → Shared → Prop} {s : Shared}
abbrev ix (p : Array Nat) (a : Nat) : Nat := p.getD a 0
theorem ix_eq (p : Array Nat) (a : Nat) : ix p a = (p[a]?).getD 0 := by simp [ix, Array.getD_eq_getD_getElem?]
structure TotLt (lt : Nat → Nat → Bool) (N : Nat) : Prop where
  tr : ∀ a b c, lt a b = true → lt b c = true → lt a c = true
  tot : ∀ a b, a < N → b < N → a ≠ b → lt a b = false → lt b a = true
  asym : ∀ a b, lt a b = true → lt b a = false
def Pm (N : Nat) (p : Array Nat) : Prop := p.toList.Perm (List.range N)
theorem Pm.size {p : Array Nat} (h : Pm N p) : p.size = N := by
  have := h.length_eq
  rw [List.length_range, Array.length_toList] at this
  exact this
theorem Pm.get {p : Array Nat} (h : Pm N p) {a : Nat} (ha : a < N) : ix p a < N := by
  have hs := h.size
  have hm : p[a] ∈ p.toList := by simp
  have := List.mem_range.mp (h.mem_iff.mp hm)
  have e : ix p a = p[a] := by simp [ix, Array.getD, hs, ha]
  rw [e]; exact this
theorem Pm.ne {p : Array Nat} (h : Pm N p) {a b : Nat} (ha : a < N) (hb : b < N) (hab : a ≠ b) : ix p a ≠ ix p b := by
  have hs := h.size
  have nd : p.toList.Nodup := h.nodup_iff.mpr List.nodup_range
  have e1 : ix p a = p.toList[a]'(by simp [hs, ha]) := by simp [ix, Array.getD, hs, ha]
  have e2 : ix p b = p.toList[b]'(by simp [hs, hb]) := by simp [ix, Array.getD, hs, hb]
  rw [e1, e2]
  intro e
  exact hab ((List.getElem_inj nd).mp e)
def Sr (lt : Nat → Nat → Bool) (p : Array Nat) (k : Nat) : Prop := ∀ a b, a < b → b < k → lt (ix p a) (ix p b) = true
def Dr (lt : Nat → Nat → Bool) (p : Array Nat) (k : Nat) : Prop := ∀ a b, a < b → b < k → lt (ix p b) (ix p a) = true
abbrev Asks (lt : Nat → Nat → Bool) (N : Nat) (cmp : Nat → Nat → (Bool → Shared → Prop) → Shared → Prop) (s : Shared) : Prop := ∀ i j C, i < N → j < N → i ≠ j → C (lt i j) s → cmp i j C s
theorem Sr.succ (T : TotLt lt N) {p : Array Nat} {k : Nat} (h : Sr lt p k) (h1 : 1 ≤ k) (hl : lt (ix p (k - 1)) (ix p k) = true) : Sr lt p (k + 1) := fun a b hab hb => by
  by_cases e : b = k
  · subst e
    by_cases e2 : a = b - 1
    · subst e2; exact hl
    · exact T.tr _ _ _ (h a (b - 1) (by lia) (by lia)) hl
  · exact h a b hab (by lia)
theorem Dr.succ (T : TotLt lt N) {p : Array Nat} {k : Nat} (h : Dr lt p k) (h1 : 1 ≤ k) (hl : lt (ix p k) (ix p (k - 1)) = true) : Dr lt p (k + 1) := fun a b hab hb => by
  by_cases e : b = k
  · subst e
    by_cases e2 : a = b - 1
    · subst e2; exact hl
    · exact T.tr _ _ _ hl (h a (b - 1) (by lia) (by lia))
  · exact h a b hab (by lia)
theorem so_asc (T : TotLt lt N) (K : Asks lt N cmp s) {p : Array Nat} (hp : Pm N p) : ∀ (f a : Nat) {Q : Nat → Shared → Prop}, 1 ≤ a → a + f ≤ N → Sr lt p a → (∀ m, a ≤ m → m ≤ a + f → Sr lt p m → (m < a + f → lt (ix p m) (ix p (m - 1)) = true) → Q m s) → (kas_asc p f a).kasWp cmp Q s
  | 0, a, Q, h1, h2, hs, h => h a (Nat.le_refl _) (Nat.le_refl _) hs (fun x => absurd x (Nat.lt_irrefl _))
  | f + 1, a, Q, h1, h2, hs, h => by
    show cmp (ix p a) (ix p (a - 1)) _ s
    refine K _ _ _ (hp.get (by lia)) (hp.get (by lia)) (hp.ne (by lia) (by lia) (by lia)) ?_
    cases e : lt (ix p a) (ix p (a - 1)) with
    | true =>
      show (if true = true then KasT.ret a else kas_asc p f (a + 1)).kasWp cmp Q s
      rw [if_pos rfl]
      exact h a (Nat.le_refl _) (by lia) hs (fun _ => e)
    | false =>
      show (if false = true then KasT.ret a else kas_asc p f (a + 1)).kasWp cmp Q s
      rw [if_neg (by simp)]
      refine so_asc T K hp f (a + 1) (by lia) (by lia) (hs.succ T h1 (T.tot _ _ (hp.get (by lia)) (hp.get (by lia)) (hp.ne (by lia) (by lia) (by lia)) e)) fun m hm1 hm2 hm3 hm4 => h m (by lia) (by lia) hm3 (fun x => hm4 (by lia))
theorem so_desc (T : TotLt lt N) (K : Asks lt N cmp s) {p : Array Nat} (hp : Pm N p) : ∀ (f a : Nat) {Q : Array Nat × Nat × Nat → Shared → Prop}, 1 ≤ a → a + f ≤ N → Dr lt p a → (∀ m, a ≤ m → m ≤ a + f → Dr lt p m → Q (p, m, 0) s) → (kas_desc f p a 0).kasWp cmp Q s
  | 0, a, Q, h1, h2, hs, h => h a (Nat.le_refl _) (Nat.le_refl _) hs
  | f + 1, a, Q, h1, h2, hs, h => by
    show cmp (ix p a) (ix p (a - 1)) _ s
    refine K _ _ _ (hp.get (by lia)) (hp.get (by lia)) (hp.ne (by lia) (by lia) (by lia)) ?_
    cases e : lt (ix p a) (ix p (a - 1)) with
    | true =>
      show (if true = true then (if 0 > 0 then kas_desc f (kas_rev p (a - (0 + 1)) a) (a + 1) 0 else kas_desc f p (a + 1) 0) else _).kasWp cmp Q s
      rw [if_pos rfl, if_neg (by lia)]
      exact so_desc T K hp f (a + 1) (by lia) (by lia) (hs.succ T h1 e) fun m hm1 hm2 hm3 => h m (by lia) (by lia) hm3
    | false =>
      show cmp (ix p (a - 1)) (ix p a) _ s
      refine K _ _ _ (hp.get (by lia)) (hp.get (by lia)) (hp.ne (by lia) (by lia) (by lia)) ?_
      rw [T.tot _ _ (hp.get (by lia)) (hp.get (by lia)) (hp.ne (by lia) (by lia) (by lia)) e]
      show (if true = true then KasT.ret (p, a, 0) else _).kasWp cmp Q s
      rw [if_pos rfl]
      exact h a (Nat.le_refl _) (by lia) hs
theorem pm_rev {p : Array Nat} (hp : Pm N p) (i j : Nat) : Pm N (kas_rev p i j) := (Array.perm_iff_toList_perm.mp (mirror_perm p i j _)).trans hp
theorem ix_rev {p : Array Nat} {n k : Nat} (hn : n ≤ p.size) : ix (kas_rev p 0 n) k = if k < n then ix p (n - 1 - k) else ix p k := by
  rw [ix_eq]
  unfold kas_rev
  rw [getElem?_mirror_all hn]
  by_cases h : k < n
  · rw [if_pos ⟨Nat.zero_le _, h⟩, if_pos h, ix_eq, Nat.zero_add]
  · rw [if_neg (fun x => h x.2), if_neg h, ix_eq]
theorem so_tail (T : TotLt lt N) (K : Asks lt N cmp s) {p : Array Nat} (hp : Pm N p) {n : Nat} (h1 : 1 ≤ n) (hn : n ≤ N) (hd : Dr lt p n) {Q : Nat × Array Nat → Shared → Prop}
    (h : ∀ m p', 1 ≤ m → m ≤ N → Pm N p' → Sr lt p' m → Q (m, p') s) : (kas_tail3 n N p).kasWp cmp Q s := by
  have hp' := pm_rev hp 0 n
  unfold kas_tail3
  rw [KasT.kasWp_bind]
  have hs : Sr lt (kas_rev p 0 n) n := fun a b hab hb => by
    rw [ix_rev (by rw [hp.size]; exact hn), ix_rev (by rw [hp.size]; exact hn), if_pos (by lia), if_pos hb]
    exact hd _ _ (by lia) (by lia)
  refine so_asc T K hp' _ _ h1 (by lia) hs fun m hm1 hm2 hm3 _ => h m _ (by lia) (by lia) hp' hm3
theorem so_descPart (T : TotLt lt N) (K : Asks lt N cmp s) {p : Array Nat} (hp : Pm N p) (hn : 1 < N) (h0 : lt (ix p 1) (ix p 0) = true) {Q : Nat × Array Nat → Shared → Prop}
    (h : ∀ m p', 1 ≤ m → m ≤ N → Pm N p' → Sr lt p' m → Q (m, p') s) : (kas_descPart 1 N p).kasWp cmp Q s := by
  unfold kas_descPart
  rw [KasT.kasWp_bind]
  have hd : Dr lt p 2 := fun a b hab hb => by
    obtain rfl : b = 1 := by lia
    obtain rfl : a = 0 := by lia
    exact h0
  refine so_desc T K hp _ _ (by lia) (by lia) hd fun m hm1 hm2 hm3 => ?_
  show (if (0 : Nat) > 0 then _ else kas_tail3 m N p).kasWp cmp Q s
  rw [if_neg (by lia)]
  exact so_tail T K hp (by lia) (by lia) hm3 h
theorem so_count (T : TotLt lt N) (K : Asks lt N cmp s) {p : Array Nat} (hp : Pm N p) (hn : 1 < N) {Q : Nat × Array Nat → Shared → Prop}
    (h : ∀ m p', 1 ≤ m → m ≤ N → Pm N p' → Sr lt p' m → Q (m, p') s) : (kas_count N p).kasWp cmp Q s := by
  unfold kas_count
  rw [KasT.kasWp_bind]
  refine so_asc T K hp _ _ (Nat.le_refl _) (by lia) (fun a b hab hb => absurd hab (by lia)) fun m hm1 hm2 hm3 hm4 => ?_
  by_cases e : m = N
  · subst e
    show (if (m == m) = true then KasT.ret (m, p) else _).kasWp cmp Q s
    rw [if_pos (beq_self_eq_true m)]
    exact h m p (by lia) (Nat.le_refl _) hp hm3
  · have hb : ¬ (m == N) = true := fun x => e (beq_iff_eq.mp x)
    rw [if_neg hb]
    by_cases e1 : m > 1
    · rw [if_pos e1]
      show cmp (ix p 0) (ix p (m - 1)) _ s
      refine K _ _ _ (hp.get (by lia)) (hp.get (by lia)) (hp.ne (by lia) (by lia) (by lia)) ?_
      rw [hm3 0 (m - 1) (by lia) (by lia)]
      show (if true = true then KasT.ret (m, p) else _).kasWp cmp Q s
      rw [if_pos rfl]
      exact h m p (by lia) (by lia) hp hm3
    · rw [if_neg e1]
      obtain rfl : m = 1 := by lia
      exact so_descPart T K hp hn (hm4 (by lia)) h
theorem so_place (T : TotLt lt N) (K : Asks lt N cmp s) {p : Array Nat} (hp : Pm N p) {k : Nat} (hk : k < N) (hs : Sr lt p k) : ∀ (f l r : Nat) {Q : Nat → Shared → Prop}, r - l ≤ f → l ≤ r → r ≤ k → (∀ a, a < l → lt (ix p a) (ix p k) = true) → (∀ a, r ≤ a → a < k → lt (ix p k) (ix p a) = true) →
    (∀ l, l ≤ k → (∀ a, a < l → lt (ix p a) (ix p k) = true) → (∀ a, l ≤ a → a < k → lt (ix p k) (ix p a) = true) → Q l s) → (kas_place p k f l r).kasWp cmp Q s
  | 0, l, r, Q, hf, hlr, hr, h1, h2, h => h l (by lia) h1 (fun a ha hb => h2 a (by lia) hb)
  | f + 1, l, r, Q, hf, hlr, hr, h1, h2, h => by
    unfold kas_place
    by_cases e : l ≥ r
    · rw [if_pos e]
      exact h l (by lia) h1 (fun a ha hb => h2 a (by lia) hb)
    · rw [if_neg e]
      show cmp (ix p k) (ix p ((l + r) / 2)) _ s
      refine K _ _ _ (hp.get hk) (hp.get (by lia)) (hp.ne hk (by lia) (by lia)) ?_
      cases q : lt (ix p k) (ix p ((l + r) / 2)) with
      | true =>
        show (if true = true then kas_place p k f l ((l + r) / 2) else _).kasWp cmp Q s
        rw [if_pos rfl]
        refine so_place T K hp hk hs f l ((l + r) / 2) (by lia) (by lia) (by lia) h1 (fun a ha hb => ?_) h
        by_cases e2 : a = (l + r) / 2
        · subst e2; exact q
        · exact T.tr _ _ _ q (hs _ _ (by lia) hb)
      | false =>
        show (if false = true then _ else kas_place p k f ((l + r) / 2 + 1) r).kasWp cmp Q s
        rw [if_neg (by simp)]
        have q2 := T.tot _ _ (hp.get hk) (hp.get (by lia)) (hp.ne hk (by lia) (by lia)) q
        refine so_place T K hp hk hs f ((l + r) / 2 + 1) r (by lia) (by lia) hr (fun a ha => ?_) h2 h
        by_cases e2 : a = (l + r) / 2
        · subst e2; exact q2
        · exact T.tr _ _ _ (hs a ((l + r) / 2) (by lia) (by lia)) q2
theorem ix_bub {p : Array Nat} {k l j : Nat} (hk : k < p.size) (hl : l ≤ k) : ix (bubble p k (k - l)) j = if j = l then ix p k else if l < j ∧ j ≤ k then ix p (j - 1) else ix p j := by
  rw [ix_eq, getElem?_bubble hk _ (by lia)]
  have e : k - (k - l) = l := by lia
  rw [e]
  by_cases h : j = l
  · rw [if_pos h, if_pos h, ix_eq]
  · rw [if_neg h, if_neg h]
    by_cases h2 : l < j ∧ j ≤ k
    · rw [if_pos h2, if_pos h2, ix_eq]
    · rw [if_neg h2, if_neg h2, ix_eq]
theorem so_ins {p : Array Nat} (hp : Pm N p) {k l : Nat} (hk : k < N) (hl : l ≤ k) (hs : Sr lt p k) (h1 : ∀ a, a < l → lt (ix p a) (ix p k) = true) (h2 : ∀ a, l ≤ a → a < k → lt (ix p k) (ix p a) = true) : Sr lt (bubble p k (k - l)) (k + 1) := fun a b hab hb => by
  have hz : k < p.size := by rw [hp.size]; exact hk
  rw [ix_bub hz hl, ix_bub hz hl]
  by_cases ea : a = l
  · rw [if_pos ea, if_neg (by lia), if_pos (by lia)]
    exact h2 _ (by lia) (by lia)
  · rw [if_neg ea]
    by_cases eb : b = l
    · rw [if_pos eb, if_neg (by lia)]
      exact h1 _ (by lia)
    · rw [if_neg eb]
      by_cases e1 : l < a ∧ a ≤ k
      · rw [if_pos e1, if_pos (by lia)]
        exact hs _ _ (by lia) (by lia)
      · rw [if_neg e1]
        by_cases e2 : l < b ∧ b ≤ k
        · rw [if_pos e2]
          exact hs _ _ (by lia) (by lia)
        · rw [if_neg e2]
          exact hs _ _ hab (by lia)
theorem so_bin (T : TotLt lt N) (K : Asks lt N cmp s) : ∀ (f k : Nat) {p : Array Nat} {Q : Array Nat → Shared → Prop}, Pm N p → k + f = N → Sr lt p k → (∀ p', Pm N p' → Sr lt p' N → Q p' s) → (kas_bin f p k).kasWp cmp Q s
  | 0, k, p, Q, hp, hk, hs, h => h p hp (by rw [← hk]; exact hs)
  | f + 1, k, p, Q, hp, hk, hs, h => by
    show ((kas_place p k k 0 k).bind fun l => kas_bin f (bubble p k (k - l)) (k + 1)).kasWp cmp Q s
    rw [KasT.kasWp_bind]
    refine so_place T K hp (by lia) hs k 0 k (by lia) (Nat.zero_le _) (Nat.le_refl _) (fun a ha => absurd ha (Nat.not_lt_zero _)) (fun a ha hb => absurd ha (by lia)) fun l hl h1 h2 => ?_
    exact so_bin T K f (k + 1) ((Array.perm_iff_toList_perm.mp (bubble_perm p k _)).trans hp) (by lia) (so_ins hp (by lia) hl hs h1 h2) h
theorem so_sort (T : TotLt lt N) (K : Asks lt N cmp s) (hN : 2 ≤ N) {Q : Array Nat → Shared → Prop} (h : ∀ p, Pm N p → Sr lt p N → Q p s) : (kas_sort N).kasWp cmp Q s := by
  unfold kas_sort
  rw [KasT.kasWp_bind]
  have hp : Pm N (List.toArray (List.range N)) := by
    unfold Pm
    exact List.Perm.refl _
  refine so_count T K hp (by lia) fun m p' hm1 hm2 hp' hs' => ?_
  show (if m < N then kas_bin (N - max m 1) p' (max m 1) else KasT.ret p').kasWp cmp Q s
  by_cases e : m < N
  · rw [if_pos e, show max m 1 = m by lia]
    exact so_bin T K _ _ hp' (by lia) hs' h
  · rw [if_neg e]
    obtain rfl : m = N := by lia
    exact h p' hp' hs'
end
/-! two rows compared: the first place where they differ decides -/
section
open PySem.AutoSeq1 (wpAny_loadPart')
open PySem.SeqAt PySem.MeetsSeq PySem.MeetsSeq2 PySem.MeetsSeq3
theorem lt_loopAt (l b : Addr) (items items2 : Array Value) (n n2 : Nat) (dd dd2 : Option Addr) (sl sl2 : Array (Option Value)) (r : Bool) (q : Nat) (k : Nat) :
    ∀ i : Nat, q - i = k → i ≤ q → Meets (Builtin.«list.__eq__.loop» ⟨[.ref l, .ref b, rawInt i, rawInt 0], []⟩)
      (fun A R s => s.heap.get? l = some { cls := .type "list", dict := dd, data := .seq items n, slots := sl } ∧ s.heap.get? b = some { cls := .type "list", dict := dd2, data := .seq items2 n2, slots := sl2 } ∧
        (∃ (h1 : q < items.size) (h2 : q < items2.size), EqAt A.in1 s items[q] items2[q] false ∧ (∀ (prog : Program) (w : World) (E : Value → Shared → Prop) (Q : Value → Shared → Prop), Q (.bool r) s → wpAny (model prog w) A.in1 (richCompare .Lt items[q] items2[q]) Q E s)) ∧
        (∀ j (h1 : j < items.size) (h2 : j < items2.size), j < q → EqAt A.in1 s items[j] items2[j] true) ∧
        R (.ok (.ret (.bool r))) s) := by
  induction k with
  | zero =>
    intro i hk hi prog w A R s h
    obtain rfl : i = q := by lia
    obtain ⟨hp, g, d, tk, os⟩ := s; obtain ⟨hl, hb, ⟨h1, h2, he, hc⟩, _, h⟩ := h
    wp_walk using wpAny_loadPart' hl, wpAny_loadPart' hb
    have hi1 : items[((i : Nat) : Int).toNat]? = some items[i] := by simp [h1]
    have hi2 : items2[((i : Nat) : Int).toNat]? = some items2[i] := by simp [h2]
    rw [hi1, hi2]
    refine wpAny_bind (he prog w _ _ ?_)
    wp_walk using wpAny_loadPart' hl, wpAny_loadPart' hb
    rw [hi1, hi2]
    refine wpAny_bind (hc prog w _ _ ?_)
    wp_walk
    exact h
  | succ k ih =>
    intro i hk hi prog w A R s h
    obtain ⟨hp, g, d, tk, os⟩ := s; obtain ⟨hl, hb, ⟨h1, h2, he, hc⟩, hj, h⟩ := h
    have hlt : i < items.size := by lia
    have hlt2 : i < items2.size := by lia
    wp_walk using wpAny_loadPart' hl, wpAny_loadPart' hb
    have hi1 : items[((i : Nat) : Int).toNat]? = some items[i] := by simp [hlt]
    have hi2 : items2[((i : Nat) : Int).toNat]? = some items2[i] := by simp [hlt2]
    have hcc : ((i : Int) + 1) = ((i + 1 : Nat) : Int) := by lia
    rw [hi1, hi2]
    refine wpAny_bind (hj i hlt hlt2 (by lia) prog w _ _ ?_)
    wp_walk
    rw [hcc]
    exact ⟨plainId_quiet plain_eq_loop _, codeAny_builtin entry_eq_loop (by
      rw [Around.under_plainId plain_eq_loop _]
      exact ih (i + 1) (by lia) (by lia) prog w A R _ ⟨hl, hb, ⟨h1, h2, he, hc⟩, hj, h⟩)⟩
theorem list_ltAt (l b : Addr) (items items2 : Array Value) (n n2 : Nat) (dd dd2 : Option Addr) (sl sl2 : Array (Option Value)) (r : Bool) (q : Nat) :
    Meets (Builtin.«list.__lt__» ⟨[.ref l, .ref b], []⟩)
      (fun A R s => s.heap.get? l = some { cls := .type "list", dict := dd, data := .seq items n, slots := sl } ∧ s.heap.get? b = some { cls := .type "list", dict := dd2, data := .seq items2 n2, slots := sl2 } ∧
        (∃ (h1 : q < items.size) (h2 : q < items2.size), EqAt A.in1 s items[q] items2[q] false ∧ (∀ (prog : Program) (w : World) (E : Value → Shared → Prop) (Q : Value → Shared → Prop), Q (.bool r) s → wpAny (model prog w) A.in1 (richCompare .Lt items[q] items2[q]) Q E s)) ∧
        (∀ j (h1 : j < items.size) (h2 : j < items2.size), j < q → EqAt A.in1 s items[j] items2[j] true) ∧
        R (.ok (.ret (.bool r))) s) := by
  intro prog w A R s h
  obtain ⟨hp, g, d, tk, os⟩ := s; obtain ⟨hl, hb, he, hj, h⟩ := h
  have f3 := AutoSeq1.sub_list_list
  wp_walk using wpAny_loadPart' hl, wpAny_loadPart' hb
  exact ⟨plainId_quiet plain_eq_loop _, codeAny_builtin entry_eq_loop (by
    rw [Around.under_plainId plain_eq_loop _]
    exact lt_loopAt l b items items2 n n2 dd dd2 sl sl2 r q _ 0 rfl (Nat.zero_le _) prog w A R _ ⟨hl, hb, he, hj, h⟩)⟩
end
def RowAt (nw : List (Addr × Obj)) (v : Value) (r : R) : Prop := ∃ a n t1 t2 t3 t4, v = .ref a ∧ (a, listOf #[.int r.tm t1, .int (r.no : Nat) t2, .int r.en t3, .bytes r.oc.toArray t4] n) ∈ nw
theorem RowAt.mono {nw nw' : List (Addr × Obj)} {v r} (h : RowAt nw v r) (k : ∀ p ∈ nw, p ∈ nw') : RowAt nw' v r := by
  obtain ⟨x, n, t1, t2, t3, t4, e, h1⟩ := h
  exact ⟨x, n, t1, t2, t3, t4, e, k _ h1⟩
def RLt (r q : R) : Prop := r.tm < q.tm ∨ (r.tm = q.tm ∧ r.no < q.no)
instance (r q : R) : Decidable (RLt r q) := by unfold RLt; infer_instance
section
variable {prog : Program} {w : World} {A : Around} {h₀ : Heap} {L : Addr} {m : Str → Option Value} {news : List (Addr × Obj)} {s : Shared} {E : Value → Shared → Prop}
theorem row_lt {v u : Value} {r q : R} {Q : Bool → Shared → Prop} (N : News h₀ L s.heap news) (h1 : RowAt news v r) (h2 : RowAt news u q) (hne : r.no ≠ q.no) (hu : A.units < cLine) (h : Q (decide (RLt r q)) s) :
    wpAny (model prog w) A (keyLt' oneType' v u) Q E s := by
  obtain ⟨a, n, t1, t2, t3, t4, rfl, m1⟩ := h1
  obtain ⟨b, k, u1, u2, u3, u4, rfl, m2⟩ := h2
  rw [keyLt'_oneType, oneLt'_eq]
  simp only [if_true]
  have g1 := (N _ m1).1
  have g2 := (N _ m2).1
  refine wpAny_bind (wpAny_cRoomFor hu ?_)
  refine wpAny_bind (wpAny_callSpecialIfBound?_slot ⟨_, g1, rfl⟩ PySem.F.slot_list_lt ?_)
  by_cases e : r.tm = q.tm
  · have er : decide (RLt r q) = decide ((r.no : Int) < (q.no : Int)) := by
      unfold RLt
      simp only [e, Int.lt_irrefl, false_or, true_and]
      exact decide_eq_decide.mpr (by lia)
    rw [er] at h
    refine call_meets PySem.F.slot_list_lt ⟨_, g1, rfl⟩ PySem.F.entry_list_lt (PySem.F.args_list_lt_2 _ _) (list_ltAt a b _ _ n k none none #[] #[] (decide ((r.no : Int) < (q.no : Int))) 1) ⟨g1, g2, ⟨Nat.lt_of_sub_eq_succ rfl, Nat.lt_of_sub_eq_succ rfl, ?_, ?_⟩, ?_, wpAny_truthy_bool h⟩
    · have ex := PySem.SeqAt.EqAt.int_int (A := A.in1) (s := s) (r.no : Int) t2 (q.no : Int) u2
      rw [show ((r.no : Int) == (q.no : Int)) = false from beq_eq_false_iff_ne.mpr (by lia)] at ex
      exact ex
    · intro prog w E Q hq
      exact lt_int hq
    · intro j h1 h2 hj
      obtain rfl : j = 0 := by lia
      have ex := PySem.SeqAt.EqAt.int_int (A := A.in1) (s := s) r.tm t1 q.tm u1
      rw [show (r.tm == q.tm) = true from beq_iff_eq.mpr e] at ex
      exact ex
  · have er : decide (RLt r q) = decide (r.tm < q.tm) := by
      unfold RLt
      simp only [e, false_and, or_false]
    rw [er] at h
    refine call_meets PySem.F.slot_list_lt ⟨_, g1, rfl⟩ PySem.F.entry_list_lt (PySem.F.args_list_lt_2 _ _) (list_ltAt a b _ _ n k none none #[] #[] (decide (r.tm < q.tm)) 0) ⟨g1, g2, ⟨Nat.lt_of_sub_eq_succ rfl, Nat.lt_of_sub_eq_succ rfl, ?_, ?_⟩, ?_, wpAny_truthy_bool h⟩
    · have ex := PySem.SeqAt.EqAt.int_int (A := A.in1) (s := s) r.tm t1 q.tm u1
      rw [show (r.tm == q.tm) = false from beq_eq_false_iff_ne.mpr e] at ex
      exact ex
    · intro prog w E Q hq
      exact lt_int hq
    · intro j h1 h2 hj
      exact absurd hj (Nat.not_lt_zero _)
end
instance : Inhabited R := ⟨⟨0, 0, 0, []⟩⟩
section
variable {prog : Program} {w : World} {A : Around} {h₀ : Heap} {L a : Addr} {m : Str → Option Value} {news : List (Addr × Obj)} {s : Shared} {E : Value → Shared → Prop} {vs : List Value}
/-- none or one item: nothing is asked -/
theorem short_sort {n : Nat} {P : PySem.Fin → Shared → Prop} (F : Fr h₀ L s.heap m) (N : News h₀ L s.heap news) (ho : s.heap.get? a = some (seqObj "list" vs.toArray n)) (haL : a ≠ L) (ha0 : h₀.get? a = none) (hna : ∀ p ∈ news, p.1 ≠ a) (h2 : vs.length < 2)
    (h : ∀ h' c, Fr h₀ L h' m → News h₀ L h' ((a, listOf vs.toArray c) :: news) → P (.done (.ret .none)) { s with heap := h' }) :
    wpAny (model prog w) A (Builtin.«list.sort» ⟨[.ref a], []⟩) P E s := by
  obtain ⟨g, hg⟩ : ∃ g, g = ((s.heap.update a (Obj.mapSeq fun _ => (#[] : Array Value))).push (seqObj "tuple" vs.toArray 0)).push (seqObj "list" #[] 0) := ⟨_, rfl⟩
  have s1 := Heap.SameBut.update s.heap a (Obj.mapSeq fun _ => (#[] : Array Value))
  obtain ⟨e1, ho1⟩ : ∃ e1, (s.heap.update a (Obj.mapSeq fun _ => (#[] : Array Value))).get? a = some (seqObj "list" #[] e1) := ⟨_, get?_update_seq ho fun _ => #[]⟩
  have up : ∀ b x, (s.heap.update a (Obj.mapSeq fun _ => (#[] : Array Value))).get? b = some x → g.get? b = some x := fun b x e => by rw [hg]; exact Heap.get?_push_of_some _ (Heap.get?_push_of_some _ e)
  have Fg : Fr h₀ L g m := by rw [hg]; exact ((kas_fr F s1 haL ha0).push _).push _
  have Ng : News h₀ L g news := (kas_news N s1 hna).grown up
  have hga := up _ _ ho1
  obtain ⟨c, hc⟩ : ∃ c, (g.update a (Obj.mapSeq fun _ => vs.toArray)).get? a = some (seqObj "list" vs.toArray c) := ⟨_, get?_update_seq hga fun _ => vs.toArray⟩
  have s2 := Heap.SameBut.update g a (Obj.mapSeq fun _ => vs.toArray)
  have hz : vs.toArray.size < 2 := by rw [List.size_toArray]; exact h2
  have hmp : (vs.toArray.zip vs.toArray).map (·.2) = vs.toArray := by
    apply Array.toList_inj.mp
    rw [Array.toList_map, Array.toList_zip]
    exact List.map_snd_zip (Nat.le_refl _)
  rw [list_sort_plain]
  refine wpAny_bind (listItems_at ho rfl (wpAny_bind (listUpdate_at ho rfl ?_ (by rw [List.size_toArray, PySem.sizeLine_eq]; lia) (Nat.zero_le _))))
  refine wpAny_bind (seqEpoch_at ho1 rfl (wpAny_bind (wpAny_newTuple ?_ (by show vs.length ≤ _; rw [PySem.sizeLine_eq]; lia))))
  refine wpAny_bind (wpAny_newList (wpAny_holding ?_) (Nat.zero_le _))
  show wpAny (model prog w) A _ P E { s with heap := ((s.heap.update a (Obj.mapSeq fun _ => (#[] : Array Value))).push (seqObj "tuple" vs.toArray 0)).push (seqObj "list" #[] 0) }
  rw [← hg]
  dsimp only
  rw [if_pos hz, if_pos hz]
  refine wpAny_bind (wpAny_pure ?_)
  rw [StateT.run_pure]
  refine wpAny_bind (wpAny_pure ?_)
  dsimp only
  refine wpAny_bind (seqEpoch_at hga rfl (wpAny_bind (listUpdate_at hga rfl ?_ (Nat.zero_le _) (by show ((vs.toArray.zip vs.toArray).map (·.2)).size ≤ _; rw [hmp, List.size_toArray, PySem.sizeLine_eq]; lia))))
  simp only [bne_self_eq_false, Bool.false_eq_true, if_false]
  refine wpAny_pure ?_
  rw [show (fun _ : Array Value => (arrOf (SortSt.mk' general' (vs.toArray.zip vs.toArray) #[] 7 none)).map (·.2)) = fun _ => vs.toArray from funext fun _ => hmp]
  exact h _ c (kas_fr Fg s2 haL ha0) fun p hp => by
    rcases List.mem_cons.mp hp with rfl | hp
    · exact ⟨hc, haL, ha0⟩
    · exact kas_news Ng s2 hna p hp
theorem short_sorted {l : Addr} {Q : Value → Shared → Prop} (F : Fr h₀ L s.heap m) (N : News h₀ L s.heap news) (hl : s.heap.IsList l vs.toArray) (h2 : vs.length < 2)
    (h : ∀ D c h', Fr h₀ L h' m → News h₀ L h' ((D, listOf vs.toArray c) :: news) → (∀ q ∈ news, q.1 < D) → Q (.ref D) { s with heap := h' }) :
    wpAny (model prog w) A (call (.builtin "sorted") [.ref l]) Q E s := by
  refine Calls.call_function_entry kind_sorted plain_sorted entry_sorted (args_sorted1 _) ?_
  unfold Builtin.«sorted»
  refine wpAny_bind (m := checkCount "sorted" 1 1 _) (wpAny_pure (wpAny_bind (collect_list hl ?_ (by rw [PySem.sizeLine_eq]; lia))))
  obtain ⟨g, hg⟩ : ∃ g, g = (s.heap.push (seqObj "list" #[] 0)).update s.heap.objs.size (Obj.mapSeq (· ++ vs.toArray)) := ⟨_, rfl⟩
  rw [← hg]
  have hsz : g.objs.size = s.heap.objs.size + 1 := by rw [hg, Heap.size_update, size_push']
  have keep : ∀ b o, s.heap.get? b = some o → g.get? b = some o := fun b o q => by
    have hlt : b < s.heap.objs.size := Heap.lt_size q
    rw [hg, Heap.get?_update_ne _ _ _ _ (Nat.ne_of_lt hlt), Heap.get?_push_ne _ _ _ (Nat.ne_of_lt hlt)]
    exact q
  have Fg : Fr h₀ L g m := F.kept keep
  have Ng : News h₀ L g news := N.grown keep
  refine wpAny_bind (wpAny_newList ?_ (by rw [PySem.sizeLine_eq]; lia))
  have hn : ∀ q ∈ news, q.1 < g.objs.size := fun q hq => by rw [hsz]; exact Nat.lt_succ_of_lt (Heap.lt_size (N q hq).1)
  refine wpAny_bind (wpAny_holding (wpAny_call_entry slot_list_sort ⟨_, Heap.get?_push_size _ rfl, rfl⟩ entry_list_sort ?body (args_list_sort _)))
  case body =>
    refine short_sort (s := { s with heap := g.push (seqObj "list" vs.toArray 0) }) (Fg.push _) (Ng.grown fun b o e => Heap.get?_push_of_some _ e) (Heap.get?_push_size _ rfl) (Nat.ne_of_gt Fg.ns.lt) (next_is_new Fg) (fun p hp => Nat.ne_of_lt (hn p hp)) h2 fun h' c F' N' => ?_
    exact ⟨_, rfl, wpAny_pure ⟨_, rfl, h _ c h' F' N' hn⟩⟩
end
section
variable {prog : Program} {w : World} {A : Around} {h₀ : Heap} {L a : Addr} {m : Str → Option Value} {news : List (Addr × Obj)} {s : Shared} {E : Value → Shared → Prop} {vs : List Value}
theorem rd_get {rs : List R} {i : Nat} (h : i < rs.length) : rs.getD i default = rs[i] := by simp [List.getD, h]
theorem all2_at {nt : List (Addr × Obj)} {rs : List R} (H : All2 (RowAt nt) vs rs) {i : Nat} (h : i < rs.length) : RowAt nt (vs.getD i .none) (rs.getD i default) := by
  obtain ⟨v, r, e1, e2, e3⟩ := H.get h
  simp only [List.getD, e1, e2, Option.getD_some]
  exact e3
theorem all2_pick {nt : List (Addr × Obj)} {rs : List R} (H : All2 (RowAt nt) vs rs) : ∀ (l : List Nat), (∀ i ∈ l, i < rs.length) → All2 (RowAt nt) (l.map fun i => vs.getD i .none) (l.map fun i => rs.getD i default)
  | [], _ => .nil
  | i :: l, h => .cons (all2_at H (h i (.head _))) (all2_pick H l fun j hj => h j (.tail _ hj))
theorem range_pick (rs : List R) : (List.range rs.length).map (fun i => rs.getD i default) = rs := by
  apply List.ext_getElem
  · simp
  · intro i h1 h2
    simp [h2]
theorem lt_tot {rs : List R} (nd : rs.Pairwise fun a b => a.no ≠ b.no) : TotLt (fun i j => decide (RLt (rs.getD i default) (rs.getD j default))) rs.length where
  tr a b c h1 h2 := by
    simp only [decide_eq_true_eq] at h1 h2 ⊢
    unfold RLt at h1 h2 ⊢
    lia
  asym a b h1 := by
    simp only [decide_eq_true_eq, decide_eq_false_iff_not] at h1 ⊢
    unfold RLt at h1 ⊢
    lia
  tot a b ha hb hab h1 := by
    simp only [decide_eq_true_eq, decide_eq_false_iff_not] at h1 ⊢
    have hne : (rs.getD a default).no ≠ (rs.getD b default).no := by
      rw [rd_get ha, rd_get hb]
      have P := List.pairwise_iff_getElem.mp nd
      rcases Nat.lt_or_gt_of_ne hab with q | q
      · exact P a b ha hb q
      · exact fun e => P b a hb ha q e.symm
    unfold RLt at h1 ⊢
    lia
theorem sorted_rows {l : Addr} {nt : List (Addr × Obj)} {rs : List R} {Q : Value → Shared → Prop} (F : Fr h₀ L s.heap m) (N : News h₀ L s.heap news) (hl : s.heap.IsList l vs.toArray) (hs : ∀ p ∈ nt, p ∈ news) (H : All2 (RowAt nt) vs rs) (nd : rs.Pairwise fun a b => a.no ≠ b.no) (h64 : rs.length < 64) (hu : A.units + 2 < cLine)
    (h : ∀ D us qs c h', Fr h₀ L h' m → News h₀ L h' ((D, listOf (List.toArray us) c) :: news) → All2 (RowAt nt) us qs → qs.Perm rs → qs.Pairwise RLt → (∀ q ∈ news, q.1 < D) → Q (.ref D) { s with heap := h' }) :
    wpAny (model prog w) A (call (.builtin "sorted") [.ref l]) Q E s := by
  have hlen := H.len
  by_cases h2 : vs.length < 2
  · refine short_sorted F N hl h2 fun D c h' F' N' l1 => h D vs rs c h' F' N' H (.refl _) ?_ l1
    match rs, hlen with
    | [], _ => exact .nil
    | [r], _ => exact List.pairwise_singleton _ _
    | _ :: _ :: _, e => exact absurd h2 (by rw [e]; simp only [List.length_cons]; lia)
  · refine kas_sorted (T := .type "list") F N hl (by lia) (by lia) (fun h F' N' v hv => ?_) rfl fun D e1 h' F' N' l1 => ?_
    · obtain ⟨i, hi, e⟩ := List.getElem_of_mem hv
      obtain ⟨v', r, e1, e2, ⟨a, n, t1, t2, t3, t4, e3, m1⟩⟩ := H.get (i := i) (by lia)
      rw [List.getElem?_eq_getElem hi] at e1
      rw [← e, Option.some.inj e1, e3]
      exact (Looks.ld (N' _ (hs _ m1)).1).andThen .now
    · rw [hlen]
      refine so_sort (lt_tot nd) (fun i j C hi hj hij hC => ?_) (by lia) fun p hp hs' => ?_
      · have hne : (rs.getD i default).no ≠ (rs.getD j default).no := by
          rw [rd_get hi, rd_get hj]
          have P := List.pairwise_iff_getElem.mp nd
          rcases Nat.lt_or_gt_of_ne hij with q | q
          · exact P i j hi hj q
          · exact fun e => P j i hj hi q e.symm
        refine row_lt N' ((all2_at H hi).mono fun p hp => .tail _ (hs p hp)) ((all2_at H hj).mono fun p hp => .tail _ (hs p hp)) hne (by rw [units_in1, units_in1]; exact hu) hC
      · have hmem : ∀ i ∈ p.toList, i < rs.length := fun i hi => List.mem_range.mp (hp.mem_iff.mp hi)
        refine KasFin.intro F' N' (.head fun q hq => Nat.ne_of_lt (l1 q hq)) fun h2 c F2 N2 => h D _ (p.toList.map fun i => rs.getD i default) c h2 F2 N2 (all2_pick H _ hmem) ?_ ?_ l1
        · have := List.Perm.map (fun i => rs.getD i default) hp
          rw [range_pick] at this
          exact this
        · rw [List.pairwise_iff_getElem]
          intro i j hi hj hij
          have hs2 := hp.size
          have hi' : i < p.size := by simpa using hi
          have hj' : j < p.size := by simpa using hj
          have := hs' i j hij (by lia)
          simp only [decide_eq_true_eq] at this
          rw [List.getElem_map, List.getElem_map]
          have e1 : ix p i = p.toList[i]'(by simp [hi']) := by simp [ix, Array.getD, hi']
          have e2 : ix p j = p.toList[j]'(by simp [hj']) := by simp [ix, Array.getD, hj']
          rw [e1, e2] at this
          exact this
end
def PLAt (nw : List (Addr × Obj)) (v : Value) (r : R) : Prop := ∃ a n t1 t2, v = .ref a ∧ (a, listOf #[.int r.en t1, .bytes r.oc.toArray t2] n) ∈ nw
theorem PLAt.mono {nw nw' : List (Addr × Obj)} {v r} (h : PLAt nw v r) (k : ∀ p ∈ nw, p ∈ nw') : PLAt nw' v r := by
  obtain ⟨x, n, t1, t2, e, h1⟩ := h
  exact ⟨x, n, t1, t2, e, k _ h1⟩
section
variable {prog : Program} {w : World} {A : Around} {h₀ : Heap} {L a : Addr} {m : Str → Option Value} {news : List (Addr × Obj)} {s : Shared} {E : Value → Shared → Prop} {vs : List Value}
theorem ne_pls {D D' : Addr} {us ws : List Value} {n k : Nat} {rs : List R} {Q : Value → Shared → Prop} (N : News h₀ L s.heap news) (h1 : (D, listOf us.toArray n) ∈ news) (h2 : (D', listOf ws.toArray k) ∈ news) (H1 : All2 (PLAt news) us rs) (H2 : All2 (PLAt news) ws rs) (hu : A.units + 1 < cLine) (h : Q (.bool false) s) :
    wpAny (model prog w) A (compareOp .NotEq (.ref D) (.ref D')) Q E s := by
  have l1 : s.heap.IsList D us.toArray := PySem.IsL.isList (n := n) (N _ h1).1
  have l2 : s.heap.IsList D' ws.toArray := PySem.IsL.isList (n := k) (N _ h2).1
  have e1 := H1.len
  have e2 := H2.len
  have key := PySem.SeqAt.RcNeAt.lists (A := A) (e := fun _ => true) l1 l2 (by rw [List.size_toArray, List.size_toArray]; lia) (by lia) (fun j h1 h2 => by
    have hj : j < rs.length := by rw [List.size_toArray] at h1; lia
    obtain ⟨v, r, g1, g2, ⟨x, nx, t1, t2, g3, g4⟩⟩ := H1.get hj
    obtain ⟨v', r', k1, k2, ⟨y, ny, u1, u2, k3, k4⟩⟩ := H2.get hj
    rw [g2] at k2
    obtain rfl := Option.some.inj k2
    have a1 : us.toArray[j] = .ref x := by
      have : us.toArray[j]? = some v := by simpa using g1
      rw [Array.getElem?_eq_getElem h1] at this
      rw [Option.some.inj this, g3]
    have a2 : ws.toArray[j] = .ref y := by
      have : ws.toArray[j]? = some v' := by simpa using k1
      rw [Array.getElem?_eq_getElem h2] at this
      rw [Option.some.inj this, k3]
    rw [a1, a2]
    by_cases hxy : x = y
    · rw [hxy]; exact PySem.SeqAt.EqAt.same _
    · refine PySem.SeqAt.EqAt.of_refs hxy ?_
      have b1 : s.heap.IsList x #[.int r.en t1, .bytes r.oc.toArray t2] := PySem.IsL.isList (n := nx) (N _ g4).1
      have b2 : s.heap.IsList y #[.int r.en u1, .bytes r.oc.toArray u2] := PySem.IsL.isList (n := ny) (N _ k4).1
      exact PySem.SeqAt.RcAt.lists (A := A.in1) (e := fun _ => true) b1 b2 rfl (by rw [units_in1]; lia) (fun i i1 i2 => by
        match i, i1, i2 with
        | 0, _, _ => exact (beq_self_eq_true r.en) ▸ PySem.SeqAt.EqAt.int_int r.en t1 r.en u1
        | 1, _, _ => exact (beq_self_eq_true r.oc) ▸ eqAt_bytes r.oc r.oc t2 u2))
  refine key prog w E Q ?_
  rw [show (List.range us.toArray.size).all (fun _ => true) = true by simp]
  exact h
end
theorem rlt_asymm {a b : R} (h : RLt a b) : ¬ RLt b a := by unfold RLt at *; lia
theorem sorted_eq : ∀ {a b : List R}, a.Perm b → a.Pairwise RLt → b.Pairwise RLt → a = b
  | [], b, h, _, _ => h.symm.eq_nil.symm ▸ rfl
  | x :: a, [], h, _, _ => absurd h.eq_nil (by simp)
  | x :: a, y :: b, h, h1, h2 => by
    have hx : x = y := by
      have m1 : x ∈ y :: b := h.mem_iff.mp (.head _)
      have m2 : y ∈ x :: a := h.mem_iff.mpr (.head _)
      rcases List.mem_cons.mp m1 with e | m1
      · exact e
      · rcases List.mem_cons.mp m2 with e | m2
        · exact e.symm
        · exact absurd ((List.pairwise_cons.mp h1).1 _ m2) (rlt_asymm ((List.pairwise_cons.mp h2).1 _ m1))
    subst hx
    rw [sorted_eq ((List.perm_cons _).mp h) (List.pairwise_cons.mp h1).2 (List.pairwise_cons.mp h2).2]
theorem split_eq {rs a b : List R} {x : Int} (hso : rs.Pairwise RLt) (e : rs = a ++ b) (h1 : ∀ r ∈ a, r.tm ≤ x) (h2 : ∀ r q, b = r :: q → x < r.tm) : rs.filter (fun r => decide (r.tm ≤ x)) = a ∧ rs.filter (fun r => decide (x < r.tm)) = b := by
  subst e
  have hb : ∀ r ∈ b, x < r.tm := by
    cases b with
    | nil => intro r hr; cases hr
    | cons r q =>
      have h0 := h2 r q rfl
      have hp := (List.pairwise_append.mp hso).2.1
      intro r' hr
      rcases List.mem_cons.mp hr with rfl | hr
      · exact h0
      · have := (List.pairwise_cons.mp hp).1 _ hr
        unfold RLt at this
        lia
  constructor
  · rw [List.filter_append, List.filter_eq_self.mpr (fun r hr => decide_eq_true (h1 r hr)), List.filter_eq_nil_iff.mpr (fun r hr => by simp only [decide_eq_true_eq]; have := hb r hr; lia), List.append_nil]
  · rw [List.filter_append, List.filter_eq_nil_iff.mpr (fun r hr => by simp only [decide_eq_true_eq]; have := h1 r hr; lia), List.filter_eq_self.mpr (fun r hr => decide_eq_true (hb r hr)), List.nil_append]
section
variable {prog : Program} {w : World} {A : Around} {s : Shared} {h₀ : Heap} {L : Addr} {m : Str → Option Value} {env : Env}
theorem CRestT.ind {ct elt : Expr} {x : Str} {scope : Scope} {cl : List (Str × Addr)} {S : List (Addr × Obj) → Prop} {P : Nat → Value → Prop} {Fin : List Value → List (Addr × Obj) → Prop} {n : Nat} (J : Nat → List Value → List (Addr × Obj) → Prop)
    (turn : ∀ i ys news v I oI C oC D m₂ h tk (E' : Value → Shared → Prop), i < n → J i ys news → P i v → LCg.NsObj oC m₂ → m₂ x = some v → Fr h₀ L h m → News h₀ L h ((I, oI) :: (C, oC) :: (D, LCg.lst ys) :: news) → LCg.Off3 I C D news → ((@Ne Nat I C) ∧ (@Ne Nat I D) ∧ (@Ne Nat C D)) →
      wpAny (model prog w) A (isTrue ct (compEnvC scope cl C env) (eval ct (compEnvC scope cl C env))) (fun ok s' => if ok = true then
        wpAny (model prog w) A (eval elt (compEnvC scope cl C env)) (LCg.CompEnd h₀ L m { s with heap := h, toks := tk } I oI C oC D (LCg.lst ys) S (fun y news' => J (i + 1) (ys ++ [y]) news')) E' s'
        else LCg.CompEnd h₀ L m { s with heap := h, toks := tk } I oI C oC D (LCg.lst ys) S (fun _ news' => J (i + 1) ys news') Value.none s') E' { s with heap := h, toks := tk })
    (done : ∀ ys news, J n ys news → Fin ys news) {news : List (Addr × Obj)} (h0 : J 0 [] news) : LCt.CompRestT prog w A h₀ L m env ct elt x scope cl s S P Fin n 0 [] news := by
  have key : ∀ k i ys news, i + k = n → J i ys news → LCt.CompRestT prog w A h₀ L m env ct elt x scope cl s S P Fin k i ys news := by
    intro k
    induction k with
    | zero =>
      intro i ys news hi hJ
      have : i = n := by lia
      subst this
      exact LCt.CompRestT.zero (done ys news hJ)
    | succ k ih =>
      intro i ys news hi hJ
      refine LCt.CompRestT.succ fun v I oI C oC D m₂ h tk E' hP ho hm F N off ne => ?_
      refine wpAny_mono (turn i ys news v I oI C oC D m₂ h tk E' (by lia) hJ hP ho hm F N off ne) (fun ok s₂ h₂ => ?_) fun _ _ e => e
      cases ok with
      | true =>
        simp only [if_true] at h₂ ⊢
        refine wpAny_mono h₂ (fun y s₃ h₃ => ?_) fun _ _ e => e
        obtain ⟨h', tk', nw, e, F', N', o, hs, hj⟩ := h₃
        exact ⟨h', tk', nw, e, F', N', o, hs, ih (i + 1) _ nw (by lia) hj⟩
      | false =>
        simp only [Bool.false_eq_true, if_false] at h₂ ⊢
        obtain ⟨h', tk', nw, e, F', N', o, hs, hj⟩ := h₂
        exact ⟨h', tk', nw, e, F', N', o, hs, ih (i + 1) _ nw (by lia) hj⟩
  exact key n 0 [] news (by lia) h0
theorem CRestT.indO {ct elt : Expr} {x : Str} {scope : Scope} {cl : List (Str × Addr)} {S : List (Addr × Obj) → Prop} {P : Nat → Value → Prop} {Fin : List Value → List (Addr × Obj) → Prop} {n : Nat} (J : Nat → List Value → List (Addr × Obj) → Prop)
    (turn : ∀ (K : List Value → List (Addr × Obj) → Prop) (z : Shared) i ys news v I oI C oC D m₂ h tk (E' : Value → Shared → Prop), (∀ y n', J (i + 1) y n' → K y n') → i < n → J i ys news → P i v → LCg.NsObj oC m₂ → m₂ x = some v → Fr h₀ L h m → News h₀ L h ((I, oI) :: (C, oC) :: (D, LCg.lst ys) :: news) → LCg.Off3 I C D news → ((@Ne Nat I C) ∧ (@Ne Nat I D) ∧ (@Ne Nat C D)) →
      wpAny (model prog w) A (isTrue ct (compEnvC scope cl C env) (eval ct (compEnvC scope cl C env))) (fun ok s' => if ok = true then
        wpAny (model prog w) A (eval elt (compEnvC scope cl C env)) (LCg.CompEnd h₀ L m { z with heap := h, toks := tk } I oI C oC D (LCg.lst ys) S (fun y news' => K (ys ++ [y]) news')) E' s'
        else LCg.CompEnd h₀ L m { z with heap := h, toks := tk } I oI C oC D (LCg.lst ys) S (fun _ news' => K ys news') Value.none s') E' { z with heap := h, toks := tk })
    (done : ∀ ys news, J n ys news → Fin ys news) {news : List (Addr × Obj)} (h0 : J 0 [] news) : LCt.CompRestT prog w A h₀ L m env ct elt x scope cl s S P Fin n 0 [] news :=
  CRestT.ind J (fun i ys news v I oI C oC D m₂ h tk E' hi hJ hP ho hm F N off ne => turn (J (i + 1)) s i ys news v I oI C oC D m₂ h tk E' (fun _ _ h => h) hi hJ hP ho hm F N off ne) done h0
end
theorem reg_G1_1 : True := by
  (k_with "CompSrcT" => (refine keep_of ?_))
  (k_with "compareOp NotEq ref ref" => (refine keep_of ?_))
  exact trivial
theorem take_filter {qs : List R} {i : Nat} {r : R} (f : R → Bool) (h : qs[i]? = some r) : (qs.take (i + 1)).filter f = (qs.take i).filter f ++ if f r = true then [r] else [] := by
  rw [List.take_add_one, h, List.filter_append]
  show _ ++ [r].filter f = _
  cases e : f r <;> simp [e]
section
variable {w : World} {A : Around} {h₀ : Heap} {L : Addr} {m : Str → Option Value} {nw : List (Addr × Obj)} {s : Shared} {Q E : Value → Shared → Prop}
theorem time_callM {nt : List (Addr × Obj)} {ln dl fo bl tl : Addr} {TT : Nat → Tok} {d sp mo : Int} {tf : Nat → Tok} {cn : Nat → Int} {tc : Nat → Tok} {vs : List Value} {rs : List R} {kt : Nat}
   (C : Cx w A 8 80 h₀ L m nw s) (mi : (ln, instObj 285 dl) ∈ nw) (md : (dl, dictOf (lineD w TT fo bl tl d sp mo tf cn tc) 10) ∈ nw) (mt : (tl, listOf vs.toArray kt) ∈ nw) (hs : ∀ p ∈ nt, p ∈ nw) (hr : Trs nt vs rs)
   (ret : ∀ t h' tk', Fr h₀ L h' m → News h₀ L h' nw → Q (match rs with | [] => .none | r :: _ => .int r.tm t) { s with heap := h', toks := tk' }) :
   wpAny (model PySem.Challenge.pw_nu0127_01 w) A (call (.ref 282) [.ref ln]) Q E s := by
  refine time_call (dl := dl) (fo := fo) (bl := bl) (tl := tl) (TT := TT) (d := d) (sp := sp) (mo := mo) (tf := tf) (cn := cn) (tc := tc) (kt := kt) (news := nw) (C.led fun p hp => ?_) hs hr fun t h' tk' F' N' => ret t h' tk' F' (cb_drop N' fun p hp => .tail _ (.tail _ (.tail _ hp)))
  simp only [List.mem_cons] at hp
  rcases hp with rfl | rfl | rfl | hp
  · exact mi
  · exact md
  · exact mt
  · exact hp
theorem arrivals_callF {nt : List (Addr × Obj)} {ln dl fo bl tl : Addr} {TT : Nat → Tok} {d sp mo : Int} {tf : Nat → Tok} {cn : Nat → Int} {tc : Nat → Tok} {vs : List Value} {rs : List R} {kt : Nat} {x : Int} {ta : Tok} {g : Obj → List (Addr × Obj)}
   (C : Cx w A 8 80 h₀ L m nw s) (mi : (ln, instObj 285 dl) ∈ nw) (md : (dl, dictOf (lineD w TT fo bl tl d sp mo tf cn tc) 10) ∈ nw) (U : UpdF tl (listOf vs.toArray kt) nw g) (hs : ∀ p ∈ nt, p ∈ nw) (hst : ∀ p ∈ nt, p.1 ≠ tl) (hr : Trs nt vs rs) (hz : rs.length ≤ 100)
   (o1 : @LT.lt Nat _ dl ln) (o2 : @LT.lt Nat _ ln tl)
   (ret : ∀ a b us kt' fd tps nf ext h' tk', rs = a ++ b → (∀ r ∈ a, r.tm ≤ x) → (∀ r q, b = r :: q → x < r.tm) → Fr h₀ L h' m →
     News h₀ L h' (((fd, listOf tps.toArray nf) :: g (listOf us.toArray kt')) ++ ext) → Trs nt us b → All2 (TupAt ext) tps a → (∀ p ∈ nw, p.1 < fd) →
     Q (.ref fd) { s with heap := h', toks := tk' }) :
   wpAny (model PySem.Challenge.pw_nu0127_01 w) A (call (.ref 275) [.ref ln, .int x ta]) Q E s := by
  obtain ⟨own, rest, rfl, hg, h1, h2⟩ := U.split
  have hs' : ∀ p ∈ nt, p ∈ own ++ rest := fun p hp => by
    rcases List.mem_append.mp (hs p hp) with q | q
    · exact List.mem_append_left _ q
    · rcases List.mem_cons.mp q with rfl | q
      · exact absurd rfl (hst _ hp)
      · exact List.mem_append_right _ q
  refine arrivals_call (dl := dl) (fo := fo) (bl := bl) (tl := tl) (TT := TT) (d := d) (sp := sp) (mo := mo) (tf := tf) (cn := cn) (tc := tc) (kt := kt) (news := own ++ rest) (C.led fun p hp => ?_) hs' hr hz o1 o2 (fun p hp => (List.mem_append.mp hp).elim (h1 p) (h2 p)) fun a b us kt' fd tps nf ext h' tk' e1 e2 e3 F' N' T1 T2 l1 l2 => ret a b us kt' fd tps nf ext h' tk' e1 e2 e3 F' ?_ T1 T2 ?_
  · simp only [List.mem_cons] at hp
    rcases hp with rfl | rfl | rfl | hp
    · exact mi
    · exact md
    · exact List.mem_append_right _ (.head _)
    · exact (List.mem_append.mp hp).elim (List.mem_append_left _) fun q => List.mem_append_right _ (.tail _ q)
  · rw [hg]
    refine cb_drop N' fun p hp => ?_
    simp only [List.mem_cons, List.mem_append] at hp ⊢
    rcases hp with (h | h | h | h) | h <;> simp only [h, true_or, or_true]
  · intro p hp
    refine l1 p ?_
    simp only [List.mem_cons, List.mem_append] at hp ⊢
    rcases hp with h | h | h <;> simp only [h, true_or, or_true]
end
section
variable {prog : Program} {w : World} {A : Around} {h₀ : Heap} {L : Addr} {m : Str → Option Value} {news : List (Addr × Obj)} {s : Shared} {Q E : Value → Shared → Prop}
theorem ne_nil {D b : Addr} {vs : List Value} {n k : Nat} (N : News h₀ L s.heap news) (h1 : (D, listOf vs.toArray n) ∈ news) (h2 : (b, listOf #[] k) ∈ news) (hu : A.units < cLine) (h : Q (.bool (!vs.isEmpty)) s) :
    wpAny (model prog w) A (compareOp .NotEq (.ref D) (.ref b)) Q E s := by
  have l1 : s.heap.IsList D vs.toArray := PySem.IsL.isList (n := n) (N _ h1).1
  have l2 : s.heap.IsList b #[] := PySem.IsL.isList (n := k) (N _ h2).1
  cases vs with
  | nil => exact PySem.SeqAt.RcNeAt.lists (e := fun _ => true) l1 l2 rfl hu (fun j h1 _ => absurd h1 (Nat.not_lt_zero _)) prog w E Q h
  | cons v r => exact PySem.SeqAt.RcNeAt.lists_lengths l1 l2 (by simp) hu prog w E Q h
end
theorem comp_sub (a b c d : Addr × Obj) (nw : List (Addr × Obj)) : ∀ p ∈ b :: c :: d :: a :: nw, p ∈ a :: b :: c :: d :: nw := fun p hp => by
  simp only [List.mem_cons] at hp ⊢
  rcases hp with h | h | h | h | h <;> simp only [h, true_or, or_true]
theorem all_lt_cons {d : Addr} {a : Addr × Obj} {l : List (Addr × Obj)} (h : a.1 < d) (k : ∀ p ∈ l, p.1 < d) : ∀ p ∈ a :: l, p.1 < d := fun p hp => by
  rcases List.mem_cons.mp hp with rfl | hp
  · exact h
  · exact k p hp
section
variable {w : World} {A : Around} {h₀ : Heap} {L : Addr} {m : Str → Option Value} {news : List (Addr × Obj)} {s : Shared} {Q E : Value → Shared → Prop}
set_option maxHeartbeats 8000000 in
theorem looked_call {nt : List (Addr × Obj)} {ln dl fo bl tl wl : Addr} {TT : Nat → Tok} {d sp mo : Int} {tf : Nat → Tok} {cn : Nat → Int} {tc : Nat → Tok} {vs ws : List Value} {rs qs : List R} {kt kw : Nat} {x : Int} {ta : Tok}
   (C : Cx w A 30 300 h₀ L m ((ln, instObj 285 dl) :: (dl, dictOf (lineD w TT fo bl tl d sp mo tf cn tc) 10) :: (tl, listOf vs.toArray kt) :: (wl, listOf ws.toArray kw) :: news) s) (hs : ∀ p ∈ nt, p ∈ news) (hr : Trs nt vs rs) (hw : All2 (RowAt nt) ws qs) (hpm : qs.Perm rs) (hso : rs.Pairwise RLt) (nd : rs.Pairwise fun a b => a.no ≠ b.no) (hz : rs.length ≤ 60)
   (o1 : @LT.lt Nat _ dl ln) (o2 : @LT.lt Nat _ ln tl) (o4 : ∀ p ∈ news, p.1 ≠ tl) (o5 : @Ne Nat wl tl)
   (ret : ∀ us D ws' kt' kw' h' tk', Trs nt us (rs.filter fun r => decide (x < r.tm)) → All2 (RowAt nt) ws' (rs.filter fun r => decide (x < r.tm)) → Fr h₀ L h' m →
     News h₀ L h' ((ln, instObj 285 dl) :: (dl, dictOf (lineD w TT fo bl tl d sp mo tf cn tc) 10) :: (tl, listOf us.toArray kt') :: (D, listOf ws'.toArray kw') :: news) →
     (∀ p ∈ (ln, instObj 285 dl) :: (dl, dictOf (lineD w TT fo bl tl d sp mo tf cn tc) 10) :: (tl, listOf vs.toArray kt) :: (wl, listOf ws.toArray kw) :: news, p.1 < D) → Q (.ref D) { s with heap := h', toks := tk' }) :
   wpAny (model PySem.Challenge.pw_nu0127_01 w) A (call (.ref 360) [.ref ln, .ref wl, .int x ta]) Q E s := by
  refine Cx.elim (P := fun A => wpAny _ A _ _ _ _) C fun dp un gd cnn cs fa ccd cl outer A₀ base mg mb mean loose B F X N T hk hdp hun => ?_
  have hlen := hr.len
  have hlw := hw.len
  have hlp := hpm.length_eq
  have hndq : qs.Pairwise fun a b => a.no ≠ b.no := hpm.symm.pairwise nd fun h e => h e.symm
  refine wpAny_call ?_
  have gdG1_9 : Unit := ()
  w_top off
  w_strict (
    (k_with "eval ListComp" => (fail_if_success fail_if_success have := gdG1_9); ((with_reducible show wpAny _ _ (eval (Expr.ListComp _ [⟨_, _, [], _⟩] _ _) _) _ _ _); k_here; k_dflt (refine LCg.ListComp_U (F₀ := by k_asm) (by with_unfolding_all rfl) (by decide) (by rfl) (by decide) (by rfl) ?_); k_dflt lcg_toSrc))
    (k_with "subscriptTail Name Constant ref int" => (fail_if_success fail_if_success have := gdG1_9); first | (k_dflt (refine' sub_list (v := .ref aL) ?N ?m ?h0 ?hv ?hf ?_ ?hs; (case N => k_asm); (case m => k_mem); (case h0 => decide); (case hv => exact rfl); (case hf => decide); (case hs => with_unfolding_all rfl))) | (k_dflt (refine' sub_list (v := .int _ q1) ?N ?m ?h0 ?hv ?hf ?_ ?hs; (case N => k_asm); (case m => k_mem); (case h0 => decide); (case hv => exact rfl); (case hf => decide); (case hs => with_unfolding_all rfl))))
    (k_with "call ref" => (fail_if_success fail_if_success have := gdG1_9); first
      | ((with_reducible show wpAny _ _ (call (Value.ref 282) _) _ _ _); k_dflt (refine' time_callM (nt := nt) ?C ?mi ?md ?mt ?hs ?hr ?_; (case C => k_extra "cx_now"); (case mi => k_mem); (case md => k_mem); (case mt => k_mem); (case hs => (intro p hp; have hp2 := knt p hp; simp only [List.mem_cons, hp2, or_true])); (case hr => exact TA1)); intro tT hT tkT FT NT)
      | ((with_reducible show wpAny _ _ (call (Value.ref 275) _) _ _ _); k_dflt (refine' arrivals_callF (nt := nt) ?C ?mi ?md ?U ?hs ?hst ?hr ?hz ?o1 ?o2 ?_; (case C => k_extra "cx_now"); (case mi => k_mem); (case md => k_mem); (case U => k_updF); (case hs => (intro p hp; have hp2 := hs p hp; simp only [List.mem_cons, hp2, or_true])); (case hst => exact fun p hp => o4 p (hs p hp)); (case hr => exact hr); (case hz => lia); (case o1 => assumption); (case o2 => assumption)); intro ra rb usA ktA fd tps nfA extA hA tkA eA1 eA2 eA3 FA NA TA1 TA2 lA; (simp only [List.cons_append] at NA)))
    (k_with "call builtin:sorted" => (fail_if_success fail_if_success have := gdG1_9); first | ((have Hx := Hs1); (k_dflt (refine' sorted_rows (nt := nt) ?F ?N ?hl ?hs ?H ?nd ?h64 ?hu ?_; (case F => k_asm); (case N => k_asm); (case hl => exact PySem.IsL.isList (News.get (by k_asm) (by k_mem))); (case hs => (intro p hp; have hp2 := hs p hp; simp only [List.mem_cons, hp2, or_true])); (case H => assumption); (case nd => exact List.Pairwise.filter _ hndq); (case h64 => exact Nat.lt_of_le_of_lt (List.length_filter_le _ _) (by lia)); (case hu => ktr_units)); intro Ds2 us2 qs2 cs2 hs2 Fs2 Ns2 Hs2 Ps2 So2 ls2; (try k_lt ls2))) | ((k_dflt (refine' sorted_rows (nt := nt) ?F ?N ?hl ?hs ?H ?nd ?h64 ?hu ?_; (case F => k_asm); (case N => k_asm); (case hl => exact PySem.IsL.isList (News.get (by k_asm) (by k_mem))); (case hs => (intro p hp; have hp2 := hs p hp; simp only [List.mem_cons, hp2, or_true])); (case H => assumption); (case nd => exact List.Pairwise.filter _ hndq); (case h64 => exact Nat.lt_of_le_of_lt (List.length_filter_le _ _) (by lia)); (case hu => ktr_units)); intro Ds us1 qs1 cs1 hs1 Fs1 Ns1 Hs1 Ps1 So1 ls1; (try k_lt ls1))))
    k_dflt (refine' code_defC ?k1 ?k2 ?k3 ?k4 ?k5 ?kA ?kF ?kK ?k6 ?k7 ?k8 ?k9 ?kB ?kD ?_ ?c2 ?c3 ?c4; (case kA => exact rfl); (case kF => exact rfl); (case kK => first | exact rfl | assumption); (case k1 => k_asm); (case k2 => k_asm); (case k3 => k_asm); (case k4 => k_asm); (case k5 => k_asm); (case k6 => k_is); (case k7 => k_is); (case k8 => ktr_room); (case k9 => first | exact BindsTo.of_eq rfl | exact binds_K (by k_in) rfl (by k_is) rfl rfl rfl); (case kB => exact rfl); (case kD => decide +kernel); (case c2 => exact rfl); (case c3 => exact rfl); (case c4 => exact rfl); k_whole; intro gE L1 hE tkE cellsE FGE FE NE YE BE XE TE lE; (have lE1 := lE); (try k_lt lE); (obtain ⟨oc, hEc, dc⟩ := CellsAre.one YE; subst hEc; clear YE); (try simp only [List.cons_append, List.nil_append] at NE); (try dsimp only); (try k_lift BE); (try k_fold))
    have dc2 : oc.data = .cell (some (.int x ta)) := dc
    clear dc
    k_steps
    rename News _ _ _ _ => N3
    rename Fr _ _ _ _ => F3
    unfold Keep
    generalize hNL : ((L1 + 1, oc) :: _ : List (Addr × Obj)) = NL at N3
    refine LCt.CompSrcT.ledger (its := ws.toArray) (k := kw) (by rfl) F3 N3 (by rw [← hNL]; exact .tail _ (.tail _ (.tail _ (.tail _ (.head _))))) (by rw [List.size_toArray, PySem.sizeLine_eq]; lia) (fun gz => CRestT.indO (fun i ys nw => Keep (nw = NL ∧ All2 (RowAt nt) ys ((qs.take i).filter fun r => decide (r.tm ≤ x)))) ?turn ?done ?start)
    case start => exact ⟨rfl, .nil⟩
    case turn =>
      clear F3 N3
      rintro KK1 zz1 i ys nw v I oI Cx1 oC D m₂ hh tk2 E' up1 hi ⟨rfl, p1⟩ hv ho hm F5 N5 off ne
      have hi' : i < qs.length := by rw [List.size_toArray] at hi; lia
      obtain ⟨v', r0, e1, e2, ⟨a0, n0, q1, q2, q3, q4, rfl, m1⟩⟩ := hw.get hi'
      have hv2 : ws.toArray[i]? = some v := hv
      rw [List.getElem?_toArray, e1] at hv2
      obtain rfl := Option.some.inj hv2
      have m1' := m1
      replace m1 := hs _ m1
      subst hNL
      have offK := off
      simp only [LCg.Off3] at off
      k_steps
      all_goals (refine LCg.CompEnd.intro F5 N5 _ (fun p hp => hp) offK (.inr ⟨_, .tail _ (.tail _ (.tail _ (.tail _ (.head _)))), rfl, _, rfl⟩) (up1 _ _ ⟨rfl, ?_⟩))
      · rw [take_filter _ e2, if_pos (decide_eq_true (by assumption))]
        exact p1.app (.cons ⟨a0, n0, q1, q2, q3, q4, rfl, m1'⟩ .nil)
      · rw [take_filter _ e2, if_neg (by simp only [decide_eq_true_eq]; assumption), List.append_nil]
        exact p1
    case done =>
      clear F3 N3
      rintro ys nw ⟨rfl, p1⟩ D hh tk2 F5 N5 off
      rw [List.size_toArray, hlw, List.take_length] at p1
      subst hNL
      have offK := off
      simp only [LCg.Off1] at off
      k_steps
      rename News _ _ _ _ => N6
      rename Fr _ _ _ _ => F6
      unfold Keep
      generalize hNL2 : ((Ds, listOf us1.toArray cs1) :: _ : List (Addr × Obj)) = NL2 at N6
      refine LCt.CompSrcT.ledger (its := ws.toArray) (k := kw) (by rfl) F6 N6 (by rw [← hNL2]; exact .tail _ (.tail _ (.tail _ (.tail _ (.tail _ (.tail _ (.head _))))))) (by rw [List.size_toArray, PySem.sizeLine_eq]; lia) (fun gz => CRestT.indO (fun i ys nw => Keep (nw = NL2 ∧ All2 (RowAt nt) ys ((qs.take i).filter fun r => decide (x < r.tm)))) ?turn2 ?done2 ?start2)
      case start2 => exact ⟨rfl, .nil⟩
      case turn2 =>
        clear F6 N6
        rintro KK2 zz2 i ys2 nw v I oI Cx1 oC D2 m₂ hh tk2 E' up2 hi ⟨rfl, p2⟩ hv ho hm F5 N5 off2 ne
        have hi' : i < qs.length := by rw [List.size_toArray] at hi; lia
        obtain ⟨v', r0, e1, e2, ⟨a0, n0, q1, q2, q3, q4, rfl, m1⟩⟩ := hw.get hi'
        have hv2 : ws.toArray[i]? = some v := hv
        rw [List.getElem?_toArray, e1] at hv2
        obtain rfl := Option.some.inj hv2
        have m1' := m1
        replace m1 := hs _ m1
        subst hNL2
        have offK2 := off2
        simp only [LCg.Off3] at off2
        k_steps
        all_goals (refine LCg.CompEnd.intro F5 N5 _ (fun p hp => hp) offK2 (.inr ⟨_, .tail _ (.tail _ (.tail _ (.tail _ (.tail _ (.tail _ (.head _)))))), rfl, _, rfl⟩) (up2 _ _ ⟨rfl, ?_⟩))
        · rw [take_filter _ e2, if_pos (decide_eq_true (by lia))]
          exact p2.app (.cons ⟨a0, n0, q1, q2, q3, q4, rfl, m1'⟩ .nil)
        · rw [take_filter _ e2, if_neg (by simp only [decide_eq_true_eq]; lia), List.append_nil]
          exact p2
      case done2 =>
        clear F6 N6
        rintro ys2 nw ⟨rfl, p2⟩ D2 hh tk2 F5 N5 off2
        rw [List.size_toArray, hlw, List.take_length] at p2
        subst hNL2
        have offK2 := off2
        simp only [LCg.Off1] at off2
        k_steps
        rename News _ _ _ _ => N7
        rename Fr _ _ _ _ => F7
        unfold Keep
        obtain ⟨sp1, sp2⟩ := split_eq hso eA1 eA2 eA3
        obtain rfl := sorted_eq (Ps1.trans ((hpm.filter _).trans (by rw [sp1]))) So1 (sp1 ▸ hso.filter _)
        obtain rfl := sorted_eq (Ps2.trans ((hpm.filter _).trans (by rw [sp2]))) So2 (sp2 ▸ hso.filter _)
        have hra : qs1.length ≤ 60 := by have := congrArg List.length eA1; rw [List.length_append] at this; lia
        have hlA := TA2.len
        have hlD := Hs1.len
        generalize hNL3 : ((fd, listOf tps.toArray nfA) :: _ : List (Addr × Obj)) = NL3 at N7
        refine LCg.CompSrc.ledger (its := tps.toArray) (k := nfA) (by rfl) F7 N7 (by rw [← hNL3]; exact .head _) (by rw [List.size_toArray, PySem.sizeLine_eq]; lia) (fun gz => CRest.indO (fun i ys nw => Keep ((∀ p ∈ NL3, p ∈ nw) ∧ All2 (PLAt nw) ys (qs1.take i))) ?turn3 ?done3 ?start3)
        case start3 => exact ⟨fun p hp => hp, .nil⟩
        case turn3 =>
          clear F7 N7
          rintro KK3 zz3 i ys3 nw v I oI Cx1 oC D3 m₂ hh tk2 E' up3 hi ⟨p3, p4⟩ hv ho hm F5 N5 off3 ne
          have hi' : i < qs1.length := by rw [List.size_toArray] at hi; lia
          obtain ⟨v', r0, e1, e2, ⟨a0, q1, q2, rfl, m1⟩⟩ := TA2.get hi'
          have hv2 : tps.toArray[i]? = some v := hv
          rw [List.getElem?_toArray, e1] at hv2
          obtain rfl := Option.some.inj hv2
          have m2 := p3 (a0, tupO [.int r0.en q1, .bytes r0.oc.toArray q2]) (by rw [← hNL3]; simp only [List.mem_cons, List.mem_append, m1, or_true])
          k_steps
          rename News _ _ _ _ => N9
          rename Fr _ _ _ _ => F9
          rename (I < _ ∧ _) => l9
          refine LCg.CompEnd.intro F9 N9 (_ :: nw) (comp_sub _ _ _ _ _) ⟨⟨Nat.ne_of_gt l9.1, Nat.ne_of_gt l9.2.1, Nat.ne_of_gt l9.2.2.1⟩, off3⟩ (.inr ⟨_, .tail _ (p3 _ (by rw [← hNL3]; exact .head _)), rfl, _, rfl⟩) (up3 _ _ ⟨fun p hp => .tail _ (p3 p hp), ?_⟩)
          rw [List.take_add_one, e2]
          exact (p4.mono fun a b h => h.mono fun p hp => .tail _ hp).app (.cons ⟨_, _, q1, q2, rfl, .head _⟩ .nil)
        case done3 =>
          clear F7 N7
          rintro ys3 nw ⟨p3, p4⟩ D3 hh tk2 F5 N5 off3
          rw [List.size_toArray, hlA, List.take_length] at p4
          have gDs := p3 (Ds, listOf us1.toArray cs1) (by rw [← hNL3]; simp only [List.mem_cons, true_or, or_true])
          have gDs2 := p3 (Ds2, listOf us2.toArray cs2) (by rw [← hNL3]; simp only [List.mem_cons, true_or, or_true])
          have gln := p3 (ln, instObj 285 dl) (by rw [← hNL3]; simp only [List.mem_cons, true_or, or_true])
          have gdl := p3 (dl, dictOf (lineD w TT fo bl tl d sp mo tf cn tc) 10) (by rw [← hNL3]; simp only [List.mem_cons, true_or, or_true])
          have gtl := p3 (tl, listOf usA.toArray ktA) (by rw [← hNL3]; simp only [List.mem_cons, true_or, or_true])
          have gnt : ∀ p ∈ nt, p ∈ nw := fun p hp => p3 p (by rw [← hNL3]; simp only [List.mem_cons, List.mem_append, hs p hp, true_or, or_true])
          k_steps
          rename News _ _ _ _ => N7
          rename Fr _ _ _ _ => F7
          unfold Keep
          refine LCg.CompSrc.ledger (its := us1.toArray) (k := cs1) (by rfl) F7 N7 (.tail _ gDs) (by rw [List.size_toArray, PySem.sizeLine_eq]; lia) (fun gz => CRest.indO (fun i ys nw2 => Keep ((∀ p ∈ (D3, LCg.lst ys3) :: nw, p ∈ nw2) ∧ All2 (PLAt nw2) ys (qs1.take i))) ?turn4 ?done4 ?start4)
          case start4 => exact ⟨fun p hp => hp, .nil⟩
          case turn4 =>
            clear F7 N7
            rintro KK4 zz4 i ys4 nw2 v I oI Cx1 oC D4 m₂ hh tk2 E' up4 hi ⟨p5, p6⟩ hv ho hm F5 N5 off4 ne
            have hi' : i < qs1.length := by rw [List.size_toArray] at hi; lia
            obtain ⟨v', r0, e1, e2, ⟨a0, n0, q1, q2, q3, q4, rfl, m1⟩⟩ := Hs1.get hi'
            have hv2 : us1.toArray[i]? = some v := hv
            rw [List.getElem?_toArray, e1] at hv2
            obtain rfl := Option.some.inj hv2
            have m2 := p5 _ (.tail _ (gnt _ m1))
            k_steps
            rename News _ _ _ _ => N9
            rename Fr _ _ _ _ => F9
            rename (I < _ ∧ _) => l9
            refine LCg.CompEnd.intro F9 N9 (_ :: nw2) (comp_sub _ _ _ _ _) ⟨⟨Nat.ne_of_gt l9.1, Nat.ne_of_gt l9.2.1, Nat.ne_of_gt l9.2.2.1⟩, off4⟩ (.inr ⟨_, .tail _ (p5 _ (.tail _ gDs)), rfl, _, rfl⟩) (up4 _ _ ⟨fun p hp => .tail _ (p5 p hp), ?_⟩)
            rw [List.take_add_one, e2]
            exact (p6.mono fun a b h => h.mono fun p hp => .tail _ hp).app (.cons ⟨_, _, q3, q4, rfl, .head _⟩ .nil)
          case done4 =>
            clear F7 N7
            rintro ys4 nw2 ⟨p5, p6⟩ D4 hh tk2 F5 N5 off4
            rw [List.size_toArray, hlD, List.take_length] at p6
            have kD3 := p5 _ (.head _)
            have kDs2 := p5 _ (.tail _ gDs2)
            have kln := p5 _ (.tail _ gln)
            have kdl := p5 _ (.tail _ gdl)
            have ktl := p5 _ (.tail _ gtl)
            have knt : ∀ p ∈ nt, p ∈ nw2 := fun p hp => p5 p (.tail _ (gnt p hp))
            have knews : ∀ p ∈ news, p ∈ nw2 := fun p hp => p5 p (.tail _ (p3 p (by rw [← hNL3]; simp only [List.mem_cons, List.mem_append, hp, true_or, or_true])))
            have H3 : All2 (PLAt nw2) ys3 qs1 := p4.mono fun a b h => h.mono fun p hp => p5 p (.tail _ hp)
            rcases Hs2 with _ | ⟨⟨aL, nL, q1, q2, q3, q4, rfl, mL⟩, HL⟩
            all_goals try (have mL2 := knt _ mL)
            all_goals k_steps
            all_goals (unfold Keep; refine' ne_pls (rs := qs1) (us := ys3) (ws := ys4) ?N ?h1 ?h2 ?H1 ?H2 ?hu ?_; (case N => k_asm); (case h1 => exact .tail _ kD3); (case h2 => exact .head _); (case H1 => exact H3.mono fun a b h => h.mono fun p hp => .tail _ hp); (case H2 => exact p6.mono fun a b h => h.mono fun p hp => .tail _ hp); (case hu => ktr_units))
            all_goals k_steps
            all_goals (unfold Keep; refine' ne_nil ?N ?h1 ?h2 ?hu ?_; (case N => k_asm); (case h1 => exact .tail _ (.tail _ kDs2)); (case h2 => exact .head _); (case hu => ktr_units))
            all_goals k_steps
            all_goals first | (exfalso; rename (_ ≠ _) => hq; exact hq rfl) | skip
            all_goals first | (exfalso; rename (List.isEmpty _ = true) => hq; rw [List.isEmpty_cons] at hq; cases hq; done) | skip
            all_goals first | (exfalso; rename ((_ == _) = false) => hq; rw [beq_self_eq_true] at hq; cases hq; done) | skip
            all_goals (rename News h₀ _ _ _ => N8; rename Fr h₀ _ _ m => F8)
            all_goals (refine ret usA Ds2 _ ktA cs2 _ _ (by rw [sp2]; exact TA1) (by rw [sp2]; first | exact .nil | exact .cons ⟨aL, nL, q1, q2, q3, q4, rfl, mL⟩ HL) F8 (cb_drop N8 fun p hp => .tail _ (.tail _ ?_)) (all_lt_cons ls2.2.2.2.2.1 (all_lt_cons ls2.2.2.2.2.2.1 (all_lt_cons ls2.2.2.2.2.2.2.1 (all_lt_cons ls2.2.2.2.2.2.2.2.1 (allLt_lt ls2.2.2.2.2.2.2.2.2))))))
            all_goals (simp only [List.mem_cons] at hp; rcases hp with rfl | rfl | rfl | rfl | hp)
            all_goals first | exact kln | exact kdl | exact ktl | exact kDs2 | exact knews p hp)
end
/-! plain: what a sending leaves on the line and in the law's list -/
def rowsOf (en : Int) : Nat → List (Int × List UInt8) → List R
  | _, [] => []
  | no, (t, o) :: l => ⟨t, no + 1, en, o⟩ :: rowsOf en (no + 1) l
theorem rowsOf_snoc (en : Int) (t : Int) (o : List UInt8) : ∀ (l : List (Int × List UInt8)) (no : Nat), rowsOf en no (l ++ [(t, o)]) = rowsOf en no l ++ [⟨t, no + l.length + 1, en, o⟩]
  | [], no => rfl
  | (t', o') :: l, no => by
    show ⟨t', no + 1, en, o'⟩ :: rowsOf en (no + 1) (l ++ [(t, o)]) = _
    rw [rowsOf_snoc en t o l (no + 1)]
    show _ = ⟨t', no + 1, en, o'⟩ :: (rowsOf en (no + 1) l ++ [⟨t, no + (l.length + 1) + 1, en, o⟩])
    rw [show no + 1 + l.length + 1 = no + (l.length + 1) + 1 by lia]
theorem insT_ok {rs rs' : List R} {r : R} (h : InsT rs r rs') (hso : rs.Pairwise RLt) (hn : ∀ q ∈ rs, q.no < r.no) : rs'.Pairwise RLt ∧ rs'.Perm (rs ++ [r]) := by
  obtain ⟨k, h1, h2, h3, rfl⟩ := h
  have e : rs = rs.take k ++ rs.drop k := (List.take_append_drop k rs).symm
  have hp : (rs.take k ++ rs.drop k).Pairwise RLt := by rw [← e]; exact hso
  obtain ⟨p1, p2, p3⟩ := List.pairwise_append.mp hp
  have low : ∀ q ∈ rs.take k, RLt q r := by
    intro q hq
    obtain ⟨i, hi, ei⟩ := List.getElem_of_mem hq
    rw [List.length_take] at hi
    rw [List.getElem_take] at ei
    have hk : rs[k - 1]? = some (rs[k - 1]'(by lia)) := List.getElem?_eq_getElem (by lia)
    have hkm := h3 _ (by lia) hk
    have hqn := hn q (by rw [← ei]; exact List.getElem_mem _)
    have hle : q.tm ≤ (rs[k - 1]'(by lia)).tm := by
      rcases Nat.lt_or_ge i (k - 1) with hlt | hge
      · have := (List.pairwise_iff_getElem.mp hso) i (k - 1) (by lia) (by lia) hlt
        rw [ei] at this
        unfold RLt at this
        lia
      · have : i = k - 1 := by lia
        subst this
        rw [ei]
        exact Int.le_refl _
    unfold RLt
    lia
  have high : ∀ q ∈ rs.drop k, RLt r q := by
    intro q hq
    obtain ⟨i, hi, ei⟩ := List.getElem_of_mem hq
    rw [List.length_drop] at hi
    rw [List.getElem_drop] at ei
    have := h2 (k + i) q (by lia) (by rw [List.getElem?_eq_getElem (by lia), ei])
    exact .inl this
  constructor
  · refine List.pairwise_append.mpr ⟨p1, List.pairwise_cons.mpr ⟨high, p2⟩, fun a ha b hb => ?_⟩
    rcases List.mem_cons.mp hb with rfl | hb
    · exact low a ha
    · exact p3 a ha b hb
  · have : (rs.take k ++ r :: rs.drop k).Perm (r :: (rs.take k ++ rs.drop k)) := List.perm_middle
    rw [← e] at this
    exact this.trans (List.perm_append_singleton r rs).symm
theorem insAll_ok : ∀ (l : List (Int × List UInt8)) {rs rs' : List R} {en : Int} {no : Nat}, InsAll rs en no l rs' → rs.Pairwise RLt → (∀ q ∈ rs, q.no ≤ no) → rs'.Pairwise RLt ∧ rs'.Perm (rs ++ rowsOf en no l)
  | [], rs, rs', en, no, h, hso, hn => by
    have e : rs' = rs := h
    rw [e]
    exact ⟨hso, by rw [show rowsOf en no [] = [] from rfl, List.append_nil]⟩
  | (t, o) :: l, rs, rs', en, no, h, hso, hn => by
    obtain ⟨mid, h1, h2⟩ := h
    obtain ⟨a1, a2⟩ := insT_ok h1 hso (fun q hq => Nat.lt_succ_of_le (hn q hq))
    have hm : ∀ q ∈ mid, q.no ≤ no + 1 := fun q hq => by
      rcases List.mem_append.mp (a2.mem_iff.mp hq) with q1 | q1
      · exact Nat.le_succ_of_le (hn q q1)
      · rw [List.mem_singleton.mp q1]; exact Nat.le_refl _
    obtain ⟨b1, b2⟩ := insAll_ok l h2 a1 hm
    refine ⟨b1, b2.trans ?_⟩
    show (mid ++ rowsOf en (no + 1) l).Perm (rs ++ ([⟨t, no + 1, en, o⟩] ++ rowsOf en (no + 1) l))
    rw [← List.append_assoc]
    exact a2.append_right _
theorem rowsOf_no (en : Int) : ∀ (l : List (Int × List UInt8)) (no : Nat), (∀ r ∈ rowsOf en no l, no < r.no ∧ r.no ≤ no + l.length) ∧ (rowsOf en no l).Pairwise fun a b => a.no ≠ b.no
  | [], no => ⟨fun r h => (nomatch h), .nil⟩
  | (t, o) :: l, no => by
    obtain ⟨h1, h2⟩ := rowsOf_no en l (no + 1)
    constructor
    · intro r hr
      rcases List.mem_cons.mp hr with rfl | hr
      · simp only [List.length_cons]; lia
      · have := h1 r hr
        simp only [List.length_cons]; lia
    · refine List.pairwise_cons.mpr ⟨fun r hr => ?_, h2⟩
      have := h1 r hr
      simp only
      lia
theorem rowsOf_tm (en : Int) {B : Int} : ∀ (l : List (Int × List UInt8)) (no : Nat), (∀ p ∈ l, p.1 ≤ B) → ∀ r ∈ rowsOf en no l, r.tm ≤ B
  | [], no, _, r, h => by cases h
  | (t, o) :: l, no, h, r, hr => by
    rcases List.mem_cons.mp hr with rfl | hr
    · exact h _ (.head _)
    · exact rowsOf_tm en l (no + 1) (fun p hp => h p (.tail _ hp)) r hr
theorem metL_tm {fate rest sp : Nat} {oc : List UInt8} {tm : Int} (hsp : 0 < sp) : ∀ p ∈ metL fate rest oc tm sp, p.1 ≤ tm + sp := by
  have := Nat.mod_lt rest hsp
  intro p hp
  unfold metL at hp
  split at hp
  · cases hp
  · split at hp
    · simp only [List.mem_cons, List.not_mem_nil, or_false] at hp
      rcases hp with rfl | rfl <;> (simp only; lia)
    · split at hp
      · rw [List.mem_singleton.mp hp]; simp only; lia
      · rw [List.mem_singleton.mp hp]; simp only; lia
theorem metL_len {fate rest sp : Nat} {oc : List UInt8} {tm : Int} : (metL fate rest oc tm sp).length ≤ 2 := by
  unfold metL
  split
  · exact Nat.zero_le _
  · split
    · exact Nat.le_refl _
    · split
      · exact Nat.le_succ _
      · exact Nat.le_succ _
theorem turnB_len2 {b : List UInt8} (h : b ≠ []) (k : Nat) : (turnB b (k % (8 * b.length))).length = b.length := by
  have h1 := List.length_pos_iff.mpr h
  have h2 := Nat.mod_lt k (show 0 < 8 * b.length by lia)
  unfold turnB
  simp only [List.length_append, List.length_take, List.length_cons, List.length_drop]
  lia
/-- what holds between the line and the law's list -/
structure Even (rs qs : List R) (no : Nat) (B : Int) : Prop where
  pm : qs.Perm rs
  so : rs.Pairwise RLt
  nd : rs.Pairwise fun a b => a.no ≠ b.no
  le : ∀ r ∈ rs, r.no ≤ no
  tm : ∀ r ∈ rs, r.tm ≤ B
theorem Even.start {B : Int} : Even [] [] 0 B := ⟨.refl _, .nil, .nil, fun r h => (nomatch h), fun r h => (nomatch h)⟩
theorem Even.up {rs qs : List R} {no : Nat} {B B' : Int} (h : Even rs qs no B) (hB : B ≤ B') : Even rs qs no B' := ⟨h.pm, h.so, h.nd, h.le, fun r hr => Int.le_trans (h.tm r hr) hB⟩
theorem Even.sent {rs rs' qs : List R} {no fate rest sp : Nat} {en tm B : Int} {oc : List UInt8} (h : Even rs qs no B) (hsp : 0 < sp) (hB : tm + sp ≤ B) (I : InsAll rs en no (metL fate rest oc tm sp) rs') :
    Even rs' (qs ++ rowsOf en no (metL fate rest oc tm sp)) (no + (metL fate rest oc tm sp).length) B := by
  obtain ⟨a1, a2⟩ := insAll_ok _ I h.so h.le
  obtain ⟨r1, r2⟩ := rowsOf_no en (metL fate rest oc tm sp) no
  refine ⟨(h.pm.append_right _).trans a2.symm, a1, a2.symm.pairwise (List.pairwise_append.mpr ⟨h.nd, r2, fun a ha b hb => ?_⟩) fun h e => h e.symm, fun r hr => ?_, fun r hr => ?_⟩
  · have := h.le a ha
    have := (r1 b hb).1
    lia
  · rcases List.mem_append.mp (a2.mem_iff.mp hr) with q | q
    · have := h.le r q; lia
    · exact (r1 r q).2
  · rcases List.mem_append.mp (a2.mem_iff.mp hr) with q | q
    · exact h.tm r q
    · exact rowsOf_tm en _ no (fun p hp => Int.le_trans (metL_tm hsp p hp) hB) r q
theorem Even.seen {rs qs : List R} {no : Nat} {B x : Int} (h : Even rs qs no B) : Even (rs.filter fun r => decide (x < r.tm)) (rs.filter fun r => decide (x < r.tm)) no B :=
  ⟨.refl _, h.so.filter _, h.nd.filter _, fun r hr => h.le r (List.mem_filter.mp hr).1, fun r hr => h.tm r (List.mem_filter.mp hr).1⟩
theorem sent_len {rs rs' : List R} {no : Nat} {en : Int} {l : List (Int × List UInt8)} (I : InsAll rs en no l rs') (hso : rs.Pairwise RLt) (hn : ∀ q ∈ rs, q.no ≤ no) (hl : l.length ≤ 2) : rs'.length ≤ rs.length + 2 := by
  have := (insAll_ok _ I hso hn).2.length_eq
  have e : ∀ (l : List (Int × List UInt8)) (no : Nat), (rowsOf en no l).length = l.length := by
    intro l
    induction l with
    | nil => intro no; rfl
    | cons p l ih => intro no; exact congrArg Nat.succ (ih (no + 1))
  rw [List.length_append, e] at this
  lia
theorem badL_pos {f : Nat} {b mo : Int} (hb : 0 ≤ b) : 0 ≤ (badL f b mo).2 := by
  unfold badL
  split
  · split
    · show 0 ≤ b + 1; lia
    · exact Int.le_refl _
  · exact Int.le_refl _
theorem nextX_eq (fs : List Nat) (i : Nat) : nextX fs (if fs = [] then 0 else i % fs.length) = if fs = [] then 0 else (i + 1) % fs.length := by
  unfold nextX
  by_cases h : fs = []
  · rw [if_pos h, if_pos h, if_pos h]
  · rw [if_neg h, if_neg h, if_neg h, Nat.add_mod, Nat.mod_mod, ← Nat.add_mod]
section
variable {w : World} {A : Around} {h₀ : Heap} {L : Addr} {m : Str → Option Value} {nw : List (Addr × Obj)} {s : Shared} {Q E : Value → Shared → Prop}
theorem take_callN {a : Addr} {b c : Int} {tb tc t : Tok} {k : Nat} {top : Int} {g : Obj → List (Addr × Obj)} (C : Cx w A 2 20 h₀ L m nw s) (U : UpdF a (listOf #[.int b tb, .int c tc] k) nw g)
   (hb : 0 ≤ b) (hc : 0 ≤ c) (hc' : c < 2147483648) (ht : 1 ≤ top) (ht' : top ≤ 2^60)
   (ret : ∀ (d : Nat) b' c' t' tb' tc' h' tk', (d : Int) < top → 0 ≤ b' → 0 ≤ c' → c' < 2147483648 → Fr h₀ L h' m → News h₀ L h' (g (listOf #[.int b' tb', .int c' tc'] k)) → Q (.int (d : Int) t') { s with heap := h', toks := tk' }) :
   wpAny (model PySem.Challenge.pw_nu0127_01 w) A (call (.ref 310) [.ref a, .int top t]) Q E s := by
  refine take_callF C U hb hc hc' ht ht' fun d b' c' t' tb' tc' h' tk' g1 g2 g3 g4 g5 F' N' => ?_
  obtain ⟨n, rfl⟩ := Int.eq_ofNat_of_zero_le g1
  exact ret n b' c' t' tb' tc' h' tk' g2 g3 g4 g5 F' N'
end
section
variable {prog : Program} {w : World} {A : Around} {E : Value → Shared → Prop} {s : Shared} {env : Env} {h₀ : Heap} {target : Expr} {body : List Stmt} {Q : Flow → Shared → Prop}
theorem for_walkTP {I : Addr} {fp : List Addr} {n : Nat} {P : Nat → Value → Prop} {St : Nat → Heap → Prop} {ItP : Nat → Obj → Prop} {S : List (Addr × Obj) → Prop} {m : Str → Option Value} {news : List (Addr × Obj)}
    (W : Walks prog w A I fp [I] n P St) (hIo : ∀ i h, St i h → ∃ o, h.get? I = some o ∧ ItP i o)
    (hSt : ∀ i h h' o nw, St i h → h.get? I = some o → h'.get? I = some o → (∀ b o, h₀.get? b = some o → h'.get? b = some o) → News h₀ env.locals h' nw → S nw → St i h')
    (hst : St 0 s.heap) (F : Fr h₀ env.locals s.heap m) (N : News h₀ env.locals s.heap news) (hIL : env.locals ≠ I) (hI₀ : h₀.get? I = none) (off : ∀ p ∈ news, p.1 ≠ I) (hS : S news)
    (R : TRest prog w A E h₀ env target body Q s I P ItP S n 0 m news) (hE : PassesOwn (model prog w) A env E) (hgo : ∀ i v (s : Shared) (Q : Unit → Shared → Prop) (E : Value → Shared → Prop), P i v → St (i + 1) s.heap → Q () s → wpAny (model prog w) A (letOwnedTupleGo target (.ref I) v) Q E s) :
    codeAny (model prog w) A (.forLoop target (.ref I) body [] env) (fun r s' => match r with | .ok f => Q f s' | .error e => cameBackBy (model prog w) A env E e s') s := by
  refine codeAny_forLoop_any
    (fun k s' => ∃ h' tk m' news' i, s' = { s with heap := h', toks := tk } ∧ St i h' ∧ Fr h₀ env.locals h' m' ∧ News h₀ env.locals h' news' ∧ (∀ p ∈ news', p.1 ≠ I) ∧ S news' ∧ TRest prog w A E h₀ env target body Q s I P ItP S (n - i) i m' news' ∧ i ≤ n ∧ k = n + 1 - i) ?_ (n + 1)
    ⟨s.heap, s.toks, m, news, 0, rfl, hst, F, N, off, hS, R, Nat.zero_le _, rfl⟩
  rintro k s' ⟨h', tk, m', news', i, rfl, hst', F', N', off', hS', R', hi, rfl⟩
  by_cases hlt : i < n
  · obtain ⟨j, hj⟩ : ∃ j, n - i = j + 1 := ⟨n - i - 1, by lia⟩
    rw [hj] at R'
    refine W.item i _ _ _ hlt hst' fun v h₂ tk₂ hPv hst₂ hk₂ => hgo i v _ _ _ hPv hst₂ ?_
    obtain ⟨oI, heI, hoI⟩ := hIo _ _ hst₂
    have F₂ : Fr h₀ env.locals h₂ m' := LCg.fr_but F' hk₂ hIL hI₀
    have N₂ : News h₀ env.locals h₂ news' := LCg.news_but N' hk₂ off'
    have N₃ : News h₀ env.locals h₂ ((I, oI) :: news') := fun p hp => by
      rcases List.mem_cons.mp hp with rfl | hp
      · exact ⟨heI, Ne.symm hIL, hI₀⟩
      · exact N₂ p hp
    refine wpAny_passesOwn hE (wpAny_mono (R' v oI h₂ tk₂ hPv hoI F₂ N₃) (fun _ s₃ h₃ => wpAny_passesOwn hE (wpAny_mono h₃ (fun f s₄ hp₄ => ?_) fun _ _ e => e)) fun _ _ e => e)
    have fin : UnrEnd h₀ env.locals { s with heap := h₂, toks := tk₂ } I oI (fun m' n' => S n' ∧ TRest prog w A E h₀ env target body Q s I P ItP S j (i + 1) m' n') s₄ →
        ∃ m_1, m_1 < n + 1 - i ∧ ∃ h' tk m' news' i_1, s₄ = { s with heap := h', toks := tk } ∧ St i_1 h' ∧ Fr h₀ env.locals h' m' ∧ News h₀ env.locals h' news' ∧ (∀ p ∈ news', p.1 ≠ I) ∧ S news' ∧ TRest prog w A E h₀ env target body Q s I P ItP S (n - i_1) i_1 m' news' ∧ i_1 ≤ n ∧ m_1 = n + 1 - i_1 := by
      rintro ⟨h₄, tk₄, m₄, n₄, rfl, F₄, N₄, o₄, S₄, R₄⟩
      have zI := (N₄ (I, oI) List.mem_cons_self).1
      have N₄' : News h₀ env.locals h₄ n₄ := fun p hp => N₄ p (List.mem_cons_of_mem _ hp)
      refine ⟨n + 1 - (i + 1), by lia, h₄, tk₄, m₄, n₄, i + 1, rfl, hSt _ _ _ _ _ hst₂ heI zI F₄.keep N₄' S₄, F₄, N₄', o₄, S₄, ?_, hlt, rfl⟩
      rw [show n - (i + 1) = j by lia]
      exact R₄
    cases f with
    | ret v => exact hp₄
    | brk => exact hp₄
    | next => exact fin hp₄
    | cont => exact fin hp₄
  · obtain rfl : i = n := Nat.le_antisymm hi (Nat.not_lt.mp hlt)
    rw [Nat.sub_self] at R'
    refine W.done _ _ _ hst' fun h₂ tk₂ hk₂ => wpAny_execs_nil ?_
    exact R' h₂ tk₂ (LCg.fr_but F' hk₂ hIL hI₀) (LCg.news_but N' hk₂ off')

theorem ForSrc.tups {elts : List Expr} {x1 : Nat} {pos : Pos} {ax : Addr} {its : Array Value} {k : Nat} {m : Str → Option Value} {news : List (Addr × Obj)} (hh : A.handled = none) (hE : PassesOwn (model prog w) A env E) (F : Fr h₀ env.locals s.heap m) (N : News h₀ env.locals s.heap news)
    (hm : (ax, listOf its k) ∈ news)
    (R : ∀ I g, (∀ p ∈ news, p.1 < I) → TRest prog w A E h₀ env (.Tuple elts x1 pos) body Q { s with heap := g } I (fun i v => its[i]? = some v) (fun _ o => o.cls = .type "list_iterator") (fun nw => (ax, listOf its k) ∈ nw) its.size 0 m news)
    (href : ∀ (i : Nat) v, its[i]? = some v → ∃ T, v = .ref T) : ForSrc prog w A E env (.Tuple elts x1 pos) body Q (.ref ax) s := by
  have hl : s.heap.IsList ax its := ⟨_, (N _ hm).1, rfl, _, rfl⟩
  have hlt : ax < s.heap.objs.size := Heap.lt_size (N _ hm).1
  refine wpAny_pyIter_list hl ?_
  refine for_walkTP (fp := [s.heap.objs.size, ax]) (St := fun i h => h.IsListIter s.heap.objs.size ax i ∧ h.IsList ax its) (Walks.list hh s.heap.objs.size ax (Nat.ne_of_lt hlt) its) (fun i h st => by obtain ⟨o, e, c, _⟩ := st.1; exact ⟨o, e, c⟩) ?_ ⟨⟨_, Heap.get?_push_size _ rfl, rfl, rfl⟩, hl.push _⟩
    (F.keeps fun _ _ e => Heap.get?_push_of_some _ e) (N.grown fun _ _ e => Heap.get?_push_of_some _ e) (Nat.ne_of_lt F.ns.lt) (next_is_new F) (fun p hp => Nat.ne_of_lt (Heap.lt_size (N p hp).1)) hm (R _ _ fun p hp => Heap.lt_size (N p hp).1) hE ?_
  intro i h h' o nw st e e' k N' hm'
  exact ⟨by obtain ⟨o', q, r⟩ := st.1; rw [e] at q; cases q; exact ⟨o, e', r⟩, ⟨_, (N' _ hm').1, rfl, _, rfl⟩⟩
  intro i v s' Q' E' hv st hq
  obtain ⟨T, rfl⟩ := href i v hv
  exact wpAny_letOwnedTupleGo_listiter st.1 hq
end
section
variable {h₀ h : Heap} {L : Addr} {x a1 a2 a3 a4 a5 a6 a7 b1 b2 b3 b4 b5 : Addr × Obj} {r : List (Addr × Obj)}
theorem nw_s7 : ∀ p ∈ a1 :: a2 :: a3 :: b5 :: x :: a4 :: a5 :: a6 :: a7 :: b1 :: b2 :: b3 :: b4 :: r, p ∈ x :: a1 :: a2 :: a3 :: a4 :: a5 :: a6 :: a7 :: b1 :: b2 :: b3 :: b4 :: b5 :: r := pm5 (A := [a1, a2, a3]) (B := [a4, a5, a6, a7, b1, b2, b3, b4])
theorem nw_s8 (N : News h₀ L h (a1 :: a2 :: a3 :: b5 :: x :: a4 :: a5 :: a6 :: a7 :: b1 :: b2 :: b3 :: b4 :: r)) : News h₀ L h (x :: a1 :: a2 :: a3 :: a4 :: a5 :: a6 :: a7 :: b1 :: b2 :: b3 :: b4 :: b5 :: r) := cb_drop N (pm6 (A := [a1, a2, a3]) (B := [a4, a5, a6, a7, b1, b2, b3, b4]))
theorem nw_off9 {X : Addr} (h : x.1 ≠ X ∧ a4.1 ≠ X ∧ a5.1 ≠ X ∧ a6.1 ≠ X ∧ a7.1 ≠ X ∧ b1.1 ≠ X ∧ b2.1 ≠ X ∧ b3.1 ≠ X ∧ b4.1 ≠ X) (hr : ∀ p ∈ r, p.1 ≠ X) : ∀ p ∈ x :: a4 :: a5 :: a6 :: a7 :: b1 :: b2 :: b3 :: b4 :: r, p.1 ≠ X := al_cons h.1 (al_cons h.2.1 (al_cons h.2.2.1 (al_cons h.2.2.2.1 (al_cons h.2.2.2.2.1 (al_cons h.2.2.2.2.2.1 (al_cons h.2.2.2.2.2.2.1 (al_cons h.2.2.2.2.2.2.2.1 (al_cons h.2.2.2.2.2.2.2.2 hr))))))))
theorem nw_off12 {X : Addr} (h : a1.1 ≠ X ∧ a2.1 ≠ X ∧ a3.1 ≠ X ∧ a4.1 ≠ X ∧ a5.1 ≠ X ∧ a6.1 ≠ X ∧ a7.1 ≠ X ∧ b1.1 ≠ X ∧ b2.1 ≠ X ∧ b3.1 ≠ X ∧ b4.1 ≠ X ∧ b5.1 ≠ X) (hr : ∀ p ∈ r, p.1 ≠ X) : ∀ p ∈ a1 :: a2 :: a3 :: a4 :: a5 :: a6 :: a7 :: b1 :: b2 :: b3 :: b4 :: b5 :: r, p.1 ≠ X := al_cons h.1 (al_cons h.2.1 (al_cons h.2.2.1 (al_cons h.2.2.2.1 (al_cons h.2.2.2.2.1 (al_cons h.2.2.2.2.2.1 (al_cons h.2.2.2.2.2.2.1 (al_cons h.2.2.2.2.2.2.2.1 (al_cons h.2.2.2.2.2.2.2.2.1 (al_cons h.2.2.2.2.2.2.2.2.2.1 (al_cons h.2.2.2.2.2.2.2.2.2.2.1 (al_cons h.2.2.2.2.2.2.2.2.2.2.2 hr)))))))))))
end
section
variable {w : World} {A : Around} {h₀ : Heap} {L : Addr} {m : Str → Option Value} {s : Shared} {Q E : Value → Shared → Prop}
theorem looked_callG {nt T : List (Addr × Obj)} {x0 a4 a5 a6 a7 b1 b2 b3 b4 : Addr × Obj} {ln dl fo bl tl wl : Addr} {TT : Nat → Tok} {d sp mo : Int} {tf : Nat → Tok} {cn : Nat → Int} {tc : Nat → Tok} {vs ws : List Value} {rs qs : List R} {kt kw no : Nat} {x B : Int} {ta : Tok}
   (C : Cx w A 30 300 h₀ L m (x0 :: (ln, instObj 285 dl) :: (dl, dictOf (lineD w TT fo bl tl d sp mo tf cn tc) 10) :: (tl, listOf vs.toArray kt) :: a4 :: a5 :: a6 :: a7 :: b1 :: b2 :: b3 :: b4 :: (wl, listOf ws.toArray kw) :: T) s) (hs : ∀ p ∈ nt, p ∈ T) (hr : Trs nt vs rs) (hw : All2 (RowAt nt) ws qs) (HE : Even rs qs no B) (hz : rs.length ≤ 60)
   (o1 : @LT.lt Nat _ dl ln) (o2 : @LT.lt Nat _ ln tl) (o3 : x0.1 ≠ tl ∧ a4.1 ≠ tl ∧ a5.1 ≠ tl ∧ a6.1 ≠ tl ∧ a7.1 ≠ tl ∧ b1.1 ≠ tl ∧ b2.1 ≠ tl ∧ b3.1 ≠ tl ∧ b4.1 ≠ tl) (o4 : ∀ p ∈ T, p.1 ≠ tl) (o5 : @Ne Nat wl tl)
   (ret : ∀ us D ws' kt' kw' h' tk', Trs nt us (rs.filter fun r => decide (x < r.tm)) → All2 (RowAt nt) ws' (rs.filter fun r => decide (x < r.tm)) → Fr h₀ L h' m →
     News h₀ L h' (x0 :: (ln, instObj 285 dl) :: (dl, dictOf (lineD w TT fo bl tl d sp mo tf cn tc) 10) :: (tl, listOf us.toArray kt') :: a4 :: a5 :: a6 :: a7 :: b1 :: b2 :: b3 :: b4 :: (D, listOf ws'.toArray kw') :: T) →
     (∀ p ∈ T, @LT.lt Nat _ p.1 D) → @LT.lt Nat _ tl D → @LT.lt Nat _ x0.1 D → @LT.lt Nat _ b4.1 D → Q (.ref D) { s with heap := h', toks := tk' }) :
   wpAny (model PySem.Challenge.pw_nu0127_01 w) A (call (.ref 360) [.ref ln, .ref wl, .int x ta]) Q E s := by
  refine looked_call (nt := nt) (C.led nw_s7) (fun p hp => ?_) hr hw HE.pm HE.so HE.nd hz o1 o2 (nw_off9 o3 o4) o5 fun us D ws' kt' kw' h' tk' H1 H2 F' N' l => ret us D ws' kt' kw' h' tk' H1 H2 F' (nw_s8 N') (fun p hp => l p ?_) (l _ (.tail _ (.tail _ (.head _)))) (l x0 (.tail _ (.tail _ (.tail _ (.tail _ (.head _)))))) (l b4 ?_)
  · have := hs p hp
    simp only [List.mem_cons, this, or_true]
  · simp only [List.mem_cons, hp, or_true]
  · simp only [List.mem_cons, true_or, or_true]
end
theorem reg_G3_1 : True := by
  (k_with "compareOp Eq ref ref" => (refine keep_of ?_))
  (k_with "exec For Tuple Call cons nil" => ((k_dflt refine For_T ?_)))
  (k_with "eval Name" => (((with_reducible show wpAny _ _ (eval (Expr.Name _ _) (envOfC _ _ _ _ _)) _ _ _); k_dflt (refine' ldLoc ?zzk1 ?zzk2 ?_; (case zzk1 => k_asm); (case zzk2 => assumption)))))
  exact trivial
section
variable {h₀ h : Heap} {L : Addr} {x y i a1 a2 a3 a4 a5 a6 a7 b1 b2 b3 b4 b5 : Addr × Obj} {e r : List (Addr × Obj)}
theorem nw_s1 (N : News h₀ L h (x :: i :: a1 :: a2 :: a3 :: a4 :: a5 :: a6 :: a7 :: b1 :: b2 :: b3 :: b4 :: b5 :: r)) : News h₀ L h (a1 :: a2 :: a3 :: a4 :: a5 :: a6 :: a7 :: b1 :: b2 :: b3 :: b4 :: b5 :: i :: r) := cb_drop N fun p hp => .tail _ (pm2 (l := [a1, a2, a3, a4, a5, a6, a7, b1, b2, b3, b4, b5]) p hp)
theorem nw_s2 (N : News h₀ L h (a1 :: a2 :: a3 :: a4 :: a5 :: a6 :: a7 :: (e ++ b1 :: b2 :: b3 :: b4 :: b5 :: i :: r))) : News h₀ L h (i :: a1 :: a2 :: a3 :: a4 :: a5 :: a6 :: a7 :: b1 :: b2 :: b3 :: b4 :: b5 :: (e ++ r)) := cb_drop N (pm3 (A := [a1, a2, a3, a4, a5, a6, a7]) (B := [b1, b2, b3, b4, b5]))
theorem nw_s3 (N : News h₀ L h (x :: (e ++ i :: a1 :: a2 :: a3 :: a4 :: a5 :: a6 :: a7 :: b1 :: b2 :: b3 :: b4 :: b5 :: r))) : News h₀ L h (x :: i :: a1 :: a2 :: a3 :: a4 :: a5 :: a6 :: a7 :: b1 :: b2 :: b3 :: b4 :: b5 :: (e ++ r)) := cb_drop N (pm4 (A := [a1, a2, a3, a4, a5, a6, a7, b1, b2, b3, b4, b5]))
theorem nw_s4 (N : News h₀ L h (y :: x :: r)) : News h₀ L h (x :: r) := cb_drop N fun p hp => .tail _ hp
end
theorem nw_s5 {d x y a1 a2 a3 a4 a5 a6 a7 b1 b2 b3 b4 b5 i : Addr × Obj} {r : List (Addr × Obj)} : ∀ p ∈ x :: d :: i :: a1 :: a2 :: a3 :: a4 :: a5 :: a6 :: a7 :: b1 :: b2 :: b3 :: b4 :: b5 :: y :: r, p ∈ y :: x :: d :: i :: a1 :: a2 :: a3 :: a4 :: a5 :: a6 :: a7 :: b1 :: b2 :: b3 :: b4 :: b5 :: r := pm2 (l := [x, d, i, a1, a2, a3, a4, a5, a6, a7, b1, b2, b3, b4, b5])
theorem rowsOf_len (en : Int) : ∀ (l : List (Int × List UInt8)) (no : Nat), (rowsOf en no l).length = l.length
  | [], _ => rfl
  | (_, _) :: l, no => congrArg Nat.succ (rowsOf_len en l (no + 1))
theorem snoc_row {T4 : List (Addr × Obj)} {ws2 : List Value} {l : List R} {x : Addr} {r : R} {ta tb tc td : Tok} {n : Nat} (h : All2 (RowAt T4) ws2 l) : All2 (RowAt ((x, listOf #[.int r.tm ta, .int (r.no : Nat) tb, .int r.en tc, .bytes r.oc.toArray td] n) :: T4)) (ws2 ++ [.ref x]) (l ++ [r]) :=
  (h.mono fun _ _ h => h.mono fun p hp => .tail _ hp).app (.cons ⟨x, n, ta, tb, tc, td, rfl, .head _⟩ .nil)
theorem ne_cons {x X : Addr} {o : Obj} {T : List (Addr × Obj)} (h : @LT.lt Nat _ X x) (k : ∀ p ∈ T, p.1 ≠ X) : ∀ p ∈ (x, o) :: T, p.1 ≠ X := fun p hp => by
  rcases List.mem_cons.mp hp with rfl | hp
  · exact Ne.symm (Nat.ne_of_lt h)
  · exact k p hp
theorem nw_off6 {X : Addr} {d i a1 a2 a3 a4 a5 a6 a7 b1 b2 b3 b4 b5 y : Addr × Obj} {r : List (Addr × Obj)} {P : Prop} (h : @LT.lt Nat _ d.1 X ∧ @LT.lt Nat _ i.1 X ∧ @LT.lt Nat _ a1.1 X ∧ @LT.lt Nat _ a2.1 X ∧ @LT.lt Nat _ a3.1 X ∧ @LT.lt Nat _ a4.1 X ∧ @LT.lt Nat _ a5.1 X ∧ @LT.lt Nat _ a6.1 X ∧ @LT.lt Nat _ a7.1 X ∧ @LT.lt Nat _ b1.1 X ∧ @LT.lt Nat _ b2.1 X ∧ @LT.lt Nat _ b3.1 X ∧ @LT.lt Nat _ b4.1 X ∧ @LT.lt Nat _ b5.1 X ∧ P) (hy : @LT.lt Nat _ X y.1) (hr : ∀ p ∈ r, p.1 ≠ X) : ∀ p ∈ d :: i :: a1 :: a2 :: a3 :: a4 :: a5 :: a6 :: a7 :: b1 :: b2 :: b3 :: b4 :: b5 :: y :: r, p.1 ≠ X := al_cons (Nat.ne_of_lt h.1) (al_cons (Nat.ne_of_lt h.2.1) (al_cons (Nat.ne_of_lt h.2.2.1) (al_cons (Nat.ne_of_lt h.2.2.2.1) (al_cons (Nat.ne_of_lt h.2.2.2.2.1) (al_cons (Nat.ne_of_lt h.2.2.2.2.2.1) (al_cons (Nat.ne_of_lt h.2.2.2.2.2.2.1) (al_cons (Nat.ne_of_lt h.2.2.2.2.2.2.2.1) (al_cons (Nat.ne_of_lt h.2.2.2.2.2.2.2.2.1) (al_cons (Nat.ne_of_lt h.2.2.2.2.2.2.2.2.2.1) (al_cons (Nat.ne_of_lt h.2.2.2.2.2.2.2.2.2.2.1) (al_cons (Nat.ne_of_lt h.2.2.2.2.2.2.2.2.2.2.2.1) (al_cons (Nat.ne_of_lt h.2.2.2.2.2.2.2.2.2.2.2.2.1) (al_cons (Nat.ne_of_lt h.2.2.2.2.2.2.2.2.2.2.2.2.2.1) (al_cons (Ne.symm (Nat.ne_of_lt hy)) hr))))))))))))))
theorem off_app {X : Addr} {ext T : List (Addr × Obj)} (h : ∀ q ∈ ext, @LT.lt Nat _ X q.1) (k : ∀ p ∈ T, p.1 ≠ X) : ∀ p ∈ ext ++ T, p.1 ≠ X := fun p hp => by
  rcases List.mem_append.mp hp with hp | hp
  · exact Ne.symm (Nat.ne_of_lt (h p hp))
  · exact k p hp
theorem keep_in {P : Prop} (h : P) : Keep P := h
theorem late_abs {x y : Int} {a b s : Nat} (h : 8 = 0 ∨ x + ((8 : Nat) : Int) ≤ y) (h2 : y ≤ x + (a : Int) + (s : Int)) (ha : (a : Int) < 3) (hb : (b : Int) < 4) (hs : s = 1 + b) : False := by lia
section
variable (w : World) (TT T2 tf : Nat → Tok) (fo bl tl nl ln dl df a fl bd L1 : Addr) (dA spN dC : Nat) (ks : List Nat) (us gs : List Value) (kn k kg : Nat) (oc : Obj) (tqa tqb tqc : Tok)
inductive LJ5 (news : List (Addr × Obj)) (I : Addr) (i : Nat) (m' : Str → Option Value) (nw : List (Addr × Obj)) : Prop
  | mk (cn : Nat → Int) (tc : Nat → Tok) (vs : List Value) (rs qs : List R) (kt : Nat) (tx : Tok) (b0 b1 : Int) (y0 y1 z0 z1 : Tok) (kb kd : Nat) (s0 s1 : Int) (ts0 ts1 : Tok) (ws : List Value) (kw : Nat) (wl : Addr) (nt T : List (Addr × Obj)) (nwv : Int) (tn tsn : Tok) (no : Nat) (_ : nw = (ln, instObj 285 dl) :: (dl, dictOf (lineD w TT fo bl tl dA spN dC tf cn tc) 10) :: (tl, listOf vs.toArray kt) :: (fo, instObj 228 df) :: (df, dictOf (fatesD w T2 nl ((if ks = [] then 0 else i % ks.length : Nat)) tx) 2) :: (nl, listOf us.toArray kn) :: (bl, listOf #[.int b0 y0, .int b1 y1] kb) :: (a, listOf #[.int s0 ts0, .int s1 ts1] k) :: (L1 + 1, oc) :: (fl, listOf gs.toArray kg) :: (bd, listOf #[.int b0 z0, .int b1 z1] kd) :: (wl, listOf ws.toArray kw) :: T) (_ : 0 ≤ s0) (_ : 0 ≤ s1) (_ : s1 < 2147483648) (_ : 0 ≤ b0) (_ : 0 ≤ b1) (_ : 0 ≤ nwv) (_ : nwv ≤ 2 * (i : Int)) (_ : Trs nt vs rs) (_ : All2 (RowAt nt) ws qs) (_ : Even rs qs no (nwv + dA + spN)) (_ : rs.length ≤ 2 * i) (_ : (∀ p ∈ nt, p ∈ T)) (_ : (∀ p ∈ news, p ∈ T)) (_ : (∀ p ∈ T, p.1 ≠ dl)) (_ : (∀ p ∈ T, p.1 ≠ tl)) (_ : (∀ p ∈ T, p.1 ≠ df)) (_ : (∀ p ∈ T, p.1 ≠ bl)) (_ : (∀ p ∈ T, p.1 ≠ a)) (_ : (∀ p ∈ T, p.1 ≠ bd)) (_ : (∀ p ∈ T, p.1 ≠ wl)) (_ : (∀ p ∈ T, p.1 ≠ I)) (_ : @LT.lt Nat _ tl wl) (_ : @Ne Nat wl bd) (_ : @Ne Nat wl I) (_ : m' "line" = some (.ref ln)) (_ : m' "waiting" = some (.ref wl)) (_ : m' "bad" = some (.ref bd)) (_ : m' "now" = some (.int nwv tn)) (_ : m' "sent" = some (.int (no : Nat) tsn)) (_ : m' "delay" = some (.int (dA : Int) tqa)) (_ : m' "spread" = some (.int (spN : Int) tqb)) (_ : m' "most" = some (.int (dC : Int) tqc)) (_ : m' "fates" = some (.ref fl)) : LJ5 news I i m' nw
inductive LJ6 (cn2 : Nat → Int) (tc2 : Nat → Tok) (vs2 : List Value) (kt2 : Nat) (xi : Nat) (tx2 : Tok) (c0 c1' : Int) (v0 v1' : Tok) (kb2 : Nat) (b1 c1 : Int) (tb1 tc1 : Tok) (c2 c3 : Int) (u0' u1' : Tok) (kbd : Nat) (wl : Addr) (qs : List R) (no : Nat) (ML : List (Int × List UInt8)) (T3 nt2 : List (Addr × Obj)) (nwv : Int) (dD dE : Nat) (tE : Tok) (D : Addr) (tps : List Value) (nD : Nat) (I : Addr) (it : Obj) (I2 : Addr) (j : Nat) (m2 : Str → Option Value) (nw : List (Addr × Obj)) : Prop
  | mk (ws2 : List Value) (kw2 : Nat) (T4 : List (Addr × Obj)) (ts2 tn2 : Tok) (_ : nw = (D, listOf tps.toArray nD) :: (I, it) :: (ln, instObj 285 dl) :: (dl, dictOf (lineD w TT fo bl tl dA spN dC tf cn2 tc2) 10) :: (tl, listOf vs2.toArray kt2) :: (fo, instObj 228 df) :: (df, dictOf (fatesD w T2 nl (nextX ks xi) tx2) 2) :: (nl, listOf us.toArray kn) :: (bl, listOf #[.int c0 v0, .int c1' v1'] kb2) :: (a, listOf #[.int b1 tb1, .int c1 tc1] k) :: (L1 + 1, oc) :: (fl, listOf gs.toArray kg) :: (bd, listOf #[.int c2 u0', .int c3 u1'] kbd) :: (wl, listOf ws2.toArray kw2) :: T4) (_ : All2 (RowAt T4) ws2 (qs ++ rowsOf (1 - (dE : Int)) no (ML.take j))) (_ : (∀ p ∈ T3, p ∈ T4)) (_ : (∀ p ∈ nt2, p ∈ T4)) (_ : (∀ p ∈ T4, p.1 ≠ dl)) (_ : (∀ p ∈ T4, p.1 ≠ tl)) (_ : (∀ p ∈ T4, p.1 ≠ df)) (_ : (∀ p ∈ T4, p.1 ≠ bl)) (_ : (∀ p ∈ T4, p.1 ≠ a)) (_ : (∀ p ∈ T4, p.1 ≠ bd)) (_ : (∀ p ∈ T4, p.1 ≠ wl)) (_ : (∀ p ∈ T4, p.1 ≠ I)) (_ : (∀ p ∈ T4, p.1 ≠ I2)) (_ : m2 "line" = some (.ref ln)) (_ : m2 "waiting" = some (.ref wl)) (_ : m2 "bad" = some (.ref bd)) (_ : m2 "now" = some (.int (nwv + (dD : Int)) tn2)) (_ : m2 "sent" = some (.int ((no + j : Nat) : Int) ts2)) (_ : m2 "delay" = some (.int (dA : Int) tqa)) (_ : m2 "spread" = some (.int (spN : Int) tqb)) (_ : m2 "most" = some (.int (dC : Int) tqc)) (_ : m2 "fates" = some (.ref fl)) (_ : m2 "end" = some (.int (dE : Int) tE)) : LJ6 cn2 tc2 vs2 kt2 xi tx2 c0 c1' v0 v1' kb2 b1 c1 tb1 tc1 c2 c3 u0' u1' kbd wl qs no ML T3 nt2 nwv dD dE tE D tps nD I it I2 j m2 nw
inductive LJ7 (cn : Nat → Int) (tc : Nat → Tok) (d1 : Nat) (tx : Tok) (b0 b1 : Int) (y0 y1 : Tok) (kb : Nat) (s0 s1 : Int) (ts0 ts1 : Tok) (z0 z1 : Tok) (kd : Nat) (nt T : List (Addr × Obj)) (no : Nat) (nwv : Int) (I3 : Addr) (t : Nat) (m' : Str → Option Value) (nw : List (Addr × Obj)) : Prop
  | mk (vs : List Value) (rs qs : List R) (kt : Nat) (ws : List Value) (kw : Nat) (wl : Addr) (_ : nw = (ln, instObj 285 dl) :: (dl, dictOf (lineD w TT fo bl tl dA spN dC tf cn tc) 10) :: (tl, listOf vs.toArray kt) :: (fo, instObj 228 df) :: (df, dictOf (fatesD w T2 nl ((if ks = [] then 0 else d1 % ks.length : Nat)) tx) 2) :: (nl, listOf us.toArray kn) :: (bl, listOf #[.int b0 y0, .int b1 y1] kb) :: (a, listOf #[.int s0 ts0, .int s1 ts1] k) :: (L1 + 1, oc) :: (fl, listOf gs.toArray kg) :: (bd, listOf #[.int b0 z0, .int b1 z1] kd) :: (wl, listOf ws.toArray kw) :: T) (_ : Trs nt vs rs) (_ : All2 (RowAt nt) ws qs) (_ : Even rs qs no (nwv + dA + spN)) (_ : rs.length ≤ 60) (_ : (∀ r ∈ rs, t = 0 ∨ nwv + (t : Int) ≤ r.tm)) (_ : @LT.lt Nat _ tl wl) (_ : @Ne Nat wl I3) (_ : m' "line" = some (.ref ln)) (_ : m' "waiting" = some (.ref wl)) : LJ7 cn tc d1 tx b0 b1 y0 y1 kb s0 s1 ts0 ts1 z0 z1 kd nt T no nwv I3 t m' nw
end
inductive LCm (L1 a : Addr) (oc : Obj) (k : Nat) (news : List (Addr × Obj)) (i : Nat) (ys : List Value) (nw : List (Addr × Obj)) : Prop
  | mk (b2 c2 : Int) (tb2 tc2 : Tok) (ks : List Nat) (_ : nw = (L1 + 1, oc) :: (a, listOf #[.int b2 tb2, .int c2 tc2] k) :: news) (_ : 0 ≤ b2) (_ : 0 ≤ c2) (_ : c2 < 2147483648) (_ : IntsAre ys (natI ks)) (_ : ks.length = i) (_ : ∀ x ∈ ks, x < 64) : LCm L1 a oc k news i ys nw
inductive LMid (s : Shared) (gE : Heap) (L1 a : Addr) (oc : Obj) (k : Nat) (news : List (Addr × Obj)) (dA spN dC : Nat) (fl' : Flow) (s' : Shared) : Prop
  | mk (_ : fl' = Flow.next) (h : Heap) (tk : Nat) (m' : Str → Option Value) (fl : Addr) (gs : List Value) (kg : Nat) (ks : List Nat) (b2 c2 : Int) (tb2 tc2 t1 t2 t3 : Tok) (_ : s' = { s with heap := h, toks := tk }) (_ : Fr gE L1 h m')
     (_ : News gE L1 h ((fl, listOf (List.toArray gs) kg) :: (L1 + 1, oc) :: (a, listOf #[.int b2 tb2, .int c2 tc2] k) :: news)) (_ : IntsAre gs (natI ks)) (_ : ks.length ≤ 8) (_ : ∀ x ∈ ks, x < 64) (_ : 0 ≤ b2) (_ : 0 ≤ c2) (_ : c2 < 2147483648)
     (_ : m' "delay" = some (.int (dA : Int) t1)) (_ : m' "spread" = some (.int (spN : Int) t2)) (_ : m' "most" = some (.int (dC : Int) t3)) (_ : m' "fates" = some (.ref fl)) (_ : @Ne Nat fl a) : LMid s gE L1 a oc k news dA spN dC fl' s'
structure Hold (P : Prop) : Prop where
  h : P
theorem wp_cut {M : Model} {A : Around} {E : Value → Shared → Prop} {h₀ : Heap} {L : Addr} {m : Str → Option Value} {news : List (Addr × Obj)} {s : Shared} {x : Sem Value} {Q : Value → Shared → Prop} (_ : Fr h₀ L s.heap m) (_ : News h₀ L s.heap news) (V : Value → Prop)
    (one : wpAny M A x (fun v s' => Hold (∃ h tk, V v ∧ s' = { s with heap := h, toks := tk } ∧ Fr h₀ L h m ∧ News h₀ L h news)) E s) (two : ∀ v h tk, V v → Fr h₀ L h m → News h₀ L h news → Q v { s with heap := h, toks := tk }) : wpAny M A x Q E s :=
  wpAny_mono one (fun v s' ⟨⟨h, tk, hv, e, F, N⟩⟩ => e ▸ two v h tk hv F N) fun _ _ e => e
section
variable {w : World} {A : Around} {h₀ : Heap} {L : Addr} {m : Str → Option Value} {news : List (Addr × Obj)} {s : Shared} {Q E : Value → Shared → Prop}
set_option maxHeartbeats 16000000 in
theorem line_right_call {a : Addr} {b c : Int} {tb tc : Tok} {k : Nat} (C : Cx w A 50 500 h₀ L m ((a, listOf #[.int b tb, .int c tc] k) :: news) s)
   (hb : 0 ≤ b) (hc : 0 ≤ c) (hc' : c < 2147483648) (hne : ∀ p ∈ news, p.1 ≠ a)
   (ret : ∀ b' c' tb' tc' h' tk', 0 ≤ b' → 0 ≤ c' → c' < 2147483648 → Fr h₀ L h' m → News h₀ L h' ((a, listOf #[.int b' tb', .int c' tc'] k) :: news) → Q (.bool true) { s with heap := h', toks := tk' }) :
   wpAny (model PySem.Challenge.pw_nu0127_01 w) A (call (.ref 365) [.ref a]) Q E s := by
  refine Cx.elim (P := fun A => wpAny _ A _ _ _ _) C fun dp un gd cnn cs fa ccd cl outer A₀ base mg mb mean loose B F X N T hk hdp hun => ?_
  refine wpAny_call ?_
  have gdG3_14 : Unit := ()
  w_top off
  w_strict (
    (k_with "newList" => (fail_if_success fail_if_success have := gdG3_14); ((have := hMid); first | ((have := hwsE); k_dflt (refine' newList_K ?k1 ?k2 ?_; (case k1 => k_asm); (case k2 => k_asm); k_whole); intro wl9 hq9 Fq9 Nq9 hwl9) | ((fail_if_success (have := hwl0)); k_dflt (refine' newList_K ?k1 ?k2 ?_; (case k1 => k_asm); (case k2 => k_asm); k_whole); intro wl0 hq0 Fq0 Nq0 hwl0; (k_lt hwl0)) | ((fail_if_success (have := hbd)); k_dflt (refine' newList_K ?k1 ?k2 ?_; (case k1 => k_asm); (case k2 => k_asm); k_whole); intro bd hq1 Fq1 Nq1 hbd; (k_lt hbd))))
    (k_with "eval IfExp" => (fail_if_success fail_if_success have := gdG3_14); ((fail_if_success (have := hIfE)); refine keep_of ?_))
    (k_with "call builtin:len" => (fail_if_success fail_if_success have := gdG3_14); ((with_reducible show wpAny _ _ (call (Value.builtin "len") [Value.ref _]) _ _ _); k_dflt (refine' len_listN (D := fl) (vs := gs) ?N ?m ?z ?_; (case N => k_asm); (case m => k_mem); (case z => lia)); intro _ _))
    (k_with "subscriptTail Name BinOp ref int" => (fail_if_success fail_if_success have := gdG3_14); (k_dflt (refine' ksa_sub (D := fl) ?k1 ?k2 ?k3 ?k4 ?k5 ?k6 ?_ ?k7; (case k1 => k_asm); (case k2 => k_mem); (case k3 => exact q1); (case k4 => lia); (case k5 => (rw [natI_len]; lia)); (case k6 => lia); (case k7 => with_unfolding_all rfl)); intro _))
    (k_with "div ne" => (fail_if_success fail_if_success have := gdG3_14); lia)
    (k_with "mod fix" => (fail_if_success fail_if_success have := gdG3_14); first | rw [hfm] | skip)
    (k_with "exec If" => (fail_if_success fail_if_success have := gdG3_14); ((fail_if_success (have := hMid)); refine keep_of ?_))
    (k_with "call ref" => (fail_if_success fail_if_success have := gdG3_14); first
      | ((with_reducible show wpAny _ _ (call (Value.ref 310) _) _ _ _); (have hh0 := hxi); (fail_if_success (have := g2D)); k_dflt (refine' take_callN ?C ?U ?h1 ?h2 ?h3 ?h4 ?h5 ?_; (case C => k_extra "cx_now"); (case U => k_updF); (case h1 => assumption); (case h2 => assumption); (case h3 => assumption); (case h4 => first | lia | decide); (case h5 => first | lia | decide)); intro dD b1 c1 tD tb1 tc1 h1 tk1 g2D g3 g4 g5 F1 N1)
      | ((with_reducible show wpAny _ _ (call (Value.ref 310) _) _ _ _); (have hh0 := hxi); (fail_if_success (have := g2E)); k_dflt (refine' take_callN ?C ?U ?h1 ?h2 ?h3 ?h4 ?h5 ?_; (case C => k_extra "cx_now"); (case U => k_updF); (case h1 => assumption); (case h2 => assumption); (case h3 => assumption); (case h4 => first | lia | decide); (case h5 => first | lia | decide)); intro dE b1 c1 tE tb1 tc1 h1 tk1 g2E g3 g4 g5 F1 N1)
      | ((with_reducible show wpAny _ _ (call (Value.ref 310) _) _ _ _); (fail_if_success (have := g2A)); k_dflt (refine' take_callN ?C ?U ?h1 ?h2 ?h3 ?h4 ?h5 ?_; (case C => k_extra "cx_now"); (case U => k_updF); (case h1 => assumption); (case h2 => assumption); (case h3 => assumption); (case h4 => first | lia | decide); (case h5 => first | lia | decide)); intro dA b1 c1 tA tb1 tc1 h1 tk1 g2A g3 g4 g5 F1 N1)
      | ((with_reducible show wpAny _ _ (call (Value.ref 310) _) _ _ _); (fail_if_success (have := g2B)); k_dflt (refine' take_callN ?C ?U ?h1 ?h2 ?h3 ?h4 ?h5 ?_; (case C => k_extra "cx_now"); (case U => k_updF); (case h1 => assumption); (case h2 => assumption); (case h3 => assumption); (case h4 => first | lia | decide); (case h5 => first | lia | decide)); intro dB b1 c1 tB tb1 tc1 h1 tk1 g2B g3 g4 g5 F1 N1)
      | ((with_reducible show wpAny _ _ (call (Value.ref 310) _) _ _ _); (fail_if_success (have := g2C)); k_dflt (refine' take_callN ?C ?U ?h1 ?h2 ?h3 ?h4 ?h5 ?_; (case C => k_extra "cx_now"); (case U => k_updF); (case h1 => assumption); (case h2 => assumption); (case h3 => assumption); (case h4 => first | lia | decide); (case h5 => first | lia | decide)); intro dC b1 c1 tC tb1 tc1 h1 tk1 g2C g3 g4 g5 F1 N1)
      | ((with_reducible show wpAny _ _ (call (Value.ref 310) _) _ _ _); k_dflt (refine' take_callN ?C ?U ?h1 ?h2 ?h3 ?h4 ?h5 ?_; (case C => k_extra "cx_now"); (case U => k_updF); (case h1 => assumption); (case h2 => assumption); (case h3 => assumption); (case h4 => first | lia | decide); (case h5 => first | lia | decide)); intro d1 b1 c1 t1 tb1 tc1 h1 tk1 g21 g3 g4 g5 F1 N1)
      | ((with_reducible show wpAny _ _ (call (Value.ref 315) _) _ _ _); k_dflt (refine' octets_callF (most := 3) ?C ?U ?h1 ?h2 ?h3 ?h4 ?_; (case C => k_extra "cx_now"); (case U => k_updF); (case h1 => assumption); (case h2 => assumption); (case h3 => assumption); (case h4 => decide)); intro pl b1 c1 t1 tb1 tc1 h1 tk1 gl g3 g4 g5 F1 N1)
      | ((with_reducible show wpAny _ _ (call (Value.ref 348) _) _ _ _); k_dflt (refine' fate_callF ?C ?U ?hen ?_; (case C => k_extra "cx_now"); (case U => k_updF); (case hen => assumption)); intro c2 c3 u0' u1' kbd tF hF tkF ec2 ec3 FF NF)
      | refine keep_of ?_)
    (k_with "div fix" => (fail_if_success fail_if_success have := gdG3_14); first | rw [fdiv8] | skip)
    (k_with "call builtin:list.append" => (fail_if_success fail_if_success have := gdG3_14); (k_dflt (refine' append_K ?k1 ?k2 ?k3 ?_ ?z; (case k1 => k_asm); (case k2 => k_asm); (case k3 => k_upd); (case z => (show Array.size _ ≤ _; rw [PySem.sizeLine_eq, List.size_toArray]; lia)); k_whole); intro h8 F8 N8))
    k_dflt (refine' code_defC ?k1 ?k2 ?k3 ?k4 ?k5 ?kA ?kF ?kK ?k6 ?k7 ?k8 ?k9 ?kB ?kD ?_ ?c2 ?c3 ?c4; (case kA => exact rfl); (case kF => exact rfl); (case kK => first | exact rfl | assumption); (case k1 => k_asm); (case k2 => k_asm); (case k3 => k_asm); (case k4 => k_asm); (case k5 => k_asm); (case k6 => k_is); (case k7 => k_is); (case k8 => ktr_room); (case k9 => first | exact BindsTo.of_eq rfl | exact binds_K (by k_in) rfl (by k_is) rfl rfl rfl); (case kB => exact rfl); (case kD => decide +kernel); (case c2 => exact rfl); (case c3 => exact rfl); (case c4 => exact rfl); k_whole; intro gE L1 hE tkE cellsE FGE FE NE YE BE XE TE lE; (have lE1 := lE); (try k_lt lE); (obtain ⟨oc, hEc, dc⟩ := CellsAre.one YE; subst hEc; clear YE); (try simp only [List.cons_append, List.nil_append] at NE); (try dsimp only); (try k_lift BE); (try k_fold))
    have dc2 : oc.data = .cell (some (.ref a)) := dc
    clear dc
    have hcn : ∀ p ∈ news, p.1 ≠ L1 + 1 := fun p hp => Nat.ne_of_lt (Nat.lt_succ_of_lt (lE1 p (.tail _ hp)))
    k_steps
    rename News _ _ _ _ => N3
    rename Fr _ _ _ _ => F3
    rename IsRange _ _ _ _ _ _ _ _ => R3
    unfold Keep
    replace N3 := cb_drop (news := (L1 + 1, oc) :: (a, listOf #[.int b1 tb1, .int c1 tc1] k) :: news) N3 (fun p hp => .tail _ hp)
    refine LCg.CompSrc.range (n := d1) (by rfl) F3 N3 R3 ?c1 ?c2 ?c3 (fun gz => CRest.indO (LCm L1 a oc k news) ?turn ?done ?start)
    case c1 => exact small_one (by lia) (by lia) (by lia) (by lia)
    case c2 => rw [rangeSize_nat]; simp only [Int.sub_zero, Int.toNat_natCast]
    case c3 => rw [PySem.sizeLine_eq]; lia
    case start => exact ⟨b1, c1, tb1, tc1, [], rfl, g3, g4, g5, .nil, rfl, (fun _ h => nomatch h)⟩
    case turn =>
      clear F3 N3
      rintro KK zz i ys nw v I oI Cx1 oC D m₂ hh tk2 E' up hi ⟨b2, c2, tb2, tc2, ks, rfl, p1, p2, p3, p4, p5, p6⟩ ⟨tv, rfl⟩ ho hm F5 N5 off ne
      have offK := off
      simp only [LCg.Off3] at off
      k_steps
      all_goals (refine LCg.CompEnd.intro F1 N1 _ (fun p hp => hp) offK trivial (up _ _ ⟨b1, c1, tb1, tc1, ks ++ [d1], rfl, g3, g4, g5, ?_, by rw [List.length_append, p5]; rfl, fun x hx => ?_⟩))
      · rw [natI, List.map_append]; exact IntsAre.append p4 (.cons _ _ .nil)
      · rcases List.mem_append.mp hx with hx | hx
        · exact p6 x hx
        · rw [List.mem_singleton.mp hx]; lia
    case done =>
      clear F3 N3
      rintro ys nw ⟨b2, c2, tb2, tc2, ks, rfl, p1, p2, p3, p4, p5, p6⟩ D hh tk2 F5 N5 off
      have offK := off
      simp only [LCg.Off1] at off
      k_steps
      have hMid := True.intro
      unfold Keep
      obtain ⟨spN, hspN⟩ : ∃ spN : Nat, spN = 1 + dB := ⟨_, rfl⟩
      have hsp1 : (1 : Int) + (dB : Int) = (spN : Int) := by lia
      rw [hsp1] at F5
      refine wpAny_mono (Q := fun fl' s' => LMid s gE L1 a oc k news dA spN dC fl' s') ?mid ?rest (fun _ _ e => e)
      case mid =>
        k_steps
        · rename News _ _ _ _ => N6
          rename Fr _ _ _ _ => F6
          rename IsRange _ _ _ _ _ _ _ _ => R6
          unfold Keep
          replace N6 := cb_drop (news := (L1 + 1, oc) :: (a, listOf #[.int b1 tb1, .int c1 tc1] k) :: news) N6 (fun p hp => .tail _ hp)
          refine LCg.CompSrc.range (n := 3) (by rfl) F6 N6 R6 rfl rfl (by rw [PySem.sizeLine_eq]; decide) (fun gz => CRest.indO (LCm L1 a oc k news) ?turn2 ?done2 ?start2)
          case start2 => exact ⟨b1, c1, tb1, tc1, [], rfl, g3, g4, g5, .nil, rfl, (fun _ h => nomatch h)⟩
          case turn2 =>
            clear F6 N6
            rintro KK zz i ys nw v I oI Cx1 oC D m₂ hh tk2 E' up hi ⟨b2, c2, tb2, tc2, ks, rfl, p1, p2, p3, p4, p5, p6⟩ ⟨tv, rfl⟩ ho hm F5 N5 off ne
            have offK := off
            simp only [LCg.Off3] at off
            k_steps
            all_goals (refine LCg.CompEnd.intro F1 N1 _ (fun p hp => hp) offK trivial (up _ _ ⟨b1, c1, tb1, tc1, ks ++ [4 + 3 * d1], rfl, g3, g4, g5, ?_, by rw [List.length_append, p5]; rfl, fun x hx => ?_⟩))
            · rw [natI, List.map_append]; exact IntsAre.append p4 (.cons _ _ .nil)
            · rcases List.mem_append.mp hx with hx | hx
              · exact p6 x hx
              · rw [List.mem_singleton.mp hx]; lia
          case done2 =>
            clear F6 N6
            rintro ys nw ⟨b2, c2, tb2, tc2, ks, rfl, p1, p2, p3, p4, p5, p6⟩ D hh tk2 F5 N5 off
            simp only [LCg.Off1] at off
            k_steps
            exact ⟨rfl, _, _, _, D, ys, _, ks, b2, c2, tb2, tc2, _, _, _, rfl, F5, N5, p4, by lia, p6, p1, p2, p3, rfl, rfl, rfl, rfl, Ne.symm off.2.1⟩
        · exact ⟨rfl, _, _, _, D, ys, _, ks, b1, c1, tb1, tc1, _, _, _, rfl, F1, N1, p4, by lia, p6, g3, g4, g5, rfl, rfl, rfl, rfl, Ne.symm off.2.1⟩
      case rest =>
        rintro fl' s' ⟨rfl, h, tk, m', fl, gs, kg, ks, b2, c2, tb2, tc2, tqa, tqb, tqc, rfl, F6, N6, q1, q2, q3, q4, q5, q6, v1, v2, v3, v4, q7⟩
        k_steps
        unfold Keep
        refine' line_call ?C ?hi ?hz ?_
        case C => k_extra "cx_now"
        case hi => exact q1
        case hz => rw [natI_len]; lia
        intro ln dl fo df nl bl tl us kn w0 w1 kb kt TT tf cn tc T2 tx hL tkL i1 FL NL e1 e2 e3 e4 e5 e6 e7
        have e1o := e1
        k_lt e1
        k_lt2 e2
        k_lt2 e3
        k_lt2 e4
        k_lt2 e5
        k_lt2 e6
        k_lt2 e7
        have oln := upcT3 (x1 := fl) (x2 := L1 + 1) (x3 := a) e1 e2
        have odf := upc4 oln e3
        have ofo := upc5 odf e4
        have onl := upc6 ofo e5
        have obl := upc7 onl e6
        have otl := upc8 obl e7
        k_steps
        rename News _ _ _ _ => N7
        rename Fr _ _ _ _ => F7
        rename IsRange _ _ _ _ _ _ _ _ => R7
        replace N7 : News gE L1 _ ((ln, instObj 285 dl) :: (dl, dictOf (lineD w TT fo bl tl dA spN dC tf cn tc) 10) :: (tl, listOf #[] kt) :: (fo, instObj 228 df) :: (df, dictOf (fatesD w T2 nl 0 tx) 2) :: (nl, listOf us.toArray kn) :: (bl, listOf #[.int 0 w0, .int 0 w1] kb) :: (a, listOf #[.int b1 tb1, .int c1 tc1] k) :: (L1 + 1, oc) :: (fl, listOf gs.toArray kg) :: (bd, listOf #[.int 0 tkL, .int 0 (tkL + 1)] 0) :: (wl0, listOf #[] 0) :: news) := cb_drop N7 (fun p hp => by
          simp only [List.mem_cons] at hp ⊢
          rcases hp with h | h | h | h | h | h | h | h | h | h | h | h | h <;> simp only [h, true_or, or_true])
        have hnw : ∀ p ∈ news, p.1 < L1 := fun p hp => lE1 p (.tail _ hp)
        refine ForSrc.range (n := d1) (by rfl) (by first | passes_own | with_unfolding_all passes_own) F7 N7 R7 ?c1 ?c2 (fun I g hI => TRest.indO (LJ5 w TT T2 tf fo bl tl nl ln dl df a fl bd L1 dA spN dC ks us gs kn k kg oc tqa tqb tqc news I) ?turn5 ?done5 ?start5)
        case c1 => exact small_one (by lia) (by lia) (by lia) (by lia)
        case c2 => rw [rangeSize_nat]; simp only [Int.sub_zero, Int.toNat_natCast]
        case start5 =>
          have hI0 := allLt_of hI
          simp only [AllLt] at hI0
          have hn2 : ∀ {X : Addr}, @LT.lt Nat _ L1 X → ∀ p ∈ news, p.1 ≠ X := fun hX p hp => Nat.ne_of_lt (Nat.lt_trans (hnw p hp) hX)
          have h0 : (if ks = [] then 0 else 0 % ks.length) = 0 := by split <;> simp
          refine ⟨cn, tc, [], [], [], kt, tx, 0, 0, w0, w1, tkL, tkL + 1, kb, 0, b1, c1, tb1, tc1, [], 0, wl0, [], news, 0, _, _, 0, by rw [h0]; rfl, g3, g4, g5, Int.le_refl _, Int.le_refl _, Int.le_refl _, by lia, .nil, .nil, .start, Nat.zero_le _, (fun _ h => nomatch h), (fun _ h => h), hn2 ?_, hn2 ?_, hn2 ?_, hn2 ?_, hne, hn2 ?_, hn2 ?_, ?_, ?_, ?_, ?_, rfl, rfl, rfl, rfl, rfl, v1, v2, v3, v4⟩
          all_goals first | k_ne | k_extra "zlt" | exact allLt_ne hI0.2.2.2.2.2.2.2.2.2.2.2.2
        case turn5 =>
          have hI0 := allLt_of hI
          simp only [AllLt] at hI0
          clear F7 N7
          rintro KK5 QQ5 zz5 i m' nw v it hh tk up5 hi ⟨cn, tc, vs, rs, qs, kt, tx, b0, b1, y0, y1, z0, z1, kb, kd, s0, s1, ts0, ts1, ws, kw, wl, nt, T, nwv, tn, tsn, no, rfl, x1, x2, x3, x4, x5, x6, x7, HT, HW, HE, HL, n1, n2, f1, f2, f3, f4, f5, f6, f7, f8, w1', w2', w3', u1, u2, u3, u4, u5, u6, u7, u8, u9⟩ ⟨tv, rfl⟩ hit F5 N5
          have owl := upc9 otl w1'
          obtain ⟨xi, hxi⟩ : ∃ xi, xi = (if ks = [] then 0 else i % ks.length) := ⟨_, rfl⟩
          rw [← hxi] at N5
          have hgl : gs.length = ks.length := by have := q1.length; rw [natI_len] at this; exact this
          k_steps
          rename News _ _ _ _ => NX
          rename Fr _ _ _ _ => FX
          refine keep_in ?_
          refine wp_cut FX NX (fun v => ∃ t, v = .int (nextN ks xi : Nat) t) ?ife ?go
          case ife =>
            have hIfE := True.intro
            by_cases hks : ks = []
            · subst hks
              obtain rfl : gs = [] := List.eq_nil_of_length_eq_zero hgl
              k_steps
              refine keep_in ?_
              refine' ne_nil (D := fl) (vs := []) ?N ?h1 ?h2 ?hu ?_
              case N => k_asm
              case h1 => k_mem
              case h2 => exact .head _
              case hu => ktr_units
              k_steps
              rename News _ _ _ _ => NY
              rename Fr _ _ _ _ => FY
              exact ⟨⟨_, _, ⟨_, rfl⟩, rfl, FY, cb_drop NY (fun p hp => .tail _ hp)⟩⟩
            · have hkl := List.length_pos_iff.mpr hks
              have hfm : (0 + (i : Int)).fmod (gs.length : Int) = ((i % ks.length : Nat) : Int) := by rw [hgl, Int.zero_add]; exact fmodNN _ _
              have hil := Nat.mod_lt i hkl
              k_steps
              refine keep_in ?_
              refine' ne_nil (D := fl) (vs := gs) ?N ?h1 ?h2 ?hu ?_
              case N => k_asm
              case h1 => k_mem
              case h2 => exact .head _
              case hu => ktr_units
              k_steps
              · exfalso
                rename (List.isEmpty _ = true) => hq
                rw [List.isEmpty_iff] at hq
                rw [hq] at hgl
                rw [← hgl] at hkl
                exact Nat.lt_irrefl _ hkl
              · rename News _ _ _ _ => NY
                rename Fr _ _ _ _ => FY
                refine ⟨⟨_, _, ⟨_, congrArg (fun z => Value.int z _) ?_⟩, rfl, FY, cb_drop NY (fun p hp => .tail _ hp)⟩⟩
                rw [Int.toNat_natCast, natI_get]
                unfold nextN
                rw [if_neg hks, hxi, if_neg hks]
          case go =>
            rintro v hg tkg ⟨tnb, rfl⟩ FG1 NG1
            k_steps
            refine keep_in ?_
            rename News _ _ _ _ => NX
            replace NX := nw_s1 NX
            refine' send_call (nt := nt) (x := xi) (fs := ks) no ?C ?hs ?hr ?hz ?ho ?hsp ?hi ?hf ?hx ?hen ?hb0 ?hb1 ?o1 ?o2 ?o3 ?o4 ?o5 ?o6 ?p1 ?p2 ?p3 ?p4 ?_
            case C => k_extra "cx_now"
            case hs => exact fun p hp => .tail _ (.tail _ (.tail _ (.tail _ (.tail _ (.tail _ (n1 p hp))))))
            case hr => exact HT
            case hz => lia
            case ho => lia
            case hsp => lia
            case hi => exact i1
            case hf => lia
            case hx => (intro hks; rw [hxi, if_neg hks]; exact Nat.mod_lt _ (List.length_pos_iff.mpr hks))
            case hen => lia
            case hb0 => exact x4
            case hb1 => exact x5
            case o1 => exact e2
            case o2 => exact e3
            case o3 => exact e4
            case o4 => exact e5
            case o5 => exact e6
            case o6 => exact e7
            case p1 => k_all
            case p2 => k_all
            case p3 => k_all
            case p4 => k_all
            intro rs2 ext vs2 kt2 cn2 tc2 c0 c1' v0 v1' kb2 tx2 hS tkS IS ec0 ec1 FS NS TS xS
            replace NS := nw_s2 NS
            have hxb : ∀ q ∈ ext, tl < q.1 ∧ a < q.1 ∧ bd < q.1 ∧ wl < q.1 ∧ I < q.1 := fun q hq => ⟨xS q hq _ (.head _), xS q hq _ (.tail _ (.head _)), xS q hq _ (.tail _ (.tail _ (.tail _ (.tail _ (.head _))))), xS q hq _ (.tail _ (.tail _ (.tail _ (.tail _ (.tail _ (.head _)))))), xS q hq _ (.tail _ (.tail _ (.tail _ (.tail _ (.tail _ (.tail _ (.head _)))))))⟩
            have ed1 : @LT.lt Nat _ dl tl := by lia
            have ed2 : @LT.lt Nat _ df tl := by lia
            have ed3 : @LT.lt Nat _ bl tl := by lia
            obtain ⟨T2', hT2'⟩ : ∃ T2', T2' = ext ++ T := ⟨_, rfl⟩
            obtain ⟨nt2, hnt2⟩ : ∃ nt2, nt2 = ext ++ nt := ⟨_, rfl⟩
            have g1 : ∀ p ∈ T2', p.1 ≠ dl := hT2' ▸ off_app (fun q hq => Nat.lt_trans ed1 (hxb q hq).1) f1
            have g2 : ∀ p ∈ T2', p.1 ≠ tl := hT2' ▸ off_app (fun q hq => (hxb q hq).1) f2
            have g3' : ∀ p ∈ T2', p.1 ≠ df := hT2' ▸ off_app (fun q hq => Nat.lt_trans ed2 (hxb q hq).1) f3
            have g4' : ∀ p ∈ T2', p.1 ≠ bl := hT2' ▸ off_app (fun q hq => Nat.lt_trans ed3 (hxb q hq).1) f4
            have g5' : ∀ p ∈ T2', p.1 ≠ a := hT2' ▸ off_app (fun q hq => (hxb q hq).2.1) f5
            have g6' : ∀ p ∈ T2', p.1 ≠ bd := hT2' ▸ off_app (fun q hq => (hxb q hq).2.2.1) f6
            have g7' : ∀ p ∈ T2', p.1 ≠ wl := hT2' ▸ off_app (fun q hq => (hxb q hq).2.2.2.1) f7
            have g8' : ∀ p ∈ T2', p.1 ≠ I := hT2' ▸ off_app (fun q hq => (hxb q hq).2.2.2.2) f8
            have nn1 : ∀ p ∈ nt2, p ∈ T2' := fun p hp => by
              rw [hnt2] at hp
              rw [hT2']
              exact (List.mem_append.mp hp).elim (List.mem_append_left _) fun q => List.mem_append_right _ (n1 p q)
            have nn2 : ∀ p ∈ news, p ∈ T2' := fun p hp => hT2' ▸ List.mem_append_right _ (n2 p hp)
            have HW2 : All2 (RowAt nt2) ws qs := HW.mono fun _ _ h => h.mono fun p hp => hnt2 ▸ List.mem_append_right _ hp
            rw [← hnt2] at TS
            have HE2 := (HE.up (show nwv + (dA : Int) + (spN : Int) ≤ nwv + (dD : Int) + (dA : Int) + (spN : Int) by lia)).sent (by lia) (Int.le_refl _) IS
            have HL2 : rs2.length ≤ 2 * (i + 1) := by
              have := sent_len IS HE.so HE.le metL_len
              lia
            rw [← hT2'] at NS
            generalize hML : metL _ _ _ _ _ = ML at IS HE2
            have hen1 : (dE : Int) = 0 ∨ (dE : Int) = 1 := by lia
            k_steps
            refine keep_in ?_
            refine' met_call ?C ?ho ?hsp ?_
            case C => k_extra "cx_now"
            case ho => lia
            case hsp => lia
            rw [hML]
            intro D tps nD ext2 hM tkM AP FM NM lD lx lxD
            replace NM := nw_s3 NM
            have hD0 := allLt_of lD
            simp only [AllLt] at hD0
            obtain ⟨T3, hT3⟩ : ∃ T3, T3 = ext2 ++ T2' := ⟨_, rfl⟩
            have hxc : ∀ q ∈ ext2, @LT.lt Nat _ tl q.1 ∧ @LT.lt Nat _ a q.1 ∧ @LT.lt Nat _ bd q.1 ∧ @LT.lt Nat _ wl q.1 ∧ @LT.lt Nat _ I q.1 := fun q hq => ⟨lx q hq (tl, _) (by k_mem), lx q hq (a, _) (by k_mem), lx q hq (bd, _) (by k_mem), lx q hq (wl, _) (by k_mem), lx q hq (I, _) (by k_mem)⟩
            have k1 : ∀ p ∈ T3, p.1 ≠ dl := hT3 ▸ off_app (fun q hq => Nat.lt_trans ed1 (hxc q hq).1) g1
            have k2 : ∀ p ∈ T3, p.1 ≠ tl := hT3 ▸ off_app (fun q hq => (hxc q hq).1) g2
            have k3 : ∀ p ∈ T3, p.1 ≠ df := hT3 ▸ off_app (fun q hq => Nat.lt_trans ed2 (hxc q hq).1) g3'
            have k4 : ∀ p ∈ T3, p.1 ≠ bl := hT3 ▸ off_app (fun q hq => Nat.lt_trans ed3 (hxc q hq).1) g4'
            have k5 : ∀ p ∈ T3, p.1 ≠ a := hT3 ▸ off_app (fun q hq => (hxc q hq).2.1) g5'
            have k6 : ∀ p ∈ T3, p.1 ≠ bd := hT3 ▸ off_app (fun q hq => (hxc q hq).2.2.1) g6'
            have k7 : ∀ p ∈ T3, p.1 ≠ wl := hT3 ▸ off_app (fun q hq => (hxc q hq).2.2.2.1) g7'
            have k8 : ∀ p ∈ T3, p.1 ≠ I := hT3 ▸ off_app (fun q hq => (hxc q hq).2.2.2.2) g8'
            have kx : ∀ p ∈ ext2, p ∈ T3 := fun p hp => hT3 ▸ List.mem_append_left _ hp
            have kT : ∀ p ∈ T2', p ∈ T3 := fun p hp => hT3 ▸ List.mem_append_right _ hp
            rw [← hT3] at NM
            have htl := AP.len
            refine ForSrc.tups (its := tps.toArray) (k := nD) (by rfl) (by first | passes_own | with_unfolding_all passes_own) FM NM (.head _) (fun I2 g hI2 => TRest.indO (LJ6 w TT T2 tf fo bl tl nl ln dl df a fl bd L1 dA spN dC ks us gs kn k kg oc tqa tqb tqc cn2 tc2 vs2 kt2 xi tx2 c0 c1' v0 v1' kb2 b1 c1 tb1 tc1 c2 c3 u0' u1' kbd wl qs no ML T3 nt2 nwv dD dE tE D tps nD I it I2) ?turn6 ?done6 ?start6) ?refs
            case refs =>
              intro j v hv
              rw [List.getElem?_toArray] at hv
              have hj := (List.getElem?_eq_some_iff.mp hv).1
              obtain ⟨v', r0, e1', e2', x0, tt1, tt2, hx0, mx⟩ := AP.get (i := j) (by lia)
              exact ⟨x0, (Option.some.inj (hv.symm.trans e1')).trans hx0⟩
            case start6 =>
              refine ⟨ws, kw, T3, _, _, rfl, ?_, fun _ h => h, fun p hp => kT p (nn1 p hp), k1, k2, k3, k4, k5, k6, k7, k8, fun p hp => Nat.ne_of_lt (hI2 p (by simp only [List.mem_cons, hp, or_true])), u1, u2, u3, rfl, u5, u6, u7, u8, u9, rfl⟩
              rw [List.take_zero, show rowsOf (1 - (dE : Int)) no [] = [] from rfl, List.append_nil]
              exact HW2.mono fun _ _ h => h.mono fun p hp => kT p (nn1 p hp)
            case turn6 =>
              have hI20 := allLt_of hI2
              simp only [AllLt] at hI20
              clear FM NM
              rintro KK6 QQ6 zz6 j m2 nw v it2 h2 tk2 up6 hj ⟨ws2, kw2, T4, ts2, tn2, rfl, r1, r3, r4, o1', o2', o3', o4', o5', o6', o7', o8', o9', y1', y2', y3', y4', y5', y6', y7', y8', y9', y10'⟩ hv hit2 F5 N5
              rw [List.size_toArray] at hj
              rw [List.getElem?_toArray] at hv
              obtain ⟨v', ⟨t0, oo0⟩, e1', e2', x0, tt1, tt2, hx0, mx⟩ := AP.get (i := j) (by lia)
              obtain rfl := Option.some.inj (hv.symm.trans e1')
              subst hx0
              replace mx := r3 _ (kx _ mx)
              have hj2 : j < ML.length := by lia
              have hML2 : ML.length ≤ 2 := hML ▸ metL_len
              have hws : ws2.length ≤ 100 := by
                have q1 := r1.len
                have q2 := HE.pm.length_eq
                rw [List.length_append, rowsOf_len, List.length_take] at q1
                lia
              have hsn : ((no + j : Nat) : Int) + 1 = ((no + (j + 1) : Nat) : Int) := by lia
              k_steps
              rename (I2 < _ ∧ _) => hR
              rename_i xr hxz Fxz Nxz
              rw [hsn] at F8 N8
              rw [List.push_toArray] at N8
              refine UnrEnd.intro F8 N8 _ nw_s5 ?off6 ⟨.head _, up6 _ _ ⟨ws2 ++ [.ref xr], kw2 + 1, _, _, tn2, rfl, ?rows6, fun p hp => .tail _ (r3 p hp), fun p hp => .tail _ (r4 p hp), ?q1, ?q2, ?q3, ?q4, ?q5, ?q6, ?q7, ?q8, ?q9, y1', y2', y3', y4', rfl, y6', y7', y8', y9', y10'⟩⟩
              case rows6 =>
                have etk : ML.take (j + 1) = ML.take j ++ [(t0, oo0)] := by rw [List.take_succ, e2']; rfl
                have el : (ML.take j).length = j := by rw [List.length_take]; lia
                rw [etk, rowsOf_snoc, ← List.append_assoc, el]
                exact snoc_row (r := ⟨t0, no + j + 1, 1 - (dE : Int), oo0⟩) r1
              case off6 => exact nw_off6 hI20 hR.1 o9'
              case q1 => exact ne_cons hR.2.2.2.2.1 o1'
              case q2 => exact ne_cons hR.2.2.2.2.2.1 o2'
              case q3 => exact ne_cons hR.2.2.2.2.2.2.2.1 o3'
              case q4 => exact ne_cons hR.2.2.2.2.2.2.2.2.2.1 o4'
              case q5 => exact ne_cons hR.2.2.2.2.2.2.2.2.2.2.1 o5'
              case q6 => exact ne_cons hR.2.2.2.2.2.2.2.2.2.2.2.2.2.1 o6'
              case q7 => exact ne_cons hR.2.2.2.2.2.2.2.2.2.2.2.2.2.2.1 o7'
              case q8 => exact ne_cons hR.2.2.1 o8'
              case q9 => exact ne_cons hR.1 o9'
            case done6 =>
              clear FM NM
              rintro m2 nw h2 tk2 ⟨ws2, kw2, T4, ts2, tn2, rfl, r1, r3, r4, o1', o2', o3', o4', o5', o6', o7', o8', o9', y1', y2', y3', y4', y5', y6', y7', y8', y9', y10'⟩ F5 N5
              rw [List.size_toArray, htl, List.take_length] at r1
              rw [List.size_toArray, htl] at y5'
              replace N5 := nw_s4 N5
              have hnx : nextX ks xi = (if ks = [] then 0 else (i + 1) % ks.length) := by rw [hxi]; exact nextX_eq ks i
              rw [hnx, ec2.trans ec0.symm, ec3.trans ec1.symm] at N5
              have hc0 : 0 ≤ c0 := by
                rw [ec0]
                split
                · exact badL_pos x4
                · exact x4
              have hc1 : 0 ≤ c1' := by
                rw [ec1]
                split
                · exact x5
                · exact badL_pos x5
              have TS4 := TS.mono r4
              have n24 : ∀ p ∈ news, p ∈ T4 := fun p hp => r3 p (kT p (nn2 p hp))
              k_steps
              · refine keep_in ?_
                refine' looked_callG (nt := T4) ?C ?hs ?hr ?hw ?HE ?hz ?o1 ?o2 ?o3 ?o4 ?o5 ?_
                case C => k_extra "cx_now"
                case hs => exact fun _ h => h
                case hr => exact TS4
                case hw => exact r1
                case HE => exact HE2
                case hz => lia
                case o1 => exact e2
                case o2 => lia
                case o3 => refine ⟨?_, ?_, ?_, ?_, ?_, ?_, ?_, ?_, ?_⟩ <;> k_ne
                case o4 => exact o2'
                case o5 => exact Nat.ne_of_gt w1'
                intro us3 D3 ws3 kt3 kw3 h3 tk3 TS5 RW5 FL5 NL5 lT5 lt51 lt52 lt53
                k_steps
                any_goals exact trivial
                exact up5 _ _ (⟨cn2, tc2, us3, _, _, kt3, tx2, c0, c1', v0, v1', u0', u1', kb2, kbd, b1, c1, tb1, tc1, ws3, kw3, D3, T4, T4, nwv + dD, tn2, ts2, no + ML.length, rfl, g3, g4, g5, hc0, hc1, by lia, by lia, TS5, RW5, HE2.seen, Nat.le_trans (List.length_filter_le _ _) HL2, fun _ h => h, n24, o1', o2', o3', o4', o5', o6', fun p hp => Nat.ne_of_lt (lT5 p hp), o8', lt51, Nat.ne_of_gt lt53, Nat.ne_of_gt lt52, y1', rfl, y3', y4', y5', y6', y7', y8', y9'⟩)
              any_goals exact trivial
              · exact up5 _ _ (⟨cn2, tc2, vs2, rs2, qs ++ rowsOf (1 - (dE : Int)) no ML, kt2, tx2, c0, c1', v0, v1', u0', u1', kb2, kbd, b1, c1, tb1, tc1, ws2, kw2, wl, T4, T4, nwv + dD, tn2, ts2, no + ML.length, rfl, g3, g4, g5, hc0, hc1, by lia, by lia, TS4, r1, HE2, HL2, fun _ h => h, n24, o1', o2', o3', o4', o5', o6', o7', o8', w1', w2', w3', y1', y2', y3', y4', y5', y6', y7', y8', y9'⟩)
        case done5 =>
          have hI0 := allLt_of hI
          simp only [AllLt] at hI0
          clear F7 N7 R7
          rintro m' nw hh tk ⟨cn, tc, vs, rs, qs, kt, tx, b0, b1, y0, y1, z0, z1, kb, kd, s0, s1, ts0, ts1, ws, kw, wl, nt, T, nwv, tn, tsn, no, rfl, x1, x2, x3, x4, x5, x6, x7, HT, HW, HE, HL, n1, n2, f1, f2, f3, f4, f5, f6, f7, f8, w1', w2', w3', u1, u2, u3, u4, u5, u6, u7, u8, u9⟩ F5 N5
          k_steps
          rename News _ _ _ _ => N7
          rename Fr _ _ _ _ => F7
          rename IsRange _ _ _ _ _ _ _ _ => R7
          refine ForSrc.range (n := 8) (by rfl) (by first | passes_own | with_unfolding_all passes_own) F7 N7 R7 ?c1 ?c2 (fun I3 g hI3 => TRest.indO (LJ7 w TT T2 tf fo bl tl nl ln dl df a fl bd L1 dA spN dC ks us gs kn k kg oc cn tc d1 tx b0 b1 y0 y1 kb s0 s1 ts0 ts1 z0 z1 kd nt T no nwv I3) ?turn7 ?done7 ?start7)
          case c1 => exact small_one (by lia) (by lia) (by lia) (by lia)
          case c2 =>
            rw [rangeSize_nat, show nwv + 8 - nwv = ((8 : Nat) : Int) by lia]
            rfl
          case start7 =>
            have hI30 := allLt_of hI3
            simp only [AllLt] at hI30
            exact ⟨vs, rs, qs, kt, ws, kw, wl, rfl, HT, HW, HE, by lia, fun _ _ => .inl rfl, w1', neN (by lia), u1, u2⟩
          case turn7 =>
            have hI30 := allLt_of hI3
            simp only [AllLt] at hI30
            clear F7 N7 R7 HT HW HE
            rintro KK7 QQ7 zz7 t m' nw v it3 h2 tk2 up7 ht ⟨vs, rs, qs, kt, ws, kw, wl, rfl, HT, HW, HE, HL, HB, w1', w2', y1', y2'⟩ ⟨tv, rfl⟩ hit3 F5 N5
            have owl := upc9 otl w1'
            k_steps
            refine keep_in ?_
            refine' looked_callG (nt := nt) ?C ?hs ?hr ?hw ?HE ?hz ?o1 ?o2 ?o3 ?o4 ?o5 ?_
            case C => k_extra "cx_now"
            case hs => exact n1
            case hr => exact HT
            case hw => exact HW
            case HE => exact HE
            case hz => lia
            case o1 => exact e2
            case o2 => lia
            case o3 => refine ⟨?_, ?_, ?_, ?_, ?_, ?_, ?_, ?_, ?_⟩ <;> k_ne
            case o4 => exact f2
            case o5 => exact Nat.ne_of_gt w1'
            intro us3 D3 ws3 kt3 kw3 h3 tk3 TS5 RW5 FL5 NL5 lT5 lt51 lt52 lt53
            k_steps
            any_goals exact trivial
            exact up7 _ _ ⟨us3, _, _, kt3, ws3, kw3, D3, rfl, TS5, RW5, HE.seen, Nat.le_trans (List.length_filter_le _ _) HL, (fun r hr => .inr (by
              have := of_decide_eq_true (List.mem_filter.mp hr).2
              lia)), lt51, Nat.ne_of_gt lt52, y1', rfl⟩
          case done7 =>
            clear F7 N7 R7 HT HW HE
            rintro m' nw h2 tk2 ⟨vs, rs, qs, kt, ws, kw, wl, rfl, HT, HW, HE, HL, HB, w1', w2', y1', y2'⟩ F5 N5
            have hrs : rs = [] := by
              cases rs with
              | nil => rfl
              | cons r l =>
                exact (late_abs (HB r (.head _)) (HE.tm r (.head _)) g2A g2B hspN).elim
            have hqs : qs = [] := by
              have := HE.pm
              rw [hrs] at this
              exact this.eq_nil
            have hwsE : ws.isEmpty = true := by
              have := HW.len
              rw [hqs] at this
              exact List.isEmpty_iff.mpr (List.eq_nil_of_length_eq_zero this)
            k_steps
            refine keep_in ?_
            refine' eq_nil (vs := ws) ?N ?h1 ?h2 ?hu ?_
            case N => exact Nq9
            case h1 => k_mem
            case h2 => exact .head _
            case hu => ktr_units
            rw [hwsE]
            k_steps
            rename News h₀ _ _ _ => N8
            rename Fr h₀ _ _ m => F8
            exact ret s0 s1 ts0 ts1 _ _ x1 x2 x3 F8 (cb_drop N8 fun p hp => by
              simp only [List.mem_cons] at hp ⊢
              rcases hp with h | h
              · simp only [h, true_or, or_true]
              · have := n2 p h
                simp only [this, or_true])
  )
end
/-! the one-bit step of the sum, and its linearity -/
def stp (w : Nat) : Nat := w / 2 ^^^ (w % 2 * 3988292384)
def stpN : Nat → Nat → Nat
  | 0, w => w
  | n + 1, w => stpN n (stp w)
theorem b2 (x y : Nat) : (x ^^^ y) % 2 = (x % 2 + y % 2) % 2 := by
  have q := @Nat.xor_mod_two_eq_one x y
  rcases Nat.mod_two_eq_zero_or_one x with p1 | p1 <;> rcases Nat.mod_two_eq_zero_or_one y with p2 | p2 <;> rcases Nat.mod_two_eq_zero_or_one (x ^^^ y) with p3 | p3 <;> simp [p1, p2, p3] at q ⊢
theorem stp_xor (x y : Nat) : stp (x ^^^ y) = stp x ^^^ stp y := by
  unfold stp
  rw [Nat.xor_div_two, b2]
  rcases Nat.mod_two_eq_zero_or_one x with p1 | p1 <;> rcases Nat.mod_two_eq_zero_or_one y with p2 | p2 <;> simp only [p1, p2, Nat.zero_mul, Nat.one_mul, Nat.xor_zero, Nat.add_zero, Nat.zero_add, Nat.zero_mod, Nat.one_mod, Nat.reduceAdd, Nat.reduceMod]
  · ac_rfl
  · ac_rfl
  · rw [show (x / 2 ^^^ 3988292384) ^^^ (y / 2 ^^^ 3988292384) = (x / 2 ^^^ y / 2) ^^^ (3988292384 ^^^ 3988292384) by ac_rfl, Nat.xor_self, Nat.xor_zero]
theorem stpN_xor : ∀ n x y, stpN n (x ^^^ y) = stpN n x ^^^ stpN n y
  | 0, _, _ => rfl
  | n + 1, x, y => by unfold stpN; rw [stp_xor, stpN_xor n]
theorem stp_two (y : Nat) : stp (2 * y) = y := by
  unfold stp
  rw [show 2 * y / 2 = y by lia, show 2 * y % 2 = 0 by lia, Nat.zero_mul, Nat.xor_zero]
theorem stpN_pow : ∀ n y, stpN n (2 ^ n * y) = y
  | 0, y => by unfold stpN; lia
  | n + 1, y => by
    unfold stpN
    rw [show 2 ^ (n + 1) * y = 2 * (2 ^ n * y) by rw [Nat.pow_succ]; ac_rfl, stp_two, stpN_pow n]
theorem stpN_add : ∀ a b w, stpN (a + b) w = stpN b (stpN a w)
  | 0, b, w => by rw [Nat.zero_add]; rfl
  | a + 1, b, w => by rw [Nat.add_right_comm]; show stpN (a + b) (stp w) = _; rw [stpN_add a]; rfl
theorem add_xor (a b k : Nat) (hb : b < 2 ^ k) : 2 ^ k * a + b = (2 ^ k * a) ^^^ b := by
  have h := bitXorN (2 ^ k * a) b
  rw [bitXor_and, bitAnd_pp (Int.natCast_nonneg _) (Int.natCast_nonneg _), Int.toNat_natCast, Int.toNat_natCast, Nat.mul_comm (2 ^ k) a, andHi a b k hb] at h
  rw [Nat.mul_comm (2 ^ k) a]
  lia
theorem nib_stp (w : Nat) : nibN w = stpN 4 w := by
  have h1 : ∀ j, j < 16 → tabN.getD j 0 = stpN 4 j := by decide +kernel
  have h2 : w = (2 ^ 4 * (w / 16)) ^^^ (w % 16) := by rw [← add_xor _ _ 4 (by lia)]; lia
  conv => rhs; rw [h2]
  rw [stpN_xor, stpN_pow, ← h1 _ (Nat.mod_lt _ (by decide))]
  rfl
theorem oct_stp (w o : Nat) : octN w o = stpN 8 (w ^^^ o) := by
  unfold octN
  rw [nib_stp, nib_stp, ← stpN_add]
/-- a run of octets over the state, bit by bit -/
theorem stp_feed (k w : Nat) (y : Nat) : stpN k (w ^^^ 2 ^ k * y) = stpN k w ^^^ y := by rw [stpN_xor, stpN_pow]
theorem crcW_append (w : Nat) (a b : List UInt8) : crcW w (a ++ b) = crcW (crcW w a) b := by unfold crcW; rw [List.foldl_append]
theorem crcW_nil (w : Nat) : crcW w [] = w := rfl
theorem crcW_cons (w : Nat) (c : UInt8) (b : List UInt8) : crcW w (c :: b) = crcW (stpN 8 (w ^^^ c.toNat)) b := by
  show crcW (octN w c.toNat) b = _
  rw [oct_stp]
theorem crcW_xor : ∀ (b : List UInt8) (x y : Nat), crcW (x ^^^ y) b = crcW x b ^^^ stpN (8 * b.length) y
  | [], x, y => by rw [crcW_nil, crcW_nil]; rfl
  | c :: b, x, y => by
    rw [crcW_cons, crcW_cons, show (x ^^^ y) ^^^ c.toNat = (x ^^^ c.toNat) ^^^ y by ac_rfl, stpN_xor, crcW_xor b, List.length_cons, ← stpN_add]
    congr 2
    lia
theorem u8n (n : Nat) (h : n < 256) : n.toUInt8.toNat = n := by
  show n % 2 ^ 8 = n
  exact Nat.mod_eq_of_lt h
theorem feed8 (w c : Nat) : stpN 8 (w ^^^ c) = stpN 8 (w ^^^ c % 256) ^^^ c / 256 := by
  have h2 : c = (2 ^ 8 * (c / 256)) ^^^ (c % 256) := by rw [← add_xor _ _ 8 (by lia)]; lia
  conv => lhs; rw [h2]
  rw [show w ^^^ (2 ^ 8 * (c / 256) ^^^ c % 256) = (w ^^^ c % 256) ^^^ 2 ^ 8 * (c / 256) by ac_rfl, stp_feed]
theorem crcW_le32 (w c : Nat) (hc : c < 2 ^ 32) : crcW w (le32 c) = stpN 32 (w ^^^ c) := by
  unfold le32
  rw [crcW_cons, crcW_cons, crcW_cons, crcW_cons, crcW_nil, u8n _ (by lia), u8n _ (by lia), u8n _ (by lia), u8n _ (by lia)]
  rw [show (32 : Nat) = 8 + (8 + (8 + 8)) from rfl, stpN_add, feed8 w c, stpN_add, feed8 _ (c / 256), stpN_add, feed8 _ (c / 256 / 256), show c / 256 / 256 = c / 65536 by lia, show c / 65536 / 256 = c / 16777216 by lia]
theorem stp_lt (x : Nat) (h : x < 2 ^ 32) : stp x < 2 ^ 32 := by
  unfold stp
  refine Nat.xor_lt_two_pow (by lia) ?_
  rcases Nat.mod_two_eq_zero_or_one x with p | p <;> rw [p] <;> decide
theorem stp_ne (x : Nat) (h : x < 2 ^ 32) (h0 : x ≠ 0) : stp x ≠ 0 := by
  unfold stp
  intro e
  rcases Nat.mod_two_eq_zero_or_one x with p | p
  · rw [p, Nat.zero_mul, Nat.xor_zero] at e; lia
  · rw [p, Nat.one_mul] at e
    have e2 : x / 2 = 3988292384 := by
      have := congrArg (· ^^^ 3988292384) e
      simpa [Nat.xor_assoc] using this
    lia
theorem stpN_ne : ∀ n x, x < 2 ^ 32 → x ≠ 0 → stpN n x ≠ 0 ∧ stpN n x < 2 ^ 32
  | 0, x, h, h0 => ⟨h0, h⟩
  | n + 1, x, h, h0 => by unfold stpN; exact stpN_ne n _ (stp_lt x h) (stp_ne x h h0)
def noOne : Nat → Nat → Bool
  | 0, _ => true
  | n + 1, w => w != 1 && noOne n (stp w)
theorem noOne_ok : ∀ n w, noOne n w = true → ∀ d, d < n → stpN d w ≠ 1
  | n + 1, w, h, 0, _ => by
    unfold noOne at h
    exact bne_iff_ne.mp (Bool.and_eq_true_iff.mp h).1
  | n + 1, w, h, d + 1, hd => by
    unfold noOne at h
    exact noOne_ok n (stp w) (Bool.and_eq_true_iff.mp h).2 d (by lia)
theorem order_ok (d : Nat) (h0 : 1 ≤ d) (h : d ≤ 900) : stpN d 1 ≠ 1 := by
  have k : noOne 900 (stp 1) = true := by decide +kernel
  have := noOne_ok 900 (stp 1) k (d - 1) (by lia)
  obtain ⟨e, rfl⟩ : ∃ e, d = e + 1 := ⟨d - 1, by lia⟩
  exact this
theorem crcW_turn (w : Nat) (P : List UInt8) (k : Nat) (hk : k < 8 * P.length) : crcW w (turnB P k) = crcW w P ^^^ stpN (8 * P.length - k) 1 := by
  have hi : k / 8 < P.length := by lia
  have e : P = P.take (k / 8) ++ P.getD (k / 8) 0 :: P.drop (k / 8 + 1) := by
    have hg : P.getD (k / 8) 0 = P[k / 8] := by simp [List.getD, List.getElem?_eq_getElem hi]
    rw [hg, ← List.drop_eq_getElem_cons hi, List.take_append_drop]
  have hl : (P.drop (k / 8 + 1)).length = P.length - (k / 8 + 1) := List.length_drop
  conv => rhs; rw [e]
  unfold turnB
  rw [crcW_append, crcW_append, crcW_cons, crcW_cons, u8n _ (xor_u8 _ _ (by lia)), ← Nat.xor_assoc, stpN_xor, crcW_xor, ← e, hl, ← stpN_add]
  congr 1
  have e8 : 8 = k % 8 + (8 - k % 8) := by lia
  rw [show 8 + 8 * (P.length - (k / 8 + 1)) = k % 8 + (8 * P.length - k) by lia, stpN_add, show stpN (k % 8) (2 ^ (k % 8)) = 1 by simpa using stpN_pow (k % 8) 1]
/-! the long division, bit by bit -/
def mred (h : Nat) : Nat := if h / 2 ^ 32 = 1 then h ^^^ 4374732215 else h
theorem dbl_xor (a b : Nat) : 2 * (a ^^^ b) = 2 * a ^^^ 2 * b := by
  have h := @Nat.xor_div_two (2 * a) (2 * b)
  have h2 := b2 (2 * a) (2 * b)
  rw [show 2 * a / 2 = a by lia, show 2 * b / 2 = b by lia] at h
  lia
theorem red1_dbl (v c n : Nat) (hc : c ≤ 1) : red1 (2 * v ^^^ c * 4294967296) (n + 1) = 2 * red1 v n ^^^ c * 4294967296 := by
  have e : (2 * v ^^^ c * 4294967296) / 2 ^ (n + 1 + 32) = v / 2 ^ (n + 32) := by
    rw [Nat.xor_div_two_pow, show n + 1 + 32 = (n + 32) + 1 by lia, Nat.pow_succ, Nat.mul_comm (2 ^ (n + 32)) 2, Nat.mul_div_mul_left _ _ (by decide), Nat.div_eq_of_lt (a := c * 4294967296), Nat.xor_zero]
    have : 2 ^ 32 ≤ 2 ^ (n + 32) := Nat.pow_le_pow_right (by decide) (by lia)
    lia
  unfold red1
  rw [e]
  split
  · rw [dbl_xor, Nat.pow_succ, show 2 * (4374732215 * 2 ^ n) = 4374732215 * (2 ^ n * 2) by ac_rfl]
    ac_rfl
  · rfl
theorem sumC_dbl : ∀ (n v c : Nat), c ≤ 1 → sumC (2 * v ^^^ c * 4294967296) (n + 1) = mred (2 * sumC v n ^^^ c * 4294967296)
  | 0, v, c, _ => by
    show red1 _ 0 = mred (2 * v ^^^ c * 4294967296)
    unfold red1 mred
    rw [Nat.zero_add, Nat.pow_zero, Nat.mul_one]
  | n + 1, v, c, hc => by
    show sumC (red1 _ (n + 1)) (n + 1) = _
    rw [red1_dbl _ _ _ hc, sumC_dbl n _ c hc]
    rfl
theorem shl_xor (a b : Nat) : ∀ k, (a ^^^ b) * 2 ^ k = a * 2 ^ k ^^^ b * 2 ^ k
  | 0 => by simp
  | k + 1 => by rw [Nat.pow_succ, ← Nat.mul_assoc, shl_xor a b k, ← Nat.mul_assoc, ← Nat.mul_assoc, Nat.mul_comm _ 2, dbl_xor, Nat.mul_comm 2, Nat.mul_comm 2]
def Vn (A n : Nat) : Nat := (A * 4294967296) ^^^ (4294967295 * 2 ^ n)
def tbit (r c : Nat) : Nat := mred (2 * r ^^^ c * 4294967296)
theorem Vn_step (A c n : Nat) (hc : c ≤ 1) : Vn (A * 2 + c) (n + 1) = 2 * Vn A n ^^^ c * 4294967296 := by
  unfold Vn
  have e : A * 2 + c = (2 * A) ^^^ c := by rw [Nat.mul_comm]; exact add_xor A c 1 (by lia)
  have h1 : (2 * A ^^^ c) * 4294967296 = 2 * (A * 4294967296) ^^^ c * 4294967296 := by
    have := shl_xor (2 * A) c 32
    rw [show (2 : Nat) ^ 32 = 4294967296 from rfl] at this
    rw [this, Nat.mul_assoc]
  have h2 : 4294967295 * 2 ^ (n + 1) = 2 * (4294967295 * 2 ^ n) := by rw [Nat.pow_succ]; lia
  rw [e, h1, h2, dbl_xor]
  generalize 2 * (A * 4294967296) = x
  generalize c * 4294967296 = y
  generalize 2 * (4294967295 * 2 ^ n) = z
  ac_rfl
theorem bits_step (o : Nat) : ∀ (ks : List Nat) (A n : Nat), sumC (Vn (ks.foldl (fun n k => sbit n o k) A) (n + ks.length)) (n + ks.length) = ks.foldl (fun r k => tbit r (o / 2 ^ k % 2)) (sumC (Vn A n) n)
  | [], A, n => rfl
  | k :: ks, A, n => by
    rw [List.foldl_cons, List.foldl_cons, List.length_cons, show n + (ks.length + 1) = (n + 1) + ks.length by lia, bits_step o ks]
    congr 1
    unfold sbit
    rw [Vn_step _ _ _ (by lia), sumC_dbl _ _ _ (by lia)]
    rfl
def toct (r : Nat) (c : UInt8) : Nat := (List.range 8).foldl (fun r k => tbit r (c.toNat / 2 ^ k % 2)) r
theorem octs_step : ∀ (b : List UInt8) (A n : Nat), sumC (Vn (b.foldl soct A) (n + 8 * b.length)) (n + 8 * b.length) = b.foldl toct (sumC (Vn A n) n)
  | [], A, n => rfl
  | c :: b, A, n => by
    rw [List.foldl_cons, List.foldl_cons, List.length_cons, show n + 8 * (b.length + 1) = (n + 8) + 8 * b.length by lia, octs_step b]
    congr 1
    exact bits_step c.toNat (List.range 8) A n
theorem resid (b : List UInt8) : sumC (sumB b) (8 * b.length) = b.foldl toct 4294967295 := by
  have h := octs_step b 0 0
  rw [Nat.zero_add] at h
  have e : sumC (Vn 0 0) 0 = 4294967295 := by decide
  rw [e] at h
  exact h
def Rev (r w : Nat) : Prop := r < 2 ^ 32 ∧ w < 2 ^ 32 ∧ ∀ i, i < 32 → w.testBit i = r.testBit (31 - i)
theorem poly_rev : ∀ i, i < 32 → Nat.testBit 3988292384 i = Nat.testBit 4374732215 (31 - i) := by decide +kernel
theorem mred_lt (r c : Nat) (hr : r < 2 ^ 32) (hc : c ≤ 1) : tbit r c < 2 ^ 32 := by
  unfold tbit mred
  have h33 : (2 * r ^^^ c * 4294967296) < 2 ^ 33 := Nat.xor_lt_two_pow (by lia) (by lia)
  split
  · rename_i h
    have e : ((2 * r ^^^ c * 4294967296) ^^^ 4374732215) / 2 ^ 32 = 0 := by rw [Nat.xor_div_two_pow, h]; rfl
    lia
  · lia
theorem rev_step {r w c : Nat} (h : Rev r w) (hc : c ≤ 1) : Rev (tbit r c) (stp (w ^^^ c)) := by
  obtain ⟨hr, hw, hb⟩ := h
  have hwc : w ^^^ c < 2 ^ 32 := Nat.xor_lt_two_pow hw (by lia)
  refine ⟨mred_lt r c hr hc, stp_lt _ hwc, fun i hi => ?_⟩
  have h0 : w % 2 = r / 2 ^ 31 := by
    have := hb 0 (by decide)
    rw [Nat.testBit_zero, Nat.testBit_eq_decide_div_mod_eq] at this
    have h1 : r / 2 ^ (31 - 0) % 2 = r / 2 ^ 31 := by
      rw [Nat.sub_zero]; lia
    rw [h1] at this
    have h2 : r / 2 ^ 31 < 2 := by lia
    by_cases q : w % 2 = 1
    · simp only [q, decide_true] at this
      have := of_decide_eq_true this.symm
      lia
    · simp only [q, decide_false] at this
      have := of_decide_eq_false this.symm
      lia
  have hq : (2 * r ^^^ c * 4294967296) / 2 ^ 32 = (w ^^^ c) % 2 := by
    rw [Nat.xor_div_two_pow, b2, h0, show c * 4294967296 / 2 ^ 32 = c by lia, show 2 * r / 2 ^ 32 = r / 2 ^ 31 by lia]
    have h2 : r / 2 ^ 31 < 2 := by lia
    rcases (by lia : r / 2 ^ 31 = 0 ∨ r / 2 ^ 31 = 1) with e | e <;> rcases (by lia : c = 0 ∨ c = 1) with e' | e' <;> rw [e, e'] <;> rfl
  have hL : ((w ^^^ c) / 2).testBit i = (2 * r ^^^ c * 4294967296).testBit (31 - i) := by
    rw [Nat.testBit_div_two, Nat.testBit_xor, Nat.testBit_xor, Nat.testBit_lt_two_pow (x := c) (i := i + 1) (by have : 2 ^ 1 ≤ 2 ^ (i + 1) := Nat.pow_le_pow_right (by decide) (by lia); lia), show c * 4294967296 = c * 2 ^ 32 from rfl, Nat.testBit_mul_two_pow, show decide (32 ≤ 31 - i) = false by simp; lia]
    simp only [Bool.false_and, Bool.xor_false]
    by_cases h31 : i = 31
    · subst h31
      rw [Nat.testBit_lt_two_pow hw, Nat.sub_self, Nat.testBit_zero]
      simp
    · rw [hb (i + 1) (by lia), show 31 - i = (31 - (i + 1)) + 1 by lia, Nat.testBit_succ, show 2 * r / 2 = r by lia]
  unfold stp tbit mred
  rw [hq]
  rcases Nat.mod_two_eq_zero_or_one (w ^^^ c) with e | e
  · rw [e, Nat.zero_mul, Nat.xor_zero, if_neg (by decide), hL]
  · rw [e, Nat.one_mul, if_pos rfl, Nat.testBit_xor, Nat.testBit_xor, hL, poly_rev i hi]
theorem bits_rev (o : Nat) : ∀ (n j r w : Nat), Rev r w → ∃ W, Rev ((List.range' j n).foldl (fun r k => tbit r (o / 2 ^ k % 2)) r) W ∧ stpN n (w ^^^ o / 2 ^ j) = W ^^^ o / 2 ^ (j + n)
  | 0, j, r, w, h => ⟨w, h, rfl⟩
  | n + 1, j, r, w, h => by
    obtain ⟨W, h1, h2⟩ := bits_rev o n (j + 1) _ _ (rev_step h (c := o / 2 ^ j % 2) (by lia))
    refine ⟨W, h1, ?_⟩
    rw [show j + (n + 1) = j + 1 + n by lia, ← h2]
    show stpN n (stp (w ^^^ o / 2 ^ j)) = _
    congr 1
    have e : o / 2 ^ j = (2 * (o / 2 ^ (j + 1))) ^^^ (o / 2 ^ j % 2) := by
      have := add_xor (o / 2 ^ (j + 1)) (o / 2 ^ j % 2) 1 (by lia)
      rw [Nat.pow_one] at this
      rw [← this, Nat.pow_succ, ← Nat.div_div_eq_div_mul]
      lia
    conv => lhs; rw [e]
    rw [show w ^^^ (2 * (o / 2 ^ (j + 1)) ^^^ o / 2 ^ j % 2) = (w ^^^ o / 2 ^ j % 2) ^^^ 2 * (o / 2 ^ (j + 1)) by ac_rfl, stp_xor, stp_two]
theorem oct_rev {r w : Nat} (c : UInt8) (h : Rev r w) : Rev (toct r c) (stpN 8 (w ^^^ c.toNat)) := by
  obtain ⟨W, h1, h2⟩ := bits_rev c.toNat 8 0 r w h
  have := UInt8.toNat_lt c
  rw [Nat.pow_zero, Nat.div_one, Nat.zero_add, show c.toNat / 2 ^ 8 = 0 by lia, Nat.xor_zero] at h2
  rw [h2]
  unfold toct
  rw [List.range_eq_range']
  exact h1
theorem octs_rev : ∀ (b : List UInt8) (r w : Nat), Rev r w → Rev (b.foldl toct r) (crcW w b)
  | [], _, _, h => h
  | c :: b, r, w, h => by rw [crcW_cons]; exact octs_rev b _ _ (oct_rev c h)
theorem sumD_rev {r w : Nat} (h : Rev r w) : sumD r = w ^^^ 4294967295 := by
  obtain ⟨hr, hw, hb⟩ := h
  have key : ∀ k, k ≤ 32 → (List.range k).foldl (fun f k => f * 2 + 1 - r / 2 ^ k % 2) 0 = (w ^^^ 4294967295) / 2 ^ (32 - k) := by
    intro k
    induction k with
    | zero =>
      intro _
      have : w ^^^ 4294967295 < 2 ^ 32 := Nat.xor_lt_two_pow hw (by decide)
      show 0 = _ / 2 ^ 32
      lia
    | succ k ih =>
      intro hk
      rw [List.range_succ, List.foldl_append, ih (by lia)]
      show (w ^^^ 4294967295) / 2 ^ (32 - k) * 2 + 1 - r / 2 ^ k % 2 = _
      have e1 : (w ^^^ 4294967295).testBit (31 - k) = !r.testBit k := by
        rw [Nat.testBit_xor, hb (31 - k) (by lia), show 31 - (31 - k) = k by lia, show (4294967295 : Nat) = 2 ^ 32 - 1 from rfl, Nat.testBit_two_pow_sub_one, show decide (31 - k < 32) = true by simp; lia, Bool.xor_true]
      rw [Nat.testBit_eq_decide_div_mod_eq, Nat.testBit_eq_decide_div_mod_eq] at e1
      rw [show 32 - (k + 1) = 31 - k by lia, show 32 - k = (31 - k) + 1 by lia, Nat.pow_succ, ← Nat.div_div_eq_div_mul]
      generalize (w ^^^ 4294967295) / 2 ^ (31 - k) = y at e1
      generalize r / 2 ^ k = x at e1
      rcases Nat.mod_two_eq_zero_or_one x with p | p <;> rcases Nat.mod_two_eq_zero_or_one y with q | q <;> simp [p, q] at e1 <;> lia
  have := key 32 (by decide)
  rw [Nat.sub_self, Nat.pow_zero, Nat.div_one] at this
  exact this
theorem rev_ones : Rev 4294967295 4294967295 := ⟨by decide, by decide, by decide +kernel⟩
theorem crc_is_sum (b : List UInt8) : crcN b = lawSum b := by
  unfold lawSum
  rw [resid, sumD_rev (octs_rev b _ _ rev_ones)]
  rfl
/-! plain facts about the frames -/
theorem pf_crc (b : List UInt8) (_ : b.length ≤ 1000) : crcN b = lawSum b := crc_is_sum b
def hdI (Z : Int) (j : Nat) : Int := (Z.fdiv (256 ^ (13 - (0 + (j : Int))).toNat)).fmod 256
def smI (c : Int) (j : Nat) : Int := (c.fdiv (256 ^ (0 + (j : Int)).toNat)).fmod 256
theorem hdI_in (Z : Int) (j : Nat) : 0 ≤ hdI Z j ∧ hdI Z j < 256 := fmodB (by decide)
theorem smI_in (Z : Int) (j : Nat) : 0 ≤ smI Z j ∧ smI Z j < 256 := fmodB (by decide)
theorem smI_eq (c j : Nat) : smI c j = ((c / 256 ^ j % 256 : Nat) : Int) := by
  unfold smI
  rw [show (0 + (j : Int)).toNat = j by lia, show (256 : Int) ^ j = ((256 ^ j : Nat) : Int) by rw [Int.natCast_pow]; rfl, fdivP (Int.natCast_nonneg _), Int.fmod_eq_emod_of_nonneg _ (by decide)]
  rfl
theorem hdI_eq (Z : Nat) (j : Nat) (hj : j ≤ 13) : hdI Z j = ((Z / 256 ^ (13 - j) % 256 : Nat) : Int) := by
  unfold hdI
  rw [show (13 - (0 + (j : Int))).toNat = 13 - j by lia, show (256 : Int) ^ (13 - j) = ((256 ^ (13 - j) : Nat) : Int) by rw [Int.natCast_pow]; rfl, fdivP (Int.natCast_nonneg _), Int.fmod_eq_emod_of_nonneg _ (by decide)]
  rfl
theorem dsame (f : Nat → UInt8) {a b : Nat} (h : a = b) : f a = f b := congrArg f h
def oc8 (n : Nat) : UInt8 := (n % 256).toUInt8
theorem be16N (x : Nat) : be16 (x : Int) = [oc8 (x / 256), oc8 x] := rfl
theorem be32N (x : Nat) : be32 (x : Int) = [oc8 (x / 65536 / 256), oc8 (x / 65536), oc8 (x / 256), oc8 x] := rfl
theorem be48N (x : Nat) : be48 (x : Int) = [oc8 (x / 4294967296 / 256), oc8 (x / 4294967296), oc8 (x / 65536 / 256), oc8 (x / 65536), oc8 (x / 256), oc8 x] := rfl
theorem l14 {a b c d e f g h i j k l m n a' b' c' d' e' f' g' h' i' j' k' l' m' n' : UInt8} (q1 : a = a') (q2 : b = b') (q3 : c = c') (q4 : d = d') (q5 : e = e') (q6 : f = f') (q7 : g = g') (q8 : h = h') (q9 : i = i') (q10 : j = j') (q11 : k = k') (q12 : l = l') (q13 : m = m') (q14 : n = n') :
    [a, b, c, d, e, f, g, h, i, j, k, l, m, n] = [a', b', c', d', e', f', g', h', i', j', k', l', m', n'] := by
  subst q1 q2 q3 q4 q5 q6 q7 q8 q9 q10 q11 q12 q13 q14
  rfl
theorem dhi (a : Nat) {b p : Nat} (q : Nat) (hb : b < p) : (a * p + b) / (p * q) = a / q := by
  rw [← Nat.div_div_eq_div_mul, Nat.mul_comm, Nat.mul_add_div (by lia), Nat.div_eq_of_lt hb, Nat.add_zero]
theorem dlo (a b q r : Nat) (hq : 0 < q) : (a * (q * (256 * r)) + b) / q % 256 = b / q % 256 := by
  rw [show a * (q * (256 * r)) + b = q * (256 * (a * r)) + b by rw [Nat.mul_left_comm a q, Nat.mul_left_comm a 256], Nat.mul_add_div hq, Nat.mul_add_mod]
theorem hdL (Z : Nat) : ((List.range 14).map (hdI Z)).map (fun n => n.toNat.toUInt8) = (List.range 14).map (fun j => oc8 (Z / 256 ^ (13 - j))) := by
  rw [List.map_map]
  refine List.map_congr_left fun j hj => ?_
  have : j < 14 := List.mem_range.mp hj
  show (hdI Z j).toNat.toUInt8 = _
  rw [hdI_eq Z j (by lia), Int.toNat_natCast]
  rfl
theorem pf_head {x1 x2 : Nat} {K : Int} (h1 : x1 < 281474976710656) (h2 : x2 < 281474976710656) (h3 : 0 ≤ K) (h4 : K < 65536) :
    ((List.range 14).map (hdI (((x1 : Int) * 2 ^ Int.toNat 48 + x2) * 65536 + K))).map (fun n => n.toNat.toUInt8) = be48 x1 ++ be48 x2 ++ be16 K := by
  obtain ⟨k, rfl⟩ := Int.eq_ofNat_of_zero_le h3
  have hk : k < 65536 := by lia
  obtain ⟨Y, hY⟩ : ∃ Y, Y = x1 * 281474976710656 + x2 := ⟨_, rfl⟩
  obtain ⟨Z, hZ⟩ : ∃ Z, Z = Y * 65536 + k := ⟨_, rfl⟩
  have eZ : ((x1 : Int) * 2 ^ Int.toNat 48 + x2) * 65536 + (k : Int) = ((Z : Nat) : Int) := by
    clear h1 h2 h3 h4 hk
    rw [show (2 : Int) ^ Int.toNat 48 = 281474976710656 by decide, hZ, hY, Int.natCast_add, Int.natCast_mul, Int.natCast_add, Int.natCast_mul]
    rfl
  have eK : ∀ q r, 0 < q → 65536 = q * (256 * r) → oc8 (Z / q) = oc8 (k / q) := fun q r h0 h => congrArg (fun n => n.toUInt8) (show Z / q % 256 = k / q % 256 by rw [hZ, h]; exact dlo _ _ _ _ h0)
  have eY : ∀ q, oc8 (Z / (65536 * q)) = oc8 (Y / q) := fun q => congrArg oc8 (by rw [hZ]; exact dhi _ _ hk)
  have e2 : ∀ q r, 0 < q → 281474976710656 = q * (256 * r) → oc8 (Y / q) = oc8 (x2 / q) := fun q r h0 h => congrArg (fun n => n.toUInt8) (show Y / q % 256 = x2 / q % 256 by rw [hY, h]; exact dlo _ _ _ _ h0)
  have e1 : ∀ q, oc8 (Y / (281474976710656 * q)) = oc8 (x1 / q) := fun q => congrArg oc8 (by rw [hY]; exact dhi _ _ h2)
  have dd : ∀ (x a b : Nat), oc8 (x / (a * b)) = oc8 (x / a / b) := fun x a b => congrArg oc8 (Nat.div_div_eq_div_mul x a b).symm
  have d1 : ∀ (x : Nat), oc8 (x / 1) = oc8 x := fun x => congrArg oc8 (Nat.div_one x)
  rw [eZ, hdL, be48N, be48N, be16N]
  exact l14 ((eY 309485009821345068724781056).trans ((e1 1099511627776).trans (dd x1 4294967296 256))) ((eY 1208925819614629174706176).trans (e1 4294967296)) ((eY 4722366482869645213696).trans ((e1 16777216).trans (dd x1 65536 256))) ((eY 18446744073709551616).trans (e1 65536)) ((eY 72057594037927936).trans (e1 256)) ((eY 281474976710656).trans ((e1 1).trans (d1 x1)))
    ((eY 1099511627776).trans ((e2 1099511627776 1 (by decide) rfl).trans (dd x2 4294967296 256))) ((eY 4294967296).trans (e2 4294967296 256 (by decide) rfl)) ((eY 16777216).trans ((e2 16777216 65536 (by decide) rfl).trans (dd x2 65536 256))) ((eY 65536).trans (e2 65536 16777216 (by decide) rfl)) ((eY 256).trans (e2 256 4294967296 (by decide) rfl)) ((eY 1).trans ((e2 1 1099511627776 (by decide) rfl).trans (d1 x2)))
    (eK 256 1 (by decide) rfl) ((eK 1 256 (by decide) rfl).trans (d1 k))
theorem pf_sum4 (c : Nat) (h : c < 4294967296) : ((List.range 4).map (smI c)).map (fun n => n.toNat.toUInt8) = le32 c := by
  rw [show List.range 4 = [0, 1, 2, 3] from rfl]
  simp only [List.map_cons, List.map_nil, smI_eq, Int.toNat_natCast]
  unfold le32
  rw [show (256 : Nat) ^ 0 = 1 from rfl, show (256 : Nat) ^ 1 = 256 from rfl, show (256 : Nat) ^ 2 = 65536 from rfl, show (256 : Nat) ^ 3 = 16777216 from rfl, Nat.div_one, Nat.mod_eq_of_lt (show c / 16777216 < 256 by lia)]
theorem body_of (q : List UInt8) (c : Nat) : (q ++ le32 c).take ((q ++ le32 c).length - 4) = q ∧ (q ++ le32 c).drop ((q ++ le32 c).length - 4) = le32 c := by
  have e : (q ++ le32 c).length - 4 = q.length := by rw [List.length_append, le32_len]; lia
  rw [e]
  exact ⟨List.take_left' rfl, List.drop_left' rfl⟩
theorem pf_ok (q : List UInt8) (h : 14 ≤ q.length) : okF (q ++ le32 (crcN q)) := by
  obtain ⟨e1, e2⟩ := body_of q (crcN q)
  refine ⟨by rw [List.length_append, le32_len]; lia, ?_⟩
  rw [e1, e2]
theorem turnB_len {b : List UInt8} {k : Nat} (hk : k < 8 * b.length) : (turnB b k).length = b.length := by
  unfold turnB
  simp only [List.length_append, List.length_take, List.length_cons, List.length_drop]
  lia
theorem okF_res {b : List UInt8} (h : okF b) : crcW 4294967295 b = stpN 32 4294967295 := by
  obtain ⟨h1, h2⟩ := h
  have e : b = b.take (b.length - 4) ++ le32 (crcN (b.take (b.length - 4))) := by rw [h2, List.take_append_drop]
  conv => lhs; rw [e]
  rw [crcW_append, crcW_le32 _ _ (crcN_lt _)]
  unfold crcN
  rw [← Nat.xor_assoc, Nat.xor_self, Nat.zero_xor]
theorem xor_ne {a b : Nat} (h : b ≠ 0) : a ^^^ b ≠ a := fun e => h (by
  have := congrArg (a ^^^ ·) e
  simpa [← Nat.xor_assoc] using this)
theorem pf_t1 {q P : List UInt8} {k : Nat} (e : P = q ++ le32 (crcN q)) (h : 14 ≤ q.length) (h2 : q.length ≤ 100) (hk : k < 8 * P.length) : ¬ okF (turnB P k) := fun o => by
  subst e
  have r := okF_res o
  rw [crcW_turn _ _ _ hk, okF_res (pf_ok q h)] at r
  exact xor_ne (stpN_ne _ 1 (by decide) (by decide)).1 r
theorem pf_t2 {q P : List UInt8} {k j : Nat} (e : P = q ++ le32 (crcN q)) (h : 14 ≤ q.length) (h2 : q.length ≤ 100) (hk : k < 8 * P.length) (hj : j < 8 * P.length) (hkj : k ≠ j) : ¬ okF (turnB (turnB P k) j) := fun o => by
  subst e
  have hl : (turnB (q ++ le32 (crcN q)) k).length = (q ++ le32 (crcN q)).length := turnB_len hk
  have hlen : (q ++ le32 (crcN q)).length ≤ 104 := by rw [List.length_append, le32_len]; lia
  have r := okF_res o
  rw [crcW_turn _ _ _ (by rw [hl]; exact hj), crcW_turn _ _ _ hk, okF_res (pf_ok q h), hl, Nat.xor_assoc] at r
  generalize (q ++ le32 (crcN q)).length = n at hk hj r hlen
  refine xor_ne (fun e0 => ?_) r
  have key : ∀ a d, 1 ≤ d → d ≤ 900 → stpN a 1 ^^^ stpN (a + d) 1 ≠ 0 := fun a d h1 h2 e1 => by
    rw [Nat.add_comm, stpN_add, ← stpN_xor] at e1
    by_cases hz : 1 ^^^ stpN d 1 = 0
    · refine order_ok d h1 h2 ?_
      have := congrArg (1 ^^^ ·) hz
      simpa [← Nat.xor_assoc] using this
    · exact (stpN_ne a _ (Nat.xor_lt_two_pow (by decide) (stpN_ne d 1 (by decide) (by decide)).2) hz).1 e1
  rcases Nat.lt_or_gt_of_ne hkj with hlt | hlt
  · rw [show 8 * n - k = (8 * n - j) + (j - k) by lia, Nat.xor_comm] at e0
    exact key _ _ (by lia) (by lia) e0
  · rw [show 8 * n - j = (8 * n - k) + (k - j) by lia] at e0
    exact key _ _ (by lia) (by lia) e0
theorem pf_short {b : List UInt8} (h : b.length < 18) : ¬ okF b := fun x => by have := x.1; lia
theorem pf_vals {x1 x2 : Nat} {K : Int} {f P : List UInt8} (h1 : x1 < 281474976710656) (h2 : x2 < 281474976710656) (h3 : 0 ≤ K) (h4 : K < 65536)
    (e : P = be48 x1 ++ be48 x2 ++ be16 K ++ f ++ le32 (crcN (be48 x1 ++ be48 x2 ++ be16 K ++ f))) :
    val48 (P.take (P.length - 4)) 0 = x1 ∧ val48 (P.take (P.length - 4)) 6 = x2 ∧ ((val16 (P.take (P.length - 4)) 12 : Nat) : Int) = K ∧ (P.take (P.length - 4)).drop 14 = f := by
  obtain ⟨k, rfl⟩ := Int.eq_ofNat_of_zero_le h3
  obtain ⟨e1, e2⟩ := body_of (be48 x1 ++ be48 x2 ++ be16 k ++ f) (crcN (be48 x1 ++ be48 x2 ++ be16 k ++ f))
  rw [← e] at e1
  rw [e1]
  have v2 : ∀ x : Nat, (oc8 (x / 256)).toNat * 256 + (oc8 x).toNat = x % 65536 := fun x => by
    clear e e1 e2 h1 h2 h3 h4
    rw [show (oc8 (x / 256)).toNat = x / 256 % 256 from u8n _ (Nat.mod_lt _ (by decide)), show (oc8 x).toNat = x % 256 from u8n _ (Nat.mod_lt _ (by decide))]
    lia
  have v6 : ∀ x : Nat, x < 281474976710656 → ((oc8 (x / 4294967296 / 256)).toNat * 256 + (oc8 (x / 4294967296)).toNat) * 4294967296 + (((oc8 (x / 65536 / 256)).toNat * 256 + (oc8 (x / 65536)).toNat) * 65536 + ((oc8 (x / 256)).toNat * 256 + (oc8 x).toNat)) = x := fun x hx => by
    rw [v2, v2, v2]
    clear e e1 e2 h1 h2 h3 h4 v2
    lia
  exact ⟨v6 x1 h1, v6 x2 h2, congrArg Int.ofNat ((v2 k).trans (Nat.mod_eq_of_lt (by lia))), rfl⟩
theorem reg_D0_1 : True := by
  (k_with "compareOp NotEq ref ref" => ((k_dflt (refine' ne_tup4 ?zzhx ?zzhy ?zzhu ?_; (case zzhx => exact News.isTup (by assumption) (by news_mem)); (case zzhy => exact News.isTup (by assumption) (by news_mem)); (case zzhu => ktr_units)))))
  (k_with "subscriptTail List Call ref int" => ((k_dflt (refine' ksa_sub ?zzk1 ?zzk2 ?zzk3 ?zzk4 ?zzk5 ?zzk6 ?_ ?zzk7; (case zzk1 => k_asm); (case zzk2 => k_mem); (case zzk3 => l_ints); (case zzk4 => assumption); (case zzk5 => (simp only [List.length_cons, List.length_nil]; lia)); (case zzk6 => lia); (case zzk7 => with_unfolding_all rfl)); intro _)))
  exact trivial
theorem p256 (n : Nat) (h : n ≤ 100) : (256 : Int) ^ n ≠ 0 ∧ ((256 : Int) ^ n).natAbs.log2 < 9000 := by
  have e : (256 : Int) ^ n = ((2 ^ (8 * n) : Nat) : Int) := by rw [Nat.pow_mul, Int.natCast_pow]; rfl
  have hp : 0 < 2 ^ (8 * n) := Nat.pow_pos (by decide)
  rw [e]
  refine ⟨by lia, ?_⟩
  rw [Int.natAbs_natCast, Nat.log2_two_pow]
  lia
theorem fin_fr {env : Env} {h₀ g g' h : Heap} {L L' : Addr} {m m' : Str → Option Value} (hf : env.frame = some L) (FG : Fr h₀ L g m) (nr : Near [env] g g') (F : Fr g' L' h m') : Fr h₀ L h m :=
  ⟨(nr.1.ns FG.ns).keeps F.keep, fun b o e => F.keep b o (nr.2 b o (FG.keep b o e) fun hm => by
    have : b = L := by simpa [framesOf, hf] using hm
    exact absurd (Heap.lt_size e) (by rw [this]; exact Nat.not_lt_of_le FG.above)), FG.above⟩
theorem fin_news {env : Env} {h₀ g g' h : Heap} {L L' : Addr} {m : Str → Option Value} {news news' : List (Addr × Obj)} (hf : env.frame = some L) (FG : Fr h₀ L g m) (nr : Near [env] g g') (N' : News g' L' h news') (sub : ∀ q ∈ news, q ∈ news') : News h₀ L h news := fun p hp => by
  have hn := (N' p (sub p hp)).2.2
  obtain ⟨oL, es, ep, hL, -⟩ := nr.1.ns FG.ns
  have hpL : p.1 ≠ L := fun q => by rw [q, hL] at hn; cases hn
  refine ⟨(N' p (sub p hp)).1, hpL, ?_⟩
  cases q : h₀.get? p.1 with
  | none => rfl
  | some o =>
    have := nr.2 p.1 o (FG.keep _ _ q) fun hm => hpL (by simpa [framesOf, hf] using hm)
    rw [hn] at this; cases this
theorem pick3 {x d : Nat} (h1 : (x : Int) < 2 ^ Int.toNat 48) (g2 : (d : Int) < 3) : ∃ n : Nat, [2 ^ Int.toNat 48 - 1, 1, (x : Int)].getD (d : Int).toNat 0 = (n : Int) ∧ n < 281474976710656 := by
  have e : (2 : Int) ^ Int.toNat 48 = 281474976710656 := by decide
  rw [e] at h1 ⊢
  rcases (by lia : d = 0 ∨ d = 1 ∨ d = 2) with rfl | rfl | rfl
  · exact ⟨281474976710655, rfl, by decide⟩
  · exact ⟨1, rfl, by decide⟩
  · exact ⟨x, rfl, by lia⟩
theorem pick4 {d : Nat} (g2 : (d : Int) < 4) : 0 ≤ [(0 : Int), 0, 8, 15].getD (d : Int).toNat 0 ∧ [(0 : Int), 0, 8, 15].getD (d : Int).toNat 0 ≤ 15 := by
  rcases (by lia : d = 0 ∨ d = 1 ∨ d = 2 ∨ d = 3) with rfl | rfl | rfl | rfl <;> exact ⟨by decide, by decide⟩
theorem pickK {d : Nat} (g2 : (d : Int) < 3) : 0 ≤ [(2048 : Int), 2054, 1].getD (d : Int).toNat 0 ∧ [(2048 : Int), 2054, 1].getD (d : Int).toNat 0 < 65536 := by
  rcases (by lia : d = 0 ∨ d = 1 ∨ d = 2) with rfl | rfl | rfl <;> exact ⟨by decide, by decide⟩
section
variable {w : World} {A : Around} {h₀ : Heap} {L : Addr} {m : Str → Option Value} {nw : List (Addr × Obj)} {s : Shared} {Q E : Value → Shared → Prop}
theorem crc32_callG {b : List UInt8} {t : Tok} (C : Cx w A 12 120 h₀ L m nw s) (hb : b.length ≤ 100000)
   (ret : ∀ c t' h' tk', c = crcN b → Fr h₀ L h' m → News h₀ L h' nw → Q (.int (c : Nat) t') { s with heap := h', toks := tk' }) :
   wpAny (model PySem.Challenge.pw_nu0127_01 w) A (call (.ref 40) [.bytes b.toArray t]) Q E s := crc32_call C hb fun t' h' tk' F' N' => ret _ t' h' tk' rfl F' N'
theorem sum_callG {b : List UInt8} {t : Tok} (C : Cx w A 6 60 h₀ L m nw s) (hb : b.length ≤ 1000)
   (ret : ∀ c t' h' tk', c = crcN b → Fr h₀ L h' m → News h₀ L h' nw → Q (.int (c : Nat) t') { s with heap := h', toks := tk' }) :
   wpAny (model PySem.Challenge.pw_nu0127_01 w) A (call (.ref 322) [.bytes b.toArray t]) Q E s := sum_call C hb fun t' h' tk' F' N' => ret _ t' h' tk' (pf_crc b hb).symm F' N'
theorem pack_callG {fx dx : Addr} {a b k : Int} {p : List UInt8} {z : Int} {ta tb tk tp tz : Tok} {es : List DictEntry} {n : Nat} {news : List (Addr × Obj)}
   (C : Cx w A 18 200 h₀ L m ((fx, instObj 157 dx) :: (dx, dictOf es n) :: news) s)
   (g1 : getL "target" es = some (some (.int a ta))) (g2 : getL "source" es = some (some (.int b tb))) (g3 : getL "kind" es = some (some (.int k tk))) (g4 : getL "payload" es = some (some (.bytes p.toArray tp)))
   (hp : p.length ≤ 100) (hz0 : 0 ≤ z) (hz : z ≤ 100)
   (ret : ∀ P t' h' tk', P = be48 a ++ be48 b ++ be16 k ++ (p ++ List.replicate (z.toNat - p.length) 0) ++ le32 (crcN (be48 a ++ be48 b ++ be16 k ++ (p ++ List.replicate (z.toNat - p.length) 0))) → Fr h₀ L h' m → News h₀ L h' ((fx, instObj 157 dx) :: (dx, dictOf es n) :: news) → Q (.bytes (List.toArray P) t') { s with heap := h', toks := tk' }) :
   wpAny (model PySem.Challenge.pw_nu0127_01 w) A (call (.ref 176) [.ref fx, .int z tz]) Q E s := pack_call C g1 g2 g3 g4 hp hz0 hz fun t' h' tk' F' N' => ret _ t' h' tk' rfl F' N'
end
section
variable {w : World} {h₀ : Heap} {L : Addr} {m : Str → Option Value} {news : List (Addr × Obj)} {s : Shared} {Q E : Value → Shared → Prop}
  {dp un : Nat} {gd : Option (List Code)} {cn : Str} {cs : Scope} {fa : Addr} {ccd : Value} {cl : List (Str × Addr)} {outer : List Env} {A₀ : Around} {base : Heap}
    {mg mb : Str → Option Value} {mean : ExcName → Option Value} {loose : List Str}
theorem refused_callT {b : List UInt8} {t : Tok} (B : Below A₀ base outer h₀) (F : Fr h₀ L s.heap m) (Xb : (hd0.heap_1_1 w.params).In base) (N : News h₀ L s.heap news) (Tb : Top hd0.view_1_2 loose mean mg mb base)
   (hk : cs.kind = .function) (hdp : dp + 30 < recursionLimit) (hun : un + 300 < cLine) (hb : b.length ≤ 1000) (bad : ¬ okF b)
   (ret : ∀ h₁ h' tk', Near outer h₀ h₁ → Below A₀ base outer h₁ → Fr h₁ L h' m → News h₁ L h' news → Q (.bool true) { s with heap := h', toks := tk' }) :
   wpAny (model PySem.Challenge.pw_nu0127_01 w) (ktrTop dp un gd cn cs L fa ccd cl outer) (call (.ref 336) [.bytes b.toArray t]) Q E s :=
  refused_call B F Xb N Tb hk hdp hun hb fun v h₁ h' tk' hv nr B' F' N' => by
    rw [hv.mpr bad]
    exact ret h₁ h' tk' nr B' F' N'
end
section
variable {w : World} {h₀ : Heap} {L : Addr} {m : Str → Option Value} {news : List (Addr × Obj)} {s : Shared} {Q E : Value → Shared → Prop}
  {dp un : Nat} {gd : Option (List Code)} {cn : Str} {cs : Scope} {fa : Addr} {ccd : Value} {cl : List (Str × Addr)} {A₀ : Around} {base : Heap}
    {mg mb : Str → Option Value} {mean : ExcName → Option Value} {loose : List Str}
inductive DCm (L1 a : Addr) (ocA ocB ocC : Obj) (k : Nat) (news : List (Addr × Obj)) (i : Nat) (ys : List Value) (nw : List (Addr × Obj)) : Prop
  | mk (b2 c2 : Int) (tb2 tc2 : Tok) (xs : List (Nat × Tok)) (_ : nw = (L1 + 1 + 1 + 1, ocA) :: (L1 + 1 + 1, ocB) :: (L1 + 1, ocC) :: (a, listOf #[.int b2 tb2, .int c2 tc2] k) :: news) (_ : 0 ≤ b2) (_ : 0 ≤ c2) (_ : c2 < 2147483648)
     (_ : ys = xs.map (fun x => Value.int ((x.1 : Nat) : Int) x.2)) (_ : xs.length = i) (_ : ∀ x ∈ xs, x.1 < 281474976710656) : DCm L1 a ocA ocB ocC k news i ys nw
set_option maxHeartbeats 8000000 in
theorem frame_right_call {a : Addr} {b c : Int} {tb tc : Tok} {k : Nat} (B : Below A₀ base [] h₀) (F : Fr h₀ L s.heap m) (Xb : (hd0.heap_1_1 w.params).In base) (N : News h₀ L s.heap ((a, listOf #[.int b tb, .int c tc] k) :: news)) (Tb : Top hd0.view_1_2 loose mean mg mb base)
   (hk : cs.kind = .function) (hdp : dp + 60 < recursionLimit) (hun : un + 600 < cLine) (hb : 0 ≤ b) (hc : 0 ≤ c) (hc' : c < 2147483648) (hne : ∀ p ∈ news, p.1 ≠ a)
   (ret : ∀ b' c' tb' tc' h' tk', 0 ≤ b' → 0 ≤ c' → c' < 2147483648 → Fr h₀ L h' m → News h₀ L h' ((a, listOf #[.int b' tb', .int c' tc'] k) :: news) → Q (.bool true) { s with heap := h', toks := tk' }) :
   wpAny (model PySem.Challenge.pw_nu0127_01 w) (ktrTop dp un gd cn cs L fa ccd cl []) (call (.ref 341) [.ref a]) Q E s := by
  have X : (hd0.heap_1_1 w.params).In h₀ := Xb.keeps B.stays
  have T : Top hd0.view_1_2 loose mean mg mb h₀ := Tb.keeps B.stays
  refine wpAny_call ?_
  have gdD0_11 : Unit := ()
  w_top off
  w_strict (
    (k_with "call ref" => (fail_if_success fail_if_success have := gdD0_11); first | ((with_reducible show wpAny _ _ (call (Value.ref 310) _) _ _ _); k_dflt (refine' take_callN ?C ?U ?h1 ?h2 ?h3 ?h4 ?h5 ?_; (case C => k_extra "cx_now"); (case U => k_updF); (case h1 => assumption); (case h2 => assumption); (case h3 => assumption); (case h4 => first | lia | decide); (case h5 => first | lia | decide)); intro d1 b1 c1 t1 tb1 tc1 h1 tk1 g2 g3 g4 g5 F1 N1) | ((with_reducible show wpAny _ _ (call (Value.ref 315) _) _ _ _); k_dflt (refine' octets_callF (most := 12) ?C ?U ?h1 ?h2 ?h3 ?h4 ?_; (case C => k_extra "cx_now"); (case U => k_updF); (case h1 => assumption); (case h2 => assumption); (case h3 => assumption); (case h4 => decide)); intro pl b1 c1 t1 tb1 tc1 h1 tk1 gl g3 g4 g5 F1 N1; (have hK3 := pickK g2); (generalize hK : [(2048 : Int), 2054, 1].getD ((d1 : Nat) : Int).toNat 0 = K at hK3 ⊢)) | ((with_reducible show wpAny _ _ (call (Value.ref 157) _) _ _ _); k_dflt (refine' frame_call ?C ?_; (case C => k_extra "cx_now")); intro fx dx es en h1 tk1 F1 N1 fl1 fl2 fe1 fe2 fe3 fe4; (have fl1o := fl1); (try k_lt fl1); (try k_lt2 fl2)) | ((with_reducible show wpAny _ _ (call (Value.ref 176) _) _ _ _); k_dflt (refine' pack_callG ?C ?g1 ?g2 ?g3 ?g4 ?h1 ?h2 ?h3 ?_; (case C => k_extra "cx_now"); (case g1 => assumption); (case g2 => assumption); (case g3 => assumption); (case g4 => assumption); (case h1 => lia); (case h2 => exact (pick4 (by assumption)).1); (case h3 => exact Int.le_trans (pick4 (by assumption)).2 (by decide))); intro P t1 h1 tk1 hP F1 N1; have hz4 := pick4 g2; (generalize hz : [(0 : Int), 0, 8, 15].getD ((d1 : Nat) : Int).toNat 0 = z at hP hz4 F1 ⊢); have hP1 : 18 ≤ P.length ∧ P.length ≤ 40 := (by rw [hP]; simp only [List.length_append, List.length_replicate, be48_len, be16_len, le32_len]; lia)) | ((with_reducible show wpAny _ _ (call (Value.ref 40) _) _ _ _); k_dflt (refine' crc32_callG ?C ?h ?_; (case C => k_extra "cx_now"); (case h => k_extra "blen")); intro cX t1 h1 tk1 hcX F1 N1) | ((with_reducible show wpAny _ _ (call (Value.ref 322) _) _ _ _); k_dflt (refine' sum_callG ?C ?h ?_; (case C => k_extra "cx_now"); (case h => k_extra "blen")); intro cY t1 h1 tk1 hcY F1 N1) | ((with_reducible show wpAny _ _ (call (Value.ref 183) _) _ _ _); k_dflt (refine' unpack_call ?C ?h ?k ?_; (case C => k_extra "cx_now"); (case h => lia); (case k => k_extra "okP")); intro gx ex fs fn ta tb1 tk3 tp h1 tk1 F1 N1 gl1 gl2 ge1 ge2 ge3 ge4; (rw [hv.1] at ge1); (rw [hv.2.1] at ge2); (rw [hv.2.2.1] at ge3); (rw [hv.2.2.2] at ge4); (have gl1o := gl1); (try k_lt gl1); (try k_lt2 gl2)) | ((with_reducible show wpAny _ _ (call (Value.ref 329) _) _ _ _); k_dflt (refine' turned_call ?C ?h ?k ?_; (case C => k_extra "cx_now"); (case h => k_extra "tlen"); (case k => k_extra "tbit")); intro t1 h1 tk1 F1 N1) | ((with_reducible show wpAny _ _ (call (Value.ref 336) _) _ _ _); k_dflt (refine' refused_callT ?B ?F ?X ?N ?T ?h1 ?h2 ?h3 ?h4 ?h5 ?_; (case B => k_asm); (case F => k_asm); (case X => exact Xb); (case N => k_asm); (case T => exact Tb); (case h1 => exact rfl); (case h2 => ktr_room); (case h3 => ktr_units); (case h4 => k_extra "rlen"); (case h5 => k_extra "bad")); intro hx h1 tk1 nr B1 F1 N1; (replace nrT := nrT.trans nr); (have X1 := Frag.In.keeps Xb B1.stays); (have T1 := Top.keeps Tb B1.stays)))
    (k_with "bytes_in" => (fail_if_success fail_if_success have := gdD0_11); assumption)
    (k_with "okP" => (fail_if_success fail_if_success have := gdD0_11); exact okP)
    (k_with "tlen" => (fail_if_success fail_if_success have := gdD0_11); first | lia | (rw [turnB_len (by lia)]; lia))
    (k_with "tbit" => (fail_if_success fail_if_success have := gdD0_11); first | lia | (rw [turnB_len (by lia)]; lia))
    (k_with "rlen" => (fail_if_success fail_if_success have := gdD0_11); first | lia | (rw [turnB_len (by lia)]; lia) | (rw [turnB_len (by rw [turnB_len (by lia)]; lia), turnB_len (by lia)]; lia) | (simp only [List.length_take, List.length_nil]; lia))
    (k_with "bad" => (fail_if_success fail_if_success have := gdD0_11); first | exact pf_t1 hPq hq14 hq100 (by lia) | exact pf_t2 hPq hq14 hq100 (by lia) (by lia) (by lia) | (refine pf_short ?_; (try simp only [List.length_take, List.length_nil]); lia) | (exact pf_short (by decide)))
    (k_with "div ne" => (fail_if_success fail_if_success have := gdD0_11); exact (p256 _ (by lia)).1)
    (k_with "div py" => (fail_if_success fail_if_success have := gdD0_11); exact Or.inl (PyProof.noPylong_of_log2 (p256 _ (by lia)).2))
    (k_with "blen" => (fail_if_success fail_if_success have := gdD0_11); ((try simp only [List.length_append, List.length_replicate, be48_len, be16_len, le32_len, List.length_map, List.length_range, List.length_cons, List.length_nil]); first | lia | (split <;> lia)))
    k_dflt (refine' code_defHC ?k1 ?k2 ?k3 ?k4 ?k5 ?kA ?kF ?kK ?k6 ?k7 ?k8 ?k9 ?kB ?kD ?_ ?c2 ?c3 ?c4; (case kA => exact rfl); (case kF => exact rfl); (case kK => first | exact rfl | assumption); (case k1 => k_asm); (case k2 => k_asm); (case k3 => k_asm); (case k4 => k_asm); (case k5 => k_asm); (case k6 => k_is); (case k7 => k_is); (case k8 => ktr_room); (case k9 => first | exact BindsTo.of_eq rfl | exact binds_K (by k_in) rfl (by k_is) rfl rfl rfl); (case kB => exact rfl); (case kD => decide +kernel); (case c2 => exact rfl); (case c3 => exact rfl); (case c4 => exact rfl); k_whole; intro gE L1 hE tkE cellsE FGE FE NE YE BE XE TE lE; (have lE1 := lE); (try k_lt lE); (obtain ⟨ocA, ocB, ocC, hEc, dcA, dcB, dcC⟩ := CellsAre.three YE; subst hEc; clear YE); (try simp only [List.cons_append, List.nil_append] at NE); (try dsimp only); (try k_lift BE); (try k_fold))
    have nrT : Near [envX cn cs L fa ccd cl] gE gE := Near.refl _ _
    have hcn1 : ∀ p ∈ news, p.1 ≠ L1 + 1 := fun p hp => Nat.ne_of_lt (Nat.lt_succ_of_lt (lE1 p (.tail _ hp)))
    have hcn2 : ∀ p ∈ news, p.1 ≠ L1 + 1 + 1 := fun p hp => Nat.ne_of_lt (Nat.lt_succ_of_lt (Nat.lt_succ_of_lt (lE1 p (.tail _ hp))))
    have hcn3 : ∀ p ∈ news, p.1 ≠ L1 + 1 + 1 + 1 := fun p hp => Nat.ne_of_lt (Nat.lt_succ_of_lt (Nat.lt_succ_of_lt (Nat.lt_succ_of_lt (lE1 p (.tail _ hp)))))
    k_steps
    rename News _ _ _ _ => N3
    rename Fr _ _ _ _ => F3
    unfold Keep
    refine LCg.CompSrc.range (n := 2) (by rfl) F3 N3 (by assumption) rfl rfl (by rw [PySem.sizeLine_eq]; decide) (fun gz => CRest.indO (DCm L1 a ocA ocB ocC k news) ?turn ?done ?start)
    case start => exact ⟨b, c, tb, tc, [], rfl, hb, hc, hc', rfl, rfl, (fun _ h => nomatch h)⟩
    case turn =>
      clear F3 N3
      rintro KK zz i ys nw v I oI Cx1 oC D m₂ hh tk2 E' up hi ⟨b2, c2, tb2, tc2, xs, rfl, p1, p2, p3, rfl, p5, p6⟩ ⟨tv, rfl⟩ ho hm F5 N5 off ne
      have offK := off
      simp only [LCg.Off3] at off
      k_steps
      all_goals (rename (_ < (2 : Int) ^ Int.toNat 48) => hx48; obtain ⟨nn, hn1, hn2⟩ := pick3 hx48 g2)
      all_goals (rw [hn1])
      all_goals (refine LCg.CompEnd.intro F1 N1 _ (fun p hp => .tail _ hp) offK trivial (up _ _ ⟨b1, c1, tb1, tc1, xs ++ [(nn, _)], rfl, g3, g4, g5, by rw [List.map_append]; rfl, by rw [List.length_append, p5]; rfl, fun x hx => ?_⟩))
      all_goals (rcases List.mem_append.mp hx with hx | hx)
      all_goals first | exact p6 x hx | (rcases List.mem_singleton.mp hx with rfl; exact hn2)
    case done =>
      clear F3 N3
      rintro ys nw ⟨b2, c2, tb2, tc2, xs, rfl, p1, p2, p3, rfl, p5, p6⟩ D hh tk2 F5 N5 off
      have offK := off
      simp only [LCg.Off1] at off
      obtain ⟨⟨x1, tx1⟩, ⟨x2, tx2⟩, rfl⟩ : ∃ y1 y2, xs = [y1, y2] := by
        match xs, p5 with
        | [y1, y2], _ => exact ⟨y1, y2, rfl⟩
      have hx1 : x1 < 281474976710656 := p6 _ (.head _)
      have hx2 : x2 < 281474976710656 := p6 _ (.tail _ (.head _))
      clear p5 p6
      dsimp only [List.map] at N5 ⊢
      k_steps
      rename News _ _ _ _ => N7
      rename Fr _ _ _ _ => F7
      rename IsRange _ _ _ _ _ _ _ _ => R7
      unfold Keep
      generalize hNL : ((fx, instObj 157 dx) :: (dx, dictOf es en) :: _ : List (Addr × Obj)) = NL at N7
      refine LCg.CompSrc.range (n := 14) (by rfl) F7 N7 R7 rfl rfl (by rw [PySem.sizeLine_eq]; decide) (fun gz => CRest.indO (fun i ys nw => Keep (nw = NL ∧ IntsAre ys ((List.range i).map (hdI (((x1 : Int) * 2 ^ Int.toNat 48 + x2) * 65536 + K))))) ?turn2 ?done2 ?start2)
      case start2 => exact ⟨rfl, .nil⟩
      case turn2 =>
        clear F7 N7
        rintro KK2 zz2 i2 ys2 nw2 v2 I2 oI2 Cx2 oC2 D2 m2 hh2 tk22 E2 up2 hi2 ⟨rfl, p7⟩ ⟨tv2, rfl⟩ ho2 hm2 F8 N8 off2 ne2
        subst hNL
        have offK2 := off2
        simp only [LCg.Off3] at off2
        k_steps
        all_goals (refine LCg.CompEnd.intro (by assumption) (by assumption) _ (fun p hp => hp) offK2 trivial (up2 _ _ ⟨rfl, ?_⟩))
        all_goals (rw [List.range_succ, List.map_append])
        all_goals exact IntsAre.append p7 (.cons _ _ .nil)
      case done2 =>
        clear F7 N7
        rintro ys2 nw2 ⟨rfl, p7⟩ D2 hh2 tk22 F8 N8 off2
        subst hNL
        have offK2 := off2
        simp only [LCg.Off1] at off2
        have hrep : (if z - (pl.length : Int) > 0 then z - (pl.length : Int) else 0).toNat = z.toNat - pl.length := by split <;> lia
        rw [← hrep] at hP
        have hFLl : (pl ++ List.replicate (if z - (pl.length : Int) > 0 then z - (pl.length : Int) else 0).toNat (0 : UInt8)).length ≤ 27 := by
          rw [List.length_append, List.length_replicate, hrep]; lia
        generalize hFL : pl ++ List.replicate (if z - (pl.length : Int) > 0 then z - (pl.length : Int) else 0).toNat (0 : UInt8) = FL at hP F8 hFLl ⊢
        have hv := pf_vals hx1 hx2 hK3.1 hK3.2 hP
        have hH := pf_head hx1 hx2 hK3.1 hK3.2
        have hbi : ∀ n ∈ (List.range 14).map (hdI (((x1 : Int) * 2 ^ Int.toNat 48 + x2) * 65536 + K)), 0 ≤ n ∧ n < 256 := by
          intro n hn
          obtain ⟨j, _, rfl⟩ := List.mem_map.mp hn
          exact hdI_in _ _
        have hn14 : ((List.range 14).map (hdI (((x1 : Int) * 2 ^ Int.toNat 48 + x2) * 65536 + K))).length = 14 := by rw [List.length_map, List.length_range]
        generalize (List.range 14).map (hdI (((x1 : Int) * 2 ^ Int.toNat 48 + x2) * 65536 + K)) = ns14 at p7 hH hbi hn14
        rw [← hH] at hP
        have hq14 : 14 ≤ (ns14.map (fun n => n.toNat.toUInt8) ++ FL).length := by rw [List.length_append, List.length_map]; lia
        have hq100 : (ns14.map (fun n => n.toNat.toUInt8) ++ FL).length ≤ 100 := by rw [List.length_append, List.length_map]; lia
        have okP : okF P := hP ▸ pf_ok _ hq14
        k_steps
        exfalso
        rename ((_ : Nat) : Int) ≠ _ => hq
        exact hq (by rw [hcX, hcY])
        rename News _ _ _ _ => N9
        rename Fr _ _ _ _ => F9
        rename IsRange _ _ _ _ _ _ _ _ => R9
        unfold Keep
        generalize hNL2 : ((D2, LCg.lst ys2) :: (fx, instObj 157 dx) :: (dx, dictOf es en) :: _ : List (Addr × Obj)) = NL2 at N9
        have hcl : cX < 4294967296 := by rw [hcX]; exact crcN_lt _
        refine LCg.CompSrc.range (n := 4) (by rfl) F9 N9 R9 rfl rfl (by rw [PySem.sizeLine_eq]; decide) (fun gz => CRest.indO (fun i ys nw => Keep (nw = NL2 ∧ IntsAre ys ((List.range i).map (smI cX)))) ?turn3 ?done3 ?start3)
        case start3 => exact ⟨rfl, .nil⟩
        case turn3 =>
          clear F9 N9
          rintro KK3 zz3 i3 ys3 nw3 v3 I3 oI3 Cx3 oC3 D3 m3 hh3 tk33 E3 up3 hi3 ⟨rfl, p8⟩ ⟨tv3, rfl⟩ ho3 hm3 F10 N10 off3 ne3
          subst hNL2
          have offK3 := off3
          simp only [LCg.Off3] at off3
          k_steps
          all_goals (refine LCg.CompEnd.intro (by assumption) (by assumption) _ (fun p hp => hp) offK3 trivial (up3 _ _ ⟨rfl, ?_⟩))
          all_goals (rw [List.range_succ, List.map_append])
          all_goals exact IntsAre.append p8 (.cons _ _ .nil)
        case done3 =>
          clear F9 N9
          rintro ys3 nw3 ⟨rfl, p8⟩ D3 hh3 tk33 F10 N10 off3
          subst hNL2
          have offK3 := off3
          simp only [LCg.Off1] at off3
          have hbi3 : ∀ n ∈ (List.range 4).map (smI cX), 0 ≤ n ∧ n < 256 := by
            intro n hn
            obtain ⟨j, _, rfl⟩ := List.mem_map.mp hn
            exact smI_in _ _
          have hs4 := pf_sum4 cX hcl
          have hn4 : ((List.range 4).map (smI cX)).length = 4 := by rw [List.length_map, List.length_range]
          generalize (List.range 4).map (smI cX) = ns4 at p8 hs4 hbi3 hn4
          have hPq := hP
          rw [← hcX, ← hs4] at hP
          k_steps
          all_goals first | (exfalso; (rename (_ != _) = true => hq); rw [← hP] at hq; simp at hq; done) | (exact ret b1 c1 tb1 tc1 _ _ g3 g4 g5 (fin_fr rfl FGE nrT (by assumption)) (fin_news rfl FGE nrT (by assumption) (fun q hq => by rcases List.mem_cons.mp hq with rfl | hq <;> simp only [List.mem_cons, or_true, true_or, *]))) | skip)
end
theorem crc_i0 : ((crcN [] : Nat) : Int) = 0 := by decide +kernel
theorem crc_i1 : ((crcN [49, 50, 51, 52, 53, 54, 55, 56, 57] : Nat) : Int) = 3421780262 := by decide +kernel
theorem crc_i2 : ((crcN [97] : Nat) : Int) = 3904355907 := by decide +kernel
theorem crc32_callZ {w : World} {A : Around} {h₀ : Heap} {L : Addr} {m : Str → Option Value} {nw : List (Addr × Obj)} {s : Shared} {Q E : Value → Shared → Prop} {b : List UInt8} {t : Tok} {z : Int} (C : Cx w A 12 120 h₀ L m nw s) (hb : b.length ≤ 100000) (hz : ((crcN b : Nat) : Int) = z)
   (ret : ∀ t' h' tk', Fr h₀ L h' m → News h₀ L h' nw → Q (.int z t') { s with heap := h', toks := tk' }) :
   wpAny (model PySem.Challenge.pw_nu0127_01 w) A (call (.ref 40) [.bytes b.toArray t]) Q E s := by
  subst hz
  exact crc32_call C hb ret
set_option maxHeartbeats 8000000 in
theorem law_ok : PySem.Challenge.rw_nu0127_01.Holds := hl0 (isP_elim Mine.hd0._proof_1_455 <| by
  have gdG4_5 : Unit := ()
  w_top off
  w_strict (
    (k_with "call ref" => (fail_if_success fail_if_success have := gdG4_5); first
      | ((with_reducible show wpAny _ _ (call (Value.ref 40) _) _ _ _); k_dflt (refine' crc32_callZ ?C ?h ?z ?_; (case z => first | exact crc_i0 | exact crc_i1 | exact crc_i2); (case C => k_extra "cx_now"); (case h => decide)); intro t1 h1 tk1 F1 N1)
      | ((with_reducible show wpAny _ _ (call (Value.ref 303) _) _ _ _); k_dflt (refine' pool_call ?C ?hl ?hi ?hz ?hk ?_; (case C => k_extra "cx_now"); (case hl => assumption); (case hi => assumption); (case hz => lia); (case hk => lia)); intro sl b1 c1 tb1 tc1 n1 h1 tk1 g3 g4 g5 gl F1 N1; (have glo := gl); (k_lt gl))
      | ((with_reducible show wpAny _ _ (call (Value.ref 341) _) _ _ _); k_dflt (refine' frame_right_call ?B ?F ?X ?N ?T ?h1 ?h2 ?h3 ?h4 ?h5 ?h6 ?h7 ?_; (case B => k_asm); (case F => k_asm); (case X => k_asm); (case N => k_asm); (case T => k_asm); (case h1 => exact rfl); (case h2 => ktr_room); (case h3 => ktr_units); (case h4 => assumption); (case h5 => assumption); (case h6 => assumption); (case h7 => k_all)); intro b1 c1 tb1 tc1 h1 tk1 g3 g4 g5 F1 N1)
      | ((with_reducible show wpAny _ _ (call (Value.ref 365) _) _ _ _); k_dflt (refine' line_right_call ?C ?h4 ?h5 ?h6 ?h7 ?_; (case C => k_extra "cx_now"); (case h4 => assumption); (case h5 => assumption); (case h6 => assumption); (case h7 => k_all)); intro b1 c1 tb1 tc1 h1 tk1 g3 g4 g5 F1 N1)
      | refine keep_of ?_)
    (k_with "UnrEnd" => (fail_if_success fail_if_success have := gdG4_5); refine keep_of ?_)
    k_go0
    (all_goals try k_fold)
    k_steps
    rename News _ _ _ _ => N3
    rename Fr _ _ _ _ => F3
    rename IsRange _ _ _ _ _ _ _ _ => R3
    rename Top _ _ _ _ _ _ => T0
    rename IntsAre _ _ => hIn
    rename Heap.IsList _ _ _ => hLs
    rename (¬ _ < _) => hLe
    refine ForSrc.range (by rfl) (by first | passes_own | with_unfolding_all passes_own) F3 N3 R3 ?c1 (rangeSize_nat _ _) (fun I g hI => TRest.ind (fun i m' nw => Keep (nw = [] ∧ ∃ sp vs ns, m' "script" = some (.ref sp) ∧ (Top.heap T0).IsList sp (List.toArray vs) ∧ IntsAre vs ns ∧ ns.length ≤ 63)) ?turn ?done ?start)
    case c1 => exact small_one (by first | decide | (split <;> (try split) <;> lia)) (by first | decide | (split <;> (try split) <;> lia)) (by first | decide | (split <;> (try split) <;> lia)) (by first | decide | (split <;> (try split) <;> lia))
    case start => exact ⟨rfl, _, _, _, rfl, hLs, hIn, by lia⟩
    case turn =>
      clear F3 N3 R3
      rintro i m' nw v it hh tk hi ⟨rfl, sp, vs, ns, u1, hls, hin, hz⟩ ⟨tv, hv⟩ hit F5 N5
      rw [Int.zero_add] at hv
      subst hv
      have hi5 : i ≤ 5 := by
        revert hi
        split <;> (try split) <;> lia
      k_steps
      refine keep_in ?_
      rename News _ _ _ _ => N6
      rename Fr _ _ _ _ => F6
      exact UnrEnd.intro F6 N6 [] (fun p hp => .tail _ hp) (fun _ h => nomatch h) ⟨trivial, rfl, sp, vs, ns, u1, hls, hin, hz⟩
    case done =>
      clear F3 N3 R3
      rintro m' nw hh tk ⟨rfl, sp, vs, ns, u1, hls, hin, hz⟩ F5 N5
      k_steps))
end Mine
theorem PySem.Challenge.cw_nu0127_01_holds : PySem.Challenge.rw_nu0127_01.Holds :=
  Mine.law_ok
