import PyProof.Rows.All
import Wide.All
import OpenK.AllK
import Wide.FinOn
import PySem.Challenge.RW_xw0213_01
set_option Elab.async false
set_option compiler.extract_closed false

section
open PySem PySem.W PyProof.Rows
set_option Elab.async false
namespace Mine
/-- the last def of the text, with a return ahead of its body -/
def stub : Stmt → Stmt
  | .FunctionDef n a b c d e f g h i => .FunctionDef n a (.Return (some (.Constant (.bool true) 0 ⟨0, 0, 0, 0⟩)) ⟨0, 0, 0, 0⟩ :: b) c d e f g h i
  | s => s
def p0 : Program := { PySem.Challenge.pw_xw0213_01 with main := { PySem.Challenge.pw_xw0213_01.main with body := PySem.Challenge.pw_xw0213_01.main.body.map fun s => match s with
  | .FunctionDef n .. => if n == Str.ofString "law" then stub s else s
  | s => s } }
def r0 : OpenLaw := { PySem.Challenge.rw_xw0213_01 with prog := p0 }
end Mine
namespace Mine.kk
theorem tw8035282281678169938 : True := trivial
theorem tw2222472521704415828 : True := trivial
theorem tw17254764581152259629 : True := trivial
theorem tw1555624244750277693 : True := trivial
theorem tw10590699930651017848 : True := trivial
theorem tw17283275599614756173 : True := trivial
theorem tw7906140920450542547 : True := trivial
theorem tw15679341060891334178 : True := trivial
theorem tw4197365108672816159 : True := trivial
theorem tw16441179552463716775 : True := trivial
theorem tw6542542339147194646 : True := trivial
theorem tw11333678892576823281 : True := trivial
theorem tw13208652653062161422 : True := trivial
theorem tw12197353808885079521 : True := trivial
theorem tw12010141601204420037 : True := trivial
theorem tw10443281352126697996 : True := trivial
theorem tw814244233664270796 : True := trivial
theorem tw1733891803999559145 : True := trivial
theorem tw2918868829260555970 : True := trivial
theorem tw217368247544543929 : True := trivial
theorem tw2602538250538386958 : True := trivial
theorem tw1259737942167133422 : True := trivial
theorem tw9980206794929247945 : True := trivial
theorem tw8971630952998363676 : True := trivial
theorem tw7551101000372009672 : True := trivial
theorem tw11265657862979909502 : True := trivial
theorem tw12581381097131932778 : True := trivial
theorem tw9080698689423049753 : True := trivial
theorem tw8366530756212374006 : True := trivial
theorem tw15841030492202440936 : True := trivial
theorem tw13936413911914524490 : True := trivial
theorem tw10092790829484263372 : True := trivial
theorem tw9958555673388934997 : True := trivial
theorem tw17346500316351443659 : True := trivial
theorem tw7680832758676630447 : True := trivial
theorem tw2181164333627083537 : True := trivial
theorem tw7538958485474755599 : True := trivial
theorem tw14607392979140391367 : True := trivial
theorem tw17339035569747802761 : True := trivial
theorem tw4462956809643558821 : True := trivial
theorem tw9371985861842682946 : True := trivial
theorem tw17135974749656076606 : True := trivial
theorem tw3017771968165886329 : True := trivial
theorem tw2537497376609799829 : True := trivial
theorem tw12313394354677607500 : True := trivial
theorem tw4149449306073629181 : True := trivial
theorem tw3702763039481260744 : True := trivial
theorem tw15967432846590161707 : True := trivial
theorem tw1373554148816366787 : True := trivial
theorem tw666153743653479545 : True := trivial
theorem tw9437392149670138376 : True := trivial
theorem tw5010881185949899439 : True := trivial
theorem tw10067889763129503296 : True := trivial
theorem tw6273331428456878117 : True := trivial
theorem tw4205797388408200920 : True := trivial
theorem tw10191597371112772844 : True := trivial
theorem tw3392754605356700087 : True := trivial
theorem tw16212480438701370073 : True := trivial
theorem tw17356602759721057334 : True := trivial
theorem tw1617604683602354935 : True := trivial
theorem tw6736696965187397606 : True := trivial
theorem tw10397816365827924076 : True := trivial
theorem tw10080540959531074094 : True := trivial
theorem tw9588125582773493292 : True := trivial
theorem tw2747013519066642959 : True := trivial
theorem tw10437852496205286416 : True := trivial
theorem tw12840773613693166842 : True := trivial
theorem tw12330494936450615831 : True := trivial
theorem tw9319108102744105917 : True := trivial
theorem tw14020370339083517686 : True := trivial
theorem tw9959150149278145480 : True := trivial
theorem tw10046816082676081571 : True := trivial
theorem tw10386343422165588757 : True := trivial
theorem tw12689025739522861139 : True := trivial
theorem tw1007805626446517571 : True := trivial
theorem tw17440362639355599113 : True := trivial
theorem tw16682212647753057543 : True := trivial
theorem tw16893519674469611681 : True := trivial
theorem tw15704162164635491261 : True := trivial
theorem tw10113592525543161378 : True := trivial
theorem tw9573931954078803928 : True := trivial
theorem tw10879872538618257925 : True := trivial
theorem tw6540763066713577241 : True := trivial
theorem tw2574679493781573821 : True := trivial
theorem tw17258364339133229720 : True := trivial
theorem tw14164416852105305769 : True := trivial
theorem tw3757494025116279865 : True := trivial
theorem tw15965876854577514488 : True := trivial
theorem tw7108192899035159292 : True := trivial
theorem tw10092810839287708135 : True := trivial
theorem tw18025799424821038701 : True := trivial
theorem tw11319715642914258144 : True := trivial
theorem tw2865396426287491500 : True := trivial
theorem tw10289853567341175173 : True := trivial
theorem tw18324337742224535864 : True := trivial
theorem tw13100379673663965243 : True := trivial
theorem tw5948686783932704534 : True := trivial
theorem tw9366057000909961492 : True := trivial
theorem tw15600429850963839951 : True := trivial
theorem tw11212356625418711039 : True := trivial
theorem tw12669825226813344626 : True := trivial
theorem tw7272964899991781102 : True := trivial
theorem tw12984378277760034332 : True := trivial
theorem tw3717813088725009781 : True := trivial
theorem tw16985193302465404031 : True := trivial
theorem tw4935466450946333194 : True := trivial
theorem tw11500471035095599045 : True := trivial
theorem tw14753593845299248474 : True := trivial
theorem tw3659196999350993230 : True := trivial
theorem tw12590864253424676581 : True := trivial
theorem tw1774546650608646592 : True := trivial
theorem tw5205917481681144114 : True := trivial
theorem tw9101535994781965950 : True := trivial
theorem tw17515158863705018846 : True := trivial
theorem tw825306899719654289 : True := trivial
theorem tw605499070341383094 : True := trivial
theorem tw7800785319364837918 : True := trivial
theorem tw2460245132175940489 : True := trivial
theorem tw8887572708917792861 : True := trivial
theorem tw7003018748191486011 : True := trivial
theorem tw9908037212970531743 : True := trivial
theorem tw6195992633751195379 : True := trivial
theorem tw13845236038969215948 : True := trivial
theorem tw11132409774619751707 : True := trivial
theorem tw8029334609366522153 : True := trivial
theorem tw313175743667262370 : True := trivial
theorem tw2303261310873886247 : True := trivial
theorem tw8466839955307092083 : True := trivial
theorem tw15573788122713853287 : True := trivial
theorem tw2836654449460271108 : True := trivial
theorem tw2638763650709918202 : True := trivial
theorem tw7690190860974300189 : True := trivial
theorem tw16134736253470229680 : True := trivial
theorem tw17459777718524111417 : True := trivial
theorem tw967316409382009692 : True := trivial
theorem tw14665118444080087585 : True := trivial
theorem tw6919384955820579438 : True := trivial
theorem tw8331112364369708256 : True := trivial
theorem tw8132684319539981038 : True := trivial
theorem tw2293947509701540930 : True := trivial
theorem tw14606788555888866009 : True := trivial
theorem tw5796513768294710319 : True := trivial
theorem tw16874549795718622799 : True := trivial
theorem tw9093862988139412861 : True := trivial
theorem tw18344005021098700204 : True := trivial
theorem tw10745273698541645620 : True := trivial
theorem tw15790554315519820083 : True := trivial
theorem tw6529709330116168941 : True := trivial
theorem tw295039058260092896 : True := trivial
theorem tw8456248515195476108 : True := trivial
theorem tw10567896564958077838 : True := trivial
theorem tw13176042808924790746 : True := trivial
theorem tw9798864325567984798 : True := trivial
theorem tw14821855074665242074 : True := trivial
theorem tw16705494235108707912 : True := trivial
theorem tw17422957301504063048 : True := trivial
theorem tw12020882542606584688 : True := trivial
theorem tw7026332561269926067 : True := trivial
theorem tw7611543895947930238 : True := trivial
theorem tw16180623660213708125 : True := trivial
theorem tw3366377669246311972 : True := trivial
theorem tw3090049601679710693 : True := trivial
theorem tw17736186925304762844 : True := trivial
theorem tw12949013904751073291 : True := trivial
theorem tw11911154218247297963 : True := trivial
theorem tw2879614021091461542 : True := trivial
theorem tw9519297279423311392 : True := trivial
theorem tw15550183075057737637 : True := trivial
theorem tw15550428471955861033 : True := trivial
theorem tw9238701513156673781 : True := trivial
theorem tw17686708117466690184 : True := trivial
theorem tw954884174450118495 : True := trivial
theorem tw2105774146590152029 : True := trivial
theorem tw4100289763094269413 : True := trivial
theorem tw10879318723743800334 : True := trivial
theorem tw15177282926377482188 : True := trivial
theorem tw1381332317733700974 : True := trivial
theorem tw8998331139512749633 : True := trivial
theorem tw11268976720244058938 : True := trivial
theorem tw2019876464820199953 : True := trivial
theorem tw8004466718551535146 : True := trivial
theorem tw15038529588084414444 : True := trivial
theorem tw6048037786729492411 : True := trivial
theorem tw13769830967479810338 : True := trivial
theorem tw11372763863886244419 : True := trivial
theorem tw1961232595643376861 : True := trivial
theorem tw571520006673243654 : True := trivial
theorem tw3327187706791064961 : True := trivial
theorem tw7470861447195649736 : True := trivial
theorem tw9439586305072899035 : True := trivial
theorem tw11017299695563018611 : True := trivial
theorem tw18336258978882459232 : True := trivial
theorem tw3356322286589248948 : True := trivial
theorem tw4800877715442885392 : True := trivial
theorem tw10779176317307145 : True := trivial
theorem tw13305110012488227978 : True := trivial
theorem tw9468862780092979377 : True := trivial
theorem tw15778868300216420994 : True := trivial
theorem tw5519348856232248771 : True := trivial
theorem tw18292141643847090595 : True := trivial
theorem tw6571986008139497034 : True := trivial
theorem tw17858627174436854850 : True := trivial
theorem tw4257116923067884031 : True := trivial
theorem tw9588141398107043632 : True := trivial
theorem tw13719121403236510520 : True := trivial
theorem tw7518198354560263144 : True := trivial
theorem tw5217973648513702431 : True := trivial
theorem tw4468581782798141359 : True := trivial
theorem tw7204533929567276133 : True := trivial
theorem tw10667442856565175910 : True := trivial
theorem tw11711581513667785744 : True := trivial
theorem tw16806375118706243538 : True := trivial
theorem tw6164341318605799965 : True := trivial
theorem tw14018193634797561868 : True := trivial
theorem tw11669071931244219041 : True := trivial
theorem tw7853311903280383764 : True := trivial
theorem tw212657253436104034 : True := trivial
theorem tw4881662936605875090 : True := trivial
theorem tw10541069132195622999 : True := trivial
theorem tw4657283841058794403 : True := trivial
theorem tw379474965323551024 : True := trivial
theorem tw4019637248398007499 : True := trivial
theorem tw10356971505625326377 : True := trivial
theorem tw14889850848919903021 : True := trivial
theorem tw4504661339406895601 : True := trivial
theorem tw2151150724366096940 : True := trivial
theorem tw1482997052082921169 : True := trivial
theorem tw13501082993018016344 : True := trivial
theorem tw14948659206629245546 : True := trivial
theorem tw4185135793921048128 : True := trivial
theorem tw8244994669103087445 : True := trivial
theorem tw12928654207523646336 : True := trivial
theorem tw8718915485203233989 : True := trivial
theorem tw2989261241187748123 : True := trivial
theorem tw12111887797316824763 : True := trivial
theorem tw3304650000388384593 : True := trivial
theorem tw13086748226576880024 : True := trivial
theorem tw9097667886939623202 : True := trivial
theorem tw9607191063700006442 : True := trivial
theorem tw3687520334628890567 : True := trivial
theorem tw1598419223069992482 : True := trivial
theorem tw14662538704951597704 : True := trivial
theorem tw6163380707034867995 : True := trivial
theorem tw3041068760119639812 : True := trivial
theorem tw14098951355781194090 : True := trivial
theorem tw691300565363800570 : True := trivial
theorem tw11958332892984289845 : True := trivial
theorem tw14789901730720444730 : True := trivial
theorem tw14800713290059155513 : True := trivial
theorem tw5907293477330485311 : True := trivial
theorem tw14040883835066402878 : True := trivial
theorem tw6304035774604928805 : True := trivial
theorem tw7734776535682434612 : True := trivial
theorem tw9876189402230510741 : True := trivial
theorem tw5646679348581338231 : True := trivial
theorem tw4890559543003983809 : True := trivial
theorem tw3612411378963332619 : True := trivial
theorem tw11938731876305925740 : True := trivial
theorem tw724841654841796272 : True := trivial
theorem tw382680582809163525 : True := trivial
theorem tw16733053306133333590 : True := trivial
theorem tw10529715606660479798 : True := trivial
theorem tw8566161553426490323 : True := trivial
theorem tw2260815589496938489 : True := trivial
theorem tw17654995543208575920 : True := trivial
theorem tw6713479838674445302 : True := trivial
theorem tw5807243277878481250 : True := trivial
theorem tw15388147078259172824 : True := trivial
theorem tw8352057176305390634 : True := trivial
theorem tw843795012160658719 : True := trivial
theorem tw9420477658333515672 : True := trivial
theorem tw4400809885874896537 : True := trivial
theorem tw17229647477414478053 : True := trivial
theorem tw12523341774115222953 : True := trivial
theorem tw16749660767980095338 : True := trivial
theorem tw1745450386511642094 : True := trivial
theorem tw2350347709426679127 : True := trivial
theorem tw2878761789820861490 : True := trivial
theorem tw13768881963194119140 : True := trivial
theorem tw11186355098748098285 : True := trivial
theorem tw3315042376452426062 : True := trivial
theorem tw10935516053651590546 : True := trivial
theorem tw3682219411989237861 : True := trivial
theorem tw16019948517053374777 : True := trivial
theorem tw14822446573015760791 : True := trivial
theorem tw15031297746916609786 : True := trivial
theorem tw11943617259352509522 : True := trivial
theorem tw16721670504777885821 : True := trivial
theorem tw1865171925746131061 : True := trivial
theorem tw15075665961042641158 : True := trivial
theorem tw7256079266811529227 : True := trivial
theorem tw13424607601714177295 : True := trivial
theorem tw7577818823933832015 : True := trivial
theorem tw10799883685663463336 : True := trivial
theorem tw12434739283588339355 : True := trivial
theorem tw12119267435770731206 : True := trivial
theorem tw12043526394785700178 : True := trivial
theorem tw17058151070199062055 : True := trivial
theorem tw9441101618551894386 : True := trivial
theorem tw11573730611095105588 : True := trivial
theorem tw9189815603832402880 : True := trivial
theorem tw17004090034829813949 : True := trivial
theorem tw12154290932044156134 : True := trivial
theorem tw16982150975351741799 : True := trivial
theorem tw8357056324862531450 : True := trivial
theorem tw11883684503640740745 : True := trivial
theorem tw13445992280055278928 : True := trivial
theorem tw17030221787885726079 : True := trivial
theorem tw8146763928529185757 : True := trivial
theorem tw6581848776551412277 : True := trivial
theorem tw12308771330060210639 : True := trivial
theorem tw1275998622208991415 : True := trivial
theorem tw4488285969342129214 : True := trivial
theorem tw16959710206130805716 : True := trivial
theorem tw9587430482729913670 : True := trivial
theorem tw18179698369238896191 : True := trivial
theorem tw6636356423183252481 : True := trivial
theorem tw18118340807913144 : True := trivial
theorem tw14931449252189763066 : True := trivial
theorem tw16597679821980278319 : True := trivial
theorem tw9907184353901062220 : True := trivial
theorem tw16722582158909136666 : True := trivial
theorem tw2313368103309195455 : True := trivial
theorem tw646133517602526713 : True := trivial
theorem tw2396476124323130486 : True := trivial
theorem tw2234787983306236963 : True := trivial
theorem tw11483880763211987988 : True := trivial
theorem tw8182214286695520241 : True := trivial
theorem tw2429609488194723455 : True := trivial
theorem tw8776071722040346062 : True := trivial
theorem tw5174208504345352384 : True := trivial
theorem tw6274301968420306427 : True := trivial
theorem tw15817807354386130181 : True := trivial
theorem tw9814962388112251280 : True := trivial
theorem tw5298514183345239103 : True := trivial
theorem tw4902935242437032786 : True := trivial
theorem tw16479831877823183137 : True := trivial
theorem tw10884938891256851753 : True := trivial
theorem tw18207109867628932718 : True := trivial
theorem tw9072417297911892795 : True := trivial
theorem tw9689078981616304665 : True := trivial
theorem tw12242010733995444040 : True := trivial
theorem tw14015355992261130955 : True := trivial
theorem tw15624979921002630929 : True := trivial
theorem tw282348550495908127 : True := trivial
theorem tw5649998800949907857 : True := trivial
theorem tw908230144583697862 : True := trivial
theorem tw7749001286867675626 : True := trivial
theorem tw15652102985407486523 : True := trivial
theorem tw6453069755240791625 : True := trivial
theorem tw12669527088767116308 : True := trivial
theorem tw861680322516108910 : True := trivial
theorem tw9843896370901672699 : True := trivial
theorem tw8835065897919829438 : True := trivial
theorem tw4164856251198601096 : True := trivial
end Mine.kk
namespace Mine
set_option Elab.async true in
set_option maxRecDepth 100000 in
set_option maxHeartbeats 8000000 in
theorem kk : r0.Holds := by
  open_k
theorem take_one {α : Type} {n : Nat} {a : α} {l r : List α} (h : l.take n = r) : (a :: l).take (n + 1) = a :: r := by rw [List.take_succ_cons, h]
set_option maxRecDepth 100000 in
/-- the written part: all but the law's own def -/
noncomputable def K : Params → Frag := fun P =>
  letI l : Frag := _
  haveI h : (Mine.kk.heap_1_39 P).take 249 = l := by
    delta Mine.kk.heap_1_39
    repeat refine' take_one ?_
    exact List.take_zero
  l
end Mine
end

theorem Mine.reset_EL (h : PySem.Heap) : PySem.W.GrownAll [] h := by
  w_top off
  walk1
section
set_option Elab.async false
set_option autoImplicit false
namespace Mine
theorem el_1_2 {α0 : Sort _} {P0 P1 : α0 → Prop} {G : Prop} (h : ∃ x0, P0 x0 ∧ P1 x0) (go : ∀ x0, P0 x0 → P1 x0 → G) : G :=
  h.elim fun x0 h => go x0 h.1 h.2
theorem el_1_3 {α0 : Sort _} {P0 P1 P2 : α0 → Prop} {G : Prop} (h : ∃ x0, P0 x0 ∧ P1 x0 ∧ P2 x0) (go : ∀ x0, P0 x0 → P1 x0 → P2 x0 → G) : G :=
  h.elim fun x0 h => go x0 h.1 h.2.1 h.2.2
theorem el_2_2 {α0 α1 : Sort _} {P0 P1 : α0 → α1 → Prop} {G : Prop} (h : ∃ x0 x1, P0 x0 x1 ∧ P1 x0 x1) (go : ∀ x0 x1, P0 x0 x1 → P1 x0 x1 → G) : G :=
  h.elim fun x0 h => h.elim fun x1 h => go x0 x1 h.1 h.2
theorem el_0_5 {P0 P1 P2 P3 P4 : Prop} {G : Prop} (h : P0 ∧ P1 ∧ P2 ∧ P3 ∧ P4) (go : P0 → P1 → P2 → P3 → P4 → G) : G :=
  go h.1 h.2.1 h.2.2.1 h.2.2.2.1 h.2.2.2.2
theorem el_1_4 {α0 : Sort _} {P0 P1 P2 P3 : α0 → Prop} {G : Prop} (h : ∃ x0, P0 x0 ∧ P1 x0 ∧ P2 x0 ∧ P3 x0) (go : ∀ x0, P0 x0 → P1 x0 → P2 x0 → P3 x0 → G) : G :=
  h.elim fun x0 h => go x0 h.1 h.2.1 h.2.2.1 h.2.2.2
theorem el_2_3 {α0 α1 : Sort _} {P0 P1 P2 : α0 → α1 → Prop} {G : Prop} (h : ∃ x0 x1, P0 x0 x1 ∧ P1 x0 x1 ∧ P2 x0 x1) (go : ∀ x0 x1, P0 x0 x1 → P1 x0 x1 → P2 x0 x1 → G) : G :=
  h.elim fun x0 h => h.elim fun x1 h => go x0 x1 h.1 h.2.1 h.2.2
theorem el_3_2 {α0 α1 α2 : Sort _} {P0 P1 : α0 → α1 → α2 → Prop} {G : Prop} (h : ∃ x0 x1 x2, P0 x0 x1 x2 ∧ P1 x0 x1 x2) (go : ∀ x0 x1 x2, P0 x0 x1 x2 → P1 x0 x1 x2 → G) : G :=
  h.elim fun x0 h => h.elim fun x1 h => h.elim fun x2 h => go x0 x1 x2 h.1 h.2
theorem el_3_6 {α0 α1 α2 : Sort _} {P0 P1 P2 P3 P4 P5 : α0 → α1 → α2 → Prop} {G : Prop} (h : ∃ x0 x1 x2, P0 x0 x1 x2 ∧ P1 x0 x1 x2 ∧ P2 x0 x1 x2 ∧ P3 x0 x1 x2 ∧ P4 x0 x1 x2 ∧ P5 x0 x1 x2) (go : ∀ x0 x1 x2, P0 x0 x1 x2 → P1 x0 x1 x2 → P2 x0 x1 x2 → P3 x0 x1 x2 → P4 x0 x1 x2 → P5 x0 x1 x2 → G) : G :=
  h.elim fun x0 h => h.elim fun x1 h => h.elim fun x2 h => go x0 x1 x2 h.1 h.2.1 h.2.2.1 h.2.2.2.1 h.2.2.2.2.1 h.2.2.2.2.2
theorem el_4_5 {α0 α1 α2 α3 : Sort _} {P0 P1 P2 P3 P4 : α0 → α1 → α2 → α3 → Prop} {G : Prop} (h : ∃ x0 x1 x2 x3, P0 x0 x1 x2 x3 ∧ P1 x0 x1 x2 x3 ∧ P2 x0 x1 x2 x3 ∧ P3 x0 x1 x2 x3 ∧ P4 x0 x1 x2 x3) (go : ∀ x0 x1 x2 x3, P0 x0 x1 x2 x3 → P1 x0 x1 x2 x3 → P2 x0 x1 x2 x3 → P3 x0 x1 x2 x3 → P4 x0 x1 x2 x3 → G) : G :=
  h.elim fun x0 h => h.elim fun x1 h => h.elim fun x2 h => h.elim fun x3 h => go x0 x1 x2 x3 h.1 h.2.1 h.2.2.1 h.2.2.2.1 h.2.2.2.2
theorem el_3_8 {α0 α1 α2 : Sort _} {P0 P1 P2 P3 P4 P5 P6 P7 : α0 → α1 → α2 → Prop} {G : Prop} (h : ∃ x0 x1 x2, P0 x0 x1 x2 ∧ P1 x0 x1 x2 ∧ P2 x0 x1 x2 ∧ P3 x0 x1 x2 ∧ P4 x0 x1 x2 ∧ P5 x0 x1 x2 ∧ P6 x0 x1 x2 ∧ P7 x0 x1 x2) (go : ∀ x0 x1 x2, P0 x0 x1 x2 → P1 x0 x1 x2 → P2 x0 x1 x2 → P3 x0 x1 x2 → P4 x0 x1 x2 → P5 x0 x1 x2 → P6 x0 x1 x2 → P7 x0 x1 x2 → G) : G :=
  h.elim fun x0 h => h.elim fun x1 h => h.elim fun x2 h => go x0 x1 x2 h.1 h.2.1 h.2.2.1 h.2.2.2.1 h.2.2.2.2.1 h.2.2.2.2.2.1 h.2.2.2.2.2.2.1 h.2.2.2.2.2.2.2
theorem el_4_7 {α0 α1 α2 α3 : Sort _} {P0 P1 P2 P3 P4 P5 P6 : α0 → α1 → α2 → α3 → Prop} {G : Prop} (h : ∃ x0 x1 x2 x3, P0 x0 x1 x2 x3 ∧ P1 x0 x1 x2 x3 ∧ P2 x0 x1 x2 x3 ∧ P3 x0 x1 x2 x3 ∧ P4 x0 x1 x2 x3 ∧ P5 x0 x1 x2 x3 ∧ P6 x0 x1 x2 x3) (go : ∀ x0 x1 x2 x3, P0 x0 x1 x2 x3 → P1 x0 x1 x2 x3 → P2 x0 x1 x2 x3 → P3 x0 x1 x2 x3 → P4 x0 x1 x2 x3 → P5 x0 x1 x2 x3 → P6 x0 x1 x2 x3 → G) : G :=
  h.elim fun x0 h => h.elim fun x1 h => h.elim fun x2 h => h.elim fun x3 h => go x0 x1 x2 x3 h.1 h.2.1 h.2.2.1 h.2.2.2.1 h.2.2.2.2.1 h.2.2.2.2.2.1 h.2.2.2.2.2.2
theorem el_5_7 {α0 α1 α2 α3 α4 : Sort _} {P0 P1 P2 P3 P4 P5 P6 : α0 → α1 → α2 → α3 → α4 → Prop} {G : Prop} (h : ∃ x0 x1 x2 x3 x4, P0 x0 x1 x2 x3 x4 ∧ P1 x0 x1 x2 x3 x4 ∧ P2 x0 x1 x2 x3 x4 ∧ P3 x0 x1 x2 x3 x4 ∧ P4 x0 x1 x2 x3 x4 ∧ P5 x0 x1 x2 x3 x4 ∧ P6 x0 x1 x2 x3 x4) (go : ∀ x0 x1 x2 x3 x4, P0 x0 x1 x2 x3 x4 → P1 x0 x1 x2 x3 x4 → P2 x0 x1 x2 x3 x4 → P3 x0 x1 x2 x3 x4 → P4 x0 x1 x2 x3 x4 → P5 x0 x1 x2 x3 x4 → P6 x0 x1 x2 x3 x4 → G) : G :=
  h.elim fun x0 h => h.elim fun x1 h => h.elim fun x2 h => h.elim fun x3 h => h.elim fun x4 h => go x0 x1 x2 x3 x4 h.1 h.2.1 h.2.2.1 h.2.2.2.1 h.2.2.2.2.1 h.2.2.2.2.2.1 h.2.2.2.2.2.2
theorem el_7_5 {α0 α1 α2 α3 α4 α5 α6 : Sort _} {P0 P1 P2 P3 P4 : α0 → α1 → α2 → α3 → α4 → α5 → α6 → Prop} {G : Prop} (h : ∃ x0 x1 x2 x3 x4 x5 x6, P0 x0 x1 x2 x3 x4 x5 x6 ∧ P1 x0 x1 x2 x3 x4 x5 x6 ∧ P2 x0 x1 x2 x3 x4 x5 x6 ∧ P3 x0 x1 x2 x3 x4 x5 x6 ∧ P4 x0 x1 x2 x3 x4 x5 x6) (go : ∀ x0 x1 x2 x3 x4 x5 x6, P0 x0 x1 x2 x3 x4 x5 x6 → P1 x0 x1 x2 x3 x4 x5 x6 → P2 x0 x1 x2 x3 x4 x5 x6 → P3 x0 x1 x2 x3 x4 x5 x6 → P4 x0 x1 x2 x3 x4 x5 x6 → G) : G :=
  h.elim fun x0 h => h.elim fun x1 h => h.elim fun x2 h => h.elim fun x3 h => h.elim fun x4 h => h.elim fun x5 h => h.elim fun x6 h => go x0 x1 x2 x3 x4 x5 x6 h.1 h.2.1 h.2.2.1 h.2.2.2.1 h.2.2.2.2
theorem el_5_8 {α0 α1 α2 α3 α4 : Sort _} {P0 P1 P2 P3 P4 P5 P6 P7 : α0 → α1 → α2 → α3 → α4 → Prop} {G : Prop} (h : ∃ x0 x1 x2 x3 x4, P0 x0 x1 x2 x3 x4 ∧ P1 x0 x1 x2 x3 x4 ∧ P2 x0 x1 x2 x3 x4 ∧ P3 x0 x1 x2 x3 x4 ∧ P4 x0 x1 x2 x3 x4 ∧ P5 x0 x1 x2 x3 x4 ∧ P6 x0 x1 x2 x3 x4 ∧ P7 x0 x1 x2 x3 x4) (go : ∀ x0 x1 x2 x3 x4, P0 x0 x1 x2 x3 x4 → P1 x0 x1 x2 x3 x4 → P2 x0 x1 x2 x3 x4 → P3 x0 x1 x2 x3 x4 → P4 x0 x1 x2 x3 x4 → P5 x0 x1 x2 x3 x4 → P6 x0 x1 x2 x3 x4 → P7 x0 x1 x2 x3 x4 → G) : G :=
  h.elim fun x0 h => h.elim fun x1 h => h.elim fun x2 h => h.elim fun x3 h => h.elim fun x4 h => go x0 x1 x2 x3 x4 h.1 h.2.1 h.2.2.1 h.2.2.2.1 h.2.2.2.2.1 h.2.2.2.2.2.1 h.2.2.2.2.2.2.1 h.2.2.2.2.2.2.2
theorem el_5_9 {α0 α1 α2 α3 α4 : Sort _} {P0 P1 P2 P3 P4 P5 P6 P7 P8 : α0 → α1 → α2 → α3 → α4 → Prop} {G : Prop} (h : ∃ x0 x1 x2 x3 x4, P0 x0 x1 x2 x3 x4 ∧ P1 x0 x1 x2 x3 x4 ∧ P2 x0 x1 x2 x3 x4 ∧ P3 x0 x1 x2 x3 x4 ∧ P4 x0 x1 x2 x3 x4 ∧ P5 x0 x1 x2 x3 x4 ∧ P6 x0 x1 x2 x3 x4 ∧ P7 x0 x1 x2 x3 x4 ∧ P8 x0 x1 x2 x3 x4) (go : ∀ x0 x1 x2 x3 x4, P0 x0 x1 x2 x3 x4 → P1 x0 x1 x2 x3 x4 → P2 x0 x1 x2 x3 x4 → P3 x0 x1 x2 x3 x4 → P4 x0 x1 x2 x3 x4 → P5 x0 x1 x2 x3 x4 → P6 x0 x1 x2 x3 x4 → P7 x0 x1 x2 x3 x4 → P8 x0 x1 x2 x3 x4 → G) : G :=
  h.elim fun x0 h => h.elim fun x1 h => h.elim fun x2 h => h.elim fun x3 h => h.elim fun x4 h => go x0 x1 x2 x3 x4 h.1 h.2.1 h.2.2.1 h.2.2.2.1 h.2.2.2.2.1 h.2.2.2.2.2.1 h.2.2.2.2.2.2.1 h.2.2.2.2.2.2.2.1 h.2.2.2.2.2.2.2.2
theorem el_5_10 {α0 α1 α2 α3 α4 : Sort _} {P0 P1 P2 P3 P4 P5 P6 P7 P8 P9 : α0 → α1 → α2 → α3 → α4 → Prop} {G : Prop} (h : ∃ x0 x1 x2 x3 x4, P0 x0 x1 x2 x3 x4 ∧ P1 x0 x1 x2 x3 x4 ∧ P2 x0 x1 x2 x3 x4 ∧ P3 x0 x1 x2 x3 x4 ∧ P4 x0 x1 x2 x3 x4 ∧ P5 x0 x1 x2 x3 x4 ∧ P6 x0 x1 x2 x3 x4 ∧ P7 x0 x1 x2 x3 x4 ∧ P8 x0 x1 x2 x3 x4 ∧ P9 x0 x1 x2 x3 x4) (go : ∀ x0 x1 x2 x3 x4, P0 x0 x1 x2 x3 x4 → P1 x0 x1 x2 x3 x4 → P2 x0 x1 x2 x3 x4 → P3 x0 x1 x2 x3 x4 → P4 x0 x1 x2 x3 x4 → P5 x0 x1 x2 x3 x4 → P6 x0 x1 x2 x3 x4 → P7 x0 x1 x2 x3 x4 → P8 x0 x1 x2 x3 x4 → P9 x0 x1 x2 x3 x4 → G) : G :=
  h.elim fun x0 h => h.elim fun x1 h => h.elim fun x2 h => h.elim fun x3 h => h.elim fun x4 h => go x0 x1 x2 x3 x4 h.1 h.2.1 h.2.2.1 h.2.2.2.1 h.2.2.2.2.1 h.2.2.2.2.2.1 h.2.2.2.2.2.2.1 h.2.2.2.2.2.2.2.1 h.2.2.2.2.2.2.2.2.1 h.2.2.2.2.2.2.2.2.2
end Mine
end

theorem Mine.reset_C0 (h : PySem.Heap) : PySem.W.GrownAll [] h := by
  w_top off
  walk1
section
open PySem PySem.W PyProof.Rows
set_option Elab.async false
set_option maxRecDepth 100000
namespace Mine
def Stop (P : Prop) : Prop := P
theorem stop_at {P : Prop} (h : Stop P) : P := h
theorem go_on {P : Prop} (h : P) : Stop P := h
/-- what a call of the def at f tells: over the ledger `news`, with room for `room` frames more -/
def Tell (w : World) (f : Addr) (args : List Value) (room : Nat) (news : List (Addr × Obj)) (Ret : List (Addr × Obj) → Value → Prop) : Prop :=
  ∀ (loose : List Str) (mean : ExcName → Option Value) (mg mb : Str → Option Value) (dp un : Nat) (gd : Option (List Code)) (cn : Str) (cs : Scope) (a : Addr) (ccd : Value) (cl : List (Str × Addr)) (outer : List Env) (A₀ : Around) (base h₀ : Heap) (L : Addr) (m : Str → Option Value) (s : Shared) (Q E : Value → Shared → Prop),
    Below A₀ base outer h₀ → Fr h₀ L s.heap m → (Mine.K w.params).In h₀ → News h₀ L s.heap news → Top topProg loose mean mg mb h₀ → cs.kind = .function → dp + room < recursionLimit → un + 40 * room < cLine →
    (∀ r news' h' tk', Fr h₀ L h' m → News h₀ L h' news' → Ret news' r → Q r { s with heap := h', toks := tk' }) →
    wpAny (model PySem.Challenge.rw_xw0213_01.row.prog w) (ktrTop dp un gd cn cs L a ccd cl outer) (call (.ref f) args) Q E s
section
variable {w : World} {f : Addr} {args : List Value} {room : Nat} {news : List (Addr × Obj)} {Ret : List (Addr × Obj) → Value → Prop} {loose : List Str} {mean : ExcName → Option Value} {mg mb : Str → Option Value} {dp un : Nat} {gd : Option (List Code)} {cn : Str} {cs : Scope} {a : Addr} {ccd : Value} {cl : List (Str × Addr)} {outer : List Env} {A₀ : Around} {base h₀ : Heap} {L : Addr} {m : Str → Option Value} {s : Shared} {Q E : Value → Shared → Prop} {news₀ : List (Addr × Obj)}
theorem Tell.use (B : Below A₀ base outer h₀) (F : Fr h₀ L s.heap m) (X : (Mine.K w.params).In h₀) (N : News h₀ L s.heap news₀) (T : Top topProg loose mean mg mb h₀) (hk : cs.kind = .function) (hd : dp + room < recursionLimit) (hu : un + 40 * room < cLine)
    (C : Tell w f args room news Ret) (hs : ∀ p ∈ news, p ∈ news₀)
    (ret : ∀ r news' h' tk', Fr h₀ L h' m → News h₀ L h' news' → Ret news' r → Q r { s with heap := h', toks := tk' }) :
    wpAny (model PySem.Challenge.rw_xw0213_01.row.prog w) (ktrTop dp un gd cn cs L a ccd cl outer) (call (.ref f) args) Q E s :=
  C _ _ _ _ _ _ _ _ _ _ _ _ _ _ _ _ _ _ _ _ _ B F X (fun p hp => N p (hs p hp)) T hk hd hu ret
/-- a contract's walk begins: the frame's scope and the state laid open -/
theorem Tell.intro (h : ∀ (loose : List Str) (mean : ExcName → Option Value) (mg mb : Str → Option Value) (dp un : Nat) (gd : Option (List Code)) (cn : Str) (nm : List (Str × NameKind)) (ig ic : Bool) (mr : List (Str × Const)) (a : Addr) (ccd : Value) (cl : List (Str × Addr)) (outer : List Env) (A₀ : Around) (base h₀ : Heap) (L : Addr) (m : Str → Option Value) (sh : Heap) (sg : Array GenState) (sd : Drawn) (st : Nat) (so : OsState) (Q E : Value → Shared → Prop),
    Below A₀ base outer h₀ → Fr h₀ L sh m → (Mine.K w.params).In h₀ → News h₀ L sh news → Top topProg loose mean mg mb h₀ → dp + room < recursionLimit → un + 40 * room < cLine →
    (∀ r news' h' tk', Fr h₀ L h' m → News h₀ L h' news' → Ret news' r → Q r ⟨h', sg, sd, tk', so⟩) →
    wpAny (model PySem.Challenge.rw_xw0213_01.row.prog w) (ktrTop dp un gd cn ⟨.function, nm, ig, ic, mr⟩ L a ccd cl outer) (call (.ref f) args) Q E ⟨sh, sg, sd, st, so⟩) :
    Tell w f args room news Ret :=
  fun _ _ _ _ _ _ _ _ ⟨_, _, _, _, _⟩ _ _ _ _ _ _ _ _ _ ⟨_, _, _, _, _⟩ _ _ B F X N T hk hd hu ret => by
    cases hk
    exact h _ _ _ _ _ _ _ _ _ _ _ _ _ _ _ _ _ _ _ _ _ _ _ _ _ _ _ _ B F X N T hd hu ret
/-- one object of the ledger is turned, what is made is dropped -/
theorem Tell.use1 {src : Addr} {o : Obj} {G : Obj → List (Addr × Obj)} {P : Obj → Value → Prop} (B : Below A₀ base outer h₀) (F : Fr h₀ L s.heap m) (X : (Mine.K w.params).In h₀) (N : News h₀ L s.heap news₀) (T : Top topProg loose mean mg mb h₀) (hk : cs.kind = .function) (hd : dp + room < recursionLimit) (hu : un + 40 * room < cLine)
    (U : UpdF src o news₀ G)
    (C : ∀ R, (∀ p ∈ R, p.1 ≠ src) → (∀ p ∈ news₀, p ∈ (src, o) :: R) → Tell w f args room ((src, o) :: R) (fun news' r => ∃ o', news' = (src, o') :: R ∧ P o' r))
    (ret : ∀ r o' h' tk', Fr h₀ L h' m → News h₀ L h' (G o') → P o' r → Q r { s with heap := h', toks := tk' }) :
    wpAny (model PySem.Challenge.rw_xw0213_01.row.prog w) (ktrTop dp un gd cn cs L a ccd cl outer) (call (.ref f) args) Q E s := by
  obtain ⟨pre, post, e1, e2, h1, h2⟩ := U.split
  have key : ∀ (x : Addr × Obj) p, p ∈ pre ++ x :: post ↔ p ∈ x :: (pre ++ post) := fun x p => by
    simp only [List.mem_append, List.mem_cons]
    constructor
    · rintro (h | h | h)
      · exact .inr (.inl h)
      · exact .inl h
      · exact .inr (.inr h)
    · rintro (h | h | h)
      · exact .inr (.inl h)
      · exact .inl h
      · exact .inr (.inr h)
  refine Tell.use B F X N T hk hd hu (C (pre ++ post) (fun p hp => (List.mem_append.mp hp).elim (h1 p) (h2 p)) (fun p hp => (key _ p).mp (e1 ▸ hp))) (fun p hp => by rw [e1]; exact (key _ p).mpr hp) ?_
  rintro r news' h' tk' F' N' ⟨o', rfl, hP⟩
  exact ret r o' h' tk' F' (fun p hp => N' p ((key _ p).mp (e2 o' ▸ hp))) hP
/-- the ledger stands, the value is known -/
theorem Tell.useC {v : Value} (B : Below A₀ base outer h₀) (F : Fr h₀ L s.heap m) (X : (Mine.K w.params).In h₀) (N : News h₀ L s.heap news) (T : Top topProg loose mean mg mb h₀) (hk : cs.kind = .function) (hd : dp + room < recursionLimit) (hu : un + 40 * room < cLine)
    (C : Tell w f args room news (fun news' r => news' = news ∧ r = v))
    (ret : ∀ h' tk', Fr h₀ L h' m → News h₀ L h' news → Q v { s with heap := h', toks := tk' }) :
    wpAny (model PySem.Challenge.rw_xw0213_01.row.prog w) (ktrTop dp un gd cn cs L a ccd cl outer) (call (.ref f) args) Q E s :=
  Tell.use B F X N T hk hd hu C (fun p hp => hp) fun r news' h' tk' F' N' hP => by
    obtain ⟨rfl, rfl⟩ := hP
    exact ret h' tk' F' N'
/-- the ledger stands, the value is known but for its token -/
theorem Tell.useV {V : Tok → Value} (B : Below A₀ base outer h₀) (F : Fr h₀ L s.heap m) (X : (Mine.K w.params).In h₀) (N : News h₀ L s.heap news) (T : Top topProg loose mean mg mb h₀) (hk : cs.kind = .function) (hd : dp + room < recursionLimit) (hu : un + 40 * room < cLine)
    (C : Tell w f args room news (fun news' r => news' = news ∧ ∃ t', r = V t'))
    (ret : ∀ t' h' tk', Fr h₀ L h' m → News h₀ L h' news → Q (V t') { s with heap := h', toks := tk' }) :
    wpAny (model PySem.Challenge.rw_xw0213_01.row.prog w) (ktrTop dp un gd cn cs L a ccd cl outer) (call (.ref f) args) Q E s :=
  Tell.use B F X N T hk hd hu C (fun p hp => hp) fun r news' h' tk' F' N' hP => by
    obtain ⟨rfl, t', rfl⟩ := hP
    exact ret t' h' tk' F' N'
end
end Mine
end

theorem Mine.reset_A0 (h : PySem.Heap) : PySem.W.GrownAll [] h := by
  w_top off
  walk1
section
open PySem PySem.W PyProof.Rows
set_option Elab.async false
set_option maxRecDepth 100000
namespace Mine
theorem len_app {x y : Str} {a b : Nat} (hx : x.length ≤ a) (hy : y.length ≤ b) : (x ++ y).length ≤ a + b := by
  rw [PySem.Str.length_append]; exact Nat.add_le_add hx hy
section
variable {prog : Program} {w : World} {A : Around} {E : Value → Shared → Prop} {s : Shared} {x y : Str} {t u : Tok} {Q : Value → Shared → Prop}
/-- two texts whose bounds are known are put together -/
theorem add_str {a b : Nat} (hx : x.length ≤ a) (hy : y.length ≤ b) (hab : Nat.ble (a + b) 16777216 = true) (h : ∀ t' k, Q (.str (x ++ y) t') { s with toks := k }) : wpAny (model prog w) A (binaryOp .Add (.str x t) (.str y u)) Q E s :=
  KOpn.add (Nat.le_trans (Nat.add_le_add hx hy) (Nat.le_of_ble_eq_true hab)) fun t' k _ => h t' k
/-- two texts are put together -/
theorem add_str' (hs : x.length + y.length ≤ 16777216) (h : ∀ t' k, Q (.str (x ++ y) t') { s with toks := k }) : wpAny (model prog w) A (binaryOp .Add (.str x t) (.str y u)) Q E s :=
  KOpn.add hs fun t' k _ => h t' k
end
end Mine
end

theorem Mine.reset_C1 (h : PySem.Heap) : PySem.W.GrownAll [] h := by
  w_top off
  walk1
section
open PySem PySem.W PyProof.Rows
set_option Elab.async false
set_option maxRecDepth 100000
set_option hygiene false
namespace Mine
theorem fillK : (fun (_ : Params → Frag) (_ : OpenLaw) => True) Mine.K PySem.Challenge.rw_xw0213_01 := by k_fill; trivial
local macro_rules | `(tactic| k_all) => `(tactic| assumption)
def IsSrc (o : Obj) : Prop := ∃ i j ti tj n, o = listOf #[.int i ti, .int j tj] n ∧ 0 ≤ i ∧ 0 ≤ j ∧ j < 2147483647
theorem sq_ok (x : Int) : IntMulOk (x.fmod 2147483647) (x.fmod 2147483647) := by
  have h1 := Int.fmod_nonneg_of_pos x (b := 2147483647) (by decide)
  have h2 := Int.fmod_lt_of_pos x (b := 2147483647) (by decide)
  exact IntMulOk.of_left (intBits_le_64 (by omega) (by omega))
local macro_rules | `(tactic| walk_at "binaryOp Mult int int") => `(tactic| (refine mul_int ?_ (by with_unfolding_all exact sq_ok _)))
set_option maxHeartbeats 4000000 in
theorem take_tell {w : World} {src : Addr} {R : List (Addr × Obj)} {o : Obj} {tt : Tok} {top : Int} (hR : ∀ p ∈ R, p.1 ≠ src) (ho : IsSrc o) (ht0 : 0 < top) (ht1 : top ≤ 13) :
    Tell w 330 [.ref src, .int top tt] 1 ((src, o) :: R) (fun news' r => ∃ o', news' = (src, o') :: R ∧ IsSrc o' ∧ ∃ k t, r = .int k t ∧ 0 ≤ k ∧ k < top) := by
  obtain ⟨i, j, ti, tj, n, rfl, hi, hj, hj2⟩ := ho
  unfold Tell
  intro loose mean mg mb dp un gd cn cs a ccd cl outer A₀ base h₀ L m s Q E B F X N T hk hd hu ret
  refine wpAny_call ?_
  k_dflt ktr_enter
  k_steps
  · refine ret _ _ _ _ (by assumption) (by assumption) ⟨_, rfl, ⟨_, _, _, _, _, rfl, ?_, hj, hj2⟩, _, _, rfl, ?_, ?_⟩
    · exact Int.fdiv_nonneg hi (Int.le_of_lt ht0)
    · exact Int.fmod_nonneg_of_pos _ ht0
    · exact Int.fmod_lt_of_pos _ ht0
  · refine ret _ _ _ _ (by assumption) (by assumption) ⟨_, rfl, ⟨_, _, _, _, _, rfl, hi, ?_, ?_⟩, _, _, rfl, ?_, ?_⟩
    · exact Int.fmod_nonneg_of_pos _ (by decide)
    · exact Int.fmod_lt_of_pos _ (by decide)
    · exact Int.fmod_nonneg_of_pos _ ht0
    · exact Int.fmod_lt_of_pos _ ht0
end Mine
end

theorem Mine.reset_C2 (h : PySem.Heap) : PySem.W.GrownAll [] h := by
  w_top off
  walk1
section
open PySem PySem.W PyProof.Rows
set_option Elab.async false
set_option maxRecDepth 100000
set_option hygiene false
namespace Mine
theorem fillK2 : (fun (_ : Params → Frag) (_ : OpenLaw) => True) Mine.K PySem.Challenge.rw_xw0213_01 := by k_fill; trivial
local macro_rules | `(tactic| k_all) => `(tactic| assumption)
local macro_rules | `(tactic| k_mem) => `(tactic| first | assumption | exact List.Mem.head _ | (refine' List.mem_cons_of_mem _ ?_; k_mem))
section
variable {prog : Program} {w : World} {A : Around} {E : Value → Shared → Prop} {s : Shared} {h₀ : Heap} {L l : Addr} {news : List (Addr × Obj)}
theorem len_led {vs : List Value} {n : Nat} {Q : Value → Shared → Prop} (N : News h₀ L s.heap news) (hm : (l, listOf vs.toArray n) ∈ news) (hfit : (vs.length : Int) < 2 ^ 63)
    (h : Q (.int (vs.length : Int) (s.toks + 1)) { s with toks := s.toks + 1 + 1 }) : wpAny (model prog w) A (call (.builtin "len") [.ref l]) Q E s := by
  have hl : s.heap.IsList l vs.toArray := ⟨_, (N _ hm).1, rfl, n, rfl⟩
  have e : vs.toArray.size = vs.length := by rw [List.size_toArray]
  exact len_list hl (by rw [e]; exact hfit) (by rw [e]; exact h)
theorem item_led {value slice : PySem.Expr} {vs : List Value} {n : Nat} {k : Int} {u : Tok} {Q : Value → Shared → Prop} (N : News h₀ L s.heap news) (hm : (l, listOf vs.toArray n) ∈ news)
    (h0 : 0 ≤ k) (h1 : k < (vs.length : Int)) (hfit : k < 2 ^ 63) (h : ∀ v, vs[k.toNat]? = some v → Q v s)
    (hs : subscripted slice false (.ref l) (.int k u) = operate [.ref l, .int k u] (getItem (.ref l) (.int k u)) := by with_unfolding_all rfl) :
    wpAny (model prog w) A (subscriptTail value slice (.ref l) (.int k u)) Q E s := by
  have hl : s.heap.IsList l vs.toArray := ⟨_, (N _ hm).1, rfl, n, rfl⟩
  have hk : k.toNat < vs.length := by omega
  exact tail_any hl.typeIs slot_list_getitem.lookup (wpAny_getItem_list hl h0 hfit (by simpa using List.getElem?_eq_getElem hk) (h _ (List.getElem?_eq_getElem hk))) hs
end
local macro_rules | `(tactic| walk_at "call builtin:len") => `(tactic| (k_here; (with_reducible show wpAny _ _ (call (Value.builtin "len") [Value.ref _]) _ _ _); k_dflt (refine' len_led ?zk1 ?zk2 ?zk4 ?_; (case zk1 => k_asm); (case zk2 => k_mem); (case zk4 => omega); k_whole)))
local macro_rules | `(tactic| walk_at "subscriptTail") => `(tactic| (k_here; (with_reducible show wpAny _ _ (subscriptTail _ _ (Value.ref _) (Value.int _ _)) _ _ _); (with_unfolding_all refine' item_led ?zk1 ?zk2 ?zk4 ?zk5 ?zk6 ?_ ?zk7; (case zk1 => k_asm); (case zk2 => k_mem); (case zk4 => omega); (case zk5 => omega); (case zk6 => omega); (case zk7 => with_unfolding_all rfl); k_whole); intro v' hv'))
theorem take_tell' {w : World} {src : Addr} {o : Obj} {tt : Tok} {top : Int} (ho : IsSrc o) (ht0 : 0 < top) (ht1 : top ≤ 13) (R : List (Addr × Obj)) (hR : ∀ p ∈ R, p.1 ≠ src) :
    Tell w 330 [.ref src, .int top tt] 1 ((src, o) :: R) (fun news' r => ∃ o', news' = (src, o') :: R ∧ IsSrc o' ∧ ∃ k t, r = .int k t ∧ 0 ≤ k ∧ k < top) := take_tell hR ho ht0 ht1
section
variable {w : World} {f : Addr} {args : List Value} {room : Nat} {news : List (Addr × Obj)} {Ret : List (Addr × Obj) → Value → Prop} {loose : List Str} {mean : ExcName → Option Value} {mg mb : Str → Option Value} {dp un : Nat} {gd : Option (List Code)} {cn : Str} {cs : Scope} {a : Addr} {ccd : Value} {cl : List (Str × Addr)} {outer : List Env} {A₀ : Around} {base h₀ : Heap} {L : Addr} {m : Str → Option Value} {s : Shared} {Q E : Value → Shared → Prop} {news₀ : List (Addr × Obj)}
theorem take_use {src : Addr} {o : Obj} {G : Obj → List (Addr × Obj)} {tt : Tok} {top : Int} (B : Below A₀ base outer h₀) (F : Fr h₀ L s.heap m) (X : (Mine.K w.params).In h₀) (N : News h₀ L s.heap news₀) (T : Top topProg loose mean mg mb h₀) (hk : cs.kind = .function) (hd : dp + 1 < recursionLimit) (hu : un + 40 * 1 < cLine)
    (U : UpdF src o news₀ G) (ho : IsSrc o) (h0 : 0 < top) (h1 : top ≤ 13)
    (ret : ∀ o' k t h' tk', Fr h₀ L h' m → News h₀ L h' (G o') → IsSrc o' → 0 ≤ k → k < top → Q (.int k t) { s with heap := h', toks := tk' }) :
    wpAny (model PySem.Challenge.rw_xw0213_01.row.prog w) (ktrTop dp un gd cn cs L a ccd cl outer) (call (.ref 330) [.ref src, .int top tt]) Q E s :=
  Tell.use1 (room := 1) B F X N T hk hd hu U (fun R hR _ => take_tell' ho h0 h1 R hR) fun r o' h' tk' F' N' hP => by
    obtain ⟨hS, k, t, rfl, hk0, hk1⟩ := hP
    exact ret o' k t h' tk' F' N' hS hk0 hk1
end
local macro_rules | `(tactic| walk_at "cs") => `(tactic| ((case zB => k_asm); (case zF => k_asm); (case zX => k_asm); (case zN => k_asm); (case zT => k_asm); (case zk => first | exact rfl | assumption); (case zd => ktr_room); (case zu => ktr_units)))
local macro_rules | `(tactic| walk_at "call ref") => `(tactic| ((with_reducible show wpAny _ _ (call (Value.ref 330) _) _ _ _); k_dflt (refine' take_use ?zB ?zF ?zX ?zN ?zT ?zk ?zd ?zu ?zU ?zo ?zt0 ?zt1 ?_; walk_at "cs"; (case zU => k_updF); (case zo => assumption); (case zt0 => omega); (case zt1 => omega)); intro o' k' t' h' tk' F' N' hS' hk0' hk1'))
set_option maxHeartbeats 4000000 in
theorem one_tell {w : World} {src th : Addr} {R : List (Addr × Obj)} {o : Obj} {vs : List Value} {n : Nat} {P : Str → Prop} (ho : IsSrc o) (hm : (th, listOf vs.toArray n) ∈ R)
    (h0 : 0 < vs.length) (h1 : vs.length ≤ 13) (hv : ∀ v ∈ vs, ∃ x t, v = .str x t ∧ P x) (hR : ∀ p ∈ R, p.1 ≠ src) :
    Tell w 337 [.ref src, .ref th] 2 ((src, o) :: R) (fun news' r => ∃ o', news' = (src, o') :: R ∧ IsSrc o' ∧ ∃ x t, r = .str x t ∧ P x) := by
  unfold Tell
  intro loose mean mg mb dp un gd cn cs a ccd cl outer A₀ base h₀ L m s Q E B F X N T hk hd hu ret
  refine wpAny_call ?_
  k_dflt ktr_enter
  k_steps
  obtain ⟨x, t, rfl, hx⟩ := hv _ (List.mem_of_getElem? (by assumption))
  k_steps
  exact ret _ _ _ _ (by assumption) (by assumption) ⟨_, rfl, by assumption, x, t, rfl, hx⟩
end Mine
end

theorem Mine.reset_C3 (h : PySem.Heap) : PySem.W.GrownAll [] h := by
  w_top off
  walk1
section
open PySem PySem.W PyProof.Rows
set_option Elab.async false
set_option maxRecDepth 100000
set_option hygiene false
namespace Mine
theorem fillK3 : (fun (_ : Params → Frag) (_ : OpenLaw) => True) Mine.K PySem.Challenge.rw_xw0213_01 := by k_fill; trivial
theorem off_lt {R : List (Addr × Obj)} {d c : Addr} (h : ∀ p ∈ R, p.1 < d) (hd : @LE.le Nat _ d c) : ∀ p ∈ R, p.1 ≠ c := fun p hp => Nat.ne_of_lt (Nat.lt_of_lt_of_le (h p hp) hd)
theorem allLt_mem {R : List (Addr × Obj)} {d : Addr} (h : AllLt d R) : ∀ p ∈ R, p.1 < d := ktn_ltOf h
local macro_rules | `(tactic| k_all) => `(tactic| first | assumption | exact off_lt (by assumption) (by omega))
local macro_rules | `(tactic| k_mem) => `(tactic| first | assumption | exact List.Mem.head _ | (refine' List.mem_cons_of_mem _ ?_; k_mem))
local macro_rules | `(tactic| k_room) => `(tactic| ktr_room)
local macro_rules | `(tactic| k_units) => `(tactic| ktr_units)
local macro_rules | `(tactic| k_room) => `(tactic| first | (dsimp only [A1]; ktr_room) | fail)
local macro_rules | `(tactic| k_units) => `(tactic| first | (dsimp only [A1]; ktr_units) | fail)
local macro_rules | `(tactic| ke_room) => `(tactic| first | (dsimp only [A1]; ktr_units) | fail)
local macro_rules | `(tactic| walk_at "call builtin:len") => `(tactic| (k_here; (with_reducible show wpAny _ _ (call (Value.builtin "len") [Value.ref _]) _ _ _); k_dflt (refine' len_led ?zk1 ?zk2 ?zk4 ?_; (case zk1 => k_asm); (case zk2 => k_mem); (case zk4 => omega); k_whole)))
local macro_rules | `(tactic| walk_at "subscriptTail") => `(tactic| (k_here; (with_reducible show wpAny _ _ (subscriptTail _ _ (Value.ref _) (Value.int _ _)) _ _ _); (with_unfolding_all refine' item_led ?zk1 ?zk2 ?zk4 ?zk5 ?zk6 ?_ ?zk7; (case zk1 => k_asm); (case zk2 => k_mem); (case zk4 => omega); (case zk5 => omega); (case zk6 => omega); (case zk7 => with_unfolding_all rfl); k_whole); intro v' hv'))
local macro_rules | `(tactic| walk_at "cs") => `(tactic| ((case zB => k_asm); (case zF => k_asm); (case zX => k_asm); (case zN => k_asm); (case zT => k_asm); (case zk => first | exact rfl | assumption); (case zd => k_room); (case zu => k_units)))
local macro_rules | `(tactic| walk_at "call ref") => `(tactic| ((with_reducible show wpAny _ _ (call (Value.ref 330) _) _ _ _); k_dflt (refine' take_use ?zB ?zF ?zX ?zN ?zT ?zk ?zd ?zu ?zU ?zo ?zt0 ?zt1 ?_; walk_at "cs"; (case zU => k_updF); (case zo => assumption); (case zt0 => omega); (case zt1 => omega)); intro o' k' t' h' tk' F' N' hS' hk0' hk1'))
local macro_rules | `(tactic| ktr_unf) => `(tactic| repeat' (first | (k_unfold; (try dsimp only)) | walk1 | (dsimp only; walk1) | (leave1; (try dsimp only))))
local macro_rules | `(tactic| walk_at "CompSrc") => `(tactic| refine stop_at ?_)
local macro_rules | `(tactic| walk_at "CompEnd") => `(tactic| refine stop_at ?_)
theorem mem_tail {p q : Addr × Obj} {R : List (Addr × Obj)} (h : p ∈ q :: R) (hne : @Ne Nat p.1 q.1) : p ∈ R := by
  rcases List.mem_cons.mp h with rfl | h
  · exact absurd rfl hne
  · exact h
theorem one_tell' {w : World} {src th : Addr} {o : Obj} {vs : List Value} {n : Nat} {P : Str → Prop} {news₀ : List (Addr × Obj)} (ho : IsSrc o) (hm : (th, listOf vs.toArray n) ∈ news₀) (hne : @Ne Nat th src)
    (h0 : 0 < vs.length) (h1 : vs.length ≤ 13) (hv : ∀ v ∈ vs, ∃ x t, v = .str x t ∧ P x) (R : List (Addr × Obj)) (hR : ∀ p ∈ R, p.1 ≠ src) (hs : ∀ p ∈ news₀, p ∈ (src, o) :: R) :
    Tell w 337 [.ref src, .ref th] 2 ((src, o) :: R) (fun news' r => ∃ o', news' = (src, o') :: R ∧ IsSrc o' ∧ ∃ x t, r = .str x t ∧ P x) :=
  one_tell ho (mem_tail (hs _ hm) hne) h0 h1 hv hR
theorem strsAre_mem {vs : List Value} {xs : List Str} (h : StrsAre vs xs) : ∀ v ∈ vs, ∃ x t, v = .str x t ∧ x ∈ xs := by
  induction h with
  | nil => exact fun _ h => nomatch h
  | cons y t r ih =>
    intro v hv
    rcases List.mem_cons.mp hv with rfl | hv
    · exact ⟨y, t, rfl, List.mem_cons_self⟩
    · obtain ⟨x, t', e, hx⟩ := ih v hv
      exact ⟨x, t', e, List.mem_cons_of_mem _ hx⟩
def isStrV : Value → Bool
  | .str .. => true
  | _ => false
def strsOf (vs : List Value) : List Str := vs.filterMap fun v => match v with | .str x _ => some x | _ => none
theorem strsOf_mem {vs : List Value} (h : vs.all isStrV = true) : ∀ v ∈ vs, ∃ x t, v = .str x t ∧ x ∈ strsOf vs := by
  intro v hv
  have h1 := List.all_eq_true.mp h v hv
  cases v with
  | str x t => exact ⟨x, t, rfl, List.mem_filterMap.mpr ⟨_, hv, rfl⟩⟩
  | _ => cases h1
theorem one_line {w : World} {src th : Addr} {o : Obj} {vs : List Value} {n : Nat} {news₀ : List (Addr × Obj)} (ho : IsSrc o) (hm : (th, listOf vs.toArray n) ∈ news₀) (hx : vs.all isStrV = true) (hne : @Ne Nat th src)
    (h0 : 0 < vs.length) (h1 : vs.length ≤ 13) (R : List (Addr × Obj)) (hR : ∀ p ∈ R, p.1 ≠ src) (hs : ∀ p ∈ news₀, p ∈ (src, o) :: R) :
    Tell w 337 [.ref src, .ref th] 2 ((src, o) :: R) (fun news' r => ∃ o', news' = (src, o') :: R ∧ IsSrc o' ∧ ∃ x t, r = .str x t ∧ x ∈ strsOf vs) :=
  one_tell' (P := (· ∈ strsOf vs)) ho hm hne h0 h1 (strsOf_mem hx) R hR hs
theorem sum_le_of {xs : List Str} {b : Nat} (h : ∀ x ∈ xs, x.length ≤ b) : (xs.map (·.length)).sum ≤ xs.length * b := StrLaws.sumLen_le xs h
/-- texts glued by nothing -/
noncomputable def cat : List Str → Str
  | [] => Str.empty
  | x :: r => x ++ cat r
theorem cat_append (a b : List Str) : cat (a ++ b) = cat a ++ cat b := by
  induction a with
  | nil => show cat b = Str.empty ++ cat b; rw [Str.empty_append]
  | cons x r ih => show x ++ cat (r ++ b) = (x ++ cat r) ++ cat b; rw [ih, Str.append_assoc]
theorem str_len (a b : Str) : (a ++ b).length = a.length + b.length := Str.length_append a b
theorem cat_len : ∀ xs : List Str, (cat xs).length = (xs.map (·.length)).sum
  | [] => rfl
  | x :: r => by show (x ++ cat r).length = _; rw [str_len, cat_len r]; rfl
theorem join_cat (xs : List Str) : Txt.join (Str.ofString "") xs = cat xs := by
  have e : (Str.ofString "") = Str.empty := by decide +kernel
  rw [e]
  show Builtin.Str.glued Str.empty xs = cat xs
  rw [StrLaws.glued_eq_join]
  induction xs with
  | nil => rfl
  | cons x r ih =>
    cases r with
    | nil => show x = x ++ Str.empty; rw [Str.append_empty]
    | cons y r => show x ++ Str.empty ++ Str.join Str.empty (y :: r) = x ++ cat (y :: r); rw [ih, Str.append_empty]
theorem join_led {prog : Program} {w : World} {A : Around} {E : Value → Shared → Prop} {s : Shared} {h₀ : Heap} {L D : Addr} {news : List (Addr × Obj)} {ys : List Value} {xs : List Str} {n : Nat} {x : Str} {t : Tok} {Q : Value → Shared → Prop}
    (N : News h₀ L s.heap news) (hm : (D, listOf ys.toArray n) ∈ news) (hy : StrsAre ys xs) (hsz : (xs.map (·.length)).sum + xs.length * x.length ≤ 16777216)
    (h : ∀ t' k, Q (.str (Txt.join x xs) t') { s with toks := k }) : wpAny (model prog w) A (call (.builtin "str.join") [.str x t, .ref D]) Q E s :=
  join_list (items := ys.toArray) ⟨_, (N _ hm).1, rfl, n, rfl⟩ hy hsz h
theorem news_sub {h₀ h : Heap} {L : Addr} {l l' : List (Addr × Obj)} (N : News h₀ L h l) (hs : ∀ p ∈ l', p ∈ l) : News h₀ L h l' := fun p hp => N p (hs p hp)
def JText (src : Addr) (R pre : List (Addr × Obj)) (b : Nat) (ys : List Value) (nw : List (Addr × Obj)) : Prop :=
  ∃ o xs, IsSrc o ∧ nw = pre ++ (src, o) :: R ∧ StrsAre ys xs ∧ ∀ x ∈ xs, x.length ≤ b
section
variable {prog : Program} {w : World} {A : Around} {h₀ : Heap} {L : Addr} {m : Str → Option Value} {env : Env} {elt : Expr} {x : Str} {scope : Scope} {cl : List (Str × Addr)} {s : Shared} {S : List (Addr × Obj) → Prop} {P : Nat → Value → Prop} {Fin : List Value → List (Addr × Obj) → Prop} {news : List (Addr × Obj)}
/-- a comprehension by an invariant over what is gathered and the ledger -/
theorem rest_inv {n : Nat} (J : List Value → List (Addr × Obj) → Prop)
    (turn : ∀ i ys nw v I oI C oC D m₂ h tk (E' : Value → Shared → Prop), i < n → ys.length = i → J ys nw → P i v → LCg.NsObj oC m₂ → m₂ x = some v → Fr h₀ L h m → News h₀ L h ((I, oI) :: (C, oC) :: (D, LCg.lst ys) :: nw) → LCg.Off3 I C D nw → ((@Ne Nat I C) ∧ (@Ne Nat I D) ∧ (@Ne Nat C D)) →
      wpAny (model prog w) A (eval elt (compEnvC scope cl C env)) (LCg.CompEnd h₀ L m { s with heap := h, toks := tk } I oI C oC D (LCg.lst ys) S (fun y nw' => J (ys ++ [y]) nw')) E' { s with heap := h, toks := tk })
    (hj : J [] news) (fin : ∀ ys nw, ys.length = n → J ys nw → Fin ys nw) : LCg.CompRest prog w A h₀ L m env elt x scope cl s S P Fin n 0 [] news := by
  have key : ∀ (j i : Nat) (ys : List Value) (nw : List (Addr × Obj)), i + j = n → ys.length = i → J ys nw → LCg.CompRest prog w A h₀ L m env elt x scope cl s S P Fin j i ys nw := by
    intro j
    induction j with
    | zero =>
      intro i ys nw hi hl hy
      exact LCg.CompRest.zero (fin ys nw (by omega) hy)
    | succ j ih =>
      intro i ys nw hi hl hy
      refine LCg.CompRest.succ ?_
      intro v I oI C oC D m₂ h tk E' hv hC hx F N off ne
      refine wpAny_mono (turn i ys nw v I oI C oC D m₂ h tk E' (by omega) hl hy hv hC hx F N off ne) (fun y s₂ hq => ?_) fun _ _ e => e
      obtain ⟨h', tk', nw', e, F', N', off', hS, hJ⟩ := hq
      exact ⟨h', tk', nw', e, F', N', off', hS, ih (i + 1) _ _ (by omega) (by rw [List.length_append, List.length_singleton, hl]) hJ⟩
  exact key n 0 [] news (by omega) rfl hj
end
section
variable {w : World} {f : Addr} {args : List Value} {room : Nat} {news : List (Addr × Obj)} {Ret : List (Addr × Obj) → Value → Prop} {loose : List Str} {mean : ExcName → Option Value} {mg mb : Str → Option Value} {dp un : Nat} {gd : Option (List Code)} {cn : Str} {cs : Scope} {a : Addr} {ccd : Value} {cl : List (Str × Addr)} {outer : List Env} {A₀ : Around} {base h₀ : Heap} {L : Addr} {m : Str → Option Value} {s : Shared} {Q E : Value → Shared → Prop} {news₀ : List (Addr × Obj)}
theorem one_use {src th : Addr} {o : Obj} {G : Obj → List (Addr × Obj)} {vs : List Value} {n : Nat} (B : Below A₀ base outer h₀) (F : Fr h₀ L s.heap m) (X : (Mine.K w.params).In h₀) (N : News h₀ L s.heap news₀) (T : Top topProg loose mean mg mb h₀) (hk : cs.kind = .function) (hd : dp + 2 < recursionLimit) (hu : un + 40 * 2 < cLine)
    (U : UpdF src o news₀ G) (ho : IsSrc o) (hm : (th, listOf vs.toArray n) ∈ news₀) (hx : vs.all isStrV = true) (hne : @Ne Nat th src) (h0 : 0 < vs.length) (h1 : vs.length ≤ 13)
    (ret : ∀ o' x t h' tk', Fr h₀ L h' m → News h₀ L h' (G o') → IsSrc o' → x ∈ strsOf vs → Q (.str x t) { s with heap := h', toks := tk' }) :
    wpAny (model PySem.Challenge.rw_xw0213_01.row.prog w) (ktrTop dp un gd cn cs L a ccd cl outer) (call (.ref 337) [.ref src, .ref th]) Q E s :=
  Tell.use1 (room := 2) B F X N T hk hd hu U (one_line ho hm hx hne h0 h1) fun r o' h' tk' F' N' hP => by
    obtain ⟨hS, x, t, rfl, hx'⟩ := hP
    exact ret o' x t h' tk' F' N' hS hx'
end
local macro_rules | `(tactic| walk_at "call ref") => `(tactic| ((with_reducible show wpAny _ _ (call (Value.ref 337) _) _ _ _); k_dflt (refine' one_use ?zB ?zF ?zX ?zN ?zT ?zk ?zd ?zu ?zU ?zo ?zm ?zs ?zne ?zh0 ?zh1 ?_; walk_at "cs"; (case zU => k_updF); (case zo => assumption); (case zm => k_mem); (case zs => exact rfl); (case zne => omega); (case zh0 => exact Nat.le_of_ble_eq_true rfl); (case zh1 => exact Nat.le_of_ble_eq_true rfl)); intro o' x' t' h' tk' F' N' hS' hx'))
set_option maxHeartbeats 4000000 in
theorem text_tell {w : World} {src : Addr} {o : Obj} (ho : IsSrc o) (R : List (Addr × Obj)) (hR : ∀ p ∈ R, p.1 ≠ src) :
    Tell w 361 [.ref src] 3 ((src, o) :: R) (fun news' r => ∃ o', news' = (src, o') :: R ∧ IsSrc o' ∧ ∃ x t, r = .str x t ∧ x.length ≤ 6) := by
  refine Tell.intro fun loose mean mg mb dp un gd cn nm ig ic mr a ccd cl outer A₀ base h₀ L m sh sg sd st so Q E B F X N T hd hu ret => ?_
  refine wpAny_call ?_
  k_dflt k_enter
  rename Fr _ _ _ _ => F1
  refine (let A1 : Around := _; let m1 : Str → Option Value := _; let t1 : Nat := _; have F1 : Fr _ _ _ m1 := F1; (?_ : wpAny _ A1 _ _ _ (Shared.mk _ _ _ t1 _)))
  rename _ < _ ∧ AllLt _ R => l0
  have hRL := allLt_mem l0.2
  ktr_unf
  refine go_on (LCg.CompSrc.range rfl (by k_asm) (by k_asm) (by assumption) (small_one (by omega) (by omega) (by omega) (by omega)) (rangeSize_nat _ _) (by rw [PySem.sizeLine_eq]; omega) ?_)
  intro g9
  refine' rest_inv (JText src R [_, _, _] 1) ?turn ⟨_, [], by assumption, rfl, .nil, fun _ h => nomatch h⟩ ?fin
  case turn =>
    intro i ys nw v I oI C oC D m₂ h tk E' hi hl hJ hv hC hx F N off ne
    obtain ⟨o9, xs, ho9, hnw, hys, hxs⟩ := hJ
    simp only [List.cons_append, List.nil_append] at hnw
    subst hnw
    have off2 := off
    simp only [LCg.Off3, and_true] at off2
    (try k_fold)
    ktr_unf
    refine go_on ?_
    rename News _ _ _ _ => N9
    refine LCg.CompEnd.intro (by assumption) N9 _ (fun p hp => hp) off trivial ?_
    refine ⟨_, _, by assumption, rfl, StrsAre.append' hys (.cons _ _ .nil), ?_⟩
    intro x hx
    rcases List.mem_append.mp hx with hx | hx
    · exact hxs x hx
    · rw [List.mem_singleton.mp hx]
      have key : ∀ z ∈ ([Str.ofString "a", Str.ofString "&", Str.ofString "<", Str.ofString ">", Str.ofString "\"", Str.ofString "'", Str.ofString "\t", Str.ofString "\n", Str.ofString "\x0d", Str.ofString " ", Str.ofString "-", Str.ofString "?", Str.ofString "é"] : List Str), z.length ≤ 1 := by decide +kernel
      exact key _ (by assumption)
  case fin =>
    intro ys nw hl hJ
    obtain ⟨o9, xs, ho9, hnw, hys, hxs⟩ := hJ
    simp only [List.cons_append, List.nil_append] at hnw
    subst hnw
    ktr_unf
    have hb := sum_le_of hxs
    have hl2 := StrsAre.len_eq hys
    refine join_led (by assumption) (by k_mem) hys ?_ ?_
    · have e : (Str.ofString "").length = 0 := by decide +kernel
      rw [e]; omega
    intro t9 k9
    rw [join_cat]
    have hc := cat_len xs
    ktr_unf
    exact ret _ _ _ _ (by assumption) (news_sub (by assumption) (by kcf_all)) ⟨_, rfl, ho9, _, _, rfl, by omega⟩
section
variable {w : World} {f : Addr} {args : List Value} {room : Nat} {news : List (Addr × Obj)} {Ret : List (Addr × Obj) → Value → Prop} {loose : List Str} {mean : ExcName → Option Value} {mg mb : Str → Option Value} {dp un : Nat} {gd : Option (List Code)} {cn : Str} {cs : Scope} {a : Addr} {ccd : Value} {cl : List (Str × Addr)} {outer : List Env} {A₀ : Around} {base h₀ : Heap} {L : Addr} {m : Str → Option Value} {s : Shared} {Q E : Value → Shared → Prop} {news₀ : List (Addr × Obj)}
theorem text_use {src : Addr} {o : Obj} {G : Obj → List (Addr × Obj)} (B : Below A₀ base outer h₀) (F : Fr h₀ L s.heap m) (X : (Mine.K w.params).In h₀) (N : News h₀ L s.heap news₀) (T : Top topProg loose mean mg mb h₀) (hk : cs.kind = .function) (hd : dp + 3 < recursionLimit) (hu : un + 40 * 3 < cLine)
    (U : UpdF src o news₀ G) (ho : IsSrc o)
    (ret : ∀ o' x t h' tk', Fr h₀ L h' m → News h₀ L h' (G o') → IsSrc o' → x.length ≤ 6 → Q (.str x t) { s with heap := h', toks := tk' }) :
    wpAny (model PySem.Challenge.rw_xw0213_01.row.prog w) (ktrTop dp un gd cn cs L a ccd cl outer) (call (.ref 361) [.ref src]) Q E s :=
  Tell.use1 (room := 3) B F X N T hk hd hu U (fun R hR _ => text_tell ho R hR) fun r o' h' tk' F' N' hP => by
    obtain ⟨hS, x, t, rfl, hx'⟩ := hP
    exact ret o' x t h' tk' F' N' hS hx'
end
end Mine
end

theorem Mine.reset_E0 (h : PySem.Heap) : PySem.W.GrownAll [] h := by
  w_top off
  walk1
section
open PySem PySem.W PyProof.Rows
set_option Elab.async false
set_option maxRecDepth 100000
namespace Mine
section
variable {prog : Program} {w : World} {A : Around} {E : Value → Shared → Prop} {h : Heap} {g : Array GenState} {d : Drawn} {t : Nat} {os : OsState}
variable {nm q : Str} {C N M C₂ : Addr} {bs bm : List Value} {hdct : Bool} {sn : List Str} {sub : List Value} {ab : Bool} {col : Option Bool} {dd : Option Addr} {k0 k1 k2 k3 k5 : Option Value}
/-- all that is asked of a fault's class: whose kind it is, by whom it is made, who sets it up -/
structure FaultCls (h : Heap) (C : Addr) (fI : Addr) : Prop where
  ex : ∃ nm q N bs bm hdct sn sub ab col dd k0 k1 k2 k3 k5 C₂ cl₂ dd₂ cd₂ sl₂ mN mM,
    h.get? C = some (excClassObj nm q C N bs (.ref C₂ :: bm) hdct sn sub ab col dd k0 k1 k2 k3 k5 "Exception.__new__") ∧ (∀ X, bm.contains (.type X) = [Value.type "Exception", .type "BaseException", .type "object"].contains (.type X)) ∧ h.Ns N mN ∧ mN "__init__" = none ∧
    h.get? C₂ = some { cls := cl₂, dict := dd₂, data := .cls cd₂, slots := sl₂ } ∧ h.Ns cd₂.ns mM ∧ mM "__init__" = some (.ref fI)
  fn : ∃ oI, h.get? fI = some oI ∧ oI.cls = .type "function"
theorem FaultCls.keeps {h h' : Heap} {C fI : Addr} (x : FaultCls h C fI) (hk : ∀ b o, h.get? b = some o → h'.get? b = some o) : FaultCls h' C fI := by
  obtain ⟨⟨nm, q, N, bs, bm, hdct, sn, sub, ab, col, dd, k0, k1, k2, k3, k5, C₂, cl₂, dd₂, cd₂, sl₂, mN, mM, a1, a2, a3, a4, a5, a6, a7⟩, oI, b1, b2⟩ := x
  exact ⟨⟨nm, q, N, bs, bm, hdct, sn, sub, ab, col, dd, k0, k1, k2, k3, k5, C₂, cl₂, dd₂, cd₂, sl₂, mN, mM, hk _ _ a1, a2, a3.keeps hk, a4, hk _ _ a5, a6.keeps hk, a7⟩, oI, hk _ _ b1, b2⟩
abbrev excM : ExcBaseFacts "Exception" "Exception.__new__" "Exception.__init__" [.type "Exception", .type "BaseException", .type "object"] := PySem.F.excBase_Exception
theorem kinds (hb : ∀ X, bm.contains (.type X) = [Value.type "Exception", .type "BaseException", .type "object"].contains (.type X)) (X : String) : (Value.ref C :: Value.ref C₂ :: bm).contains (.type X) = [Value.type "Exception", .type "BaseException", .type "object"].contains (.type X) := by
  rw [List.contains_cons, List.contains_cons, hb X]; rfl
theorem flt_lookup {mN mM : Str → Option Value} {cl₂ : Value} {dd₂ : Option Addr} {cd₂ : ClassData} {sl₂ : Array (Option Value)} {v : Value} {Q : Option Value → Shared → Prop}
    (hC : h.get? C = some (excClassObj nm q C N bs (.ref C₂ :: bm) hdct sn sub ab col dd k0 k1 k2 k3 k5 "Exception.__new__")) (hn : h.Ns N mN) (h1 : mN "__init__" = none)
    (hC₂ : h.get? C₂ = some { cls := cl₂, dict := dd₂, data := .cls cd₂, slots := sl₂ }) (hm : h.Ns cd₂.ns mM) (h2 : mM "__init__" = some v) (hq : Q (some v) ⟨h, g, d, t, os⟩) :
    wpAny (model prog w) A (typeLookup (.ref C) "__init__") Q E ⟨h, g, d, t, os⟩ := by
  rw [typeLookup_eq]
  refine wpAny_bind (wpAny_mroOf_exc hC ?_)
  rw [lookupAlong_cons]
  refine wpAny_bind (wpAny_classOwn_exc hC hn ?_)
  rw [h1]
  show wpAny _ _ (lookupAlong _ _) _ _ _
  rw [lookupAlong_cons]
  refine wpAny_bind (wpAny_classOwn_cls hC₂ hm ?_)
  rw [h2]
  exact wpAny_pure hq
theorem flt_check_new {rest : List Value} {Q : Unit → Shared → Prop} (hC : h.get? C = some (excClassObj nm q C N bs (.ref C₂ :: bm) hdct sn sub ab col dd k0 k1 k2 k3 k5 "Exception.__new__"))
    (hb : ∀ X, bm.contains (.type X) = [Value.type "Exception", .type "BaseException", .type "object"].contains (.type X)) (hq : Q () ⟨h, g, d, t, os⟩) :
    wpAny (model prog w) A (checkBuiltinCall "Exception.__new__" ⟨.ref C :: rest, []⟩) Q E ⟨h, g, d, t, os⟩ := by
  have h1 : (Value.ref C :: .ref C₂ :: bm).contains (.type "Exception") = true := (kinds hb _).trans excM.hasB
  have h2 := excM.noStar
  simp only [checkBuiltinCall, excM.newKind, excM.newSplit, excM.newRow]
  repeat (first | refine wpAny_loadPart_at hC ?_ | (refine wpAny_isSubtype_exc hC ?_; rw [h1]) | refine wpAny_staticBase_exc hC ?_ | refine wpAny_madeBy_exc hC ?_ | simp only [bne_self_eq_false, Bool.false_eq_true, if_false] | wp_step)
  exact hq
theorem flt_new {R : Result → Shared → Prop} {rest : List Value} (hC : h.get? C = some (excClassObj nm q C N bs (.ref C₂ :: bm) hdct sn sub ab col dd k0 k1 k2 k3 k5 "Exception.__new__"))
    (hb : ∀ X, bm.contains (.type X) = [Value.type "Exception", .type "BaseException", .type "object"].contains (.type X))
    (hq : R (.ok (.ret (.ref (h.objs.size + 1)))) ⟨(h.push { cls := .type "tuple", data := .seq rest.toArray }).push
      { cls := .ref C, data := .fields #[.ref h.objs.size, .none, .none, .none, .bool false, .none] }, g, d, t, os⟩) (hrest : rest.length ≤ sizeLine) :
    codeAny (model prog w) A (.builtin "Exception.__new__" ⟨.ref C :: rest, []⟩) R ⟨h, g, d, t, os⟩ := by
  have h0 := excM.ends
  have h1 : (Value.ref C :: .ref C₂ :: bm).contains (.type "Exception") = true := (kinds hb _).trans excM.hasB
  have h2 : (Value.ref C :: .ref C₂ :: bm).contains (.type "AttributeError") = false := (kinds hb _).trans excM.noAttr
  have h3 : (Value.ref C :: .ref C₂ :: bm).contains (.type "NameError") = false := (kinds hb _).trans excM.noName
  refine codeAny_builtinAt excM.entry ?_
  unfold Builtin.«BaseException.__new__»
  refine PySem.wpAt_bind ?_
  show PySem.wpAt _ _ _ (stack >>= _) _ _ _
  refine PySem.wpAt_bind (PySem.wpAt_stack fun p below => PySem.wpAt_of_wpAny ?_)
  wp_walk
  refine PySem.wpAt_of_wpAny ?_
  rw [excM.owner]
  repeat (first | with_reducible refine wpAny_madeHere_exc excM.canon hC ?_ | with_reducible refine wpAny_loadPart_at hC ?_ | (with_reducible refine wpAny_isSubtype_exc hC ?_; first | rw [h1] | rw [h2] | rw [h3]) | wp_step)
  show R _ _
  rw [Heap.size_push]
  exact hq
theorem flt_type_call {fI : Addr} {rest : List Value} {Q : Fin → Shared → Prop} (hF : FaultCls h C fI)
    (hq : ∀ h' e, Heap.MadeExcOf h h' e (.ref C) rest →
      wpAny (model prog w) A (call (.ref fI) (.ref e :: rest)) (fun r s' => r = .none ∧ Q (.done (.ret (.ref e))) s') E ⟨h', g, d, t, os⟩) (hrest : rest.length ≤ sizeLine) :
    wpAny (model prog w) A (Builtin.«type.__call__» ⟨.ref C :: rest, []⟩) Q E ⟨h, g, d, t, os⟩ := by
  have hF0 := hF
  obtain ⟨⟨nm, q, N, bs, bm, hdct, sn, sub, ab, col, dd, k0, k1, k2, k3, k5, C₂, cl₂, dd₂, cd₂, sl₂, mN, mM, hC, hb, -, -, -, -, -⟩, -⟩ := hF
  repeat (first | with_reducible refine wpAny_loadPart_at hC ?_ | with_reducible refine wpAny_madeBy_exc hC ?_ | wp_step)
  refine codeAny_call_builtin_code (Code.quiet_builtin _ excM.quiet) (flt_check_new hC hb ?_)
  refine flt_new hC hb ?_ hrest
  show wpAny _ _ _ _ _ _
  clear hC hb
  have up : ∀ b o, h.get? b = some o → ((h.push { cls := .type "tuple", data := .seq rest.toArray }).push { cls := .ref C, data := .fields #[.ref h.objs.size, .none, .none, .none, .bool false, .none] }).get? b = some o :=
    fun b o e => Heap.get?_push_of_some _ (Heap.get?_push_of_some _ e)
  have hget : ((h.push { cls := .type "tuple", data := .seq rest.toArray }).push
      { cls := .ref C, data := .fields #[.ref h.objs.size, .none, .none, .none, .bool false, .none] }).get? (h.objs.size + 1) = some
      { cls := .ref C, data := .fields #[.ref h.objs.size, .none, .none, .none, .bool false, .none] } := by heap_get
  obtain ⟨⟨nm, q, N, bs, bm, hdct, sn, sub, ab, col, dd, k0, k1, k2, k3, k5, C₂, cl₂, dd₂, cd₂, sl₂, mN, mM, hC, hb, hn, hni, hC₂, hm, hmi⟩, oI, hfI, hfc⟩ := hF0.keeps up
  have hself : (Value.ref C :: .ref C₂ :: bm).contains (.ref C) = true := by simp
  unfold isInstance
  repeat (first | with_reducible refine wpAny_loadPart_at hget ?_ | (with_reducible refine wpAny_isSubtype_exc hC ?_; rw [hself]) | wp_step)
  show wpAny _ _ (typeLookup (.ref C) _) _ _ _
  refine flt_lookup hC hn hni hC₂ hm hmi ?_
  refine wpAny_holding (wpAny_bind ?_)
  unfold bindSpecial
  refine wpAny_bind (wpAny_typeOf (T := "function") ⟨_, hfI, hfc⟩ ?_)
  rw [if_pos (by decide)]
  refine wpAny_pure (wpAny_bind (wpAny_mono (hq _ (h.objs.size + 1) ⟨up, Heap.get?_none_of_le (Nat.le_succ _), h.objs.size, hget, Heap.get?_none_of_le (Nat.le_refl _), ?_⟩) (fun r s' hr => ?_) fun _ _ x => x))
  · exact Heap.get?_push_of_some _ (Heap.get?_push_at rfl rfl)
  · obtain ⟨rfl, hQ⟩ := hr
    wp_walk
    exact hQ
/-- the class is called: the fault is made, then set up by its own __init__ -/
theorem flt_call {fI : Addr} {rest : List Value} {Q : Value → Shared → Prop} (hF : FaultCls h C fI)
    (hq : ∀ h' e, Heap.MadeExcOf h h' e (.ref C) rest →
      wpAny (model prog w) (A.under (.builtin "type.__call__" ⟨.ref C :: rest, []⟩)) (call (.ref fI) (.ref e :: rest)) (fun r s' => r = .none ∧ Q (.ref e) s') E ⟨h', g, d, t, os⟩) (hrest : rest.length ≤ sizeLine) :
    wpAny (model prog w) A (call (.ref C) rest) Q E ⟨h, g, d, t, os⟩ := by
  have hF0 := hF
  obtain ⟨⟨nm, q, N, bs, bm, hdct, sn, sub, ab, col, dd, k0, k1, k2, k3, k5, C₂, cl₂, dd₂, cd₂, sl₂, mN, mM, hC, hb, -, -, -, -, -⟩, -⟩ := hF
  have f1 := tc_lookup
  have f2 := tc_bind (.ref C)
  have hT : (⟨h, g, d, t, os⟩ : Shared).TypeIs (.ref C) "type" := ⟨_, hC, rfl⟩
  refine wpAny_call (codeAny_of_tree ?_)
  show wpAny _ _ (callAny (.ref C) _) _ _ _
  repeat (any_goals (first | assumption | with_reducible refine wpAny_loadPart_at hC ?_ | wp_step))
  refine ⟨rfl, ?_⟩
  refine codeAny_call_builtin_at (Code.quiet_builtin _ (by decide +kernel)) entry_typeCall (wpAny_check_type_call_sub hC (flt_type_call hF0 (fun h' e hm => ?_) hrest))
  exact hq h' e hm
end
end Mine
end

theorem Mine.reset_E1 (h : PySem.Heap) : PySem.W.GrownAll [] h := by
  w_top off
  walk1
section
open PySem PySem.W PyProof.Rows PySem.Builtin PySem.Builtin.ObjectAttr
set_option Elab.async false
set_option maxRecDepth 100000
namespace Mine
section
variable {prog : Program} {w : World} {A : Around} {E : Value → Shared → Prop} {h : Heap} {g : Array GenState} {d : Drawn} {t : Nat} {os : OsState}
variable {K : Frag} {C D e : Addr} {o : Obj} {cd : ClassData} {vs : Array Value} {name : Str} {v : Value}
theorem fault_lets (self : Value) : refuseLoop self "__setattr__" [.ref C, .ref D, .type "Exception", .type "BaseException", .type "object"] = pure () := by
  rw [refuseLoop_ref, refuseLoop_ref]
  exact PySem.F.store_Exception.passes self
/-- the first field that a fault's own __init__ stores -/
theorem flt_setAttr {Q : Unit → Shared → Prop} (X : K.In h) (he : h.get? e = some o) (hc : o.cls = .ref C) (hdn : o.dict = none) (hf : o.data = .fields vs)
    (hsa : findIn K (.ref C) "__setattr__" = some (some (.builtin "object.__setattr__"))) (hms : findIn K (.ref C) name = some none)
    (hcl : clsIn K C = some cd) (hhd : cd.hasDict = true) (hmr : cd.mro = [.ref C, .ref D, .type "Exception", .type "BaseException", .type "object"])
    (hq : ∀ h' tk' dx, h'.get? e = some { o with dict := some dx } → (∀ b o', b ≠ e → h.get? b = some o' → h'.get? b = some o') → Q () ⟨h', g, d, tk', os⟩) :
    wpAny (model prog w) A (setAttr (.ref e) name v) Q E ⟨h, g, d, t, os⟩ := by
  have I : InstAt h e o C none := ⟨he, hc, by unfold notCls; rw [hf], by rw [hdn]; trivial⟩
  refine set_plain (s := ⟨h, g, d, t, os⟩) X I hsa ?_
  have SF := PySem.F.store_object
  have sub : Looks (model prog w) h (isInstance (.ref e) (.type "object")) true := I.type.andThen (looks_mroIn X (by
    unfold mroIn
    rw [hcl, Option.bind_some, hmr]
    rfl))
  refine codeAny_call_builtin SF.slot.plain SF.entry (@check_slot (model prog w) _ _ _ "object.__setattr__" "object" "__setattr__" (.ref e) [.str name t, v] [] _ SF.kind SF.split sub (SF.args (.ref e) (.str name t) v) ?_)
  have hm : Looks (model prog w) h (mroOf (.ref C)) cd.mro := (looks_clsIn X hcl).andThen .now
  have L3 : Looks (model prog w) h (storeTaker? none) none := .now
  rw [osa_eq, refuse_eq]
  refine wpAny_bind (wpAny_bind (I.type.here (wpAny_bind (hm.here ?_))))
  rw [hmr, fault_lets]
  refine wpAny_pure (wpAny_bind (I.type.here (wpAny_bind ((looks_findIn X hms).here (wpAny_bind (L3.here ?_))))))
  dsimp only
  unfold storeInOwnDict
  have up : (h.push { cls := .type "dict", data := .dict #[] }).get? e = some o := Heap.get?_push_of_some _ he
  have hne : e ≠ h.objs.size := Nat.ne_of_lt (Heap.lt_size he)
  refine wpAny_bind (wpAny_pure ?_)
  refine wpAny_bind ?_
  unfold ownDictForStores instanceDict
  refine wpAny_bind (wpAny_loadPart he ?_)
  rw [hc]
  refine wpAny_bind ((looks_clsIn X hcl).here ?_)
  rw [hhd, hdn, hf]
  refine wpAny_bind (wpAny_alloc' ?_)
  refine wpAny_bind (wpAny_update' up ?_)
  have hdD : ((h.push { cls := .type "dict", data := .dict #[] }).update e fun o => { cls := o.cls, dict := some h.objs.size, data := o.data, slots := o.slots }).get? h.objs.size = some { cls := .type "dict", data := .dict #[] } :=
    (Heap.get?_update_ne _ _ _ _ hne.symm).trans (Heap.get?_push_at rfl rfl)
  have hns : ((h.push { cls := .type "dict", data := .dict #[] }).update e fun o => { cls := o.cls, dict := some h.objs.size, data := o.data, slots := o.slots }).Ns h.objs.size (fun _ => none) :=
    ⟨_, #[], _, hdD, rfl, fun x hx => absurd hx (by simp), fun _ => rfl⟩
  have heE : ((h.push { cls := .type "dict", data := .dict #[] }).update e fun o => { cls := o.cls, dict := some h.objs.size, data := o.data, slots := o.slots }).get? e = some { o with dict := some h.objs.size } :=
    Heap.get?_update_self _ up (by obtain ⟨oc, od, odt, osl⟩ := o; cases hf; rfl)
  refine wpAny_pure ?_
  show wpAny _ _ (storeInDict h.objs.size (.str name t) name v) _ _ _
  unfold storeInDict newKeyGuard
  refine wpAny_bind (wpAny_pure (wpAny_bind (wpAny_nsSet1 (Heap.Ns1.of_empty hns) fun h' hn' hs => ?_)))
  obtain ⟨oD, esD, epD, hoD, heD, hcD⟩ := hn'.count (Within.cons name v Within.nil)
  refine wpAny_bind (wpAny_lookBehind hoD (by rw [heD]; exact pastItsLine_dict (Nat.le_trans hcD (by rw [List.length_cons, List.length_nil, sizeLine_eq]; omega))) ?_)
  refine wpAny_pure ?_
  refine hq h' _ h.objs.size ((hs.2 e hne).trans heE) fun b o' hb hbo => ?_
  exact (hs.2 b (Nat.ne_of_lt (Heap.lt_size hbo))).trans ((Heap.get?_update_ne _ _ _ _ hb).trans (Heap.get?_push_of_some _ hbo))
theorem flt_check_init {fI : Addr} {rest : List Value} {Q : Unit → Shared → Prop} (hF : FaultCls h C fI) (he : h.get? e = some o) (hc : o.cls = .ref C) (hq : Q () ⟨h, g, d, t, os⟩) :
    wpAny (model prog w) A (checkBuiltinCall "Exception.__init__" ⟨.ref e :: rest, []⟩) Q E ⟨h, g, d, t, os⟩ := by
  obtain ⟨⟨nm, q, N, bs, bm, hdct, sn, sub, ab, col, dd, k0, k1, k2, k3, k5, C₂, cl₂, dd₂, cd₂, sl₂, mN, mM, hC, hb, -, -, -, -, -⟩, -⟩ := hF
  have h1 : (Value.ref C :: .ref C₂ :: bm).contains (.type "Exception") = true := (kinds hb _).trans excM.hasB
  have h2 := excM.noStar
  simp only [checkBuiltinCall, excM.initKind, excM.initSplit, excM.initRow]
  repeat (first | (with_reducible refine wpAny_loadPart_at he ?_; rw [hc]) | with_reducible refine wpAny_loadPart_at hC ?_ | (with_reducible refine wpAny_isSubtype_exc hC ?_; rw [h1]) | wp_step)
  refine wpAny_onRaise ?_
  have h3 : ∀ (a b : String) (n : Nat), Bind.check ⟨.positional, "*", "Exception", .self, [⟨"args", .varPos, false⟩]⟩ a b n (List.map (fun x => x.fst) ({ pos := Value.ref e :: rest } : Args).kw) = pure () := fun _ _ _ => check_star_args _ _ _ _ _ _
  rw [h3]
  exact wpAny_pure hq
/-- what Exception.__init__ does with a fault: its arguments are laid anew -/
theorem flt_base_init {fI t0 : Addr} {v : Value} {Q : Value → Shared → Prop} (hF : FaultCls h C fI) (he : h.get? e = some { cls := .ref C, data := .fields #[.ref t0, .none, .none, .none, .bool false, .none] })
    (hq : ∀ h' t1, h'.get? e = some { cls := .ref C, data := .fields #[.ref t1, .none, .none, .none, .bool false, .none] } → (∀ b o', b ≠ e → h.get? b = some o' → h'.get? b = some o') → Q .none ⟨h', g, d, t, os⟩) :
    wpAny (model prog w) A (call (.builtin "Exception.__init__") [.ref e, v]) Q E ⟨h, g, d, t, os⟩ := by
  refine wpAny_call (codeAny_call_builtin excM.init.plain excM.initEntry (flt_check_init hF he rfl ?_))
  wp_walk
  have hne : h.objs.size ≠ e := Nat.ne_of_gt (Heap.lt_size he)
  refine hq _ h.objs.size ?_ fun b o' hb hbo => ?_
  · rw [Heap.get?_update_self _ (Heap.get?_push_of_some _ he) rfl]
    rfl
  · rw [Heap.get?_update_other _ _ (Ne.symm hb)]
    exact Heap.get?_push_of_some _ hbo
end
end Mine
end

theorem Mine.reset_E3 (h : PySem.Heap) : PySem.W.GrownAll [] h := by
  w_top off
  walk1
section
open PySem PySem.W PyProof.Rows
set_option Elab.async false
set_option maxRecDepth 100000
namespace Mine
section
variable {prog : Program} {w : World} {A : Around} {E : Value → Shared → Prop} {s : Shared} {env : Env}
/-- v is a fault that stands in the heap, and E holds of it -/
def FltAt (E : Value → Shared → Prop) (v : Value) (s₁ : Shared) : Prop := ∃ e C fI dd t, v = .ref e ∧ FaultCls s₁.heap C fI ∧ s₁.heap.get? e = some { cls := .ref C, dict := dd, data := .fields #[.ref t, .none, .none, .none, .bool false, .none] } ∧ E (.ref e) s₁
theorem Raise_flt {ex : PySem.Expr} {pos : Pos} {Q : Flow → Shared → Prop} (hh : A.handled = none)
    (h : wpAny (model prog w) A (eval ex env) (FltAt E) E s) :
    wpAny (model prog w) A (exec (.Raise (some ex) none pos) env) Q E s := by
  rw [arm_exec_Raise]
  refine wpAny_bind (wpAny_standAt ?_)
  unfold raiseStmt
  simp only [evalOpt, Option.map]
  refine wpAny_bind (wpAny_bind (wpAny_mono h (fun v s₁ h₁ => ?_) fun _ _ x => x))
  obtain ⟨e, C, fI, dd9, t9, rfl, hF, he, hE⟩ := h₁
  obtain ⟨⟨nm, q, N, bs, bm, hdct, sn, sub, ab, col, dd, k0, k1, k2, k3, k5, C₂, cl₂, dd₂, cd₂, sl₂, mN, mM, hC, hb, -, -, -, -, -⟩, -⟩ := hF
  have h1 : (Value.ref C :: .ref C₂ :: bm).contains (.type "BaseException") = true := (kinds hb _).trans excM.hasBase
  obtain ⟨hp, g, d, tk, os⟩ := s₁
  refine wpAny_bind (wpAny_standAt (wpAny_pure ?_))
  repeat (first | with_reducible refine wpAny_loadPart_at he ?_ | with_reducible refine wpAny_loadPart_at hC ?_ | (with_reducible refine wpAny_isSubtype_exc hC ?_; rw [h1]) | wp_step)
  exact wpAny_raiseNew_none hh hE
end
section
variable {M : Model} {A : Around} {E : Value → Shared → Prop} {s' : Shared} {base g : Heap} {outer : List Env} {L a e : Addr} {m : Str → Option Value} {name : Str} {scope : Scope} {cd : Value} {Q : Unit → Shared → Prop} {news : List (Addr × Obj)}
/-- a fault that stands in the ledger leaves the frame that raised it -/
theorem leave_flt {cls a0 : Value} {vs : Array Value} {oe : Obj} (K : Below A base outer g) (F : Fr g L s'.heap m) (N : News g L s'.heap ((e, oe) :: news)) (hne : ∀ q ∈ news, q.1 ≠ e) (hc : oe.cls = cls) (hd : oe.data = .fields vs) (h1 : vs[1]? = some .none) (h0 : vs[0]? = some a0)
    (hQ : ∀ h', RaisedN base outer e cls news h' → g.UpToSlots h' → Q () { s' with heap := h' }) (hk : scope.kind = .function := by rfl) :
    wpAny M (A.deeper (envOf name scope L a cd)) (leaving (envOf name scope L a cd) (.ref e)) Q E s' := by
  have K' := K.push (name := name) (a := a) (cd := cd) F hk
  have ne := N (e, oe) List.mem_cons_self
  have hin : ∀ env ∈ (envOf name scope L a cd :: outer), ∀ b, env.frame = some b → b ∈ e :: (envOf name scope L a cd :: outer).filterMap (·.frame) := fun env he b hb => List.mem_cons_of_mem _ (List.mem_filterMap.mpr ⟨env, he, hb⟩)
  have hbe : base.get? e = none := fresh_of_stays K.stays ne.2.2
  have st : base.StaysIn (hideAll s'.heap (e :: (envOf name scope L a cd :: outer).filterMap (·.frame))) := fun b o q => hideAll_get _ (K'.stays b o q) fun hm => by
    rcases List.mem_cons.mp hm with rfl | hm
    · rw [hbe] at q; cases q
    · rw [(K'.frames.mem hm).1] at q; cases q
  have hl : ∀ q ∈ news, (hideAll s'.heap (e :: (envOf name scope L a cd :: outer).filterMap (·.frame))).get? q.1 = some q.2 ∧ base.get? q.1 = none := fun q hq => by
    have nq := N q (List.mem_cons_of_mem _ hq)
    refine ⟨hideAll_get _ nq.1 fun hm => ?_, fresh_of_stays K.stays nq.2.2⟩
    rcases List.mem_cons.mp hm with z | hm
    · exact hne q hq z
    · obtain ⟨env, he, hf⟩ := List.mem_filterMap.mp hm
      rcases List.mem_cons.mp he with rfl | he
      · exact nq.2.1 (Option.some.inj hf).symm
      · obtain ⟨o, ho, _⟩ := (K.frames.mem (List.mem_filterMap.mpr ⟨env, he, hf⟩)).2
        rw [nq.2.2] at ho; cases ho
  have hen : (hideAll s'.heap (e :: (envOf name scope L a cd :: outer).filterMap (·.frame))).get? e = none := hideAll_none _ List.mem_cons_self
  refine wpAny_leaving_firstW (a0 := a0) K'.stack (funFrames_hide K'.frames hin) rfl ne.1 (fun b o hb => of_hideAll _ hb) hen hd h1 h0 fun h' hL => ?_
  obtain ⟨k1, ⟨_, _, k2⟩, k3, k4⟩ := hL
  exact hQ h' ⟨_, a0, st, hl, k1, hen, k2, hc ▸ k3⟩ ((Heap.UpToSlots.of_keeps F.keep).trans k4)
end
end Mine
end

theorem Mine.reset_F0 (h : PySem.Heap) : PySem.W.GrownAll [] h := by
  w_top off
  walk1
section
open PySem PySem.W PyProof.Rows
set_option Elab.async false
set_option maxRecDepth 100000
namespace Mine
abbrev fsOf (outer : List Env) : List Addr := outer.filterMap (·.frame)
/-- the frames below stand, but for their slots -/
def FrameTurn (fs : List Addr) (g g' : Heap) : Prop := ∀ b ∈ fs, ∀ o, g.get? b = some o → ∃ sl, g'.get? b = some { o with slots := sl }
theorem FrameTurn.refl {fs : List Addr} {g : Heap} : FrameTurn fs g g := fun _ _ o e => ⟨o.slots, e⟩
theorem FrameTurn.trans {fs : List Addr} {g g₁ g₂ : Heap} (x : FrameTurn fs g g₁) (y : FrameTurn fs g₁ g₂) : FrameTurn fs g g₂ := fun b hb o e => by
  obtain ⟨s1, h1⟩ := x b hb o e
  obtain ⟨s2, h2⟩ := y b hb _ h1
  exact ⟨s2, h2⟩
theorem FrameTurn.sub {fs fs' : List Addr} {g g' : Heap} (x : FrameTurn fs g g') (h : ∀ b ∈ fs', b ∈ fs) : FrameTurn fs' g g' := fun b hb => x b (h b hb)
theorem FrameTurn.frames {base g g' : Heap} {outer : List Env} (hf : g.FunFrames base outer) (x : FrameTurn (fsOf outer) g g') : g'.FunFrames base outer := by
  induction outer with
  | nil => trivial
  | cons env r ih =>
    obtain ⟨h1, ⟨L, o, hL, hb, ho, hd⟩, h2⟩ := hf
    have hm : L ∈ fsOf (env :: r) := List.mem_filterMap.mpr ⟨env, List.mem_cons_self, hL⟩
    obtain ⟨sl, hs⟩ := x L hm o ho
    exact ⟨h1, ⟨L, _, hL, hb, hs, hd⟩, ih h2 (x.sub fun b hb => by
      obtain ⟨e, he, hf⟩ := List.mem_filterMap.mp hb
      exact List.mem_filterMap.mpr ⟨e, List.mem_cons_of_mem _ he, hf⟩)⟩
theorem cut_get {h : Heap} {L b : Addr} : ({ h with objs := h.objs.extract 0 L } : Heap).get? b = if @LT.lt Nat _ b L then h.get? b else none := by
  unfold Heap.get?
  by_cases hb : @LT.lt Nat _ b L
  · rw [if_pos hb]
    have e : (h.objs.extract 0 L)[b]? = h.objs[b]? := by
      by_cases h2 : @LT.lt Nat _ b h.objs.size
      · rw [Array.getElem?_extract]
        simp
        omega
      · rw [Array.getElem?_eq_none (by rw [Array.size_extract]; omega), Array.getElem?_eq_none (by omega)]
    show (match (h.objs.extract 0 L)[b]? with | _ => _) = _
    rw [e]
  · rw [if_neg hb]
    show (match (h.objs.extract 0 L)[b]? with | _ => _) = _
    rw [Array.getElem?_eq_none (by rw [Array.size_extract]; omega)]
open Classical in
/-- a ground is laid anew: what base holds, and the frames -/
theorem reground {h base : Heap} {fs : List Addr} {L : Addr} (hk : base.StaysIn h) (hs : base.objs.size ≤ L) (hfs : ∀ b ∈ fs, @LT.lt Nat _ b L) :
    ∃ g : Heap, g.objs.size ≤ L ∧ (∀ b o, g.get? b = some o → h.get? b = some o) ∧ base.StaysIn g ∧ (∀ b ∈ fs, g.get? b = h.get? b) ∧ (∀ b, base.get? b = none → b ∉ fs → g.get? b = none) := by
  refine ⟨hideAll { h with objs := h.objs.extract 0 L } ((List.range L).filter fun b => decide (base.get? b = none ∧ b ∉ fs)), ?_, ?_, ?_, ?_, ?_⟩
  · rw [hideAll_size]
    show (h.objs.extract 0 L).size ≤ L
    rw [Array.size_extract]
    omega
  · intro b o e
    have e1 := of_hideAll _ e
    rw [cut_get] at e1
    split at e1
    · exact e1
    · cases e1
  · intro b o e
    refine hideAll_get _ ?_ fun hm => ?_
    · rw [cut_get, if_pos (Nat.lt_of_lt_of_le (Heap.lt_size e) hs)]
      exact hk b o e
    · have := (List.mem_filter.mp hm).2
      rw [decide_eq_true_eq, e] at this
      cases this.1
  · intro b hb
    have hm : b ∉ (List.range L).filter fun b => decide (base.get? b = none ∧ b ∉ fs) := fun hm => by
      have := (List.mem_filter.mp hm).2
      rw [decide_eq_true_eq] at this
      exact this.2 hb
    have hc : ({ h with objs := h.objs.extract 0 L } : Heap).get? b = h.get? b := by rw [cut_get, if_pos (hfs b hb)]
    cases q : h.get? b with
    | some o => exact hideAll_get _ (hc.trans q) hm
    | none =>
      cases q2 : (hideAll { h with objs := h.objs.extract 0 L } ((List.range L).filter fun b => decide (base.get? b = none ∧ b ∉ fs))).get? b with
      | none => rfl
      | some o => have := of_hideAll _ q2; rw [hc, q] at this; cases this
  · intro b hb hf
    by_cases hL : @LT.lt Nat _ b L
    · exact hideAll_none _ (List.mem_filter.mpr ⟨List.mem_range.mpr hL, by rw [decide_eq_true_eq]; exact ⟨hb, hf⟩⟩)
    · cases q2 : (hideAll { h with objs := h.objs.extract 0 L } ((List.range L).filter fun b => decide (base.get? b = none ∧ b ∉ fs))).get? b with
      | none => rfl
      | some o => have := of_hideAll _ q2; rw [cut_get, if_neg hL] at this; cases this
/-- facts of the base that stand in every ground -/
structure Under (w : World) (loose : List Str) (mean : ExcName → Option Value) (mg mb : Str → Option Value) (base : Heap) : Prop where
  X : (Mine.K w.params).In base
  T : Top topProg loose mean mg mb base
  c1 : CodeHd base 379 375
  c2 : CodeHd base 384 382
theorem Under.keeps {w : World} {loose : List Str} {mean : ExcName → Option Value} {mg mb : Str → Option Value} {base g : Heap} (u : Under w loose mean mg mb base) (hk : base.StaysIn g) : Under w loose mean mg mb g := ⟨u.X.keeps hk, u.T.keeps hk, u.c1.keeps hk, u.c2.keeps hk⟩
/-- from the base alone: a ground on which calls can be walked -/
theorem ground_of {A₀ : Around} {base h : Heap} {outer : List Env} {L : Addr} {m : Str → Option Value} {news : List (Addr × Obj)} (hst : A₀.frames = some outer) (F : Fr base L h m) (N : News base L h news) (hf : h.FunFrames base outer)
    (hlt : ∀ b ∈ fsOf outer, @LT.lt Nat _ b L) (hoff : ∀ p ∈ news, p.1 ∉ fsOf outer) :
    ∃ g, Below A₀ base outer g ∧ Fr g L h m ∧ News g L h news ∧ (∀ b ∈ fsOf outer, g.get? b = h.get? b) := by
  obtain ⟨g, h1, h2, h3, h4, h5⟩ := reground F.keep F.above hlt
  refine ⟨g, ⟨hst, h3, ?_⟩, ⟨F.ns, h2, h1⟩, fun p hp => ⟨(N p hp).1, (N p hp).2.1, h5 _ (N p hp).2.2 (hoff p hp)⟩, h4⟩
  exact FrameTurn.frames hf fun b hb o e => ⟨o.slots, (h4 b hb).trans e⟩
/-- what a call tells that may catch a fault within: the ground below may be another one behind it -/
def TellB (w : World) (f : Addr) (args : List Value) (room : Nat) (news : List (Addr × Obj)) (Ret : List (Addr × Obj) → Value → Prop) : Prop :=
  ∀ (loose : List Str) (mean : ExcName → Option Value) (mg mb : Str → Option Value) (dp un : Nat) (gd : Option (List Code)) (cn : Str) (cs : Scope) (a : Addr) (ccd : Value) (cl : List (Str × Addr)) (outer : List Env) (A₀ : Around) (base h₀ : Heap) (L : Addr) (m : Str → Option Value) (s : Shared) (Q E : Value → Shared → Prop),
    Below A₀ base outer h₀ → Fr h₀ L s.heap m → Under w loose mean mg mb base → News h₀ L s.heap news → base.objs.size ≤ L → (∀ b ∈ fsOf outer, @LT.lt Nat _ b L) → cs.kind = .function → dp + room < recursionLimit → un + 40 * room < cLine →
    (∀ r news' h' tk' h₁, Below A₀ base outer h₁ → Fr h₁ L h' m → News h₁ L h' news' → Under w loose mean mg mb h₁ → FrameTurn (fsOf outer) h₀ h₁ → Ret news' r → Q r { s with heap := h', toks := tk' }) →
    wpAny (model PySem.Challenge.rw_xw0213_01.row.prog w) (ktrTop dp un gd cn cs L a ccd cl outer) (call (.ref f) args) Q E s
end Mine
end

theorem Mine.reset_F1 (h : PySem.Heap) : PySem.W.GrownAll [] h := by
  w_top off
  walk1
section
open PySem PySem.W PyProof.Rows PySem.Calls
set_option Elab.async false
set_option maxRecDepth 100000
namespace Mine
/-- a frame is left; the ground below it may have turned -/
def LeaveB (A₀ : Around) (base : Heap) (outer : List Env) (L : Addr) (m : Str → Option Value) (h₀ g : Heap) (R : Result → Shared → Prop) (v : Value) (s' : Shared) : Prop :=
  ∃ g' L' m' news', Fr g' L' s'.heap m' ∧ News g' L' s'.heap news' ∧ base.StaysIn g' ∧ FrameTurn (L :: fsOf outer) g g' ∧
    ∀ h₁, Below A₀ base outer h₁ → Fr h₁ L s'.heap m → News h₁ L s'.heap news' → FrameTurn (fsOf outer) h₀ h₁ → R (.ok (.ret v)) s'
theorem leaveB_ {A₀ : Around} {base h₀ g g' : Heap} {outer : List Env} {L L' : Addr} {m m' : Str → Option Value} {news' : List (Addr × Obj)} {R : Result → Shared → Prop} {v : Value} {s' : Shared} (F' : Fr g' L' s'.heap m') (N' : News g' L' s'.heap news') (st : base.StaysIn g') (T : FrameTurn (L :: fsOf outer) g g')
    (k : ∀ h₁, Below A₀ base outer h₁ → Fr h₁ L s'.heap m → News h₁ L s'.heap news' → FrameTurn (fsOf outer) h₀ h₁ → R (.ok (.ret v)) s') : LeaveB A₀ base outer L m h₀ g R v s' := ⟨g', L', m', news', F', N', st, T, k⟩
theorem fs_in {outer : List Env} {base h : Heap} (hf : h.FunFrames base outer) {b : Addr} (hb : b ∈ fsOf outer) : base.get? b = none ∧ ∃ o, h.get? b = some o := by
  obtain ⟨h1, o, h2, _⟩ := hf.mem hb
  exact ⟨h1, o, h2⟩
theorem LeaveB.out {A₀ : Around} {base h₀ g : Heap} {outer : List Env} {L : Addr} {m : Str → Option Value} {R : Result → Shared → Prop} {v : Value} {s' : Shared} (B : Below A₀ base outer h₀) (FG : Fr h₀ L g m) (hb : base.objs.size ≤ L) (hlt : ∀ b ∈ fsOf outer, @LT.lt Nat _ b L)
    (x : LeaveB A₀ base outer L m h₀ g R v s') : R (.ok (.ret v)) s' := by
  obtain ⟨g', L', m', news', F', N', st, FT, k⟩ := x
  obtain ⟨oL, es, ep, hL, hLd, hLk, hLf⟩ := FG.ns
  obtain ⟨slL, hLs⟩ := FT L List.mem_cons_self oL hL
  obtain ⟨g₁, a1, a2, a3, a4, a5⟩ := reground (h := s'.heap) (base := base) (fs := fsOf outer) (L := L) (fun b o e => F'.keep b o (st b o e)) hb hlt
  have turn : FrameTurn (fsOf outer) h₀ g₁ := fun b hm o e => by
    obtain ⟨sl, hs⟩ := FT b (List.mem_cons_of_mem _ hm) o (FG.keep b o e)
    exact ⟨sl, (a4 b hm).trans (F'.keep _ _ hs)⟩
  refine k g₁ ⟨B.stack, a3, FrameTurn.frames B.frames turn⟩ ⟨⟨_, es, ep, F'.keep _ _ hLs, hLd, hLk, hLf⟩, a2, a1⟩ (fun p hp => ⟨(N' p hp).1, fun z => ?_, a5 _ ?_ fun hm => ?_⟩) turn
  · have := (N' p hp).2.2
    rw [z, hLs] at this; cases this
  · cases q : base.get? p.1 with
    | none => rfl
    | some o => have := (N' p hp).2.2; rw [st _ _ q] at this; cases this
  · obtain ⟨_, o, ho⟩ := fs_in B.frames hm
    obtain ⟨sl, hs⟩ := FT _ (List.mem_cons_of_mem _ hm) o (FG.keep _ _ ho)
    have := (N' p hp).2.2
    rw [hs] at this; cases this
section
variable {prog : Program} {w : World} {A₀ A : Around} {s : Shared} {base h₀ : Heap} {outer : List Env} {L a : Addr} {m : Str → Option Value} {cn : Str} {cs : Scope} {ccd : Value} {cl : List (Str × Addr)} {news : List (Addr × Obj)} {loose : List Str} {mean : ExcName → Option Value} {mg mb : Str → Option Value}
  {R : Result → Shared → Prop} {name qual : Str} {params : Arguments} {body : List Stmt} {scope : Scope} {dV kV doc pm cdv ct oc : Value} {an od : Option Addr} {osl : Array (Option Value)} {f : Addr} {args : Args} {binds : List (Str × Value)}
theorem below_fs {base h₀ : Heap} {L : Addr} {h : Heap} (F : Fr h₀ L h m) (B : Below A₀ base outer h₀) : ∀ b ∈ fsOf (envX cn cs L a ccd cl :: outer), @LT.lt Nat _ b h.objs.size := by
  intro b hb
  obtain ⟨env, he, hf⟩ := List.mem_filterMap.mp hb
  rcases List.mem_cons.mp he with rfl | he
  · have e : L = b := Option.some.inj hf
    rw [← e]; exact F.ns.lt
  · obtain ⟨_, o, ho⟩ := fs_in B.frames (List.mem_filterMap.mpr ⟨env, he, hf⟩)
    exact Heap.lt_size (F.keep _ _ ho)
theorem base_size {h : Heap} (F : Fr h₀ L h m) (hb : base.objs.size ≤ L) : base.objs.size ≤ h.objs.size := Nat.le_trans hb (Nat.le_of_lt F.ns.lt)
/-- a def without cells is entered -/
theorem enterB (B : Below A₀ base outer h₀) (F : Fr h₀ L s.heap m) (U : Under w loose mean mg mb base) (N : News h₀ L s.heap news) (hb : base.objs.size ≤ L) (hlt : ∀ b ∈ fsOf outer, @LT.lt Nat _ b L) (hA : A.frames = some (envX cn cs L a ccd cl :: outer)) (hck : cs.kind = .function)
    (ho : (Mine.K w.params).lookup f = some ⟨oc, od, .func (fnOf name qual params body scope dV kV doc pm an cdv ct), osl⟩) (hcd : codeIn (Mine.K w.params) cdv qual = true) (hroom : A.depth < recursionLimit)
    (hbind : BindsTo s (fnOf name qual params body scope dV kV doc pm an cdv ct) args binds) (hloc : ∀ y ∈ binds, scope.names.lookup y.1 = some .local)
    (h : ∀ g L' h₁, Fr h₀ L g m → Fr g L' h₁ (fun y => binds.reverse.lookup y) → News g L' h₁ news → Below A base (envX cn cs L a ccd cl :: outer) g → (Mine.K w.params).In g → Top topProg loose mean mg mb g → base.objs.size ≤ L' → (∀ b ∈ fsOf (envX cn cs L a ccd cl :: outer), @LT.lt Nat _ b L') → (∀ p ∈ news, p.1 < L') →
      wpAny (model prog w) (A.deeper (envOf qual scope L' f cdv)) (execs body (envOf qual scope L' f cdv))
        (fun fl s' => LeaveB A₀ base outer L m h₀ g R (match fl with | .ret v => v | _ => .none) s')
        (fun e s' => wpAny (model prog w) (A.deeper (envOf qual scope L' f cdv)) (leaving (envOf qual scope L' f cdv) e) (fun _ s'' => R (.error e) s'') (fun e' s'' => R (.error e') s'') s')
        { s with heap := h₁, toks := s.toks + binds.length })
    (hco : scope.isCoroutine = false) (hgen : scope.isGenerator = false) (hk : scope.kind = .function)
    (hcell : ∀ x ∈ scope.names, x.2 ≠ .cell) : codeAny (model prog w) A (.call (.ref f) args) R s := by
  have X := (U.keeps B.stays).X.keeps F.keep
  refine codeAny_call_def (fd := fnOf name qual params body scope dV kV doc pm an cdv ct) (body := body) (binds := binds) hroom (X _ _ ho) rfl ((U.keeps B.stays).T.nolimit.keeps F.keep) (codeRec_of X hcd) rfl hbind hcell hloc (fun h₁ hns hk₁ => ?_) hco hgen hk
  obtain ⟨FG, BG, st, -⟩ := groundX (R := R) B F N hA rfl hck
  exact wpAny_mono (h _ s.heap.objs.size h₁ FG ⟨hns, fun b o e => hk₁ b o (of_hideAll _ e), Nat.le_of_eq (hideAll_size _ _)⟩
    (fun p hp => ⟨hk₁ _ _ (N p hp).1, Nat.ne_of_lt (Heap.lt_size (N p hp).1), hideAll_none _ (List.mem_map_of_mem hp)⟩) BG (U.X.keeps BG.stays) (U.T.keeps BG.stays) (base_size F hb) (below_fs F B) (fun p hp => Heap.lt_size (N p hp).1)) (fun fl s' hl => LeaveB.out B FG hb hlt hl) fun _ _ y => y
/-- a def with cells of its own is entered -/
theorem enterBC (B : Below A₀ base outer h₀) (F : Fr h₀ L s.heap m) (U : Under w loose mean mg mb base) (N : News h₀ L s.heap news) (hb : base.objs.size ≤ L) (hlt : ∀ b ∈ fsOf outer, @LT.lt Nat _ b L) (hA : A.frames = some (envX cn cs L a ccd cl :: outer)) (hck : cs.kind = .function)
    (ho : (Mine.K w.params).lookup f = some ⟨oc, od, .func (fnOf name qual params body scope dV kV doc pm an cdv ct), osl⟩) (hcd : codeIn (Mine.K w.params) cdv qual = true) (hroom : A.depth < recursionLimit)
    (hbind : BindsTo s (fnOf name qual params body scope dV kV doc pm an cdv ct) args binds) (hkind : (binds.all fun y => scope.names.lookup y.1 == some .local || scope.names.lookup y.1 == some .cell) = true)
    (hnd : ((cellsFrom 0 scope.names []).map (·.1)).Nodup)
    (h : ∀ g L' h₁ tk cells, Fr h₀ L g m → Fr g L' h₁ (bindL (envOfC qual scope L' f cdv).kindOf binds fun _ => none) → News g L' h₁ (cells ++ news) →
      CellsAre (bindC (envOfC qual scope L' f cdv).kindOf binds fun _ => none) (cellsFrom (L' + 1) scope.names []) cells → Below A base (envX cn cs L a ccd cl :: outer) g → (Mine.K w.params).In g → Top topProg loose mean mg mb g → base.objs.size ≤ L' → (∀ b ∈ fsOf (envX cn cs L a ccd cl :: outer), @LT.lt Nat _ b L') → (∀ p ∈ news, p.1 < L') →
      wpAny (model prog w) (A.deeper (envOfC qual scope L' f cdv)) (execs body (envOfC qual scope L' f cdv))
        (fun fl s' => LeaveB A₀ base outer L m h₀ g R (match fl with | .ret v => v | _ => .none) s')
        (fun e s' => wpAny (model prog w) (A.deeper (envOfC qual scope L' f cdv)) (leaving (envOfC qual scope L' f cdv) e) (fun _ s'' => R (.error e) s'') (fun e' s'' => R (.error e') s'') s')
        { s with heap := h₁, toks := tk })
    (hco : scope.isCoroutine = false) (hgen : scope.isGenerator = false) (hk : scope.kind = .function) : codeAny (model prog w) A (.call (.ref f) args) R s := by
  have X := (U.keeps B.stays).X.keeps F.keep
  have hlim := (U.keeps B.stays).T.nolimit
  obtain ⟨FG, BG, st, -⟩ := groundX (R := R) B F N hA rfl hck
  refine codeAny_call_function hroom (X _ _ ho) rfl hco hgen rfl (codeRec_of X hcd) (hbind _ _ _ _ ?_)
  refine wpAny_newFunctionEnv_cells hk (kindsX hkind _) fun env' he s' x => ?_
  subst he
  refine ⟨(hlim.keeps F.keep).keeps x.toInCall.keep, codeAny_func ?_⟩
  obtain ⟨h₁, tk, rfl, _⟩ := x.done
  have hk₁ := x.toInCall.keep
  obtain ⟨cells, NC, Y⟩ := Cl.news (h₀ := s.heap) (Nat.le_refl _) fun n c hm => ⟨x.cell n c (lookup_of_mem_nodup (cellsFrom_names scope.names 0 (s.heap.objs.size + 1) [] [] rfl ▸ hnd) hm), x.above n c hm⟩
  refine wpAny_mono (h _ s.heap.objs.size h₁ tk cells FG ⟨x.toInCall.ns, fun b o e => hk₁ b o (of_hideAll _ e), Nat.le_of_eq (hideAll_size _ _)⟩ (fun p hp => ?_) Y BG (U.X.keeps BG.stays) (U.T.keeps BG.stays) (base_size F hb) (below_fs F B) (fun p hp => Heap.lt_size (N p hp).1)) (fun fl s' hl => LeaveB.out B FG hb hlt hl) fun _ _ y => y
  rcases List.mem_append.mp hp with hp | hp
  · refine ⟨(NC p hp).1, (NC p hp).2.1, ?_⟩
    cases q : (hideAll s.heap (news.map (·.1))).get? p.1 with
    | none => rfl
    | some o => have := of_hideAll _ q; rw [(NC p hp).2.2] at this; cases this
  · exact ⟨hk₁ _ _ (N p hp).1, Nat.ne_of_lt (Heap.lt_size (N p hp).1), hideAll_none _ (List.mem_map_of_mem hp)⟩
end
end Mine
end

theorem Mine.reset_F6 (h : PySem.Heap) : PySem.W.GrownAll [] h := by
  w_top off
  walk1
section
open PySem PySem.W PyProof.Rows PySem.Calls
set_option Elab.async false
set_option maxRecDepth 100000
namespace Mine
/-- the frames' objects as ledger entries, turned from g₀ by their slots alone -/
def FO (g₀ : Heap) (fs : List Addr) (fo : List (Addr × Obj)) : Prop := fo.map (·.1) = fs ∧ ∀ p ∈ fo, ∃ o₀ sl, g₀.get? p.1 = some o₀ ∧ p.2 = { o₀ with slots := sl }
theorem FO.mem {g₀ : Heap} {fs : List Addr} {fo : List (Addr × Obj)} (x : FO g₀ fs fo) {b : Addr} (hb : b ∈ fs) : ∃ o, (b, o) ∈ fo := by
  rw [← x.1] at hb
  obtain ⟨p, hp, rfl⟩ := List.mem_map.mp hb
  exact ⟨p.2, hp⟩
theorem FO.addr {g₀ : Heap} {fs : List Addr} {fo : List (Addr × Obj)} (x : FO g₀ fs fo) {p : Addr × Obj} (hp : p ∈ fo) : p.1 ∈ fs := by
  rw [← x.1]; exact List.mem_map_of_mem hp
theorem FO.turn {g₀ h : Heap} {fs : List Addr} {fo : List (Addr × Obj)} (x : FO g₀ fs fo) (hh : ∀ p ∈ fo, h.get? p.1 = some p.2) : FrameTurn fs g₀ h := by
  intro b hb o e
  obtain ⟨o', hm⟩ := x.mem hb
  obtain ⟨o₀, sl, h1, h2⟩ := x.2 _ hm
  dsimp only at h1 h2
  rw [e] at h1
  cases h1
  exact ⟨sl, (hh _ hm).trans (congrArg some h2)⟩
theorem FO.make {g₀ h : Heap} : ∀ {fs : List Addr}, (∀ b ∈ fs, ∃ o, g₀.get? b = some o) → FrameTurn fs g₀ h → ∃ fo, FO g₀ fs fo ∧ ∀ p ∈ fo, h.get? p.1 = some p.2
  | [], _, _ => ⟨[], ⟨rfl, fun _ h => nomatch h⟩, fun _ h => nomatch h⟩
  | b :: r, hg, ht => by
    obtain ⟨fo, h1, h2⟩ := FO.make (fs := r) (fun c hc => hg c (List.mem_cons_of_mem _ hc)) (ht.sub fun c hc => List.mem_cons_of_mem _ hc)
    obtain ⟨o, ho⟩ := hg b List.mem_cons_self
    obtain ⟨sl, hs⟩ := ht b List.mem_cons_self o ho
    refine ⟨(b, { o with slots := sl }) :: fo, ⟨by rw [List.map_cons, h1.1], fun p hp => ?_⟩, fun p hp => ?_⟩
    · rcases List.mem_cons.mp hp with rfl | hp
      · exact ⟨o, sl, ho, rfl⟩
      · exact h1.2 p hp
    · rcases List.mem_cons.mp hp with rfl | hp
      · exact hs
      · exact h2 p hp
section
variable {A₀ : Around} {base g₀ : Heap} {outer : List Env} {L : Addr} {m : Str → Option Value}
/-- from a ground down to the base: the frames become entries -/
theorem down {g h : Heap} {nw : List (Addr × Obj)} (B₀ : Below A₀ base outer g₀) (B : Below A₀ base outer g) (F : Fr g L h m) (N : News g L h nw) (FT : FrameTurn (fsOf outer) g₀ g) (hb : base.objs.size ≤ L) (hlt : ∀ b ∈ fsOf outer, @LT.lt Nat _ b L) :
    ∃ fo, FO g₀ (fsOf outer) fo ∧ Fr base L h m ∧ News base L h (fo ++ nw) ∧ ∀ p ∈ nw, p.1 ∉ fsOf outer := by
  obtain ⟨fo, h1, h2⟩ := FO.make (h := h) (fun b hm => (fs_in B₀.frames hm).2) (fun b hm o e => by
    obtain ⟨sl, hs⟩ := FT b hm o e
    exact ⟨sl, F.keep _ _ hs⟩)
  have fresh : ∀ {b : Addr}, g.get? b = none → base.get? b = none := fun e => fresh_of_stays B.stays e
  refine ⟨fo, h1, ⟨F.ns, fun b o e => F.keep b o (B.stays b o e), hb⟩, fun p hp => ?_, fun p hp hm => ?_⟩
  · rcases List.mem_append.mp hp with hp | hp
    · refine ⟨h2 p hp, fun z => ?_, (fs_in B₀.frames (h1.addr hp)).1⟩
      have := hlt _ (h1.addr hp)
      rw [z] at this
      exact absurd this (Nat.lt_irrefl _)
    · exact ⟨(N p hp).1, (N p hp).2.1, fresh (N p hp).2.2⟩
  · obtain ⟨_, o, ho⟩ := fs_in B.frames hm
    rw [(N p hp).2.2] at ho; cases ho
/-- from the base up to a ground -/
theorem up {h : Heap} {all fo nw : List (Addr × Obj)} (B₀ : Below A₀ base outer g₀) (hFO : FO g₀ (fsOf outer) fo) (F : Fr base L h m) (N : News base L h all) (hfo : ∀ p ∈ fo, p ∈ all) (hnw : ∀ p ∈ nw, p ∈ all) (hoff : ∀ p ∈ nw, p.1 ∉ fsOf outer) (hlt : ∀ b ∈ fsOf outer, @LT.lt Nat _ b L) :
    ∃ g, Below A₀ base outer g ∧ Fr g L h m ∧ News g L h nw ∧ FrameTurn (fsOf outer) g₀ g := by
  have t₀ : FrameTurn (fsOf outer) g₀ h := hFO.turn fun p hp => (N p (hfo p hp)).1
  obtain ⟨g, h1, h2, h3, h4⟩ := ground_of B₀.stack F (fun p hp => N p (hnw p hp)) (FrameTurn.frames B₀.frames t₀) hlt hoff
  exact ⟨g, h1, h2, h3, fun b hb o e => by
    obtain ⟨sl, hs⟩ := t₀ b hb o e
    exact ⟨sl, (h4 b hb).trans hs⟩⟩
end
section
variable {prog : Program} {w : World} {A : Around} {s : Shared} {h₀ : Heap} {L : Addr} {m : Str → Option Value} {env : Env} {ct elt : PySem.Expr} {x : Str} {scope : Scope} {cl : List (Str × Addr)} {S : List (Addr × Obj) → Prop} {P : Nat → Value → Prop} {Fin : List Value → List (Addr × Obj) → Prop} {news : List (Addr × Obj)}
/-- a comprehension whose test never holds -/
theorem restT_none (J : List (Addr × Obj) → Prop) (hj : J news)
    (turn : ∀ i v nw I oI C oC D m₂ h tk (E' : Value → Shared → Prop), P i v → J nw → LCg.NsObj oC m₂ → m₂ x = some v → Fr h₀ L h m → News h₀ L h ((I, oI) :: (C, oC) :: (D, LCg.lst []) :: nw) → LCg.Off3 I C D nw → ((@Ne Nat I C) ∧ (@Ne Nat I D) ∧ (@Ne Nat C D)) →
      wpAny (model prog w) A (isTrue ct (compEnvC scope cl C env) (eval ct (compEnvC scope cl C env))) (fun ok s' => ok = false ∧ LCg.CompEnd h₀ L m { s with heap := h, toks := tk } I oI C oC D (LCg.lst []) S (fun _ nw' => J nw') Value.none s') E' { s with heap := h, toks := tk })
    (fin : ∀ nw, J nw → Fin [] nw) (n : Nat) : ∀ i, LCt.CompRestT prog w A h₀ L m env ct elt x scope cl s S P Fin n i [] news := by
  induction n generalizing news with
  | zero => exact fun i => LCt.CompRestT.zero (fin _ hj)
  | succ n ih =>
    intro i
    refine LCt.CompRestT.succ fun v I oI C oC D m₂ h tk E' hv hC hx F N off ne => ?_
    refine wpAny_mono (turn i v news I oI C oC D m₂ h tk E' hv hj hC hx F N off ne) (fun ok s₂ hq => ?_) fun _ _ e => e
    obtain ⟨rfl, h', tk', nw', e, F', N', off', hS, hJ⟩ := hq
    rw [if_neg (by decide)]
    exact ⟨h', tk', nw', e, F', N', off', hS, ih hJ (i + 1)⟩
end
end Mine
end

theorem Mine.reset_F7 (h : PySem.Heap) : PySem.W.GrownAll [] h := by
  w_top off
  walk1
section
open PySem PySem.W PyProof.Rows PySem.Calls
set_option Elab.async false
set_option maxRecDepth 100000
namespace Mine
open LCg LCt
section
variable {M : Model} {A : Around} {E : Value → Shared → Prop} {s : Shared}
/-- the inner scope of a comprehension whose one name is a cell -/
theorem newEnv_cell {scope : Scope} {globals : Addr} {cl : List (Str × Addr)} {qual : Str} {outer : Env} {x : Str} {Q : Env → Shared → Prop}
    (hcells : ∀ n, cellsFrom n scope.names cl = (x, n) :: cl) (hpush : ∀ h, pushCells h scope.names = h.push { cls := .type "cell", data := .cell none })
    (hQ : ∀ h', h' = (s.heap.push { cls := .type "dict", data := .dict #[] }).push { cls := .type "cell", data := .cell none } →
      Q { scope, locals := s.heap.objs.size, globals, cells := (x, (s.heap.push { cls := .type "dict", data := .dict #[] }).objs.size) :: cl, qual, func := none, code := outer.code, frame := outer.frame, builtins := outer.builtins } { s with heap := h' }) :
    wpAny M A (newFunctionEnv scope globals cl [] qual none .none (some outer)) Q E s := by
  simp only [newFunctionEnv, Option.isSome_some, if_true]
  refine wpAny_bind (wpAny_alloc ?_)
  refine wpAny_bind (wpAny_layCells _ (fun name kind cells => by cases hkc : kind == NameKind.cell <;> simp [hkc]) _ _ _ _ ?_)
  rw [hcells, hpush]
  refine wpAny_bind ?_
  rw [List.forIn_nil]
  exact wpAny_pure (wpAny_pure (hQ _ rfl))
end
section
variable {prog : Program} {w : World} {A : Around} {E : Value → Shared → Prop} {s : Shared} {h₀ : Heap} {L : Addr} {m : Str → Option Value} {env : Env}
/-- what stands around one turn -/
def Around4 (I C c D : Addr) (nw : List (Addr × Obj)) : Prop := (∀ p ∈ nw, p.1 ≠ I ∧ p.1 ≠ C ∧ p.1 ≠ c ∧ p.1 ≠ D) ∧ (@Ne Nat I C) ∧ (@Ne Nat I c) ∧ (@Ne Nat I D) ∧ (@Ne Nat C c) ∧ (@Ne Nat C D) ∧ (@Ne Nat c D)
def CellEnd (h₀ : Heap) (L : Addr) (m : Str → Option Value) (s₁ : Shared) (I : Addr) (oI : Obj) (C : Addr) (oC : Obj) (c : Addr) (o9 : Obj) (D : Addr) (J : List (Addr × Obj) → Prop) (s' : Shared) : Prop :=
  ∃ h' tk' nw', s' = { s₁ with heap := h', toks := tk' } ∧ Fr h₀ L h' m ∧ News h₀ L h' ((I, oI) :: (C, oC) :: (c, o9) :: (D, lst []) :: nw') ∧ Around4 I C c D nw' ∧ J nw'
theorem CellEnd.intro {h₀ : Heap} {L : Addr} {m : Str → Option Value} {s₁ : Shared} {I : Addr} {oI : Obj} {C : Addr} {oC : Obj} {c : Addr} {o9 : Obj} {D : Addr} {J : List (Addr × Obj) → Prop} {h' : Heap} {tk' : Nat} {all nw' : List (Addr × Obj)} (F : Fr h₀ L h' m) (N : News h₀ L h' all) (hs : ∀ p ∈ (I, oI) :: (C, oC) :: (c, o9) :: (D, lst []) :: nw', p ∈ all) (ar : Around4 I C c D nw') (hJ : J nw') :
    CellEnd h₀ L m s₁ I oI C oC c o9 D J { s₁ with heap := h', toks := tk' } := ⟨h', tk', nw', rfl, F, fun p hp => N p (hs p hp), ar, hJ⟩
def CellTurn (prog : Program) (w : World) (A : Around) (h₀ : Heap) (L : Addr) (m : Str → Option Value) (env : Env) (ct : PySem.Expr) (x : Str) (scope : Scope) (cl : List (Str × Addr)) (s₁ : Shared) (its : Array Value) (J : Nat → List (Addr × Obj) → Prop) : Prop :=
  ∀ i v nw I oI C oC c o9 D m₂ h tk (E' : Value → Shared → Prop), its[i]? = some v → J i nw → NsObj oC m₂ → o9.data = .cell (some v) → Fr h₀ L h m → News h₀ L h ((I, oI) :: (C, oC) :: (c, o9) :: (D, lst []) :: nw) → Around4 I C c D nw →
    wpAny (model prog w) A (isTrue ct (compEnvC scope ((x, c) :: cl) C env) (eval ct (compEnvC scope ((x, c) :: cl) C env))) (fun ok s' => ok = false ∧ CellEnd h₀ L m { s₁ with heap := h, toks := tk } I oI C oC c o9 D (J (i + 1)) s') E' { s₁ with heap := h, toks := tk }
def CellSrc (prog : Program) (w : World) (A : Around) (h₀ : Heap) (L : Addr) (m : Str → Option Value) (env : Env) (ct : PySem.Expr) (x : Str) (scope : Scope) (cl : List (Str × Addr)) (Q : Value → Shared → Prop) (xv : Value) (s₁ : Shared) : Prop :=
  ∃ ax its k news, ∃ J : Nat → List (Addr × Obj) → Prop, xv = .ref ax ∧ A.handled = none ∧ Fr h₀ L s₁.heap m ∧ News h₀ L s₁.heap news ∧ (∀ i nw, J i nw → (ax, ({ cls := .type "list", data := .seq its k } : Obj)) ∈ nw) ∧ J 0 news ∧ its.size ≤ sizeLine ∧
    CellTurn prog w A h₀ L m env ct x scope cl s₁ its J ∧
    ∀ nw D h tk, J its.size nw → Fr h₀ L h m → News h₀ L h ((D, lst []) :: nw) → (∀ p ∈ nw, p.1 ≠ D) → Q (.ref D) { s₁ with heap := h, toks := tk }
theorem ListComp_cell {ct elt iter : PySem.Expr} {x : Str} {px : Pos} {scope : Scope} {cl : List (Str × Addr)} {pos : Pos} {Q : Value → Shared → Prop} (_F₀ : Fr h₀ L s.heap m)
    (hclos : closureFor scope env = pure cl) (hkind : scope.kind = .function) (hnames : ∀ y ∈ scope.names, y.2 = .local → scope.names.lookup y.1 = some .local)
    (hcells : ∀ n, cellsFrom n scope.names cl = (x, n) :: cl) (hpush : ∀ h, pushCells h scope.names = h.push { cls := .type "cell", data := .cell none })
    (hx : (relabel scope env).names.lookup x = some .cell)
    (h : wpAny (model prog w) A (eval iter env) (CellSrc prog w A h₀ L m env ct x scope cl Q) E s)
    (hs : ∀ x, foldedSetIterable iter env x = pure x := by intro _; rfl) :
    wpAny (model prog w) A (eval (.ListComp elt [⟨.Name x px, iter, [ct], 0⟩] scope pos) env) Q E s := by
  rw [eval_ListComp]
  refine wpAny_comprehension_free (use := none) rfl hs hclos hkind hnames (wpAny_mono h (fun xv s₁ h₁ => ?_) fun _ _ e => e)
  obtain ⟨ax, its, k, news, J, rfl, hh, F, N, hax, hJ, hsz, turn, fin⟩ := h₁
  have hl : s₁.heap.IsList ax its := ⟨_, (N _ (hax _ _ hJ)).1, rfl, k, rfl⟩
  have hlt : @LT.lt Nat _ ax s₁.heap.objs.size := Heap.lt_size (N _ (hax _ _ hJ)).1
  refine wpAny_pyIter_list hl ?_
  refine wpAny_newObj_type (newEnv_cell hcells hpush fun h₁ e₁ => ?_)
  dsimp only at e₁ ⊢
  generalize hH1 : s₁.heap.push { cls := .type "list_iterator", data := .fields #[.ref ax, .int 0 0] } = H1 at e₁ ⊢
  generalize hH2 : H1.push { cls := .type "list", dict := none, data := .seq ([] : List Value).toArray } = H2 at e₁ ⊢
  generalize hH3 : H2.push { cls := .type "dict", data := .dict #[] } = H3 at e₁ ⊢
  have z1 : H1.objs.size = s₁.heap.objs.size + 1 := by rw [← hH1, Heap.size_push]
  have z2 : H2.objs.size = s₁.heap.objs.size + 2 := by rw [← hH2, Heap.size_push, z1]
  have z3 : H3.objs.size = s₁.heap.objs.size + 3 := by rw [← hH3, Heap.size_push, z2]
  have up1 : ∀ b o, s₁.heap.get? b = some o → H1.get? b = some o := fun b o e => hH1 ▸ Heap.get?_push_of_some _ e
  have up2 : ∀ b o, H1.get? b = some o → H2.get? b = some o := fun b o e => hH2 ▸ Heap.get?_push_of_some _ e
  have up3 : ∀ b o, H2.get? b = some o → H3.get? b = some o := fun b o e => hH3 ▸ Heap.get?_push_of_some _ e
  have up4 : ∀ b o, H3.get? b = some o → h₁.get? b = some o := fun b o e => e₁ ▸ Heap.get?_push_of_some _ e
  have up : ∀ b o, s₁.heap.get? b = some o → h₁.get? b = some o := fun b o e => up4 _ _ (up3 _ _ (up2 _ _ (up1 _ _ e)))
  have gI : h₁.get? s₁.heap.objs.size = some { cls := .type "list_iterator", data := .fields #[.ref ax, .int 0 0] } := up4 _ _ (up3 _ _ (up2 _ _ (hH1 ▸ Heap.get?_push_size _ rfl)))
  have gD : h₁.get? H1.objs.size = some { cls := .type "list", data := .seq ([] : List Value).toArray } := up4 _ _ (up3 _ _ (hH2 ▸ Heap.get?_push_size _ rfl))
  have gC : h₁.get? H2.objs.size = some { cls := .type "dict", data := .dict #[] } := up4 _ _ (hH3 ▸ Heap.get?_push_size _ rfl)
  have gc : h₁.get? H3.objs.size = some { cls := .type "cell", data := .cell none } := e₁ ▸ Heap.get?_push_size _ rfl
  have fresh₀ : ∀ a : Addr, @LE.le Nat _ s₁.heap.objs.size a → h₀.get? a = none := fun a ha => Heap.get?_none_of_le (Nat.le_trans (Nat.le_of_lt (Nat.lt_of_le_of_lt F.above F.ns.lt)) ha)
  have hLlt : @LT.lt Nat _ L s₁.heap.objs.size := F.ns.lt
  have nI : s₁.heap.objs.size ≠ L := Ne.symm (Nat.ne_of_lt hLlt)
  have nD : H1.objs.size ≠ L := by rw [z1]; exact Ne.symm (Nat.ne_of_lt (Nat.lt_succ_of_lt hLlt))
  have nC : H2.objs.size ≠ L := by rw [z2]; exact Ne.symm (Nat.ne_of_lt (Nat.lt_of_lt_of_le hLlt (Nat.le_add_right _ _)))
  have nc : H3.objs.size ≠ L := by rw [z3]; exact Ne.symm (Nat.ne_of_lt (Nat.lt_of_lt_of_le hLlt (Nat.le_add_right _ _)))
  have fI : h₀.get? s₁.heap.objs.size = none := fresh₀ _ (Nat.le_refl _)
  have fD : h₀.get? H1.objs.size = none := fresh₀ _ (by rw [z1]; exact Nat.le_add_right _ _)
  have fC : h₀.get? H2.objs.size = none := fresh₀ _ (by rw [z2]; exact Nat.le_add_right _ _)
  have fc : h₀.get? H3.objs.size = none := fresh₀ _ (by rw [z3]; exact Nat.le_add_right _ _)
  have ar : Around4 s₁.heap.objs.size H2.objs.size H3.objs.size H1.objs.size news := by
    refine ⟨fun p hp => ?_, ?_, ?_, ?_, ?_, ?_, ?_⟩
    · have hp' : @LT.lt Nat _ p.1 s₁.heap.objs.size := Heap.lt_size (N p hp).1
      rw [z1, z2, z3]
      exact ⟨Nat.ne_of_lt hp', Nat.ne_of_lt (Nat.lt_of_lt_of_le hp' (Nat.le_add_right _ _)), Nat.ne_of_lt (Nat.lt_of_lt_of_le hp' (Nat.le_add_right _ _)), Nat.ne_of_lt (Nat.lt_of_lt_of_le hp' (Nat.le_add_right _ _))⟩
    · rw [z2]; exact Nat.ne_of_lt (by omega)
    · rw [z3]; exact Nat.ne_of_lt (by omega)
    · rw [z1]; exact Nat.ne_of_lt (by omega)
    · rw [z2, z3]; exact Nat.ne_of_lt (by omega)
    · rw [z2, z1]; exact Ne.symm (Nat.ne_of_lt (by omega))
    · rw [z3, z1]; exact Ne.symm (Nat.ne_of_lt (by omega))
  have W := Walks.list (prog := prog) (w := w) (A := A) hh s₁.heap.objs.size ax (Nat.ne_of_lt hlt) its
  have st₀ : h₁.IsListIter s₁.heap.objs.size ax 0 ∧ h₁.IsList ax its := ⟨⟨_, gI, rfl, rfl⟩, ⟨_, up _ _ (N _ (hax _ _ hJ)).1, rfl, k, rfl⟩⟩
  have hlk : ((x, H3.objs.size) :: cl).lookup x = some H3.objs.size := by simp [List.lookup]
  generalize s₁.heap.objs.size = I at *
  generalize H1.objs.size = D at *
  generalize H2.objs.size = C at *
  generalize H3.objs.size = c at *
  have N₁ : News h₀ L h₁ ((C, { cls := .type "dict", data := .dict #[] }) :: (c, { cls := .type "cell", data := .cell none }) :: (D, lst []) :: news) := fun p hp => by
    rcases List.mem_cons.mp hp with rfl | hp
    · exact ⟨gC, nC, fC⟩
    · rcases List.mem_cons.mp hp with rfl | hp
      · exact ⟨gc, nc, fc⟩
      · rcases List.mem_cons.mp hp with rfl | hp
        · exact ⟨gD, nD, fD⟩
        · exact ⟨up _ _ (N p hp).1, (N p hp).2⟩
  have loop : ∀ s₃ : Shared, (∃ tk, s₃ = { s₁ with heap := h₁, toks := tk }) →
      codeAny (model prog w) A (.compLoop (.ListComp elt [⟨.Name x px, iter, [ct], 0⟩] scope pos) 0 (.ref I) (.ref D) (compEnvC scope ((x, c) :: cl) C env))
        (compPost (model prog w) A E none Q (.ref D) C) s₃ := by
    rintro s₃ ⟨tk₀, rfl⟩
    refine codeAny_compLoop_tests
      (fun k s' => ∃ h' tk i nw oC m₂ o9 v0, s' = { s₁ with heap := h', toks := tk } ∧ i ≤ its.size ∧ k = its.size + 1 - i ∧ (h'.IsListIter I ax i ∧ h'.IsList ax its) ∧ Fr h₀ L h' m ∧
        News h₀ L h' ((C, oC) :: (c, o9) :: (D, lst []) :: nw) ∧ NsObj oC m₂ ∧ o9.data = .cell v0 ∧ Around4 I C c D nw ∧ J i nw) ?_ (its.size + 1)
      ⟨h₁, tk₀, 0, news, _, fun _ => none, _, none, rfl, Nat.zero_le _, rfl, st₀, F.keeps up, N₁, ⟨#[], _, rfl, by simp [StrKeys], fun _ => rfl⟩, rfl, ar, hJ⟩
    rintro k' s' ⟨h', tk, i, nw, oC, m₂, o9, v0, rfl, hi, rfl, hst', F', N', hoC, hd9, ar', hJ'⟩
    obtain ⟨a1, a2, a3, a4, a5, a6, a7⟩ := ar'
    have offI : ∀ p ∈ (C, oC) :: (c, o9) :: (D, lst []) :: nw, p.1 ≠ I := fun p hp => by
      rcases List.mem_cons.mp hp with rfl | hp
      · exact Ne.symm a2
      · rcases List.mem_cons.mp hp with rfl | hp
        · exact Ne.symm a3
        · rcases List.mem_cons.mp hp with rfl | hp
          · exact Ne.symm a4
          · exact (a1 p hp).1
    by_cases hlt' : i < its.size
    · refine W.item i _ _ _ hlt' hst' fun v h₂ tk₂ hPv hst₂ hk₂ => ?_
      have N₂ := news_but N' hk₂ offI
      have F₂ := fr_but F' hk₂ (Ne.symm nI) fI
      refine wpAny_assign_Name (wpAny_storeName_cell (c := c) hkind hx hlk ⟨o9, (N₂ (c, o9) (.tail _ (.head _))).1, hd9⟩ fun h₃ hv₃ hs₃ => ?_)
      refine wpAny_tests_one ?_
      obtain ⟨o9', e9, hd9'⟩ := hv₃
      have hst₃ : h₃.IsListIter I ax (i + 1) ∧ h₃.IsList ax its := ⟨let ⟨o, e, r⟩ := hst₂.1; ⟨o, hs₃.extBut _ _ a3 e, r⟩, let ⟨o, e, r⟩ := hst₂.2; ⟨o, hs₃.extBut _ _ (a1 _ (hax _ _ hJ')).2.2.1 e, r⟩⟩
      obtain ⟨oI, heI, hIr⟩ := hst₃.1
      have F₃ : Fr h₀ L h₃ m := F₂.change hs₃ nc fc
      have N₃ : News h₀ L h₃ ((I, oI) :: (C, oC) :: (c, o9') :: (D, lst []) :: nw) := fun p hp => by
        rcases List.mem_cons.mp hp with rfl | hp
        · exact ⟨heI, nI, fI⟩
        · rcases List.mem_cons.mp hp with rfl | hp
          · exact ⟨hs₃.extBut _ _ a5 (N₂ _ (.head _)).1, nC, fC⟩
          · rcases List.mem_cons.mp hp with rfl | hp
            · exact ⟨e9, nc, fc⟩
            · rcases List.mem_cons.mp hp with rfl | hp
              · exact ⟨hs₃.extBut _ _ (Ne.symm a7) (N₂ _ (.tail _ (.tail _ (.head _)))).1, nD, fD⟩
              · exact ⟨hs₃.extBut _ _ (a1 p hp).2.2.1 (N₂ p (.tail _ (.tail _ (.tail _ hp)))).1, (N₂ p (.tail _ (.tail _ (.tail _ hp)))).2⟩
      refine wpAny_mono (turn i v nw I oI C oC c o9' D m₂ h₃ _ _ hPv hJ' hoC hd9' F₃ N₃ ⟨a1, a2, a3, a4, a5, a6, a7⟩) (fun ok s₄ h₄ => ?_) fun _ _ e => e
      obtain ⟨rfl, h₅, tk₅, nw₅, rfl, F₅, N₅, ar₅, hJ₅⟩ := h₄
      simp only [Bool.false_eq_true, if_false]
      refine ⟨its.size + 1 - (i + 1), by omega, h₅, tk₅, i + 1, nw₅, oC, m₂, o9', _, rfl, hlt', rfl, ⟨⟨oI, (N₅ _ (.head _)).1, hIr⟩, ⟨_, (N₅ _ (.tail _ (.tail _ (.tail _ (.tail _ (hax _ _ hJ₅)))))).1, rfl, k, rfl⟩⟩, F₅, fun p hp => N₅ p (.tail _ hp), hoC, hd9', ar₅, hJ₅⟩
    · obtain rfl : i = its.size := Nat.le_antisymm hi (Nat.not_lt.mp hlt')
      refine W.done _ _ _ hst' fun h₂ tk₂ hk₂ => ?_
      have N₂ := news_but N' hk₂ offI
      have F₂ := fr_but F' hk₂ (Ne.symm nI) fI
      refine ⟨m₂, hoC.ns (N₂ _ (.head _)).1, fun h'' hs'' => fin nw D h'' tk₂ hJ' (F₂.change hs'' nC fC) (fun p hp => ?_) fun p hp => (a1 p hp).2.2.2⟩
      refine ⟨hs''.extBut _ _ ?_ (N₂ p (.tail _ (.tail _ hp))).1, (N₂ p (.tail _ (.tail _ hp))).2⟩
      rcases List.mem_cons.mp hp with rfl | hp
      · exact Ne.symm a6
      · exact (a1 p hp).2.1
  exact codeAny_compStart_list (loop _ ⟨_, rfl⟩) (W.self 0 _ _ _ st₀ (loop _ ⟨_, rfl⟩))
end
end Mine
end

section
open PySem PySem.W PyProof.Rows
set_option Elab.async false
set_option maxRecDepth 100000
set_option linter.unusedSimpArgs false
set_option hygiene false
namespace Mine
local macro_rules | `(tactic| k_all) => `(tactic| first | assumption | exact off_lt (by assumption) (by omega))
local macro_rules | `(tactic| k_mem) => `(tactic| first | assumption | exact List.Mem.head _ | (refine' List.mem_cons_of_mem _ ?_; k_mem))
local macro_rules | `(tactic| k_room) => `(tactic| ktr_room)
local macro_rules | `(tactic| k_units) => `(tactic| ktr_units)
local macro_rules | `(tactic| k_room) => `(tactic| first | (dsimp only [A1]; ktr_room) | fail)
local macro_rules | `(tactic| k_units) => `(tactic| first | (dsimp only [A1]; ktr_units) | fail)
local macro_rules | `(tactic| ke_room) => `(tactic| first | (dsimp only [A1]; ktr_units) | fail)
local macro_rules | `(tactic| walk_at "CompSrc") => `(tactic| refine stop_at ?_)
local macro_rules | `(tactic| walk_at "CompEnd") => `(tactic| refine stop_at ?_)
theorem reset_C4 (h : PySem.Heap) : PySem.W.GrownAll [] h := by
  w_top off
  walk1
section
open PySem PySem.W PyProof.Rows
set_option Elab.async false
set_option maxRecDepth 100000
set_option linter.unusedSimpArgs false
set_option hygiene false
theorem fillK4 : (fun (_ : Params → Frag) (_ : OpenLaw) => True) Mine.K PySem.Challenge.rw_xw0213_01 := by k_fill; trivial
def ch (c : Nat) : Str := ⟨#[c]⟩
def escT (c : Nat) : Str := if c = 38 then Str.ofString "&amp;" else if c = 60 then Str.ofString "&lt;" else if c = 62 then Str.ofString "&gt;" else if c = 13 then Str.ofString "&#13;" else ch c
def escV (c : Nat) : Str := if c = 38 then Str.ofString "&amp;" else if c = 60 then Str.ofString "&lt;" else if c = 34 then Str.ofString "&quot;" else if c = 9 then Str.ofString "&#9;" else if c = 10 then Str.ofString "&#10;" else if c = 13 then Str.ofString "&#13;" else ch c
theorem ch_beq (a b : Nat) : (ch a == ch b) = decide (a = b) := by
  by_cases h : a = b
  · subst h; simp
  · have : ch a ≠ ch b := fun e => h (by have := congrArg Str.cps e; simpa [ch] using this)
    rw [decide_eq_false h]
    exact beq_eq_false_iff_ne.mpr this
theorem ch_t {c n : Nat} {x : Str} (e : x = ch n) (h : (ch c == x) = true) : c = n := by rw [e, ch_beq] at h; exact of_decide_eq_true h
theorem ch_f {c n : Nat} {x : Str} (e : x = ch n) (h : (ch c == x) = false) : c ≠ n := by rw [e, ch_beq] at h; exact of_decide_eq_false h
theorem s38 : Str.ofString "&" = ch 38 := by decide +kernel
theorem s60 : Str.ofString "<" = ch 60 := by decide +kernel
theorem s62 : Str.ofString ">" = ch 62 := by decide +kernel
theorem s34 : Str.ofString "\"" = ch 34 := by decide +kernel
theorem s13 : Str.ofString "\x0d" = ch 13 := by decide +kernel
theorem escT_1 {c} (h : (ch c == Str.ofString "&") = true) : escT c = Str.ofString "&amp;" := by rw [ch_t s38 h]; rfl
theorem escT_2 {c} (h : (ch c == Str.ofString "<") = true) : escT c = Str.ofString "&lt;" := by rw [ch_t s60 h]; rfl
theorem escT_3 {c} (h : (ch c == Str.ofString ">") = true) : escT c = Str.ofString "&gt;" := by rw [ch_t s62 h]; rfl
theorem escT_4 {c} (h : (ch c == Str.ofString "\x0d") = true) : escT c = Str.ofString "&#13;" := by rw [ch_t s13 h]; rfl
theorem escT_5 {c} (h1 : (ch c == Str.ofString "&") = false) (h2 : (ch c == Str.ofString "<") = false) (h3 : (ch c == Str.ofString ">") = false) (h4 : (ch c == Str.ofString "\x0d") = false) : escT c = ch c := by
  unfold escT; rw [if_neg (ch_f s38 h1), if_neg (ch_f s60 h2), if_neg (ch_f s62 h3), if_neg (ch_f s13 h4)]
theorem escV_1 {c} (h : (ch c == Str.ofString "&") = true) : escV c = Str.ofString "&amp;" := by rw [ch_t s38 h]; rfl
theorem escV_2 {c} (h : (ch c == Str.ofString "<") = true) : escV c = Str.ofString "&lt;" := by rw [ch_t s60 h]; rfl
theorem escV_3 {c} (h : (ch c == Str.ofString "\"") = true) : escV c = Str.ofString "&quot;" := by rw [ch_t s34 h]; rfl
theorem occ_ws (c : Nat) : (Builtin.Str.occurrences (Str.ofString "\t\n\x0d") (ch c) 0 (Str.ofString "\t\n\x0d").length 1).isEmpty = !(c == 9 || c == 10 || c == 13) := by
  have h := StrLaws.found_one (Str.ofString "\t\n\x0d") c
  have e : (Str.ofString "\t\n\x0d").cps.toList = [9, 10, 13] := by decide +kernel
  rw [e] at h
  have e2 : decide (c ∈ [9, 10, 13]) = (c == 9 || c == 10 || c == 13) := by
    rw [Bool.eq_iff_iff]; simp [or_assoc]
  rw [e2] at h
  rw [← h, Bool.not_not]
  rfl
theorem escV_4 {c} (h1 : (ch c == Str.ofString "&") = false) (h2 : (ch c == Str.ofString "<") = false) (h3 : (ch c == Str.ofString "\"") = false) (h4 : (Builtin.Str.occurrences (Str.ofString "\t\n\x0d") (ch c) 0 (Str.ofString "\t\n\x0d").length 1).isEmpty = true) : escV c = ch c := by
  rw [occ_ws] at h4
  simp only [Bool.not_eq_true', Bool.or_eq_false_iff, beq_eq_false_iff_ne] at h4
  unfold escV; rw [if_neg (ch_f s38 h1), if_neg (ch_f s60 h2), if_neg (ch_f s34 h3), if_neg h4.1.1, if_neg h4.1.2, if_neg h4.2]
theorem amp9 : Str.ofString "&#" ++ Str.ofString (toString ((9 : Nat) : Int)) ++ Str.ofString ";" = escV 9 := by decide +kernel
theorem amp10 : Str.ofString "&#" ++ Str.ofString (toString ((10 : Nat) : Int)) ++ Str.ofString ";" = escV 10 := by decide +kernel
theorem amp13 : Str.ofString "&#" ++ Str.ofString (toString ((13 : Nat) : Int)) ++ Str.ofString ";" = escV 13 := by decide +kernel
theorem occ_cases {c} (h4 : (Builtin.Str.occurrences (Str.ofString "\t\n\x0d") (ch c) 0 (Str.ofString "\t\n\x0d").length 1).isEmpty = false) : c = 9 ∨ c = 10 ∨ c = 13 := by
  rw [occ_ws] at h4
  simp only [Bool.not_eq_false', Bool.or_eq_true, beq_iff_eq] at h4
  omega
set_option maxHeartbeats 1000000 in
theorem escT_tell {w : World} {c : Nat} {t : Tok} (R : List (Addr × Obj)) :
    Tell w 60 [.str (ch c) t] 1 R (fun news' r => news' = R ∧ ∃ t', r = .str (escT c) t') := by
  refine Tell.intro fun loose mean mg mb dp un gd cn nm ig ic mr a ccd cl outer A₀ base h₀ L m sh sg sd st so Q E B F X N T hd hu ret => ?_
  refine wpAny_call ?_
  k_dflt k_enter
  rename Fr _ _ _ _ => F1
  refine (let A1 : Around := _; let m1 : Str → Option Value := _; let t1 : Nat := _; have F1 : Fr _ _ _ m1 := F1; (?_ : wpAny _ A1 _ _ _ (Shared.mk _ _ _ t1 _)))
  (repeat' (first | (k_unfold; (try dsimp only)) | walk1 | (dsimp only; walk1) | (leave1; (try dsimp only))))
  · exact ret _ _ _ _ (by assumption) (by assumption) ⟨rfl, _, by rw [escT_1 (by assumption)]⟩
  · exact ret _ _ _ _ (by assumption) (by assumption) ⟨rfl, _, by rw [escT_2 (by assumption)]⟩
  · exact ret _ _ _ _ (by assumption) (by assumption) ⟨rfl, _, by rw [escT_3 (by assumption)]⟩
  · exact ret _ _ _ _ (by assumption) (by assumption) ⟨rfl, _, by rw [escT_4 (by assumption)]⟩
  · exact ret _ _ _ _ (by assumption) (by assumption) ⟨rfl, _, by rw [escT_5 (by assumption) (by assumption) (by assumption) (by assumption)]⟩
set_option maxHeartbeats 1000000 in
theorem escV_tell {w : World} {c : Nat} {t : Tok} (R : List (Addr × Obj)) :
    Tell w 67 [.str (ch c) t] 1 R (fun news' r => news' = R ∧ ∃ t', r = .str (escV c) t') := by
  refine Tell.intro fun loose mean mg mb dp un gd cn nm ig ic mr a ccd cl outer A₀ base h₀ L m sh sg sd st so Q E B F X N T hd hu ret => ?_
  refine wpAny_call ?_
  k_dflt k_enter
  rename Fr _ _ _ _ => F1
  refine (let A1 : Around := _; let m1 : Str → Option Value := _; let t1 : Nat := _; have F1 : Fr _ _ _ m1 := F1; (?_ : wpAny _ A1 _ _ _ (Shared.mk _ _ _ t1 _)))
  (repeat' (first | (k_unfold; (try dsimp only)) | walk1 | (dsimp only; walk1) | (leave1; (try dsimp only))))
  · exact ret _ _ _ _ (by assumption) (by assumption) ⟨rfl, _, by rw [escV_1 (by assumption)]⟩
  · exact ret _ _ _ _ (by assumption) (by assumption) ⟨rfl, _, by rw [escV_2 (by assumption)]⟩
  · exact ret _ _ _ _ (by assumption) (by assumption) ⟨rfl, _, by rw [escV_3 (by assumption)]⟩
  · exact ret _ _ _ _ (by assumption) (by assumption) ⟨rfl, _, by rw [escV_4 (by assumption) (by assumption) (by assumption) (by assumption)]⟩
  · rcases occ_cases (by assumption) with rfl | rfl | rfl
    all_goals (repeat' (first | (k_unfold; (try dsimp only)) | walk1 | (dsimp only; walk1) | (leave1; (try dsimp only))))
    · exact ret _ _ _ _ (by assumption) (by assumption) ⟨rfl, _, by rw [amp9]⟩
    · exact ret _ _ _ _ (by assumption) (by assumption) ⟨rfl, _, by rw [amp10]⟩
    · exact ret _ _ _ _ (by assumption) (by assumption) ⟨rfl, _, by rw [amp13]⟩
end

theorem reset_S1 (h : PySem.Heap) : PySem.W.GrownAll [] h := by
  w_top off
  walk1
section
open PySem PySem.W PyProof.Rows PySem.Spec PySem.Calls
set_option Elab.async false
set_option maxRecDepth 100000
open LCg
section
variable {prog : Program} {w : World} {A : Around} {E : Value → Shared → Prop} {s : Shared} {h₀ : Heap} {L : Addr} {m : Str → Option Value} {env : Env}
/-- the source of a comprehension is a text -/
def SrcS (prog : Program) (w : World) (A : Around) (h₀ : Heap) (L : Addr) (m : Str → Option Value) (env : Env) (elt : Expr) (x : Str) (scope : Scope) (cl : List (Str × Addr)) (Fin : Shared → List Value → List (Addr × Obj) → Prop) (xv : Value) (s₁ : Shared) : Prop :=
  ∃ tx t news, xv = .str tx t ∧ A.handled = none ∧ Fr h₀ L s₁.heap m ∧ News h₀ L s₁.heap news ∧ tx.cps.size ≤ sizeLine ∧
    ∀ s₂ : Shared, (∃ h, s₂ = { s₁ with heap := h }) → CompRest prog w A h₀ L m env elt x scope cl s₂ (fun _ => True) (SignAt tx) (Fin s₂) tx.cps.size 0 [] news
theorem ListComp_S {elt iter : Expr} {x : Str} {px : Pos} {scope : Scope} {cl : List (Str × Addr)} {pos : Pos} {Q : Value → Shared → Prop} (_F₀ : Fr h₀ L s.heap m)
    (hclos : closureFor scope env = pure cl) (hcell : ∀ y ∈ scope.names, y.2 ≠ .cell) (hkind : scope.kind = .function)
    (hnames : ∀ y ∈ scope.names, y.2 = .local → scope.names.lookup y.1 = some .local) (hx : scope.names.lookup x = some .local)
    (h : wpAny (model prog w) A (eval iter env) (SrcS prog w A h₀ L m env elt x scope cl (fun s₂ => FinE h₀ L m s₂ Q)) E s)
    (hs : ∀ x, foldedSetIterable iter env x = pure x := by intro _; rfl) :
    wpAny (model prog w) A (eval (.ListComp elt [⟨.Name x px, iter, [], 0⟩] scope pos) env) Q E s := by
  rw [eval_ListComp]
  refine wpAny_comprehension_free (use := none) rfl hs hclos hkind hnames (wpAny_mono h (fun xv s₁ h₁ => ?_) fun _ _ e => e)
  obtain ⟨tx, t, news, rfl, hh, F, N, hsz, R⟩ := h₁
  cases ha : tx.cps.all (· < 128)
  · refine wpAny_pyIter_wide ha ?_
    refine block_U (Walks.strWide hh _ tx t) hsz (fun i h st => by obtain ⟨o, e, _⟩ := st; exact ⟨o, e⟩) (fun i h h' o nw st e e' _ _ _ => by obtain ⟨o', q, r⟩ := st; rw [e] at q; cases q; exact ⟨o, e', r⟩) hcell hkind hx ⟨_, Heap.get?_push_size _ rfl, rfl, rfl⟩ (fun b hb => ?_)
      (F.keeps fun _ _ e => Heap.get?_push_of_some _ e) (N.grown fun _ _ e => Heap.get?_push_of_some _ e) (Nat.ne_of_lt F.ns.lt) (next_is_new F) (fun p hp => Nat.ne_of_lt (Heap.lt_size (N p hp).1)) trivial (R _ ⟨_, rfl⟩) ?_
    · rw [List.mem_singleton.mp hb]
      show s₁.heap.objs.size < (s₁.heap.push _).objs.size
      rw [Heap.size_push]; exact Nat.lt_succ_self _
    · intro D C h' tk m' ys news' F' N' o1 hn hC₀ hD₀ hCL hDL hCD offC fin
      refine ⟨m', hn, fun h'' hs'' => fin D h'' tk (F'.change hs'' hCL hC₀) (fun p hp => ?_) o1⟩
      refine ⟨hs''.extBut _ _ ?_ (N' p hp).1, (N' p hp).2⟩
      rcases List.mem_cons.mp hp with rfl | hp
      · exact Ne.symm hCD
      · exact offC p hp
  · refine wpAny_pyIter_ascii ha ?_
    refine block_U (Walks.strAscii hh _ tx t) hsz (fun i h st => by obtain ⟨o, e, _⟩ := st; exact ⟨o, e⟩) (fun i h h' o nw st e e' _ _ _ => by obtain ⟨o', q, r⟩ := st; rw [e] at q; cases q; exact ⟨o, e', r⟩) hcell hkind hx ⟨_, Heap.get?_push_size _ rfl, rfl, rfl⟩ (fun b hb => ?_)
      (F.keeps fun _ _ e => Heap.get?_push_of_some _ e) (N.grown fun _ _ e => Heap.get?_push_of_some _ e) (Nat.ne_of_lt F.ns.lt) (next_is_new F) (fun p hp => Nat.ne_of_lt (Heap.lt_size (N p hp).1)) trivial (R _ ⟨_, rfl⟩) ?_
    · rw [List.mem_singleton.mp hb]
      show s₁.heap.objs.size < (s₁.heap.push _).objs.size
      rw [Heap.size_push]; exact Nat.lt_succ_self _
    · intro D C h' tk m' ys news' F' N' o1 hn hC₀ hD₀ hCL hDL hCD offC fin
      refine ⟨m', hn, fun h'' hs'' => fin D h'' tk (F'.change hs'' hCL hC₀) (fun p hp => ?_) o1⟩
      refine ⟨hs''.extBut _ _ ?_ (N' p hp).1, (N' p hp).2⟩
      rcases List.mem_cons.mp hp with rfl | hp
      · exact Ne.symm hCD
      · exact offC p hp
theorem map_rest {elt : Expr} {x : Str} {scope : Scope} {cl : List (Str × Addr)} {S : List (Addr × Obj) → Prop} {Fin : List Value → List (Addr × Obj) → Prop} {nw : List (Addr × Obj)} (f : Nat → Str) {tx : Str}
    (turn : ∀ c u I oI C oC D m₂ ys h tk (E' : Value → Shared → Prop), NsObj oC m₂ → m₂ x = some (.str (ch c) u) → Fr h₀ L h m → News h₀ L h ((I, oI) :: (C, oC) :: (D, lst ys) :: nw) → Off3 I C D nw → ((@Ne Nat I C) ∧ (@Ne Nat I D) ∧ (@Ne Nat C D)) →
      wpAny (model prog w) A (eval elt (compEnvC scope cl C env)) (CompEnd h₀ L m { s with heap := h, toks := tk } I oI C oC D (lst ys) S (fun y nw' => nw' = nw ∧ ∃ t', y = .str (f c) t')) E' { s with heap := h, toks := tk })
    (fin : ∀ ys, StrsAre ys (tx.cps.toList.map f) → Fin ys nw) : CompRest prog w A h₀ L m env elt x scope cl s S (SignAt tx) Fin tx.cps.size 0 [] nw := by
  refine rest_inv (fun ys nw' => nw' = nw ∧ StrsAre ys ((tx.cps.toList.take ys.length).map f)) ?_ ⟨rfl, .nil⟩ ?_
  · rintro i ys _ v I oI C oC D m₂ h tk E' hi hl ⟨rfl, hys⟩ ⟨c, u, hc, rfl⟩ hC hx F N off ne
    refine wpAny_mono (turn c u I oI C oC D m₂ ys h tk E' hC hx F N off ne) (fun y s₂ hq => ?_) fun _ _ e => e
    obtain ⟨h', tk', nw', e, F', N', off', hS, rfl, t', rfl⟩ := hq
    refine ⟨h', tk', nw', e, F', N', off', hS, rfl, ?_⟩
    have hc' : tx.cps.toList[ys.length]? = some c := by rw [hl]; simpa using hc
    rw [List.length_append, List.length_singleton, List.take_add_one, hc', List.map_append]
    exact StrsAre.append' hys (.cons _ _ .nil)
  · rintro ys _ hl ⟨rfl, hys⟩
    refine fin ys ?_
    rw [List.take_of_length_le (by rw [hl]; simp)] at hys
    exact hys
end
/-- a text sign by sign -/
noncomputable def tmap (f : Nat → Str) (x : Str) : Str := cat (x.cps.toList.map f)
theorem tmap_len {f : Nat → Str} {b : Nat} (h : ∀ c, (f c).length ≤ b) (x : Str) : (tmap f x).length ≤ x.length * b := by
  unfold tmap
  rw [cat_len]
  have := sum_le_of (xs := x.cps.toList.map f) (b := b) (by intro z hz; obtain ⟨c, _, rfl⟩ := List.mem_map.mp hz; exact h c)
  simpa [Str.length] using this
theorem escT_len (c : Nat) : (escT c).length ≤ 6 := by
  unfold escT
  split
  · decide +kernel
  · split
    · decide +kernel
    · split
      · decide +kernel
      · split
        · decide +kernel
        · show 1 ≤ 6; decide
theorem escV_len (c : Nat) : (escV c).length ≤ 6 := by
  unfold escV
  split
  · decide +kernel
  · split
    · decide +kernel
    · split
      · decide +kernel
      · split
        · decide +kernel
        · split
          · decide +kernel
          · split
            · decide +kernel
            · show 1 ≤ 6; decide
end

theorem reset_C5 (h : PySem.Heap) : PySem.W.GrownAll [] h := by
  w_top off
  walk1
section
open PySem PySem.W PyProof.Rows
set_option Elab.async false
set_option maxRecDepth 100000
set_option linter.unusedSimpArgs false
set_option hygiene false
theorem fillK5 : (fun (_ : Params → Frag) (_ : OpenLaw) => True) Mine.K PySem.Challenge.rw_xw0213_01 := by k_fill; trivial
local macro_rules | `(tactic| walk_at "eval ListComp") => `(tactic| (k_here; k_dflt (refine ListComp_S (by k_asm) (by with_unfolding_all rfl) (by decide) (by rfl) (by decide) (by rfl) ?_)))
set_option maxHeartbeats 1000000 in
theorem escapedT_tell {w : World} {x : Str} {t : Tok} (hx : x.length ≤ 100000) (R : List (Addr × Obj)) :
    Tell w 72 [.str x t] 2 R (fun news' r => news' = R ∧ ∃ t', r = .str (tmap escT x) t') := by
  refine Tell.intro fun loose mean mg mb dp un gd cn nm ig ic mr a ccd cl outer A₀ base h₀ L m sh sg sd st so Q E B F X N T hd hu ret => ?_
  refine wpAny_call ?_
  k_dflt k_enter
  rename Fr _ _ _ _ => F1
  refine (let A1 : Around := _; let m1 : Str → Option Value := _; let t1 : Nat := _; have F1 : Fr _ _ _ m1 := F1; (?_ : wpAny _ A1 _ _ _ (Shared.mk _ _ _ t1 _)))
  (repeat' (first | ((with_reducible show wpAny _ _ (call (Value.ref 67) _) _ _ _); k_dflt (refine' Tell.useV (room := 1) ?zB ?zF ?zX ?zN ?zT ?zk ?zd ?zu (escV_tell _) ?_; (case zB => k_asm); (case zF => k_asm); (case zX => k_asm); (case zN => k_asm); (case zT => k_asm); (case zk => first | exact rfl | assumption); (case zd => k_room); (case zu => k_units)); intro t' h' tk' F' N') | ((with_reducible show wpAny _ _ (call (Value.ref 60) _) _ _ _); k_dflt (refine' Tell.useV (room := 1) ?zB ?zF ?zX ?zN ?zT ?zk ?zd ?zu (escT_tell _) ?_; (case zB => k_asm); (case zF => k_asm); (case zX => k_asm); (case zN => k_asm); (case zT => k_asm); (case zk => first | exact rfl | assumption); (case zd => k_room); (case zu => k_units)); intro t' h' tk' F' N') | (k_unfold; (try dsimp only)) | walk1 | (dsimp only; walk1) | (leave1; (try dsimp only))))
  refine ⟨x, t, _, rfl, rfl, by assumption, by assumption, by rw [PySem.sizeLine_eq]; exact Nat.le_trans hx (by decide), ?_⟩
  rintro _ ⟨g9, rfl⟩
  refine map_rest escT ?_ ?_
  · intro c u I oI C oC D m₂ ys h tk E' hC hm F N off ne
    (try k_fold)
    (repeat' (first | ((with_reducible show wpAny _ _ (call (Value.ref 67) _) _ _ _); k_dflt (refine' Tell.useV (room := 1) ?zB ?zF ?zX ?zN ?zT ?zk ?zd ?zu (escV_tell _) ?_; (case zB => k_asm); (case zF => k_asm); (case zX => k_asm); (case zN => k_asm); (case zT => k_asm); (case zk => first | exact rfl | assumption); (case zd => k_room); (case zu => k_units)); intro t' h' tk' F' N') | ((with_reducible show wpAny _ _ (call (Value.ref 60) _) _ _ _); k_dflt (refine' Tell.useV (room := 1) ?zB ?zF ?zX ?zN ?zT ?zk ?zd ?zu (escT_tell _) ?_; (case zB => k_asm); (case zF => k_asm); (case zX => k_asm); (case zN => k_asm); (case zT => k_asm); (case zk => first | exact rfl | assumption); (case zd => k_room); (case zu => k_units)); intro t' h' tk' F' N') | (k_unfold; (try dsimp only)) | walk1 | (dsimp only; walk1) | (leave1; (try dsimp only))))
    refine go_on ?_
    rename News _ _ _ _ => N9
    exact LCg.CompEnd.intro (by assumption) N9 _ (fun p hp => hp) off trivial ⟨rfl, _, rfl⟩
  · intro ys hys
    (repeat' (first | ((with_reducible show wpAny _ _ (call (Value.ref 67) _) _ _ _); k_dflt (refine' Tell.useV (room := 1) ?zB ?zF ?zX ?zN ?zT ?zk ?zd ?zu (escV_tell _) ?_; (case zB => k_asm); (case zF => k_asm); (case zX => k_asm); (case zN => k_asm); (case zT => k_asm); (case zk => first | exact rfl | assumption); (case zd => k_room); (case zu => k_units)); intro t' h' tk' F' N') | ((with_reducible show wpAny _ _ (call (Value.ref 60) _) _ _ _); k_dflt (refine' Tell.useV (room := 1) ?zB ?zF ?zX ?zN ?zT ?zk ?zd ?zu (escT_tell _) ?_; (case zB => k_asm); (case zF => k_asm); (case zX => k_asm); (case zN => k_asm); (case zT => k_asm); (case zk => first | exact rfl | assumption); (case zd => k_room); (case zu => k_units)); intro t' h' tk' F' N') | (k_unfold; (try dsimp only)) | walk1 | (dsimp only; walk1) | (leave1; (try dsimp only))))
    have hb := tmap_len escT_len x
    refine join_led (by assumption) (by k_mem) hys ?_ ?_
    · have e : (Str.ofString "").length = 0 := by decide +kernel
      have e2 := cat_len (x.cps.toList.map escT)
      rw [e, ← e2, List.length_map]
      show (tmap escT x).length + _ * 0 ≤ 16777216
      omega
    intro t9 k9
    rw [join_cat]
    (repeat' (first | ((with_reducible show wpAny _ _ (call (Value.ref 67) _) _ _ _); k_dflt (refine' Tell.useV (room := 1) ?zB ?zF ?zX ?zN ?zT ?zk ?zd ?zu (escV_tell _) ?_; (case zB => k_asm); (case zF => k_asm); (case zX => k_asm); (case zN => k_asm); (case zT => k_asm); (case zk => first | exact rfl | assumption); (case zd => k_room); (case zu => k_units)); intro t' h' tk' F' N') | ((with_reducible show wpAny _ _ (call (Value.ref 60) _) _ _ _); k_dflt (refine' Tell.useV (room := 1) ?zB ?zF ?zX ?zN ?zT ?zk ?zd ?zu (escT_tell _) ?_; (case zB => k_asm); (case zF => k_asm); (case zX => k_asm); (case zN => k_asm); (case zT => k_asm); (case zk => first | exact rfl | assumption); (case zd => k_room); (case zu => k_units)); intro t' h' tk' F' N') | (k_unfold; (try dsimp only)) | walk1 | (dsimp only; walk1) | (leave1; (try dsimp only))))
    exact ret _ _ _ _ (by assumption) (news_sub (by assumption) (by kcf_all)) ⟨rfl, _, rfl⟩

set_option maxHeartbeats 1000000 in
theorem escapedV_tell {w : World} {x : Str} {t : Tok} (hx : x.length ≤ 100000) (R : List (Addr × Obj)) :
    Tell w 77 [.str x t] 2 R (fun news' r => news' = R ∧ ∃ t', r = .str (tmap escV x) t') := by
  refine Tell.intro fun loose mean mg mb dp un gd cn nm ig ic mr a ccd cl outer A₀ base h₀ L m sh sg sd st so Q E B F X N T hd hu ret => ?_
  refine wpAny_call ?_
  k_dflt k_enter
  rename Fr _ _ _ _ => F1
  refine (let A1 : Around := _; let m1 : Str → Option Value := _; let t1 : Nat := _; have F1 : Fr _ _ _ m1 := F1; (?_ : wpAny _ A1 _ _ _ (Shared.mk _ _ _ t1 _)))
  (repeat' (first | ((with_reducible show wpAny _ _ (call (Value.ref 67) _) _ _ _); k_dflt (refine' Tell.useV (room := 1) ?zB ?zF ?zX ?zN ?zT ?zk ?zd ?zu (escV_tell _) ?_; (case zB => k_asm); (case zF => k_asm); (case zX => k_asm); (case zN => k_asm); (case zT => k_asm); (case zk => first | exact rfl | assumption); (case zd => k_room); (case zu => k_units)); intro t' h' tk' F' N') | ((with_reducible show wpAny _ _ (call (Value.ref 60) _) _ _ _); k_dflt (refine' Tell.useV (room := 1) ?zB ?zF ?zX ?zN ?zT ?zk ?zd ?zu (escT_tell _) ?_; (case zB => k_asm); (case zF => k_asm); (case zX => k_asm); (case zN => k_asm); (case zT => k_asm); (case zk => first | exact rfl | assumption); (case zd => k_room); (case zu => k_units)); intro t' h' tk' F' N') | (k_unfold; (try dsimp only)) | walk1 | (dsimp only; walk1) | (leave1; (try dsimp only))))
  refine ⟨x, t, _, rfl, rfl, by assumption, by assumption, by rw [PySem.sizeLine_eq]; exact Nat.le_trans hx (by decide), ?_⟩
  rintro _ ⟨g9, rfl⟩
  refine map_rest escV ?_ ?_
  · intro c u I oI C oC D m₂ ys h tk E' hC hm F N off ne
    (try k_fold)
    (repeat' (first | ((with_reducible show wpAny _ _ (call (Value.ref 67) _) _ _ _); k_dflt (refine' Tell.useV (room := 1) ?zB ?zF ?zX ?zN ?zT ?zk ?zd ?zu (escV_tell _) ?_; (case zB => k_asm); (case zF => k_asm); (case zX => k_asm); (case zN => k_asm); (case zT => k_asm); (case zk => first | exact rfl | assumption); (case zd => k_room); (case zu => k_units)); intro t' h' tk' F' N') | ((with_reducible show wpAny _ _ (call (Value.ref 60) _) _ _ _); k_dflt (refine' Tell.useV (room := 1) ?zB ?zF ?zX ?zN ?zT ?zk ?zd ?zu (escT_tell _) ?_; (case zB => k_asm); (case zF => k_asm); (case zX => k_asm); (case zN => k_asm); (case zT => k_asm); (case zk => first | exact rfl | assumption); (case zd => k_room); (case zu => k_units)); intro t' h' tk' F' N') | (k_unfold; (try dsimp only)) | walk1 | (dsimp only; walk1) | (leave1; (try dsimp only))))
    refine go_on ?_
    rename News _ _ _ _ => N9
    exact LCg.CompEnd.intro (by assumption) N9 _ (fun p hp => hp) off trivial ⟨rfl, _, rfl⟩
  · intro ys hys
    (repeat' (first | ((with_reducible show wpAny _ _ (call (Value.ref 67) _) _ _ _); k_dflt (refine' Tell.useV (room := 1) ?zB ?zF ?zX ?zN ?zT ?zk ?zd ?zu (escV_tell _) ?_; (case zB => k_asm); (case zF => k_asm); (case zX => k_asm); (case zN => k_asm); (case zT => k_asm); (case zk => first | exact rfl | assumption); (case zd => k_room); (case zu => k_units)); intro t' h' tk' F' N') | ((with_reducible show wpAny _ _ (call (Value.ref 60) _) _ _ _); k_dflt (refine' Tell.useV (room := 1) ?zB ?zF ?zX ?zN ?zT ?zk ?zd ?zu (escT_tell _) ?_; (case zB => k_asm); (case zF => k_asm); (case zX => k_asm); (case zN => k_asm); (case zT => k_asm); (case zk => first | exact rfl | assumption); (case zd => k_room); (case zu => k_units)); intro t' h' tk' F' N') | (k_unfold; (try dsimp only)) | walk1 | (dsimp only; walk1) | (leave1; (try dsimp only))))
    have hb := tmap_len escV_len x
    refine join_led (by assumption) (by k_mem) hys ?_ ?_
    · have e : (Str.ofString "").length = 0 := by decide +kernel
      have e2 := cat_len (x.cps.toList.map escV)
      rw [e, ← e2, List.length_map]
      show (tmap escV x).length + _ * 0 ≤ 16777216
      omega
    intro t9 k9
    rw [join_cat]
    (repeat' (first | ((with_reducible show wpAny _ _ (call (Value.ref 67) _) _ _ _); k_dflt (refine' Tell.useV (room := 1) ?zB ?zF ?zX ?zN ?zT ?zk ?zd ?zu (escV_tell _) ?_; (case zB => k_asm); (case zF => k_asm); (case zX => k_asm); (case zN => k_asm); (case zT => k_asm); (case zk => first | exact rfl | assumption); (case zd => k_room); (case zu => k_units)); intro t' h' tk' F' N') | ((with_reducible show wpAny _ _ (call (Value.ref 60) _) _ _ _); k_dflt (refine' Tell.useV (room := 1) ?zB ?zF ?zX ?zN ?zT ?zk ?zd ?zu (escT_tell _) ?_; (case zB => k_asm); (case zF => k_asm); (case zX => k_asm); (case zN => k_asm); (case zT => k_asm); (case zk => first | exact rfl | assumption); (case zd => k_room); (case zu => k_units)); intro t' h' tk' F' N') | (k_unfold; (try dsimp only)) | walk1 | (dsimp only; walk1) | (leave1; (try dsimp only))))
    exact ret _ _ _ _ (by assumption) (news_sub (by assumption) (by kcf_all)) ⟨rfl, _, rfl⟩

def tabV : List (PyData × PyData) := [(.str (Str.ofString "&"), .str (Str.ofString "&amp;")), (.str (Str.ofString "<"), .str (Str.ofString "&lt;")), (.str (Str.ofString "\""), .str (Str.ofString "&quot;")), (.str (Str.ofString "\t"), .str (Str.ofString "&#9;")), (.str (Str.ofString "\n"), .str (Str.ofString "&#10;")), (.str (Str.ofString "\x0d"), .str (Str.ofString "&#13;"))]
def tabT : List (PyData × PyData) := [(.str (Str.ofString "&"), .str (Str.ofString "&amp;")), (.str (Str.ofString "<"), .str (Str.ofString "&lt;")), (.str (Str.ofString ">"), .str (Str.ofString "&gt;")), (.str (Str.ofString "\x0d"), .str (Str.ofString "&#13;"))]
theorem s9 : Str.ofString "\t" = ch 9 := by decide +kernel
theorem s10 : Str.ofString "\n" = ch 10 := by decide +kernel
theorem look_step (a c : Nat) (y : PyData) (r : List (PyData × PyData)) : (Spec.lookup (.str (ch c)) ((.str (ch a), y) :: r)).getD (.str (ch c)) = if c = a then y else (Spec.lookup (.str (ch c)) r).getD (.str (ch c)) := by
  rw [Spec.lookup]
  have : Spec.same (.str (ch a)) (.str (ch c)) = decide (a = c) := ch_beq a c
  rw [this]
  by_cases h : a = c
  · subst h; simp
  · simp [h, Ne.symm h]
theorem lookV (c : Nat) : (Spec.lookup (.str (ch c)) tabV).getD (.str (ch c)) = .str (escV c) := by
  unfold tabV escV
  rw [s38, s60, s34, s9, s10, s13]
  simp only [look_step]
  repeat' split
  all_goals rfl
theorem lookT (c : Nat) : (Spec.lookup (.str (ch c)) tabT).getD (.str (ch c)) = .str (escT c) := by
  unfold tabT escT
  rw [s38, s60, s62, s13]
  simp only [look_step]
  repeat' split
  all_goals rfl
theorem flat_str {v : Value} {x : Str} (h : PyProof.V.Flat v (.str x)) : ∃ t, v = .str x t := by
  have h1 := h {}
  cases h1; exact ⟨_, rfl⟩
theorem same_ch (a b : Nat) : Spec.same (.str (ch a)) (.str (ch b)) = decide (a = b) := ch_beq a b
set_option maxHeartbeats 1000000 in
theorem byTable_tell {w : World} {x : Str} {t : Tok} {d : Addr} {o : Obj} {kvs : List (Str × Value)} {D : List (PyData × PyData)} (f : Nat → Str) (hx : x.length ≤ 100000) (R : List (Addr × Obj)) (hm : (d, o) ∈ R) (lo : (d == sysModules) = false)
    (ho : o.IsDictOf (PySem.strKind PySem.Challenge.rw_xw0213_01.row.prog w) kvs) (hf : PyProof.V.FlatPairs PyData.str kvs D) (hD : ∀ c, (Spec.lookup (.str (ch c)) D).getD (.str (ch c)) = .str (f c)) (hb : ∀ c, (f c).length ≤ 6) :
    Tell w 349 [.str x t, .ref d] 1 R (fun news' r => news' = R ∧ ∃ t', r = .str (tmap f x) t') := by
  refine Tell.intro fun loose mean mg mb dp un gd cn nm ig ic mr a ccd cl outer A₀ base h₀ L m sh sg sd st so Q E B F X N T hd hu ret => ?_
  refine wpAny_call ?_
  k_dflt k_enter
  rename Fr _ _ _ _ => F1
  refine (let A1 : Around := _; let m1 : Str → Option Value := _; let t1 : Nat := _; have F1 : Fr _ _ _ m1 := F1; (?_ : wpAny _ A1 _ _ _ (Shared.mk _ _ _ t1 _)))
  (repeat' (first | ((with_reducible show wpAny _ _ (call (Value.ref 67) _) _ _ _); k_dflt (refine' Tell.useV (room := 1) ?zB ?zF ?zX ?zN ?zT ?zk ?zd ?zu (escV_tell _) ?_; (case zB => k_asm); (case zF => k_asm); (case zX => k_asm); (case zN => k_asm); (case zT => k_asm); (case zk => first | exact rfl | assumption); (case zd => k_room); (case zu => k_units)); intro t' h' tk' F' N') | ((with_reducible show wpAny _ _ (call (Value.ref 60) _) _ _ _); k_dflt (refine' Tell.useV (room := 1) ?zB ?zF ?zX ?zN ?zT ?zk ?zd ?zu (escT_tell _) ?_; (case zB => k_asm); (case zF => k_asm); (case zX => k_asm); (case zN => k_asm); (case zT => k_asm); (case zk => first | exact rfl | assumption); (case zd => k_room); (case zu => k_units)); intro t' h' tk' F' N') | (k_unfold; (try dsimp only)) | walk1 | (dsimp only; walk1) | (leave1; (try dsimp only))))
  refine ⟨x, t, _, rfl, rfl, by assumption, by assumption, by rw [PySem.sizeLine_eq]; exact Nat.le_trans hx (by decide), ?_⟩
  rintro _ ⟨g9, rfl⟩
  refine map_rest f ?_ ?_
  · intro c u I oI C oC D m₂ ys h tk E' hC hm F N off ne
    (try k_fold)
    (repeat' (first | ((with_reducible show wpAny _ _ (call (Value.ref 67) _) _ _ _); k_dflt (refine' Tell.useV (room := 1) ?zB ?zF ?zX ?zN ?zT ?zk ?zd ?zu (escV_tell _) ?_; (case zB => k_asm); (case zF => k_asm); (case zX => k_asm); (case zN => k_asm); (case zT => k_asm); (case zk => first | exact rfl | assumption); (case zd => k_room); (case zu => k_units)); intro t' h' tk' F' N') | ((with_reducible show wpAny _ _ (call (Value.ref 60) _) _ _ _); k_dflt (refine' Tell.useV (room := 1) ?zB ?zF ?zX ?zN ?zT ?zk ?zd ?zu (escT_tell _) ?_; (case zB => k_asm); (case zF => k_asm); (case zX => k_asm); (case zN => k_asm); (case zT => k_asm); (case zk => first | exact rfl | assumption); (case zd => k_room); (case zu => k_units)); intro t' h' tk' F' N') | (k_unfold; (try dsimp only)) | walk1 | (dsimp only; walk1) | (leave1; (try dsimp only))))
    refine go_on ?_
    rename PyProof.V.Flat _ _ => hv9
    rw [hD] at hv9
    obtain ⟨t9, e9⟩ := flat_str hv9
    rename News _ _ _ _ => N9
    exact LCg.CompEnd.intro (by assumption) N9 _ (fun p hp => hp) off trivial ⟨rfl, _, e9⟩
  · intro ys hys
    (repeat' (first | ((with_reducible show wpAny _ _ (call (Value.ref 67) _) _ _ _); k_dflt (refine' Tell.useV (room := 1) ?zB ?zF ?zX ?zN ?zT ?zk ?zd ?zu (escV_tell _) ?_; (case zB => k_asm); (case zF => k_asm); (case zX => k_asm); (case zN => k_asm); (case zT => k_asm); (case zk => first | exact rfl | assumption); (case zd => k_room); (case zu => k_units)); intro t' h' tk' F' N') | ((with_reducible show wpAny _ _ (call (Value.ref 60) _) _ _ _); k_dflt (refine' Tell.useV (room := 1) ?zB ?zF ?zX ?zN ?zT ?zk ?zd ?zu (escT_tell _) ?_; (case zB => k_asm); (case zF => k_asm); (case zX => k_asm); (case zN => k_asm); (case zT => k_asm); (case zk => first | exact rfl | assumption); (case zd => k_room); (case zu => k_units)); intro t' h' tk' F' N') | (k_unfold; (try dsimp only)) | walk1 | (dsimp only; walk1) | (leave1; (try dsimp only))))
    have hb := tmap_len hb x
    refine join_led (by assumption) (by k_mem) hys ?_ ?_
    · have e : (Str.ofString "").length = 0 := by decide +kernel
      have e2 := cat_len (x.cps.toList.map f)
      rw [e, ← e2, List.length_map]
      show (tmap f x).length + _ * 0 ≤ 16777216
      omega
    intro t9 k9
    rw [join_cat]
    (repeat' (first | ((with_reducible show wpAny _ _ (call (Value.ref 67) _) _ _ _); k_dflt (refine' Tell.useV (room := 1) ?zB ?zF ?zX ?zN ?zT ?zk ?zd ?zu (escV_tell _) ?_; (case zB => k_asm); (case zF => k_asm); (case zX => k_asm); (case zN => k_asm); (case zT => k_asm); (case zk => first | exact rfl | assumption); (case zd => k_room); (case zu => k_units)); intro t' h' tk' F' N') | ((with_reducible show wpAny _ _ (call (Value.ref 60) _) _ _ _); k_dflt (refine' Tell.useV (room := 1) ?zB ?zF ?zX ?zN ?zT ?zk ?zd ?zu (escT_tell _) ?_; (case zB => k_asm); (case zF => k_asm); (case zX => k_asm); (case zN => k_asm); (case zT => k_asm); (case zk => first | exact rfl | assumption); (case zd => k_room); (case zu => k_units)); intro t' h' tk' F' N') | (k_unfold; (try dsimp only)) | walk1 | (dsimp only; walk1) | (leave1; (try dsimp only))))
    exact ret _ _ _ _ (by assumption) (news_sub (by assumption) (by kcf_all)) ⟨rfl, _, rfl⟩
set_option maxHeartbeats 1000000 in
theorem quoted_tell {w : World} {x : Str} {t : Tok} (hx : x.length ≤ 100000) (R : List (Addr × Obj)) :
    Tell w 356 [.str x t] 3 R (fun news' r => news' = R ∧ ∃ t', r = .str (Str.ofString "\"" ++ tmap escV x ++ Str.ofString "\"") t') := by
  refine Tell.intro fun loose mean mg mb dp un gd cn nm ig ic mr a ccd cl outer A₀ base h₀ L m sh sg sd st so Q E B F X N T hd hu ret => ?_
  refine wpAny_call ?_
  k_dflt k_enter
  rename Fr _ _ _ _ => F1
  refine (let A1 : Around := _; let m1 : Str → Option Value := _; let t1 : Nat := _; have F1 : Fr _ _ _ m1 := F1; (?_ : wpAny _ A1 _ _ _ (Shared.mk _ _ _ t1 _)))
  (repeat' (first | ((with_reducible show wpAny _ _ (call (Value.ref 349) _) _ _ _); refine stop_at ?_) | ((with_reducible show wpAny _ _ (call (Value.ref 67) _) _ _ _); k_dflt (refine' Tell.useV (room := 1) ?zB ?zF ?zX ?zN ?zT ?zk ?zd ?zu (escV_tell _) ?_; (case zB => k_asm); (case zF => k_asm); (case zX => k_asm); (case zN => k_asm); (case zT => k_asm); (case zk => first | exact rfl | assumption); (case zd => k_room); (case zu => k_units)); intro t' h' tk' F' N') | ((with_reducible show wpAny _ _ (call (Value.ref 60) _) _ _ _); k_dflt (refine' Tell.useV (room := 1) ?zB ?zF ?zX ?zN ?zT ?zk ?zd ?zu (escT_tell _) ?_; (case zB => k_asm); (case zF => k_asm); (case zX => k_asm); (case zN => k_asm); (case zT => k_asm); (case zk => first | exact rfl | assumption); (case zd => k_room); (case zu => k_units)); intro t' h' tk' F' N') | (k_unfold; (try dsimp only)) | walk1 | (dsimp only; walk1) | (leave1; (try dsimp only))))
  refine go_on ?_
  k_dflt (refine' Tell.use (room := 1) ?B ?F ?X ?N ?T ?k ?d ?u (byTable_tell escV hx _ ?m ?lo ?ho ?hf lookV escV_len) (fun p hp => hp) ?_; (case B => k_asm); (case F => k_asm); (case X => k_asm); (case N => k_asm); (case T => k_asm); (case k => first | exact rfl | assumption); (case d => ktr_room); (case u => ktr_units); (case m => k_mem); (case lo => assumption); (case ho => assumption); (case hf => assumption))
  rintro r news' h' tk' F' N' ⟨rfl, t', rfl⟩
  have hb := tmap_len escV_len x
  (repeat' (first | ((with_reducible show wpAny _ _ (call (Value.ref 349) _) _ _ _); refine stop_at ?_) | ((with_reducible show wpAny _ _ (call (Value.ref 67) _) _ _ _); k_dflt (refine' Tell.useV (room := 1) ?zB ?zF ?zX ?zN ?zT ?zk ?zd ?zu (escV_tell _) ?_; (case zB => k_asm); (case zF => k_asm); (case zX => k_asm); (case zN => k_asm); (case zT => k_asm); (case zk => first | exact rfl | assumption); (case zd => k_room); (case zu => k_units)); intro t' h' tk' F' N') | ((with_reducible show wpAny _ _ (call (Value.ref 60) _) _ _ _); k_dflt (refine' Tell.useV (room := 1) ?zB ?zF ?zX ?zN ?zT ?zk ?zd ?zu (escT_tell _) ?_; (case zB => k_asm); (case zF => k_asm); (case zX => k_asm); (case zN => k_asm); (case zT => k_asm); (case zk => first | exact rfl | assumption); (case zd => k_room); (case zu => k_units)); intro t' h' tk' F' N') | (k_unfold; (try dsimp only)) | walk1 | (dsimp only; walk1) | (leave1; (try dsimp only))))
  exact ret _ _ _ _ (by assumption) (news_sub (by assumption) (by kcf_all)) ⟨rfl, _, rfl⟩
end

theorem reset_C6 (h : PySem.Heap) : PySem.W.GrownAll [] h := by
  w_top off
  walk1
section
open PySem PySem.W PyProof.Rows
set_option Elab.async false
set_option maxRecDepth 100000
set_option linter.unusedSimpArgs false
set_option hygiene false
theorem fillK6 : (fun (_ : Params → Frag) (_ : OpenLaw) => True) Mine.K PySem.Challenge.rw_xw0213_01 := by k_fill; trivial
/-- a Tree object t whose list of rows is l -/
def TreeAt (news : List (Addr × Obj)) (t l : Addr) : Prop := ∃ td h tk, (t, instObj 312 td) ∈ news ∧ (td, dictOf [⟨h, .str (Str.ofString "rows") tk, .ref l⟩] 1) ∈ news
theorem TreeAt.mono {n n' : List (Addr × Obj)} {t l : Addr} (h : TreeAt n t l) (hs : ∀ p ∈ n, p ∈ n') : TreeAt n' t l := let ⟨td, a, b, x, y⟩ := h; ⟨td, a, b, hs _ x, hs _ y⟩
structure NodeD where
  kind : Str
  name : Str
  uri : Str
  loc : Str
  val : Str
  par : Value
  ch : Addr
  at' : Addr
  ns : Addr
/-- a row of the tree -/
def NodeAt (news : List (Addr × Obj)) (a : Addr) (d : NodeD) : Prop := ∃ dx es n t1 t2 t3 t4 t5, (a, instObj 123 dx) ∈ news ∧ (dx, dictOf es n) ∈ news ∧
  getL (Str.ofString "kind") es = some (some (.str d.kind t1)) ∧ getL (Str.ofString "name") es = some (some (.str d.name t2)) ∧ getL (Str.ofString "uri") es = some (some (.str d.uri t3)) ∧
  getL (Str.ofString "local") es = some (some (.str d.loc t4)) ∧ getL (Str.ofString "value") es = some (some (.str d.val t5)) ∧
  getL (Str.ofString "children") es = some (some (.ref d.ch)) ∧ getL (Str.ofString "attributes") es = some (some (.ref d.at')) ∧ getL (Str.ofString "namespaces") es = some (some (.ref d.ns))
theorem NodeAt.mono {n n' : List (Addr × Obj)} {a : Addr} {d : NodeD} (h : NodeAt n a d) (hs : ∀ p ∈ n, p ∈ n') : NodeAt n' a d := let ⟨a1, a2, a3, a4, a5, a6, a7, a8, x, y, r⟩ := h; ⟨a1, a2, a3, a4, a5, a6, a7, a8, hs _ x, hs _ y, r⟩
local macro_rules | `(tactic| walk_at "getAttr ref") => `(tactic| (k_here; k_dflt (refine' get_own ?zk1 ?zk2 ?zk3 ?zk4 ?zk5 ?zk6 ?zk7 ?zk8 ?zk9 ?_; (case zk1 => k_asm); (case zk2 => k_asm); (case zk3 => k_inst); (case zk4 => k_is); (case zk5 => k_is); (case zk6 => k_is); (case zk7 => k_is); (case zk8 => assumption); (case zk9 => k_handed); k_whole)))
set_option maxHeartbeats 1000000 in
theorem row_tell {w : World} {t l a : Addr} {i : Int} {tk : Tok} {rows : List Value} {k : Nat} (R : List (Addr × Obj)) (hT : TreeAt R t l) (hl : (l, listOf rows.toArray k) ∈ R) (h0 : 0 ≤ i) (hz : rows.length ≤ 100000) (hi : rows[i.toNat]? = some (.ref a)) :
    Tell w 155 [.ref t, .int i tk] 1 R (fun news' r => news' = R ∧ r = .ref a) := by
  obtain ⟨td, hh, htk, hT1, hT2⟩ := hT
  have h1 : i < (rows.length : Int) := by
    obtain ⟨hl, _⟩ := List.getElem?_eq_some_iff.mp hi
    omega
  refine Tell.intro fun loose mean mg mb dp un gd cn nm ig ic mr a ccd cl outer A₀ base h₀ L m sh sg sd st so Q E B F X N T hd hu ret => ?_
  refine wpAny_call ?_
  k_dflt k_enter
  rename Fr _ _ _ _ => F1
  refine (let A1 : Around := _; let m1 : Str → Option Value := _; let t1 : Nat := _; have F1 : Fr _ _ _ m1 := F1; (?_ : wpAny _ A1 _ _ _ (Shared.mk _ _ _ t1 _)))
  (repeat' (first | (k_here; (with_reducible show wpAny _ _ (subscriptTail _ _ (Value.ref _) (Value.int _ _)) _ _ _); (with_unfolding_all refine' item_led ?zk1 ?zk2 ?zk4 ?zk5 ?zk6 ?_ ?zk7; (case zk1 => k_asm); (case zk2 => k_mem); (case zk4 => omega); (case zk5 => omega); (case zk6 => omega); (case zk7 => with_unfolding_all rfl); k_whole); intro v' hv') | (k_here; (with_reducible show wpAny _ _ (call (Value.builtin "len") [Value.ref _]) _ _ _); k_dflt (refine' len_led ?zk1 ?zk2 ?zk4 ?_; (case zk1 => k_asm); (case zk2 => k_mem); (case zk4 => omega); k_whole)) | (k_unfold; (try dsimp only)) | walk1 | (dsimp only; walk1) | (leave1; (try dsimp only))))
  rename rows[_]? = some _ => hv9
  rw [hi] at hv9
  obtain rfl := Option.some.inj hv9
  exact ret _ _ _ _ (by assumption) (by assumption) ⟨rfl, rfl⟩
set_option maxHeartbeats 1000000 in
theorem kind_tell {w : World} {t l a : Addr} {i : Int} {tk : Tok} {rows : List Value} {k : Nat} {d : NodeD} (R : List (Addr × Obj)) (hT : TreeAt R t l) (hl : (l, listOf rows.toArray k) ∈ R) (h0 : 0 ≤ i) (hz : rows.length ≤ 100000) (hi : rows[i.toNat]? = some (.ref a)) (hN : NodeAt R a d) :
    Tell w 232 [.ref t, .int i tk] 2 R (fun news' r => news' = R ∧ ∃ t', r = .str d.kind t') := by
  have hT0 := hT
  obtain ⟨td, hh, htk, hT1, hT2⟩ := hT
  obtain ⟨dx, es, n, t1, t2, t3, t4, t5, hN1, hN2, g1, g2, g3, g4, g5, g6, g7, g8⟩ := hN
  refine Tell.intro fun loose mean mg mb dp un gd cn nm ig ic mr a ccd cl outer A₀ base h₀ L m sh sg sd st so Q E B F X N T hd hu ret => ?_
  refine wpAny_call ?_
  k_dflt k_enter
  rename Fr _ _ _ _ => F1
  refine (let A1 : Around := _; let m1 : Str → Option Value := _; let t1 : Nat := _; have F1 : Fr _ _ _ m1 := F1; (?_ : wpAny _ A1 _ _ _ (Shared.mk _ _ _ t1 _)))
  (repeat' (first | ((with_reducible show wpAny _ _ (call (Value.ref 155) _) _ _ _); k_dflt (refine' Tell.useC (room := 1) ?zB ?zF ?zX ?zN ?zT ?zk ?zd ?zu (row_tell _ ?zhT ?zhl ?zh0 ?zhz ?zhi) ?_; (case zB => k_asm); (case zF => k_asm); (case zX => k_asm); (case zN => k_asm); (case zT => k_asm); (case zk => first | exact rfl | assumption); (case zd => k_room); (case zu => k_units); (case zhT => assumption); (case zhl => k_mem); (case zhi => first | assumption | exact rfl); (case zh0 => omega); (case zhz => omega)); intro h' tk' F' N') | (k_here; (with_reducible show wpAny _ _ (subscriptTail _ _ (Value.ref _) (Value.int _ _)) _ _ _); (with_unfolding_all refine' item_led ?zk1 ?zk2 ?zk4 ?zk5 ?zk6 ?_ ?zk7; (case zk1 => k_asm); (case zk2 => k_mem); (case zk4 => omega); (case zk5 => omega); (case zk6 => omega); (case zk7 => with_unfolding_all rfl); k_whole); intro v' hv') | (k_here; (with_reducible show wpAny _ _ (call (Value.builtin "len") [Value.ref _]) _ _ _); k_dflt (refine' len_led ?zk1 ?zk2 ?zk4 ?_; (case zk1 => k_asm); (case zk2 => k_mem); (case zk4 => omega); k_whole)) | (k_unfold; (try dsimp only)) | walk1 | (dsimp only; walk1) | (leave1; (try dsimp only))))
  exact ret _ _ _ _ (by assumption) (by assumption) ⟨rfl, _, rfl⟩
set_option maxHeartbeats 1000000 in
theorem name_tell {w : World} {t l a : Addr} {i : Int} {tk : Tok} {rows : List Value} {k : Nat} {d : NodeD} (R : List (Addr × Obj)) (hT : TreeAt R t l) (hl : (l, listOf rows.toArray k) ∈ R) (h0 : 0 ≤ i) (hz : rows.length ≤ 100000) (hi : rows[i.toNat]? = some (.ref a)) (hN : NodeAt R a d) :
    Tell w 239 [.ref t, .int i tk] 2 R (fun news' r => news' = R ∧ ∃ t', r = .str d.name t') := by
  have hT0 := hT
  obtain ⟨td, hh, htk, hT1, hT2⟩ := hT
  obtain ⟨dx, es, n, t1, t2, t3, t4, t5, hN1, hN2, g1, g2, g3, g4, g5, g6, g7, g8⟩ := hN
  refine Tell.intro fun loose mean mg mb dp un gd cn nm ig ic mr a ccd cl outer A₀ base h₀ L m sh sg sd st so Q E B F X N T hd hu ret => ?_
  refine wpAny_call ?_
  k_dflt k_enter
  rename Fr _ _ _ _ => F1
  refine (let A1 : Around := _; let m1 : Str → Option Value := _; let t1 : Nat := _; have F1 : Fr _ _ _ m1 := F1; (?_ : wpAny _ A1 _ _ _ (Shared.mk _ _ _ t1 _)))
  (repeat' (first | ((with_reducible show wpAny _ _ (call (Value.ref 155) _) _ _ _); k_dflt (refine' Tell.useC (room := 1) ?zB ?zF ?zX ?zN ?zT ?zk ?zd ?zu (row_tell _ ?zhT ?zhl ?zh0 ?zhz ?zhi) ?_; (case zB => k_asm); (case zF => k_asm); (case zX => k_asm); (case zN => k_asm); (case zT => k_asm); (case zk => first | exact rfl | assumption); (case zd => k_room); (case zu => k_units); (case zhT => assumption); (case zhl => k_mem); (case zhi => first | assumption | exact rfl); (case zh0 => omega); (case zhz => omega)); intro h' tk' F' N') | (k_here; (with_reducible show wpAny _ _ (subscriptTail _ _ (Value.ref _) (Value.int _ _)) _ _ _); (with_unfolding_all refine' item_led ?zk1 ?zk2 ?zk4 ?zk5 ?zk6 ?_ ?zk7; (case zk1 => k_asm); (case zk2 => k_mem); (case zk4 => omega); (case zk5 => omega); (case zk6 => omega); (case zk7 => with_unfolding_all rfl); k_whole); intro v' hv') | (k_here; (with_reducible show wpAny _ _ (call (Value.builtin "len") [Value.ref _]) _ _ _); k_dflt (refine' len_led ?zk1 ?zk2 ?zk4 ?_; (case zk1 => k_asm); (case zk2 => k_mem); (case zk4 => omega); k_whole)) | (k_unfold; (try dsimp only)) | walk1 | (dsimp only; walk1) | (leave1; (try dsimp only))))
  exact ret _ _ _ _ (by assumption) (by assumption) ⟨rfl, _, rfl⟩
set_option maxHeartbeats 1000000 in
theorem value_tell {w : World} {t l a : Addr} {i : Int} {tk : Tok} {rows : List Value} {k : Nat} {d : NodeD} (R : List (Addr × Obj)) (hT : TreeAt R t l) (hl : (l, listOf rows.toArray k) ∈ R) (h0 : 0 ≤ i) (hz : rows.length ≤ 100000) (hi : rows[i.toNat]? = some (.ref a)) (hN : NodeAt R a d) :
    Tell w 260 [.ref t, .int i tk] 2 R (fun news' r => news' = R ∧ ∃ t', r = .str d.val t') := by
  have hT0 := hT
  obtain ⟨td, hh, htk, hT1, hT2⟩ := hT
  obtain ⟨dx, es, n, t1, t2, t3, t4, t5, hN1, hN2, g1, g2, g3, g4, g5, g6, g7, g8⟩ := hN
  refine Tell.intro fun loose mean mg mb dp un gd cn nm ig ic mr a ccd cl outer A₀ base h₀ L m sh sg sd st so Q E B F X N T hd hu ret => ?_
  refine wpAny_call ?_
  k_dflt k_enter
  rename Fr _ _ _ _ => F1
  refine (let A1 : Around := _; let m1 : Str → Option Value := _; let t1 : Nat := _; have F1 : Fr _ _ _ m1 := F1; (?_ : wpAny _ A1 _ _ _ (Shared.mk _ _ _ t1 _)))
  (repeat' (first | ((with_reducible show wpAny _ _ (call (Value.ref 155) _) _ _ _); k_dflt (refine' Tell.useC (room := 1) ?zB ?zF ?zX ?zN ?zT ?zk ?zd ?zu (row_tell _ ?zhT ?zhl ?zh0 ?zhz ?zhi) ?_; (case zB => k_asm); (case zF => k_asm); (case zX => k_asm); (case zN => k_asm); (case zT => k_asm); (case zk => first | exact rfl | assumption); (case zd => k_room); (case zu => k_units); (case zhT => assumption); (case zhl => k_mem); (case zhi => first | assumption | exact rfl); (case zh0 => omega); (case zhz => omega)); intro h' tk' F' N') | (k_here; (with_reducible show wpAny _ _ (subscriptTail _ _ (Value.ref _) (Value.int _ _)) _ _ _); (with_unfolding_all refine' item_led ?zk1 ?zk2 ?zk4 ?zk5 ?zk6 ?_ ?zk7; (case zk1 => k_asm); (case zk2 => k_mem); (case zk4 => omega); (case zk5 => omega); (case zk6 => omega); (case zk7 => with_unfolding_all rfl); k_whole); intro v' hv') | (k_here; (with_reducible show wpAny _ _ (call (Value.builtin "len") [Value.ref _]) _ _ _); k_dflt (refine' len_led ?zk1 ?zk2 ?zk4 ?_; (case zk1 => k_asm); (case zk2 => k_mem); (case zk4 => omega); k_whole)) | (k_unfold; (try dsimp only)) | walk1 | (dsimp only; walk1) | (leave1; (try dsimp only))))
  exact ret _ _ _ _ (by assumption) (by assumption) ⟨rfl, _, rfl⟩
set_option maxHeartbeats 1000000 in
theorem attributes_tell {w : World} {t l a : Addr} {i : Int} {tk : Tok} {rows ats : List Value} {k ka : Nat} {d : NodeD} (R : List (Addr × Obj)) (hT : TreeAt R t l) (hl : (l, listOf rows.toArray k) ∈ R) (h0 : 0 ≤ i) (hz : rows.length ≤ 100000) (hi : rows[i.toNat]? = some (.ref a)) (hN : NodeAt R a d) (hat : (d.at', listOf ats.toArray ka) ∈ R) (hza : ats.length ≤ 100000) :
    Tell w 281 [.ref t, .int i tk] 2 R (fun news' r => ∃ b k', news' = (b, listOf ats.toArray k') :: R ∧ r = .ref b) := by
  have hT0 := hT
  obtain ⟨td, hh, htk, hT1, hT2⟩ := hT
  obtain ⟨dx, es, n, t1, t2, t3, t4, t5, hN1, hN2, g1, g2, g3, g4, g5, g6, g7, g8⟩ := hN
  refine Tell.intro fun loose mean mg mb dp un gd cn nm ig ic mr a ccd cl outer A₀ base h₀ L m sh sg sd st so Q E B F X N T hd hu ret => ?_
  refine wpAny_call ?_
  k_dflt k_enter
  rename Fr _ _ _ _ => F1
  refine (let A1 : Around := _; let m1 : Str → Option Value := _; let t1 : Nat := _; have F1 : Fr _ _ _ m1 := F1; (?_ : wpAny _ A1 _ _ _ (Shared.mk _ _ _ t1 _)))
  (repeat' (first | ((with_reducible show wpAny _ _ (call (Value.ref 155) _) _ _ _); k_dflt (refine' Tell.useC (room := 1) ?zB ?zF ?zX ?zN ?zT ?zk ?zd ?zu (row_tell _ ?zhT ?zhl ?zh0 ?zhz ?zhi) ?_; (case zB => k_asm); (case zF => k_asm); (case zX => k_asm); (case zN => k_asm); (case zT => k_asm); (case zk => first | exact rfl | assumption); (case zd => k_room); (case zu => k_units); (case zhT => assumption); (case zhl => k_mem); (case zhi => first | assumption | exact rfl); (case zh0 => omega); (case zhz => omega)); intro h' tk' F' N') | (k_here; (with_reducible show wpAny _ _ (subscriptTail _ _ (Value.ref _) (Value.int _ _)) _ _ _); (with_unfolding_all refine' item_led ?zk1 ?zk2 ?zk4 ?zk5 ?zk6 ?_ ?zk7; (case zk1 => k_asm); (case zk2 => k_mem); (case zk4 => omega); (case zk5 => omega); (case zk6 => omega); (case zk7 => with_unfolding_all rfl); k_whole); intro v' hv') | (k_here; (with_reducible show wpAny _ _ (call (Value.builtin "len") [Value.ref _]) _ _ _); k_dflt (refine' len_led ?zk1 ?zk2 ?zk4 ?_; (case zk1 => k_asm); (case zk2 => k_mem); (case zk4 => omega); k_whole)) | (k_unfold; (try dsimp only)) | walk1 | (dsimp only; walk1) | (leave1; (try dsimp only))))
  refine' list_copyK (items := ats.toArray) ?F ?N ?l (fun D c h' F' N' l1 => ?_) ?z
  case F => assumption
  case N => assumption
  case l => exact ⟨_, News.get (by assumption) hat, rfl, _, rfl⟩
  case z => rw [PySem.sizeLine_eq, List.size_toArray]; omega
  (repeat' (first | ((with_reducible show wpAny _ _ (call (Value.ref 155) _) _ _ _); k_dflt (refine' Tell.useC (room := 1) ?zB ?zF ?zX ?zN ?zT ?zk ?zd ?zu (row_tell _ ?zhT ?zhl ?zh0 ?zhz ?zhi) ?_; (case zB => k_asm); (case zF => k_asm); (case zX => k_asm); (case zN => k_asm); (case zT => k_asm); (case zk => first | exact rfl | assumption); (case zd => k_room); (case zu => k_units); (case zhT => assumption); (case zhl => k_mem); (case zhi => first | assumption | exact rfl); (case zh0 => omega); (case zhz => omega)); intro h' tk' F' N') | (k_here; (with_reducible show wpAny _ _ (subscriptTail _ _ (Value.ref _) (Value.int _ _)) _ _ _); (with_unfolding_all refine' item_led ?zk1 ?zk2 ?zk4 ?zk5 ?zk6 ?_ ?zk7; (case zk1 => k_asm); (case zk2 => k_mem); (case zk4 => omega); (case zk5 => omega); (case zk6 => omega); (case zk7 => with_unfolding_all rfl); k_whole); intro v' hv') | (k_here; (with_reducible show wpAny _ _ (call (Value.builtin "len") [Value.ref _]) _ _ _); k_dflt (refine' len_led ?zk1 ?zk2 ?zk4 ?_; (case zk1 => k_asm); (case zk2 => k_mem); (case zk4 => omega); k_whole)) | (k_unfold; (try dsimp only)) | walk1 | (dsimp only; walk1) | (leave1; (try dsimp only))))
  exact ret _ _ _ _ (by assumption) (by assumption) ⟨_, _, rfl, rfl⟩
end

theorem reset_C7 (h : PySem.Heap) : PySem.W.GrownAll [] h := by
  w_top off
  walk1
section
open PySem PySem.W PyProof.Rows
set_option Elab.async false
set_option maxRecDepth 100000
set_option linter.unusedSimpArgs false
set_option hygiene false
theorem fillK7 : (fun (_ : Params → Frag) (_ : OpenLaw) => True) Mine.K PySem.Challenge.rw_xw0213_01 := by k_fill; trivial
local macro_rules | `(tactic| walk_at "getAttr ref") => `(tactic| (k_here; k_dflt (refine' get_own ?zk1 ?zk2 ?zk3 ?zk4 ?zk5 ?zk6 ?zk7 ?zk8 ?zk9 ?_; (case zk1 => k_asm); (case zk2 => k_asm); (case zk3 => k_inst); (case zk4 => k_is); (case zk5 => k_is); (case zk6 => k_is); (case zk7 => k_is); (case zk8 => first | assumption | k_get); (case zk9 => k_handed); k_whole)))
section
variable {prog : Program} {w : World} {A : Around} {E : Value → Shared → Prop} {s : Shared} {h₀ : Heap} {L l : Addr} {news : List (Addr × Obj)}
theorem len_arr {its : Array Value} {n : Nat} {Q : Value → Shared → Prop} (N : News h₀ L s.heap news) (hm : (l, listOf its n) ∈ news) (hfit : (its.size : Int) < 2 ^ 63)
    (h : Q (.int (its.size : Int) (s.toks + 1)) { s with toks := s.toks + 1 + 1 }) : wpAny (model prog w) A (call (.builtin "len") [.ref l]) Q E s := by
  have hl : s.heap.IsList l its := ⟨_, (N _ hm).1, rfl, n, rfl⟩
  exact len_list hl hfit h
end
theorem int_val {a b : Int} {t : Tok} (h : a = b) : Value.int a t = Value.int b t := by rw [h]
structure Kept (h₀ : Heap) (L : Addr) (h : Heap) (R : List (Addr × Obj)) : Prop where
  out : News h₀ L h R
/-- what lies off a callee's ledger stands, and is none of what the callee makes -/
theorem with_kept {α : Type} {M : Model} {A : Around} {t : Sem α} {Q : α → Shared → Prop} {E : Value → Shared → Prop} {s₉ : Shared} {H g h₀ : Heap} {L L' l : Addr} {m₉ : Str → Option Value} {R news₁ news₉ : List (Addr × Obj)}
    (kG : GSub H g (news₁.map (·.1))) (hN0 : ∀ p ∈ R, H.get? p.1 = some p.2 ∧ p.1 ≠ L ∧ h₀.get? p.1 = none) (N1 : ∀ q ∈ news₁, H.get? q.1 = some q.2) (hR : ∀ p ∈ R, p.1 ≠ l)
    (F₉ : Fr g L' s₉.heap m₉) (N₉ : News g L' s₉.heap news₉) (hsub : ∀ q ∈ news₁, q.1 = l ∨ q ∈ news₉)
    (cont : Kept h₀ L s₉.heap R → (∀ p ∈ R, ∀ q ∈ news₉, q.1 ∉ news₁.map (·.1) → p.1 ≠ q.1) → wpAny M A t Q E s₉) : wpAny M A t Q E s₉ := by
  have key : ∀ p ∈ R, (p.1 ∈ news₁.map (·.1) ∧ p ∈ news₉) ∨ (p.1 ∉ news₁.map (·.1) ∧ g.get? p.1 = some p.2) := by
    intro p hp
    by_cases hm : p.1 ∈ news₁.map (·.1)
    · refine .inl ⟨hm, ?_⟩
      obtain ⟨q, hq, e⟩ := List.mem_map.mp hm
      have h1 := N1 q hq
      have h2 := (hN0 p hp).1
      rw [e, h2] at h1
      have e2 : q = p := Prod.ext e (Option.some.inj h1).symm
      rcases hsub q hq with e3 | h3
      · exact absurd (e ▸ e3) (hR p hp)
      · exact e2 ▸ h3
    · exact .inr ⟨hm, kG _ _ (hN0 p hp).1 hm⟩
  refine cont ⟨fun p hp => ⟨?_, (hN0 p hp).2⟩⟩ fun p hp q hq hn e => ?_
  · rcases key p hp with ⟨_, h⟩ | ⟨_, h⟩
    · exact (N₉ p h).1
    · exact F₉.keep _ _ h
  · rcases key p hp with ⟨h, _⟩ | ⟨_, h⟩
    · exact hn (e ▸ h)
    · have := (N₉ q hq).2.2
      rw [← e, h] at this
      cases this
/-- the entries of a row's dict -/
def Flds (es : List DictEntry) (d : NodeD) : Prop := ∃ t1 t2 t3 t4 t5,
  getL (Str.ofString "kind") es = some (some (.str d.kind t1)) ∧ getL (Str.ofString "name") es = some (some (.str d.name t2)) ∧ getL (Str.ofString "uri") es = some (some (.str d.uri t3)) ∧
  getL (Str.ofString "local") es = some (some (.str d.loc t4)) ∧ getL (Str.ofString "value") es = some (some (.str d.val t5)) ∧
  getL (Str.ofString "children") es = some (some (.ref d.ch)) ∧ getL (Str.ofString "attributes") es = some (some (.ref d.at')) ∧ getL (Str.ofString "namespaces") es = some (some (.ref d.ns))
def newRow (a dx : Addr) (es : List DictEntry) (n : Nat) (d : NodeD) : List (Addr × Obj) := [(a, instObj 123 dx), (dx, dictOf es n), (d.ch, listOf #[] 0), (d.at', listOf #[] 0), (d.ns, listOf #[] 0)]
theorem newRow_end {h₀ h₉ : Heap} {L l t td a dx ch at' ns : Addr} {R rest : List (Addr × Obj)} {o₀ o₉ : Obj} {ol ot od : Obj} {es : List DictEntry} {n : Nat} (kd nm ur lo va : Str) (par : Value)
    (kN : News h₀ L h₉ ((ns, listOf #[] 0) :: (at', listOf #[] 0) :: (ch, listOf #[] 0) :: (a, instObj 123 dx) :: (dx, dictOf es n) :: (l, o₉) :: rest)) (hK : Kept h₀ L h₉ R)
    (hK2 : ∀ p ∈ R, ∀ q ∈ (ns, listOf #[] 0) :: (at', listOf #[] 0) :: (ch, listOf #[] 0) :: (a, instObj 123 dx) :: (dx, dictOf es n) :: (l, o₉) :: rest, q.1 ∉ [(l, ol), (t, ot), (td, od)].map (·.1) → p.1 ≠ q.1)
    (h1 : @LT.lt Nat _ l dx) (h2 : @LT.lt Nat _ t dx) (h3 : @LT.lt Nat _ td dx) (h4 : @LT.lt Nat _ dx a) (h5 : @LT.lt Nat _ a ch) (h6 : @LT.lt Nat _ ch at') (h7 : @LT.lt Nat _ at' ns) :
    News h₀ L h₉ ((l, o₉) :: (newRow a dx es n ⟨kd, nm, ur, lo, va, par, ch, at', ns⟩ ++ R)) ∧ (∀ p ∈ (l, o₀) :: R, p.1 ≠ a ∧ p.1 ≠ dx ∧ p.1 ≠ ch ∧ p.1 ≠ at' ∧ p.1 ≠ ns) ∧ (@LT.lt Nat _ dx a ∧ @LT.lt Nat _ a ch ∧ @LT.lt Nat _ ch at' ∧ @LT.lt Nat _ at' ns) := by
  have ap : ∀ c : Addr, @LE.le Nat _ dx c → c ∉ [(l, ol), (t, ot), (td, od)].map (·.1) := by
    intro c hc hm
    simp only [List.map_cons, List.map_nil, List.mem_cons, List.not_mem_nil, or_false] at hm
    rcases hm with rfl | rfl | rfl
    · exact Nat.lt_irrefl _ (Nat.lt_of_lt_of_le h1 hc)
    · exact Nat.lt_irrefl _ (Nat.lt_of_lt_of_le h2 hc)
    · exact Nat.lt_irrefl _ (Nat.lt_of_lt_of_le h3 hc)
  have b1 : @LE.le Nat _ dx a := by omega
  have b2 : @LE.le Nat _ dx ch := by omega
  have b3 : @LE.le Nat _ dx at' := by omega
  have b4 : @LE.le Nat _ dx ns := by omega
  refine ⟨fun p hp => ?_, fun p hp => ?_, h4, h5, h6, h7⟩
  · simp only [newRow, List.cons_append, List.nil_append, List.mem_cons] at hp
    rcases hp with rfl | rfl | rfl | rfl | rfl | rfl | hp
    · exact kN _ (by kcf_m)
    · exact kN _ (by kcf_m)
    · exact kN _ (by kcf_m)
    · exact kN _ (by kcf_m)
    · exact kN _ (by kcf_m)
    · exact kN _ (by kcf_m)
    · exact hK.out p hp
  · rcases List.mem_cons.mp hp with rfl | hp
    · refine ⟨?_, ?_, ?_, ?_, ?_⟩ <;> refine neN ?_ <;> dsimp only <;> omega
    · exact ⟨hK2 p hp (a, instObj 123 dx) (by kcf_m) (ap _ b1), hK2 p hp (dx, dictOf es n) (by kcf_m) (ap _ (Nat.le_refl _)), hK2 p hp (ch, listOf #[] 0) (by kcf_m) (ap _ b2), hK2 p hp (at', listOf #[] 0) (by kcf_m) (ap _ b3), hK2 p hp (ns, listOf #[] 0) (by kcf_m) (ap _ b4)⟩
theorem nodeAt_of {R : List (Addr × Obj)} {a dx : Addr} {es : List DictEntry} {n : Nat} {d : NodeD} (h : Flds es d) (m1 : (a, instObj 123 dx) ∈ R) (m2 : (dx, dictOf es n) ∈ R) : NodeAt R a d :=
  let ⟨t1, t2, t3, t4, t5, r⟩ := h
  ⟨dx, es, n, t1, t2, t3, t4, t5, m1, m2, r⟩
/-- what a new row brings -/
def RowRet (l : Addr) (rows : List Value) (k : Nat) (R : List (Addr × Obj)) (kd nm ur lo va : Str) (par : Value) (news' : List (Addr × Obj)) (r : Value) : Prop := ∃ a dx es n ch at' ns k' tr,
      news' = (l, listOf (rows ++ [Value.ref a]).toArray k') :: (newRow a dx es n ⟨kd, nm, ur, lo, va, par, ch, at', ns⟩ ++ R) ∧ Flds es ⟨kd, nm, ur, lo, va, par, ch, at', ns⟩ ∧
      (∀ p ∈ (l, listOf rows.toArray k) :: R, p.1 ≠ a ∧ p.1 ≠ dx ∧ p.1 ≠ ch ∧ p.1 ≠ at' ∧ p.1 ≠ ns) ∧ (@LT.lt Nat _ dx a ∧ @LT.lt Nat _ a ch ∧ @LT.lt Nat _ ch at' ∧ @LT.lt Nat _ at' ns) ∧ r = .int (rows.length : Int) tr
theorem RowRet.mk {l a dx ch at' ns : Addr} {rows : List Value} {k n k' : Nat} {R : List (Addr × Obj)} {kd nm ur lo va : Str} {par r : Value} {es : List DictEntry} {tr : Tok} {news' : List (Addr × Obj)}
    (e : news' = (l, listOf (rows ++ [Value.ref a]).toArray k') :: (newRow a dx es n ⟨kd, nm, ur, lo, va, par, ch, at', ns⟩ ++ R)) (h1 : Flds es ⟨kd, nm, ur, lo, va, par, ch, at', ns⟩)
    (h2 : ∀ p ∈ (l, listOf rows.toArray k) :: R, p.1 ≠ a ∧ p.1 ≠ dx ∧ p.1 ≠ ch ∧ p.1 ≠ at' ∧ p.1 ≠ ns) (h3 : @LT.lt Nat _ dx a ∧ @LT.lt Nat _ a ch ∧ @LT.lt Nat _ ch at' ∧ @LT.lt Nat _ at' ns) (hr : r = .int (rows.length : Int) tr) : RowRet l rows k R kd nm ur lo va par news' r :=
  ⟨a, dx, es, n, ch, at', ns, k', tr, e, h1, h2, h3, hr⟩
set_option maxHeartbeats 4000000 in
theorem newRow_tell {w : World} {t l : Addr} {rows : List Value} {k : Nat} {kd nm0 ur lo va : Str} {t1 t2 t3 t4 t5 : Tok} {par : Value} (R : List (Addr × Obj)) (hR : ∀ p ∈ R, p.1 ≠ l) (hT : TreeAt R t l) (hz : rows.length ≤ 100000) (hp : handedIn par = true) :
    Tell w 148 [.ref t, .str kd t1, .str nm0 t2, .str ur t3, .str lo t4, .str va t5, par] 2 ((l, listOf rows.toArray k) :: R) (RowRet l rows k R kd nm0 ur lo va par) := by
  obtain ⟨td, hh, htk, hT1, hT2⟩ := hT
  unfold Tell
  intro loose mean mg mb dp un gd cn cs a ccd cl outer A₀ base h₀ L m s Q E B F X N T hk hd hu ret
  obtain ⟨kind, nm, ig, ic, mr⟩ := cs
  obtain rfl : kind = .function := hk
  have hN0 : ∀ p ∈ R, s.heap.get? p.1 = some p.2 ∧ p.1 ≠ L ∧ h₀.get? p.1 = none := fun p hp => N p (List.mem_cons_of_mem _ hp)
  have hlt : @Ne Nat t l := hR _ hT1
  have hltd : @Ne Nat td l := hR _ hT2
  have httd : @Ne Nat t td := by
    intro e
    have h1 := (hN0 _ hT1).1
    have h2 := (hN0 _ hT2).1
    dsimp only at h1 h2
    rw [e, h2] at h1
    cases h1
  replace N : News h₀ L s.heap [(l, listOf rows.toArray k), (t, instObj 312 td), (td, dictOf [⟨hh, .str (Str.ofString "rows") htk, .ref l⟩] 1)] := fun p hp => by
    rcases List.mem_cons.mp hp with rfl | hp
    · exact N _ List.mem_cons_self
    · rcases List.mem_cons.mp hp with rfl | hp
      · exact N _ (List.mem_cons_of_mem _ hT1)
      · rw [List.mem_singleton.mp hp]; exact N _ (List.mem_cons_of_mem _ hT2)
  refine wpAny_call ?_
  k_dflt (refine' code_defG ?k1 ?k2 ?k3 ?k4 ?k5 ?kA ?kF ?kK ?k6 ?k7 ?k8 ?k9 ?kB ?_ ?c2 ?c3 ?c4 ?c5; (case kA => exact rfl); (case kF => exact rfl); (case kK => exact rfl); (case k1 => k_asm); (case k2 => k_asm); (case k3 => k_asm); (case k4 => k_asm); (case k5 => k_asm); (case k6 => k_is); (case k7 => k_is); (case k8 => k_room); (case k9 => first | exact BindsTo.of_eq rfl | exact binds_K (by k_in) rfl (by k_is) rfl rfl rfl | fail "k_enter: no rule for these arguments"); (case c5 => decide); (case kB => exact locs rfl); (case c2 => exact rfl); (case c3 => exact rfl); (case c4 => exact rfl); k_whole; intro g' L' h' FG' F' N' B' X' T' kG'; (try dsimp only); (try k_lift B'); (try k_fold))
  rename Fr _ _ _ _ => F1
  refine (let A1 : Around := _; let m1 : Str → Option Value := _; let t1 : Nat := _; have F1 : Fr _ _ _ m1 := F1; (?_ : wpAny _ A1 _ _ _ (Shared.mk _ _ _ t1 _)))
  have hN1 : ∀ q ∈ [(l, listOf rows.toArray k), (t, instObj 312 td), (td, dictOf [⟨hh, .str (Str.ofString "rows") htk, .ref l⟩] 1)], s.heap.get? q.1 = some q.2 := fun q hq => (N q hq).1
  (repeat' (first | ((with_reducible show wpAny _ _ (setAttr (Value.ref _) _ _) _ _ _); (rename News _ _ _ _ => Nz); refine (let t1 : Nat := _; (?_ : wpAny _ _ _ _ _ (Shared.mk _ _ _ t1 _))); walk1) | (k_unfold; (try dsimp only)) | walk1 | (dsimp only; walk1) | (leave1; (try dsimp only))))
  refine with_kept kG' hN0 hN1 hR (by assumption) (by assumption) ?_ ?_
  · intro q hq
    rcases List.mem_cons.mp hq with rfl | hq
    · exact .inl rfl
    · refine .inr ?_
      rcases List.mem_cons.mp hq with rfl | hq
      · kcf_m
      · rw [List.mem_singleton.mp hq]; kcf_m
  intro hK1 hK2
  refine len_arr (by assumption) (by k_mem) ?_ ?_
  · rw [List.size_toArray, List.length_append, List.length_singleton]; omega
  rw [List.size_toArray, List.length_append, List.length_singleton]
  (repeat' (first | ((with_reducible show wpAny _ _ (setAttr (Value.ref _) _ _) _ _ _); (rename News _ _ _ _ => Nz); refine (let t1 : Nat := _; (?_ : wpAny _ _ _ _ _ (Shared.mk _ _ _ t1 _))); walk1) | (k_unfold; (try dsimp only)) | walk1 | (dsimp only; walk1) | (leave1; (try dsimp only))))
  rename News h₀ L _ _ => N9
  obtain ⟨e1, e2, e3⟩ := newRow_end kd nm0 ur lo va par N9 hK1 hK2 (by omega) (by omega) (by omega) (by omega) (by omega) (by omega) (by omega)
  refine ret _ _ _ _ (by assumption) e1 ⟨_, _, _, _, _, _, _, _, _, rfl, ⟨_, _, _, _, _, by k_dflt k_get, by k_dflt k_get, by k_dflt k_get, by k_dflt k_get, by k_dflt k_get, by k_dflt k_get, by k_dflt k_get, by k_dflt k_get⟩, e2, e3, int_val (by omega)⟩
section
variable {w : World} {f : Addr} {args : List Value} {room : Nat} {news : List (Addr × Obj)} {Ret : List (Addr × Obj) → Value → Prop} {loose : List Str} {mean : ExcName → Option Value} {mg mb : Str → Option Value} {dp un : Nat} {gd : Option (List Code)} {cn : Str} {cs : Scope} {a0 : Addr} {ccd : Value} {cl : List (Str × Addr)} {outer : List Env} {A₀ : Around} {base h₀ : Heap} {L : Addr} {m : Str → Option Value} {s : Shared} {Q E : Value → Shared → Prop} {news₀ : List (Addr × Obj)}
theorem Tell.useRow {l : Addr} {rows : List Value} {k : Nat} {R : List (Addr × Obj)} {kd nm ur lo va : Str} {par : Value} (B : Below A₀ base outer h₀) (F : Fr h₀ L s.heap m) (X : (Mine.K w.params).In h₀) (N : News h₀ L s.heap news) (T : Top topProg loose mean mg mb h₀) (hk : cs.kind = .function) (hd : dp + room < recursionLimit) (hu : un + 40 * room < cLine)
    (C : Tell w f args room news (RowRet l rows k R kd nm ur lo va par))
    (ret : ∀ a dx es n ch at' ns k' tr h' tk', Fr h₀ L h' m → News h₀ L h' ((l, listOf (rows ++ [Value.ref a]).toArray k') :: (newRow a dx es n ⟨kd, nm, ur, lo, va, par, ch, at', ns⟩ ++ R)) → Flds es ⟨kd, nm, ur, lo, va, par, ch, at', ns⟩ →
      (∀ p ∈ (l, listOf rows.toArray k) :: R, p.1 ≠ a ∧ p.1 ≠ dx ∧ p.1 ≠ ch ∧ p.1 ≠ at' ∧ p.1 ≠ ns) → (@LT.lt Nat _ dx a ∧ @LT.lt Nat _ a ch ∧ @LT.lt Nat _ ch at' ∧ @LT.lt Nat _ at' ns) → Q (.int (rows.length : Int) tr) { s with heap := h', toks := tk' }) :
    wpAny (model PySem.Challenge.rw_xw0213_01.row.prog w) (ktrTop dp un gd cn cs L a0 ccd cl outer) (call (.ref f) args) Q E s :=
  Tell.use B F X N T hk hd hu C (fun p hp => hp) fun r news' h' tk' F' N' hP => by
    obtain ⟨a, dx, es, n, ch, at', ns, k', tr, rfl, h1, h2, h3, rfl⟩ := hP
    exact ret a dx es n ch at' ns k' tr h' tk' F' N' h1 h2 h3
end
end

theorem reset_C8 (h : PySem.Heap) : PySem.W.GrownAll [] h := by
  w_top off
  walk1
section
open PySem PySem.W PyProof.Rows
set_option Elab.async false
set_option maxRecDepth 100000
set_option linter.unusedSimpArgs false
set_option hygiene false
theorem fillK8 : (fun (_ : Params → Frag) (_ : OpenLaw) => True) Mine.K PySem.Challenge.rw_xw0213_01 := by k_fill; trivial
set_option maxHeartbeats 2000000 in
theorem addChild_tell {w : World} {t l : Addr} {rows : List Value} {k : Nat} {kd nm0 ur lo va : Str} {t1 t2 t3 t4 t5 : Tok} (R : List (Addr × Obj)) (hR : ∀ p ∈ R, p.1 ≠ l) (hT : TreeAt R t l) (hz : rows.length ≤ 100000) :
    Tell w 169 [.ref t, .none, .str kd t1, .str nm0 t2, .str ur t3, .str lo t4, .str va t5] 3 ((l, listOf rows.toArray k) :: R) (RowRet l rows k R kd nm0 ur lo va .none) := by
  have hT0 := hT
  obtain ⟨td, hh, htk, hT1, hT2⟩ := hT
  refine Tell.intro fun loose mean mg mb dp un gd cn nm ig ic mr a ccd cl outer A₀ base h₀ L m sh sg sd st so Q E B F X N T hd hu ret => ?_
  refine wpAny_call ?_
  k_dflt k_enter
  rename Fr _ _ _ _ => F1
  refine (let A1 : Around := _; let m1 : Str → Option Value := _; let t1 : Nat := _; have F1 : Fr _ _ _ m1 := F1; (?_ : wpAny _ A1 _ _ _ (Shared.mk _ _ _ t1 _)))
  (repeat' (first | ((with_reducible show wpAny _ _ (call (Value.ref 148) _) _ _ _); k_dflt (refine' Tell.useRow (room := 2) ?zB ?zF ?zX ?zN ?zT ?zk ?zd ?zu (newRow_tell _ ?zhR ?zhT ?zhz ?zhp) ?_; (case zB => k_asm); (case zF => k_asm); (case zX => k_asm); (case zN => k_asm); (case zT => k_asm); (case zk => first | exact rfl | assumption); (case zd => k_room); (case zu => k_units); (case zhR => assumption); (case zhT => assumption); (case zhz => assumption); (case zhp => first | assumption | exact rfl)); intro a' dx' es' n' ch' at' ns' k' tr' h' tk' F' N' e2' e3' e4') | (k_unfold; (try dsimp only)) | walk1 | (dsimp only; walk1) | (leave1; (try dsimp only))))
  exact ret _ _ _ _ (by assumption) (by assumption) (RowRet.mk rfl (by assumption) (by assumption) (by assumption) rfl)
set_option maxHeartbeats 2000000 in
theorem addElement_tell {w : World} {t l : Addr} {rows : List Value} {k : Nat} {nm0 ur lo : Str} {t2 t3 t4 : Tok} (R : List (Addr × Obj)) (hR : ∀ p ∈ R, p.1 ≠ l) (hT : TreeAt R t l) (hz : rows.length ≤ 100000) :
    Tell w 176 [.ref t, .none, .str nm0 t2, .str ur t3, .str lo t4] 4 ((l, listOf rows.toArray k) :: R) (RowRet l rows k R (Str.ofString "element") nm0 ur lo (Str.ofString "") .none) := by
  have hT0 := hT
  obtain ⟨td, hh, htk, hT1, hT2⟩ := hT
  refine Tell.intro fun loose mean mg mb dp un gd cn nm ig ic mr a ccd cl outer A₀ base h₀ L m sh sg sd st so Q E B F X N T hd hu ret => ?_
  refine wpAny_call ?_
  k_dflt k_enter
  rename Fr _ _ _ _ => F1
  refine (let A1 : Around := _; let m1 : Str → Option Value := _; let t1 : Nat := _; have F1 : Fr _ _ _ m1 := F1; (?_ : wpAny _ A1 _ _ _ (Shared.mk _ _ _ t1 _)))
  (repeat' (first | ((with_reducible show wpAny _ _ (call (Value.ref 169) _) _ _ _); k_dflt (refine' Tell.useRow (room := 3) ?zB ?zF ?zX ?zN ?zT ?zk ?zd ?zu (addChild_tell _ ?zhR ?zhT ?zhz) ?_; (case zB => k_asm); (case zF => k_asm); (case zX => k_asm); (case zN => k_asm); (case zT => k_asm); (case zk => first | exact rfl | assumption); (case zd => k_room); (case zu => k_units); (case zhR => assumption); (case zhT => assumption); (case zhz => assumption)); intro a' dx' es' n' ch' at' ns' k' tr' h' tk' F' N' e2' e3' e4') | ((with_reducible show wpAny _ _ (call (Value.ref 148) _) _ _ _); k_dflt (refine' Tell.useRow (room := 2) ?zB ?zF ?zX ?zN ?zT ?zk ?zd ?zu (newRow_tell _ ?zhR ?zhT ?zhz ?zhp) ?_; (case zB => k_asm); (case zF => k_asm); (case zX => k_asm); (case zN => k_asm); (case zT => k_asm); (case zk => first | exact rfl | assumption); (case zd => k_room); (case zu => k_units); (case zhR => assumption); (case zhT => assumption); (case zhz => assumption); (case zhp => first | assumption | exact rfl)); intro a' dx' es' n' ch' at' ns' k' tr' h' tk' F' N' e2' e3' e4') | (k_unfold; (try dsimp only)) | walk1 | (dsimp only; walk1) | (leave1; (try dsimp only))))
  exact ret _ _ _ _ (by assumption) (by assumption) (RowRet.mk rfl (by assumption) (by assumption) (by assumption) rfl)
set_option maxHeartbeats 2000000 in
theorem addText_tell {w : World} {t l : Addr} {rows : List Value} {k : Nat} {va : Str} {t5 : Tok} (R : List (Addr × Obj)) (hR : ∀ p ∈ R, p.1 ≠ l) (hT : TreeAt R t l) (hz : rows.length ≤ 100000) :
    Tell w 183 [.ref t, .none, .str va t5] 4 ((l, listOf rows.toArray k) :: R) (RowRet l rows k R (Str.ofString "text") (Str.ofString "") (Str.ofString "") (Str.ofString "") va .none) := by
  have hT0 := hT
  obtain ⟨td, hh, htk, hT1, hT2⟩ := hT
  refine Tell.intro fun loose mean mg mb dp un gd cn nm ig ic mr a ccd cl outer A₀ base h₀ L m sh sg sd st so Q E B F X N T hd hu ret => ?_
  refine wpAny_call ?_
  k_dflt k_enter
  rename Fr _ _ _ _ => F1
  refine (let A1 : Around := _; let m1 : Str → Option Value := _; let t1 : Nat := _; have F1 : Fr _ _ _ m1 := F1; (?_ : wpAny _ A1 _ _ _ (Shared.mk _ _ _ t1 _)))
  (repeat' (first | ((with_reducible show wpAny _ _ (call (Value.ref 169) _) _ _ _); k_dflt (refine' Tell.useRow (room := 3) ?zB ?zF ?zX ?zN ?zT ?zk ?zd ?zu (addChild_tell _ ?zhR ?zhT ?zhz) ?_; (case zB => k_asm); (case zF => k_asm); (case zX => k_asm); (case zN => k_asm); (case zT => k_asm); (case zk => first | exact rfl | assumption); (case zd => k_room); (case zu => k_units); (case zhR => assumption); (case zhT => assumption); (case zhz => assumption)); intro a' dx' es' n' ch' at' ns' k' tr' h' tk' F' N' e2' e3' e4') | ((with_reducible show wpAny _ _ (call (Value.ref 148) _) _ _ _); k_dflt (refine' Tell.useRow (room := 2) ?zB ?zF ?zX ?zN ?zT ?zk ?zd ?zu (newRow_tell _ ?zhR ?zhT ?zhz ?zhp) ?_; (case zB => k_asm); (case zF => k_asm); (case zX => k_asm); (case zN => k_asm); (case zT => k_asm); (case zk => first | exact rfl | assumption); (case zd => k_room); (case zu => k_units); (case zhR => assumption); (case zhT => assumption); (case zhz => assumption); (case zhp => first | assumption | exact rfl)); intro a' dx' es' n' ch' at' ns' k' tr' h' tk' F' N' e2' e3' e4') | (k_unfold; (try dsimp only)) | walk1 | (dsimp only; walk1) | (leave1; (try dsimp only))))
  exact ret _ _ _ _ (by assumption) (by assumption) (RowRet.mk rfl (by assumption) (by assumption) (by assumption) rfl)
set_option maxHeartbeats 2000000 in
theorem addComment_tell {w : World} {t l : Addr} {rows : List Value} {k : Nat} {va : Str} {t5 : Tok} (R : List (Addr × Obj)) (hR : ∀ p ∈ R, p.1 ≠ l) (hT : TreeAt R t l) (hz : rows.length ≤ 100000) :
    Tell w 190 [.ref t, .none, .str va t5] 4 ((l, listOf rows.toArray k) :: R) (RowRet l rows k R (Str.ofString "comment") (Str.ofString "") (Str.ofString "") (Str.ofString "") va .none) := by
  have hT0 := hT
  obtain ⟨td, hh, htk, hT1, hT2⟩ := hT
  refine Tell.intro fun loose mean mg mb dp un gd cn nm ig ic mr a ccd cl outer A₀ base h₀ L m sh sg sd st so Q E B F X N T hd hu ret => ?_
  refine wpAny_call ?_
  k_dflt k_enter
  rename Fr _ _ _ _ => F1
  refine (let A1 : Around := _; let m1 : Str → Option Value := _; let t1 : Nat := _; have F1 : Fr _ _ _ m1 := F1; (?_ : wpAny _ A1 _ _ _ (Shared.mk _ _ _ t1 _)))
  (repeat' (first | ((with_reducible show wpAny _ _ (call (Value.ref 169) _) _ _ _); k_dflt (refine' Tell.useRow (room := 3) ?zB ?zF ?zX ?zN ?zT ?zk ?zd ?zu (addChild_tell _ ?zhR ?zhT ?zhz) ?_; (case zB => k_asm); (case zF => k_asm); (case zX => k_asm); (case zN => k_asm); (case zT => k_asm); (case zk => first | exact rfl | assumption); (case zd => k_room); (case zu => k_units); (case zhR => assumption); (case zhT => assumption); (case zhz => assumption)); intro a' dx' es' n' ch' at' ns' k' tr' h' tk' F' N' e2' e3' e4') | ((with_reducible show wpAny _ _ (call (Value.ref 148) _) _ _ _); k_dflt (refine' Tell.useRow (room := 2) ?zB ?zF ?zX ?zN ?zT ?zk ?zd ?zu (newRow_tell _ ?zhR ?zhT ?zhz ?zhp) ?_; (case zB => k_asm); (case zF => k_asm); (case zX => k_asm); (case zN => k_asm); (case zT => k_asm); (case zk => first | exact rfl | assumption); (case zd => k_room); (case zu => k_units); (case zhR => assumption); (case zhT => assumption); (case zhz => assumption); (case zhp => first | assumption | exact rfl)); intro a' dx' es' n' ch' at' ns' k' tr' h' tk' F' N' e2' e3' e4') | (k_unfold; (try dsimp only)) | walk1 | (dsimp only; walk1) | (leave1; (try dsimp only))))
  exact ret _ _ _ _ (by assumption) (by assumption) (RowRet.mk rfl (by assumption) (by assumption) (by assumption) rfl)
set_option maxHeartbeats 2000000 in
theorem addInstr_tell {w : World} {t l : Addr} {rows : List Value} {k : Nat} {ta va : Str} {t4 t5 : Tok} (R : List (Addr × Obj)) (hR : ∀ p ∈ R, p.1 ≠ l) (hT : TreeAt R t l) (hz : rows.length ≤ 100000) :
    Tell w 197 [.ref t, .none, .str ta t4, .str va t5] 4 ((l, listOf rows.toArray k) :: R) (RowRet l rows k R (Str.ofString "instruction") ta (Str.ofString "") ta va .none) := by
  have hT0 := hT
  obtain ⟨td, hh, htk, hT1, hT2⟩ := hT
  refine Tell.intro fun loose mean mg mb dp un gd cn nm ig ic mr a ccd cl outer A₀ base h₀ L m sh sg sd st so Q E B F X N T hd hu ret => ?_
  refine wpAny_call ?_
  k_dflt k_enter
  rename Fr _ _ _ _ => F1
  refine (let A1 : Around := _; let m1 : Str → Option Value := _; let t1 : Nat := _; have F1 : Fr _ _ _ m1 := F1; (?_ : wpAny _ A1 _ _ _ (Shared.mk _ _ _ t1 _)))
  (repeat' (first | ((with_reducible show wpAny _ _ (call (Value.ref 169) _) _ _ _); k_dflt (refine' Tell.useRow (room := 3) ?zB ?zF ?zX ?zN ?zT ?zk ?zd ?zu (addChild_tell _ ?zhR ?zhT ?zhz) ?_; (case zB => k_asm); (case zF => k_asm); (case zX => k_asm); (case zN => k_asm); (case zT => k_asm); (case zk => first | exact rfl | assumption); (case zd => k_room); (case zu => k_units); (case zhR => assumption); (case zhT => assumption); (case zhz => assumption)); intro a' dx' es' n' ch' at' ns' k' tr' h' tk' F' N' e2' e3' e4') | ((with_reducible show wpAny _ _ (call (Value.ref 148) _) _ _ _); k_dflt (refine' Tell.useRow (room := 2) ?zB ?zF ?zX ?zN ?zT ?zk ?zd ?zu (newRow_tell _ ?zhR ?zhT ?zhz ?zhp) ?_; (case zB => k_asm); (case zF => k_asm); (case zX => k_asm); (case zN => k_asm); (case zT => k_asm); (case zk => first | exact rfl | assumption); (case zd => k_room); (case zu => k_units); (case zhR => assumption); (case zhT => assumption); (case zhz => assumption); (case zhp => first | assumption | exact rfl)); intro a' dx' es' n' ch' at' ns' k' tr' h' tk' F' N' e2' e3' e4') | (k_unfold; (try dsimp only)) | walk1 | (dsimp only; walk1) | (leave1; (try dsimp only))))
  exact ret _ _ _ _ (by assumption) (by assumption) (RowRet.mk rfl (by assumption) (by assumption) (by assumption) rfl)
end

theorem reset_C9 (h : PySem.Heap) : PySem.W.GrownAll [] h := by
  w_top off
  walk1
section
open PySem PySem.W PyProof.Rows
set_option Elab.async false
set_option maxRecDepth 100000
set_option linter.unusedSimpArgs false
set_option hygiene false
local macro_rules | `(tactic| walk_at "getAttr ref") => `(tactic| (k_here; k_dflt (refine' get_own ?zk1 ?zk2 ?zk3 ?zk4 ?zk5 ?zk6 ?zk7 ?zk8 ?zk9 ?_; (case zk1 => k_asm); (case zk2 => k_asm); (case zk3 => k_inst); (case zk4 => k_is); (case zk5 => k_is); (case zk6 => k_is); (case zk7 => k_is); (case zk8 => first | assumption | k_get); (case zk9 => k_handed); k_whole)))
theorem fillK9 : (fun (_ : Params → Frag) (_ : OpenLaw) => True) Mine.K PySem.Challenge.rw_xw0213_01 := by k_fill; trivial
local macro_rules | `(tactic| walk_at "pyIter ref") => `(tactic| refine stop_at ?_)
theorem item_at {prog : Program} {w : World} {A : Around} {E : Value → Shared → Prop} {s : Shared} {h₀ : Heap} {L l : Addr} {news : List (Addr × Obj)} {value slice : PySem.Expr} {vs : List Value} {n : Nat} {k : Int} {u : Tok} {v : Value} {Q : Value → Shared → Prop} (N : News h₀ L s.heap news) (hm : (l, listOf vs.toArray n) ∈ news)
    (h0 : 0 ≤ k) (hi : vs[k.toNat]? = some v) (hz : vs.length ≤ 1000000) (h : Q v s)
    (hs : subscripted slice false (.ref l) (.int k u) = operate [.ref l, .int k u] (getItem (.ref l) (.int k u)) := by with_unfolding_all rfl) :
    wpAny (model prog w) A (subscriptTail value slice (.ref l) (.int k u)) Q E s := by
  obtain ⟨hk, _⟩ := List.getElem?_eq_some_iff.mp hi
  exact item_led N hm h0 (by omega) (by omega) (fun v' e => by rw [hi] at e; cases e; exact h) hs
section
variable {prog : Program} {w : World} {A : Around} {E : Value → Shared → Prop} {s : Shared} {env : Env} {h₀ : Heap} {x x2 : Str} {body : List Stmt} {Q : Flow → Shared → Prop}
theorem led_loop {l : Addr} {vs : List Value} {nn : Nat} {m₀ : Str → Option Value} {news : List (Addr × Obj)}
    (hh : A.handled = none) (hl : (l, listOf vs.toArray nn) ∈ news) (F : Fr h₀ env.locals s.heap m₀) (N : News h₀ env.locals s.heap news)
    (turn : ∀ (i : Nat) v (m₁ : Str → Option Value) h tk own, vs[i]? = some v → OwnOff own (news.map (·.1)) → Fr h₀ env.locals h (fun y => if y = x then some v else if y = x2 then m₁ y else m₀ y) → News h₀ env.locals h (news ++ own) →
      wpAny (model prog w) A (execs body env) (InvPostG h₀ env.locals (fun m' nx => (l, listOf vs.toArray nn) ∈ nx ∧ nx = news ∧ ∀ z, z ≠ x → z ≠ x2 → m' z = m₀ z) own { s with heap := h, toks := tk } Q) E { s with heap := h, toks := tk })
    (done : ∀ (m₁ : Str → Option Value) h tk, Fr h₀ env.locals h (fun y => if y = x then m₁ y else if y = x2 then m₁ y else m₀ y) → News h₀ env.locals h news → Q .next { s with heap := h, toks := tk }) :
    wpAny (model prog w) A (pyIter (.ref l)) (fun it s₂ => LoopAtV prog w A h₀ env x body Q E it s₂) E s := by
  refine kdl_iter (l := l) (vs := vs) (nn := nn) (fun _ m nx => nx = news ∧ ∀ z, z ≠ x → z ≠ x2 → m z = m₀ z) hh hl F N ⟨rfl, fun _ _ _ => rfl⟩ ?_ ?_
  · rintro i v m₁ nx h tk own hv ho hm ⟨rfl, hJ⟩ F1 N1
    have em : ∀ y, (fun y => if y = x then some v else m₁ y) y = (fun y => if y = x then some v else if y = x2 then m₁ y else m₀ y) y := by
      intro y
      dsimp only
      split
      · rfl
      · split
        · rfl
        · exact hJ y (by assumption) (by assumption)
    rw [funext em] at F1
    exact turn i v m₁ h tk own hv ho F1 N1
  · rintro m₁ nx h tk ⟨rfl, hJ⟩ F1 N1
    have em : ∀ y, m₁ y = (fun y => if y = x then m₁ y else if y = x2 then m₁ y else m₀ y) y := by
      intro y
      dsimp only
      split
      · rfl
      · split
        · rfl
        · exact hJ y (by assumption) (by assumption)
    rw [funext em] at F1
    exact done m₁ h tk F1 N1
end
/-- the attributes that stand, none of them under this key -/
def AttrsAre (news : List (Addr × Obj)) (rows ats : List Value) (key : Str) : Prop := ∀ v ∈ ats, ∃ j tj a d, v = .int j tj ∧ 0 ≤ j ∧ rows[j.toNat]? = some (.ref a) ∧ NodeAt news a d ∧ (d.loc == key) = false
set_option maxHeartbeats 4000000 in
theorem setAttr_tell {w : World} {t l at' r0 : Addr} {rows ats : List Value} {kl ka : Nat} {ei : Int} {te t2 t3 t4 t5 : Tok} {key ur val : Str} {d0 : NodeD} (R : List (Addr × Obj)) (hR : ∀ p ∈ R, p.1 ≠ l) (hR2 : ∀ p ∈ R, p.1 ≠ at') (hla : @Ne Nat at' l)
    (hT : TreeAt R t l) (hz : rows.length ≤ 100000) (hza : ats.length ≤ 1000) (he0 : 0 ≤ ei) (he : rows[ei.toNat]? = some (.ref r0)) (hN : NodeAt R r0 d0) (hk0 : d0.kind = Str.ofString "element") (ha0 : d0.at' = at') (hA : AttrsAre R rows ats key) :
    Tell w 211 [.ref t, .int ei te, .str key t2, .str ur t3, .str key t4, .str val t5] 4 ((l, listOf rows.toArray kl) :: (at', listOf ats.toArray ka) :: R) (fun news' r => ∃ a dx es n ch a2 ns kl' ka' tr tr2,
      news' = (l, listOf (rows ++ [Value.ref a]).toArray kl') :: (at', listOf (ats ++ [Value.int (rows.length : Int) tr]).toArray ka') :: (newRow a dx es n ⟨Str.ofString "attribute", key, ur, key, val, .int ei te, ch, a2, ns⟩ ++ R) ∧ Flds es ⟨Str.ofString "attribute", key, ur, key, val, .int ei te, ch, a2, ns⟩ ∧
      (∀ p ∈ (l, listOf rows.toArray kl) :: (at', listOf ats.toArray ka) :: R, p.1 ≠ a ∧ p.1 ≠ dx ∧ p.1 ≠ ch ∧ p.1 ≠ a2 ∧ p.1 ≠ ns) ∧ r = .int (rows.length : Int) tr2) := by
  have hT0 := hT.mono (n' := (l, listOf rows.toArray kl) :: (at', listOf ats.toArray ka) :: R) (by kcf_all)
  have hT9 := hT.mono (n' := (at', listOf ats.toArray ka) :: R) (by kcf_all)
  first | (refine el_0_5 hT fun td hh htk hT1 hT2 => ?_) | (refine el_1_4 hT fun td hh htk hT1 hT2 => ?_) | (refine el_2_3 hT fun td hh htk hT1 hT2 => ?_) | (refine el_3_2 hT fun td hh htk hT1 hT2 => ?_) | (refine el_4_1 hT fun td hh htk hT1 hT2 => ?_) | obtain ⟨td, hh, htk, hT1, hT2⟩ := hT
  try clear hT
  obtain ⟨dx0, es0, n0, u1, u2, u3, u4, u5, hN1, hN2, g1, g2, g3, g4, g5, g6, g7, g8⟩ := hN
  rw [hk0] at g1
  rw [ha0] at g7
  refine Tell.intro fun loose mean mg mb dp un gd cn nm ig ic mr a ccd cl outer A₀ base h₀ L m sh sg sd st so Q E B F X N T hd hu ret => ?_
  refine wpAny_call ?_
  k_dflt k_enter
  rename Fr _ _ _ _ => F1
  refine (let A1 : Around := _; let m1 : Str → Option Value := _; let t1 : Nat := _; have F1 : Fr _ _ _ m1 := F1; (?_ : wpAny _ A1 _ _ _ (Shared.mk _ _ _ t1 _)))
  (repeat' (first | (k_here; (with_reducible show wpAny _ _ (subscriptTail _ _ (Value.ref _) (Value.int _ _)) _ _ _); (with_unfolding_all refine' item_at ?zk1 ?zk2 ?zk4 ?zk5 ?zk6 ?_ ?zk7; (case zk1 => k_asm); (case zk2 => k_mem); (case zk4 => assumption); (case zk5 => assumption); (case zk6 => omega); (case zk7 => with_unfolding_all rfl); k_whole)) | ((with_reducible show wpAny _ _ (call (Value.ref 148) _) _ _ _); refine stop_at ?_) | ((with_reducible show wpAny _ _ (call (Value.ref 155) _) _ _ _); k_dflt (refine' Tell.useC (room := 1) ?zB ?zF ?zX ?zN ?zT ?zk ?zd ?zu (row_tell _ ?zhT ?zhl ?zh0 ?zhz ?zhi) ?_; (case zB => k_asm); (case zF => k_asm); (case zX => k_asm); (case zN => k_asm); (case zT => k_asm); (case zk => first | exact rfl | assumption); (case zd => k_room); (case zu => k_units); (case zhT => assumption); (case zhl => k_mem); (case zhi => first | assumption | exact rfl); (case zh0 => omega); (case zhz => omega)); intro h' tk' F' N') | (k_here; (with_reducible show wpAny _ _ (subscriptTail _ _ (Value.ref _) (Value.int _ _)) _ _ _); (with_unfolding_all refine' item_led ?zk1 ?zk2 ?zk4 ?zk5 ?zk6 ?_ ?zk7; (case zk1 => k_asm); (case zk2 => k_mem); (case zk4 => omega); (case zk5 => omega); (case zk6 => omega); (case zk7 => with_unfolding_all rfl); k_whole); intro v' hv') | (k_unfold; (try dsimp only)) | walk1 | (dsimp only; walk1) | (leave1; (try dsimp only))))
  rename Fr _ _ _ _ => F0
  rename News _ _ _ ((l, listOf rows.toArray kl) :: _) => N0
  refine go_on ?_
  refine led_loop (l := at') (vs := ats) (nn := ka) (x2 := Str.ofString "known") rfl (by k_mem) F0 N0 ?_ ?_
  · intro i v m₁ h tk own hv ho F1 N1
    have hEl := hA v (List.mem_of_getElem? hv)
    first | (refine el_0_9 hEl fun j tj ar dr hrf4 hj0 hjr hNr hne => ?_; subst hrf4) | (refine el_1_8 hEl fun j tj ar dr hrf4 hj0 hjr hNr hne => ?_; subst hrf4) | (refine el_2_7 hEl fun j tj ar dr hrf4 hj0 hjr hNr hne => ?_; subst hrf4) | (refine el_3_6 hEl fun j tj ar dr hrf4 hj0 hjr hNr hne => ?_; subst hrf4) | (refine el_4_5 hEl fun j tj ar dr hrf4 hj0 hjr hNr hne => ?_; subst hrf4) | (refine el_5_4 hEl fun j tj ar dr hrf4 hj0 hjr hNr hne => ?_; subst hrf4) | (refine el_6_3 hEl fun j tj ar dr hrf4 hj0 hjr hNr hne => ?_; subst hrf4) | (refine el_7_2 hEl fun j tj ar dr hrf4 hj0 hjr hNr hne => ?_; subst hrf4) | (refine el_8_1 hEl fun j tj ar dr hrf4 hj0 hjr hNr hne => ?_; subst hrf4) | obtain ⟨j, tj, ar, dr, rfl, hj0, hjr, hNr, hne⟩ := hEl
    try clear hEl
    obtain ⟨dxr, esr, nr, w1, w2, w3, w4, w5, hNr1, hNr2, q1, q2, q3, q4, q5, q6, q7, q8⟩ := hNr
    (repeat' (first | (k_here; (with_reducible show wpAny _ _ (subscriptTail _ _ (Value.ref _) (Value.int _ _)) _ _ _); (with_unfolding_all refine' item_at ?zk1 ?zk2 ?zk4 ?zk5 ?zk6 ?_ ?zk7; (case zk1 => k_asm); (case zk2 => k_mem); (case zk4 => assumption); (case zk5 => assumption); (case zk6 => omega); (case zk7 => with_unfolding_all rfl); k_whole)) | ((with_reducible show wpAny _ _ (call (Value.ref 148) _) _ _ _); refine stop_at ?_) | ((with_reducible show wpAny _ _ (call (Value.ref 155) _) _ _ _); k_dflt (refine' Tell.useC (room := 1) ?zB ?zF ?zX ?zN ?zT ?zk ?zd ?zu (row_tell _ ?zhT ?zhl ?zh0 ?zhz ?zhi) ?_; (case zB => k_asm); (case zF => k_asm); (case zX => k_asm); (case zN => k_asm); (case zT => k_asm); (case zk => first | exact rfl | assumption); (case zd => k_room); (case zu => k_units); (case zhT => assumption); (case zhl => k_mem); (case zhi => first | assumption | exact rfl); (case zh0 => omega); (case zhz => omega)); intro h' tk' F' N') | (k_here; (with_reducible show wpAny _ _ (subscriptTail _ _ (Value.ref _) (Value.int _ _)) _ _ _); (with_unfolding_all refine' item_led ?zk1 ?zk2 ?zk4 ?zk5 ?zk6 ?_ ?zk7; (case zk1 => k_asm); (case zk2 => k_mem); (case zk4 => omega); (case zk5 => omega); (case zk6 => omega); (case zk7 => with_unfolding_all rfl); k_whole); intro v' hv') | (k_unfold; (try dsimp only)) | walk1 | (dsimp only; walk1) | (leave1; (try dsimp only))))
    all_goals exact InvEndG.intro (by assumption) (by assumption) ⟨by k_mem, rfl, fun z h1 h2 => by simp only [if_neg h1, if_neg h2]⟩ ho (fun p hp => List.mem_append_left _ hp) (fun p hp => List.mem_append_right _ hp)
  · intro m₁ h tk F1 N1
    (repeat' (first | (k_here; (with_reducible show wpAny _ _ (subscriptTail _ _ (Value.ref _) (Value.int _ _)) _ _ _); (with_unfolding_all refine' item_at ?zk1 ?zk2 ?zk4 ?zk5 ?zk6 ?_ ?zk7; (case zk1 => k_asm); (case zk2 => k_mem); (case zk4 => assumption); (case zk5 => assumption); (case zk6 => omega); (case zk7 => with_unfolding_all rfl); k_whole)) | ((with_reducible show wpAny _ _ (call (Value.ref 148) _) _ _ _); refine stop_at ?_) | ((with_reducible show wpAny _ _ (call (Value.ref 155) _) _ _ _); k_dflt (refine' Tell.useC (room := 1) ?zB ?zF ?zX ?zN ?zT ?zk ?zd ?zu (row_tell _ ?zhT ?zhl ?zh0 ?zhz ?zhi) ?_; (case zB => k_asm); (case zF => k_asm); (case zX => k_asm); (case zN => k_asm); (case zT => k_asm); (case zk => first | exact rfl | assumption); (case zd => k_room); (case zu => k_units); (case zhT => assumption); (case zhl => k_mem); (case zhi => first | assumption | exact rfl); (case zh0 => omega); (case zhz => omega)); intro h' tk' F' N') | (k_here; (with_reducible show wpAny _ _ (subscriptTail _ _ (Value.ref _) (Value.int _ _)) _ _ _); (with_unfolding_all refine' item_led ?zk1 ?zk2 ?zk4 ?zk5 ?zk6 ?_ ?zk7; (case zk1 => k_asm); (case zk2 => k_mem); (case zk4 => omega); (case zk5 => omega); (case zk6 => omega); (case zk7 => with_unfolding_all rfl); k_whole); intro v' hv') | (k_unfold; (try dsimp only)) | walk1 | (dsimp only; walk1) | (leave1; (try dsimp only))))
    rename Fr _ _ _ _ => F2
    rename News _ _ _ _ => N2
    refine go_on ?_
    refine' Tell.useRow (room := 2) ?B F2 ?X N2 ?T rfl ?d ?u (newRow_tell (t := t) (l := l) (rows := rows) (k := kl) ((at', listOf ats.toArray ka) :: R) ?hR hT9 hz rfl) ?_
    case B => k_asm
    case X => k_asm
    case T => k_asm
    case d => k_room
    case u => k_units
    case hR => exact fun p hp => (List.mem_cons.mp hp).elim (fun e => e ▸ hla) (hR p)
    intro a dx es n ch a2 ns k' tr h' tk' F' N' hFl hfr hlt
    have hsub : ∀ p ∈ (at', listOf ats.toArray ka) :: (l, listOf (rows ++ [Value.ref a]).toArray k') :: (newRow a dx es n ⟨Str.ofString "attribute", key, ur, key, val, .int ei te, ch, a2, ns⟩ ++ R), p ∈ (l, listOf (rows ++ [Value.ref a]).toArray k') :: (newRow a dx es n ⟨Str.ofString "attribute", key, ur, key, val, .int ei te, ch, a2, ns⟩ ++ ((at', listOf ats.toArray ka) :: R)) := by
      intro p hp
      simp only [List.mem_cons, List.mem_append] at hp ⊢
      rcases hp with h | h | h | h
      · exact .inr (.inr (.inl h))
      · exact .inl h
      · exact .inr (.inl h)
      · exact .inr (.inr (.inr h))
    have hRn1 : ∀ p ∈ newRow a dx es n ⟨Str.ofString "attribute", key, ur, key, val, .int ei te, ch, a2, ns⟩ ++ R, p.1 ≠ at' := by
      have := hfr (at', listOf ats.toArray ka) (by kcf_m)
      intro p hp
      rcases List.mem_append.mp hp with hp | hp
      · simp only [newRow, List.mem_cons, List.not_mem_nil, or_false] at hp
        rcases hp with rfl | rfl | rfl | rfl | rfl
        · exact this.1.symm
        · exact this.2.1.symm
        · exact this.2.2.1.symm
        · exact this.2.2.2.1.symm
        · exact this.2.2.2.2.symm
      · exact hR2 p hp
    have hRl : l ≠ at' := fun e => hla e.symm
    have hRs : ∀ p ∈ R, p ∈ newRow a dx es n ⟨Str.ofString "attribute", key, ur, key, val, .int ei te, ch, a2, ns⟩ ++ R := fun p hp => List.mem_append_right _ hp
    have N3 := news_sub N' hsub
    clear N' hsub
    generalize hR' : newRow a dx es n ⟨Str.ofString "attribute", key, ur, key, val, .int ei te, ch, a2, ns⟩ ++ R = R' at N3 hRn1 hRs ⊢
    replace hT1 := hRs _ hT1
    replace hT2 := hRs _ hT2
    replace hN1 := hRs _ hN1
    replace hN2 := hRs _ hN2
    (repeat' (first | (k_here; (with_reducible show wpAny _ _ (subscriptTail _ _ (Value.ref _) (Value.int _ _)) _ _ _); (with_unfolding_all refine' item_at ?zk1 ?zk2 ?zk4 ?zk5 ?zk6 ?_ ?zk7; (case zk1 => k_asm); (case zk2 => k_mem); (case zk4 => assumption); (case zk5 => assumption); (case zk6 => omega); (case zk7 => with_unfolding_all rfl); k_whole)) | ((with_reducible show wpAny _ _ (call (Value.ref 148) _) _ _ _); refine stop_at ?_) | ((with_reducible show wpAny _ _ (call (Value.ref 155) _) _ _ _); k_dflt (refine' Tell.useC (room := 1) ?zB ?zF ?zX ?zN ?zT ?zk ?zd ?zu (row_tell _ ?zhT ?zhl ?zh0 ?zhz ?zhi) ?_; (case zB => k_asm); (case zF => k_asm); (case zX => k_asm); (case zN => k_asm); (case zT => k_asm); (case zk => first | exact rfl | assumption); (case zd => k_room); (case zu => k_units); (case zhT => assumption); (case zhl => k_mem); (case zhi => first | assumption | exact rfl); (case zh0 => omega); (case zhz => omega)); intro h' tk' F' N') | (k_here; (with_reducible show wpAny _ _ (subscriptTail _ _ (Value.ref _) (Value.int _ _)) _ _ _); (with_unfolding_all refine' item_led ?zk1 ?zk2 ?zk4 ?zk5 ?zk6 ?_ ?zk7; (case zk1 => k_asm); (case zk2 => k_mem); (case zk4 => omega); (case zk5 => omega); (case zk6 => omega); (case zk7 => with_unfolding_all rfl); k_whole); intro v' hv') | (k_unfold; (try dsimp only)) | walk1 | (dsimp only; walk1) | (leave1; (try dsimp only))))
    subst hR'
    rename News h₀ L _ _ => N9
    simp only [List.push_toArray] at N9
    exact ret _ _ _ _ (by assumption) (news_sub N9 fun p hp => by
      rcases List.mem_cons.mp hp with h | h
      · rw [h]; exact List.mem_cons_of_mem _ List.mem_cons_self
      · rcases List.mem_cons.mp h with h | h
        · rw [h]; exact List.mem_cons_self
        · exact List.mem_cons_of_mem _ (List.mem_cons_of_mem _ h)) ⟨a, dx, es, n, ch, a2, ns, k', _, tr, tr, rfl, hFl, hfr, rfl⟩
section
variable {w : World} {f : Addr} {args : List Value} {room : Nat} {news : List (Addr × Obj)} {Ret : List (Addr × Obj) → Value → Prop} {loose : List Str} {mean : ExcName → Option Value} {mg mb : Str → Option Value} {dp un : Nat} {gd : Option (List Code)} {cn : Str} {cs : Scope} {a0 : Addr} {ccd : Value} {cl : List (Str × Addr)} {outer : List Env} {A₀ : Around} {base h₀ : Heap} {L : Addr} {m : Str → Option Value} {s : Shared} {Q E : Value → Shared → Prop} {news₀ : List (Addr × Obj)}
theorem Tell.useAttr {l b : Addr} {rows bs : List Value} {kl kb : Nat} {R : List (Addr × Obj)} {kd nm ur lo va : Str} {par : Value} (B : Below A₀ base outer h₀) (F : Fr h₀ L s.heap m) (X : (Mine.K w.params).In h₀) (N : News h₀ L s.heap news) (T : Top topProg loose mean mg mb h₀) (hk : cs.kind = .function) (hd : dp + room < recursionLimit) (hu : un + 40 * room < cLine)
    (C : Tell w f args room news (fun news' r => ∃ a dx es n ch a2 ns kl' ka' tr tr2, news' = (l, listOf (rows ++ [Value.ref a]).toArray kl') :: (b, listOf (bs ++ [Value.int (rows.length : Int) tr]).toArray ka') :: (newRow a dx es n ⟨kd, nm, ur, lo, va, par, ch, a2, ns⟩ ++ R) ∧ Flds es ⟨kd, nm, ur, lo, va, par, ch, a2, ns⟩ ∧
      (∀ p ∈ (l, listOf rows.toArray kl) :: (b, listOf bs.toArray kb) :: R, p.1 ≠ a ∧ p.1 ≠ dx ∧ p.1 ≠ ch ∧ p.1 ≠ a2 ∧ p.1 ≠ ns) ∧ r = .int (rows.length : Int) tr2))
    (ret : ∀ a dx es n ch a2 ns kl' ka' tr tr2 h' tk', Fr h₀ L h' m → News h₀ L h' ((l, listOf (rows ++ [Value.ref a]).toArray kl') :: (b, listOf (bs ++ [Value.int (rows.length : Int) tr]).toArray ka') :: (newRow a dx es n ⟨kd, nm, ur, lo, va, par, ch, a2, ns⟩ ++ R)) → Flds es ⟨kd, nm, ur, lo, va, par, ch, a2, ns⟩ →
      (∀ p ∈ (l, listOf rows.toArray kl) :: (b, listOf bs.toArray kb) :: R, p.1 ≠ a ∧ p.1 ≠ dx ∧ p.1 ≠ ch ∧ p.1 ≠ a2 ∧ p.1 ≠ ns) → Q (.int (rows.length : Int) tr2) { s with heap := h', toks := tk' }) :
    wpAny (model PySem.Challenge.rw_xw0213_01.row.prog w) (ktrTop dp un gd cn cs L a0 ccd cl outer) (call (.ref f) args) Q E s :=
  Tell.use B F X N T hk hd hu C (fun p hp => hp) fun r news' h' tk' F' N' hP => by
    obtain ⟨a, dx, es, n, ch, a2, ns, kl', kb', tr, tr2, rfl, h1, h2, rfl⟩ := hP
    exact ret a dx es n ch a2 ns kl' kb' tr tr2 h' tk' F' N' h1 h2
end
end

theorem reset_C10 (h : PySem.Heap) : PySem.W.GrownAll [] h := by
  w_top off
  walk1
section
open PySem PySem.W PyProof.Rows
set_option Elab.async false
set_option maxRecDepth 100000
set_option linter.unusedSimpArgs false
set_option hygiene false
local macro_rules | `(tactic| ktr_unf) => `(tactic| repeat' (first | (k_unfold; (try dsimp only)) | walk1 | (dsimp only; walk1) | (leave1; (try dsimp only))))
local macro_rules | `(tactic| walk_at "call builtin:len") => `(tactic| (k_here; (with_reducible show wpAny _ _ (call (Value.builtin "len") [Value.ref _]) _ _ _); k_dflt (refine' len_led ?zk1 ?zk2 ?zk4 ?_; (case zk1 => k_asm); (case zk2 => k_mem); (case zk4 => omega); k_whole)))
local macro_rules | `(tactic| walk_at "subscriptTail") => `(tactic| (k_here; (with_reducible show wpAny _ _ (subscriptTail _ _ (Value.ref _) (Value.int _ _)) _ _ _); (with_unfolding_all refine' item_led ?zk1 ?zk2 ?zk4 ?zk5 ?zk6 ?_ ?zk7; (case zk1 => k_asm); (case zk2 => k_mem); (case zk4 => omega); (case zk5 => omega); (case zk6 => omega); (case zk7 => with_unfolding_all rfl); k_whole); intro v' hv'))
local macro_rules | `(tactic| walk_at "cs") => `(tactic| ((case zB => k_asm); (case zF => k_asm); (case zX => k_asm); (case zN => k_asm); (case zT => k_asm); (case zk => first | exact rfl | assumption); (case zd => k_room); (case zu => k_units)))
local macro_rules | `(tactic| walk_at "call ref") => `(tactic| ((with_reducible show wpAny _ _ (call (Value.ref 330) _) _ _ _); k_dflt (refine' take_use ?zB ?zF ?zX ?zN ?zT ?zk ?zd ?zu ?zU ?zo ?zt0 ?zt1 ?_; walk_at "cs"; (case zU => k_updF); (case zo => assumption); (case zt0 => omega); (case zt1 => omega)); intro o' k' t' h' tk' F' N' hS' hk0' hk1'))
local macro_rules | `(tactic| walk_at "call ref") => `(tactic| ((with_reducible show wpAny _ _ (call (Value.ref 337) _) _ _ _); k_dflt (refine' one_use ?zB ?zF ?zX ?zN ?zT ?zk ?zd ?zu ?zU ?zo ?zm ?zs ?zne ?zh0 ?zh1 ?_; walk_at "cs"; (case zU => k_updF); (case zo => assumption); (case zm => k_mem); (case zs => exact rfl); (case zne => omega); (case zh0 => exact Nat.le_of_ble_eq_true rfl); (case zh1 => exact Nat.le_of_ble_eq_true rfl)); intro o' x' t' h' tk' F' N' hS' hx'))
local macro_rules | `(tactic| walk_at "call ref") => `(tactic| ((with_reducible show wpAny _ _ (call (Value.ref 361) _) _ _ _); k_dflt (refine' text_use ?zB ?zF ?zX ?zN ?zT ?zk ?zd ?zu ?zU ?zo ?_; walk_at "cs"; (case zU => k_updF); (case zo => assumption)); intro o' x' t' h' tk' F' N' hS' hx'))
local macro_rules | `(tactic| k_mem) => `(tactic| first | assumption | exact List.Mem.head _ | (refine' List.mem_cons_of_mem _ ?_; k_mem) | (refine' List.mem_append_left _ ?_; k_mem) | (refine' List.mem_append_right _ ?_; k_mem))
theorem fillK10 : (fun (_ : Params → Frag) (_ : OpenLaw) => True) Mine.K PySem.Challenge.rw_xw0213_01 := by k_fill; trivial
section
variable {prog : Program} {w : World} {A : Around} {E : Value → Shared → Prop} {s : Shared} {env : Env} {h₀ : Heap} {x x2 : Str} {target : Expr} {body : List Stmt} {Q : Flow → Shared → Prop}
set_option maxHeartbeats 3200000 in
/-- a loop over a list of the ledger with any target -/
theorem turns_led {l : Addr} {vs : List Value} {nn : Nat} {m₀ : Str → Option Value} {news : List (Addr × Obj)} (J : Nat → (Str → Option Value) → List (Addr × Obj) → Prop)
    (hh : A.handled = none) (hl : (l, listOf vs.toArray nn) ∈ news) (F : Fr h₀ env.locals s.heap m₀) (N : News h₀ env.locals s.heap news) (hj : J 0 m₀ news)
    (turn : ∀ (i : Nat) v (m₁ : Str → Option Value) (news₁ : List (Addr × Obj)) h tk own, vs[i]? = some v → OwnOff own (news₁.map (·.1)) → (l, listOf vs.toArray nn) ∈ news₁ → J i m₁ news₁ → Fr h₀ env.locals h m₁ → News h₀ env.locals h (news₁ ++ own) →
      wpAny (model prog w) A (assign target env v) (fun _ s₃ => wpAny (model prog w) A (execs body env) (InvPostG h₀ env.locals (fun m' nx => (l, listOf vs.toArray nn) ∈ nx ∧ J (i + 1) m' nx) own { s with heap := h, toks := tk } Q) E s₃) E { s with heap := h, toks := tk })
    (done : ∀ (m₁ : Str → Option Value) news₁ h tk, J vs.length m₁ news₁ → Fr h₀ env.locals h m₁ → News h₀ env.locals h news₁ → Q .next { s with heap := h, toks := tk }) :
    wpAny (model prog w) A (pyIter (.ref l)) (fun it s₂ => TurnsAt prog w A h₀ env target body Q E it s₂) E s := by
  have hol : s.heap.get? l = some (listOf vs.toArray nn) := (N _ hl).1
  have hls : s.heap.IsList l vs.toArray := ⟨_, hol, rfl, nn, rfl⟩
  have hne : l ≠ s.heap.objs.size := Nat.ne_of_lt (Heap.lt_size hol)
  refine wpAny_pyIter_list hls ?_
  have W := Walks.list (prog := prog) (w := w) hh s.heap.objs.size l hne vs.toArray
  have hlen : vs.toArray.size = vs.length := by simp
  rw [hlen] at W
  refine ⟨_, _, _, vs.length, _, _, _, m₀, news, (fun i m nx => (l, listOf vs.toArray nn) ∈ nx ∧ J i m nx), rfl, KTurns.ofWalks W (fun i v s Q E st q => letGo_listiter st.1 q), ?_, ?_, ?_, ⟨⟨_, Heap.get?_push_size _ rfl, rfl, rfl⟩, hls.at fun o e => Heap.get?_push_of_some _ e⟩, F.push _, (fun p hp => ⟨Heap.get?_push_of_some _ (N p hp).1, (N p hp).2⟩), ⟨hl, hj⟩, ?_, ?_⟩
  · intro hm
    rcases List.mem_cons.mp hm with e | hm
    · exact absurd F.ns.lt (e ▸ Nat.lt_irrefl _)
    · exact (N _ hl).2.1 ((List.mem_singleton.mp hm).symm)
  · intro b hb
    rw [List.mem_singleton.mp hb]
    exact next_is_new F
  · intro p hp hI
    exact absurd (Heap.lt_size (N p hp).1) ((List.mem_singleton.mp hI) ▸ Nat.lt_irrefl _)
  · rintro i v m₁ news₁ hh' tk' own hin hP ⟨hl₁, hJ⟩ hoff hown hget hfp hst F₁ N₁
    have hP' : vs[i]? = some v := by simpa using hP
    have hI0 : h₀.get? s.heap.objs.size = none := next_is_new F
    obtain ⟨⟨oI, hoI, _⟩, _⟩ := id hst
    have hIown : (s.heap.objs.size, oI) ∈ own.filter fun p => decide (p.1 = s.heap.objs.size) := List.mem_filter.mpr ⟨hfp _ (List.mem_cons.mpr (.inl rfl)) hI0 _ hoI, by simp⟩
    have hsep : OwnOff (own.filter fun p => decide (p.1 = s.heap.objs.size)) (news₁.map (·.1)) := by
      intro p hp b hb e
      obtain ⟨q, hq, rfl⟩ := List.mem_map.mp hb
      have h1 : p.1 = s.heap.objs.size := by simpa using (List.mem_filter.mp hp).2
      exact hoff q hq (List.mem_singleton.mpr (e ▸ h1))
    have N₂ : News h₀ env.locals hh' (news₁ ++ own.filter fun p => decide (p.1 = s.heap.objs.size)) := fun p hp => N₁ p ((List.mem_append.mp hp).elim (fun h => List.mem_append.mpr (.inr h)) fun h => List.mem_append.mpr (.inl ((List.mem_filter.mp h).1)))
    have hlo : hh'.get? l = some (listOf vs.toArray nn) := (N₁ _ (List.mem_append.mpr (.inr hl₁))).1
    have fin : ∀ s₂, InvEndG h₀ env.locals (fun m' nx => (l, listOf vs.toArray nn) ∈ nx ∧ J (i + 1) m' nx) (own.filter fun p => decide (p.1 = s.heap.objs.size)) { s with heap := hh', toks := tk' } s₂ →
        LoopStepU h₀ env.locals [s.heap.objs.size] own (fun m nx => (l, listOf vs.toArray nn) ∈ nx ∧ J (i + 1) m nx) { s with heap := hh', toks := tk' } .next s₂ := by
      rintro s₂ ⟨h', tk, m', news', nx, e, F', N', hn, ho, ha, hm⟩
      refine ⟨rfl, h', tk, m', nx, e, F', fun p hp => ?_, fun p hp hq => ?_, hm⟩
      · rcases List.mem_append.mp hp with h | h
        · by_cases hI : p.1 = s.heap.objs.size
          · exact N' p (ho p (List.mem_filter.mpr ⟨h, by simpa using hI⟩))
          · have h1 : p.1 = l := by
              rcases List.mem_cons.mp (hown p h) with h2 | h2
              · exact absurd h2 hI
              · exact List.mem_singleton.mp h2
            have h2 : hh'.get? p.1 = some p.2 := hget p h
            rw [h1, hlo] at h2
            have h3 : p = (l, listOf vs.toArray nn) := Prod.ext h1 (Option.some.inj h2).symm
            rw [h3]
            exact N' _ (hn _ hm.1)
        · exact N' p (hn p h)
      · exact ha _ hIown p.1 (List.mem_map.mpr ⟨p, hp, rfl⟩) (List.mem_singleton.mp hq).symm
    refine wpAny_mono (turn i v m₁ news₁ hh' tk' _ hP' hsep hl₁ hJ F₁ N₂) (fun _ s₃ q => wpAny_mono q (fun f s₂ p => ?_) fun _ _ e => e) fun _ _ e => e
    cases f with
    | ret v => exact .ret p
    | brk => exact .brk p
    | next => exact .next (fin _ p)
    | cont => exact .cont (fin _ p)
  · rintro h' tk m' news' F' N' _ ⟨_, hJ⟩
    exact done m' news' h' tk hJ F' N'
/-- a text that grows by a loop over a list of pairs -/
theorem pairs_acc {l : Addr} {vs : List Value} {nn : Nat} {m₀ : Str → Option Value} {news : List (Addr × Obj)} {acc : Str} (f : Nat → Str)
    (hh : A.handled = none) (hl : (l, listOf vs.toArray nn) ∈ news) (F : Fr h₀ env.locals s.heap m₀) (N : News h₀ env.locals s.heap news) (hj : ∃ t, m₀ acc = some (.str (f 0) t))
    (turn : ∀ (i : Nat) v (u : Str → Option Value) t h tk own, vs[i]? = some v → OwnOff own (news.map (·.1)) → Fr h₀ env.locals h (fun z => if z = acc then some (.str (f i) t) else if z = x then u z else if z = x2 then u z else m₀ z) → News h₀ env.locals h (news ++ own) →
      wpAny (model prog w) A (assign target env v) (fun _ s₃ => wpAny (model prog w) A (execs body env) (InvPostG h₀ env.locals (fun m' nx => (l, listOf vs.toArray nn) ∈ nx ∧ nx = news ∧ (∃ t, m' acc = some (.str (f (i + 1)) t)) ∧ ∀ z, z ≠ acc → z ≠ x → z ≠ x2 → m' z = m₀ z) own { s with heap := h, toks := tk } Q) E s₃) E { s with heap := h, toks := tk })
    (done : ∀ (u : Str → Option Value) t h tk, Fr h₀ env.locals h (fun z => if z = acc then some (.str (f vs.length) t) else if z = x then u z else if z = x2 then u z else m₀ z) → News h₀ env.locals h news → Q .next { s with heap := h, toks := tk }) :
    wpAny (model prog w) A (pyIter (.ref l)) (fun it s₂ => TurnsAt prog w A h₀ env target body Q E it s₂) E s := by
  have em : ∀ (m₁ : Str → Option Value) (t : Tok) (k : Nat), m₁ acc = some (.str (f k) t) → (∀ z, z ≠ acc → z ≠ x → z ≠ x2 → m₁ z = m₀ z) → ∀ z, m₁ z = (fun z => if z = acc then some (Value.str (f k) t) else if z = x then m₁ z else if z = x2 then m₁ z else m₀ z) z := by
    intro m₁ t k h1 h2 z
    dsimp only
    split
    · rename_i e; rw [e]; exact h1
    · split
      · rfl
      · split
        · rfl
        · exact h2 z (by assumption) (by assumption) (by assumption)
  refine turns_led (l := l) (vs := vs) (nn := nn) (fun i m nx => nx = news ∧ (∃ t, m acc = some (.str (f i) t)) ∧ ∀ z, z ≠ acc → z ≠ x → z ≠ x2 → m z = m₀ z) hh hl F N ⟨rfl, hj, fun _ _ _ _ => rfl⟩ ?_ ?_
  · rintro i v m₁ nx h tk own hv ho hm ⟨rfl, ⟨t, ht⟩, hJ⟩ F1 N1
    rw [funext (em m₁ t i ht hJ)] at F1
    exact turn i v m₁ t h tk own hv ho F1 N1
  · rintro m₁ nx h tk ⟨rfl, ⟨t, ht⟩, hJ⟩ F1 N1
    rw [funext (em m₁ t _ ht hJ)] at F1
    exact done m₁ t h tk F1 N1
/-- a text that grows by a loop over a list -/
theorem name_acc {l : Addr} {vs : List Value} {nn : Nat} {m₀ : Str → Option Value} {news : List (Addr × Obj)} {acc : Str} (f : Nat → Str) (hne : acc ≠ x)
    (hh : A.handled = none) (hl : (l, listOf vs.toArray nn) ∈ news) (F : Fr h₀ env.locals s.heap m₀) (N : News h₀ env.locals s.heap news) (hj : ∃ t, m₀ acc = some (.str (f 0) t))
    (turn : ∀ (i : Nat) v t h tk own, vs[i]? = some v → OwnOff own (news.map (·.1)) → Fr h₀ env.locals h (fun z => if z = x then some v else if z = acc then some (.str (f i) t) else m₀ z) → News h₀ env.locals h (news ++ own) →
      wpAny (model prog w) A (execs body env) (InvPostG h₀ env.locals (fun m' nx => (l, listOf vs.toArray nn) ∈ nx ∧ nx = news ∧ (∃ t, m' acc = some (.str (f (i + 1)) t)) ∧ ∀ z, z ≠ acc → z ≠ x → m' z = m₀ z) own { s with heap := h, toks := tk } Q) E { s with heap := h, toks := tk })
    (done : ∀ (u : Str → Option Value) t h tk, Fr h₀ env.locals h (fun z => if z = acc then some (.str (f vs.length) t) else if z = x then u z else m₀ z) → News h₀ env.locals h news → Q .next { s with heap := h, toks := tk }) :
    wpAny (model prog w) A (pyIter (.ref l)) (fun it s₂ => LoopAtV prog w A h₀ env x body Q E it s₂) E s := by
  refine kdl_iter (l := l) (vs := vs) (nn := nn) (fun i m nx => nx = news ∧ (∃ t, m acc = some (.str (f i) t)) ∧ ∀ z, z ≠ acc → z ≠ x → m z = m₀ z) hh hl F N ⟨rfl, hj, fun _ _ _ => rfl⟩ ?_ ?_
  · rintro i v m₁ nx h tk own hv ho hm ⟨rfl, ⟨t, ht⟩, hJ⟩ F1 N1
    have em : ∀ z, (fun z => if z = x then some v else m₁ z) z = (fun z => if z = x then some v else if z = acc then some (Value.str (f i) t) else m₀ z) z := by
      intro z
      dsimp only
      split
      · rfl
      · split
        · rename_i e; rw [e]; exact ht
        · exact hJ z (by assumption) (by assumption)
    rw [funext em] at F1
    exact turn i v t h tk own hv ho F1 N1
  · rintro m₁ nx h tk ⟨rfl, ⟨t, ht⟩, hJ⟩ F1 N1
    have em : ∀ z, m₁ z = (fun z => if z = acc then some (Value.str (f vs.length) t) else if z = x then m₁ z else m₀ z) z := by
      intro z
      dsimp only
      split
      · rename_i e; rw [e]; exact ht
      · split
        · rfl
        · exact hJ z (by assumption) (by assumption)
    rw [funext em] at F1
    exact done m₁ t h tk F1 N1
end
end

theorem reset_C11 (h : PySem.Heap) : PySem.W.GrownAll [] h := by
  w_top off
  walk1
section
open PySem PySem.W PyProof.Rows
set_option Elab.async false
set_option maxRecDepth 100000
set_option linter.unusedSimpArgs false
set_option hygiene false
local macro_rules | `(tactic| k_mem) => `(tactic| first | assumption | exact List.Mem.head _ | (refine' List.mem_cons_of_mem _ ?_; k_mem) | (refine' List.mem_append_left _ ?_; k_mem) | (refine' List.mem_append_right _ ?_; k_mem))
local macro_rules | `(tactic| walk_at "getAttr ref") => `(tactic| (k_here; k_dflt (refine' get_own ?zk1 ?zk2 ?zk3 ?zk4 ?zk5 ?zk6 ?zk7 ?zk8 ?zk9 ?_; (case zk1 => k_asm); (case zk2 => k_asm); (case zk3 => k_inst); (case zk4 => k_is); (case zk5 => k_is); (case zk6 => k_is); (case zk7 => k_is); (case zk8 => first | assumption | k_get); (case zk9 => k_handed); k_whole)))
local macro_rules | `(tactic| walk_at "len") => `(tactic| first | assumption | exact (by decide +kernel : PySem.Str.length _ ≤ 64) | exact len_app (by walk_at "len") (by walk_at "len"))
local macro_rules | `(tactic| walk_at "pyIter ref") => `(tactic| refine stop_at ?_)
local macro_rules | `(tactic| walk_at "exec For Tuple Name cons nil") => `(tactic| (k_here; (rename Fr _ _ _ _ => lF'); (with_unfolding_all refine' For_turns lF' ?_); k_whole))
theorem fillK11 : (fun (_ : Params → Frag) (_ : OpenLaw) => True) Mine.K PySem.Challenge.rw_xw0213_01 := by k_fill; trivial

/-- a tuple of two texts that stands -/
def PairAt (news : List (Addr × Obj)) (v : Value) (p : Str × Str) : Prop := ∃ T o n t1 t2, v = .ref T ∧ (T, o) ∈ news ∧ o.cls = .type "tuple" ∧ o.data = .seq #[.str p.1 t1, .str p.2 t2] n
def PairsAre (news : List (Addr × Obj)) (vs : List Value) (ps : List (Str × Str)) : Prop := vs.length = ps.length ∧ ∀ (i : Nat) v, vs[i]? = some v → ∃ p : Str × Str, ps[i]? = some p ∧ PairAt news v p
def AttsAre (news : List (Addr × Obj)) (rows vs : List Value) (ps : List (Str × Str)) : Prop := vs.length = ps.length ∧ ∀ (i : Nat) v, vs[i]? = some v → ∃ p : Str × Str, ∃ j tj a d, ps[i]? = some p ∧ v = .int j tj ∧ 0 ≤ j ∧ rows[j.toNat]? = some (.ref a) ∧ NodeAt news a d ∧ d.name = p.1 ∧ d.val = p.2
def Short (ps : List (Str × Str)) : Prop := ps.length ≤ 10 ∧ ∀ p ∈ ps, p.1.length ≤ 10 ∧ p.2.length ≤ 100
def nsOf (p : Str) : Str := if p = Str.ofString "" then Str.ofString " xmlns" else Str.ofString " xmlns:" ++ p
noncomputable def declOf (p : Str × Str) : Str := nsOf p.1 ++ (Str.ofString "=\"" ++ (tmap escV p.2 ++ Str.ofString "\""))
noncomputable def attrOf (p : Str × Str) : Str := Str.ofString " " ++ (p.1 ++ (Str.ofString "=\"" ++ (tmap escV p.2 ++ Str.ofString "\"")))
noncomputable def startText (name : Str) (ps qs : List (Str × Str)) (e : Bool) : Str := Str.ofString "<" ++ name ++ cat (ps.map declOf) ++ cat (qs.map attrOf) ++ (if e then Str.ofString "/>" else Str.ofString ">")
theorem PairAt.mono {n n' : List (Addr × Obj)} {v : Value} {p : Str × Str} (h : PairAt n v p) (hs : ∀ q ∈ n, q ∈ n') : PairAt n' v p := let ⟨T, o, k, a, b, e, m, r⟩ := h; ⟨T, o, k, a, b, e, hs _ m, r⟩
theorem declOf_len {ps : List (Str × Str)} (h : Short ps) (p : Str × Str) (hp : p ∈ ps) : (declOf p).length ≤ 1000 := by
  have h1 := h.2 p hp
  have h2 := tmap_len escV_len p.2
  unfold declOf nsOf
  split
  · simp only [Str.length_append]; (try kopn_lits); omega
  · simp only [Str.length_append]; (try kopn_lits); omega
theorem attrOf_len {ps : List (Str × Str)} (h : Short ps) (p : Str × Str) (hp : p ∈ ps) : (attrOf p).length ≤ 1000 := by
  have h1 := h.2 p hp
  have h2 := tmap_len escV_len p.2
  unfold attrOf
  simp only [Str.length_append]; (try kopn_lits); omega
noncomputable def upto (g : Str × Str → Str) (z : Str) (ps : List (Str × Str)) (i : Nat) : Str := z ++ cat ((ps.take i).map g)
theorem upto_zero (g : Str × Str → Str) (z : Str) (ps : List (Str × Str)) : upto g z ps 0 = z := by unfold upto; exact Str.append_empty z
theorem upto_succ {g : Str × Str → Str} {z : Str} {ps : List (Str × Str)} {i : Nat} {p : Str × Str} (h : ps[i]? = some p) : upto g z ps (i + 1) = upto g z ps i ++ g p := by
  unfold upto
  rw [List.take_add_one, h]
  show z ++ cat ((ps.take i ++ [p]).map g) = _
  rw [List.map_append, cat_append, ← Str.append_assoc]
  show _ ++ (g p ++ Str.empty) = _
  rw [Str.append_empty]
theorem upto_all (g : Str × Str → Str) (z : Str) (ps : List (Str × Str)) : upto g z ps ps.length = z ++ cat (ps.map g) := by unfold upto; rw [List.take_length]
theorem upto_len {g : Str × Str → Str} (z : Str) {ps : List (Str × Str)} (hz : ps.length ≤ 10) (h : ∀ p ∈ ps, (g p).length ≤ 1000) (i : Nat) : (upto g z ps i).length ≤ z.length + 10000 := by
  unfold upto
  rw [Str.length_append, cat_len]
  have h1 := sum_le_of (xs := (ps.take i).map g) (b := 1000) (by
    intro x hx
    obtain ⟨p, hp, rfl⟩ := List.mem_map.mp hx
    exact h p (List.mem_of_mem_take hp))
  rw [List.length_map, List.length_take] at h1
  have : min i ps.length ≤ 10 := by omega
  omega
theorem decl_yes {z : Str} {ps : List (Str × Str)} {i : Nat} {p : Str × Str} (h : ps[i]? = some p) (c : (p.1 == Str.ofString "") = true) :
    upto declOf z ps i ++ Str.ofString " xmlns" ++ Str.ofString "=\"" ++ tmap escV p.2 ++ Str.ofString "\"" = upto declOf z ps (i + 1) := by
  rw [upto_succ h]
  unfold declOf nsOf
  rw [if_pos (by simpa using c)]
  simp only [Str.append_assoc]
theorem decl_no {z : Str} {ps : List (Str × Str)} {i : Nat} {p : Str × Str} (h : ps[i]? = some p) (c : (p.1 == Str.ofString "") = false) :
    upto declOf z ps i ++ (Str.ofString " xmlns:" ++ p.1) ++ Str.ofString "=\"" ++ tmap escV p.2 ++ Str.ofString "\"" = upto declOf z ps (i + 1) := by
  rw [upto_succ h]
  unfold declOf nsOf
  rw [if_neg (by simpa using c)]
  simp only [Str.append_assoc]
theorem attr_step {z n v : Str} {ps : List (Str × Str)} {i : Nat} {p : Str × Str} (h : ps[i]? = some p) (hn : n = p.1) (hv : v = p.2) :
    upto attrOf z ps i ++ Str.ofString " " ++ n ++ Str.ofString "=\"" ++ tmap escV v ++ Str.ofString "\"" = upto attrOf z ps (i + 1) := by
  subst hn hv
  rw [upto_succ h]
  unfold attrOf
  simp only [Str.append_assoc]
set_option maxHeartbeats 4000000 in
theorem startTag_tell {w : World} {t l r0 pl : Addr} {rows ats pvs : List Value} {kl ka kp : Nat} {ei : Int} {te : Tok} {isE : Bool} {d0 : NodeD} {ps qs : List (Str × Str)} (R : List (Addr × Obj)) (hT : TreeAt R t l) (hl : (l, listOf rows.toArray kl) ∈ R)
    (hz : rows.length ≤ 100000) (hza : ats.length ≤ 1000) (he0 : 0 ≤ ei) (he : rows[ei.toNat]? = some (.ref r0)) (hN : NodeAt R r0 d0) (hat : (d0.at', listOf ats.toArray ka) ∈ R) (hp : (pl, listOf pvs.toArray kp) ∈ R) (hps : PairsAre R pvs ps) (has : AttsAre R rows ats qs) (hS1 : Short ps) (hS2 : Short qs) (hnm : d0.name.length ≤ 100) :
    Tell w 105 [.ref t, .int ei te, .ref pl, .bool isE] 4 R (fun news' r => news' = R ∧ ∃ t', r = .str (startText d0.name ps qs isE) t') := by
  have hT0 := hT
  first | (refine el_0_5 hT fun td hh htk hT1 hT2 => ?_) | (refine el_1_4 hT fun td hh htk hT1 hT2 => ?_) | (refine el_2_3 hT fun td hh htk hT1 hT2 => ?_) | (refine el_3_2 hT fun td hh htk hT1 hT2 => ?_) | (refine el_4_1 hT fun td hh htk hT1 hT2 => ?_) | obtain ⟨td, hh, htk, hT1, hT2⟩ := hT
  try clear hT
  refine Tell.intro fun loose mean mg mb dp un gd cn nm ig ic mr a ccd cl outer A₀ base h₀ L m sh sg sd st so Q E B F X N T hd hu ret => ?_
  refine wpAny_call ?_
  k_dflt k_enter
  rename Fr _ _ _ _ => F1
  refine (let A1 : Around := _; let m1 : Str → Option Value := _; let t1 : Nat := _; have F1 : Fr _ _ _ m1 := F1; (?_ : wpAny _ A1 _ _ _ (Shared.mk _ _ _ t1 _)))
  (repeat' (first | (k_here; (with_reducible show wpAny _ _ (binaryOp Operator.Add (Value.str _ _) (Value.str _ _)) _ _ _); (first | refine add_str (by walk_at "len") (by walk_at "len") (by rfl) ?_ | (refine add_str' ?zhz ?_; (case zhz => (simp only [PySem.Str.length_append]; (try kopn_lits); omega)))); intro _ _) | ((with_reducible show wpAny _ _ (call (Value.ref 77) _) _ _ _); k_dflt (refine' Tell.useV (room := 2) ?zB ?zF ?zX ?zN ?zT ?zk ?zd ?zu (escapedV_tell ?zhx _) ?_; (case zB => k_asm); (case zF => k_asm); (case zX => k_asm); (case zN => k_asm); (case zT => k_asm); (case zk => first | exact rfl | assumption); (case zd => k_room); (case zu => k_units); (case zhx => first | assumption | omega)); intro t' h' tk' F' N') | ((with_reducible show wpAny _ _ (call (Value.ref 281) _) _ _ _); k_dflt (refine' Tell.use (room := 2) ?zB ?zF ?zX ?zN ?zT ?zk ?zd ?zu (attributes_tell _ ?zhT ?zhl ?zh0 ?zhz ?zhi ?zhN ?zhat ?zhza) (fun p hp => hp) ?_; (case zB => k_asm); (case zF => k_asm); (case zX => k_asm); (case zN => k_asm); (case zT => k_asm); (case zk => first | exact rfl | assumption); (case zd => k_room); (case zu => k_units); (case zhT => exact TreeAt.mono (by assumption) (fun p hp => by k_mem)); (case zhl => k_mem); (case zh0 => omega); (case zhz => omega); (case zhi => first | assumption | exact rfl); (case zhN => exact NodeAt.mono (by assumption) (fun p hp => by k_mem)); (case zhat => k_mem); (case zhza => omega)); intro r' nw' h' tk' F' N' hP'; obtain ⟨b', k', hn', hr'⟩ := hP'; subst hn'; subst hr') | ((with_reducible show wpAny _ _ (call (Value.ref 260) _) _ _ _); k_dflt (refine' Tell.useV (room := 2) ?zB ?zF ?zX ?zN ?zT ?zk ?zd ?zu (value_tell _ ?zhT ?zhl ?zh0 ?zhz ?zhi ?zhN) ?_; (case zB => k_asm); (case zF => k_asm); (case zX => k_asm); (case zN => k_asm); (case zT => k_asm); (case zk => first | exact rfl | assumption); (case zd => k_room); (case zu => k_units); (case zhT => exact TreeAt.mono (by assumption) (fun p hp => by k_mem)); (case zhl => k_mem); (case zh0 => omega); (case zhz => omega); (case zhi => first | assumption | exact rfl); (case zhN => exact NodeAt.mono (by assumption) (fun p hp => by k_mem))); intro t' h' tk' F' N') | ((with_reducible show wpAny _ _ (call (Value.ref 239) _) _ _ _); k_dflt (refine' Tell.useV (room := 2) ?zB ?zF ?zX ?zN ?zT ?zk ?zd ?zu (name_tell _ ?zhT ?zhl ?zh0 ?zhz ?zhi ?zhN) ?_; (case zB => k_asm); (case zF => k_asm); (case zX => k_asm); (case zN => k_asm); (case zT => k_asm); (case zk => first | exact rfl | assumption); (case zd => k_room); (case zu => k_units); (case zhT => exact TreeAt.mono (by assumption) (fun p hp => by k_mem)); (case zhl => k_mem); (case zh0 => omega); (case zhz => omega); (case zhi => first | assumption | exact rfl); (case zhN => exact NodeAt.mono (by assumption) (fun p hp => by k_mem))); intro t' h' tk' F' N') | (k_unfold; (try dsimp only)) | walk1 | (dsimp only; walk1) | (leave1; (try dsimp only))))
  rename Fr _ _ _ _ => F0
  rename News _ _ _ R => N0
  refine go_on ?_
  refine pairs_acc (l := pl) (vs := pvs) (nn := kp) (acc := Str.ofString "found") (x := Str.ofString "prefix") (x2 := Str.ofString "uri") (upto declOf (Str.ofString "<" ++ d0.name) ps) rfl (by k_mem) F0 N0 ⟨_, by rw [upto_zero]; rfl⟩ ?_ ?_
  · intro i v u t9 h tk own hv ho F1 N1
    have hEl := hps.2 i v hv
    first | (refine el_0_11 hEl fun p hpi T9 o9 n9 q1 q2 hrf7 hTm hoc hod => ?_; subst hrf7) | (refine el_1_10 hEl fun p hpi T9 o9 n9 q1 q2 hrf7 hTm hoc hod => ?_; subst hrf7) | (refine el_2_9 hEl fun p hpi T9 o9 n9 q1 q2 hrf7 hTm hoc hod => ?_; subst hrf7) | (refine el_3_8 hEl fun p hpi T9 o9 n9 q1 q2 hrf7 hTm hoc hod => ?_; subst hrf7) | (refine el_4_7 hEl fun p hpi T9 o9 n9 q1 q2 hrf7 hTm hoc hod => ?_; subst hrf7) | (refine el_5_6 hEl fun p hpi T9 o9 n9 q1 q2 hrf7 hTm hoc hod => ?_; subst hrf7) | (refine el_6_5 hEl fun p hpi T9 o9 n9 q1 q2 hrf7 hTm hoc hod => ?_; subst hrf7) | (refine el_7_4 hEl fun p hpi T9 o9 n9 q1 q2 hrf7 hTm hoc hod => ?_; subst hrf7) | (refine el_8_3 hEl fun p hpi T9 o9 n9 q1 q2 hrf7 hTm hoc hod => ?_; subst hrf7) | (refine el_9_2 hEl fun p hpi T9 o9 n9 q1 q2 hrf7 hTm hoc hod => ?_; subst hrf7) | (refine el_10_1 hEl fun p hpi T9 o9 n9 q1 q2 hrf7 hTm hoc hod => ?_; subst hrf7) | obtain ⟨p, hpi, T9, o9, n9, q1, q2, rfl, hTm, hoc, hod⟩ := hEl
    try clear hEl
    have hs := hS1.2 p (List.mem_of_getElem? hpi)
    have hu := upto_len (g := declOf) (Str.ofString "<" ++ d0.name) hS1.1 (declOf_len hS1) i
    have he2 := tmap_len escV_len p.2
    refine unpackN_ F1 N1 ⟨o9, (N1 _ (List.mem_append_left _ hTm)).1, hoc, n9, hod⟩ rfl rfl rfl fun h' F' N' => ?_
    (repeat' (first | (k_here; (with_reducible show wpAny _ _ (binaryOp Operator.Add (Value.str _ _) (Value.str _ _)) _ _ _); (first | refine add_str (by walk_at "len") (by walk_at "len") (by rfl) ?_ | (refine add_str' ?zhz ?_; (case zhz => (simp only [PySem.Str.length_append]; (try kopn_lits); omega)))); intro _ _) | ((with_reducible show wpAny _ _ (call (Value.ref 77) _) _ _ _); k_dflt (refine' Tell.useV (room := 2) ?zB ?zF ?zX ?zN ?zT ?zk ?zd ?zu (escapedV_tell ?zhx _) ?_; (case zB => k_asm); (case zF => k_asm); (case zX => k_asm); (case zN => k_asm); (case zT => k_asm); (case zk => first | exact rfl | assumption); (case zd => k_room); (case zu => k_units); (case zhx => first | assumption | omega)); intro t' h' tk' F' N') | ((with_reducible show wpAny _ _ (call (Value.ref 281) _) _ _ _); k_dflt (refine' Tell.use (room := 2) ?zB ?zF ?zX ?zN ?zT ?zk ?zd ?zu (attributes_tell _ ?zhT ?zhl ?zh0 ?zhz ?zhi ?zhN ?zhat ?zhza) (fun p hp => hp) ?_; (case zB => k_asm); (case zF => k_asm); (case zX => k_asm); (case zN => k_asm); (case zT => k_asm); (case zk => first | exact rfl | assumption); (case zd => k_room); (case zu => k_units); (case zhT => exact TreeAt.mono (by assumption) (fun p hp => by k_mem)); (case zhl => k_mem); (case zh0 => omega); (case zhz => omega); (case zhi => first | assumption | exact rfl); (case zhN => exact NodeAt.mono (by assumption) (fun p hp => by k_mem)); (case zhat => k_mem); (case zhza => omega)); intro r' nw' h' tk' F' N' hP'; obtain ⟨b', k', hn', hr'⟩ := hP'; subst hn'; subst hr') | ((with_reducible show wpAny _ _ (call (Value.ref 260) _) _ _ _); k_dflt (refine' Tell.useV (room := 2) ?zB ?zF ?zX ?zN ?zT ?zk ?zd ?zu (value_tell _ ?zhT ?zhl ?zh0 ?zhz ?zhi ?zhN) ?_; (case zB => k_asm); (case zF => k_asm); (case zX => k_asm); (case zN => k_asm); (case zT => k_asm); (case zk => first | exact rfl | assumption); (case zd => k_room); (case zu => k_units); (case zhT => exact TreeAt.mono (by assumption) (fun p hp => by k_mem)); (case zhl => k_mem); (case zh0 => omega); (case zhz => omega); (case zhi => first | assumption | exact rfl); (case zhN => exact NodeAt.mono (by assumption) (fun p hp => by k_mem))); intro t' h' tk' F' N') | ((with_reducible show wpAny _ _ (call (Value.ref 239) _) _ _ _); k_dflt (refine' Tell.useV (room := 2) ?zB ?zF ?zX ?zN ?zT ?zk ?zd ?zu (name_tell _ ?zhT ?zhl ?zh0 ?zhz ?zhi ?zhN) ?_; (case zB => k_asm); (case zF => k_asm); (case zX => k_asm); (case zN => k_asm); (case zT => k_asm); (case zk => first | exact rfl | assumption); (case zd => k_room); (case zu => k_units); (case zhT => exact TreeAt.mono (by assumption) (fun p hp => by k_mem)); (case zhl => k_mem); (case zh0 => omega); (case zhz => omega); (case zhi => first | assumption | exact rfl); (case zhN => exact NodeAt.mono (by assumption) (fun p hp => by k_mem))); intro t' h' tk' F' N') | (k_unfold; (try dsimp only)) | walk1 | (dsimp only; walk1) | (leave1; (try dsimp only))))
    · refine InvEndG.intro (by assumption) (by assumption) ⟨by k_mem, rfl, ⟨_, (if_pos rfl).trans (congrArg (fun x => some (Value.str x _)) (decl_yes hpi (by assumption)))⟩, fun z h1 h2 h3 => by simp only [if_neg h1, if_neg h2, if_neg h3]⟩ ho (fun p hp => List.mem_append_left _ hp) (fun p hp => List.mem_append_right _ hp)
    · refine InvEndG.intro (by assumption) (by assumption) ⟨by k_mem, rfl, ⟨_, (if_pos rfl).trans (congrArg (fun x => some (Value.str x _)) (decl_no hpi (by assumption)))⟩, fun z h1 h2 h3 => by simp only [if_neg h1, if_neg h2, if_neg h3]⟩ ho (fun p hp => List.mem_append_left _ hp) (fun p hp => List.mem_append_right _ hp)
  · intro u t9 h tk F1 N1
    (repeat' (first | (k_here; (with_reducible show wpAny _ _ (binaryOp Operator.Add (Value.str _ _) (Value.str _ _)) _ _ _); (first | refine add_str (by walk_at "len") (by walk_at "len") (by rfl) ?_ | (refine add_str' ?zhz ?_; (case zhz => (simp only [PySem.Str.length_append]; (try kopn_lits); omega)))); intro _ _) | ((with_reducible show wpAny _ _ (call (Value.ref 77) _) _ _ _); k_dflt (refine' Tell.useV (room := 2) ?zB ?zF ?zX ?zN ?zT ?zk ?zd ?zu (escapedV_tell ?zhx _) ?_; (case zB => k_asm); (case zF => k_asm); (case zX => k_asm); (case zN => k_asm); (case zT => k_asm); (case zk => first | exact rfl | assumption); (case zd => k_room); (case zu => k_units); (case zhx => first | assumption | omega)); intro t' h' tk' F' N') | ((with_reducible show wpAny _ _ (call (Value.ref 281) _) _ _ _); k_dflt (refine' Tell.use (room := 2) ?zB ?zF ?zX ?zN ?zT ?zk ?zd ?zu (attributes_tell _ ?zhT ?zhl ?zh0 ?zhz ?zhi ?zhN ?zhat ?zhza) (fun p hp => hp) ?_; (case zB => k_asm); (case zF => k_asm); (case zX => k_asm); (case zN => k_asm); (case zT => k_asm); (case zk => first | exact rfl | assumption); (case zd => k_room); (case zu => k_units); (case zhT => exact TreeAt.mono (by assumption) (fun p hp => by k_mem)); (case zhl => k_mem); (case zh0 => omega); (case zhz => omega); (case zhi => first | assumption | exact rfl); (case zhN => exact NodeAt.mono (by assumption) (fun p hp => by k_mem)); (case zhat => k_mem); (case zhza => omega)); intro r' nw' h' tk' F' N' hP'; obtain ⟨b', k', hn', hr'⟩ := hP'; subst hn'; subst hr') | ((with_reducible show wpAny _ _ (call (Value.ref 260) _) _ _ _); k_dflt (refine' Tell.useV (room := 2) ?zB ?zF ?zX ?zN ?zT ?zk ?zd ?zu (value_tell _ ?zhT ?zhl ?zh0 ?zhz ?zhi ?zhN) ?_; (case zB => k_asm); (case zF => k_asm); (case zX => k_asm); (case zN => k_asm); (case zT => k_asm); (case zk => first | exact rfl | assumption); (case zd => k_room); (case zu => k_units); (case zhT => exact TreeAt.mono (by assumption) (fun p hp => by k_mem)); (case zhl => k_mem); (case zh0 => omega); (case zhz => omega); (case zhi => first | assumption | exact rfl); (case zhN => exact NodeAt.mono (by assumption) (fun p hp => by k_mem))); intro t' h' tk' F' N') | ((with_reducible show wpAny _ _ (call (Value.ref 239) _) _ _ _); k_dflt (refine' Tell.useV (room := 2) ?zB ?zF ?zX ?zN ?zT ?zk ?zd ?zu (name_tell _ ?zhT ?zhl ?zh0 ?zhz ?zhi ?zhN) ?_; (case zB => k_asm); (case zF => k_asm); (case zX => k_asm); (case zN => k_asm); (case zT => k_asm); (case zk => first | exact rfl | assumption); (case zd => k_room); (case zu => k_units); (case zhT => exact TreeAt.mono (by assumption) (fun p hp => by k_mem)); (case zhl => k_mem); (case zh0 => omega); (case zhz => omega); (case zhi => first | assumption | exact rfl); (case zhN => exact NodeAt.mono (by assumption) (fun p hp => by k_mem))); intro t' h' tk' F' N') | (k_unfold; (try dsimp only)) | walk1 | (dsimp only; walk1) | (leave1; (try dsimp only))))
    rename Fr _ _ _ _ => F2
    rename News _ _ _ _ => N2
    have hb1 : (upto declOf (Str.ofString "<" ++ d0.name) ps pvs.length).length ≤ 20000 := by
      have hu := upto_len (g := declOf) (Str.ofString "<" ++ d0.name) hS1.1 (declOf_len hS1) pvs.length
      have e1 : (Str.ofString "<").length = 1 := by decide +kernel
      rw [Str.length_append] at hu
      omega
    have hps1 := hps.1
    have has1 := has.1
    refine go_on ?_
    refine name_acc (vs := ats) (acc := Str.ofString "found") (x := Str.ofString "node") (upto attrOf (upto declOf (Str.ofString "<" ++ d0.name) ps pvs.length) qs) (by decide) rfl (by k_mem) F2 N2 ⟨_, by rw [upto_zero]; rfl⟩ ?_ ?_
    · intro i v t8 h tk own hv ho F3 N3
      have hEl := has.2 i v hv
      first | (refine el_0_12 hEl fun p j tj ar dr hpi hrf6 hj0 hjr hNr hd1 hd2 => ?_; subst hrf6) | (refine el_1_11 hEl fun p j tj ar dr hpi hrf6 hj0 hjr hNr hd1 hd2 => ?_; subst hrf6) | (refine el_2_10 hEl fun p j tj ar dr hpi hrf6 hj0 hjr hNr hd1 hd2 => ?_; subst hrf6) | (refine el_3_9 hEl fun p j tj ar dr hpi hrf6 hj0 hjr hNr hd1 hd2 => ?_; subst hrf6) | (refine el_4_8 hEl fun p j tj ar dr hpi hrf6 hj0 hjr hNr hd1 hd2 => ?_; subst hrf6) | (refine el_5_7 hEl fun p j tj ar dr hpi hrf6 hj0 hjr hNr hd1 hd2 => ?_; subst hrf6) | (refine el_6_6 hEl fun p j tj ar dr hpi hrf6 hj0 hjr hNr hd1 hd2 => ?_; subst hrf6) | (refine el_7_5 hEl fun p j tj ar dr hpi hrf6 hj0 hjr hNr hd1 hd2 => ?_; subst hrf6) | (refine el_8_4 hEl fun p j tj ar dr hpi hrf6 hj0 hjr hNr hd1 hd2 => ?_; subst hrf6) | (refine el_9_3 hEl fun p j tj ar dr hpi hrf6 hj0 hjr hNr hd1 hd2 => ?_; subst hrf6) | (refine el_10_2 hEl fun p j tj ar dr hpi hrf6 hj0 hjr hNr hd1 hd2 => ?_; subst hrf6) | (refine el_11_1 hEl fun p j tj ar dr hpi hrf6 hj0 hjr hNr hd1 hd2 => ?_; subst hrf6) | obtain ⟨p, j, tj, ar, dr, hpi, rfl, hj0, hjr, hNr, hd1, hd2⟩ := hEl
      try clear hEl
      have hs := hS2.2 p (List.mem_of_getElem? hpi)
      rw [← hd1, ← hd2] at hs
      have hu := upto_len (g := attrOf) (upto declOf (Str.ofString "<" ++ d0.name) ps pvs.length) hS2.1 (attrOf_len hS2) i
      have he2 := tmap_len escV_len dr.val
      (repeat' (first | (k_here; (with_reducible show wpAny _ _ (binaryOp Operator.Add (Value.str _ _) (Value.str _ _)) _ _ _); (first | refine add_str (by walk_at "len") (by walk_at "len") (by rfl) ?_ | (refine add_str' ?zhz ?_; (case zhz => (simp only [PySem.Str.length_append]; (try kopn_lits); omega)))); intro _ _) | ((with_reducible show wpAny _ _ (call (Value.ref 77) _) _ _ _); k_dflt (refine' Tell.useV (room := 2) ?zB ?zF ?zX ?zN ?zT ?zk ?zd ?zu (escapedV_tell ?zhx _) ?_; (case zB => k_asm); (case zF => k_asm); (case zX => k_asm); (case zN => k_asm); (case zT => k_asm); (case zk => first | exact rfl | assumption); (case zd => k_room); (case zu => k_units); (case zhx => first | assumption | omega)); intro t' h' tk' F' N') | ((with_reducible show wpAny _ _ (call (Value.ref 281) _) _ _ _); k_dflt (refine' Tell.use (room := 2) ?zB ?zF ?zX ?zN ?zT ?zk ?zd ?zu (attributes_tell _ ?zhT ?zhl ?zh0 ?zhz ?zhi ?zhN ?zhat ?zhza) (fun p hp => hp) ?_; (case zB => k_asm); (case zF => k_asm); (case zX => k_asm); (case zN => k_asm); (case zT => k_asm); (case zk => first | exact rfl | assumption); (case zd => k_room); (case zu => k_units); (case zhT => exact TreeAt.mono (by assumption) (fun p hp => by k_mem)); (case zhl => k_mem); (case zh0 => omega); (case zhz => omega); (case zhi => first | assumption | exact rfl); (case zhN => exact NodeAt.mono (by assumption) (fun p hp => by k_mem)); (case zhat => k_mem); (case zhza => omega)); intro r' nw' h' tk' F' N' hP'; obtain ⟨b', k', hn', hr'⟩ := hP'; subst hn'; subst hr') | ((with_reducible show wpAny _ _ (call (Value.ref 260) _) _ _ _); k_dflt (refine' Tell.useV (room := 2) ?zB ?zF ?zX ?zN ?zT ?zk ?zd ?zu (value_tell _ ?zhT ?zhl ?zh0 ?zhz ?zhi ?zhN) ?_; (case zB => k_asm); (case zF => k_asm); (case zX => k_asm); (case zN => k_asm); (case zT => k_asm); (case zk => first | exact rfl | assumption); (case zd => k_room); (case zu => k_units); (case zhT => exact TreeAt.mono (by assumption) (fun p hp => by k_mem)); (case zhl => k_mem); (case zh0 => omega); (case zhz => omega); (case zhi => first | assumption | exact rfl); (case zhN => exact NodeAt.mono (by assumption) (fun p hp => by k_mem))); intro t' h' tk' F' N') | ((with_reducible show wpAny _ _ (call (Value.ref 239) _) _ _ _); k_dflt (refine' Tell.useV (room := 2) ?zB ?zF ?zX ?zN ?zT ?zk ?zd ?zu (name_tell _ ?zhT ?zhl ?zh0 ?zhz ?zhi ?zhN) ?_; (case zB => k_asm); (case zF => k_asm); (case zX => k_asm); (case zN => k_asm); (case zT => k_asm); (case zk => first | exact rfl | assumption); (case zd => k_room); (case zu => k_units); (case zhT => exact TreeAt.mono (by assumption) (fun p hp => by k_mem)); (case zhl => k_mem); (case zh0 => omega); (case zhz => omega); (case zhi => first | assumption | exact rfl); (case zhN => exact NodeAt.mono (by assumption) (fun p hp => by k_mem))); intro t' h' tk' F' N') | (k_unfold; (try dsimp only)) | walk1 | (dsimp only; walk1) | (leave1; (try dsimp only))))
      refine InvEndG.intro (by assumption) (by assumption) ⟨by k_mem, rfl, ⟨_, (if_pos rfl).trans (congrArg (fun x => some (Value.str x _)) (attr_step hpi hd1 hd2))⟩, fun z h1 h2 => by simp only [if_neg h1, if_neg h2]⟩ ho (fun p hp => List.mem_append_left _ hp) (fun p hp => List.mem_append_right _ hp)
    · intro u2 t8 h tk F3 N3
      have hu := upto_len (g := attrOf) (upto declOf (Str.ofString "<" ++ d0.name) ps pvs.length) hS2.1 (attrOf_len hS2) ats.length
      have e3 : ∀ x, startText d0.name ps qs x = upto attrOf (upto declOf (Str.ofString "<" ++ d0.name) ps pvs.length) qs ats.length ++ (if x then Str.ofString "/>" else Str.ofString ">") := by
        intro x
        rw [hps1, has1, upto_all, upto_all]
        rfl
      (repeat' (first | (k_here; (with_reducible show wpAny _ _ (binaryOp Operator.Add (Value.str _ _) (Value.str _ _)) _ _ _); (first | refine add_str (by walk_at "len") (by walk_at "len") (by rfl) ?_ | (refine add_str' ?zhz ?_; (case zhz => (simp only [PySem.Str.length_append]; (try kopn_lits); omega)))); intro _ _) | ((with_reducible show wpAny _ _ (call (Value.ref 77) _) _ _ _); k_dflt (refine' Tell.useV (room := 2) ?zB ?zF ?zX ?zN ?zT ?zk ?zd ?zu (escapedV_tell ?zhx _) ?_; (case zB => k_asm); (case zF => k_asm); (case zX => k_asm); (case zN => k_asm); (case zT => k_asm); (case zk => first | exact rfl | assumption); (case zd => k_room); (case zu => k_units); (case zhx => first | assumption | omega)); intro t' h' tk' F' N') | ((with_reducible show wpAny _ _ (call (Value.ref 281) _) _ _ _); k_dflt (refine' Tell.use (room := 2) ?zB ?zF ?zX ?zN ?zT ?zk ?zd ?zu (attributes_tell _ ?zhT ?zhl ?zh0 ?zhz ?zhi ?zhN ?zhat ?zhza) (fun p hp => hp) ?_; (case zB => k_asm); (case zF => k_asm); (case zX => k_asm); (case zN => k_asm); (case zT => k_asm); (case zk => first | exact rfl | assumption); (case zd => k_room); (case zu => k_units); (case zhT => exact TreeAt.mono (by assumption) (fun p hp => by k_mem)); (case zhl => k_mem); (case zh0 => omega); (case zhz => omega); (case zhi => first | assumption | exact rfl); (case zhN => exact NodeAt.mono (by assumption) (fun p hp => by k_mem)); (case zhat => k_mem); (case zhza => omega)); intro r' nw' h' tk' F' N' hP'; obtain ⟨b', k', hn', hr'⟩ := hP'; subst hn'; subst hr') | ((with_reducible show wpAny _ _ (call (Value.ref 260) _) _ _ _); k_dflt (refine' Tell.useV (room := 2) ?zB ?zF ?zX ?zN ?zT ?zk ?zd ?zu (value_tell _ ?zhT ?zhl ?zh0 ?zhz ?zhi ?zhN) ?_; (case zB => k_asm); (case zF => k_asm); (case zX => k_asm); (case zN => k_asm); (case zT => k_asm); (case zk => first | exact rfl | assumption); (case zd => k_room); (case zu => k_units); (case zhT => exact TreeAt.mono (by assumption) (fun p hp => by k_mem)); (case zhl => k_mem); (case zh0 => omega); (case zhz => omega); (case zhi => first | assumption | exact rfl); (case zhN => exact NodeAt.mono (by assumption) (fun p hp => by k_mem))); intro t' h' tk' F' N') | ((with_reducible show wpAny _ _ (call (Value.ref 239) _) _ _ _); k_dflt (refine' Tell.useV (room := 2) ?zB ?zF ?zX ?zN ?zT ?zk ?zd ?zu (name_tell _ ?zhT ?zhl ?zh0 ?zhz ?zhi ?zhN) ?_; (case zB => k_asm); (case zF => k_asm); (case zX => k_asm); (case zN => k_asm); (case zT => k_asm); (case zk => first | exact rfl | assumption); (case zd => k_room); (case zu => k_units); (case zhT => exact TreeAt.mono (by assumption) (fun p hp => by k_mem)); (case zhl => k_mem); (case zh0 => omega); (case zhz => omega); (case zhi => first | assumption | exact rfl); (case zhN => exact NodeAt.mono (by assumption) (fun p hp => by k_mem))); intro t' h' tk' F' N') | (k_unfold; (try dsimp only)) | walk1 | (dsimp only; walk1) | (leave1; (try dsimp only))))
      all_goals subst isE
      all_goals exact ret _ _ _ _ (by assumption) (news_sub (by assumption) (by kcf_all)) ⟨rfl, _, congrArg (fun x => Value.str x _) (by rw [e3]; rfl)⟩
end

theorem reset_C12 (h : PySem.Heap) : PySem.W.GrownAll [] h := by
  w_top off
  walk1
section
open PySem PySem.W PyProof.Rows
set_option Elab.async false
set_option maxRecDepth 100000
set_option linter.unusedSimpArgs false
set_option hygiene false
local macro_rules | `(tactic| k_mem) => `(tactic| first | assumption | exact List.Mem.head _ | (refine' List.mem_cons_of_mem _ ?_; k_mem) | (refine' List.mem_append_left _ ?_; k_mem) | (refine' List.mem_append_right _ ?_; k_mem))
local macro_rules | `(tactic| walk_at "getAttr ref") => `(tactic| (k_here; k_dflt (refine' get_own ?zk1 ?zk2 ?zk3 ?zk4 ?zk5 ?zk6 ?zk7 ?zk8 ?zk9 ?_; (case zk1 => k_asm); (case zk2 => k_asm); (case zk3 => k_inst); (case zk4 => k_is); (case zk5 => k_is); (case zk6 => k_is); (case zk7 => k_is); (case zk8 => first | assumption | k_get); (case zk9 => k_handed); k_whole)))
local macro_rules | `(tactic| walk_at "len") => `(tactic| first | assumption | exact (by decide +kernel : PySem.Str.length _ ≤ 64) | exact len_app (by walk_at "len") (by walk_at "len"))
local macro_rules | `(tactic| walk_at "pyIter ref") => `(tactic| refine stop_at ?_)
local macro_rules | `(tactic| walk_at "exec For Tuple Name cons nil") => `(tactic| (k_here; (rename Fr _ _ _ _ => lF'); (with_unfolding_all refine' For_turns lF' ?_); k_whole))
local macro_rules | `(tactic| walk_at "eval Subscript") => `(tactic| refine stop_at ?_)
local macro_rules | `(tactic| walk_at "binaryOp Add ref ref") => `(tactic| refine stop_at ?_)
local macro_rules | `(tactic| walk_at "SrcLP") => `(tactic| refine stop_at ?_)
local macro_rules | `(tactic| walk_at "eval ListComp") => `(tactic| refine stop_at ?_)
theorem fillK12 : (fun (_ : Params → Frag) (_ : OpenLaw) => True) Mine.K PySem.Challenge.rw_xw0213_01 := by k_fill; trivial

theorem str_then {prog : Program} {w : World} {A : Around} {E : Value → Shared → Prop} {s : Shared} {env : Env} {Q : Value → Shared → Prop} {e : PySem.Expr} {h₀ : Heap} {L : Addr} {m : Str → Option Value} {news : List (Addr × Obj)} (_F : Fr h₀ L s.heap m) (_N : News h₀ L s.heap news)
    (h : wpAny (model prog w) A (eval e env) (fun v s' => ∃ x t h' tk', v = Value.str x t ∧ s' = { s with heap := h', toks := tk' } ∧ Fr h₀ L h' m ∧ News h₀ L h' news) E s)
    (k : ∀ x t h' tk', Fr h₀ L h' m → News h₀ L h' news → Q (.str x t) { s with heap := h', toks := tk' }) : wpAny (model prog w) A (eval e env) Q E s :=
  wpAny_mono h (fun v s' ⟨x, t, h', tk', e1, e2, F', N'⟩ => by subst e1 e2; exact k x t h' tk' F' N') fun _ _ e => e
section
variable {prog : Program} {w : World} {A : Around} {E : Value → Shared → Prop} {s : Shared} {env : Env} {h₀ : Heap} {x x2 : Str} {target : Expr} {body : List Stmt} {Q : Flow → Shared → Prop}
/-- a loop over a list of pairs by an invariant over the ledger -/
theorem pairs_led {l : Addr} {vs : List Value} {nn : Nat} {m₀ : Str → Option Value} {news : List (Addr × Obj)} (J : Nat → List (Addr × Obj) → Prop)
    (hh : A.handled = none) (hl : (l, listOf vs.toArray nn) ∈ news) (F : Fr h₀ env.locals s.heap m₀) (N : News h₀ env.locals s.heap news) (hj : J 0 news)
    (turn : ∀ (i : Nat) v (u : Str → Option Value) nx h tk own, vs[i]? = some v → OwnOff own (nx.map (·.1)) → (l, listOf vs.toArray nn) ∈ nx → J i nx → Fr h₀ env.locals h (fun z => if z = x then u z else if z = x2 then u z else m₀ z) → News h₀ env.locals h (nx ++ own) →
      wpAny (model prog w) A (assign target env v) (fun _ s₃ => wpAny (model prog w) A (execs body env) (InvPostG h₀ env.locals (fun m' nx => (l, listOf vs.toArray nn) ∈ nx ∧ J (i + 1) nx ∧ ∀ z, z ≠ x → z ≠ x2 → m' z = m₀ z) own { s with heap := h, toks := tk } Q) E s₃) E { s with heap := h, toks := tk })
    (done : ∀ (u : Str → Option Value) nx h tk, J vs.length nx → (l, listOf vs.toArray nn) ∈ nx → Fr h₀ env.locals h (fun z => if z = x then u z else if z = x2 then u z else m₀ z) → News h₀ env.locals h nx → Q .next { s with heap := h, toks := tk }) :
    wpAny (model prog w) A (pyIter (.ref l)) (fun it s₂ => TurnsAt prog w A h₀ env target body Q E it s₂) E s := by
  have em : ∀ (m₁ : Str → Option Value), (∀ z, z ≠ x → z ≠ x2 → m₁ z = m₀ z) → ∀ z, m₁ z = (fun z => if z = x then m₁ z else if z = x2 then m₁ z else m₀ z) z := by
    intro m₁ h2 z
    dsimp only
    split
    · rfl
    · split
      · rfl
      · exact h2 z (by assumption) (by assumption)
  refine turns_led (l := l) (vs := vs) (nn := nn) (fun i m nx => J i nx ∧ (l, listOf vs.toArray nn) ∈ nx ∧ ∀ z, z ≠ x → z ≠ x2 → m z = m₀ z) hh hl F N ⟨hj, hl, fun _ _ _ => rfl⟩ ?_ ?_
  · rintro i v m₁ nx h tk own hv ho hm ⟨hn, hl', hJ⟩ F1 N1
    rw [funext (em m₁ hJ)] at F1
    refine wpAny_mono (turn i v m₁ nx h tk own hv ho hm hn F1 N1) (fun _ s₃ q => wpAny_mono q (fun f s₂ p => ?_) fun _ _ e => e) fun _ _ e => e
    have fin : ∀ s₂, InvEndG h₀ env.locals (fun m' nx => (l, listOf vs.toArray nn) ∈ nx ∧ J (i + 1) nx ∧ ∀ z, z ≠ x → z ≠ x2 → m' z = m₀ z) own { s with heap := h, toks := tk } s₂ →
        InvEndG h₀ env.locals (fun m' nx => (l, listOf vs.toArray nn) ∈ nx ∧ J (i + 1) nx ∧ (l, listOf vs.toArray nn) ∈ nx ∧ ∀ z, z ≠ x → z ≠ x2 → m' z = m₀ z) own { s with heap := h, toks := tk } s₂ := by
      rintro s₂ ⟨h', tk', m', news', nx', e, F', N', hn, ho', ha, h1, h2, h3⟩
      exact ⟨h', tk', m', news', nx', e, F', N', hn, ho', ha, h1, h2, h1, h3⟩
    cases f with
    | ret v => exact p
    | brk => exact p
    | next => exact fin _ p
    | cont => exact fin _ p
  · rintro m₁ nx h tk ⟨hn, hl', hJ⟩ F1 N1
    rw [funext (em m₁ hJ)] at F1
    exact done m₁ nx h tk hn hl' F1 N1
end
/-- the attributes as they were put -/
def AttsLoc (news : List (Addr × Obj)) (rows vs : List Value) (ps : List (Str × Str)) : Prop := vs.length = ps.length ∧ ∀ (i : Nat) v, vs[i]? = some v → ∃ p : Str × Str, ∃ j tj a d, ps[i]? = some p ∧ v = .int j tj ∧ 0 ≤ j ∧ rows[j.toNat]? = some (.ref a) ∧ NodeAt news a d ∧ d.name = p.1 ∧ d.loc = p.1 ∧ d.val = p.2
def SR (R : List (Addr × Obj)) (t l r0 : Addr) (d0 : NodeD) (qs : List (Str × Str)) (i : Nat) (nx : List (Addr × Obj)) : Prop := ∃ rows ats kl ka R', nx = (l, listOf rows.toArray kl) :: (d0.at', listOf ats.toArray ka) :: R' ∧ (∀ p ∈ R', p.1 ≠ l) ∧ (∀ p ∈ R', p.1 ≠ d0.at') ∧ TreeAt R' t l ∧
  rows[0]? = some (.ref r0) ∧ rows.length = i + 1 ∧ NodeAt R' r0 d0 ∧ AttsLoc R' rows ats (qs.take i) ∧ (∀ p ∈ R, p ∈ R') ∧ @Ne Nat d0.at' l
theorem SR.start {R : List (Addr × Obj)} {t l a dx : Addr} {es : List DictEntry} {n k : Nat} {d0 : NodeD} (qs : List (Str × Str)) (hF : Flds es d0) (hR : ∀ p ∈ R, p.1 ≠ l) (hT : TreeAt R t l)
    (hf : ∀ p ∈ (l, listOf #[] 0) :: R, p.1 ≠ a ∧ p.1 ≠ dx ∧ p.1 ≠ d0.ch ∧ p.1 ≠ d0.at' ∧ p.1 ≠ d0.ns) (hl : @LT.lt Nat _ dx a ∧ @LT.lt Nat _ a d0.ch ∧ @LT.lt Nat _ d0.ch d0.at' ∧ @LT.lt Nat _ d0.at' d0.ns) :
    ∃ nx, SR R t l a d0 qs 0 nx ∧ (∀ p ∈ nx, p ∈ (l, listOf ([] ++ [Value.ref a]).toArray k) :: (newRow a dx es n d0 ++ R)) := by
  refine ⟨_, ⟨[Value.ref a], [], k, 0, (a, instObj 123 dx) :: (dx, dictOf es n) :: (d0.ch, listOf #[] 0) :: (d0.ns, listOf #[] 0) :: R, rfl, ?_, ?_, ?_, rfl, rfl, ?_, ?_, ?_, (hf (l, listOf #[] 0) List.mem_cons_self).2.2.2.1.symm⟩, ?_⟩
  · have h1 := hf (l, listOf #[] 0) List.mem_cons_self
    intro p hp
    simp only [List.mem_cons] at hp
    rcases hp with rfl | rfl | rfl | rfl | hp
    · exact h1.1.symm
    · exact h1.2.1.symm
    · exact h1.2.2.1.symm
    · exact h1.2.2.2.2.symm
    · exact hR p hp
  · intro p hp
    simp only [List.mem_cons] at hp
    rcases hp with rfl | rfl | rfl | rfl | hp
    · refine neN ?_; dsimp only; omega
    · refine neN ?_; dsimp only; omega
    · refine neN ?_; dsimp only; omega
    · refine neN ?_; dsimp only; omega
    · exact (hf p (List.mem_cons_of_mem _ hp)).2.2.2.1
  · exact hT.mono (by kcf_all)
  · obtain ⟨t1, t2, t3, t4, t5, g1, g2, g3, g4, g5, g6, g7, g8⟩ := hF
    exact ⟨dx, es, n, t1, t2, t3, t4, t5, List.mem_cons_self, List.mem_cons_of_mem _ List.mem_cons_self, g1, g2, g3, g4, g5, g6, g7, g8⟩
  · exact ⟨rfl, fun i v h => by simp at h⟩
  · kcf_all
  · intro p hp
    simp only [newRow, List.cons_append, List.nil_append, List.mem_cons] at hp ⊢
    rcases hp with h | h | h | h | h | h | h
    · exact .inl h
    · exact .inr (.inr (.inr (.inr (.inl h))))
    · exact .inr (.inl h)
    · exact .inr (.inr (.inl h))
    · exact .inr (.inr (.inr (.inl h)))
    · exact .inr (.inr (.inr (.inr (.inr (.inl h)))))
    · exact .inr (.inr (.inr (.inr (.inr (.inr h)))))
theorem SR.weak {R R0 : List (Addr × Obj)} {t l r0 : Addr} {d0 : NodeD} {qs : List (Str × Str)} {i : Nat} {nx : List (Addr × Obj)} (h : SR R0 t l r0 d0 qs i nx) (hs : ∀ p ∈ R, p ∈ R0) : SR R t l r0 d0 qs i nx := by
  obtain ⟨rows, ats, kl, ka, R', e, h1, h2, h3, h4, h5, h6, h7, h8, h9⟩ := h
  exact ⟨rows, ats, kl, ka, R', e, h1, h2, h3, h4, h5, h6, h7, fun p hp => h8 p (hs p hp), h9⟩
theorem SR.sub {R : List (Addr × Obj)} {t l r0 : Addr} {d0 : NodeD} {qs : List (Str × Str)} {i : Nat} {nx : List (Addr × Obj)} (h : SR R t l r0 d0 qs i nx) : ∀ p ∈ R, p ∈ nx := by
  obtain ⟨rows, ats, kl, ka, R', rfl, h1, h2, h3, h4, h5, h6, h7, h8, h9⟩ := h
  exact fun p hp => List.mem_cons_of_mem _ (List.mem_cons_of_mem _ (h8 p hp))
noncomputable def quotedOf (x : Str) : Str := Str.ofString "\"" ++ tmap escV x ++ Str.ofString "\""
def nsQ (p : Str) : Str := if p = Str.ofString "" then Str.ofString "xmlns" else Str.ofString "xmlns:" ++ p
noncomputable def declQ (p : Str × Str) : Str := nsQ p.1 ++ Str.ofString "=" ++ quotedOf p.2
noncomputable def attrQ (p : Str × Str) : Str := p.1 ++ Str.ofString "=" ++ quotedOf p.2
def PJ (pp : Addr) (nx : List (Addr × Obj)) (name : Str) (ps : List (Str × Str)) (i : Nat) (nx' : List (Addr × Obj)) : Prop := ∃ ys k, nx' = (pp, listOf ys.toArray k) :: nx ∧ StrsAre ys ((Str.ofString "<" ++ name) :: (ps.take i).map declQ)
theorem news_tail {h₀ h : Heap} {L : Addr} {x : Addr × Obj} {l : List (Addr × Obj)} (N : News h₀ L h (x :: l)) : News h₀ L h l := fun p hp => N p (List.mem_cons_of_mem _ hp)
theorem look_ns (x : Str) : (Spec.lookup (.str x) [(.str (Str.ofString ""), .str (Str.ofString "xmlns"))]).getD (.str (Str.ofString "xmlns:" ++ x)) = .str (nsQ x) := by
  rw [Spec.lookup]
  have e : Spec.same (.str (Str.ofString "")) (.str x) = (Str.ofString "" == x) := rfl
  rw [e]
  unfold nsQ
  by_cases h : x = Str.ofString ""
  · subst h; simp
  · have h2 : (Str.ofString "" == x) = false := beq_eq_false_iff_ne.mpr (Ne.symm h)
    rw [h2]
    simp [Spec.lookup, h]
theorem nsQ_len (x : Str) : (nsQ x).length ≤ x.length + 6 := by
  unfold nsQ
  split
  · have e : (Str.ofString "xmlns").length = 5 := by decide +kernel
    omega
  · have e : (Str.ofString "xmlns:").length = 6 := by decide +kernel
    rw [Str.length_append]
    omega
theorem parts_next {ys : List Value} {name : Str} {ps : List (Str × Str)} {i : Nat} {p : Str × Str} {t : Tok} (hys : StrsAre ys ((Str.ofString "<" ++ name) :: (ps.take i).map declQ)) (hpi : ps[i]? = some p) :
    StrsAre (ys ++ [Value.str (declQ p) t]) ((Str.ofString "<" ++ name) :: (ps.take (i + 1)).map declQ) := by
  have e : ps.take (i + 1) = ps.take i ++ [p] := by rw [List.take_add_one, hpi]; rfl
  rw [e, List.map_append]
  exact StrsAre.append' hys (.cons _ _ .nil)
theorem parts_start {P : Prop} {h₀ h : Heap} {L pp : Addr} {nx : List (Addr × Obj)} {name : Str} {t : Tok} {k : Nat} (ps : List (Str × Str)) (_N : News h₀ L h ((pp, listOf #[Value.str (Str.ofString "<" ++ name) t] k) :: nx))
    (go : PJ pp nx name ps 0 ((pp, listOf #[Value.str (Str.ofString "<" ++ name) t] k) :: nx) → P) : P := go ⟨[_], k, rfl, .cons _ _ .nil⟩
theorem regroup {P : Prop} {h₀ h : Heap} {L : Addr} {x : Addr × Obj} {nx own : List (Addr × Obj)} (N : News h₀ L h ((x :: nx) ++ own)) (hlt : ∀ p ∈ nx, p.1 < x.1) (ho : OwnOff own ((x :: nx).map (·.1)))
    (go : ∀ Rx, (∀ p ∈ nx, p ∈ Rx) → (∀ p ∈ own, p ∈ Rx) → (∀ p ∈ Rx, p.1 ≠ x.1) → News h₀ L h (x :: Rx) → P) : P :=
  go (nx ++ own) (fun _ hp => List.mem_append_left _ hp) (fun _ hp => List.mem_append_right _ hp) (fun p hp => (List.mem_append.mp hp).elim (fun h => Nat.ne_of_lt (hlt p h)) fun h => ho p h _ (by simp)) N
/-- no key stands twice -/
def Apart (qs : List (Str × Str)) : Prop := ∀ (i j : Nat) (p p' : Str × Str), i < j → qs[i]? = some p → qs[j]? = some p' → p.1 ≠ p'.1
theorem tree_off {x d l : Addr} {o1 o2 : Obj} {R : List (Addr × Obj)} (h : @LT.lt Nat _ x l ∧ @LT.lt Nat _ d l ∧ AllLt l R) : ∀ p ∈ (x, o1) :: (d, o2) :: R, p.1 ≠ l := by
  intro p hp
  rcases List.mem_cons.mp hp with rfl | hp
  · exact neN (Nat.ne_of_lt h.1)
  · rcases List.mem_cons.mp hp with rfl | hp
    · exact neN (Nat.ne_of_lt h.2.1)
    · exact off_lt (allLt_mem h.2.2) (Nat.le_refl _) p hp
theorem AttsLoc.step {news news' : List (Addr × Obj)} {rows ats : List Value} {qs : List (Str × Str)} {i : Nat} {p : Str × Str} {a : Addr} {d : NodeD} {tr : Tok} (h : AttsLoc news rows ats (qs.take i)) (hq : qs[i]? = some p) (hs : ∀ q ∈ news, q ∈ news') (hN : NodeAt news' a d)
    (h1 : d.name = p.1) (h2 : d.loc = p.1) (h3 : d.val = p.2) : AttsLoc news' (rows ++ [.ref a]) (ats ++ [.int (rows.length : Int) tr]) (qs.take (i + 1)) := by
  have e : qs.take (i + 1) = qs.take i ++ [p] := by rw [List.take_add_one, hq]; rfl
  rw [e]
  obtain ⟨hl, hv⟩ := h
  refine ⟨by rw [List.length_append, List.length_append, hl]; rfl, fun j v hj => ?_⟩
  by_cases hlt : j < ats.length
  · rw [List.getElem?_append_left hlt] at hj
    obtain ⟨p', j', tj, a', d', e1, e2, e3, e4, e5, e6, e7, e8⟩ := hv j v hj
    refine ⟨p', j', tj, a', d', ?_, e2, e3, ?_, e5.mono hs, e6, e7, e8⟩
    · rw [List.getElem?_append_left (by omega)]; exact e1
    · obtain ⟨hk, _⟩ := List.getElem?_eq_some_iff.mp e4
      rw [List.getElem?_append_left hk]; exact e4
  · rw [List.getElem?_append_right (by omega)] at hj
    have hj0 : j - ats.length = 0 := by
      cases hk : j - ats.length with
      | zero => rfl
      | succ k => rw [hk] at hj; simp at hj
    rw [hj0] at hj
    have hv' : v = .int (rows.length : Int) tr := by simpa using hj.symm
    refine ⟨p, rows.length, tr, a, d, ?_, hv', by omega, ?_, hN, h1, h2, h3⟩
    · rw [List.getElem?_append_right (by omega), ← hl, hj0]; rfl
    · rw [Int.toNat_natCast, List.getElem?_append_right (Nat.le_refl _), Nat.sub_self]; rfl
theorem AttsLoc.keys {news : List (Addr × Obj)} {rows ats : List Value} {qs : List (Str × Str)} {i : Nat} {p : Str × Str} (h : AttsLoc news rows ats (qs.take i)) (hq : qs[i]? = some p) (hnd : Apart qs) : AttrsAre news rows ats p.1 := by
  intro v hv
  obtain ⟨j, hj, rfl⟩ := List.mem_iff_getElem.mp hv
  obtain ⟨p', j', tj, a', d', e1, e2, e3, e4, e5, e6, e7, e8⟩ := h.2 j _ (List.getElem?_eq_getElem hj)
  refine ⟨j', tj, a', d', e2, e3, e4, e5, ?_⟩
  have hji : j < (qs.take i).length := by rw [← h.1]; exact hj
  rw [List.length_take] at hji
  rw [List.getElem?_take_of_lt (by omega)] at e1
  rw [e7]
  exact beq_eq_false_iff_ne.mpr (hnd j i p' p (by omega) e1 hq)
theorem AttrsAre.mono {n n' : List (Addr × Obj)} {rows ats : List Value} {key : Str} (h : AttrsAre n rows ats key) (hs : ∀ p ∈ n, p ∈ n') : AttrsAre n' rows ats key := fun v hv =>
  let ⟨j, tj, a, d, e1, e2, e3, e4, e5⟩ := h v hv; ⟨j, tj, a, d, e1, e2, e3, e4.mono hs, e5⟩
theorem SR.next {R R' own : List (Addr × Obj)} {t l r0 a dx : Addr} {d0 d : NodeD} {qs : List (Str × Str)} {i n kl ka : Nat} (kl' ka' : Nat) {rows ats : List Value} {p : Str × Str} {es : List DictEntry} (tr : Tok)
    (h1 : ∀ p ∈ R', p.1 ≠ l) (h2 : ∀ p ∈ R', p.1 ≠ d0.at') (hT : TreeAt R' t l) (h4 : rows[0]? = some (.ref r0)) (h5 : rows.length = i + 1) (h6 : NodeAt R' r0 d0) (h7 : AttsLoc R' rows ats (qs.take i)) (h8 : ∀ p ∈ R, p ∈ R') (h9 : @Ne Nat d0.at' l)
    (hq : qs[i]? = some p) (hF : Flds es d) (hd1 : d.name = p.1) (hd2 : d.loc = p.1) (hd3 : d.val = p.2)
    (hfr : ∀ q ∈ (l, listOf rows.toArray kl) :: (d0.at', listOf ats.toArray ka) :: (R' ++ own), q.1 ≠ a ∧ q.1 ≠ dx ∧ q.1 ≠ d.ch ∧ q.1 ≠ d.at' ∧ q.1 ≠ d.ns)
    (ho : OwnOff own (((l, listOf rows.toArray kl) :: (d0.at', listOf ats.toArray ka) :: R').map (·.1))) :
    ∃ nx, SR R t l r0 d0 qs (i + 1) nx ∧ OwnOff own (nx.map (·.1)) ∧ (∀ q ∈ nx, q ∈ (l, listOf (rows ++ [Value.ref a]).toArray kl') :: (d0.at', listOf (ats ++ [Value.int (rows.length : Int) tr]).toArray ka') :: (newRow a dx es n d ++ (R' ++ own))) ∧
      (∀ q ∈ own, q ∈ (l, listOf (rows ++ [Value.ref a]).toArray kl') :: (d0.at', listOf (ats ++ [Value.int (rows.length : Int) tr]).toArray ka') :: (newRow a dx es n d ++ (R' ++ own))) := by
  have sub : ∀ q ∈ R', q ∈ newRow a dx es n d ++ R' := fun q hq => List.mem_append_right _ hq
  have off : ∀ (c : Addr) (o : Obj), (c, o) ∈ (l, listOf rows.toArray kl) :: (d0.at', listOf ats.toArray ka) :: (R' ++ own) → ∀ q ∈ newRow a dx es n d, q.1 ≠ c := by
    intro c o hc q hq
    have := hfr _ hc
    simp only [newRow, List.mem_cons, List.not_mem_nil, or_false] at hq
    rcases hq with rfl | rfl | rfl | rfl | rfl
    · exact this.1.symm
    · exact this.2.1.symm
    · exact this.2.2.1.symm
    · exact this.2.2.2.1.symm
    · exact this.2.2.2.2.symm
  obtain ⟨t1, t2, t3, t4, t5, g1, g2, g3, g4, g5, g6, g7, g8⟩ := hF
  refine ⟨_, ⟨rows ++ [Value.ref a], ats ++ [Value.int (rows.length : Int) tr], kl', ka', newRow a dx es n d ++ R', rfl, ?_, ?_, hT.mono sub, ?_, ?_, h6.mono sub, ?_, fun q hq => sub q (h8 q hq), h9⟩, ?_, ?_, ?_⟩
  · intro q hq
    rcases List.mem_append.mp hq with hq | hq
    · exact off l _ List.mem_cons_self q hq
    · exact h1 q hq
  · intro q hq
    rcases List.mem_append.mp hq with hq | hq
    · exact off d0.at' _ (List.mem_cons_of_mem _ List.mem_cons_self) q hq
    · exact h2 q hq
  · rw [List.getElem?_append_left (by omega)]; exact h4
  · rw [List.length_append, h5]; rfl
  · exact h7.step hq sub ⟨dx, es, n, t1, t2, t3, t4, t5, List.mem_append_left _ List.mem_cons_self, List.mem_append_left _ (List.mem_cons_of_mem _ List.mem_cons_self), g1, g2, g3, g4, g5, g6, g7, g8⟩ hd1 hd2 hd3
  · intro q hq b hb
    simp only [List.map_cons, List.map_append, List.mem_cons, List.mem_append] at hb
    rcases hb with rfl | rfl | hb | hb
    · exact ho q hq _ (by simp)
    · exact ho q hq _ (by simp)
    · obtain ⟨q', hq', rfl⟩ := List.mem_map.mp hb
      exact (off q.1 q.2 (List.mem_cons_of_mem _ (List.mem_cons_of_mem _ (List.mem_append_right _ hq))) q' hq').symm
    · exact ho q hq _ (by simp only [List.map_cons, List.mem_cons]; exact .inr (.inr hb))
  · intro q hq
    simp only [List.mem_cons, List.mem_append] at hq ⊢
    rcases hq with h | h | h | h
    · exact .inl h
    · exact .inr (.inl h)
    · exact .inr (.inr (.inl h))
    · exact .inr (.inr (.inr (.inl h)))
  · intro q hq
    exact List.mem_cons_of_mem _ (List.mem_cons_of_mem _ (List.mem_append_right _ (List.mem_append_right _ hq)))
theorem AttsLoc.all {n n' : List (Addr × Obj)} {rows vs : List Value} {qs : List (Str × Str)} {k : Nat} (h : AttsLoc n rows vs (qs.take k)) (hk : qs.length ≤ k) (hs : ∀ p ∈ n, p ∈ n') : AttsAre n' rows vs qs := by
  rw [List.take_of_length_le hk] at h
  refine ⟨h.1, fun i v hv => ?_⟩
  obtain ⟨p, j, tj, a, d, e1, e2, e3, e4, e5, e6, e7, e8⟩ := h.2 i v hv
  exact ⟨p, j, tj, a, d, e1, e2, e3, e4, e5.mono hs, e6, e8⟩
theorem join_sep (z x : Str) (xs : List Str) : Txt.join z (x :: xs) = x ++ cat (xs.map fun y => z ++ y) := by
  show Builtin.Str.glued z (x :: xs) = _
  rw [StrLaws.glued_eq_join]
  induction xs generalizing x with
  | nil => show x = x ++ Str.empty; rw [Str.append_empty]
  | cons y r ih => show x ++ z ++ Str.join z (y :: r) = x ++ ((z ++ y) ++ cat (r.map fun y => z ++ y)); rw [ih]; simp only [Str.append_assoc]
theorem decl_sep (p : Str × Str) : Str.ofString " " ++ declQ p = declOf p := by
  have e1 : Str.ofString " xmlns" = Str.ofString " " ++ Str.ofString "xmlns" := by decide +kernel
  have e2 : Str.ofString " xmlns:" = Str.ofString " " ++ Str.ofString "xmlns:" := by decide +kernel
  have e3 : Str.ofString "=\"" = Str.ofString "=" ++ Str.ofString "\"" := by decide +kernel
  unfold declQ declOf nsQ nsOf quotedOf
  rw [e1, e2, e3]
  split <;> simp only [Str.append_assoc]
theorem attr_sep (p : Str × Str) : Str.ofString " " ++ attrQ p = attrOf p := by
  have e3 : Str.ofString "=\"" = Str.ofString "=" ++ Str.ofString "\"" := by decide +kernel
  unfold attrQ attrOf quotedOf
  rw [e3]
  simp only [Str.append_assoc]
theorem start_law (name : Str) (ps qs : List (Str × Str)) (e : Bool) : startText name ps qs e = Txt.join (Str.ofString " ") (((Str.ofString "<" ++ name) :: ps.map declQ) ++ qs.map attrQ) ++ (if e then Str.ofString "/>" else Str.ofString ">") := by
  rw [List.cons_append, join_sep, List.map_append, List.map_map, List.map_map, cat_append]
  have e1 : (fun y => Str.ofString " " ++ y) ∘ declQ = declOf := funext decl_sep
  have e2 : (fun y => Str.ofString " " ++ y) ∘ attrQ = attrOf := funext attr_sep
  rw [e1, e2]
  unfold startText
  simp only [Str.append_assoc]
theorem declQ_len {ps : List (Str × Str)} (h : Short ps) (p : Str × Str) (hp : p ∈ ps) : (declQ p).length ≤ 1000 := by
  have h1 := h.2 p hp
  have h2 := tmap_len escV_len p.2
  have h3 := nsQ_len p.1
  unfold declQ quotedOf
  simp only [Str.length_append]; (try kopn_lits); omega
theorem attrQ_len {ps : List (Str × Str)} (h : Short ps) (p : Str × Str) (hp : p ∈ ps) : (attrQ p).length ≤ 1000 := by
  have h1 := h.2 p hp
  have h2 := tmap_len escV_len p.2
  unfold attrQ quotedOf
  simp only [Str.length_append]; (try kopn_lits); omega
theorem parts_size {name : Str} {ps qs : List (Str × Str)} (h1 : Short ps) (h2 : Short qs) (hn : name.length ≤ 10) : ((((Str.ofString "<" ++ name) :: ps.map declQ) ++ qs.map attrQ).map (·.length)).sum + (((Str.ofString "<" ++ name) :: ps.map declQ) ++ qs.map attrQ).length * (Str.ofString " ").length ≤ 100000 := by
  have e : (Str.ofString " ").length = 1 := by decide +kernel
  have e1 : (Str.ofString "<").length = 1 := by decide +kernel
  have hl : (((Str.ofString "<" ++ name) :: ps.map declQ) ++ qs.map attrQ).length ≤ 21 := by
    have := h1.1
    have := h2.1
    simp only [List.length_append, List.length_cons, List.length_map]
    omega
  have hs := sum_le_of (xs := ((Str.ofString "<" ++ name) :: ps.map declQ) ++ qs.map attrQ) (b := 1000) (fun x hx => by
    rcases List.mem_append.mp hx with hx | hx
    · rcases List.mem_cons.mp hx with rfl | hx
      · rw [Str.length_append, e1]; omega
      · obtain ⟨p, hp, rfl⟩ := List.mem_map.mp hx
        exact declQ_len h1 p hp
    · obtain ⟨p, hp, rfl⟩ := List.mem_map.mp hx
      exact attrQ_len h2 p hp)
  rw [e]
  omega
theorem mem_list {h₀ h : Heap} {L l : Addr} {its : Array Value} {n : Nat} {news : List (Addr × Obj)} (N : News h₀ L h news) (hm : (l, listOf its n) ∈ news) : h.IsList l its := ⟨_, (N _ hm).1, rfl, n, rfl⟩
theorem join_len (z x : Str) (xs : List Str) : (Txt.join z (x :: xs)).length ≤ ((x :: xs).map (·.length)).sum + (x :: xs).length * z.length := by
  rw [join_sep, Str.length_append, cat_len, List.map_map]
  have key : ∀ ys : List Str, (ys.map ((fun x => x.length) ∘ fun y => z ++ y)).sum = (ys.map (·.length)).sum + ys.length * z.length := by
    intro ys
    induction ys with
    | nil => simp
    | cons y r ih =>
      simp only [List.map_cons, List.sum_cons, Function.comp, List.length_cons] at ih ⊢
      rw [ih, Str.length_append, Nat.succ_mul]
      omega
  rw [key, List.map_cons, List.sum_cons, List.length_cons, Nat.succ_mul]
  omega
theorem sub5 {h₀ h : Heap} {L : Addr} {a b c d e : Addr × Obj} {R : List (Addr × Obj)} (_N : News h₀ L h (a :: b :: c :: d :: e :: R)) : ∀ p ∈ R, p ∈ a :: b :: c :: d :: e :: R := fun _ h => .tail _ (.tail _ (.tail _ (.tail _ (.tail _ h))))
theorem sub_tail {h₀ h : Heap} {L : Addr} {x : Addr × Obj} {l R : List (Addr × Obj)} (_N : News h₀ L h (x :: l)) (hs : ∀ p ∈ R, p ∈ l) : ∀ p ∈ R, p ∈ x :: l := fun p hp => List.mem_cons_of_mem _ (hs p hp)
theorem mapP_rest {prog : Program} {w : World} {A : Around} {s : Shared} {h₀ : Heap} {L : Addr} {m : Str → Option Value} {env : Env} {elt : Expr} {x x₂ : Str} {scope : Scope} {cl : List (Str × Addr)} {S : List (Addr × Obj) → Prop} {Fin : List Value → List (Addr × Obj) → Prop} {nw : List (Addr × Obj)} {vs : List Value} {qs : List (Str × Str)} (g : Str × Str → Str) (hps : PairsAre nw vs qs)
    (turn : ∀ p t1 t2 ys I oI C oC D m₂ h tk (E' : Value → Shared → Prop), p ∈ qs → LCg.NsObj oC m₂ → m₂ x = some (.str p.1 t1) → m₂ x₂ = some (.str p.2 t2) → Fr h₀ L h m → News h₀ L h ((I, oI) :: (C, oC) :: (D, LCg.lst ys) :: nw) → LCg.Off3 I C D nw → ((@Ne Nat I C) ∧ (@Ne Nat I D) ∧ (@Ne Nat C D)) →
      wpAny (model prog w) A (eval elt (compEnvC scope cl C env)) (LCg.CompEnd h₀ L m { s with heap := h, toks := tk } I oI C oC D (LCg.lst ys) S (fun y nw' => nw' = nw ∧ ∃ t', y = .str (g p) t')) E' { s with heap := h, toks := tk })
    (fin : ∀ ys, StrsAre ys (qs.map g) → Fin ys nw) : LCp.CompRestP prog w A h₀ L m env elt x x₂ scope cl s S (fun i v => vs.toArray[i]? = some v) Fin vs.toArray.size 0 [] nw := by
  have key : ∀ (j i : Nat) (ys : List Value), i + j = vs.length → StrsAre ys ((qs.take i).map g) → LCp.CompRestP prog w A h₀ L m env elt x x₂ scope cl s S (fun i v => vs.toArray[i]? = some v) Fin j i ys nw := by
    intro j
    induction j with
    | zero =>
      intro i ys hi hy
      refine LCp.CompRestP.zero (fin ys ?_)
      have e : i = qs.length := by have := hps.1; omega
      rw [e, List.take_length] at hy
      exact hy
    | succ j ih =>
      intro i ys hi hy
      refine LCp.CompRestP.succ fun v hv => ?_
      have hv' : vs[i]? = some v := by simpa using hv
      have hEl := hps.2 i v hv'
      first | (refine el_0_11 hEl fun p hpi T9 o9 n9 q1 q2 hrf7 hTm hoc hod => ?_; subst hrf7) | (refine el_1_10 hEl fun p hpi T9 o9 n9 q1 q2 hrf7 hTm hoc hod => ?_; subst hrf7) | (refine el_2_9 hEl fun p hpi T9 o9 n9 q1 q2 hrf7 hTm hoc hod => ?_; subst hrf7) | (refine el_3_8 hEl fun p hpi T9 o9 n9 q1 q2 hrf7 hTm hoc hod => ?_; subst hrf7) | (refine el_4_7 hEl fun p hpi T9 o9 n9 q1 q2 hrf7 hTm hoc hod => ?_; subst hrf7) | (refine el_5_6 hEl fun p hpi T9 o9 n9 q1 q2 hrf7 hTm hoc hod => ?_; subst hrf7) | (refine el_6_5 hEl fun p hpi T9 o9 n9 q1 q2 hrf7 hTm hoc hod => ?_; subst hrf7) | (refine el_7_4 hEl fun p hpi T9 o9 n9 q1 q2 hrf7 hTm hoc hod => ?_; subst hrf7) | (refine el_8_3 hEl fun p hpi T9 o9 n9 q1 q2 hrf7 hTm hoc hod => ?_; subst hrf7) | (refine el_9_2 hEl fun p hpi T9 o9 n9 q1 q2 hrf7 hTm hoc hod => ?_; subst hrf7) | (refine el_10_1 hEl fun p hpi T9 o9 n9 q1 q2 hrf7 hTm hoc hod => ?_; subst hrf7) | obtain ⟨p, hpi, T9, o9, n9, q1, q2, rfl, hTm, hoc, hod⟩ := hEl
      try clear hEl
      refine ⟨T9, o9, _, _, _, rfl, hTm, hoc, hod, ?_⟩
      intro I oI C oC D m₂ h tk E' hC hx hx2 F N off ne
      refine wpAny_mono (turn p _ _ ys I oI C oC D m₂ h tk E' (List.mem_of_getElem? hpi) hC hx hx2 F N off ne) (fun y s₂ hq => ?_) fun _ _ e => e
      first | (refine el_0_11 hq fun h' tk' nw' e F' N' off' hS hrf8 t' hrf10 => ?_; subst hrf8; subst hrf10) | (refine el_1_10 hq fun h' tk' nw' e F' N' off' hS hrf8 t' hrf10 => ?_; subst hrf8; subst hrf10) | (refine el_2_9 hq fun h' tk' nw' e F' N' off' hS hrf8 t' hrf10 => ?_; subst hrf8; subst hrf10) | (refine el_3_8 hq fun h' tk' nw' e F' N' off' hS hrf8 t' hrf10 => ?_; subst hrf8; subst hrf10) | (refine el_4_7 hq fun h' tk' nw' e F' N' off' hS hrf8 t' hrf10 => ?_; subst hrf8; subst hrf10) | (refine el_5_6 hq fun h' tk' nw' e F' N' off' hS hrf8 t' hrf10 => ?_; subst hrf8; subst hrf10) | (refine el_6_5 hq fun h' tk' nw' e F' N' off' hS hrf8 t' hrf10 => ?_; subst hrf8; subst hrf10) | (refine el_7_4 hq fun h' tk' nw' e F' N' off' hS hrf8 t' hrf10 => ?_; subst hrf8; subst hrf10) | (refine el_8_3 hq fun h' tk' nw' e F' N' off' hS hrf8 t' hrf10 => ?_; subst hrf8; subst hrf10) | (refine el_9_2 hq fun h' tk' nw' e F' N' off' hS hrf8 t' hrf10 => ?_; subst hrf8; subst hrf10) | (refine el_10_1 hq fun h' tk' nw' e F' N' off' hS hrf8 t' hrf10 => ?_; subst hrf8; subst hrf10) | obtain ⟨h', tk', nw', e, F', N', off', hS, rfl, t', rfl⟩ := hq
      try clear hq
      refine ⟨h', tk', nw', e, F', N', off', hS, ih (i + 1) _ (by omega) ?_⟩
      have e : qs.take (i + 1) = qs.take i ++ [p] := by rw [List.take_add_one, hpi]; rfl
      rw [e, List.map_append]
      exact StrsAre.append' hy (.cons _ _ .nil)
  rw [List.size_toArray]
  exact key vs.length 0 [] (by omega) .nil
theorem PairsAre.mono {n n' : List (Addr × Obj)} {vs : List Value} {ps : List (Str × Str)} (h : PairsAre n vs ps) (hs : ∀ q ∈ n, q ∈ n') : PairsAre n' vs ps := ⟨h.1, fun i v hv => let ⟨p, e, k⟩ := h.2 i v hv; ⟨p, e, k.mono hs⟩⟩
set_option maxHeartbeats 4000000 in
theorem startRight_tell {w : World} {pl ql : Addr} {pvs qvs : List Value} {kp kq : Nat} {tn : Tok} {name : Str} {isE : Bool} {ps qs : List (Str × Str)} (R : List (Addr × Obj)) (hp : (pl, listOf pvs.toArray kp) ∈ R) (hps : PairsAre R pvs ps) (hq : (ql, listOf qvs.toArray kq) ∈ R) (hqs : PairsAre R qvs qs) (hS1 : Short ps) (hS2 : Short qs) (hnd : Apart qs) (hnm : name = Str.ofString "e" ∨ name = Str.ofString "q:e" ∨ name = Str.ofString "p:e") :
    Tell w 366 [.str name tn, .ref pl, .ref ql, .bool isE] 8 R (fun news' r => news' = R ∧ r = .bool true) := by
  have hnl : name.length ≤ 10 := by rcases hnm with rfl | rfl | rfl <;> decide +kernel
  refine Tell.intro fun loose mean mg mb dp un gd cn nm ig ic mr a ccd cl outer A₀ base h₀ L m sh sg sd st so Q E B F X N T hd hu ret => ?_
  refine wpAny_call ?_
  k_dflt k_enter
  rename Fr _ _ _ _ => F1
  refine (let A1 : Around := _; let m1 : Str → Option Value := _; let t1 : Nat := _; have F1 : Fr _ _ _ m1 := F1; (?_ : wpAny _ A1 _ _ _ (Shared.mk _ _ _ t1 _)))
  (repeat' (first | (k_here; (with_reducible show wpAny _ _ (call (Value.builtin _) [Value.ref _, _]) _ _ _); k_dflt (refine' append_K ?zk1 ?zk2 ?zk3 ?_ ?z; (case zk1 => k_asm); (case zk2 => k_asm); (case zk3 => k_upd); (case z => (rw [List.size_toArray, PySem.sizeLine_eq]; omega)); k_whole); intro h' F' N'; (try k_sweep)) | (k_here; (with_reducible show wpAny _ _ (binaryOp Operator.Add (Value.str _ _) (Value.str _ _)) _ _ _); (first | refine add_str (by walk_at "len") (by walk_at "len") (by rfl) ?_ | (refine add_str' ?zhz ?_; (case zhz => (simp only [PySem.Str.length_append]; (try kopn_lits); omega)))); intro _ _) | ((with_reducible show wpAny _ _ (call (Value.ref 105) _) _ _ _); refine stop_at ?_) | ((with_reducible show wpAny _ _ (call (Value.ref 356) _) _ _ _); k_dflt (refine' Tell.useV (room := 3) ?zB ?zF ?zX ?zN ?zT ?zk ?zd ?zu (quoted_tell ?zhx _) ?_; (case zB => k_asm); (case zF => k_asm); (case zX => k_asm); (case zN => k_asm); (case zT => k_asm); (case zk => first | exact rfl | assumption); (case zd => k_room); (case zu => k_units); (case zhx => omega)); intro t' h' tk' F' N') | ((with_reducible show wpAny _ _ (call (Value.ref 211) _) _ _ _); refine stop_at ?_) | ((with_reducible show wpAny _ _ (call (Value.ref 176) _) _ _ _); refine stop_at ?_) | (with_reducible refine callWith_method1 ?_ rfl rfl) | (k_unfold; (try dsimp only)) | walk1 | (dsimp only; walk1) | (leave1; (try dsimp only))))
  rename Fr _ _ _ _ => F0
  rename News _ _ _ _ => N0
  refine go_on ?_
  refine str_then (s := Shared.mk _ _ _ _ _) F0 N0 ?_ ?_
  · clear hps hqs hp hq ret
    rcases hnm with rfl | rfl | rfl
    all_goals (refine Subscript_ ?_)
    all_goals (repeat' (first | (k_here; (with_reducible show wpAny _ _ (call (Value.builtin _) [Value.ref _, _]) _ _ _); k_dflt (refine' append_K ?zk1 ?zk2 ?zk3 ?_ ?z; (case zk1 => k_asm); (case zk2 => k_asm); (case zk3 => k_upd); (case z => (rw [List.size_toArray, PySem.sizeLine_eq]; omega)); k_whole); intro h' F' N'; (try k_sweep)) | (k_here; (with_reducible show wpAny _ _ (binaryOp Operator.Add (Value.str _ _) (Value.str _ _)) _ _ _); (first | refine add_str (by walk_at "len") (by walk_at "len") (by rfl) ?_ | (refine add_str' ?zhz ?_; (case zhz => (simp only [PySem.Str.length_append]; (try kopn_lits); omega)))); intro _ _) | ((with_reducible show wpAny _ _ (call (Value.ref 105) _) _ _ _); refine stop_at ?_) | ((with_reducible show wpAny _ _ (call (Value.ref 356) _) _ _ _); k_dflt (refine' Tell.useV (room := 3) ?zB ?zF ?zX ?zN ?zT ?zk ?zd ?zu (quoted_tell ?zhx _) ?_; (case zB => k_asm); (case zF => k_asm); (case zX => k_asm); (case zN => k_asm); (case zT => k_asm); (case zk => first | exact rfl | assumption); (case zd => k_room); (case zu => k_units); (case zhx => omega)); intro t' h' tk' F' N') | ((with_reducible show wpAny _ _ (call (Value.ref 211) _) _ _ _); refine stop_at ?_) | ((with_reducible show wpAny _ _ (call (Value.ref 176) _) _ _ _); refine stop_at ?_) | (with_reducible refine callWith_method1 ?_ rfl rfl) | (k_unfold; (try dsimp only)) | walk1 | (dsimp only; walk1) | (leave1; (try dsimp only))))
    all_goals first | assumption | exact news_sub (by assumption) (by kcf_all)
  intro x t h' tk' F1 N1
  (repeat' (first | (k_here; (with_reducible show wpAny _ _ (call (Value.builtin _) [Value.ref _, _]) _ _ _); k_dflt (refine' append_K ?zk1 ?zk2 ?zk3 ?_ ?z; (case zk1 => k_asm); (case zk2 => k_asm); (case zk3 => k_upd); (case z => (rw [List.size_toArray, PySem.sizeLine_eq]; omega)); k_whole); intro h' F' N'; (try k_sweep)) | (k_here; (with_reducible show wpAny _ _ (binaryOp Operator.Add (Value.str _ _) (Value.str _ _)) _ _ _); (first | refine add_str (by walk_at "len") (by walk_at "len") (by rfl) ?_ | (refine add_str' ?zhz ?_; (case zhz => (simp only [PySem.Str.length_append]; (try kopn_lits); omega)))); intro _ _) | ((with_reducible show wpAny _ _ (call (Value.ref 105) _) _ _ _); refine stop_at ?_) | ((with_reducible show wpAny _ _ (call (Value.ref 356) _) _ _ _); k_dflt (refine' Tell.useV (room := 3) ?zB ?zF ?zX ?zN ?zT ?zk ?zd ?zu (quoted_tell ?zhx _) ?_; (case zB => k_asm); (case zF => k_asm); (case zX => k_asm); (case zN => k_asm); (case zT => k_asm); (case zk => first | exact rfl | assumption); (case zd => k_room); (case zu => k_units); (case zhx => omega)); intro t' h' tk' F' N') | ((with_reducible show wpAny _ _ (call (Value.ref 211) _) _ _ _); refine stop_at ?_) | ((with_reducible show wpAny _ _ (call (Value.ref 176) _) _ _ _); refine stop_at ?_) | (with_reducible refine callWith_method1 ?_ rfl rfl) | (k_unfold; (try dsimp only)) | walk1 | (dsimp only; walk1) | (leave1; (try dsimp only))))
  rename Fr _ _ _ _ => F2
  rename News _ _ _ _ => N2
  clear F0 N0
  rename _ ∧ _ ∧ AllLt _ R => hlt0
  refine go_on ?_
  refine' Tell.useRow (room := 4) ?B F2 ?X N2 ?T rfl ?d ?u (addElement_tell (rows := []) (k := 0) _ ?hR ?hT (by decide)) ?_
  case B => k_asm
  case X => k_asm
  case T => k_asm
  case d => k_room
  case u => k_units
  case hR => exact tree_off hlt0
  case hT => exact ⟨_, _, _, List.mem_cons_self, List.mem_cons_of_mem _ List.mem_cons_self⟩
  intro a9 dx9 es9 n9 ch9 at9 ns9 k9 tr9 h' tk' F' N' hFl hfr hlt
  have hEl := SR.start (k := k9) (n := n9) qs hFl (tree_off hlt0) ⟨_, _, _, List.mem_cons_self, List.mem_cons_of_mem _ List.mem_cons_self⟩ hfr hlt
  first | (refine el_0_3 hEl fun nx hSR hsub => ?_) | (refine el_1_2 hEl fun nx hSR hsub => ?_) | (refine el_2_1 hEl fun nx hSR hsub => ?_) | obtain ⟨nx, hSR, hsub⟩ := hEl
  try clear hEl
  replace N' := news_sub N' hsub
  clear hsub hfr
  replace hSR := hSR.weak (R := R) (fun p hp => List.mem_cons_of_mem _ (List.mem_cons_of_mem _ hp))
  clear F2 N2
  (repeat' (first | (k_here; (with_reducible show wpAny _ _ (call (Value.builtin _) [Value.ref _, _]) _ _ _); k_dflt (refine' append_K ?zk1 ?zk2 ?zk3 ?_ ?z; (case zk1 => k_asm); (case zk2 => k_asm); (case zk3 => k_upd); (case z => (rw [List.size_toArray, PySem.sizeLine_eq]; omega)); k_whole); intro h' F' N'; (try k_sweep)) | (k_here; (with_reducible show wpAny _ _ (binaryOp Operator.Add (Value.str _ _) (Value.str _ _)) _ _ _); (first | refine add_str (by walk_at "len") (by walk_at "len") (by rfl) ?_ | (refine add_str' ?zhz ?_; (case zhz => (simp only [PySem.Str.length_append]; (try kopn_lits); omega)))); intro _ _) | ((with_reducible show wpAny _ _ (call (Value.ref 105) _) _ _ _); refine stop_at ?_) | ((with_reducible show wpAny _ _ (call (Value.ref 356) _) _ _ _); k_dflt (refine' Tell.useV (room := 3) ?zB ?zF ?zX ?zN ?zT ?zk ?zd ?zu (quoted_tell ?zhx _) ?_; (case zB => k_asm); (case zF => k_asm); (case zX => k_asm); (case zN => k_asm); (case zT => k_asm); (case zk => first | exact rfl | assumption); (case zd => k_room); (case zu => k_units); (case zhx => omega)); intro t' h' tk' F' N') | ((with_reducible show wpAny _ _ (call (Value.ref 211) _) _ _ _); refine stop_at ?_) | ((with_reducible show wpAny _ _ (call (Value.ref 176) _) _ _ _); refine stop_at ?_) | (with_reducible refine callWith_method1 ?_ rfl rfl) | (k_unfold; (try dsimp only)) | walk1 | (dsimp only; walk1) | (leave1; (try dsimp only))))
  rename Fr _ _ _ _ => F3
  rename News _ _ _ nx => N3
  refine go_on ?_
  refine pairs_led (l := ql) (vs := qvs) (nn := kq) (x := Str.ofString "key") (x2 := Str.ofString "value") (SR R _ _ a9 _ qs) rfl (hSR.sub _ hq) F3 N3 hSR ?_ ?_
  · clear hSR F3 N3
    intro i v u nx h tk own hv ho hm hSR F4 N4
    first | (refine el_0_15 hSR fun rows ats kl ka R' hrf5 hl1 hl2 hT' hr0 hrl hN0' hA' hsubR hne9 => ?_; subst hrf5) | (refine el_1_14 hSR fun rows ats kl ka R' hrf5 hl1 hl2 hT' hr0 hrl hN0' hA' hsubR hne9 => ?_; subst hrf5) | (refine el_2_13 hSR fun rows ats kl ka R' hrf5 hl1 hl2 hT' hr0 hrl hN0' hA' hsubR hne9 => ?_; subst hrf5) | (refine el_3_12 hSR fun rows ats kl ka R' hrf5 hl1 hl2 hT' hr0 hrl hN0' hA' hsubR hne9 => ?_; subst hrf5) | (refine el_4_11 hSR fun rows ats kl ka R' hrf5 hl1 hl2 hT' hr0 hrl hN0' hA' hsubR hne9 => ?_; subst hrf5) | (refine el_5_10 hSR fun rows ats kl ka R' hrf5 hl1 hl2 hT' hr0 hrl hN0' hA' hsubR hne9 => ?_; subst hrf5) | (refine el_6_9 hSR fun rows ats kl ka R' hrf5 hl1 hl2 hT' hr0 hrl hN0' hA' hsubR hne9 => ?_; subst hrf5) | (refine el_7_8 hSR fun rows ats kl ka R' hrf5 hl1 hl2 hT' hr0 hrl hN0' hA' hsubR hne9 => ?_; subst hrf5) | (refine el_8_7 hSR fun rows ats kl ka R' hrf5 hl1 hl2 hT' hr0 hrl hN0' hA' hsubR hne9 => ?_; subst hrf5) | (refine el_9_6 hSR fun rows ats kl ka R' hrf5 hl1 hl2 hT' hr0 hrl hN0' hA' hsubR hne9 => ?_; subst hrf5) | (refine el_10_5 hSR fun rows ats kl ka R' hrf5 hl1 hl2 hT' hr0 hrl hN0' hA' hsubR hne9 => ?_; subst hrf5) | (refine el_11_4 hSR fun rows ats kl ka R' hrf5 hl1 hl2 hT' hr0 hrl hN0' hA' hsubR hne9 => ?_; subst hrf5) | (refine el_12_3 hSR fun rows ats kl ka R' hrf5 hl1 hl2 hT' hr0 hrl hN0' hA' hsubR hne9 => ?_; subst hrf5) | (refine el_13_2 hSR fun rows ats kl ka R' hrf5 hl1 hl2 hT' hr0 hrl hN0' hA' hsubR hne9 => ?_; subst hrf5) | (refine el_14_1 hSR fun rows ats kl ka R' hrf5 hl1 hl2 hT' hr0 hrl hN0' hA' hsubR hne9 => ?_; subst hrf5) | obtain ⟨rows, ats, kl, ka, R', rfl, hl1, hl2, hT', hr0, hrl, hN0', hA', hsubR, hne9⟩ := hSR
    try clear hSR
    have hEl := hqs.2 i v hv
    first | (refine el_0_11 hEl fun p hpi T9 o9 n9 q1 q2 hrf7 hTm hoc hod => ?_; subst hrf7) | (refine el_1_10 hEl fun p hpi T9 o9 n9 q1 q2 hrf7 hTm hoc hod => ?_; subst hrf7) | (refine el_2_9 hEl fun p hpi T9 o9 n9 q1 q2 hrf7 hTm hoc hod => ?_; subst hrf7) | (refine el_3_8 hEl fun p hpi T9 o9 n9 q1 q2 hrf7 hTm hoc hod => ?_; subst hrf7) | (refine el_4_7 hEl fun p hpi T9 o9 n9 q1 q2 hrf7 hTm hoc hod => ?_; subst hrf7) | (refine el_5_6 hEl fun p hpi T9 o9 n9 q1 q2 hrf7 hTm hoc hod => ?_; subst hrf7) | (refine el_6_5 hEl fun p hpi T9 o9 n9 q1 q2 hrf7 hTm hoc hod => ?_; subst hrf7) | (refine el_7_4 hEl fun p hpi T9 o9 n9 q1 q2 hrf7 hTm hoc hod => ?_; subst hrf7) | (refine el_8_3 hEl fun p hpi T9 o9 n9 q1 q2 hrf7 hTm hoc hod => ?_; subst hrf7) | (refine el_9_2 hEl fun p hpi T9 o9 n9 q1 q2 hrf7 hTm hoc hod => ?_; subst hrf7) | (refine el_10_1 hEl fun p hpi T9 o9 n9 q1 q2 hrf7 hTm hoc hod => ?_; subst hrf7) | obtain ⟨p, hpi, T9, o9, n9, q1, q2, rfl, hTm, hoc, hod⟩ := hEl
    try clear hEl
    have hs := hS2.2 p (List.mem_of_getElem? hpi)
    have hT9 := hT'
    first | (refine el_0_5 hT' fun td hh htk hT1 hT2 => ?_) | (refine el_1_4 hT' fun td hh htk hT1 hT2 => ?_) | (refine el_2_3 hT' fun td hh htk hT1 hT2 => ?_) | (refine el_3_2 hT' fun td hh htk hT1 hT2 => ?_) | (refine el_4_1 hT' fun td hh htk hT1 hT2 => ?_) | obtain ⟨td, hh, htk, hT1, hT2⟩ := hT'
    try clear hT'
    refine unpackN_ F4 N4 ⟨o9, (N4 _ (List.mem_append_left _ (List.mem_cons_of_mem _ (List.mem_cons_of_mem _ (hsubR _ hTm))))).1, hoc, n9, hod⟩ rfl rfl rfl fun h' F' N' => ?_
    (repeat' (first | (k_here; (with_reducible show wpAny _ _ (call (Value.builtin _) [Value.ref _, _]) _ _ _); k_dflt (refine' append_K ?zk1 ?zk2 ?zk3 ?_ ?z; (case zk1 => k_asm); (case zk2 => k_asm); (case zk3 => k_upd); (case z => (rw [List.size_toArray, PySem.sizeLine_eq]; omega)); k_whole); intro h' F' N'; (try k_sweep)) | (k_here; (with_reducible show wpAny _ _ (binaryOp Operator.Add (Value.str _ _) (Value.str _ _)) _ _ _); (first | refine add_str (by walk_at "len") (by walk_at "len") (by rfl) ?_ | (refine add_str' ?zhz ?_; (case zhz => (simp only [PySem.Str.length_append]; (try kopn_lits); omega)))); intro _ _) | ((with_reducible show wpAny _ _ (call (Value.ref 105) _) _ _ _); refine stop_at ?_) | ((with_reducible show wpAny _ _ (call (Value.ref 356) _) _ _ _); k_dflt (refine' Tell.useV (room := 3) ?zB ?zF ?zX ?zN ?zT ?zk ?zd ?zu (quoted_tell ?zhx _) ?_; (case zB => k_asm); (case zF => k_asm); (case zX => k_asm); (case zN => k_asm); (case zT => k_asm); (case zk => first | exact rfl | assumption); (case zd => k_room); (case zu => k_units); (case zhx => omega)); intro t' h' tk' F' N') | ((with_reducible show wpAny _ _ (call (Value.ref 211) _) _ _ _); refine stop_at ?_) | ((with_reducible show wpAny _ _ (call (Value.ref 176) _) _ _ _); refine stop_at ?_) | (with_reducible refine callWith_method1 ?_ rfl rfl) | (k_unfold; (try dsimp only)) | walk1 | (dsimp only; walk1) | (leave1; (try dsimp only))))
    have hlq := hqs.1
    obtain ⟨hil, _⟩ := List.getElem?_eq_some_iff.mp hpi
    have hal := hA'.1
    rw [List.length_take] at hal
    have hsz := hS2.1
    refine go_on ?_
    refine' Tell.useAttr (room := 4) ?B ?F ?X (by assumption) ?T rfl ?d ?u (setAttr_tell (rows := rows) (ats := ats) (kl := kl) (ka := ka) (R' ++ own) ?h1 ?h2 ?h3 (hT9.mono fun p hp => List.mem_append_left _ hp) (by omega) (by omega) (by decide) hr0 (hN0'.mono fun p hp => List.mem_append_left _ hp) rfl rfl ((hA'.keys hpi hnd).mono fun p hp => List.mem_append_left _ hp)) ?_
    case B => k_asm
    case F => k_asm
    case X => k_asm
    case T => k_asm
    case d => k_room
    case u => k_units
    case h1 =>
      intro q hq
      rcases List.mem_append.mp hq with hq | hq
      · exact hl1 q hq
      · exact ho q hq _ (by simp)
    case h2 =>
      intro q hq
      rcases List.mem_append.mp hq with hq | hq
      · exact hl2 q hq
      · exact ho q hq _ (by simp)
    case h3 => exact hne9
    intro a8 dx8 es8 n8 ch8 a28 ns8 kl8 ka8 tr8 tr82 h' tk' F' N' hFl8 hfr8
    have hEl := SR.next (n := n8) kl8 ka8 tr8 hl1 hl2 hT9 hr0 hrl hN0' hA' hsubR hne9 hpi hFl8 rfl rfl rfl hfr8 ho
    first | (refine el_0_5 hEl fun nx8 hSR8 ho8 hs8 hs9 => ?_) | (refine el_1_4 hEl fun nx8 hSR8 ho8 hs8 hs9 => ?_) | (refine el_2_3 hEl fun nx8 hSR8 ho8 hs8 hs9 => ?_) | (refine el_3_2 hEl fun nx8 hSR8 ho8 hs8 hs9 => ?_) | (refine el_4_1 hEl fun nx8 hSR8 ho8 hs8 hs9 => ?_) | obtain ⟨nx8, hSR8, ho8, hs8, hs9⟩ := hEl
    try clear hEl
    (repeat' (first | (k_here; (with_reducible show wpAny _ _ (call (Value.builtin _) [Value.ref _, _]) _ _ _); k_dflt (refine' append_K ?zk1 ?zk2 ?zk3 ?_ ?z; (case zk1 => k_asm); (case zk2 => k_asm); (case zk3 => k_upd); (case z => (rw [List.size_toArray, PySem.sizeLine_eq]; omega)); k_whole); intro h' F' N'; (try k_sweep)) | (k_here; (with_reducible show wpAny _ _ (binaryOp Operator.Add (Value.str _ _) (Value.str _ _)) _ _ _); (first | refine add_str (by walk_at "len") (by walk_at "len") (by rfl) ?_ | (refine add_str' ?zhz ?_; (case zhz => (simp only [PySem.Str.length_append]; (try kopn_lits); omega)))); intro _ _) | ((with_reducible show wpAny _ _ (call (Value.ref 105) _) _ _ _); refine stop_at ?_) | ((with_reducible show wpAny _ _ (call (Value.ref 356) _) _ _ _); k_dflt (refine' Tell.useV (room := 3) ?zB ?zF ?zX ?zN ?zT ?zk ?zd ?zu (quoted_tell ?zhx _) ?_; (case zB => k_asm); (case zF => k_asm); (case zX => k_asm); (case zN => k_asm); (case zT => k_asm); (case zk => first | exact rfl | assumption); (case zd => k_room); (case zu => k_units); (case zhx => omega)); intro t' h' tk' F' N') | ((with_reducible show wpAny _ _ (call (Value.ref 211) _) _ _ _); refine stop_at ?_) | ((with_reducible show wpAny _ _ (call (Value.ref 176) _) _ _ _); refine stop_at ?_) | (with_reducible refine callWith_method1 ?_ rfl rfl) | (k_unfold; (try dsimp only)) | walk1 | (dsimp only; walk1) | (leave1; (try dsimp only))))
    exact InvEndG.intro (by assumption) (by assumption) ⟨hSR8.sub _ hq, hSR8, fun z h1 h2 => by simp only [if_neg h1, if_neg h2]⟩ ho8 hs8 hs9
  · clear hSR F3 N3
    intro u nx h tk hSR hm F4 N4
    (repeat' (first | (k_here; (with_reducible show wpAny _ _ (call (Value.builtin _) [Value.ref _, _]) _ _ _); k_dflt (refine' append_K ?zk1 ?zk2 ?zk3 ?_ ?z; (case zk1 => k_asm); (case zk2 => k_asm); (case zk3 => k_upd); (case z => (rw [List.size_toArray, PySem.sizeLine_eq]; omega)); k_whole); intro h' F' N'; (try k_sweep)) | (k_here; (with_reducible show wpAny _ _ (binaryOp Operator.Add (Value.str _ _) (Value.str _ _)) _ _ _); (first | refine add_str (by walk_at "len") (by walk_at "len") (by rfl) ?_ | (refine add_str' ?zhz ?_; (case zhz => (simp only [PySem.Str.length_append]; (try kopn_lits); omega)))); intro _ _) | ((with_reducible show wpAny _ _ (call (Value.ref 105) _) _ _ _); refine stop_at ?_) | ((with_reducible show wpAny _ _ (call (Value.ref 356) _) _ _ _); k_dflt (refine' Tell.useV (room := 3) ?zB ?zF ?zX ?zN ?zT ?zk ?zd ?zu (quoted_tell ?zhx _) ?_; (case zB => k_asm); (case zF => k_asm); (case zX => k_asm); (case zN => k_asm); (case zT => k_asm); (case zk => first | exact rfl | assumption); (case zd => k_room); (case zu => k_units); (case zhx => omega)); intro t' h' tk' F' N') | ((with_reducible show wpAny _ _ (call (Value.ref 211) _) _ _ _); refine stop_at ?_) | ((with_reducible show wpAny _ _ (call (Value.ref 176) _) _ _ _); refine stop_at ?_) | (with_reducible refine callWith_method1 ?_ rfl rfl) | (k_unfold; (try dsimp only)) | walk1 | (dsimp only; walk1) | (leave1; (try dsimp only))))
    rename Fr _ _ _ _ => F5
    rename News _ _ _ _ => N5
    refine go_on ?_
    refine parts_start ps N5 fun hPJ0 => ?_
    refine pairs_led (l := pl) (vs := pvs) (nn := kp) (x := Str.ofString "prefix") (x2 := Str.ofString "uri") (PJ _ nx name ps) ?_ ?_ F5 N5 hPJ0 ?_ ?_
    · rfl
    · exact List.mem_cons_of_mem _ (hSR.sub _ hp)
    · intro i v u2 nx2 h tk own hv ho hm hPJ F6 N6
      first | (refine el_0_4 hPJ fun ys kk hrf2 hys => ?_; subst hrf2) | (refine el_1_3 hPJ fun ys kk hrf2 hys => ?_; subst hrf2) | (refine el_2_2 hPJ fun ys kk hrf2 hys => ?_; subst hrf2) | (refine el_3_1 hPJ fun ys kk hrf2 hys => ?_; subst hrf2) | obtain ⟨ys, kk, rfl, hys⟩ := hPJ
      try clear hPJ
      have hEl := hps.2 i v hv
      first | (refine el_0_11 hEl fun p hpi T9 o9 n9 q1 q2 hrf7 hTm hoc hod => ?_; subst hrf7) | (refine el_1_10 hEl fun p hpi T9 o9 n9 q1 q2 hrf7 hTm hoc hod => ?_; subst hrf7) | (refine el_2_9 hEl fun p hpi T9 o9 n9 q1 q2 hrf7 hTm hoc hod => ?_; subst hrf7) | (refine el_3_8 hEl fun p hpi T9 o9 n9 q1 q2 hrf7 hTm hoc hod => ?_; subst hrf7) | (refine el_4_7 hEl fun p hpi T9 o9 n9 q1 q2 hrf7 hTm hoc hod => ?_; subst hrf7) | (refine el_5_6 hEl fun p hpi T9 o9 n9 q1 q2 hrf7 hTm hoc hod => ?_; subst hrf7) | (refine el_6_5 hEl fun p hpi T9 o9 n9 q1 q2 hrf7 hTm hoc hod => ?_; subst hrf7) | (refine el_7_4 hEl fun p hpi T9 o9 n9 q1 q2 hrf7 hTm hoc hod => ?_; subst hrf7) | (refine el_8_3 hEl fun p hpi T9 o9 n9 q1 q2 hrf7 hTm hoc hod => ?_; subst hrf7) | (refine el_9_2 hEl fun p hpi T9 o9 n9 q1 q2 hrf7 hTm hoc hod => ?_; subst hrf7) | (refine el_10_1 hEl fun p hpi T9 o9 n9 q1 q2 hrf7 hTm hoc hod => ?_; subst hrf7) | obtain ⟨p, hpi, T9, o9, n9, q1, q2, rfl, hTm, hoc, hod⟩ := hEl
      try clear hEl
      have hs := hS1.2 p (List.mem_of_getElem? hpi)
      have he2 := tmap_len escV_len p.2
      have hht := (N6 _ (List.mem_append_left _ (List.mem_cons_of_mem _ (hSR.sub _ hTm)))).1
      clear F5 N5 hPJ0
      refine unpackN_ F6 N6 ⟨o9, hht, hoc, n9, hod⟩ rfl rfl rfl fun h' F' N' => ?_
      clear F6 N6
      refine regroup N' (by with_reducible assumption) ho fun Rx hRx1 hRx2 hRx3 N7 => ?_
      clear N'
      dsimp only at hRx3
      (repeat' (first | (k_here; (with_reducible show wpAny _ _ (call (Value.builtin _) [Value.ref _, _]) _ _ _); k_dflt (refine' append_K ?zk1 ?zk2 ?zk3 ?_ ?z; (case zk1 => k_asm); (case zk2 => k_asm); (case zk3 => k_upd); (case z => (rw [List.size_toArray, PySem.sizeLine_eq]; omega)); k_whole); intro h' F' N'; (try k_sweep)) | (k_here; (with_reducible show wpAny _ _ (binaryOp Operator.Add (Value.str _ _) (Value.str _ _)) _ _ _); (first | refine add_str (by walk_at "len") (by walk_at "len") (by rfl) ?_ | (refine add_str' ?zhz ?_; (case zhz => (simp only [PySem.Str.length_append]; (try kopn_lits); omega)))); intro _ _) | ((with_reducible show wpAny _ _ (call (Value.ref 105) _) _ _ _); refine stop_at ?_) | ((with_reducible show wpAny _ _ (call (Value.ref 356) _) _ _ _); k_dflt (refine' Tell.useV (room := 3) ?zB ?zF ?zX ?zN ?zT ?zk ?zd ?zu (quoted_tell ?zhx _) ?_; (case zB => k_asm); (case zF => k_asm); (case zX => k_asm); (case zN => k_asm); (case zT => k_asm); (case zk => first | exact rfl | assumption); (case zd => k_room); (case zu => k_units); (case zhx => omega)); intro t' h' tk' F' N') | ((with_reducible show wpAny _ _ (call (Value.ref 211) _) _ _ _); refine stop_at ?_) | ((with_reducible show wpAny _ _ (call (Value.ref 176) _) _ _ _); refine stop_at ?_) | (with_reducible refine callWith_method1 ?_ rfl rfl) | (k_unfold; (try dsimp only)) | walk1 | (dsimp only; walk1) | (leave1; (try dsimp only))))
      rename PyProof.V.Flat _ _ => hvF
      obtain ⟨tv, hev⟩ := flat_str (x := nsQ p.1) (by rw [← look_ns p.1]; exact hvF)
      subst hev
      clear hvF
      have hql := nsQ_len p.1
      have hyl : ys.length ≤ 11 := by
        have h1 := StrsAre.len_eq hys
        have h2 := hS1.1
        rw [List.length_cons, List.length_map, List.length_take] at h1
        omega
      rename News _ _ _ _ => Nd
      replace Nd := news_tail Nd
      (repeat' (first | (k_here; (with_reducible show wpAny _ _ (call (Value.builtin _) [Value.ref _, _]) _ _ _); k_dflt (refine' append_K ?zk1 ?zk2 ?zk3 ?_ ?z; (case zk1 => k_asm); (case zk2 => k_asm); (case zk3 => k_upd); (case z => (rw [List.size_toArray, PySem.sizeLine_eq]; omega)); k_whole); intro h' F' N'; (try k_sweep)) | (k_here; (with_reducible show wpAny _ _ (binaryOp Operator.Add (Value.str _ _) (Value.str _ _)) _ _ _); (first | refine add_str (by walk_at "len") (by walk_at "len") (by rfl) ?_ | (refine add_str' ?zhz ?_; (case zhz => (simp only [PySem.Str.length_append]; (try kopn_lits); omega)))); intro _ _) | ((with_reducible show wpAny _ _ (call (Value.ref 105) _) _ _ _); refine stop_at ?_) | ((with_reducible show wpAny _ _ (call (Value.ref 356) _) _ _ _); k_dflt (refine' Tell.useV (room := 3) ?zB ?zF ?zX ?zN ?zT ?zk ?zd ?zu (quoted_tell ?zhx _) ?_; (case zB => k_asm); (case zF => k_asm); (case zX => k_asm); (case zN => k_asm); (case zT => k_asm); (case zk => first | exact rfl | assumption); (case zd => k_room); (case zu => k_units); (case zhx => omega)); intro t' h' tk' F' N') | ((with_reducible show wpAny _ _ (call (Value.ref 211) _) _ _ _); refine stop_at ?_) | ((with_reducible show wpAny _ _ (call (Value.ref 176) _) _ _ _); refine stop_at ?_) | (with_reducible refine callWith_method1 ?_ rfl rfl) | (k_unfold; (try dsimp only)) | walk1 | (dsimp only; walk1) | (leave1; (try dsimp only))))
      rename News _ _ _ _ => N9
      (try simp only [List.push_toArray] at N9)
      exact InvEndG.intro (by assumption) N9 ⟨List.mem_cons_of_mem _ (hSR.sub _ hp), ⟨_, _, rfl, parts_next hys hpi⟩, fun z h1 h2 => by simp only [if_neg h1, if_neg h2]⟩ ho
        (fun q hq => by
          rcases List.mem_cons.mp hq with h | h
          · rw [h]; exact List.mem_cons_self
          · exact List.mem_cons_of_mem _ (hRx1 q h))
        (fun q hq => List.mem_cons_of_mem _ (hRx2 q hq))
    · intro u2 nx2 h tk hPJ hm F6 N6
      first | (refine el_0_4 hPJ fun ys kk hrf2 hys => ?_; subst hrf2) | (refine el_1_3 hPJ fun ys kk hrf2 hys => ?_; subst hrf2) | (refine el_2_2 hPJ fun ys kk hrf2 hys => ?_; subst hrf2) | (refine el_3_1 hPJ fun ys kk hrf2 hys => ?_; subst hrf2) | obtain ⟨ys, kk, rfl, hys⟩ := hPJ
      try clear hPJ
      clear F5 N5 hPJ0
      have hsubq := sub_tail N6 hSR.sub
      (repeat' (first | (k_here; (with_reducible show wpAny _ _ (call (Value.builtin _) [Value.ref _, _]) _ _ _); k_dflt (refine' append_K ?zk1 ?zk2 ?zk3 ?_ ?z; (case zk1 => k_asm); (case zk2 => k_asm); (case zk3 => k_upd); (case z => (rw [List.size_toArray, PySem.sizeLine_eq]; omega)); k_whole); intro h' F' N'; (try k_sweep)) | (k_here; (with_reducible show wpAny _ _ (binaryOp Operator.Add (Value.str _ _) (Value.str _ _)) _ _ _); (first | refine add_str (by walk_at "len") (by walk_at "len") (by rfl) ?_ | (refine add_str' ?zhz ?_; (case zhz => (simp only [PySem.Str.length_append]; (try kopn_lits); omega)))); intro _ _) | ((with_reducible show wpAny _ _ (call (Value.ref 105) _) _ _ _); refine stop_at ?_) | ((with_reducible show wpAny _ _ (call (Value.ref 356) _) _ _ _); k_dflt (refine' Tell.useV (room := 3) ?zB ?zF ?zX ?zN ?zT ?zk ?zd ?zu (quoted_tell ?zhx _) ?_; (case zB => k_asm); (case zF => k_asm); (case zX => k_asm); (case zN => k_asm); (case zT => k_asm); (case zk => first | exact rfl | assumption); (case zd => k_room); (case zu => k_units); (case zhx => omega)); intro t' h' tk' F' N') | ((with_reducible show wpAny _ _ (call (Value.ref 211) _) _ _ _); refine stop_at ?_) | ((with_reducible show wpAny _ _ (call (Value.ref 176) _) _ _ _); refine stop_at ?_) | (with_reducible refine callWith_method1 ?_ rfl rfl) | (k_unfold; (try dsimp only)) | walk1 | (dsimp only; walk1) | (leave1; (try dsimp only))))
      refine go_on ?_
      rename Fr _ _ _ _ => F8
      rename News _ _ _ _ => N8
      refine LCp.ListComp_P (F₀ := F8) (cl := []) ?c1 ?c2 ?c3 ?c4 ?c5 ?c6 ?c7 ?_
      case c1 => with_unfolding_all rfl
      case c2 => decide
      case c3 => rfl
      case c4 => decide
      case c5 => rfl
      case c6 => rfl
      case c7 => decide
      (repeat' (first | (k_here; (with_reducible show wpAny _ _ (call (Value.builtin _) [Value.ref _, _]) _ _ _); k_dflt (refine' append_K ?zk1 ?zk2 ?zk3 ?_ ?z; (case zk1 => k_asm); (case zk2 => k_asm); (case zk3 => k_upd); (case z => (rw [List.size_toArray, PySem.sizeLine_eq]; omega)); k_whole); intro h' F' N'; (try k_sweep)) | (k_here; (with_reducible show wpAny _ _ (binaryOp Operator.Add (Value.str _ _) (Value.str _ _)) _ _ _); (first | refine add_str (by walk_at "len") (by walk_at "len") (by rfl) ?_ | (refine add_str' ?zhz ?_; (case zhz => (simp only [PySem.Str.length_append]; (try kopn_lits); omega)))); intro _ _) | ((with_reducible show wpAny _ _ (call (Value.ref 105) _) _ _ _); refine stop_at ?_) | ((with_reducible show wpAny _ _ (call (Value.ref 356) _) _ _ _); k_dflt (refine' Tell.useV (room := 3) ?zB ?zF ?zX ?zN ?zT ?zk ?zd ?zu (quoted_tell ?zhx _) ?_; (case zB => k_asm); (case zF => k_asm); (case zX => k_asm); (case zN => k_asm); (case zT => k_asm); (case zk => first | exact rfl | assumption); (case zd => k_room); (case zu => k_units); (case zhx => omega)); intro t' h' tk' F' N') | ((with_reducible show wpAny _ _ (call (Value.ref 211) _) _ _ _); refine stop_at ?_) | ((with_reducible show wpAny _ _ (call (Value.ref 176) _) _ _ _); refine stop_at ?_) | (with_reducible refine callWith_method1 ?_ rfl rfl) | (k_unfold; (try dsimp only)) | walk1 | (dsimp only; walk1) | (leave1; (try dsimp only))))
      refine go_on ?_
      refine LCp.SrcLP.ledger (by rfl) F8 N8 (hsubq _ hq) ?z fun g9 => ?_
      case z => rw [List.size_toArray, PySem.sizeLine_eq]; have := hqs.1; have := hS2.1; omega
      refine mapP_rest attrQ (hqs.mono hsubq) ?_ ?_
      · intro p t1 t2 ys9 I oI C oC D m₂ h tk E' hpq hC hx hx2 F9 N9 off ne
        have hs := hS2.2 p hpq
        have he2 := tmap_len escV_len p.2
        clear F8 N8
        (try k_fold)
        (repeat' (first | (k_here; (with_reducible show wpAny _ _ (call (Value.builtin _) [Value.ref _, _]) _ _ _); k_dflt (refine' append_K ?zk1 ?zk2 ?zk3 ?_ ?z; (case zk1 => k_asm); (case zk2 => k_asm); (case zk3 => k_upd); (case z => (rw [List.size_toArray, PySem.sizeLine_eq]; omega)); k_whole); intro h' F' N'; (try k_sweep)) | (k_here; (with_reducible show wpAny _ _ (binaryOp Operator.Add (Value.str _ _) (Value.str _ _)) _ _ _); (first | refine add_str (by walk_at "len") (by walk_at "len") (by rfl) ?_ | (refine add_str' ?zhz ?_; (case zhz => (simp only [PySem.Str.length_append]; (try kopn_lits); omega)))); intro _ _) | ((with_reducible show wpAny _ _ (call (Value.ref 105) _) _ _ _); refine stop_at ?_) | ((with_reducible show wpAny _ _ (call (Value.ref 356) _) _ _ _); k_dflt (refine' Tell.useV (room := 3) ?zB ?zF ?zX ?zN ?zT ?zk ?zd ?zu (quoted_tell ?zhx _) ?_; (case zB => k_asm); (case zF => k_asm); (case zX => k_asm); (case zN => k_asm); (case zT => k_asm); (case zk => first | exact rfl | assumption); (case zd => k_room); (case zu => k_units); (case zhx => omega)); intro t' h' tk' F' N') | ((with_reducible show wpAny _ _ (call (Value.ref 211) _) _ _ _); refine stop_at ?_) | ((with_reducible show wpAny _ _ (call (Value.ref 176) _) _ _ _); refine stop_at ?_) | (with_reducible refine callWith_method1 ?_ rfl rfl) | (k_unfold; (try dsimp only)) | walk1 | (dsimp only; walk1) | (leave1; (try dsimp only))))
        refine go_on ?_
        rename News _ _ _ _ => N7
        exact LCg.CompEnd.intro (by assumption) N7 _ (fun p hp => hp) off (.inr ⟨_, hsubq _ hq, rfl, _, rfl⟩) ⟨rfl, _, rfl⟩
      · intro ys9 hys9
        clear F8 N8
        (repeat' (first | (k_here; (with_reducible show wpAny _ _ (call (Value.builtin _) [Value.ref _, _]) _ _ _); k_dflt (refine' append_K ?zk1 ?zk2 ?zk3 ?_ ?z; (case zk1 => k_asm); (case zk2 => k_asm); (case zk3 => k_upd); (case z => (rw [List.size_toArray, PySem.sizeLine_eq]; omega)); k_whole); intro h' F' N'; (try k_sweep)) | (k_here; (with_reducible show wpAny _ _ (binaryOp Operator.Add (Value.str _ _) (Value.str _ _)) _ _ _); (first | refine add_str (by walk_at "len") (by walk_at "len") (by rfl) ?_ | (refine add_str' ?zhz ?_; (case zhz => (simp only [PySem.Str.length_append]; (try kopn_lits); omega)))); intro _ _) | ((with_reducible show wpAny _ _ (call (Value.ref 105) _) _ _ _); refine stop_at ?_) | ((with_reducible show wpAny _ _ (call (Value.ref 356) _) _ _ _); k_dflt (refine' Tell.useV (room := 3) ?zB ?zF ?zX ?zN ?zT ?zk ?zd ?zu (quoted_tell ?zhx _) ?_; (case zB => k_asm); (case zF => k_asm); (case zX => k_asm); (case zN => k_asm); (case zT => k_asm); (case zk => first | exact rfl | assumption); (case zd => k_room); (case zu => k_units); (case zhx => omega)); intro t' h' tk' F' N') | ((with_reducible show wpAny _ _ (call (Value.ref 211) _) _ _ _); refine stop_at ?_) | ((with_reducible show wpAny _ _ (call (Value.ref 176) _) _ _ _); refine stop_at ?_) | (with_reducible refine callWith_method1 ?_ rfl rfl) | (k_unfold; (try dsimp only)) | walk1 | (dsimp only; walk1) | (leave1; (try dsimp only))))
        refine go_on ?_
        rename Fr _ _ _ _ => Fa
        rename News _ _ _ _ => Na
        have hps1 := hps.1
        have hqs1 := hqs.1
        have hz1 := hS1.1
        have hz2 := hS2.1
        rw [hps1, List.take_length] at hys
        have hya : ys.length ≤ 11 := by
          have h1 := StrsAre.len_eq hys
          rw [List.length_cons, List.length_map] at h1
          omega
        have hyb : ys9.length ≤ 10 := by
          have h1 := StrsAre.len_eq hys9
          rw [List.length_map] at h1
          omega
        refine kmk_add_lit (its := ys.toArray) (its2 := ys9.toArray) (zs := ys ++ ys9) Fa Na ?ha ?hb rfl ?_ ?z
        case ha => exact mem_list Na (by k_mem)
        case hb => exact mem_list Na (by k_mem)
        case z =>
          show ys.length + ys9.length ≤ sizeLine
          rw [PySem.sizeLine_eq]; omega
        intro D2 h' F' N' l1
        clear Fa Na
        first | (refine el_0_15 hSR fun rows ats kl ka R' hrf5 hl1 hl2 hT' hr0 hrl hN0' hA' hsubR hne9 => ?_; subst hrf5) | (refine el_1_14 hSR fun rows ats kl ka R' hrf5 hl1 hl2 hT' hr0 hrl hN0' hA' hsubR hne9 => ?_; subst hrf5) | (refine el_2_13 hSR fun rows ats kl ka R' hrf5 hl1 hl2 hT' hr0 hrl hN0' hA' hsubR hne9 => ?_; subst hrf5) | (refine el_3_12 hSR fun rows ats kl ka R' hrf5 hl1 hl2 hT' hr0 hrl hN0' hA' hsubR hne9 => ?_; subst hrf5) | (refine el_4_11 hSR fun rows ats kl ka R' hrf5 hl1 hl2 hT' hr0 hrl hN0' hA' hsubR hne9 => ?_; subst hrf5) | (refine el_5_10 hSR fun rows ats kl ka R' hrf5 hl1 hl2 hT' hr0 hrl hN0' hA' hsubR hne9 => ?_; subst hrf5) | (refine el_6_9 hSR fun rows ats kl ka R' hrf5 hl1 hl2 hT' hr0 hrl hN0' hA' hsubR hne9 => ?_; subst hrf5) | (refine el_7_8 hSR fun rows ats kl ka R' hrf5 hl1 hl2 hT' hr0 hrl hN0' hA' hsubR hne9 => ?_; subst hrf5) | (refine el_8_7 hSR fun rows ats kl ka R' hrf5 hl1 hl2 hT' hr0 hrl hN0' hA' hsubR hne9 => ?_; subst hrf5) | (refine el_9_6 hSR fun rows ats kl ka R' hrf5 hl1 hl2 hT' hr0 hrl hN0' hA' hsubR hne9 => ?_; subst hrf5) | (refine el_10_5 hSR fun rows ats kl ka R' hrf5 hl1 hl2 hT' hr0 hrl hN0' hA' hsubR hne9 => ?_; subst hrf5) | (refine el_11_4 hSR fun rows ats kl ka R' hrf5 hl1 hl2 hT' hr0 hrl hN0' hA' hsubR hne9 => ?_; subst hrf5) | (refine el_12_3 hSR fun rows ats kl ka R' hrf5 hl1 hl2 hT' hr0 hrl hN0' hA' hsubR hne9 => ?_; subst hrf5) | (refine el_13_2 hSR fun rows ats kl ka R' hrf5 hl1 hl2 hT' hr0 hrl hN0' hA' hsubR hne9 => ?_; subst hrf5) | (refine el_14_1 hSR fun rows ats kl ka R' hrf5 hl1 hl2 hT' hr0 hrl hN0' hA' hsubR hne9 => ?_; subst hrf5) | obtain ⟨rows, ats, kl, ka, R', rfl, hl1, hl2, hT', hr0, hrl, hN0', hA', hsubR, hne9⟩ := hSR
        try clear hSR
        (repeat' (first | (k_here; (with_reducible show wpAny _ _ (call (Value.builtin _) [Value.ref _, _]) _ _ _); k_dflt (refine' append_K ?zk1 ?zk2 ?zk3 ?_ ?z; (case zk1 => k_asm); (case zk2 => k_asm); (case zk3 => k_upd); (case z => (rw [List.size_toArray, PySem.sizeLine_eq]; omega)); k_whole); intro h' F' N'; (try k_sweep)) | (k_here; (with_reducible show wpAny _ _ (binaryOp Operator.Add (Value.str _ _) (Value.str _ _)) _ _ _); (first | refine add_str (by walk_at "len") (by walk_at "len") (by rfl) ?_ | (refine add_str' ?zhz ?_; (case zhz => (simp only [PySem.Str.length_append]; (try kopn_lits); omega)))); intro _ _) | ((with_reducible show wpAny _ _ (call (Value.ref 105) _) _ _ _); refine stop_at ?_) | ((with_reducible show wpAny _ _ (call (Value.ref 356) _) _ _ _); k_dflt (refine' Tell.useV (room := 3) ?zB ?zF ?zX ?zN ?zT ?zk ?zd ?zu (quoted_tell ?zhx _) ?_; (case zB => k_asm); (case zF => k_asm); (case zX => k_asm); (case zN => k_asm); (case zT => k_asm); (case zk => first | exact rfl | assumption); (case zd => k_room); (case zu => k_units); (case zhx => omega)); intro t' h' tk' F' N') | ((with_reducible show wpAny _ _ (call (Value.ref 211) _) _ _ _); refine stop_at ?_) | ((with_reducible show wpAny _ _ (call (Value.ref 176) _) _ _ _); refine stop_at ?_) | (with_reducible refine callWith_method1 ?_ rfl rfl) | (k_unfold; (try dsimp only)) | walk1 | (dsimp only; walk1) | (leave1; (try dsimp only))))
        refine go_on ?_
        rename News _ _ _ _ => Nb
        rename Fr _ _ _ _ => Fb
        have hs5 := sub5 Nb
        have hal := hA'.1
        rw [List.length_take] at hal
        refine' Tell.use (room := 4) ?B Fb ?X Nb ?T rfl ?d ?u (startTag_tell (ps := ps) (qs := qs) (rows := rows) (ats := ats) (kl := kl) (ka := ka) (pvs := pvs) (kp := kp) _ (hT'.mono hs5) (by k_mem) (by omega) (by omega) (by decide) hr0 (hN0'.mono hs5) (by k_mem) (hs5 _ (hsubR _ hp)) (hps.mono fun p hp => hs5 _ (hsubR _ hp)) (hA'.all (by omega) hs5) hS1 hS2 (by show name.length ≤ 100; omega)) (fun p hp => hp) ?_
        case B => k_asm
        case X => k_asm
        case T => k_asm
        case d => k_room
        case u => k_units
        intro r' nw' h' tk' F' N' hP'
        first | (refine el_0_3 hP' fun hn' t' hr' => ?_) | (refine el_1_2 hP' fun hn' t' hr' => ?_) | (refine el_2_1 hP' fun hn' t' hr' => ?_) | obtain ⟨hn', t', hr'⟩ := hP'
        try clear hP'
        replace hn' := hn'.symm
        subst hn'
        subst hr'
        clear Fb Nb
        (repeat' (first | (k_here; (with_reducible show wpAny _ _ (call (Value.builtin _) [Value.ref _, _]) _ _ _); k_dflt (refine' append_K ?zk1 ?zk2 ?zk3 ?_ ?z; (case zk1 => k_asm); (case zk2 => k_asm); (case zk3 => k_upd); (case z => (rw [List.size_toArray, PySem.sizeLine_eq]; omega)); k_whole); intro h' F' N'; (try k_sweep)) | (k_here; (with_reducible show wpAny _ _ (binaryOp Operator.Add (Value.str _ _) (Value.str _ _)) _ _ _); (first | refine add_str (by walk_at "len") (by walk_at "len") (by rfl) ?_ | (refine add_str' ?zhz ?_; (case zhz => (simp only [PySem.Str.length_append]; (try kopn_lits); omega)))); intro _ _) | ((with_reducible show wpAny _ _ (call (Value.ref 105) _) _ _ _); refine stop_at ?_) | ((with_reducible show wpAny _ _ (call (Value.ref 356) _) _ _ _); k_dflt (refine' Tell.useV (room := 3) ?zB ?zF ?zX ?zN ?zT ?zk ?zd ?zu (quoted_tell ?zhx _) ?_; (case zB => k_asm); (case zF => k_asm); (case zX => k_asm); (case zN => k_asm); (case zT => k_asm); (case zk => first | exact rfl | assumption); (case zd => k_room); (case zu => k_units); (case zhx => omega)); intro t' h' tk' F' N') | ((with_reducible show wpAny _ _ (call (Value.ref 211) _) _ _ _); refine stop_at ?_) | ((with_reducible show wpAny _ _ (call (Value.ref 176) _) _ _ _); refine stop_at ?_) | (with_reducible refine callWith_method1 ?_ rfl rfl) | (k_unfold; (try dsimp only)) | walk1 | (dsimp only; walk1) | (leave1; (try dsimp only))))
        have hsz := parts_size hS1 hS2 hnl
        have hjl := join_len (Str.ofString " ") (Str.ofString "<" ++ name) (ps.map declQ ++ qs.map attrQ)
        have hlaw := start_law name ps qs isE
        refine join_led (by assumption) (by k_mem) (StrsAre.append' hys hys9) (Nat.le_trans hsz (by decide)) ?_
        intro t9 k9
        rw [List.cons_append] at hlaw hsz ⊢
        generalize Txt.join (Str.ofString " ") ((Str.ofString "<" ++ name) :: (ps.map declQ ++ qs.map attrQ)) = J at hjl hlaw ⊢
        have hJ : J.length ≤ 100000 := Nat.le_trans hjl hsz
        clear hjl hsz
        (repeat' (first | (k_here; (with_reducible show wpAny _ _ (call (Value.builtin _) [Value.ref _, _]) _ _ _); k_dflt (refine' append_K ?zk1 ?zk2 ?zk3 ?_ ?z; (case zk1 => k_asm); (case zk2 => k_asm); (case zk3 => k_upd); (case z => (rw [List.size_toArray, PySem.sizeLine_eq]; omega)); k_whole); intro h' F' N'; (try k_sweep)) | (k_here; (with_reducible show wpAny _ _ (binaryOp Operator.Add (Value.str _ _) (Value.str _ _)) _ _ _); (first | refine add_str (by walk_at "len") (by walk_at "len") (by rfl) ?_ | (refine add_str' ?zhz ?_; (case zhz => (simp only [PySem.Str.length_append]; (try kopn_lits); omega)))); intro _ _) | ((with_reducible show wpAny _ _ (call (Value.ref 105) _) _ _ _); refine stop_at ?_) | ((with_reducible show wpAny _ _ (call (Value.ref 356) _) _ _ _); k_dflt (refine' Tell.useV (room := 3) ?zB ?zF ?zX ?zN ?zT ?zk ?zd ?zu (quoted_tell ?zhx _) ?_; (case zB => k_asm); (case zF => k_asm); (case zX => k_asm); (case zN => k_asm); (case zT => k_asm); (case zk => first | exact rfl | assumption); (case zd => k_room); (case zu => k_units); (case zhx => omega)); intro t' h' tk' F' N') | ((with_reducible show wpAny _ _ (call (Value.ref 211) _) _ _ _); refine stop_at ?_) | ((with_reducible show wpAny _ _ (call (Value.ref 176) _) _ _ _); refine stop_at ?_) | (with_reducible refine callWith_method1 ?_ rfl rfl) | (k_unfold; (try dsimp only)) | walk1 | (dsimp only; walk1) | (leave1; (try dsimp only))))
        all_goals subst isE
        all_goals refine ret _ _ _ _ (by assumption) (news_sub (by assumption) fun p hp => hs5 p (hsubR p hp)) ⟨rfl, congrArg Value.bool ?_⟩
        all_goals (rw [hlaw]; exact beq_self_eq_true _)
end

theorem reset_E2 (h : PySem.Heap) : PySem.W.GrownAll [] h := by
  w_top off
  walk1
section
open PySem PySem.W PyProof.Rows
set_option Elab.async false
set_option maxRecDepth 100000
set_option linter.unusedSimpArgs false
set_option hygiene false
local macro_rules | `(tactic| k_mem) => `(tactic| first | assumption | exact List.Mem.head _ | (refine' List.mem_cons_of_mem _ ?_; k_mem) | (refine' List.mem_append_left _ ?_; k_mem) | (refine' List.mem_append_right _ ?_; k_mem))
local macro_rules | `(tactic| walk_at "getAttr ref") => `(tactic| (k_here; k_dflt (refine' get_own ?zk1 ?zk2 ?zk3 ?zk4 ?zk5 ?zk6 ?zk7 ?zk8 ?zk9 ?_; (case zk1 => k_asm); (case zk2 => k_asm); (case zk3 => k_inst); (case zk4 => k_is); (case zk5 => k_is); (case zk6 => k_is); (case zk7 => k_is); (case zk8 => first | assumption | k_get); (case zk9 => k_handed); k_whole)))
local macro_rules | `(tactic| walk_at "len") => `(tactic| first | assumption | exact (by decide +kernel : PySem.Str.length _ ≤ 64) | exact len_app (by walk_at "len") (by walk_at "len"))
theorem fillKE2 : (fun (_ : Params → Frag) (_ : OpenLaw) => True) Mine.K PySem.Challenge.rw_xw0213_01 := by k_fill; trivial

theorem meta_Exception : typeOf (.type "Exception") = pure (.type "type") := by kernel_rfl
local macro_rules | `(tactic| walk_at "getMethod type:Exception") => `(tactic| (k_here; refine' method_type ?zF ?zX ?zm (by decide +kernel) ?ze ?zh ?_; (case zF => k_asm); (case zX => k_asm); (case zm => exact meta_Exception); (case ze => k_dflt k_is); (case zh => k_handed)))
local macro_rules | `(tactic| walk_at "call builtin:Exception.__init__") => `(tactic| refine stop_at ?_)
local macro_rules | `(tactic| walk_at "setAttr ref") => `(tactic| refine stop_at ?_)

theorem one_turned {g h h' : Heap} {L e : Addr} {m : Str → Option Value} {o o' : Obj} {R : List (Addr × Obj)} (F : Fr g L h m) (N : News g L h ((e, o) :: R)) (hR : ∀ p ∈ R, p.1 ≠ e) (he : h'.get? e = some o')
    (k : ∀ b x, b ≠ e → h.get? b = some x → h'.get? b = some x) : Fr g L h' m ∧ News g L h' ((e, o') :: R) := by
  have ne := N (e, o) List.mem_cons_self
  refine ⟨⟨?_, fun b x q => k b x (fun z => by rw [z, ne.2.2] at q; cases q) (F.keep b x q), F.above⟩, fun p hp => ?_⟩
  · obtain ⟨o1, es, ep, h1, r⟩ := F.ns
    exact ⟨o1, es, ep, k _ _ (fun z => ne.2.1 z.symm) h1, r⟩
  · rcases List.mem_cons.mp hp with rfl | hp
    · exact ⟨he, ne.2⟩
    · exact ⟨k _ _ (hR p hp) (N p (List.mem_cons_of_mem _ hp)).1, (N p (List.mem_cons_of_mem _ hp)).2⟩
theorem in_ns {K : Frag} {h : Heap} {N : Addr} {mN : Str → Option Value} {n : Str} {v : Value} (X : K.In h) (G : h.Ns N mN) (e : nsIn K N n = some (some v)) : mN n = some v := by
  obtain ⟨o, es, ep, ho, hd, _, hf⟩ := G
  unfold nsIn at e
  split at e
  · rename_i c d es' n' sl q
    have := X _ _ q
    rw [ho] at this
    cases this
    cases hd
    rw [← hf]
    unfold nsFind findBy
    split at e
    · rename_i en he
      rw [← Array.find?_toList, he]
      simpa using e
    · split at e <;> cases e
  · cases e
theorem fault_cls {w : World} {h : Heap} (X : (Mine.K w.params).In h) : FaultCls h 51 35 := by
  refine' ⟨⟨_, _, _, _, _, _, _, _, _, _, _, _, _, _, _, _, _, _, _, _, _, h.nsMap 50, h.nsMap 37, X 51 _ ?a, fun _ => rfl, .of_isNs (isNs_of_in X ?b), nsMap_none_of_in X ?b ?c, X 38 _ ?d, ?e3, ?f3⟩, _, X 35 _ ?g2, ?g3⟩
  case a => with_unfolding_all exact rfl
  case b => with_unfolding_all exact rfl
  case c => with_unfolding_all exact rfl
  case d => with_unfolding_all exact rfl
  case e3 => exact .of_isNs (isNs_of_in X (by with_unfolding_all exact rfl))
  case f3 => exact in_ns X (.of_isNs (isNs_of_in X (by with_unfolding_all exact rfl))) (by with_unfolding_all exact rfl)
  case g2 => with_unfolding_all exact rfl
  case g3 => rfl
set_option maxHeartbeats 1000000 in
theorem init_tell {w : World} {e t : Addr} {msg : Str} {tm : Tok} (R : List (Addr × Obj)) (hR : ∀ p ∈ R, p.1 ≠ e) :
    Tell w 35 [.ref e, .str msg tm] 2 ((e, { cls := .ref 51, data := .fields #[.ref t, .none, .none, .none, .bool false, .none] }) :: R) (fun news' r => r = .none ∧ ∃ t1 dx, news' = (e, { cls := .ref 51, dict := some dx, data := .fields #[.ref t1, .none, .none, .none, .bool false, .none] }) :: R) := by
  refine Tell.intro fun loose mean mg mb dp un gd cn nm ig ic mr a ccd cl outer A₀ base h₀ L m sh sg sd st so Q E B F X N T hd hu ret => ?_
  refine wpAny_call ?_
  k_dflt k_enter
  rename Fr _ _ _ _ => F1
  refine (let A1 : Around := _; let m1 : Str → Option Value := _; let t1 : Nat := _; have F1 : Fr _ _ _ m1 := F1; (?_ : wpAny _ A1 _ _ _ (Shared.mk _ _ _ t1 _)))
  (repeat' (first | (k_unfold; (try dsimp only)) | walk1 | (dsimp only; walk1) | (leave1; (try dsimp only))))
  refine go_on ?_
  rename Fr _ _ _ _ => F1
  rename News _ _ _ ((e, _) :: _) => N1
  rename (Mine.K w.params).In _ => X1
  have X2 := X1.keeps F1.keep
  refine flt_base_init (fault_cls X2) (N1 _ List.mem_cons_self).1 fun h1 t1 he1 hk1 => ?_
  obtain ⟨F2, N2⟩ := one_turned F1 N1 hR he1 hk1
  clear F1 N1
  (repeat' (first | (k_unfold; (try dsimp only)) | walk1 | (dsimp only; walk1) | (leave1; (try dsimp only))))
  refine go_on ?_
  have X3 := X1.keeps F2.keep
  refine' flt_setAttr (D := 38) X3 (N2 _ List.mem_cons_self).1 rfl rfl rfl ?s1 ?s2 ?s3 ?s4 ?s5 fun h2 tk2 dx he2 hk2 => ?_
  case s1 => k_dflt k_is
  case s2 => k_dflt k_is
  case s3 => k_dflt k_is
  case s4 => rfl
  case s5 => rfl
  obtain ⟨F3, N3⟩ := one_turned F2 N2 hR he2 hk2
  clear F2 N2
  (repeat' (first | (k_unfold; (try dsimp only)) | walk1 | (dsimp only; walk1) | (leave1; (try dsimp only))))
  exact ret _ _ _ _ (by assumption) (by assumption) ⟨rfl, _, _, rfl⟩
end

theorem reset_F2 (h : PySem.Heap) : PySem.W.GrownAll [] h := by
  w_top off
  walk1
section
open PySem PySem.W PyProof.Rows PySem.Calls
set_option Elab.async false
set_option maxRecDepth 100000
section
variable {prog : Program} {w : World} {A₀ : Around} {E : Value → Shared → Prop} {s' : Shared} {base g g₂ : Heap} {outer : List Env} {L a e : Addr} {m : Str → Option Value} {name : Str} {scope : Scope} {cd : Value}
  {b₀ : Stmt} {suite : List Stmt} {pos np : Pos} {rest : List ExceptHandler} {Q : Flow → Shared → Prop} {news : List (Addr × Obj)} {loose : List Str} {mean : ExcName → Option Value} {mg mb : Str → Option Value} {x : Str}
/-- a fault is caught by its class's name -/
theorem caughtB (B₀ : Below A₀ base outer g) (F : Fr g L g₂ m) (hsm : g₂.UpToSlots s'.heap) (R : RaisedN base (envOf name scope L a cd :: outer) e (.ref 51) news s'.heap) (U : Under w loose mean mg mb base) (hb : base.objs.size ≤ L) (hlt : ∀ b ∈ fsOf outer, @LT.lt Nat _ b L)
    (ex : nsIn (Mine.K w.params) mainGlobals x = some (some (.ref 51)))
    (k : ∀ h' g', Fr g' L h' m → News g' L h' news → Below A₀ base outer g' → (Mine.K w.params).In g' → Top topProg loose mean mg mb g' → FrameTurn (fsOf outer) g g' →
      wpAny (model prog w) ((A₀.deeper (envOf name scope L a cd)).mark (some (.ref e))) (execs (b₀ :: suite) (envOf name scope L a cd)) Q E { s' with heap := h' })
    (hk : scope.kind = .function := by rfl) (hx : (envOf name scope L a cd).kindOf x = some .globalImplicit := by rfl) (hd : (x == ("__debug__" : Str)) = false := by decide)
    (hE : PassesOwnAt (model prog w) ((A₀.deeper (envOf name scope L a cd)).mark (some (.ref e))) (A₀.deeper (envOf name scope L a cd)) (envOf name scope L a cd) E := by passes_own) :
    wpAny (model prog w) (A₀.deeper (envOf name scope L a cd)) (noteFrame (.ref e) (envOf name scope L a cd))
      (fun _ s₂ => wpAny (model prog w) (A₀.deeper (envOf name scope L a cd)) (setFlight (.ref e) none) (fun _ s₃ =>
        wpAny (model prog w) (A₀.deeper (envOf name scope L a cd)) (handleBy (.ref e) (envOf name scope L a cd) (.ExceptHandler (some (.Name x np)) none (b₀ :: suite) pos :: rest)) Q E s₃) E s₂) E s' := by
  obtain ⟨B, a0, hB, hl, hfl⟩ := R
  have hfr := hfl.2.2.1
  have hL : B.get? L = none := by
    obtain ⟨_, ⟨L', _, hf, hn', _⟩, _⟩ := hfr
    obtain rfl : L = L' := Option.some.inj hf
    exact hn'
  have hBf : ∀ b ∈ fsOf outer, B.get? b = none := fun b hm => (hfr.2.2.mem hm).1
  have ground : ∀ h₅ : Heap, B.StaysIn h₅ → g₂.UpToSlots h₅ → ∃ g₅, Fr g₅ L h₅ m ∧ News g₅ L h₅ news ∧ Below A₀ base outer g₅ ∧ FrameTurn (fsOf outer) g g₅ := by
    intro h₅ hs hu
    obtain ⟨g₅, a1, a2, a3, a4, a5⟩ := reground (h := h₅) (base := base) (fs := fsOf outer) (L := L) (fun b o q => hs b o (hB b o q)) hb hlt
    have turn : FrameTurn (fsOf outer) g g₅ := fun b hm o q => by
      obtain ⟨_, o', ho', hd'⟩ := B₀.frames.mem hm
      rw [q] at ho'; cases ho'
      obtain ⟨sl, h1⟩ := hu b o (F.keep b o q) hd'
      exact ⟨sl, (a4 b hm).trans h1⟩
    refine ⟨g₅, ⟨hu.ns F.ns, a2, a1⟩, fun p hp => ⟨hs _ _ (hl p hp).1, fun z => ?_, a5 _ (hl p hp).2 fun hm => ?_⟩, ⟨B₀.stack, a3, FrameTurn.frames B₀.frames turn⟩, turn⟩
    · have := (hl p hp).1; rw [z, hL] at this; cases this
    · have := (hl p hp).1; rw [hBf _ hm] at this; cases this
  refine wpAny_looks_onW (Around.frames_deeper B₀.stack) rfl hfl fun h₄ hheld₄ hsm₄ => ?_
  refine wpAny_landsW hheld₄ fun h₅ hheld hsm₅' => ?_
  have hsm₅ := hsm₄.trans hsm₅'
  obtain ⟨g₅, F₅, N₅, K₅, T₅⟩ := ground h₅ hheld.1 (hsm.trans hsm₅)
  have U₅ := U.keeps K₅.stays
  obtain ⟨ob, hob, hobc⟩ := hheld.there
  obtain ⟨⟨nm, q, N, bs, bm, hdct, sn, sub, ab, col, dd, k0, k1, k2, k3, k5, C₂, cl₂, dd₂, cd₂, sl₂, mN, mM, hC, hbm, -, -, -, -, -⟩, -⟩ := fault_cls (U₅.X.keeps F₅.keep)
  have hbase : (Value.ref C₂ :: bm).contains (.type "BaseException") = true := by rw [List.contains_cons, hbm]; rfl
  refine wpAny_handleBy_cons (codeAny_handlers_test (name_K F₅ U₅.X (topRead_of U₅.T) ex ?_ hk hx hd)) (by intro q; cases q)
  refine wpAny_excMatches_sub_self hC hob hobc hbase (codeAny_handlers_suite ?_)
  refine lands_againW hheld fun h₆ hfl₆ hsm₆ => ?_
  obtain ⟨g₆, F₆, N₆, K₆, T₆⟩ := ground h₆ hfl₆.1 ((hsm.trans hsm₅).trans hsm₆)
  exact wpAny_passesOwnAt hE (k h₆ g₆ F₆ N₆ K₆ (U.X.keeps K₆.stays) (U.T.keeps K₆.stays) T₆)
theorem callWith_mine {f : Addr} {e₁ : PySem.Expr} {es : List PySem.Expr} {env : Env} {pos₁ : Pos} {first : List Value} {A : Around} {s : Shared} {h₀ : Heap} {Qv : Value → Shared → Prop} (X : (Mine.K w.params).In h₀) (hk : keepIn (Mine.K w.params) (.ref f) = true)
    (h : wpAny (model prog w) A (spliced (backTo pos₁ (starEach (e₁ :: es) env))) (fun vs s₁ => (Mine.K w.params).In s₁.heap ∧ wpAny (model prog w) A (call (.ref f) (first ++ vs)) Qv E s₁) E s)
    (he : starEach (e₁ :: es) env = (false, eval e₁ env) :: starEach es env) (hp : (backTo pos₁ (starEach es env)).any (·.1) = false) :
    wpAny (model prog w) A (callWith pos₁ (.ref f) first (backTo pos₁ (starEach (e₁ :: es) env)) []) Qv E s := callWith_K X hk h he hp
end
end

theorem reset_E4 (h : PySem.Heap) : PySem.W.GrownAll [] h := by
  w_top off
  walk1
section
open PySem PySem.W PyProof.Rows
set_option Elab.async false
set_option maxRecDepth 100000
set_option linter.unusedSimpArgs false
set_option hygiene false
local macro_rules | `(tactic| k_mem) => `(tactic| first | assumption | exact List.Mem.head _ | (refine' List.mem_cons_of_mem _ ?_; k_mem) | (refine' List.mem_append_left _ ?_; k_mem) | (refine' List.mem_append_right _ ?_; k_mem))
local macro_rules | `(tactic| walk_at "getAttr ref") => `(tactic| (k_here; k_dflt (refine' get_own ?zk1 ?zk2 ?zk3 ?zk4 ?zk5 ?zk6 ?zk7 ?zk8 ?zk9 ?_; (case zk1 => k_asm); (case zk2 => k_asm); (case zk3 => k_inst); (case zk4 => k_is); (case zk5 => k_is); (case zk6 => k_is); (case zk7 => k_is); (case zk8 => first | assumption | k_get); (case zk9 => k_handed); k_whole)))
local macro_rules | `(tactic| walk_at "len") => `(tactic| first | assumption | exact (by decide +kernel : PySem.Str.length _ ≤ 64) | exact len_app (by walk_at "len") (by walk_at "len"))
local macro_rules | `(tactic| walk_at "exec Raise some none") => `(tactic| refine stop_at ?_)
local macro_rules | `(tactic| walk_at "leaving ref") => `(tactic| refine stop_at ?_)
theorem fillKE4 : (fun (_ : Params → Frag) (_ : OpenLaw) => True) Mine.K PySem.Challenge.rw_xw0213_01 := by k_fill; trivial

/-- what a call of the def at f tells that may end in a fault (Bad) -/
def TellR (w : World) (f : Addr) (args : List Value) (room : Nat) (news : List (Addr × Obj)) (Ret : List (Addr × Obj) → Value → Prop) (Bad : Prop) : Prop :=
  ∀ (loose : List Str) (mean : ExcName → Option Value) (mg mb : Str → Option Value) (dp un : Nat) (gd : Option (List Code)) (cn : Str) (cs : Scope) (a : Addr) (ccd : Value) (cl : List (Str × Addr)) (outer : List Env) (A₀ : Around) (base h₀ : Heap) (L : Addr) (m : Str → Option Value) (s : Shared) (Q E : Value → Shared → Prop),
    Below A₀ base outer h₀ → Fr h₀ L s.heap m → (Mine.K w.params).In h₀ → News h₀ L s.heap news → Top topProg loose mean mg mb h₀ → cs.kind = .function → dp + room < recursionLimit → un + 40 * room < cLine →
    (∀ r news' h' tk', Fr h₀ L h' m → News h₀ L h' news' → Ret news' r → Q r { s with heap := h', toks := tk' }) →
    (Bad → ∀ e g₂ h' tk', Fr h₀ L g₂ m → g₂.UpToSlots h' → RaisedN base (envX cn cs L a ccd cl :: outer) e (.ref 51) news h' → E (.ref e) { s with heap := h', toks := tk' }) →
    wpAny (model PySem.Challenge.rw_xw0213_01.row.prog w) (ktrTop dp un gd cn cs L a ccd cl outer) (call (.ref f) args) Q E s

theorem flt_news {g h h' : Heap} {L e : Addr} {m : Str → Option Value} {R : List (Addr × Obj)} {cls : Value} {vs : List Value} (F : Fr g L h m) (N : News g L h R) (hm : Heap.MadeExcOf h h' e cls vs) :
    Fr g L h' m ∧ (∃ t, News g L h' ((e, { cls := cls, data := .fields #[.ref t, .none, .none, .none, .bool false, .none] }) :: R)) ∧ ∀ p ∈ R, p.1 ≠ e := by
  obtain ⟨t, he, -, -⟩ := hm.there
  refine ⟨F.keeps hm.keeps, ⟨t, fun p hp => ?_⟩, fun p hp z => ?_⟩
  · rcases List.mem_cons.mp hp with rfl | hp
    · refine ⟨he, fun z => ?_, ?_⟩
      · obtain ⟨o1, _, _, h1, _⟩ := F.ns
        have := hm.new
        dsimp only at z
        rw [z, h1] at this; cases this
      · dsimp only
        cases q : g.get? e with
        | none => rfl
        | some o => have := F.keep _ _ q; rw [hm.new] at this; cases this
    · exact ⟨hm.keeps _ _ (N p hp).1, (N p hp).2⟩
  · have := (N p hp).1
    rw [z, hm.new] at this; cases this
theorem fault_tell {w : World} {msg : Str} {tm : Tok} (R : List (Addr × Obj)) :
    Tell w 51 [.str msg tm] 3 R (fun news' r => ∃ e t1 dx, news' = (e, { cls := .ref 51, dict := some dx, data := .fields #[.ref t1, .none, .none, .none, .bool false, .none] }) :: R ∧ (∀ p ∈ R, p.1 ≠ e) ∧ r = .ref e) := by
  unfold Tell
  intro loose mean mg mb dp un gd cn cs a ccd cl outer A₀ base h₀ L m s Q E B F X N T hk hd hu ret
  refine flt_call (h := s.heap) (g := s.gens) (d := s.drawn) (t := s.toks) (os := s.os) (fault_cls (X.keeps F.keep)) (fun h1 e hm => ?_) (by rw [PySem.sizeLine_eq]; exact Nat.le_of_ble_eq_true rfl)
  obtain ⟨F2, ⟨t, N2⟩, hne⟩ := flt_news F N hm
  refine' Tell.use (room := 2) (s := ⟨h1, s.gens, s.drawn, s.toks, s.os⟩) B F2 X N2 T hk ?d ?u (init_tell R hne) (fun p hp => hp) ?_
  case d => show dp + 1 + 2 < recursionLimit; omega
  case u => show un + 1 + 40 * 2 < cLine; omega
  rintro r' nw' h' tk' F' N' ⟨rfl, t1, dx, rfl⟩
  exact ⟨rfl, ret _ _ _ _ F' N' ⟨e, t1, dx, rfl, hne, rfl⟩⟩

/-- y stands within x -/
def within (y x : Str) : Bool := !(Builtin.Str.occurrences x y 0 x.length 1).isEmpty
def badC (x : Str) : Bool := within (Str.ofString "--") x || (Txt.slice x (some (-1)) none == Str.ofString "-")
def badI (x : Str) : Bool := within (Str.ofString "?>") x
theorem badC_1 {x : Str} (h : (Builtin.Str.occurrences x (Str.ofString "--") 0 x.length 1).isEmpty = false) : badC x = true := by unfold badC within; rw [h]; rfl
theorem badC_2 {x : Str} (h : (Txt.slice x (some (-1)) none == Str.ofString "-") = true) : badC x = true := by unfold badC; rw [h, Bool.or_true]
theorem badC_3 {x : Str} (h1 : (Builtin.Str.occurrences x (Str.ofString "--") 0 x.length 1).isEmpty = true) (h2 : (Txt.slice x (some (-1)) none == Str.ofString "-") = false) : badC x = false := by unfold badC within; rw [h1, h2]; rfl
theorem badI_1 {x : Str} (h : (Builtin.Str.occurrences x (Str.ofString "?>") 0 x.length 1).isEmpty = false) : badI x = true := by unfold badI within; rw [h]; rfl
theorem badI_2 {x : Str} (h : (Builtin.Str.occurrences x (Str.ofString "?>") 0 x.length 1).isEmpty = true) : badI x = false := by unfold badI within; rw [h]; rfl
def commentOf (x : Str) : Str := Str.ofString "<!--" ++ x ++ Str.ofString "-->"
def instrOf (t x : Str) : Str := Str.ofString "<?" ++ t ++ (if x = Str.ofString "" then Str.ofString "" else Str.ofString " " ++ x) ++ Str.ofString "?>"
set_option maxHeartbeats 1000000 in
theorem comment_tell {w : World} {x : Str} {t : Tok} (hx : x.length ≤ 1000) (R : List (Addr × Obj)) :
    TellR w 84 [.str x t] 4 R (fun news' r => badC x = false ∧ news' = R ∧ ∃ t', r = .str (commentOf x) t') (badC x = true) := by
  unfold TellR
  intro loose mean mg mb dp un gd cn cs a ccd cl outer A₀ base h₀ L m s Q E B F X N T hk hd hu ret bad
  obtain ⟨kind, nm, ig, ic, mr⟩ := cs
  obtain rfl : kind = .function := hk
  obtain ⟨sh, sg, sd, st, so⟩ := s
  refine wpAny_call ?_
  k_dflt k_enter
  rename Fr _ _ _ _ => F1
  refine (let A1 : Around := _; let m1 : Str → Option Value := _; let t1 : Nat := _; have F1 : Fr _ _ _ m1 := F1; (?_ : wpAny _ A1 _ _ _ (Shared.mk _ _ _ t1 _)))
  (repeat' (first | ((with_reducible show wpAny _ _ (call (Value.ref 51) _) _ _ _); k_dflt (refine' Tell.use (room := 3) ?zB ?zF ?zX ?zN ?zT ?zk ?zd ?zu (fault_tell _) (fun p hp => hp) ?_; (case zB => k_asm); (case zF => k_asm); (case zX => k_asm); (case zN => k_asm); (case zT => k_asm); (case zk => first | exact rfl | assumption); (case zd => k_room); (case zu => k_units)); intro r' nw' h' tk' F' N' hP'; obtain ⟨e9, t9, dx9, hn', hne', hr'⟩ := hP'; subst hn'; subst hr') | (k_here; (with_reducible show wpAny _ _ (binaryOp Operator.Add (Value.str _ _) (Value.str _ _)) _ _ _); (first | refine add_str (by walk_at "len") (by walk_at "len") (by rfl) ?_ | (refine add_str' ?zhz ?_; (case zhz => (simp only [PySem.Str.length_append]; (try kopn_lits); omega)))); intro _ _) | (k_unfold; (try dsimp only)) | walk1 | (dsimp only; walk1) | (leave1; (try dsimp only))))
  · refine go_on (Raise_flt rfl ?_)
    (repeat' (first | ((with_reducible show wpAny _ _ (call (Value.ref 51) _) _ _ _); k_dflt (refine' Tell.use (room := 3) ?zB ?zF ?zX ?zN ?zT ?zk ?zd ?zu (fault_tell _) (fun p hp => hp) ?_; (case zB => k_asm); (case zF => k_asm); (case zX => k_asm); (case zN => k_asm); (case zT => k_asm); (case zk => first | exact rfl | assumption); (case zd => k_room); (case zu => k_units)); intro r' nw' h' tk' F' N' hP'; obtain ⟨e9, t9, dx9, hn', hne', hr'⟩ := hP'; subst hn'; subst hr') | (k_here; (with_reducible show wpAny _ _ (binaryOp Operator.Add (Value.str _ _) (Value.str _ _)) _ _ _); (first | refine add_str (by walk_at "len") (by walk_at "len") (by rfl) ?_ | (refine add_str' ?zhz ?_; (case zhz => (simp only [PySem.Str.length_append]; (try kopn_lits); omega)))); intro _ _) | (k_unfold; (try dsimp only)) | walk1 | (dsimp only; walk1) | (leave1; (try dsimp only))))
    rename Fr _ _ _ _ => F9
    rename News _ _ _ ((_, _) :: R) => N9
    rename (Mine.K w.params).In _ => X9
    rename ∀ p ∈ R, p.1 ≠ _ => hne9
    refine ⟨_, 51, 35, _, _, rfl, fault_cls (X9.keeps F9.keep), (N9 _ List.mem_cons_self).1, ?_⟩
    (repeat' (first | ((with_reducible show wpAny _ _ (call (Value.ref 51) _) _ _ _); k_dflt (refine' Tell.use (room := 3) ?zB ?zF ?zX ?zN ?zT ?zk ?zd ?zu (fault_tell _) (fun p hp => hp) ?_; (case zB => k_asm); (case zF => k_asm); (case zX => k_asm); (case zN => k_asm); (case zT => k_asm); (case zk => first | exact rfl | assumption); (case zd => k_room); (case zu => k_units)); intro r' nw' h' tk' F' N' hP'; obtain ⟨e9, t9, dx9, hn', hne', hr'⟩ := hP'; subst hn'; subst hr') | (k_here; (with_reducible show wpAny _ _ (binaryOp Operator.Add (Value.str _ _) (Value.str _ _)) _ _ _); (first | refine add_str (by walk_at "len") (by walk_at "len") (by rfl) ?_ | (refine add_str' ?zhz ?_; (case zhz => (simp only [PySem.Str.length_append]; (try kopn_lits); omega)))); intro _ _) | (k_unfold; (try dsimp only)) | walk1 | (dsimp only; walk1) | (leave1; (try dsimp only))))
    refine go_on ?_
    rename Below _ _ _ _ => B9
    refine leave_flt B9 F9 N9 hne9 rfl rfl rfl rfl fun h' R' U' => ?_
    exact bad (badC_2 (by assumption)) _ _ _ _ (by assumption) U' R'
  · exact ret _ _ _ _ (by assumption) (by assumption) ⟨badC_3 (by assumption) (by assumption), rfl, _, rfl⟩
  · refine go_on (Raise_flt rfl ?_)
    (repeat' (first | ((with_reducible show wpAny _ _ (call (Value.ref 51) _) _ _ _); k_dflt (refine' Tell.use (room := 3) ?zB ?zF ?zX ?zN ?zT ?zk ?zd ?zu (fault_tell _) (fun p hp => hp) ?_; (case zB => k_asm); (case zF => k_asm); (case zX => k_asm); (case zN => k_asm); (case zT => k_asm); (case zk => first | exact rfl | assumption); (case zd => k_room); (case zu => k_units)); intro r' nw' h' tk' F' N' hP'; obtain ⟨e9, t9, dx9, hn', hne', hr'⟩ := hP'; subst hn'; subst hr') | (k_here; (with_reducible show wpAny _ _ (binaryOp Operator.Add (Value.str _ _) (Value.str _ _)) _ _ _); (first | refine add_str (by walk_at "len") (by walk_at "len") (by rfl) ?_ | (refine add_str' ?zhz ?_; (case zhz => (simp only [PySem.Str.length_append]; (try kopn_lits); omega)))); intro _ _) | (k_unfold; (try dsimp only)) | walk1 | (dsimp only; walk1) | (leave1; (try dsimp only))))
    rename Fr _ _ _ _ => F9
    rename News _ _ _ ((_, _) :: R) => N9
    rename (Mine.K w.params).In _ => X9
    rename ∀ p ∈ R, p.1 ≠ _ => hne9
    refine ⟨_, 51, 35, _, _, rfl, fault_cls (X9.keeps F9.keep), (N9 _ List.mem_cons_self).1, ?_⟩
    (repeat' (first | ((with_reducible show wpAny _ _ (call (Value.ref 51) _) _ _ _); k_dflt (refine' Tell.use (room := 3) ?zB ?zF ?zX ?zN ?zT ?zk ?zd ?zu (fault_tell _) (fun p hp => hp) ?_; (case zB => k_asm); (case zF => k_asm); (case zX => k_asm); (case zN => k_asm); (case zT => k_asm); (case zk => first | exact rfl | assumption); (case zd => k_room); (case zu => k_units)); intro r' nw' h' tk' F' N' hP'; obtain ⟨e9, t9, dx9, hn', hne', hr'⟩ := hP'; subst hn'; subst hr') | (k_here; (with_reducible show wpAny _ _ (binaryOp Operator.Add (Value.str _ _) (Value.str _ _)) _ _ _); (first | refine add_str (by walk_at "len") (by walk_at "len") (by rfl) ?_ | (refine add_str' ?zhz ?_; (case zhz => (simp only [PySem.Str.length_append]; (try kopn_lits); omega)))); intro _ _) | (k_unfold; (try dsimp only)) | walk1 | (dsimp only; walk1) | (leave1; (try dsimp only))))
    refine go_on ?_
    rename Below _ _ _ _ => B9
    refine leave_flt B9 F9 N9 hne9 rfl rfl rfl rfl fun h' R' U' => ?_
    exact bad (badC_1 (by assumption)) _ _ _ _ (by assumption) U' R'
theorem instr_1 {t x : Str} (h : (x != Str.ofString "") = true) : Str.ofString "<?" ++ t ++ (Str.ofString " " ++ x) ++ Str.ofString "?>" = instrOf t x := by unfold instrOf; rw [if_neg (by simpa using h)]
theorem instr_2 {t x : Str} (h : (x != Str.ofString "") = false) : Str.ofString "<?" ++ t ++ Str.ofString "" ++ Str.ofString "?>" = instrOf t x := by unfold instrOf; rw [if_pos (by simpa using h)]
set_option maxHeartbeats 1000000 in
theorem instr_tell {w : World} {ta x : Str} {tt t : Tok} (hx : x.length ≤ 1000) (ht : ta.length ≤ 1000) (R : List (Addr × Obj)) :
    TellR w 91 [.str ta tt, .str x t] 4 R (fun news' r => badI x = false ∧ news' = R ∧ ∃ t', r = .str (instrOf ta x) t') (badI x = true) := by
  unfold TellR
  intro loose mean mg mb dp un gd cn cs a ccd cl outer A₀ base h₀ L m s Q E B F X N T hk hd hu ret bad
  obtain ⟨kind, nm, ig, ic, mr⟩ := cs
  obtain rfl : kind = .function := hk
  obtain ⟨sh, sg, sd, st, so⟩ := s
  refine wpAny_call ?_
  k_dflt k_enter
  rename Fr _ _ _ _ => F1
  refine (let A1 : Around := _; let m1 : Str → Option Value := _; let t1 : Nat := _; have F1 : Fr _ _ _ m1 := F1; (?_ : wpAny _ A1 _ _ _ (Shared.mk _ _ _ t1 _)))
  (repeat' (first | ((with_reducible show wpAny _ _ (call (Value.ref 51) _) _ _ _); k_dflt (refine' Tell.use (room := 3) ?zB ?zF ?zX ?zN ?zT ?zk ?zd ?zu (fault_tell _) (fun p hp => hp) ?_; (case zB => k_asm); (case zF => k_asm); (case zX => k_asm); (case zN => k_asm); (case zT => k_asm); (case zk => first | exact rfl | assumption); (case zd => k_room); (case zu => k_units)); intro r' nw' h' tk' F' N' hP'; obtain ⟨e9, t9, dx9, hn', hne', hr'⟩ := hP'; subst hn'; subst hr') | (k_here; (with_reducible show wpAny _ _ (binaryOp Operator.Add (Value.str _ _) (Value.str _ _)) _ _ _); (first | refine add_str (by walk_at "len") (by walk_at "len") (by rfl) ?_ | (refine add_str' ?zhz ?_; (case zhz => (simp only [PySem.Str.length_append]; (try kopn_lits); omega)))); intro _ _) | (k_unfold; (try dsimp only)) | walk1 | (dsimp only; walk1) | (leave1; (try dsimp only))))
  · exact ret _ _ _ _ (by assumption) (by assumption) ⟨badI_2 (by assumption), rfl, _, congrArg (fun z => Value.str z _) (instr_1 (by assumption))⟩
  · exact ret _ _ _ _ (by assumption) (by assumption) ⟨badI_2 (by assumption), rfl, _, congrArg (fun z => Value.str z _) (instr_2 (by assumption))⟩
  · refine go_on (Raise_flt rfl ?_)
    (repeat' (first | ((with_reducible show wpAny _ _ (call (Value.ref 51) _) _ _ _); k_dflt (refine' Tell.use (room := 3) ?zB ?zF ?zX ?zN ?zT ?zk ?zd ?zu (fault_tell _) (fun p hp => hp) ?_; (case zB => k_asm); (case zF => k_asm); (case zX => k_asm); (case zN => k_asm); (case zT => k_asm); (case zk => first | exact rfl | assumption); (case zd => k_room); (case zu => k_units)); intro r' nw' h' tk' F' N' hP'; obtain ⟨e9, t9, dx9, hn', hne', hr'⟩ := hP'; subst hn'; subst hr') | (k_here; (with_reducible show wpAny _ _ (binaryOp Operator.Add (Value.str _ _) (Value.str _ _)) _ _ _); (first | refine add_str (by walk_at "len") (by walk_at "len") (by rfl) ?_ | (refine add_str' ?zhz ?_; (case zhz => (simp only [PySem.Str.length_append]; (try kopn_lits); omega)))); intro _ _) | (k_unfold; (try dsimp only)) | walk1 | (dsimp only; walk1) | (leave1; (try dsimp only))))
    rename Fr _ _ _ _ => F9
    rename News _ _ _ ((_, _) :: R) => N9
    rename (Mine.K w.params).In _ => X9
    rename ∀ p ∈ R, p.1 ≠ _ => hne9
    refine ⟨_, 51, 35, _, _, rfl, fault_cls (X9.keeps F9.keep), (N9 _ List.mem_cons_self).1, ?_⟩
    (repeat' (first | ((with_reducible show wpAny _ _ (call (Value.ref 51) _) _ _ _); k_dflt (refine' Tell.use (room := 3) ?zB ?zF ?zX ?zN ?zT ?zk ?zd ?zu (fault_tell _) (fun p hp => hp) ?_; (case zB => k_asm); (case zF => k_asm); (case zX => k_asm); (case zN => k_asm); (case zT => k_asm); (case zk => first | exact rfl | assumption); (case zd => k_room); (case zu => k_units)); intro r' nw' h' tk' F' N' hP'; obtain ⟨e9, t9, dx9, hn', hne', hr'⟩ := hP'; subst hn'; subst hr') | (k_here; (with_reducible show wpAny _ _ (binaryOp Operator.Add (Value.str _ _) (Value.str _ _)) _ _ _); (first | refine add_str (by walk_at "len") (by walk_at "len") (by rfl) ?_ | (refine add_str' ?zhz ?_; (case zhz => (simp only [PySem.Str.length_append]; (try kopn_lits); omega)))); intro _ _) | (k_unfold; (try dsimp only)) | walk1 | (dsimp only; walk1) | (leave1; (try dsimp only))))
    refine go_on ?_
    rename Below _ _ _ _ => B9
    refine leave_flt B9 F9 N9 hne9 rfl rfl rfl rfl fun h' R' U' => ?_
    exact bad (badI_1 (by assumption)) _ _ _ _ (by assumption) U' R'
section
variable {w : World} {f : Addr} {args : List Value} {room : Nat} {news : List (Addr × Obj)} {Ret : List (Addr × Obj) → Value → Prop} {Bad : Prop} {loose : List Str} {mean : ExcName → Option Value} {mg mb : Str → Option Value} {dp un : Nat} {gd : Option (List Code)} {cn : Str} {cs : Scope} {a : Addr} {ccd : Value} {cl : List (Str × Addr)} {outer : List Env} {A₀ : Around} {base h₀ : Heap} {L : Addr} {m : Str → Option Value} {s : Shared} {Q E : Value → Shared → Prop}
theorem TellR.use (B : Below A₀ base outer h₀) (F : Fr h₀ L s.heap m) (X : (Mine.K w.params).In h₀) (N : News h₀ L s.heap news) (T : Top topProg loose mean mg mb h₀) (hk : cs.kind = .function) (hd : dp + room < recursionLimit) (hu : un + 40 * room < cLine)
    (C : TellR w f args room news Ret Bad)
    (ret : ∀ r news' h' tk', Fr h₀ L h' m → News h₀ L h' news' → Ret news' r → Q r { s with heap := h', toks := tk' })
    (bad : Bad → ∀ e g₂ h' tk', Fr h₀ L g₂ m → g₂.UpToSlots h' → RaisedN base (envX cn cs L a ccd cl :: outer) e (.ref 51) news h' → E (.ref e) { s with heap := h', toks := tk' }) :
    wpAny (model PySem.Challenge.rw_xw0213_01.row.prog w) (ktrTop dp un gd cn cs L a ccd cl outer) (call (.ref f) args) Q E s :=
  C _ _ _ _ _ _ _ _ _ _ _ _ _ _ _ _ _ _ _ _ _ B F X N T hk hd hu ret bad
end
noncomputable def leafOf (d : NodeD) : Option Str := if d.kind = Str.ofString "text" then some (tmap escT d.val) else if d.kind = Str.ofString "comment" then (if badC d.val = true then none else some (commentOf d.val))
  else if d.kind = Str.ofString "instruction" then (if badI d.val = true then none else some (instrOf d.name d.val)) else none
theorem leaf_1 {d : NodeD} (h : (d.kind == Str.ofString "text") = true) : leafOf d = some (tmap escT d.val) := by unfold leafOf; rw [if_pos (by simpa using h)]
theorem leaf_2 {d : NodeD} (h : (d.kind == Str.ofString "text") = false) (h2 : (d.kind == Str.ofString "comment") = true) : leafOf d = if badC d.val = true then none else some (commentOf d.val) := by unfold leafOf; rw [if_neg (by simpa using h), if_pos (by simpa using h2)]
theorem leaf_3 {d : NodeD} (h : (d.kind == Str.ofString "text") = false) (h2 : (d.kind == Str.ofString "comment") = false) (h3 : (d.kind == Str.ofString "instruction") = true) : leafOf d = if badI d.val = true then none else some (instrOf d.name d.val) := by unfold leafOf; rw [if_neg (by simpa using h), if_neg (by simpa using h2), if_pos (by simpa using h3)]
theorem leaf_4 {d : NodeD} (h : (d.kind == Str.ofString "text") = false) (h2 : (d.kind == Str.ofString "comment") = false) (h3 : (d.kind == Str.ofString "instruction") = false) : leafOf d = none := by unfold leafOf; rw [if_neg (by simpa using h), if_neg (by simpa using h2), if_neg (by simpa using h3)]
set_option maxHeartbeats 1000000 in
theorem plain_tell {w : World} {t l a : Addr} {i : Int} {tk : Tok} {rows : List Value} {k : Nat} {d : NodeD} (R : List (Addr × Obj)) (hT : TreeAt R t l) (hl : (l, listOf rows.toArray k) ∈ R) (h0 : 0 ≤ i) (hz : rows.length ≤ 100000) (hi : rows[i.toNat]? = some (.ref a)) (hN : NodeAt R a d)
    (hv : d.val.length ≤ 1000) (hn : d.name.length ≤ 1000) :
    TellR w 98 [.ref t, .int i tk] 6 R (fun news' r => news' = R ∧ ∃ x t', leafOf d = some x ∧ r = .str x t') (leafOf d = none) := by
  have hT0 := hT
  have hN0 := hN
  obtain ⟨td, hh, htk, hT1, hT2⟩ := hT
  unfold TellR
  intro loose mean mg mb dp un gd cn cs a ccd cl outer A₀ base h₀ L m s Q E B F X N T hk hd hu ret bad
  obtain ⟨kind, nm, ig, ic, mr⟩ := cs
  obtain rfl : kind = .function := hk
  obtain ⟨sh, sg, sd, st, so⟩ := s
  refine wpAny_call ?_
  k_dflt k_enter
  rename Fr _ _ _ _ => F1
  refine (let A1 : Around := _; let m1 : Str → Option Value := _; let t1 : Nat := _; have F1 : Fr _ _ _ m1 := F1; (?_ : wpAny _ A1 _ _ _ (Shared.mk _ _ _ t1 _)))
  (repeat' (first | ((with_reducible show wpAny _ _ (call (Value.ref 91) _) _ _ _); refine stop_at ?_) | ((with_reducible show wpAny _ _ (call (Value.ref 84) _) _ _ _); refine stop_at ?_) | ((with_reducible show wpAny _ _ (call (Value.ref 72) _) _ _ _); k_dflt (refine' Tell.useV (room := 2) ?zB ?zF ?zX ?zN ?zT ?zk ?zd ?zu (escapedT_tell ?zhx _) ?_; (case zB => k_asm); (case zF => k_asm); (case zX => k_asm); (case zN => k_asm); (case zT => k_asm); (case zk => first | exact rfl | assumption); (case zd => k_room); (case zu => k_units); (case zhx => first | assumption | omega)); intro t' h' tk' F' N') | ((with_reducible show wpAny _ _ (call (Value.ref 260) _) _ _ _); k_dflt (refine' Tell.useV (room := 2) ?zB ?zF ?zX ?zN ?zT ?zk ?zd ?zu (value_tell _ ?zhT ?zhl ?zh0 ?zhz ?zhi ?zhN) ?_; (case zB => k_asm); (case zF => k_asm); (case zX => k_asm); (case zN => k_asm); (case zT => k_asm); (case zk => first | exact rfl | assumption); (case zd => k_room); (case zu => k_units); (case zhT => exact TreeAt.mono (by assumption) (fun p hp => by k_mem)); (case zhl => k_mem); (case zh0 => omega); (case zhz => omega); (case zhi => first | assumption | exact rfl); (case zhN => exact NodeAt.mono (by assumption) (fun p hp => by k_mem))); intro t' h' tk' F' N') | ((with_reducible show wpAny _ _ (call (Value.ref 239) _) _ _ _); k_dflt (refine' Tell.useV (room := 2) ?zB ?zF ?zX ?zN ?zT ?zk ?zd ?zu (name_tell _ ?zhT ?zhl ?zh0 ?zhz ?zhi ?zhN) ?_; (case zB => k_asm); (case zF => k_asm); (case zX => k_asm); (case zN => k_asm); (case zT => k_asm); (case zk => first | exact rfl | assumption); (case zd => k_room); (case zu => k_units); (case zhT => exact TreeAt.mono (by assumption) (fun p hp => by k_mem)); (case zhl => k_mem); (case zh0 => omega); (case zhz => omega); (case zhi => first | assumption | exact rfl); (case zhN => exact NodeAt.mono (by assumption) (fun p hp => by k_mem))); intro t' h' tk' F' N') | ((with_reducible show wpAny _ _ (call (Value.ref 232) _) _ _ _); k_dflt (refine' Tell.useV (room := 2) ?zB ?zF ?zX ?zN ?zT ?zk ?zd ?zu (kind_tell _ ?zhT ?zhl ?zh0 ?zhz ?zhi ?zhN) ?_; (case zB => k_asm); (case zF => k_asm); (case zX => k_asm); (case zN => k_asm); (case zT => k_asm); (case zk => first | exact rfl | assumption); (case zd => k_room); (case zu => k_units); (case zhT => exact TreeAt.mono (by assumption) (fun p hp => by k_mem)); (case zhl => k_mem); (case zh0 => omega); (case zhz => omega); (case zhi => first | assumption | exact rfl); (case zhN => exact NodeAt.mono (by assumption) (fun p hp => by k_mem))); intro t' h' tk' F' N') | ((with_reducible show wpAny _ _ (call (Value.ref 51) _) _ _ _); k_dflt (refine' Tell.use (room := 3) ?zB ?zF ?zX ?zN ?zT ?zk ?zd ?zu (fault_tell _) (fun p hp => hp) ?_; (case zB => k_asm); (case zF => k_asm); (case zX => k_asm); (case zN => k_asm); (case zT => k_asm); (case zk => first | exact rfl | assumption); (case zd => k_room); (case zu => k_units)); intro r' nw' h' tk' F' N' hP'; obtain ⟨e9, t9, dx9, hn', hne', hr'⟩ := hP'; subst hn'; subst hr') | (k_here; (with_reducible show wpAny _ _ (binaryOp Operator.Add (Value.str _ _) (Value.str _ _)) _ _ _); (first | refine add_str (by walk_at "len") (by walk_at "len") (by rfl) ?_ | (refine add_str' ?zhz ?_; (case zhz => (simp only [PySem.Str.length_append]; (try kopn_lits); omega)))); intro _ _) | (k_unfold; (try dsimp only)) | walk1 | (dsimp only; walk1) | (leave1; (try dsimp only))))
  · exact ret _ _ _ _ (by assumption) (by assumption) ⟨rfl, _, _, leaf_1 (by assumption), rfl⟩
  · refine go_on ?_
    rename Fr _ _ _ _ => F9
    rename News _ _ _ _ => N9
    rename Below _ _ _ _ => B9
    rename (Mine.K w.params).In _ => X9
    rename Top _ _ _ _ _ _ => T9
    refine' TellR.use (room := 4) B9 F9 X9 N9 T9 rfl ?d ?u (comment_tell hv _) ?_ ?_
    case d => ktr_room
    case u => ktr_units
    · rintro r' nw' h' tk' F' N' ⟨hb, rfl, t', rfl⟩
      (repeat' (first | ((with_reducible show wpAny _ _ (call (Value.ref 91) _) _ _ _); refine stop_at ?_) | ((with_reducible show wpAny _ _ (call (Value.ref 84) _) _ _ _); refine stop_at ?_) | ((with_reducible show wpAny _ _ (call (Value.ref 72) _) _ _ _); k_dflt (refine' Tell.useV (room := 2) ?zB ?zF ?zX ?zN ?zT ?zk ?zd ?zu (escapedT_tell ?zhx _) ?_; (case zB => k_asm); (case zF => k_asm); (case zX => k_asm); (case zN => k_asm); (case zT => k_asm); (case zk => first | exact rfl | assumption); (case zd => k_room); (case zu => k_units); (case zhx => first | assumption | omega)); intro t' h' tk' F' N') | ((with_reducible show wpAny _ _ (call (Value.ref 260) _) _ _ _); k_dflt (refine' Tell.useV (room := 2) ?zB ?zF ?zX ?zN ?zT ?zk ?zd ?zu (value_tell _ ?zhT ?zhl ?zh0 ?zhz ?zhi ?zhN) ?_; (case zB => k_asm); (case zF => k_asm); (case zX => k_asm); (case zN => k_asm); (case zT => k_asm); (case zk => first | exact rfl | assumption); (case zd => k_room); (case zu => k_units); (case zhT => exact TreeAt.mono (by assumption) (fun p hp => by k_mem)); (case zhl => k_mem); (case zh0 => omega); (case zhz => omega); (case zhi => first | assumption | exact rfl); (case zhN => exact NodeAt.mono (by assumption) (fun p hp => by k_mem))); intro t' h' tk' F' N') | ((with_reducible show wpAny _ _ (call (Value.ref 239) _) _ _ _); k_dflt (refine' Tell.useV (room := 2) ?zB ?zF ?zX ?zN ?zT ?zk ?zd ?zu (name_tell _ ?zhT ?zhl ?zh0 ?zhz ?zhi ?zhN) ?_; (case zB => k_asm); (case zF => k_asm); (case zX => k_asm); (case zN => k_asm); (case zT => k_asm); (case zk => first | exact rfl | assumption); (case zd => k_room); (case zu => k_units); (case zhT => exact TreeAt.mono (by assumption) (fun p hp => by k_mem)); (case zhl => k_mem); (case zh0 => omega); (case zhz => omega); (case zhi => first | assumption | exact rfl); (case zhN => exact NodeAt.mono (by assumption) (fun p hp => by k_mem))); intro t' h' tk' F' N') | ((with_reducible show wpAny _ _ (call (Value.ref 232) _) _ _ _); k_dflt (refine' Tell.useV (room := 2) ?zB ?zF ?zX ?zN ?zT ?zk ?zd ?zu (kind_tell _ ?zhT ?zhl ?zh0 ?zhz ?zhi ?zhN) ?_; (case zB => k_asm); (case zF => k_asm); (case zX => k_asm); (case zN => k_asm); (case zT => k_asm); (case zk => first | exact rfl | assumption); (case zd => k_room); (case zu => k_units); (case zhT => exact TreeAt.mono (by assumption) (fun p hp => by k_mem)); (case zhl => k_mem); (case zh0 => omega); (case zhz => omega); (case zhi => first | assumption | exact rfl); (case zhN => exact NodeAt.mono (by assumption) (fun p hp => by k_mem))); intro t' h' tk' F' N') | ((with_reducible show wpAny _ _ (call (Value.ref 51) _) _ _ _); k_dflt (refine' Tell.use (room := 3) ?zB ?zF ?zX ?zN ?zT ?zk ?zd ?zu (fault_tell _) (fun p hp => hp) ?_; (case zB => k_asm); (case zF => k_asm); (case zX => k_asm); (case zN => k_asm); (case zT => k_asm); (case zk => first | exact rfl | assumption); (case zd => k_room); (case zu => k_units)); intro r' nw' h' tk' F' N' hP'; obtain ⟨e9, t9, dx9, hn', hne', hr'⟩ := hP'; subst hn'; subst hr') | (k_here; (with_reducible show wpAny _ _ (binaryOp Operator.Add (Value.str _ _) (Value.str _ _)) _ _ _); (first | refine add_str (by walk_at "len") (by walk_at "len") (by rfl) ?_ | (refine add_str' ?zhz ?_; (case zhz => (simp only [PySem.Str.length_append]; (try kopn_lits); omega)))); intro _ _) | (k_unfold; (try dsimp only)) | walk1 | (dsimp only; walk1) | (leave1; (try dsimp only))))
      exact ret _ _ _ _ (by assumption) (by assumption) ⟨rfl, _, _, by rw [leaf_2 (by assumption) (by assumption), if_neg (by rw [hb]; decide)], rfl⟩
    · intro hb e9 g9 h9 tk9 F2 U2 R2
      clear F9 N9
      (repeat' (first | ((with_reducible show wpAny _ _ (call (Value.ref 91) _) _ _ _); refine stop_at ?_) | ((with_reducible show wpAny _ _ (call (Value.ref 84) _) _ _ _); refine stop_at ?_) | ((with_reducible show wpAny _ _ (call (Value.ref 72) _) _ _ _); k_dflt (refine' Tell.useV (room := 2) ?zB ?zF ?zX ?zN ?zT ?zk ?zd ?zu (escapedT_tell ?zhx _) ?_; (case zB => k_asm); (case zF => k_asm); (case zX => k_asm); (case zN => k_asm); (case zT => k_asm); (case zk => first | exact rfl | assumption); (case zd => k_room); (case zu => k_units); (case zhx => first | assumption | omega)); intro t' h' tk' F' N') | ((with_reducible show wpAny _ _ (call (Value.ref 260) _) _ _ _); k_dflt (refine' Tell.useV (room := 2) ?zB ?zF ?zX ?zN ?zT ?zk ?zd ?zu (value_tell _ ?zhT ?zhl ?zh0 ?zhz ?zhi ?zhN) ?_; (case zB => k_asm); (case zF => k_asm); (case zX => k_asm); (case zN => k_asm); (case zT => k_asm); (case zk => first | exact rfl | assumption); (case zd => k_room); (case zu => k_units); (case zhT => exact TreeAt.mono (by assumption) (fun p hp => by k_mem)); (case zhl => k_mem); (case zh0 => omega); (case zhz => omega); (case zhi => first | assumption | exact rfl); (case zhN => exact NodeAt.mono (by assumption) (fun p hp => by k_mem))); intro t' h' tk' F' N') | ((with_reducible show wpAny _ _ (call (Value.ref 239) _) _ _ _); k_dflt (refine' Tell.useV (room := 2) ?zB ?zF ?zX ?zN ?zT ?zk ?zd ?zu (name_tell _ ?zhT ?zhl ?zh0 ?zhz ?zhi ?zhN) ?_; (case zB => k_asm); (case zF => k_asm); (case zX => k_asm); (case zN => k_asm); (case zT => k_asm); (case zk => first | exact rfl | assumption); (case zd => k_room); (case zu => k_units); (case zhT => exact TreeAt.mono (by assumption) (fun p hp => by k_mem)); (case zhl => k_mem); (case zh0 => omega); (case zhz => omega); (case zhi => first | assumption | exact rfl); (case zhN => exact NodeAt.mono (by assumption) (fun p hp => by k_mem))); intro t' h' tk' F' N') | ((with_reducible show wpAny _ _ (call (Value.ref 232) _) _ _ _); k_dflt (refine' Tell.useV (room := 2) ?zB ?zF ?zX ?zN ?zT ?zk ?zd ?zu (kind_tell _ ?zhT ?zhl ?zh0 ?zhz ?zhi ?zhN) ?_; (case zB => k_asm); (case zF => k_asm); (case zX => k_asm); (case zN => k_asm); (case zT => k_asm); (case zk => first | exact rfl | assumption); (case zd => k_room); (case zu => k_units); (case zhT => exact TreeAt.mono (by assumption) (fun p hp => by k_mem)); (case zhl => k_mem); (case zh0 => omega); (case zhz => omega); (case zhi => first | assumption | exact rfl); (case zhN => exact NodeAt.mono (by assumption) (fun p hp => by k_mem))); intro t' h' tk' F' N') | ((with_reducible show wpAny _ _ (call (Value.ref 51) _) _ _ _); k_dflt (refine' Tell.use (room := 3) ?zB ?zF ?zX ?zN ?zT ?zk ?zd ?zu (fault_tell _) (fun p hp => hp) ?_; (case zB => k_asm); (case zF => k_asm); (case zX => k_asm); (case zN => k_asm); (case zT => k_asm); (case zk => first | exact rfl | assumption); (case zd => k_room); (case zu => k_units)); intro r' nw' h' tk' F' N' hP'; obtain ⟨e9, t9, dx9, hn', hne', hr'⟩ := hP'; subst hn'; subst hr') | (k_here; (with_reducible show wpAny _ _ (binaryOp Operator.Add (Value.str _ _) (Value.str _ _)) _ _ _); (first | refine add_str (by walk_at "len") (by walk_at "len") (by rfl) ?_ | (refine add_str' ?zhz ?_; (case zhz => (simp only [PySem.Str.length_append]; (try kopn_lits); omega)))); intro _ _) | (k_unfold; (try dsimp only)) | walk1 | (dsimp only; walk1) | (leave1; (try dsimp only))))
      refine go_on ?_
      refine leave_onN B9 F2 R2 U2 fun h' R' U' => ?_
      exact bad (by rw [leaf_2 (by assumption) (by assumption), if_pos hb]) _ _ _ _ (by assumption) U' R'
  · refine go_on ?_
    rename Fr _ _ _ _ => F9
    rename News _ _ _ _ => N9
    rename Below _ _ _ _ => B9
    rename (Mine.K w.params).In _ => X9
    rename Top _ _ _ _ _ _ => T9
    refine' TellR.use (room := 4) B9 F9 X9 N9 T9 rfl ?d ?u (instr_tell hv hn _) ?_ ?_
    case d => ktr_room
    case u => ktr_units
    · rintro r' nw' h' tk' F' N' ⟨hb, rfl, t', rfl⟩
      (repeat' (first | ((with_reducible show wpAny _ _ (call (Value.ref 91) _) _ _ _); refine stop_at ?_) | ((with_reducible show wpAny _ _ (call (Value.ref 84) _) _ _ _); refine stop_at ?_) | ((with_reducible show wpAny _ _ (call (Value.ref 72) _) _ _ _); k_dflt (refine' Tell.useV (room := 2) ?zB ?zF ?zX ?zN ?zT ?zk ?zd ?zu (escapedT_tell ?zhx _) ?_; (case zB => k_asm); (case zF => k_asm); (case zX => k_asm); (case zN => k_asm); (case zT => k_asm); (case zk => first | exact rfl | assumption); (case zd => k_room); (case zu => k_units); (case zhx => first | assumption | omega)); intro t' h' tk' F' N') | ((with_reducible show wpAny _ _ (call (Value.ref 260) _) _ _ _); k_dflt (refine' Tell.useV (room := 2) ?zB ?zF ?zX ?zN ?zT ?zk ?zd ?zu (value_tell _ ?zhT ?zhl ?zh0 ?zhz ?zhi ?zhN) ?_; (case zB => k_asm); (case zF => k_asm); (case zX => k_asm); (case zN => k_asm); (case zT => k_asm); (case zk => first | exact rfl | assumption); (case zd => k_room); (case zu => k_units); (case zhT => exact TreeAt.mono (by assumption) (fun p hp => by k_mem)); (case zhl => k_mem); (case zh0 => omega); (case zhz => omega); (case zhi => first | assumption | exact rfl); (case zhN => exact NodeAt.mono (by assumption) (fun p hp => by k_mem))); intro t' h' tk' F' N') | ((with_reducible show wpAny _ _ (call (Value.ref 239) _) _ _ _); k_dflt (refine' Tell.useV (room := 2) ?zB ?zF ?zX ?zN ?zT ?zk ?zd ?zu (name_tell _ ?zhT ?zhl ?zh0 ?zhz ?zhi ?zhN) ?_; (case zB => k_asm); (case zF => k_asm); (case zX => k_asm); (case zN => k_asm); (case zT => k_asm); (case zk => first | exact rfl | assumption); (case zd => k_room); (case zu => k_units); (case zhT => exact TreeAt.mono (by assumption) (fun p hp => by k_mem)); (case zhl => k_mem); (case zh0 => omega); (case zhz => omega); (case zhi => first | assumption | exact rfl); (case zhN => exact NodeAt.mono (by assumption) (fun p hp => by k_mem))); intro t' h' tk' F' N') | ((with_reducible show wpAny _ _ (call (Value.ref 232) _) _ _ _); k_dflt (refine' Tell.useV (room := 2) ?zB ?zF ?zX ?zN ?zT ?zk ?zd ?zu (kind_tell _ ?zhT ?zhl ?zh0 ?zhz ?zhi ?zhN) ?_; (case zB => k_asm); (case zF => k_asm); (case zX => k_asm); (case zN => k_asm); (case zT => k_asm); (case zk => first | exact rfl | assumption); (case zd => k_room); (case zu => k_units); (case zhT => exact TreeAt.mono (by assumption) (fun p hp => by k_mem)); (case zhl => k_mem); (case zh0 => omega); (case zhz => omega); (case zhi => first | assumption | exact rfl); (case zhN => exact NodeAt.mono (by assumption) (fun p hp => by k_mem))); intro t' h' tk' F' N') | ((with_reducible show wpAny _ _ (call (Value.ref 51) _) _ _ _); k_dflt (refine' Tell.use (room := 3) ?zB ?zF ?zX ?zN ?zT ?zk ?zd ?zu (fault_tell _) (fun p hp => hp) ?_; (case zB => k_asm); (case zF => k_asm); (case zX => k_asm); (case zN => k_asm); (case zT => k_asm); (case zk => first | exact rfl | assumption); (case zd => k_room); (case zu => k_units)); intro r' nw' h' tk' F' N' hP'; obtain ⟨e9, t9, dx9, hn', hne', hr'⟩ := hP'; subst hn'; subst hr') | (k_here; (with_reducible show wpAny _ _ (binaryOp Operator.Add (Value.str _ _) (Value.str _ _)) _ _ _); (first | refine add_str (by walk_at "len") (by walk_at "len") (by rfl) ?_ | (refine add_str' ?zhz ?_; (case zhz => (simp only [PySem.Str.length_append]; (try kopn_lits); omega)))); intro _ _) | (k_unfold; (try dsimp only)) | walk1 | (dsimp only; walk1) | (leave1; (try dsimp only))))
      exact ret _ _ _ _ (by assumption) (by assumption) ⟨rfl, _, _, by rw [leaf_3 (by assumption) (by assumption) (by assumption), if_neg (by rw [hb]; decide)], rfl⟩
    · intro hb e9 g9 h9 tk9 F2 U2 R2
      clear F9 N9
      (repeat' (first | ((with_reducible show wpAny _ _ (call (Value.ref 91) _) _ _ _); refine stop_at ?_) | ((with_reducible show wpAny _ _ (call (Value.ref 84) _) _ _ _); refine stop_at ?_) | ((with_reducible show wpAny _ _ (call (Value.ref 72) _) _ _ _); k_dflt (refine' Tell.useV (room := 2) ?zB ?zF ?zX ?zN ?zT ?zk ?zd ?zu (escapedT_tell ?zhx _) ?_; (case zB => k_asm); (case zF => k_asm); (case zX => k_asm); (case zN => k_asm); (case zT => k_asm); (case zk => first | exact rfl | assumption); (case zd => k_room); (case zu => k_units); (case zhx => first | assumption | omega)); intro t' h' tk' F' N') | ((with_reducible show wpAny _ _ (call (Value.ref 260) _) _ _ _); k_dflt (refine' Tell.useV (room := 2) ?zB ?zF ?zX ?zN ?zT ?zk ?zd ?zu (value_tell _ ?zhT ?zhl ?zh0 ?zhz ?zhi ?zhN) ?_; (case zB => k_asm); (case zF => k_asm); (case zX => k_asm); (case zN => k_asm); (case zT => k_asm); (case zk => first | exact rfl | assumption); (case zd => k_room); (case zu => k_units); (case zhT => exact TreeAt.mono (by assumption) (fun p hp => by k_mem)); (case zhl => k_mem); (case zh0 => omega); (case zhz => omega); (case zhi => first | assumption | exact rfl); (case zhN => exact NodeAt.mono (by assumption) (fun p hp => by k_mem))); intro t' h' tk' F' N') | ((with_reducible show wpAny _ _ (call (Value.ref 239) _) _ _ _); k_dflt (refine' Tell.useV (room := 2) ?zB ?zF ?zX ?zN ?zT ?zk ?zd ?zu (name_tell _ ?zhT ?zhl ?zh0 ?zhz ?zhi ?zhN) ?_; (case zB => k_asm); (case zF => k_asm); (case zX => k_asm); (case zN => k_asm); (case zT => k_asm); (case zk => first | exact rfl | assumption); (case zd => k_room); (case zu => k_units); (case zhT => exact TreeAt.mono (by assumption) (fun p hp => by k_mem)); (case zhl => k_mem); (case zh0 => omega); (case zhz => omega); (case zhi => first | assumption | exact rfl); (case zhN => exact NodeAt.mono (by assumption) (fun p hp => by k_mem))); intro t' h' tk' F' N') | ((with_reducible show wpAny _ _ (call (Value.ref 232) _) _ _ _); k_dflt (refine' Tell.useV (room := 2) ?zB ?zF ?zX ?zN ?zT ?zk ?zd ?zu (kind_tell _ ?zhT ?zhl ?zh0 ?zhz ?zhi ?zhN) ?_; (case zB => k_asm); (case zF => k_asm); (case zX => k_asm); (case zN => k_asm); (case zT => k_asm); (case zk => first | exact rfl | assumption); (case zd => k_room); (case zu => k_units); (case zhT => exact TreeAt.mono (by assumption) (fun p hp => by k_mem)); (case zhl => k_mem); (case zh0 => omega); (case zhz => omega); (case zhi => first | assumption | exact rfl); (case zhN => exact NodeAt.mono (by assumption) (fun p hp => by k_mem))); intro t' h' tk' F' N') | ((with_reducible show wpAny _ _ (call (Value.ref 51) _) _ _ _); k_dflt (refine' Tell.use (room := 3) ?zB ?zF ?zX ?zN ?zT ?zk ?zd ?zu (fault_tell _) (fun p hp => hp) ?_; (case zB => k_asm); (case zF => k_asm); (case zX => k_asm); (case zN => k_asm); (case zT => k_asm); (case zk => first | exact rfl | assumption); (case zd => k_room); (case zu => k_units)); intro r' nw' h' tk' F' N' hP'; obtain ⟨e9, t9, dx9, hn', hne', hr'⟩ := hP'; subst hn'; subst hr') | (k_here; (with_reducible show wpAny _ _ (binaryOp Operator.Add (Value.str _ _) (Value.str _ _)) _ _ _); (first | refine add_str (by walk_at "len") (by walk_at "len") (by rfl) ?_ | (refine add_str' ?zhz ?_; (case zhz => (simp only [PySem.Str.length_append]; (try kopn_lits); omega)))); intro _ _) | (k_unfold; (try dsimp only)) | walk1 | (dsimp only; walk1) | (leave1; (try dsimp only))))
      refine go_on ?_
      refine leave_onN B9 F2 R2 U2 fun h' R' U' => ?_
      exact bad (by rw [leaf_3 (by assumption) (by assumption) (by assumption), if_pos hb]) _ _ _ _ (by assumption) U' R'
  · refine go_on (Raise_flt rfl ?_)
    (repeat' (first | ((with_reducible show wpAny _ _ (call (Value.ref 91) _) _ _ _); refine stop_at ?_) | ((with_reducible show wpAny _ _ (call (Value.ref 84) _) _ _ _); refine stop_at ?_) | ((with_reducible show wpAny _ _ (call (Value.ref 72) _) _ _ _); k_dflt (refine' Tell.useV (room := 2) ?zB ?zF ?zX ?zN ?zT ?zk ?zd ?zu (escapedT_tell ?zhx _) ?_; (case zB => k_asm); (case zF => k_asm); (case zX => k_asm); (case zN => k_asm); (case zT => k_asm); (case zk => first | exact rfl | assumption); (case zd => k_room); (case zu => k_units); (case zhx => first | assumption | omega)); intro t' h' tk' F' N') | ((with_reducible show wpAny _ _ (call (Value.ref 260) _) _ _ _); k_dflt (refine' Tell.useV (room := 2) ?zB ?zF ?zX ?zN ?zT ?zk ?zd ?zu (value_tell _ ?zhT ?zhl ?zh0 ?zhz ?zhi ?zhN) ?_; (case zB => k_asm); (case zF => k_asm); (case zX => k_asm); (case zN => k_asm); (case zT => k_asm); (case zk => first | exact rfl | assumption); (case zd => k_room); (case zu => k_units); (case zhT => exact TreeAt.mono (by assumption) (fun p hp => by k_mem)); (case zhl => k_mem); (case zh0 => omega); (case zhz => omega); (case zhi => first | assumption | exact rfl); (case zhN => exact NodeAt.mono (by assumption) (fun p hp => by k_mem))); intro t' h' tk' F' N') | ((with_reducible show wpAny _ _ (call (Value.ref 239) _) _ _ _); k_dflt (refine' Tell.useV (room := 2) ?zB ?zF ?zX ?zN ?zT ?zk ?zd ?zu (name_tell _ ?zhT ?zhl ?zh0 ?zhz ?zhi ?zhN) ?_; (case zB => k_asm); (case zF => k_asm); (case zX => k_asm); (case zN => k_asm); (case zT => k_asm); (case zk => first | exact rfl | assumption); (case zd => k_room); (case zu => k_units); (case zhT => exact TreeAt.mono (by assumption) (fun p hp => by k_mem)); (case zhl => k_mem); (case zh0 => omega); (case zhz => omega); (case zhi => first | assumption | exact rfl); (case zhN => exact NodeAt.mono (by assumption) (fun p hp => by k_mem))); intro t' h' tk' F' N') | ((with_reducible show wpAny _ _ (call (Value.ref 232) _) _ _ _); k_dflt (refine' Tell.useV (room := 2) ?zB ?zF ?zX ?zN ?zT ?zk ?zd ?zu (kind_tell _ ?zhT ?zhl ?zh0 ?zhz ?zhi ?zhN) ?_; (case zB => k_asm); (case zF => k_asm); (case zX => k_asm); (case zN => k_asm); (case zT => k_asm); (case zk => first | exact rfl | assumption); (case zd => k_room); (case zu => k_units); (case zhT => exact TreeAt.mono (by assumption) (fun p hp => by k_mem)); (case zhl => k_mem); (case zh0 => omega); (case zhz => omega); (case zhi => first | assumption | exact rfl); (case zhN => exact NodeAt.mono (by assumption) (fun p hp => by k_mem))); intro t' h' tk' F' N') | ((with_reducible show wpAny _ _ (call (Value.ref 51) _) _ _ _); k_dflt (refine' Tell.use (room := 3) ?zB ?zF ?zX ?zN ?zT ?zk ?zd ?zu (fault_tell _) (fun p hp => hp) ?_; (case zB => k_asm); (case zF => k_asm); (case zX => k_asm); (case zN => k_asm); (case zT => k_asm); (case zk => first | exact rfl | assumption); (case zd => k_room); (case zu => k_units)); intro r' nw' h' tk' F' N' hP'; obtain ⟨e9, t9, dx9, hn', hne', hr'⟩ := hP'; subst hn'; subst hr') | (k_here; (with_reducible show wpAny _ _ (binaryOp Operator.Add (Value.str _ _) (Value.str _ _)) _ _ _); (first | refine add_str (by walk_at "len") (by walk_at "len") (by rfl) ?_ | (refine add_str' ?zhz ?_; (case zhz => (simp only [PySem.Str.length_append]; (try kopn_lits); omega)))); intro _ _) | (k_unfold; (try dsimp only)) | walk1 | (dsimp only; walk1) | (leave1; (try dsimp only))))
    rename Fr _ _ _ _ => F9
    rename News _ _ _ ((_, _) :: R) => N9
    rename (Mine.K w.params).In _ => X9
    rename ∀ p ∈ R, p.1 ≠ _ => hne9
    refine ⟨_, 51, 35, _, _, rfl, fault_cls (X9.keeps F9.keep), (N9 _ List.mem_cons_self).1, ?_⟩
    (repeat' (first | ((with_reducible show wpAny _ _ (call (Value.ref 91) _) _ _ _); refine stop_at ?_) | ((with_reducible show wpAny _ _ (call (Value.ref 84) _) _ _ _); refine stop_at ?_) | ((with_reducible show wpAny _ _ (call (Value.ref 72) _) _ _ _); k_dflt (refine' Tell.useV (room := 2) ?zB ?zF ?zX ?zN ?zT ?zk ?zd ?zu (escapedT_tell ?zhx _) ?_; (case zB => k_asm); (case zF => k_asm); (case zX => k_asm); (case zN => k_asm); (case zT => k_asm); (case zk => first | exact rfl | assumption); (case zd => k_room); (case zu => k_units); (case zhx => first | assumption | omega)); intro t' h' tk' F' N') | ((with_reducible show wpAny _ _ (call (Value.ref 260) _) _ _ _); k_dflt (refine' Tell.useV (room := 2) ?zB ?zF ?zX ?zN ?zT ?zk ?zd ?zu (value_tell _ ?zhT ?zhl ?zh0 ?zhz ?zhi ?zhN) ?_; (case zB => k_asm); (case zF => k_asm); (case zX => k_asm); (case zN => k_asm); (case zT => k_asm); (case zk => first | exact rfl | assumption); (case zd => k_room); (case zu => k_units); (case zhT => exact TreeAt.mono (by assumption) (fun p hp => by k_mem)); (case zhl => k_mem); (case zh0 => omega); (case zhz => omega); (case zhi => first | assumption | exact rfl); (case zhN => exact NodeAt.mono (by assumption) (fun p hp => by k_mem))); intro t' h' tk' F' N') | ((with_reducible show wpAny _ _ (call (Value.ref 239) _) _ _ _); k_dflt (refine' Tell.useV (room := 2) ?zB ?zF ?zX ?zN ?zT ?zk ?zd ?zu (name_tell _ ?zhT ?zhl ?zh0 ?zhz ?zhi ?zhN) ?_; (case zB => k_asm); (case zF => k_asm); (case zX => k_asm); (case zN => k_asm); (case zT => k_asm); (case zk => first | exact rfl | assumption); (case zd => k_room); (case zu => k_units); (case zhT => exact TreeAt.mono (by assumption) (fun p hp => by k_mem)); (case zhl => k_mem); (case zh0 => omega); (case zhz => omega); (case zhi => first | assumption | exact rfl); (case zhN => exact NodeAt.mono (by assumption) (fun p hp => by k_mem))); intro t' h' tk' F' N') | ((with_reducible show wpAny _ _ (call (Value.ref 232) _) _ _ _); k_dflt (refine' Tell.useV (room := 2) ?zB ?zF ?zX ?zN ?zT ?zk ?zd ?zu (kind_tell _ ?zhT ?zhl ?zh0 ?zhz ?zhi ?zhN) ?_; (case zB => k_asm); (case zF => k_asm); (case zX => k_asm); (case zN => k_asm); (case zT => k_asm); (case zk => first | exact rfl | assumption); (case zd => k_room); (case zu => k_units); (case zhT => exact TreeAt.mono (by assumption) (fun p hp => by k_mem)); (case zhl => k_mem); (case zh0 => omega); (case zhz => omega); (case zhi => first | assumption | exact rfl); (case zhN => exact NodeAt.mono (by assumption) (fun p hp => by k_mem))); intro t' h' tk' F' N') | ((with_reducible show wpAny _ _ (call (Value.ref 51) _) _ _ _); k_dflt (refine' Tell.use (room := 3) ?zB ?zF ?zX ?zN ?zT ?zk ?zd ?zu (fault_tell _) (fun p hp => hp) ?_; (case zB => k_asm); (case zF => k_asm); (case zX => k_asm); (case zN => k_asm); (case zT => k_asm); (case zk => first | exact rfl | assumption); (case zd => k_room); (case zu => k_units)); intro r' nw' h' tk' F' N' hP'; obtain ⟨e9, t9, dx9, hn', hne', hr'⟩ := hP'; subst hn'; subst hr') | (k_here; (with_reducible show wpAny _ _ (binaryOp Operator.Add (Value.str _ _) (Value.str _ _)) _ _ _); (first | refine add_str (by walk_at "len") (by walk_at "len") (by rfl) ?_ | (refine add_str' ?zhz ?_; (case zhz => (simp only [PySem.Str.length_append]; (try kopn_lits); omega)))); intro _ _) | (k_unfold; (try dsimp only)) | walk1 | (dsimp only; walk1) | (leave1; (try dsimp only))))
    refine go_on ?_
    rename Below _ _ _ _ => B9
    refine leave_flt B9 F9 N9 hne9 rfl rfl rfl rfl fun h' R' U' => ?_
    exact bad (leaf_4 (by assumption) (by assumption) (by assumption)) _ _ _ _ (by assumption) U' R'
end

theorem reset_E5 (h : PySem.Heap) : PySem.W.GrownAll [] h := by
  w_top off
  walk1
section
open PySem PySem.W PyProof.Rows
set_option Elab.async false
set_option maxRecDepth 100000
set_option linter.unusedSimpArgs false
set_option hygiene false
local macro_rules | `(tactic| k_mem) => `(tactic| first | assumption | exact List.Mem.head _ | (refine' List.mem_cons_of_mem _ ?_; k_mem) | (refine' List.mem_append_left _ ?_; k_mem) | (refine' List.mem_append_right _ ?_; k_mem))
local macro_rules | `(tactic| walk_at "getAttr ref") => `(tactic| (k_here; k_dflt (refine' get_own ?zk1 ?zk2 ?zk3 ?zk4 ?zk5 ?zk6 ?zk7 ?zk8 ?zk9 ?_; (case zk1 => k_asm); (case zk2 => k_asm); (case zk3 => k_inst); (case zk4 => k_is); (case zk5 => k_is); (case zk6 => k_is); (case zk7 => k_is); (case zk8 => first | assumption | k_get); (case zk9 => k_handed); k_whole)))
local macro_rules | `(tactic| walk_at "len") => `(tactic| first | assumption | exact (by decide +kernel : PySem.Str.length _ ≤ 64) | exact len_app (by walk_at "len") (by walk_at "len"))
theorem fillKE5 : (fun (_ : Params → Frag) (_ : OpenLaw) => True) Mine.K PySem.Challenge.rw_xw0213_01 := by k_fill; trivial

/-- the word of refusal -/
def tupR (t : Tok) : Obj := { cls := .type "tuple", data := .seq #[.str (Str.ofString "refused") t] }
/-- a text, or the refusal as a new tuple -/
def SaidR (R : List (Addr × Obj)) (o : Option Str) (news' : List (Addr × Obj)) (r : Value) : Prop := match o with
  | some x => news' = R ∧ ∃ t, r = .str x t
  | none => ∃ T t, news' = (T, tupR t) :: R ∧ (∀ p ∈ R, p.1 < T) ∧ r = .ref T
theorem SaidR.text {R : List (Addr × Obj)} {o : Option Str} {x : Str} {t : Tok} (h : o = some x) : SaidR R o R (.str x t) := by subst h; exact ⟨rfl, t, rfl⟩
theorem SaidR.no {R : List (Addr × Obj)} {o : Option Str} {T : Addr} {t : Tok} (h : o = none) (hl : ∀ p ∈ R, p.1 < T) : SaidR R o ((T, tupR t) :: R) (.ref T) := by subst h; exact ⟨T, t, rfl, hl, rfl⟩
noncomputable def lawLeafOf (kd ta x : Str) : Option Str := if kd = Str.ofString "text" then some (tmap escT x) else if kd = Str.ofString "comment" then (if within (Str.ofString "--") (x ++ Str.ofString "-") = true then none else some (commentOf x))
  else (if badI x = true then none else some (instrOf ta x))
theorem ll_1 {kd ta x : Str} (h : (kd == Str.ofString "text") = true) : lawLeafOf kd ta x = some (tmap escT x) := by unfold lawLeafOf; rw [if_pos (by simpa using h)]
theorem ll_2 {kd ta x : Str} (h : (kd == Str.ofString "text") = false) (h2 : (kd == Str.ofString "comment") = true) : lawLeafOf kd ta x = if within (Str.ofString "--") (x ++ Str.ofString "-") = true then none else some (commentOf x) := by unfold lawLeafOf; rw [if_neg (by simpa using h), if_pos (by simpa using h2)]
theorem ll_3 {kd ta x : Str} (h : (kd == Str.ofString "text") = false) (h2 : (kd == Str.ofString "comment") = false) : lawLeafOf kd ta x = if badI x = true then none else some (instrOf ta x) := by unfold lawLeafOf; rw [if_neg (by simpa using h), if_neg (by simpa using h2)]
theorem within_t {x y : Str} (h : (Builtin.Str.occurrences x y 0 x.length 1).isEmpty = false) : within y x = true := by unfold within; rw [h]; rfl
theorem within_f {x y : Str} (h : (Builtin.Str.occurrences x y 0 x.length 1).isEmpty = true) : within y x = false := by unfold within; rw [h]; rfl
theorem leaf_b1 {t x : Str} (h : (x == Str.ofString "") = false) : Str.ofString "<?" ++ t ++ (Str.ofString " " ++ x) ++ Str.ofString "?>" = instrOf t x := by unfold instrOf; rw [if_neg (by simpa using h)]
theorem leaf_b2 {t x : Str} (h : (x == Str.ofString "") = true) : Str.ofString "<?" ++ t ++ Str.ofString "" ++ Str.ofString "?>" = instrOf t x := by unfold instrOf; rw [if_pos (by simpa using h)]
set_option maxHeartbeats 1000000 in
theorem lawLeaf_tell {w : World} {kd ta x : Str} {tk tt t : Tok} (hx : x.length ≤ 1000) (ht : ta.length ≤ 1000) (R : List (Addr × Obj)) :
    Tell w 373 [.str kd tk, .str ta tt, .str x t] 4 R (fun news' r => SaidR R (lawLeafOf kd ta x) news' r) := by
  refine Tell.intro fun loose mean mg mb dp un gd cn nm ig ic mr a ccd cl outer A₀ base h₀ L m sh sg sd st so Q E B F X N T hd hu ret => ?_
  refine wpAny_call ?_
  k_dflt k_enter
  rename Fr _ _ _ _ => F1
  refine (let A1 : Around := _; let m1 : Str → Option Value := _; let t1 : Nat := _; have F1 : Fr _ _ _ m1 := F1; (?_ : wpAny _ A1 _ _ _ (Shared.mk _ _ _ t1 _)))
  (repeat' (first | ((with_reducible show wpAny _ _ (call (Value.ref 349) _) _ _ _); refine stop_at ?_) | (k_here; (with_reducible show wpAny _ _ (binaryOp Operator.Add (Value.str _ _) (Value.str _ _)) _ _ _); (first | refine add_str (by walk_at "len") (by walk_at "len") (by rfl) ?_ | (refine add_str' ?zhz ?_; (case zhz => (simp only [PySem.Str.length_append]; (try kopn_lits); omega)))); intro _ _) | (k_unfold; (try dsimp only)) | walk1 | (dsimp only; walk1) | (leave1; (try dsimp only))))
  · refine go_on ?_
    k_dflt (refine' Tell.use (room := 1) ?B ?F ?X ?N ?T ?k ?d ?u (byTable_tell escT ?x _ ?m ?lo ?ho ?hf lookT escT_len) (fun p hp => hp) ?_; (case B => k_asm); (case F => k_asm); (case X => k_asm); (case N => k_asm); (case T => k_asm); (case k => first | exact rfl | assumption); (case d => ktr_room); (case u => ktr_units); (case m => k_mem); (case lo => assumption); (case ho => assumption); (case hf => assumption); (case x => omega))
    rintro r' news' h' tk' F' N' ⟨rfl, t', rfl⟩
    have hb := tmap_len escT_len x
    (repeat' (first | ((with_reducible show wpAny _ _ (call (Value.ref 349) _) _ _ _); refine stop_at ?_) | (k_here; (with_reducible show wpAny _ _ (binaryOp Operator.Add (Value.str _ _) (Value.str _ _)) _ _ _); (first | refine add_str (by walk_at "len") (by walk_at "len") (by rfl) ?_ | (refine add_str' ?zhz ?_; (case zhz => (simp only [PySem.Str.length_append]; (try kopn_lits); omega)))); intro _ _) | (k_unfold; (try dsimp only)) | walk1 | (dsimp only; walk1) | (leave1; (try dsimp only))))
    exact ret _ _ _ _ (by assumption) (news_sub (by assumption) (by kcf_all)) (SaidR.text (ll_1 (by assumption)))
  · exact ret _ _ _ _ (by assumption) (by assumption) (SaidR.text (by rw [ll_2 (by assumption) (by assumption), if_neg (by rw [within_f (by assumption)]; decide)]; rfl))
  · exact ret _ _ _ _ (by assumption) (by assumption) (SaidR.no (by rw [ll_2 (by assumption) (by assumption), if_pos (within_t (by assumption))]) (by with_reducible assumption))
  · exact ret _ _ _ _ (by assumption) (by assumption) (SaidR.text (by rw [ll_3 (by assumption) (by assumption), if_neg (by rw [badI_2 (by assumption)]; decide), leaf_b2 (by assumption)]))
  · exact ret _ _ _ _ (by assumption) (by assumption) (SaidR.text (by rw [ll_3 (by assumption) (by assumption), if_neg (by rw [badI_2 (by assumption)]; decide), leaf_b1 (by assumption)]))
  · exact ret _ _ _ _ (by assumption) (by assumption) (SaidR.no (by rw [ll_3 (by assumption) (by assumption), if_pos (badI_1 (by assumption))]) (by with_reducible assumption))
end

theorem reset_PL (h : PySem.Heap) : PySem.W.GrownAll [] h := by
  w_top off
  walk1
section
open PySem PySem.W PyProof.Rows
set_option Elab.async false
set_option maxRecDepth 100000
theorem idx_last (m : Nat) : Builtin.Str.strSliceIndices (some (-1)) none 1 (m + 1) = [m] := by
  unfold Builtin.Str.strSliceIndices sliceRange
  have h1 : max 0 (min (-1 + ((m + 1 : Nat) : Int)) ((m + 1 : Nat) : Int)) = (m : Int) := by omega
  simp only [show (1 : Int) > 0 by decide, if_true, show (-1 : Int) < 0 by decide, h1]
  rw [if_pos (by omega)]
  have h2 : (((m + 1 : Nat) : Int) - (m : Int) + 1 - 1) / 1 = 1 := by omega
  rw [h2]
  simp
theorem idx_none : Builtin.Str.strSliceIndices (some (-1)) none 1 0 = [] := by decide +kernel
theorem ofs (c : Nat) (s : String) (h : Str.ofString s = ch c) : (Str.ofString s).cps.toList = [c] := by rw [h]; rfl
theorem s45 : Str.ofString "-" = ch 45 := by decide +kernel
theorem s4545 : (Str.ofString "--").cps.toList = [45, 45] := by decide +kernel
theorem s4545l : (Str.ofString "--").length = 2 := by decide +kernel
theorem take2 {l : List Nat} {i : Nat} : ((l.drop i).take 2 == [45, 45]) = true ↔ l[i]? = some 45 ∧ l[i + 1]? = some 45 := by
  have e0 : l[i]? = (l.drop i)[0]? := by rw [List.getElem?_drop]; rfl
  have e1 : l[i + 1]? = (l.drop i)[1]? := by rw [List.getElem?_drop]
  rw [e0, e1, beq_iff_eq]
  cases l.drop i with
  | nil => simp
  | cons a r =>
    cases r with
    | nil => simp
    | cons b r => simp
theorem two_iff (x : Str) : within (Str.ofString "--") x = true ↔ ∃ i, x.cps.toList[i]? = some 45 ∧ x.cps.toList[i + 1]? = some 45 := by
  unfold within
  rw [StrLaws.found_iff]
  have key : ∀ i, (i + (Str.ofString "--").length ≤ x.length ∧ Builtin.Str.subAt x (Str.ofString "--") i = true) ↔ (x.cps.toList[i]? = some 45 ∧ x.cps.toList[i + 1]? = some 45) := by
    intro i
    rw [StrLaws.subAt_eq, s4545, s4545l, take2]
    refine ⟨fun h => h.2, fun h => ⟨?_, h⟩⟩
    obtain ⟨hl, _⟩ := List.getElem?_eq_some_iff.mp h.2
    show i + 2 ≤ x.cps.size
    rw [Array.length_toList] at hl
    omega
  exact ⟨fun ⟨i, h⟩ => ⟨i, (key i).mp h⟩, fun ⟨i, h⟩ => ⟨i, (key i).mpr h⟩⟩
theorem last_iff (x : Str) : (Txt.slice x (some (-1)) none == Str.ofString "-") = true ↔ ∃ m, x.cps.toList.length = m + 1 ∧ x.cps.toList[m]? = some 45 := by
  rw [s45, beq_iff_eq]
  have hl : x.length = x.cps.toList.length := by show x.cps.size = _; rw [Array.length_toList]
  cases hn : x.cps.toList.length with
  | zero =>
    rw [hn] at hl
    have e : x = ⟨#[]⟩ := by
      obtain ⟨a⟩ := x
      have : a = #[] := Array.eq_empty_of_size_eq_zero hl
      rw [this]
    constructor
    · intro h
      rw [e] at h
      exact absurd h (by decide +kernel)
    · rintro ⟨m, h, _⟩
      omega
  | succ m =>
    rw [hn] at hl
    have hm : m < x.cps.size := by have : x.cps.size = m + 1 := hl; omega
    have e : Txt.slice x (some (-1)) none = ch x.cps[m] := by
      unfold Txt.slice
      rw [hl, idx_last]
      by_cases h0 : m = 0
      · subst h0
        rw [if_pos (by decide)]
        obtain ⟨a⟩ := x
        have h1 : a.size = 1 := hl
        show (⟨a⟩ : Str) = ⟨#[a[0]]⟩
        congr 1
        apply Array.ext
        · simpa using h1
        · intro i hi hi2
          have : i = 0 := by omega
          subst this
          rfl
      · rw [if_neg (by simp [h0])]
        simp only [List.filterMap_cons, List.filterMap_nil, Array.getElem?_eq_getElem hm]
        rfl
    rw [e]
    have e2 : x.cps.toList[m]? = some x.cps[m] := by simp [hm]
    constructor
    · intro h
      refine ⟨m, rfl, ?_⟩
      rw [e2]
      have := congrArg Str.cps h
      simpa [ch] using this
    · rintro ⟨m', h1, h2⟩
      have : m' = m := by omega
      subst this
      rw [e2] at h2
      rw [Option.some.inj h2]
theorem badC_law (x : Str) : badC x = within (Str.ofString "--") (x ++ Str.ofString "-") := by
  rw [Bool.eq_iff_iff]
  unfold badC
  rw [Bool.or_eq_true, two_iff, last_iff, two_iff]
  have e : (x ++ Str.ofString "-").cps.toList = x.cps.toList ++ [45] := by
    rw [s45]
    show (x.cps ++ #[45]).toList = _
    simp
  rw [e]
  generalize x.cps.toList = l
  constructor
  · rintro (⟨i, h1, h2⟩ | ⟨m, h1, h2⟩)
    · refine ⟨i, ?_, ?_⟩
      · obtain ⟨hl, _⟩ := List.getElem?_eq_some_iff.mp h1
        rw [List.getElem?_append_left hl]; exact h1
      · obtain ⟨hl, _⟩ := List.getElem?_eq_some_iff.mp h2
        rw [List.getElem?_append_left hl]; exact h2
    · refine ⟨m, ?_, ?_⟩
      · rw [List.getElem?_append_left (by omega)]; exact h2
      · rw [List.getElem?_append_right (by omega), h1, Nat.sub_self]; rfl
  · rintro ⟨i, h1, h2⟩
    by_cases hi : i + 1 < l.length
    · rw [List.getElem?_append_left (by omega)] at h1
      rw [List.getElem?_append_left hi] at h2
      exact .inl ⟨i, h1, h2⟩
    · obtain ⟨hl, _⟩ := List.getElem?_eq_some_iff.mp h2
      rw [List.length_append, List.length_singleton] at hl
      rw [List.getElem?_append_left (by omega)] at h1
      exact .inr ⟨i, by omega, h1⟩
/-- what the law says of a leaf is what the writer makes of it -/
theorem leaf_text {d : NodeD} {ta x : Str} (h1 : d.kind = Str.ofString "text") (h2 : d.val = x) : leafOf d = lawLeafOf (Str.ofString "text") ta x := by
  subst h2
  unfold leafOf lawLeafOf
  rw [if_pos h1, if_pos rfl]
theorem leaf_comment {d : NodeD} {ta x : Str} (h1 : d.kind = Str.ofString "comment") (h2 : d.val = x) : leafOf d = lawLeafOf (Str.ofString "comment") ta x := by
  subst h2
  have e : Str.ofString "comment" ≠ Str.ofString "text" := by decide +kernel
  unfold leafOf lawLeafOf
  rw [h1, if_neg e, if_pos rfl, if_neg e, if_pos rfl, badC_law]
theorem leaf_instr {d : NodeD} {ta x : Str} (h1 : d.kind = Str.ofString "instruction") (h2 : d.val = x) (h3 : d.name = ta) : leafOf d = lawLeafOf (Str.ofString "instruction") ta x := by
  subst h2 h3
  have e : Str.ofString "instruction" ≠ Str.ofString "text" := by decide +kernel
  have e2 : Str.ofString "instruction" ≠ Str.ofString "comment" := by decide +kernel
  unfold leafOf lawLeafOf
  rw [h1, if_neg e, if_neg e2, if_pos rfl, if_neg e, if_neg e2]
end

theorem reset_F3 (h : PySem.Heap) : PySem.W.GrownAll [] h := by
  w_top off
  walk1
section
open PySem PySem.W PyProof.Rows
set_option Elab.async false
set_option maxRecDepth 100000
set_option linter.unusedSimpArgs false
set_option hygiene false
local macro_rules | `(tactic| k_mem) => `(tactic| first | assumption | exact List.Mem.head _ | (refine' List.mem_cons_of_mem _ ?_; k_mem) | (refine' List.mem_append_left _ ?_; k_mem) | (refine' List.mem_append_right _ ?_; k_mem))
local macro_rules | `(tactic| walk_at "getAttr ref") => `(tactic| (k_here; k_dflt (refine' get_own ?zk1 ?zk2 ?zk3 ?zk4 ?zk5 ?zk6 ?zk7 ?zk8 ?zk9 ?_; (case zk1 => k_asm); (case zk2 => k_asm); (case zk3 => k_inst); (case zk4 => k_is); (case zk5 => k_is); (case zk6 => k_is); (case zk7 => k_is); (case zk8 => first | assumption | k_get); (case zk9 => k_handed); k_whole)))
local macro_rules | `(tactic| walk_at "len") => `(tactic| first | assumption | exact (by decide +kernel : PySem.Str.length _ ≤ 64) | exact len_app (by walk_at "len") (by walk_at "len"))
local macro_rules | `(tactic| walk_at "LeaveB") => `(tactic| refine stop_at ?_)
local macro_rules | `(tactic| walk_at "noteFrame ref") => `(tactic| refine stop_at ?_)
local macro_rules | `(tactic| walk_at "leaving ref") => `(tactic| refine stop_at ?_)
theorem fillKF3 : (fun (_ : Params → Frag) (_ : OpenLaw) => True) Mine.K PySem.Challenge.rw_xw0213_01 := by k_fill; trivial

set_option maxHeartbeats 1000000 in
theorem heard_tell {w : World} {f : Addr} {o : Option Str} {R : List (Addr × Obj)} {oc : Value} {od : Option Addr} {fd : FuncData} {sl : Array (Option Value)} (hm : (f, (⟨oc, od, .func fd, sl⟩ : Obj)) ∈ R) (C : TellR w f [] 8 R (fun news' r => news' = R ∧ ∃ x t', o = some x ∧ r = .str x t') (o = none)) :
    TellB w 344 [.ref f] 10 R (fun news' r => SaidR R o news' r) := by
  unfold TellB
  intro loose mean mg mb dp un gd cn cs a ccd cl outer A₀ base h₀ L m s Q E B F U N hb hlt hk hd hu ret
  obtain ⟨kind, nm, ig, ic, mr⟩ := cs
  obtain ⟨sh, sg, sd, st, so⟩ := s
  obtain rfl : kind = .function := hk
  refine wpAny_call ?_
  k_dflt (refine' enterB B F U N hb hlt ?kA ?kK ?k6 ?k7 ?k8 ?k9 ?kB ?_ ?c2 ?c3 ?c4 ?c5; (case kA => exact rfl); (case kK => exact rfl); (case k6 => k_is); (case k7 => k_is); (case k8 => k_room); (case k9 => first | exact BindsTo.of_eq rfl | exact binds_K (by k_in) rfl (by k_is) rfl rfl rfl); (case c5 => decide); (case kB => exact locs rfl); (case c2 => exact rfl); (case c3 => exact rfl); (case c4 => exact rfl); k_whole; intro g' L' h' FG' F' N' B' X' T' hb' hlt' l1; (try dsimp only); (try k_lift B'))
  rename Fr _ _ _ _ => F1
  refine (let qk : Flow → Shared → Prop := _; let ek : Value → Shared → Prop := _; let A1 : Around := _; let m1 : Str → Option Value := _; let t1 : Nat := _; have F1 : Fr _ _ _ m1 := F1; (?_ : wpAny _ A1 _ qk ek (Shared.mk _ _ _ t1 _)))
  (repeat' (first | (k_unfold; (try dsimp only)) | walk1 | (dsimp only; walk1) | (leave1; (try dsimp only))))
  rename News _ _ _ R => N9
  rename Fr _ _ _ _ => F9
  rename Below _ _ _ _ => B9
  rename Top _ _ _ _ _ _ => T9
  rename (Mine.K w.params).In _ => X9
  refine callWith_F0 (FnAt.of N9 hm) ?_
  (repeat' (first | (k_unfold; (try dsimp only)) | walk1 | (dsimp only; walk1) | (leave1; (try dsimp only))))
  refine go_on ?_
  refine' TellR.use (room := 8) B9 F9 X9 N9 T9 rfl ?d ?u C ?_ ?_
  case d => ktr_room
  case u => ktr_units
  · rintro r' nw' h2 tk2 F2 N2 ⟨rfl, x, t', rfl, rfl⟩
    clear F9 N9
    (repeat' (first | (k_unfold; (try dsimp only)) | walk1 | (dsimp only; walk1) | (leave1; (try dsimp only))))
    refine go_on ?_
    exact leaveB_ F2 N2 B9.stays FrameTurn.refl fun h₁ B1 F1 N1 T1 => ret _ _ _ _ _ B1 F1 N1 (U.keeps B1.stays) T1 (SaidR.text rfl)
  · intro hb9 e9 g9 h9 tk9 F2 U2 R2
    clear F9 N9
    (repeat' (first | (k_unfold; (try dsimp only)) | walk1 | (dsimp only; walk1) | (leave1; (try dsimp only))))
    refine go_on ?_
    refine caughtB B9 F2 U2 R2 U hb' hlt' (by k_dflt k_is) fun h3 g3 F3 N3 B3 X3 T3 FT3 => ?_
    clear F2 B9
    (repeat' (first | (k_unfold; (try dsimp only)) | walk1 | (dsimp only; walk1) | (leave1; (try dsimp only))))
    refine go_on ?_
    exact leaveB_ (by assumption) (by assumption) B3.stays FT3 fun h₁ B1 F1 N1 T1 => ret _ _ _ _ _ B1 F1 N1 (U.keeps B1.stays) T1 (SaidR.no hb9 (by with_reducible assumption))
end

theorem reset_F5 (h : PySem.Heap) : PySem.W.GrownAll [] h := by
  w_top off
  walk1
section
open PySem PySem.W PyProof.Rows
set_option Elab.async false
set_option maxRecDepth 100000
set_option linter.unusedSimpArgs false
set_option hygiene false
local macro_rules | `(tactic| k_mem) => `(tactic| first | assumption | exact List.Mem.head _ | (refine' List.mem_cons_of_mem _ ?_; k_mem) | (refine' List.mem_append_left _ ?_; k_mem) | (refine' List.mem_append_right _ ?_; k_mem))
local macro_rules | `(tactic| walk_at "getAttr ref") => `(tactic| (k_here; k_dflt (refine' get_own ?zk1 ?zk2 ?zk3 ?zk4 ?zk5 ?zk6 ?zk7 ?zk8 ?zk9 ?_; (case zk1 => k_asm); (case zk2 => k_asm); (case zk3 => k_inst); (case zk4 => k_is); (case zk5 => k_is); (case zk6 => k_is); (case zk7 => k_is); (case zk8 => first | assumption | k_get); (case zk9 => k_handed); k_whole)))
local macro_rules | `(tactic| walk_at "len") => `(tactic| first | assumption | exact (by decide +kernel : PySem.Str.length _ ≤ 64) | exact len_app (by walk_at "len") (by walk_at "len"))
local macro_rules | `(tactic| walk_at "eval Name") => `(tactic| refine stop_at ?_)
local macro_rules | `(tactic| walk_at "leaving ref") => `(tactic| refine stop_at ?_)
theorem fillKF5 : (fun (_ : Params → Frag) (_ : OpenLaw) => True) Mine.K PySem.Challenge.rw_xw0213_01 := by k_fill; trivial

abbrev lamScope : Scope := { kind := .function, names := [(Str.ofString "node", .free), (Str.ofString "tree", .free), (Str.ofString "plain_node", .globalImplicit)], isGenerator := false, isCoroutine := false }
abbrev lamBody (p1 p2 p3 p4 : Pos) : PySem.Expr := .Call (.Name (Str.ofString "plain_node") p1) [.Name (Str.ofString "tree") p2, .Name (Str.ofString "node") p3] [] p4
abbrev noParams : Arguments := { posonlyargs := [], args := [], vararg := none, kwonlyargs := [], kw_defaults := [], kwarg := none, defaults := [] }
theorem leave_onX {M : Model} {A : Around} {E : Value → Shared → Prop} {s' : Shared} {base g g₂ : Heap} {outer : List Env} {L e : Addr} {m : Str → Option Value} {env : Env} {Q : Unit → Shared → Prop} {news : List (Addr × Obj)} {cls : Value} (K : Below A base outer g) (hf : env.frame = some L) (F : Fr g L g₂ m) (R : RaisedN base (env :: outer) e cls news s'.heap) (hsm : g₂.UpToSlots s'.heap)
    (hQ : ∀ h', RaisedN base outer e cls news h' → g.UpToSlots h' → Q () { s' with heap := h' }) :
    wpAny M (A.deeper env) (leaving env (.ref e)) Q E s' := by
  obtain ⟨B, a0, hB, hl, hfl⟩ := R
  exact wpAny_leaves_onW (Around.frames_deeper K.stack) hf hfl fun h' x1 x2 => hQ h' ⟨B, a0, hB, hl, x1⟩ ((Heap.UpToSlots.of_keeps F.keep).trans (hsm.trans x2))
set_option maxHeartbeats 400000 in
theorem lam_tell {w : World} {f c' c1 c2 t l a9 : Addr} {clo : List (Str × Addr)} {q : Str} {p1 p2 p3 p4 : Pos} {pm ctv : Value} {oc o1 o2 : Obj} {vs : Array Value} {tq tk : Tok} {i : Int} {rows : List Value} {k : Nat} {d : NodeD} (R : List (Addr × Obj))
    (hf : (f, kla_obj (Str.ofString "<lambda>") q noParams (lamBody p1 p2 p3 p4) lamScope clo pm c' ctv) ∈ R) (k1 : clo.lookup (Str.ofString "node") = some c1) (k2 : clo.lookup (Str.ofString "tree") = some c2) (hc : (c', oc) ∈ R) (hcd : oc.data = .fields vs) (hcq : vs[1]? = some (.str q tq))
    (h1 : (c1, o1) ∈ R) (hd1 : o1.data = .cell (some (.int i tk))) (h2 : (c2, o2) ∈ R) (hd2 : o2.data = .cell (some (.ref t)))
    (hT : TreeAt R t l) (hl : (l, listOf rows.toArray k) ∈ R) (h0 : 0 ≤ i) (hz : rows.length ≤ 100000) (hi : rows[i.toNat]? = some (.ref a9)) (hN : NodeAt R a9 d)
    (hv : d.val.length ≤ 1000) (hn : d.name.length ≤ 1000) :
    TellR w f [] 8 R (fun news' r => news' = R ∧ ∃ x t', leafOf d = some x ∧ r = .str x t') (leafOf d = none) := by
  unfold TellR
  intro loose mean mg mb dp un gd cn cs a ccd cl outer A₀ base h₀ L m s Q E B F X N T hk hd hu ret bad
  obtain ⟨kind, nm, ig, ic, mr⟩ := cs
  obtain rfl : kind = .function := hk
  refine wpAny_call ?_
  refine kla_code (binds := []) B F X N T rfl rfl rfl hf (codeRec_news N hc hcd hcq) ?_ rfl (fun _ h => nomatch h) ?_ rfl rfl rfl (by decide)
  · ktr_room
  intro g' L' h' FG' F' N' B' X' T'
  (try dsimp only)
  (try k_lift B')
  (try k_fold)
  (repeat' (first | ((with_reducible show wpAny _ _ (call (Value.ref 98) _) _ _ _); refine stop_at ?_) | (k_unfold; (try dsimp only)) | walk1 | (dsimp only; walk1) | (leave1; (try dsimp only))))
  refine go_on (nameX_K F' X' (topRead_of T') (by k_dflt k_is) ?_)
  (repeat' (first | ((with_reducible show wpAny _ _ (call (Value.ref 98) _) _ _ _); refine stop_at ?_) | (k_unfold; (try dsimp only)) | walk1 | (dsimp only; walk1) | (leave1; (try dsimp only))))
  refine go_on (nameX_F N' k2 h2 hd2 ?_)
  (repeat' (first | ((with_reducible show wpAny _ _ (call (Value.ref 98) _) _ _ _); refine stop_at ?_) | (k_unfold; (try dsimp only)) | walk1 | (dsimp only; walk1) | (leave1; (try dsimp only))))
  refine go_on (nameX_F N' k1 h1 hd1 ?_)
  (repeat' (first | ((with_reducible show wpAny _ _ (call (Value.ref 98) _) _ _ _); refine stop_at ?_) | (k_unfold; (try dsimp only)) | walk1 | (dsimp only; walk1) | (leave1; (try dsimp only))))
  refine go_on ?_
  refine' TellR.use (room := 6) B' F' X' N' T' rfl ?d ?u (plain_tell R hT hl h0 hz hi hN hv hn) ?_ ?_
  case d => ktr_room
  case u => ktr_units
  · rintro r' nw' h2 tk2 F2 N2 ⟨rfl, x, t', hx, rfl⟩
    clear F' N'
    (repeat' (first | ((with_reducible show wpAny _ _ (call (Value.ref 98) _) _ _ _); refine stop_at ?_) | (k_unfold; (try dsimp only)) | walk1 | (dsimp only; walk1) | (leave1; (try dsimp only))))
    exact ret _ _ _ _ (by assumption) (by assumption) ⟨rfl, x, t', hx, rfl⟩
  · intro hb e9 g9 h9 tk9 F3 U3 R3
    (repeat' (first | ((with_reducible show wpAny _ _ (call (Value.ref 98) _) _ _ _); refine stop_at ?_) | (k_unfold; (try dsimp only)) | walk1 | (dsimp only; walk1) | (leave1; (try dsimp only))))
    refine go_on (leave_onX B' rfl F3 R3 U3 fun h' R' U' => ?_)
    exact bad hb _ _ _ _ FG' U' R'
end

theorem reset_F4 (h : PySem.Heap) : PySem.W.GrownAll [] h := by
  w_top off
  walk1
section
open PySem PySem.W PyProof.Rows
set_option Elab.async false
set_option maxRecDepth 100000
set_option linter.unusedSimpArgs false
set_option hygiene false
local macro_rules | `(tactic| k_mem) => `(tactic| first | assumption | exact List.Mem.head _ | (refine' List.mem_cons_of_mem _ ?_; k_mem) | (refine' List.mem_append_left _ ?_; k_mem) | (refine' List.mem_append_right _ ?_; k_mem))
local macro_rules | `(tactic| walk_at "getAttr ref") => `(tactic| (k_here; k_dflt (refine' get_own ?zk1 ?zk2 ?zk3 ?zk4 ?zk5 ?zk6 ?zk7 ?zk8 ?zk9 ?_; (case zk1 => k_asm); (case zk2 => k_asm); (case zk3 => k_inst); (case zk4 => k_is); (case zk5 => k_is); (case zk6 => k_is); (case zk7 => k_is); (case zk8 => first | assumption | k_get); (case zk9 => k_handed); k_whole)))
local macro_rules | `(tactic| walk_at "len") => `(tactic| first | assumption | exact (by decide +kernel : PySem.Str.length _ ≤ 64) | exact len_app (by walk_at "len") (by walk_at "len"))
local macro_rules | `(tactic| walk_at "LeaveB") => `(tactic| refine stop_at ?_)
local macro_rules | `(tactic| walk_at "noteFrame ref") => `(tactic| refine stop_at ?_)
local macro_rules | `(tactic| walk_at "leaving ref") => `(tactic| refine stop_at ?_)
theorem fillKF4 : (fun (_ : Params → Frag) (_ : OpenLaw) => True) Mine.K PySem.Challenge.rw_xw0213_01 := by k_fill; trivial

theorem all_off {R : List (Addr × Obj)} {d : Addr} (h : AllLt d R) : ∀ p ∈ R, p.1 ≠ d := off_lt (allLt_mem h) (Nat.le_refl _)
theorem five {c a dx ch at' ns : Addr} {o : Obj} {R : List (Addr × Obj)} (h : ∀ p ∈ R, p.1 ≠ a ∧ p.1 ≠ dx ∧ p.1 ≠ ch ∧ p.1 ≠ at' ∧ p.1 ≠ ns) (hm : (c, o) ∈ R) : @Ne Nat c a ∧ @Ne Nat c dx ∧ @Ne Nat c ch ∧ @Ne Nat c at' ∧ @Ne Nat c ns := h _ hm
section
variable {w : World} {f : Addr} {args : List Value} {room : Nat} {news : List (Addr × Obj)} {Ret : List (Addr × Obj) → Value → Prop} {loose : List Str} {mean : ExcName → Option Value} {mg mb : Str → Option Value} {dp un : Nat} {gd : Option (List Code)} {cn : Str} {cs : Scope} {a : Addr} {ccd : Value} {cl : List (Str × Addr)} {outer : List Env} {A₀ : Around} {base h₀ : Heap} {L : Addr} {m : Str → Option Value} {s : Shared} {Q E : Value → Shared → Prop}
theorem TellB.use (B : Below A₀ base outer h₀) (F : Fr h₀ L s.heap m) (U : Under w loose mean mg mb base) (N : News h₀ L s.heap news) (hb : base.objs.size ≤ L) (hlt : ∀ b ∈ fsOf outer, @LT.lt Nat _ b L) (hk : cs.kind = .function) (hd : dp + room < recursionLimit) (hu : un + 40 * room < cLine)
    (C : TellB w f args room news Ret)
    (ret : ∀ r news' h' tk' h₁, Below A₀ base outer h₁ → Fr h₁ L h' m → News h₁ L h' news' → Under w loose mean mg mb h₁ → FrameTurn (fsOf outer) h₀ h₁ → Ret news' r → Q r { s with heap := h', toks := tk' }) :
    wpAny (model PySem.Challenge.rw_xw0213_01.row.prog w) (ktrTop dp un gd cn cs L a ccd cl outer) (call (.ref f) args) Q E s :=
  C _ _ _ _ _ _ _ _ _ _ _ _ _ _ _ _ _ _ _ _ _ B F U N hb hlt hk hd hu ret
end
abbrev lamQ1 : Str := (envOfC (Str.ofString "_law_leaf_right") lamScope 0 0 .none).qual ++ Str.ofString "<lambda>"
set_option maxHeartbeats 400000 in
theorem leafT0_tell {w : World} {ta x : Str} {tk tt t : Tok} (hx : x.length ≤ 1000) (ht : ta.length ≤ 1000) (R : List (Addr × Obj)) (hR : ∀ p ∈ R, p.1 ≠ 375) :
    TellB w 380 [.str (Str.ofString "text") tk, .str ta tt, .str x t] 14 ((375, tabObj #[]) :: R) (fun news' r => ∃ c' oc vs tq, news' = (375, tabObj #[rawInt 230, rawInt 22, .ref c']) :: (c', oc) :: R ∧ oc.data = .fields vs ∧ vs[1]? = some (.str lamQ1 tq) ∧ (∀ p ∈ (375, tabObj #[]) :: R, p.1 < c') ∧ r = .bool true) := by
  unfold TellB
  intro loose mean mg mb dp un gd cn cs a ccd cl outer A₀ base h₀ L m s Q E B F U N hb hlt hk hd hu ret
  obtain ⟨kind, nm, ig, ic, mr⟩ := cs
  obtain ⟨sh, sg, sd, st, so⟩ := s
  obtain rfl : kind = .function := hk
  refine wpAny_call ?_
  k_dflt (refine' enterBC B F U N hb hlt ?kA ?kK ?k6 ?k7 ?k8 ?k9 ?kB ?kD ?_ ?c2 ?c3 ?c4; (case kA => exact rfl); (case kK => exact rfl); (case k6 => k_is); (case k7 => k_is); (case k8 => k_room); (case k9 => first | exact BindsTo.of_eq rfl | exact binds_K (by k_in) rfl (by k_is) rfl rfl rfl); (case kB => exact rfl); (case kD => decide +kernel); (case c2 => exact rfl); (case c3 => exact rfl); (case c4 => exact rfl); k_whole; intro g' L' h' tk' cells' FG' F' N' Y' B' X' T' hb' hlt' l1; (try k_lt l1); k_cells Y'; (try simp only [List.cons_append, List.nil_append] at N'); (try dsimp only); (try k_lift B'))
  rename Fr _ _ _ _ => F1
  refine (let qk : Flow → Shared → Prop := _; let ek : Value → Shared → Prop := _; let A1 : Around := _; let m1 : Str → Option Value := _; let t1 : Nat := _; have F1 : Fr _ _ _ m1 := F1; (?_ : wpAny _ A1 _ qk ek (Shared.mk _ _ _ t1 _)))
  rename _ < _ ∧ AllLt _ R => l0
  have hRL := allLt_mem l0.2
  (repeat' (first | ((with_reducible show wpAny _ _ (call (Value.ref 197) _) _ _ _); refine stop_at ?_) | ((with_reducible show wpAny _ _ (call (Value.ref 190) _) _ _ _); refine stop_at ?_) | ((with_reducible show wpAny _ _ (call (Value.ref 183) _) _ _ _); refine stop_at ?_) | ((with_reducible show wpAny _ _ (call (Value.ref 373) _) _ _ _); refine stop_at ?_) | ((with_reducible show wpAny _ _ (call (Value.ref 344) _) _ _ _); refine stop_at ?_) | ((with_reducible show wpAny _ _ (callWith _ (Value.ref _) _ (backTo _ (starEach (_ :: _) _)) []) _ _ _); k_dflt (refine' callWith_mine ?zkX ?zkk ?_ ?zhe ?zhp; (case zhe => exact rfl); (case zhp => exact rfl); (case zkX => with_reducible assumption); (case zkk => with_unfolding_all exact rfl))) | (k_unfold; (try dsimp only)) | walk1 | (dsimp only; walk1) | (leave1; (try dsimp only))))
  refine go_on ?_
  rename Fr _ _ _ _ => F2
  rename News _ _ _ _ => N2
  rename _ < _ ∧ _ < _ ∧ _ < _ ∧ _ < _ ∧ 375 < _ ∧ AllLt _ R => lL
  have hC1 := (U.keeps B'.stays).c1
  refine' Tell.useRow (room := 4) ?B F2 ?X N2 ?T rfl ?d ?u (addText_tell (rows := []) (k := 0) _ ?hR ?hT (by decide)) ?_
  case B => k_asm
  case X => k_asm
  case T => k_asm
  case d => k_room
  case u => k_units
  case hR => exact all_off lL
  case hT => exact ⟨_, _, _, List.mem_cons_self, List.mem_cons_of_mem _ List.mem_cons_self⟩
  intro a9 dx9 es9 n9 ch9 at9 ns9 k9 tr9 h' tk' F' N' hFl hfr hlt9
  have e1 := five hfr (.tail _ (.tail _ (.tail _ (.head _))))
  have e2 := five hfr (.tail _ (.tail _ (.tail _ (.tail _ (.head _)))))
  have e3 := five hfr (.tail _ (.tail _ (.tail _ (.tail _ (.tail _ (.head _))))))
  simp only [newRow, List.cons_append, List.nil_append] at N'
  clear F2 N2
  (repeat' (first | ((with_reducible show wpAny _ _ (call (Value.ref 197) _) _ _ _); refine stop_at ?_) | ((with_reducible show wpAny _ _ (call (Value.ref 190) _) _ _ _); refine stop_at ?_) | ((with_reducible show wpAny _ _ (call (Value.ref 183) _) _ _ _); refine stop_at ?_) | ((with_reducible show wpAny _ _ (call (Value.ref 373) _) _ _ _); refine stop_at ?_) | ((with_reducible show wpAny _ _ (call (Value.ref 344) _) _ _ _); refine stop_at ?_) | ((with_reducible show wpAny _ _ (callWith _ (Value.ref _) _ (backTo _ (starEach (_ :: _) _)) []) _ _ _); k_dflt (refine' callWith_mine ?zkX ?zkk ?_ ?zhe ?zhp; (case zhe => exact rfl); (case zhp => exact rfl); (case zkX => with_reducible assumption); (case zkk => with_unfolding_all exact rfl))) | (k_unfold; (try dsimp only)) | walk1 | (dsimp only; walk1) | (leave1; (try dsimp only))))
  refine go_on ?_
  rename Obj.data _ = Data.fields _ => hcd₉
  rename _[1]? = some _ => hcq₉
  rename _ < _ ∧ _ < _ ∧ _ < _ ∧ _ < _ ∧ _ < _ ∧ _ < _ ∧ _ < _ ∧ _ < _ ∧ _ < _ ∧ _ < _ ∧ 375 < _ ∧ AllLt _ R => lC
  have hltc : ∀ p ∈ (375, tabObj #[]) :: R, p.1 < _ := allLt_mem lC.2.2.2.2.2.2.2.2.2.2
  rename Fr _ _ _ _ => F5
  rename News _ _ _ _ => N5
  have hd9 := leaf_text (d := ⟨Str.ofString "text", Str.ofString "", Str.ofString "", Str.ofString "", x, .none, ch9, at9, ns9⟩) (ta := ta) (x := x) rfl rfl
  refine' TellB.use (room := 10) ?B F5 ?U N5 ?hb ?hlt rfl ?d ?u (heard_tell (o := leafOf ⟨Str.ofString "text", Str.ofString "", Str.ofString "", Str.ofString "", x, .none, ch9, at9, ns9⟩) ?hm ?C) ?_
  case B => k_asm
  case U => exact U
  case hb => exact hb'
  case hlt => exact hlt'
  case d => k_room
  case u => k_units
  case hm => exact List.mem_cons_self
  case C =>
    refine' lam_tell (a9 := a9) (rows := [.ref a9]) (k := k9) (d := ⟨Str.ofString "text", Str.ofString "", Str.ofString "", Str.ofString "", x, .none, ch9, at9, ns9⟩) _ List.mem_cons_self (by with_unfolding_all rfl) (by with_unfolding_all rfl) ?c1 ?c2 ?c3 ?c4 ?c5 ?c6 ?c7 ?c8 ?c9 ?h0 ?hz ?hi ?c10 ?c11 ?c12
    case c1 => exact List.mem_cons_of_mem _ List.mem_cons_self
    case c2 => with_reducible assumption
    case c3 => with_reducible assumption
    case c5 => with_reducible assumption
    case c7 => with_reducible assumption
    case c4 => k_mem
    case c6 => k_mem
    case c8 => exact ⟨_, _, _, by k_mem, by k_mem⟩
    case c9 => k_mem
    case h0 => exact Int.natCast_nonneg _
    case hz => exact Nat.le_of_ble_eq_true rfl
    case hi => rfl
    case c10 => exact nodeAt_of hFl (by k_mem) (by k_mem)
    case c11 => exact hx
    case c12 => exact Nat.le_of_ble_eq_true rfl
  intro r' nw' h' tk' h₁ B1 F1 N1 U1 FT1 hP'
  rw [hd9] at hP'
  clear F5 N5
  have X1 := U1.X
  have T1 := U1.T
  cases ho : lawLeafOf (Str.ofString "text") ta x with
  | none =>
    rw [ho] at hP'
    first | (refine el_0_5 hP' fun T9 t9 hrf2 hlT hrf4 => ?_; subst hrf2; subst hrf4) | (refine el_1_4 hP' fun T9 t9 hrf2 hlT hrf4 => ?_; subst hrf2; subst hrf4) | (refine el_2_3 hP' fun T9 t9 hrf2 hlT hrf4 => ?_; subst hrf2; subst hrf4) | (refine el_3_2 hP' fun T9 t9 hrf2 hlT hrf4 => ?_; subst hrf2; subst hrf4) | (refine el_4_1 hP' fun T9 t9 hrf2 hlT hrf4 => ?_; subst hrf2; subst hrf4) | obtain ⟨T9, t9, rfl, hlT, rfl⟩ := hP'
    try clear hP'
    (repeat' (first | ((with_reducible show wpAny _ _ (call (Value.ref 197) _) _ _ _); refine stop_at ?_) | ((with_reducible show wpAny _ _ (call (Value.ref 190) _) _ _ _); refine stop_at ?_) | ((with_reducible show wpAny _ _ (call (Value.ref 183) _) _ _ _); refine stop_at ?_) | ((with_reducible show wpAny _ _ (call (Value.ref 373) _) _ _ _); refine stop_at ?_) | ((with_reducible show wpAny _ _ (call (Value.ref 344) _) _ _ _); refine stop_at ?_) | ((with_reducible show wpAny _ _ (callWith _ (Value.ref _) _ (backTo _ (starEach (_ :: _) _)) []) _ _ _); k_dflt (refine' callWith_mine ?zkX ?zkk ?_ ?zhe ?zhp; (case zhe => exact rfl); (case zhp => exact rfl); (case zkX => with_reducible assumption); (case zkk => with_unfolding_all exact rfl))) | (k_unfold; (try dsimp only)) | walk1 | (dsimp only; walk1) | (leave1; (try dsimp only))))
    refine go_on ?_
    rename Fr _ _ _ _ => F6
    rename News _ _ _ _ => N6
    refine' Tell.use (room := 4) B1 F6 X1 N6 T1 rfl ?d ?u (lawLeaf_tell (kd := Str.ofString "text") hx ht _) (fun p hp => hp) ?_
    case d => k_room
    case u => k_units
    intro r2 nw2 h2 tk2 F2 N2 hP2
    rw [ho] at hP2
    clear F6 N6
    first | (refine el_0_5 hP2 fun T8 t8 hrf2 hlT8 hrf4 => ?_; subst hrf2; subst hrf4) | (refine el_1_4 hP2 fun T8 t8 hrf2 hlT8 hrf4 => ?_; subst hrf2; subst hrf4) | (refine el_2_3 hP2 fun T8 t8 hrf2 hlT8 hrf4 => ?_; subst hrf2; subst hrf4) | (refine el_3_2 hP2 fun T8 t8 hrf2 hlT8 hrf4 => ?_; subst hrf2; subst hrf4) | (refine el_4_1 hP2 fun T8 t8 hrf2 hlT8 hrf4 => ?_; subst hrf2; subst hrf4) | obtain ⟨T8, t8, rfl, hlT8, rfl⟩ := hP2
    try clear hP2
    unfold tupR at N2
    (repeat' (first | ((with_reducible show wpAny _ _ (call (Value.ref 197) _) _ _ _); refine stop_at ?_) | ((with_reducible show wpAny _ _ (call (Value.ref 190) _) _ _ _); refine stop_at ?_) | ((with_reducible show wpAny _ _ (call (Value.ref 183) _) _ _ _); refine stop_at ?_) | ((with_reducible show wpAny _ _ (call (Value.ref 373) _) _ _ _); refine stop_at ?_) | ((with_reducible show wpAny _ _ (call (Value.ref 344) _) _ _ _); refine stop_at ?_) | ((with_reducible show wpAny _ _ (callWith _ (Value.ref _) _ (backTo _ (starEach (_ :: _) _)) []) _ _ _); k_dflt (refine' callWith_mine ?zkX ?zkk ?_ ?zhe ?zhp; (case zhe => exact rfl); (case zhp => exact rfl); (case zkX => with_reducible assumption); (case zkk => with_unfolding_all exact rfl))) | (k_unfold; (try dsimp only)) | walk1 | (dsimp only; walk1) | (leave1; (try dsimp only))))
    refine go_on ?_
    exact leaveB_ F2 (news_sub N2 (by kcf_all)) B1.stays FT1 fun h₁ B2 F3 N3 T3 => ret _ _ _ _ _ B2 F3 N3 (U.keeps B2.stays) T3 ⟨_, _, _, _, rfl, hcd₉, hcq₉, hltc, rfl⟩
  | some y =>
    rw [ho] at hP'
    first | (refine el_0_3 hP' fun hrf0 t9 hrf2 => ?_; subst hrf0; subst hrf2) | (refine el_1_2 hP' fun hrf0 t9 hrf2 => ?_; subst hrf0; subst hrf2) | (refine el_2_1 hP' fun hrf0 t9 hrf2 => ?_; subst hrf0; subst hrf2) | obtain ⟨rfl, t9, rfl⟩ := hP'
    try clear hP'
    (repeat' (first | ((with_reducible show wpAny _ _ (call (Value.ref 197) _) _ _ _); refine stop_at ?_) | ((with_reducible show wpAny _ _ (call (Value.ref 190) _) _ _ _); refine stop_at ?_) | ((with_reducible show wpAny _ _ (call (Value.ref 183) _) _ _ _); refine stop_at ?_) | ((with_reducible show wpAny _ _ (call (Value.ref 373) _) _ _ _); refine stop_at ?_) | ((with_reducible show wpAny _ _ (call (Value.ref 344) _) _ _ _); refine stop_at ?_) | ((with_reducible show wpAny _ _ (callWith _ (Value.ref _) _ (backTo _ (starEach (_ :: _) _)) []) _ _ _); k_dflt (refine' callWith_mine ?zkX ?zkk ?_ ?zhe ?zhp; (case zhe => exact rfl); (case zhp => exact rfl); (case zkX => with_reducible assumption); (case zkk => with_unfolding_all exact rfl))) | (k_unfold; (try dsimp only)) | walk1 | (dsimp only; walk1) | (leave1; (try dsimp only))))
    refine go_on ?_
    rename Fr _ _ _ _ => F6
    rename News _ _ _ _ => N6
    refine' Tell.use (room := 4) B1 F6 X1 N6 T1 rfl ?d ?u (lawLeaf_tell (kd := Str.ofString "text") hx ht _) (fun p hp => hp) ?_
    case d => k_room
    case u => k_units
    intro r2 nw2 h2 tk2 F2 N2 hP2
    rw [ho] at hP2
    clear F6 N6
    first | (refine el_0_3 hP2 fun hrf0 t8 hrf2 => ?_; subst hrf0; subst hrf2) | (refine el_1_2 hP2 fun hrf0 t8 hrf2 => ?_; subst hrf0; subst hrf2) | (refine el_2_1 hP2 fun hrf0 t8 hrf2 => ?_; subst hrf0; subst hrf2) | obtain ⟨rfl, t8, rfl⟩ := hP2
    try clear hP2
    (repeat' (first | ((with_reducible show wpAny _ _ (call (Value.ref 197) _) _ _ _); refine stop_at ?_) | ((with_reducible show wpAny _ _ (call (Value.ref 190) _) _ _ _); refine stop_at ?_) | ((with_reducible show wpAny _ _ (call (Value.ref 183) _) _ _ _); refine stop_at ?_) | ((with_reducible show wpAny _ _ (call (Value.ref 373) _) _ _ _); refine stop_at ?_) | ((with_reducible show wpAny _ _ (call (Value.ref 344) _) _ _ _); refine stop_at ?_) | ((with_reducible show wpAny _ _ (callWith _ (Value.ref _) _ (backTo _ (starEach (_ :: _) _)) []) _ _ _); k_dflt (refine' callWith_mine ?zkX ?zkk ?_ ?zhe ?zhp; (case zhe => exact rfl); (case zhp => exact rfl); (case zkX => with_reducible assumption); (case zkk => with_unfolding_all exact rfl))) | (k_unfold; (try dsimp only)) | walk1 | (dsimp only; walk1) | (leave1; (try dsimp only))))
    refine go_on ?_
    rw [show (y == y) = true from beq_self_eq_true y]
    exact leaveB_ F2 (news_sub N2 (by kcf_all)) B1.stays FT1 fun h₁ B2 F3 N3 T3 => ret _ _ _ _ _ B2 F3 N3 (U.keeps B2.stays) T3 ⟨_, _, _, _, rfl, hcd₉, hcq₉, hltc, rfl⟩
set_option maxHeartbeats 400000 in
theorem leafT1_tell {w : World} {ta x : Str} {tk tt t : Tok} (hx : x.length ≤ 1000) (ht : ta.length ≤ 1000) {c₉ : Addr} {oc₉ : Obj} {vs₉ : Array Value} {tq₉ : Tok} (R : List (Addr × Obj)) (hcm : (c₉, oc₉) ∈ R) (hcd₉ : oc₉.data = .fields vs₉) (hcq₉ : vs₉[1]? = some (.str lamQ1 tq₉)) (hR : ∀ p ∈ R, p.1 ≠ 375) :
    TellB w 380 [.str (Str.ofString "text") tk, .str ta tt, .str x t] 14 ((375, tabObj #[rawInt 230, rawInt 22, .ref c₉]) :: R) (fun news' r => news' = (375, tabObj #[rawInt 230, rawInt 22, .ref c₉]) :: R ∧ r = .bool true) := by
  unfold TellB
  intro loose mean mg mb dp un gd cn cs a ccd cl outer A₀ base h₀ L m s Q E B F U N hb hlt hk hd hu ret
  obtain ⟨kind, nm, ig, ic, mr⟩ := cs
  obtain ⟨sh, sg, sd, st, so⟩ := s
  obtain rfl : kind = .function := hk
  refine wpAny_call ?_
  k_dflt (refine' enterBC B F U N hb hlt ?kA ?kK ?k6 ?k7 ?k8 ?k9 ?kB ?kD ?_ ?c2 ?c3 ?c4; (case kA => exact rfl); (case kK => exact rfl); (case k6 => k_is); (case k7 => k_is); (case k8 => k_room); (case k9 => first | exact BindsTo.of_eq rfl | exact binds_K (by k_in) rfl (by k_is) rfl rfl rfl); (case kB => exact rfl); (case kD => decide +kernel); (case c2 => exact rfl); (case c3 => exact rfl); (case c4 => exact rfl); k_whole; intro g' L' h' tk' cells' FG' F' N' Y' B' X' T' hb' hlt' l1; (try k_lt l1); k_cells Y'; (try simp only [List.cons_append, List.nil_append] at N'); (try dsimp only); (try k_lift B'))
  rename Fr _ _ _ _ => F1
  refine (let qk : Flow → Shared → Prop := _; let ek : Value → Shared → Prop := _; let A1 : Around := _; let m1 : Str → Option Value := _; let t1 : Nat := _; have F1 : Fr _ _ _ m1 := F1; (?_ : wpAny _ A1 _ qk ek (Shared.mk _ _ _ t1 _)))
  rename _ < _ ∧ AllLt _ R => l0
  have hRL := allLt_mem l0.2
  (repeat' (first | ((with_reducible show wpAny _ _ (call (Value.ref 197) _) _ _ _); refine stop_at ?_) | ((with_reducible show wpAny _ _ (call (Value.ref 190) _) _ _ _); refine stop_at ?_) | ((with_reducible show wpAny _ _ (call (Value.ref 183) _) _ _ _); refine stop_at ?_) | ((with_reducible show wpAny _ _ (call (Value.ref 373) _) _ _ _); refine stop_at ?_) | ((with_reducible show wpAny _ _ (call (Value.ref 344) _) _ _ _); refine stop_at ?_) | ((with_reducible show wpAny _ _ (callWith _ (Value.ref _) _ (backTo _ (starEach (_ :: _) _)) []) _ _ _); k_dflt (refine' callWith_mine ?zkX ?zkk ?_ ?zhe ?zhp; (case zhe => exact rfl); (case zhp => exact rfl); (case zkX => with_reducible assumption); (case zkk => with_unfolding_all exact rfl))) | (k_unfold; (try dsimp only)) | walk1 | (dsimp only; walk1) | (leave1; (try dsimp only))))
  refine go_on ?_
  rename Fr _ _ _ _ => F2
  rename News _ _ _ _ => N2
  rename _ < _ ∧ _ < _ ∧ _ < _ ∧ _ < _ ∧ 375 < _ ∧ AllLt _ R => lL
  have hC1 := (U.keeps B'.stays).c1
  refine' Tell.useRow (room := 4) ?B F2 ?X N2 ?T rfl ?d ?u (addText_tell (rows := []) (k := 0) _ ?hR ?hT (by decide)) ?_
  case B => k_asm
  case X => k_asm
  case T => k_asm
  case d => k_room
  case u => k_units
  case hR => exact all_off lL
  case hT => exact ⟨_, _, _, List.mem_cons_self, List.mem_cons_of_mem _ List.mem_cons_self⟩
  intro a9 dx9 es9 n9 ch9 at9 ns9 k9 tr9 h' tk' F' N' hFl hfr hlt9
  have e1 := five hfr (.tail _ (.tail _ (.tail _ (.head _))))
  have e2 := five hfr (.tail _ (.tail _ (.tail _ (.tail _ (.head _)))))
  have e3 := five hfr (.tail _ (.tail _ (.tail _ (.tail _ (.tail _ (.head _))))))
  simp only [newRow, List.cons_append, List.nil_append] at N'
  clear F2 N2
  (repeat' (first | ((with_reducible show wpAny _ _ (call (Value.ref 197) _) _ _ _); refine stop_at ?_) | ((with_reducible show wpAny _ _ (call (Value.ref 190) _) _ _ _); refine stop_at ?_) | ((with_reducible show wpAny _ _ (call (Value.ref 183) _) _ _ _); refine stop_at ?_) | ((with_reducible show wpAny _ _ (call (Value.ref 373) _) _ _ _); refine stop_at ?_) | ((with_reducible show wpAny _ _ (call (Value.ref 344) _) _ _ _); refine stop_at ?_) | ((with_reducible show wpAny _ _ (callWith _ (Value.ref _) _ (backTo _ (starEach (_ :: _) _)) []) _ _ _); k_dflt (refine' callWith_mine ?zkX ?zkk ?_ ?zhe ?zhp; (case zhe => exact rfl); (case zhp => exact rfl); (case zkX => with_reducible assumption); (case zkk => with_unfolding_all exact rfl))) | (k_unfold; (try dsimp only)) | walk1 | (dsimp only; walk1) | (leave1; (try dsimp only))))
  refine go_on ?_
  rename Fr _ _ _ _ => F5
  rename News _ _ _ _ => N5
  have hd9 := leaf_text (d := ⟨Str.ofString "text", Str.ofString "", Str.ofString "", Str.ofString "", x, .none, ch9, at9, ns9⟩) (ta := ta) (x := x) rfl rfl
  refine' TellB.use (room := 10) ?B F5 ?U N5 ?hb ?hlt rfl ?d ?u (heard_tell (o := leafOf ⟨Str.ofString "text", Str.ofString "", Str.ofString "", Str.ofString "", x, .none, ch9, at9, ns9⟩) ?hm ?C) ?_
  case B => k_asm
  case U => exact U
  case hb => exact hb'
  case hlt => exact hlt'
  case d => k_room
  case u => k_units
  case hm => exact List.mem_cons_self
  case C =>
    refine' lam_tell (a9 := a9) (rows := [.ref a9]) (k := k9) (d := ⟨Str.ofString "text", Str.ofString "", Str.ofString "", Str.ofString "", x, .none, ch9, at9, ns9⟩) _ List.mem_cons_self (by with_unfolding_all rfl) (by with_unfolding_all rfl) ?c1 ?c2 ?c3 ?c4 ?c5 ?c6 ?c7 ?c8 ?c9 ?h0 ?hz ?hi ?c10 ?c11 ?c12
    case c1 => exact List.mem_cons_of_mem _ (by k_mem)
    case c2 => exact hcd₉
    case c3 => exact hcq₉
    case c5 => with_reducible assumption
    case c7 => with_reducible assumption
    case c4 => k_mem
    case c6 => k_mem
    case c8 => exact ⟨_, _, _, by k_mem, by k_mem⟩
    case c9 => k_mem
    case h0 => exact Int.natCast_nonneg _
    case hz => exact Nat.le_of_ble_eq_true rfl
    case hi => rfl
    case c10 => exact nodeAt_of hFl (by k_mem) (by k_mem)
    case c11 => exact hx
    case c12 => exact Nat.le_of_ble_eq_true rfl
  intro r' nw' h' tk' h₁ B1 F1 N1 U1 FT1 hP'
  rw [hd9] at hP'
  clear F5 N5
  have X1 := U1.X
  have T1 := U1.T
  cases ho : lawLeafOf (Str.ofString "text") ta x with
  | none =>
    rw [ho] at hP'
    first | (refine el_0_5 hP' fun T9 t9 hrf2 hlT hrf4 => ?_; subst hrf2; subst hrf4) | (refine el_1_4 hP' fun T9 t9 hrf2 hlT hrf4 => ?_; subst hrf2; subst hrf4) | (refine el_2_3 hP' fun T9 t9 hrf2 hlT hrf4 => ?_; subst hrf2; subst hrf4) | (refine el_3_2 hP' fun T9 t9 hrf2 hlT hrf4 => ?_; subst hrf2; subst hrf4) | (refine el_4_1 hP' fun T9 t9 hrf2 hlT hrf4 => ?_; subst hrf2; subst hrf4) | obtain ⟨T9, t9, rfl, hlT, rfl⟩ := hP'
    try clear hP'
    (repeat' (first | ((with_reducible show wpAny _ _ (call (Value.ref 197) _) _ _ _); refine stop_at ?_) | ((with_reducible show wpAny _ _ (call (Value.ref 190) _) _ _ _); refine stop_at ?_) | ((with_reducible show wpAny _ _ (call (Value.ref 183) _) _ _ _); refine stop_at ?_) | ((with_reducible show wpAny _ _ (call (Value.ref 373) _) _ _ _); refine stop_at ?_) | ((with_reducible show wpAny _ _ (call (Value.ref 344) _) _ _ _); refine stop_at ?_) | ((with_reducible show wpAny _ _ (callWith _ (Value.ref _) _ (backTo _ (starEach (_ :: _) _)) []) _ _ _); k_dflt (refine' callWith_mine ?zkX ?zkk ?_ ?zhe ?zhp; (case zhe => exact rfl); (case zhp => exact rfl); (case zkX => with_reducible assumption); (case zkk => with_unfolding_all exact rfl))) | (k_unfold; (try dsimp only)) | walk1 | (dsimp only; walk1) | (leave1; (try dsimp only))))
    refine go_on ?_
    rename Fr _ _ _ _ => F6
    rename News _ _ _ _ => N6
    refine' Tell.use (room := 4) B1 F6 X1 N6 T1 rfl ?d ?u (lawLeaf_tell (kd := Str.ofString "text") hx ht _) (fun p hp => hp) ?_
    case d => k_room
    case u => k_units
    intro r2 nw2 h2 tk2 F2 N2 hP2
    rw [ho] at hP2
    clear F6 N6
    first | (refine el_0_5 hP2 fun T8 t8 hrf2 hlT8 hrf4 => ?_; subst hrf2; subst hrf4) | (refine el_1_4 hP2 fun T8 t8 hrf2 hlT8 hrf4 => ?_; subst hrf2; subst hrf4) | (refine el_2_3 hP2 fun T8 t8 hrf2 hlT8 hrf4 => ?_; subst hrf2; subst hrf4) | (refine el_3_2 hP2 fun T8 t8 hrf2 hlT8 hrf4 => ?_; subst hrf2; subst hrf4) | (refine el_4_1 hP2 fun T8 t8 hrf2 hlT8 hrf4 => ?_; subst hrf2; subst hrf4) | obtain ⟨T8, t8, rfl, hlT8, rfl⟩ := hP2
    try clear hP2
    unfold tupR at N2
    (repeat' (first | ((with_reducible show wpAny _ _ (call (Value.ref 197) _) _ _ _); refine stop_at ?_) | ((with_reducible show wpAny _ _ (call (Value.ref 190) _) _ _ _); refine stop_at ?_) | ((with_reducible show wpAny _ _ (call (Value.ref 183) _) _ _ _); refine stop_at ?_) | ((with_reducible show wpAny _ _ (call (Value.ref 373) _) _ _ _); refine stop_at ?_) | ((with_reducible show wpAny _ _ (call (Value.ref 344) _) _ _ _); refine stop_at ?_) | ((with_reducible show wpAny _ _ (callWith _ (Value.ref _) _ (backTo _ (starEach (_ :: _) _)) []) _ _ _); k_dflt (refine' callWith_mine ?zkX ?zkk ?_ ?zhe ?zhp; (case zhe => exact rfl); (case zhp => exact rfl); (case zkX => with_reducible assumption); (case zkk => with_unfolding_all exact rfl))) | (k_unfold; (try dsimp only)) | walk1 | (dsimp only; walk1) | (leave1; (try dsimp only))))
    refine go_on ?_
    exact leaveB_ F2 (news_sub N2 (by kcf_all)) B1.stays FT1 fun h₁ B2 F3 N3 T3 => ret _ _ _ _ _ B2 F3 N3 (U.keeps B2.stays) T3 ⟨rfl, rfl⟩
  | some y =>
    rw [ho] at hP'
    first | (refine el_0_3 hP' fun hrf0 t9 hrf2 => ?_; subst hrf0; subst hrf2) | (refine el_1_2 hP' fun hrf0 t9 hrf2 => ?_; subst hrf0; subst hrf2) | (refine el_2_1 hP' fun hrf0 t9 hrf2 => ?_; subst hrf0; subst hrf2) | obtain ⟨rfl, t9, rfl⟩ := hP'
    try clear hP'
    (repeat' (first | ((with_reducible show wpAny _ _ (call (Value.ref 197) _) _ _ _); refine stop_at ?_) | ((with_reducible show wpAny _ _ (call (Value.ref 190) _) _ _ _); refine stop_at ?_) | ((with_reducible show wpAny _ _ (call (Value.ref 183) _) _ _ _); refine stop_at ?_) | ((with_reducible show wpAny _ _ (call (Value.ref 373) _) _ _ _); refine stop_at ?_) | ((with_reducible show wpAny _ _ (call (Value.ref 344) _) _ _ _); refine stop_at ?_) | ((with_reducible show wpAny _ _ (callWith _ (Value.ref _) _ (backTo _ (starEach (_ :: _) _)) []) _ _ _); k_dflt (refine' callWith_mine ?zkX ?zkk ?_ ?zhe ?zhp; (case zhe => exact rfl); (case zhp => exact rfl); (case zkX => with_reducible assumption); (case zkk => with_unfolding_all exact rfl))) | (k_unfold; (try dsimp only)) | walk1 | (dsimp only; walk1) | (leave1; (try dsimp only))))
    refine go_on ?_
    rename Fr _ _ _ _ => F6
    rename News _ _ _ _ => N6
    refine' Tell.use (room := 4) B1 F6 X1 N6 T1 rfl ?d ?u (lawLeaf_tell (kd := Str.ofString "text") hx ht _) (fun p hp => hp) ?_
    case d => k_room
    case u => k_units
    intro r2 nw2 h2 tk2 F2 N2 hP2
    rw [ho] at hP2
    clear F6 N6
    first | (refine el_0_3 hP2 fun hrf0 t8 hrf2 => ?_; subst hrf0; subst hrf2) | (refine el_1_2 hP2 fun hrf0 t8 hrf2 => ?_; subst hrf0; subst hrf2) | (refine el_2_1 hP2 fun hrf0 t8 hrf2 => ?_; subst hrf0; subst hrf2) | obtain ⟨rfl, t8, rfl⟩ := hP2
    try clear hP2
    (repeat' (first | ((with_reducible show wpAny _ _ (call (Value.ref 197) _) _ _ _); refine stop_at ?_) | ((with_reducible show wpAny _ _ (call (Value.ref 190) _) _ _ _); refine stop_at ?_) | ((with_reducible show wpAny _ _ (call (Value.ref 183) _) _ _ _); refine stop_at ?_) | ((with_reducible show wpAny _ _ (call (Value.ref 373) _) _ _ _); refine stop_at ?_) | ((with_reducible show wpAny _ _ (call (Value.ref 344) _) _ _ _); refine stop_at ?_) | ((with_reducible show wpAny _ _ (callWith _ (Value.ref _) _ (backTo _ (starEach (_ :: _) _)) []) _ _ _); k_dflt (refine' callWith_mine ?zkX ?zkk ?_ ?zhe ?zhp; (case zhe => exact rfl); (case zhp => exact rfl); (case zkX => with_reducible assumption); (case zkk => with_unfolding_all exact rfl))) | (k_unfold; (try dsimp only)) | walk1 | (dsimp only; walk1) | (leave1; (try dsimp only))))
    refine go_on ?_
    rw [show (y == y) = true from beq_self_eq_true y]
    exact leaveB_ F2 (news_sub N2 (by kcf_all)) B1.stays FT1 fun h₁ B2 F3 N3 T3 => ret _ _ _ _ _ B2 F3 N3 (U.keeps B2.stays) T3 ⟨rfl, rfl⟩
set_option maxHeartbeats 400000 in
theorem leafC0_tell {w : World} {ta x : Str} {tk tt t : Tok} (hx : x.length ≤ 1000) (ht : ta.length ≤ 1000) (R : List (Addr × Obj)) (hR : ∀ p ∈ R, p.1 ≠ 375) :
    TellB w 380 [.str (Str.ofString "comment") tk, .str ta tt, .str x t] 14 ((375, tabObj #[]) :: R) (fun news' r => ∃ c' oc vs tq, news' = (375, tabObj #[rawInt 230, rawInt 22, .ref c']) :: (c', oc) :: R ∧ oc.data = .fields vs ∧ vs[1]? = some (.str lamQ1 tq) ∧ (∀ p ∈ (375, tabObj #[]) :: R, p.1 < c') ∧ r = .bool true) := by
  unfold TellB
  intro loose mean mg mb dp un gd cn cs a ccd cl outer A₀ base h₀ L m s Q E B F U N hb hlt hk hd hu ret
  obtain ⟨kind, nm, ig, ic, mr⟩ := cs
  obtain ⟨sh, sg, sd, st, so⟩ := s
  obtain rfl : kind = .function := hk
  refine wpAny_call ?_
  k_dflt (refine' enterBC B F U N hb hlt ?kA ?kK ?k6 ?k7 ?k8 ?k9 ?kB ?kD ?_ ?c2 ?c3 ?c4; (case kA => exact rfl); (case kK => exact rfl); (case k6 => k_is); (case k7 => k_is); (case k8 => k_room); (case k9 => first | exact BindsTo.of_eq rfl | exact binds_K (by k_in) rfl (by k_is) rfl rfl rfl); (case kB => exact rfl); (case kD => decide +kernel); (case c2 => exact rfl); (case c3 => exact rfl); (case c4 => exact rfl); k_whole; intro g' L' h' tk' cells' FG' F' N' Y' B' X' T' hb' hlt' l1; (try k_lt l1); k_cells Y'; (try simp only [List.cons_append, List.nil_append] at N'); (try dsimp only); (try k_lift B'))
  rename Fr _ _ _ _ => F1
  refine (let qk : Flow → Shared → Prop := _; let ek : Value → Shared → Prop := _; let A1 : Around := _; let m1 : Str → Option Value := _; let t1 : Nat := _; have F1 : Fr _ _ _ m1 := F1; (?_ : wpAny _ A1 _ qk ek (Shared.mk _ _ _ t1 _)))
  rename _ < _ ∧ AllLt _ R => l0
  have hRL := allLt_mem l0.2
  (repeat' (first | ((with_reducible show wpAny _ _ (call (Value.ref 197) _) _ _ _); refine stop_at ?_) | ((with_reducible show wpAny _ _ (call (Value.ref 190) _) _ _ _); refine stop_at ?_) | ((with_reducible show wpAny _ _ (call (Value.ref 183) _) _ _ _); refine stop_at ?_) | ((with_reducible show wpAny _ _ (call (Value.ref 373) _) _ _ _); refine stop_at ?_) | ((with_reducible show wpAny _ _ (call (Value.ref 344) _) _ _ _); refine stop_at ?_) | ((with_reducible show wpAny _ _ (callWith _ (Value.ref _) _ (backTo _ (starEach (_ :: _) _)) []) _ _ _); k_dflt (refine' callWith_mine ?zkX ?zkk ?_ ?zhe ?zhp; (case zhe => exact rfl); (case zhp => exact rfl); (case zkX => with_reducible assumption); (case zkk => with_unfolding_all exact rfl))) | (k_unfold; (try dsimp only)) | walk1 | (dsimp only; walk1) | (leave1; (try dsimp only))))
  refine go_on ?_
  rename Fr _ _ _ _ => F2
  rename News _ _ _ _ => N2
  rename _ < _ ∧ _ < _ ∧ _ < _ ∧ _ < _ ∧ 375 < _ ∧ AllLt _ R => lL
  have hC1 := (U.keeps B'.stays).c1
  refine' Tell.useRow (room := 4) ?B F2 ?X N2 ?T rfl ?d ?u (addComment_tell (rows := []) (k := 0) _ ?hR ?hT (by decide)) ?_
  case B => k_asm
  case X => k_asm
  case T => k_asm
  case d => k_room
  case u => k_units
  case hR => exact all_off lL
  case hT => exact ⟨_, _, _, List.mem_cons_self, List.mem_cons_of_mem _ List.mem_cons_self⟩
  intro a9 dx9 es9 n9 ch9 at9 ns9 k9 tr9 h' tk' F' N' hFl hfr hlt9
  have e1 := five hfr (.tail _ (.tail _ (.tail _ (.head _))))
  have e2 := five hfr (.tail _ (.tail _ (.tail _ (.tail _ (.head _)))))
  have e3 := five hfr (.tail _ (.tail _ (.tail _ (.tail _ (.tail _ (.head _))))))
  simp only [newRow, List.cons_append, List.nil_append] at N'
  clear F2 N2
  (repeat' (first | ((with_reducible show wpAny _ _ (call (Value.ref 197) _) _ _ _); refine stop_at ?_) | ((with_reducible show wpAny _ _ (call (Value.ref 190) _) _ _ _); refine stop_at ?_) | ((with_reducible show wpAny _ _ (call (Value.ref 183) _) _ _ _); refine stop_at ?_) | ((with_reducible show wpAny _ _ (call (Value.ref 373) _) _ _ _); refine stop_at ?_) | ((with_reducible show wpAny _ _ (call (Value.ref 344) _) _ _ _); refine stop_at ?_) | ((with_reducible show wpAny _ _ (callWith _ (Value.ref _) _ (backTo _ (starEach (_ :: _) _)) []) _ _ _); k_dflt (refine' callWith_mine ?zkX ?zkk ?_ ?zhe ?zhp; (case zhe => exact rfl); (case zhp => exact rfl); (case zkX => with_reducible assumption); (case zkk => with_unfolding_all exact rfl))) | (k_unfold; (try dsimp only)) | walk1 | (dsimp only; walk1) | (leave1; (try dsimp only))))
  refine go_on ?_
  rename Obj.data _ = Data.fields _ => hcd₉
  rename _[1]? = some _ => hcq₉
  rename _ < _ ∧ _ < _ ∧ _ < _ ∧ _ < _ ∧ _ < _ ∧ _ < _ ∧ _ < _ ∧ _ < _ ∧ _ < _ ∧ _ < _ ∧ 375 < _ ∧ AllLt _ R => lC
  have hltc : ∀ p ∈ (375, tabObj #[]) :: R, p.1 < _ := allLt_mem lC.2.2.2.2.2.2.2.2.2.2
  rename Fr _ _ _ _ => F5
  rename News _ _ _ _ => N5
  have hd9 := leaf_comment (d := ⟨Str.ofString "comment", Str.ofString "", Str.ofString "", Str.ofString "", x, .none, ch9, at9, ns9⟩) (ta := ta) (x := x) rfl rfl
  refine' TellB.use (room := 10) ?B F5 ?U N5 ?hb ?hlt rfl ?d ?u (heard_tell (o := leafOf ⟨Str.ofString "comment", Str.ofString "", Str.ofString "", Str.ofString "", x, .none, ch9, at9, ns9⟩) ?hm ?C) ?_
  case B => k_asm
  case U => exact U
  case hb => exact hb'
  case hlt => exact hlt'
  case d => k_room
  case u => k_units
  case hm => exact List.mem_cons_self
  case C =>
    refine' lam_tell (a9 := a9) (rows := [.ref a9]) (k := k9) (d := ⟨Str.ofString "comment", Str.ofString "", Str.ofString "", Str.ofString "", x, .none, ch9, at9, ns9⟩) _ List.mem_cons_self (by with_unfolding_all rfl) (by with_unfolding_all rfl) ?c1 ?c2 ?c3 ?c4 ?c5 ?c6 ?c7 ?c8 ?c9 ?h0 ?hz ?hi ?c10 ?c11 ?c12
    case c1 => exact List.mem_cons_of_mem _ List.mem_cons_self
    case c2 => with_reducible assumption
    case c3 => with_reducible assumption
    case c5 => with_reducible assumption
    case c7 => with_reducible assumption
    case c4 => k_mem
    case c6 => k_mem
    case c8 => exact ⟨_, _, _, by k_mem, by k_mem⟩
    case c9 => k_mem
    case h0 => exact Int.natCast_nonneg _
    case hz => exact Nat.le_of_ble_eq_true rfl
    case hi => rfl
    case c10 => exact nodeAt_of hFl (by k_mem) (by k_mem)
    case c11 => exact hx
    case c12 => exact Nat.le_of_ble_eq_true rfl
  intro r' nw' h' tk' h₁ B1 F1 N1 U1 FT1 hP'
  rw [hd9] at hP'
  clear F5 N5
  have X1 := U1.X
  have T1 := U1.T
  cases ho : lawLeafOf (Str.ofString "comment") ta x with
  | none =>
    rw [ho] at hP'
    first | (refine el_0_5 hP' fun T9 t9 hrf2 hlT hrf4 => ?_; subst hrf2; subst hrf4) | (refine el_1_4 hP' fun T9 t9 hrf2 hlT hrf4 => ?_; subst hrf2; subst hrf4) | (refine el_2_3 hP' fun T9 t9 hrf2 hlT hrf4 => ?_; subst hrf2; subst hrf4) | (refine el_3_2 hP' fun T9 t9 hrf2 hlT hrf4 => ?_; subst hrf2; subst hrf4) | (refine el_4_1 hP' fun T9 t9 hrf2 hlT hrf4 => ?_; subst hrf2; subst hrf4) | obtain ⟨T9, t9, rfl, hlT, rfl⟩ := hP'
    try clear hP'
    (repeat' (first | ((with_reducible show wpAny _ _ (call (Value.ref 197) _) _ _ _); refine stop_at ?_) | ((with_reducible show wpAny _ _ (call (Value.ref 190) _) _ _ _); refine stop_at ?_) | ((with_reducible show wpAny _ _ (call (Value.ref 183) _) _ _ _); refine stop_at ?_) | ((with_reducible show wpAny _ _ (call (Value.ref 373) _) _ _ _); refine stop_at ?_) | ((with_reducible show wpAny _ _ (call (Value.ref 344) _) _ _ _); refine stop_at ?_) | ((with_reducible show wpAny _ _ (callWith _ (Value.ref _) _ (backTo _ (starEach (_ :: _) _)) []) _ _ _); k_dflt (refine' callWith_mine ?zkX ?zkk ?_ ?zhe ?zhp; (case zhe => exact rfl); (case zhp => exact rfl); (case zkX => with_reducible assumption); (case zkk => with_unfolding_all exact rfl))) | (k_unfold; (try dsimp only)) | walk1 | (dsimp only; walk1) | (leave1; (try dsimp only))))
    refine go_on ?_
    rename Fr _ _ _ _ => F6
    rename News _ _ _ _ => N6
    refine' Tell.use (room := 4) B1 F6 X1 N6 T1 rfl ?d ?u (lawLeaf_tell (kd := Str.ofString "comment") hx ht _) (fun p hp => hp) ?_
    case d => k_room
    case u => k_units
    intro r2 nw2 h2 tk2 F2 N2 hP2
    rw [ho] at hP2
    clear F6 N6
    first | (refine el_0_5 hP2 fun T8 t8 hrf2 hlT8 hrf4 => ?_; subst hrf2; subst hrf4) | (refine el_1_4 hP2 fun T8 t8 hrf2 hlT8 hrf4 => ?_; subst hrf2; subst hrf4) | (refine el_2_3 hP2 fun T8 t8 hrf2 hlT8 hrf4 => ?_; subst hrf2; subst hrf4) | (refine el_3_2 hP2 fun T8 t8 hrf2 hlT8 hrf4 => ?_; subst hrf2; subst hrf4) | (refine el_4_1 hP2 fun T8 t8 hrf2 hlT8 hrf4 => ?_; subst hrf2; subst hrf4) | obtain ⟨T8, t8, rfl, hlT8, rfl⟩ := hP2
    try clear hP2
    unfold tupR at N2
    (repeat' (first | ((with_reducible show wpAny _ _ (call (Value.ref 197) _) _ _ _); refine stop_at ?_) | ((with_reducible show wpAny _ _ (call (Value.ref 190) _) _ _ _); refine stop_at ?_) | ((with_reducible show wpAny _ _ (call (Value.ref 183) _) _ _ _); refine stop_at ?_) | ((with_reducible show wpAny _ _ (call (Value.ref 373) _) _ _ _); refine stop_at ?_) | ((with_reducible show wpAny _ _ (call (Value.ref 344) _) _ _ _); refine stop_at ?_) | ((with_reducible show wpAny _ _ (callWith _ (Value.ref _) _ (backTo _ (starEach (_ :: _) _)) []) _ _ _); k_dflt (refine' callWith_mine ?zkX ?zkk ?_ ?zhe ?zhp; (case zhe => exact rfl); (case zhp => exact rfl); (case zkX => with_reducible assumption); (case zkk => with_unfolding_all exact rfl))) | (k_unfold; (try dsimp only)) | walk1 | (dsimp only; walk1) | (leave1; (try dsimp only))))
    refine go_on ?_
    exact leaveB_ F2 (news_sub N2 (by kcf_all)) B1.stays FT1 fun h₁ B2 F3 N3 T3 => ret _ _ _ _ _ B2 F3 N3 (U.keeps B2.stays) T3 ⟨_, _, _, _, rfl, hcd₉, hcq₉, hltc, rfl⟩
  | some y =>
    rw [ho] at hP'
    first | (refine el_0_3 hP' fun hrf0 t9 hrf2 => ?_; subst hrf0; subst hrf2) | (refine el_1_2 hP' fun hrf0 t9 hrf2 => ?_; subst hrf0; subst hrf2) | (refine el_2_1 hP' fun hrf0 t9 hrf2 => ?_; subst hrf0; subst hrf2) | obtain ⟨rfl, t9, rfl⟩ := hP'
    try clear hP'
    (repeat' (first | ((with_reducible show wpAny _ _ (call (Value.ref 197) _) _ _ _); refine stop_at ?_) | ((with_reducible show wpAny _ _ (call (Value.ref 190) _) _ _ _); refine stop_at ?_) | ((with_reducible show wpAny _ _ (call (Value.ref 183) _) _ _ _); refine stop_at ?_) | ((with_reducible show wpAny _ _ (call (Value.ref 373) _) _ _ _); refine stop_at ?_) | ((with_reducible show wpAny _ _ (call (Value.ref 344) _) _ _ _); refine stop_at ?_) | ((with_reducible show wpAny _ _ (callWith _ (Value.ref _) _ (backTo _ (starEach (_ :: _) _)) []) _ _ _); k_dflt (refine' callWith_mine ?zkX ?zkk ?_ ?zhe ?zhp; (case zhe => exact rfl); (case zhp => exact rfl); (case zkX => with_reducible assumption); (case zkk => with_unfolding_all exact rfl))) | (k_unfold; (try dsimp only)) | walk1 | (dsimp only; walk1) | (leave1; (try dsimp only))))
    refine go_on ?_
    rename Fr _ _ _ _ => F6
    rename News _ _ _ _ => N6
    refine' Tell.use (room := 4) B1 F6 X1 N6 T1 rfl ?d ?u (lawLeaf_tell (kd := Str.ofString "comment") hx ht _) (fun p hp => hp) ?_
    case d => k_room
    case u => k_units
    intro r2 nw2 h2 tk2 F2 N2 hP2
    rw [ho] at hP2
    clear F6 N6
    first | (refine el_0_3 hP2 fun hrf0 t8 hrf2 => ?_; subst hrf0; subst hrf2) | (refine el_1_2 hP2 fun hrf0 t8 hrf2 => ?_; subst hrf0; subst hrf2) | (refine el_2_1 hP2 fun hrf0 t8 hrf2 => ?_; subst hrf0; subst hrf2) | obtain ⟨rfl, t8, rfl⟩ := hP2
    try clear hP2
    (repeat' (first | ((with_reducible show wpAny _ _ (call (Value.ref 197) _) _ _ _); refine stop_at ?_) | ((with_reducible show wpAny _ _ (call (Value.ref 190) _) _ _ _); refine stop_at ?_) | ((with_reducible show wpAny _ _ (call (Value.ref 183) _) _ _ _); refine stop_at ?_) | ((with_reducible show wpAny _ _ (call (Value.ref 373) _) _ _ _); refine stop_at ?_) | ((with_reducible show wpAny _ _ (call (Value.ref 344) _) _ _ _); refine stop_at ?_) | ((with_reducible show wpAny _ _ (callWith _ (Value.ref _) _ (backTo _ (starEach (_ :: _) _)) []) _ _ _); k_dflt (refine' callWith_mine ?zkX ?zkk ?_ ?zhe ?zhp; (case zhe => exact rfl); (case zhp => exact rfl); (case zkX => with_reducible assumption); (case zkk => with_unfolding_all exact rfl))) | (k_unfold; (try dsimp only)) | walk1 | (dsimp only; walk1) | (leave1; (try dsimp only))))
    refine go_on ?_
    rw [show (y == y) = true from beq_self_eq_true y]
    exact leaveB_ F2 (news_sub N2 (by kcf_all)) B1.stays FT1 fun h₁ B2 F3 N3 T3 => ret _ _ _ _ _ B2 F3 N3 (U.keeps B2.stays) T3 ⟨_, _, _, _, rfl, hcd₉, hcq₉, hltc, rfl⟩
set_option maxHeartbeats 400000 in
theorem leafC1_tell {w : World} {ta x : Str} {tk tt t : Tok} (hx : x.length ≤ 1000) (ht : ta.length ≤ 1000) {c₉ : Addr} {oc₉ : Obj} {vs₉ : Array Value} {tq₉ : Tok} (R : List (Addr × Obj)) (hcm : (c₉, oc₉) ∈ R) (hcd₉ : oc₉.data = .fields vs₉) (hcq₉ : vs₉[1]? = some (.str lamQ1 tq₉)) (hR : ∀ p ∈ R, p.1 ≠ 375) :
    TellB w 380 [.str (Str.ofString "comment") tk, .str ta tt, .str x t] 14 ((375, tabObj #[rawInt 230, rawInt 22, .ref c₉]) :: R) (fun news' r => news' = (375, tabObj #[rawInt 230, rawInt 22, .ref c₉]) :: R ∧ r = .bool true) := by
  unfold TellB
  intro loose mean mg mb dp un gd cn cs a ccd cl outer A₀ base h₀ L m s Q E B F U N hb hlt hk hd hu ret
  obtain ⟨kind, nm, ig, ic, mr⟩ := cs
  obtain ⟨sh, sg, sd, st, so⟩ := s
  obtain rfl : kind = .function := hk
  refine wpAny_call ?_
  k_dflt (refine' enterBC B F U N hb hlt ?kA ?kK ?k6 ?k7 ?k8 ?k9 ?kB ?kD ?_ ?c2 ?c3 ?c4; (case kA => exact rfl); (case kK => exact rfl); (case k6 => k_is); (case k7 => k_is); (case k8 => k_room); (case k9 => first | exact BindsTo.of_eq rfl | exact binds_K (by k_in) rfl (by k_is) rfl rfl rfl); (case kB => exact rfl); (case kD => decide +kernel); (case c2 => exact rfl); (case c3 => exact rfl); (case c4 => exact rfl); k_whole; intro g' L' h' tk' cells' FG' F' N' Y' B' X' T' hb' hlt' l1; (try k_lt l1); k_cells Y'; (try simp only [List.cons_append, List.nil_append] at N'); (try dsimp only); (try k_lift B'))
  rename Fr _ _ _ _ => F1
  refine (let qk : Flow → Shared → Prop := _; let ek : Value → Shared → Prop := _; let A1 : Around := _; let m1 : Str → Option Value := _; let t1 : Nat := _; have F1 : Fr _ _ _ m1 := F1; (?_ : wpAny _ A1 _ qk ek (Shared.mk _ _ _ t1 _)))
  rename _ < _ ∧ AllLt _ R => l0
  have hRL := allLt_mem l0.2
  (repeat' (first | ((with_reducible show wpAny _ _ (call (Value.ref 197) _) _ _ _); refine stop_at ?_) | ((with_reducible show wpAny _ _ (call (Value.ref 190) _) _ _ _); refine stop_at ?_) | ((with_reducible show wpAny _ _ (call (Value.ref 183) _) _ _ _); refine stop_at ?_) | ((with_reducible show wpAny _ _ (call (Value.ref 373) _) _ _ _); refine stop_at ?_) | ((with_reducible show wpAny _ _ (call (Value.ref 344) _) _ _ _); refine stop_at ?_) | ((with_reducible show wpAny _ _ (callWith _ (Value.ref _) _ (backTo _ (starEach (_ :: _) _)) []) _ _ _); k_dflt (refine' callWith_mine ?zkX ?zkk ?_ ?zhe ?zhp; (case zhe => exact rfl); (case zhp => exact rfl); (case zkX => with_reducible assumption); (case zkk => with_unfolding_all exact rfl))) | (k_unfold; (try dsimp only)) | walk1 | (dsimp only; walk1) | (leave1; (try dsimp only))))
  refine go_on ?_
  rename Fr _ _ _ _ => F2
  rename News _ _ _ _ => N2
  rename _ < _ ∧ _ < _ ∧ _ < _ ∧ _ < _ ∧ 375 < _ ∧ AllLt _ R => lL
  have hC1 := (U.keeps B'.stays).c1
  refine' Tell.useRow (room := 4) ?B F2 ?X N2 ?T rfl ?d ?u (addComment_tell (rows := []) (k := 0) _ ?hR ?hT (by decide)) ?_
  case B => k_asm
  case X => k_asm
  case T => k_asm
  case d => k_room
  case u => k_units
  case hR => exact all_off lL
  case hT => exact ⟨_, _, _, List.mem_cons_self, List.mem_cons_of_mem _ List.mem_cons_self⟩
  intro a9 dx9 es9 n9 ch9 at9 ns9 k9 tr9 h' tk' F' N' hFl hfr hlt9
  have e1 := five hfr (.tail _ (.tail _ (.tail _ (.head _))))
  have e2 := five hfr (.tail _ (.tail _ (.tail _ (.tail _ (.head _)))))
  have e3 := five hfr (.tail _ (.tail _ (.tail _ (.tail _ (.tail _ (.head _))))))
  simp only [newRow, List.cons_append, List.nil_append] at N'
  clear F2 N2
  (repeat' (first | ((with_reducible show wpAny _ _ (call (Value.ref 197) _) _ _ _); refine stop_at ?_) | ((with_reducible show wpAny _ _ (call (Value.ref 190) _) _ _ _); refine stop_at ?_) | ((with_reducible show wpAny _ _ (call (Value.ref 183) _) _ _ _); refine stop_at ?_) | ((with_reducible show wpAny _ _ (call (Value.ref 373) _) _ _ _); refine stop_at ?_) | ((with_reducible show wpAny _ _ (call (Value.ref 344) _) _ _ _); refine stop_at ?_) | ((with_reducible show wpAny _ _ (callWith _ (Value.ref _) _ (backTo _ (starEach (_ :: _) _)) []) _ _ _); k_dflt (refine' callWith_mine ?zkX ?zkk ?_ ?zhe ?zhp; (case zhe => exact rfl); (case zhp => exact rfl); (case zkX => with_reducible assumption); (case zkk => with_unfolding_all exact rfl))) | (k_unfold; (try dsimp only)) | walk1 | (dsimp only; walk1) | (leave1; (try dsimp only))))
  refine go_on ?_
  rename Fr _ _ _ _ => F5
  rename News _ _ _ _ => N5
  have hd9 := leaf_comment (d := ⟨Str.ofString "comment", Str.ofString "", Str.ofString "", Str.ofString "", x, .none, ch9, at9, ns9⟩) (ta := ta) (x := x) rfl rfl
  refine' TellB.use (room := 10) ?B F5 ?U N5 ?hb ?hlt rfl ?d ?u (heard_tell (o := leafOf ⟨Str.ofString "comment", Str.ofString "", Str.ofString "", Str.ofString "", x, .none, ch9, at9, ns9⟩) ?hm ?C) ?_
  case B => k_asm
  case U => exact U
  case hb => exact hb'
  case hlt => exact hlt'
  case d => k_room
  case u => k_units
  case hm => exact List.mem_cons_self
  case C =>
    refine' lam_tell (a9 := a9) (rows := [.ref a9]) (k := k9) (d := ⟨Str.ofString "comment", Str.ofString "", Str.ofString "", Str.ofString "", x, .none, ch9, at9, ns9⟩) _ List.mem_cons_self (by with_unfolding_all rfl) (by with_unfolding_all rfl) ?c1 ?c2 ?c3 ?c4 ?c5 ?c6 ?c7 ?c8 ?c9 ?h0 ?hz ?hi ?c10 ?c11 ?c12
    case c1 => exact List.mem_cons_of_mem _ (by k_mem)
    case c2 => exact hcd₉
    case c3 => exact hcq₉
    case c5 => with_reducible assumption
    case c7 => with_reducible assumption
    case c4 => k_mem
    case c6 => k_mem
    case c8 => exact ⟨_, _, _, by k_mem, by k_mem⟩
    case c9 => k_mem
    case h0 => exact Int.natCast_nonneg _
    case hz => exact Nat.le_of_ble_eq_true rfl
    case hi => rfl
    case c10 => exact nodeAt_of hFl (by k_mem) (by k_mem)
    case c11 => exact hx
    case c12 => exact Nat.le_of_ble_eq_true rfl
  intro r' nw' h' tk' h₁ B1 F1 N1 U1 FT1 hP'
  rw [hd9] at hP'
  clear F5 N5
  have X1 := U1.X
  have T1 := U1.T
  cases ho : lawLeafOf (Str.ofString "comment") ta x with
  | none =>
    rw [ho] at hP'
    first | (refine el_0_5 hP' fun T9 t9 hrf2 hlT hrf4 => ?_; subst hrf2; subst hrf4) | (refine el_1_4 hP' fun T9 t9 hrf2 hlT hrf4 => ?_; subst hrf2; subst hrf4) | (refine el_2_3 hP' fun T9 t9 hrf2 hlT hrf4 => ?_; subst hrf2; subst hrf4) | (refine el_3_2 hP' fun T9 t9 hrf2 hlT hrf4 => ?_; subst hrf2; subst hrf4) | (refine el_4_1 hP' fun T9 t9 hrf2 hlT hrf4 => ?_; subst hrf2; subst hrf4) | obtain ⟨T9, t9, rfl, hlT, rfl⟩ := hP'
    try clear hP'
    (repeat' (first | ((with_reducible show wpAny _ _ (call (Value.ref 197) _) _ _ _); refine stop_at ?_) | ((with_reducible show wpAny _ _ (call (Value.ref 190) _) _ _ _); refine stop_at ?_) | ((with_reducible show wpAny _ _ (call (Value.ref 183) _) _ _ _); refine stop_at ?_) | ((with_reducible show wpAny _ _ (call (Value.ref 373) _) _ _ _); refine stop_at ?_) | ((with_reducible show wpAny _ _ (call (Value.ref 344) _) _ _ _); refine stop_at ?_) | ((with_reducible show wpAny _ _ (callWith _ (Value.ref _) _ (backTo _ (starEach (_ :: _) _)) []) _ _ _); k_dflt (refine' callWith_mine ?zkX ?zkk ?_ ?zhe ?zhp; (case zhe => exact rfl); (case zhp => exact rfl); (case zkX => with_reducible assumption); (case zkk => with_unfolding_all exact rfl))) | (k_unfold; (try dsimp only)) | walk1 | (dsimp only; walk1) | (leave1; (try dsimp only))))
    refine go_on ?_
    rename Fr _ _ _ _ => F6
    rename News _ _ _ _ => N6
    refine' Tell.use (room := 4) B1 F6 X1 N6 T1 rfl ?d ?u (lawLeaf_tell (kd := Str.ofString "comment") hx ht _) (fun p hp => hp) ?_
    case d => k_room
    case u => k_units
    intro r2 nw2 h2 tk2 F2 N2 hP2
    rw [ho] at hP2
    clear F6 N6
    first | (refine el_0_5 hP2 fun T8 t8 hrf2 hlT8 hrf4 => ?_; subst hrf2; subst hrf4) | (refine el_1_4 hP2 fun T8 t8 hrf2 hlT8 hrf4 => ?_; subst hrf2; subst hrf4) | (refine el_2_3 hP2 fun T8 t8 hrf2 hlT8 hrf4 => ?_; subst hrf2; subst hrf4) | (refine el_3_2 hP2 fun T8 t8 hrf2 hlT8 hrf4 => ?_; subst hrf2; subst hrf4) | (refine el_4_1 hP2 fun T8 t8 hrf2 hlT8 hrf4 => ?_; subst hrf2; subst hrf4) | obtain ⟨T8, t8, rfl, hlT8, rfl⟩ := hP2
    try clear hP2
    unfold tupR at N2
    (repeat' (first | ((with_reducible show wpAny _ _ (call (Value.ref 197) _) _ _ _); refine stop_at ?_) | ((with_reducible show wpAny _ _ (call (Value.ref 190) _) _ _ _); refine stop_at ?_) | ((with_reducible show wpAny _ _ (call (Value.ref 183) _) _ _ _); refine stop_at ?_) | ((with_reducible show wpAny _ _ (call (Value.ref 373) _) _ _ _); refine stop_at ?_) | ((with_reducible show wpAny _ _ (call (Value.ref 344) _) _ _ _); refine stop_at ?_) | ((with_reducible show wpAny _ _ (callWith _ (Value.ref _) _ (backTo _ (starEach (_ :: _) _)) []) _ _ _); k_dflt (refine' callWith_mine ?zkX ?zkk ?_ ?zhe ?zhp; (case zhe => exact rfl); (case zhp => exact rfl); (case zkX => with_reducible assumption); (case zkk => with_unfolding_all exact rfl))) | (k_unfold; (try dsimp only)) | walk1 | (dsimp only; walk1) | (leave1; (try dsimp only))))
    refine go_on ?_
    exact leaveB_ F2 (news_sub N2 (by kcf_all)) B1.stays FT1 fun h₁ B2 F3 N3 T3 => ret _ _ _ _ _ B2 F3 N3 (U.keeps B2.stays) T3 ⟨rfl, rfl⟩
  | some y =>
    rw [ho] at hP'
    first | (refine el_0_3 hP' fun hrf0 t9 hrf2 => ?_; subst hrf0; subst hrf2) | (refine el_1_2 hP' fun hrf0 t9 hrf2 => ?_; subst hrf0; subst hrf2) | (refine el_2_1 hP' fun hrf0 t9 hrf2 => ?_; subst hrf0; subst hrf2) | obtain ⟨rfl, t9, rfl⟩ := hP'
    try clear hP'
    (repeat' (first | ((with_reducible show wpAny _ _ (call (Value.ref 197) _) _ _ _); refine stop_at ?_) | ((with_reducible show wpAny _ _ (call (Value.ref 190) _) _ _ _); refine stop_at ?_) | ((with_reducible show wpAny _ _ (call (Value.ref 183) _) _ _ _); refine stop_at ?_) | ((with_reducible show wpAny _ _ (call (Value.ref 373) _) _ _ _); refine stop_at ?_) | ((with_reducible show wpAny _ _ (call (Value.ref 344) _) _ _ _); refine stop_at ?_) | ((with_reducible show wpAny _ _ (callWith _ (Value.ref _) _ (backTo _ (starEach (_ :: _) _)) []) _ _ _); k_dflt (refine' callWith_mine ?zkX ?zkk ?_ ?zhe ?zhp; (case zhe => exact rfl); (case zhp => exact rfl); (case zkX => with_reducible assumption); (case zkk => with_unfolding_all exact rfl))) | (k_unfold; (try dsimp only)) | walk1 | (dsimp only; walk1) | (leave1; (try dsimp only))))
    refine go_on ?_
    rename Fr _ _ _ _ => F6
    rename News _ _ _ _ => N6
    refine' Tell.use (room := 4) B1 F6 X1 N6 T1 rfl ?d ?u (lawLeaf_tell (kd := Str.ofString "comment") hx ht _) (fun p hp => hp) ?_
    case d => k_room
    case u => k_units
    intro r2 nw2 h2 tk2 F2 N2 hP2
    rw [ho] at hP2
    clear F6 N6
    first | (refine el_0_3 hP2 fun hrf0 t8 hrf2 => ?_; subst hrf0; subst hrf2) | (refine el_1_2 hP2 fun hrf0 t8 hrf2 => ?_; subst hrf0; subst hrf2) | (refine el_2_1 hP2 fun hrf0 t8 hrf2 => ?_; subst hrf0; subst hrf2) | obtain ⟨rfl, t8, rfl⟩ := hP2
    try clear hP2
    (repeat' (first | ((with_reducible show wpAny _ _ (call (Value.ref 197) _) _ _ _); refine stop_at ?_) | ((with_reducible show wpAny _ _ (call (Value.ref 190) _) _ _ _); refine stop_at ?_) | ((with_reducible show wpAny _ _ (call (Value.ref 183) _) _ _ _); refine stop_at ?_) | ((with_reducible show wpAny _ _ (call (Value.ref 373) _) _ _ _); refine stop_at ?_) | ((with_reducible show wpAny _ _ (call (Value.ref 344) _) _ _ _); refine stop_at ?_) | ((with_reducible show wpAny _ _ (callWith _ (Value.ref _) _ (backTo _ (starEach (_ :: _) _)) []) _ _ _); k_dflt (refine' callWith_mine ?zkX ?zkk ?_ ?zhe ?zhp; (case zhe => exact rfl); (case zhp => exact rfl); (case zkX => with_reducible assumption); (case zkk => with_unfolding_all exact rfl))) | (k_unfold; (try dsimp only)) | walk1 | (dsimp only; walk1) | (leave1; (try dsimp only))))
    refine go_on ?_
    rw [show (y == y) = true from beq_self_eq_true y]
    exact leaveB_ F2 (news_sub N2 (by kcf_all)) B1.stays FT1 fun h₁ B2 F3 N3 T3 => ret _ _ _ _ _ B2 F3 N3 (U.keeps B2.stays) T3 ⟨rfl, rfl⟩
set_option maxHeartbeats 400000 in
theorem leafI0_tell {w : World} {ta x : Str} {tk tt t : Tok} (hx : x.length ≤ 1000) (ht : ta.length ≤ 1000) (R : List (Addr × Obj)) (hR : ∀ p ∈ R, p.1 ≠ 375) :
    TellB w 380 [.str (Str.ofString "instruction") tk, .str ta tt, .str x t] 14 ((375, tabObj #[]) :: R) (fun news' r => ∃ c' oc vs tq, news' = (375, tabObj #[rawInt 230, rawInt 22, .ref c']) :: (c', oc) :: R ∧ oc.data = .fields vs ∧ vs[1]? = some (.str lamQ1 tq) ∧ (∀ p ∈ (375, tabObj #[]) :: R, p.1 < c') ∧ r = .bool true) := by
  unfold TellB
  intro loose mean mg mb dp un gd cn cs a ccd cl outer A₀ base h₀ L m s Q E B F U N hb hlt hk hd hu ret
  obtain ⟨kind, nm, ig, ic, mr⟩ := cs
  obtain ⟨sh, sg, sd, st, so⟩ := s
  obtain rfl : kind = .function := hk
  refine wpAny_call ?_
  k_dflt (refine' enterBC B F U N hb hlt ?kA ?kK ?k6 ?k7 ?k8 ?k9 ?kB ?kD ?_ ?c2 ?c3 ?c4; (case kA => exact rfl); (case kK => exact rfl); (case k6 => k_is); (case k7 => k_is); (case k8 => k_room); (case k9 => first | exact BindsTo.of_eq rfl | exact binds_K (by k_in) rfl (by k_is) rfl rfl rfl); (case kB => exact rfl); (case kD => decide +kernel); (case c2 => exact rfl); (case c3 => exact rfl); (case c4 => exact rfl); k_whole; intro g' L' h' tk' cells' FG' F' N' Y' B' X' T' hb' hlt' l1; (try k_lt l1); k_cells Y'; (try simp only [List.cons_append, List.nil_append] at N'); (try dsimp only); (try k_lift B'))
  rename Fr _ _ _ _ => F1
  refine (let qk : Flow → Shared → Prop := _; let ek : Value → Shared → Prop := _; let A1 : Around := _; let m1 : Str → Option Value := _; let t1 : Nat := _; have F1 : Fr _ _ _ m1 := F1; (?_ : wpAny _ A1 _ qk ek (Shared.mk _ _ _ t1 _)))
  rename _ < _ ∧ AllLt _ R => l0
  have hRL := allLt_mem l0.2
  (repeat' (first | ((with_reducible show wpAny _ _ (call (Value.ref 197) _) _ _ _); refine stop_at ?_) | ((with_reducible show wpAny _ _ (call (Value.ref 190) _) _ _ _); refine stop_at ?_) | ((with_reducible show wpAny _ _ (call (Value.ref 183) _) _ _ _); refine stop_at ?_) | ((with_reducible show wpAny _ _ (call (Value.ref 373) _) _ _ _); refine stop_at ?_) | ((with_reducible show wpAny _ _ (call (Value.ref 344) _) _ _ _); refine stop_at ?_) | ((with_reducible show wpAny _ _ (callWith _ (Value.ref _) _ (backTo _ (starEach (_ :: _) _)) []) _ _ _); k_dflt (refine' callWith_mine ?zkX ?zkk ?_ ?zhe ?zhp; (case zhe => exact rfl); (case zhp => exact rfl); (case zkX => with_reducible assumption); (case zkk => with_unfolding_all exact rfl))) | (k_unfold; (try dsimp only)) | walk1 | (dsimp only; walk1) | (leave1; (try dsimp only))))
  refine go_on ?_
  rename Fr _ _ _ _ => F2
  rename News _ _ _ _ => N2
  rename _ < _ ∧ _ < _ ∧ _ < _ ∧ _ < _ ∧ 375 < _ ∧ AllLt _ R => lL
  have hC1 := (U.keeps B'.stays).c1
  refine' Tell.useRow (room := 4) ?B F2 ?X N2 ?T rfl ?d ?u (addInstr_tell (rows := []) (k := 0) _ ?hR ?hT (by decide)) ?_
  case B => k_asm
  case X => k_asm
  case T => k_asm
  case d => k_room
  case u => k_units
  case hR => exact all_off lL
  case hT => exact ⟨_, _, _, List.mem_cons_self, List.mem_cons_of_mem _ List.mem_cons_self⟩
  intro a9 dx9 es9 n9 ch9 at9 ns9 k9 tr9 h' tk' F' N' hFl hfr hlt9
  have e1 := five hfr (.tail _ (.tail _ (.tail _ (.head _))))
  have e2 := five hfr (.tail _ (.tail _ (.tail _ (.tail _ (.head _)))))
  have e3 := five hfr (.tail _ (.tail _ (.tail _ (.tail _ (.tail _ (.head _))))))
  simp only [newRow, List.cons_append, List.nil_append] at N'
  clear F2 N2
  (repeat' (first | ((with_reducible show wpAny _ _ (call (Value.ref 197) _) _ _ _); refine stop_at ?_) | ((with_reducible show wpAny _ _ (call (Value.ref 190) _) _ _ _); refine stop_at ?_) | ((with_reducible show wpAny _ _ (call (Value.ref 183) _) _ _ _); refine stop_at ?_) | ((with_reducible show wpAny _ _ (call (Value.ref 373) _) _ _ _); refine stop_at ?_) | ((with_reducible show wpAny _ _ (call (Value.ref 344) _) _ _ _); refine stop_at ?_) | ((with_reducible show wpAny _ _ (callWith _ (Value.ref _) _ (backTo _ (starEach (_ :: _) _)) []) _ _ _); k_dflt (refine' callWith_mine ?zkX ?zkk ?_ ?zhe ?zhp; (case zhe => exact rfl); (case zhp => exact rfl); (case zkX => with_reducible assumption); (case zkk => with_unfolding_all exact rfl))) | (k_unfold; (try dsimp only)) | walk1 | (dsimp only; walk1) | (leave1; (try dsimp only))))
  refine go_on ?_
  rename Obj.data _ = Data.fields _ => hcd₉
  rename _[1]? = some _ => hcq₉
  rename _ < _ ∧ _ < _ ∧ _ < _ ∧ _ < _ ∧ _ < _ ∧ _ < _ ∧ _ < _ ∧ _ < _ ∧ _ < _ ∧ _ < _ ∧ 375 < _ ∧ AllLt _ R => lC
  have hltc : ∀ p ∈ (375, tabObj #[]) :: R, p.1 < _ := allLt_mem lC.2.2.2.2.2.2.2.2.2.2
  rename Fr _ _ _ _ => F5
  rename News _ _ _ _ => N5
  have hd9 := leaf_instr (d := ⟨Str.ofString "instruction", ta, Str.ofString "", ta, x, .none, ch9, at9, ns9⟩) (ta := ta) (x := x) rfl rfl rfl
  refine' TellB.use (room := 10) ?B F5 ?U N5 ?hb ?hlt rfl ?d ?u (heard_tell (o := leafOf ⟨Str.ofString "instruction", ta, Str.ofString "", ta, x, .none, ch9, at9, ns9⟩) ?hm ?C) ?_
  case B => k_asm
  case U => exact U
  case hb => exact hb'
  case hlt => exact hlt'
  case d => k_room
  case u => k_units
  case hm => exact List.mem_cons_self
  case C =>
    refine' lam_tell (a9 := a9) (rows := [.ref a9]) (k := k9) (d := ⟨Str.ofString "instruction", ta, Str.ofString "", ta, x, .none, ch9, at9, ns9⟩) _ List.mem_cons_self (by with_unfolding_all rfl) (by with_unfolding_all rfl) ?c1 ?c2 ?c3 ?c4 ?c5 ?c6 ?c7 ?c8 ?c9 ?h0 ?hz ?hi ?c10 ?c11 ?c12
    case c1 => exact List.mem_cons_of_mem _ List.mem_cons_self
    case c2 => with_reducible assumption
    case c3 => with_reducible assumption
    case c5 => with_reducible assumption
    case c7 => with_reducible assumption
    case c4 => k_mem
    case c6 => k_mem
    case c8 => exact ⟨_, _, _, by k_mem, by k_mem⟩
    case c9 => k_mem
    case h0 => exact Int.natCast_nonneg _
    case hz => exact Nat.le_of_ble_eq_true rfl
    case hi => rfl
    case c10 => exact nodeAt_of hFl (by k_mem) (by k_mem)
    case c11 => exact hx
    case c12 => exact ht
  intro r' nw' h' tk' h₁ B1 F1 N1 U1 FT1 hP'
  rw [hd9] at hP'
  clear F5 N5
  have X1 := U1.X
  have T1 := U1.T
  cases ho : lawLeafOf (Str.ofString "instruction") ta x with
  | none =>
    rw [ho] at hP'
    first | (refine el_0_5 hP' fun T9 t9 hrf2 hlT hrf4 => ?_; subst hrf2; subst hrf4) | (refine el_1_4 hP' fun T9 t9 hrf2 hlT hrf4 => ?_; subst hrf2; subst hrf4) | (refine el_2_3 hP' fun T9 t9 hrf2 hlT hrf4 => ?_; subst hrf2; subst hrf4) | (refine el_3_2 hP' fun T9 t9 hrf2 hlT hrf4 => ?_; subst hrf2; subst hrf4) | (refine el_4_1 hP' fun T9 t9 hrf2 hlT hrf4 => ?_; subst hrf2; subst hrf4) | obtain ⟨T9, t9, rfl, hlT, rfl⟩ := hP'
    try clear hP'
    (repeat' (first | ((with_reducible show wpAny _ _ (call (Value.ref 197) _) _ _ _); refine stop_at ?_) | ((with_reducible show wpAny _ _ (call (Value.ref 190) _) _ _ _); refine stop_at ?_) | ((with_reducible show wpAny _ _ (call (Value.ref 183) _) _ _ _); refine stop_at ?_) | ((with_reducible show wpAny _ _ (call (Value.ref 373) _) _ _ _); refine stop_at ?_) | ((with_reducible show wpAny _ _ (call (Value.ref 344) _) _ _ _); refine stop_at ?_) | ((with_reducible show wpAny _ _ (callWith _ (Value.ref _) _ (backTo _ (starEach (_ :: _) _)) []) _ _ _); k_dflt (refine' callWith_mine ?zkX ?zkk ?_ ?zhe ?zhp; (case zhe => exact rfl); (case zhp => exact rfl); (case zkX => with_reducible assumption); (case zkk => with_unfolding_all exact rfl))) | (k_unfold; (try dsimp only)) | walk1 | (dsimp only; walk1) | (leave1; (try dsimp only))))
    refine go_on ?_
    rename Fr _ _ _ _ => F6
    rename News _ _ _ _ => N6
    refine' Tell.use (room := 4) B1 F6 X1 N6 T1 rfl ?d ?u (lawLeaf_tell (kd := Str.ofString "instruction") hx ht _) (fun p hp => hp) ?_
    case d => k_room
    case u => k_units
    intro r2 nw2 h2 tk2 F2 N2 hP2
    rw [ho] at hP2
    clear F6 N6
    first | (refine el_0_5 hP2 fun T8 t8 hrf2 hlT8 hrf4 => ?_; subst hrf2; subst hrf4) | (refine el_1_4 hP2 fun T8 t8 hrf2 hlT8 hrf4 => ?_; subst hrf2; subst hrf4) | (refine el_2_3 hP2 fun T8 t8 hrf2 hlT8 hrf4 => ?_; subst hrf2; subst hrf4) | (refine el_3_2 hP2 fun T8 t8 hrf2 hlT8 hrf4 => ?_; subst hrf2; subst hrf4) | (refine el_4_1 hP2 fun T8 t8 hrf2 hlT8 hrf4 => ?_; subst hrf2; subst hrf4) | obtain ⟨T8, t8, rfl, hlT8, rfl⟩ := hP2
    try clear hP2
    unfold tupR at N2
    (repeat' (first | ((with_reducible show wpAny _ _ (call (Value.ref 197) _) _ _ _); refine stop_at ?_) | ((with_reducible show wpAny _ _ (call (Value.ref 190) _) _ _ _); refine stop_at ?_) | ((with_reducible show wpAny _ _ (call (Value.ref 183) _) _ _ _); refine stop_at ?_) | ((with_reducible show wpAny _ _ (call (Value.ref 373) _) _ _ _); refine stop_at ?_) | ((with_reducible show wpAny _ _ (call (Value.ref 344) _) _ _ _); refine stop_at ?_) | ((with_reducible show wpAny _ _ (callWith _ (Value.ref _) _ (backTo _ (starEach (_ :: _) _)) []) _ _ _); k_dflt (refine' callWith_mine ?zkX ?zkk ?_ ?zhe ?zhp; (case zhe => exact rfl); (case zhp => exact rfl); (case zkX => with_reducible assumption); (case zkk => with_unfolding_all exact rfl))) | (k_unfold; (try dsimp only)) | walk1 | (dsimp only; walk1) | (leave1; (try dsimp only))))
    refine go_on ?_
    exact leaveB_ F2 (news_sub N2 (by kcf_all)) B1.stays FT1 fun h₁ B2 F3 N3 T3 => ret _ _ _ _ _ B2 F3 N3 (U.keeps B2.stays) T3 ⟨_, _, _, _, rfl, hcd₉, hcq₉, hltc, rfl⟩
  | some y =>
    rw [ho] at hP'
    first | (refine el_0_3 hP' fun hrf0 t9 hrf2 => ?_; subst hrf0; subst hrf2) | (refine el_1_2 hP' fun hrf0 t9 hrf2 => ?_; subst hrf0; subst hrf2) | (refine el_2_1 hP' fun hrf0 t9 hrf2 => ?_; subst hrf0; subst hrf2) | obtain ⟨rfl, t9, rfl⟩ := hP'
    try clear hP'
    (repeat' (first | ((with_reducible show wpAny _ _ (call (Value.ref 197) _) _ _ _); refine stop_at ?_) | ((with_reducible show wpAny _ _ (call (Value.ref 190) _) _ _ _); refine stop_at ?_) | ((with_reducible show wpAny _ _ (call (Value.ref 183) _) _ _ _); refine stop_at ?_) | ((with_reducible show wpAny _ _ (call (Value.ref 373) _) _ _ _); refine stop_at ?_) | ((with_reducible show wpAny _ _ (call (Value.ref 344) _) _ _ _); refine stop_at ?_) | ((with_reducible show wpAny _ _ (callWith _ (Value.ref _) _ (backTo _ (starEach (_ :: _) _)) []) _ _ _); k_dflt (refine' callWith_mine ?zkX ?zkk ?_ ?zhe ?zhp; (case zhe => exact rfl); (case zhp => exact rfl); (case zkX => with_reducible assumption); (case zkk => with_unfolding_all exact rfl))) | (k_unfold; (try dsimp only)) | walk1 | (dsimp only; walk1) | (leave1; (try dsimp only))))
    refine go_on ?_
    rename Fr _ _ _ _ => F6
    rename News _ _ _ _ => N6
    refine' Tell.use (room := 4) B1 F6 X1 N6 T1 rfl ?d ?u (lawLeaf_tell (kd := Str.ofString "instruction") hx ht _) (fun p hp => hp) ?_
    case d => k_room
    case u => k_units
    intro r2 nw2 h2 tk2 F2 N2 hP2
    rw [ho] at hP2
    clear F6 N6
    first | (refine el_0_3 hP2 fun hrf0 t8 hrf2 => ?_; subst hrf0; subst hrf2) | (refine el_1_2 hP2 fun hrf0 t8 hrf2 => ?_; subst hrf0; subst hrf2) | (refine el_2_1 hP2 fun hrf0 t8 hrf2 => ?_; subst hrf0; subst hrf2) | obtain ⟨rfl, t8, rfl⟩ := hP2
    try clear hP2
    (repeat' (first | ((with_reducible show wpAny _ _ (call (Value.ref 197) _) _ _ _); refine stop_at ?_) | ((with_reducible show wpAny _ _ (call (Value.ref 190) _) _ _ _); refine stop_at ?_) | ((with_reducible show wpAny _ _ (call (Value.ref 183) _) _ _ _); refine stop_at ?_) | ((with_reducible show wpAny _ _ (call (Value.ref 373) _) _ _ _); refine stop_at ?_) | ((with_reducible show wpAny _ _ (call (Value.ref 344) _) _ _ _); refine stop_at ?_) | ((with_reducible show wpAny _ _ (callWith _ (Value.ref _) _ (backTo _ (starEach (_ :: _) _)) []) _ _ _); k_dflt (refine' callWith_mine ?zkX ?zkk ?_ ?zhe ?zhp; (case zhe => exact rfl); (case zhp => exact rfl); (case zkX => with_reducible assumption); (case zkk => with_unfolding_all exact rfl))) | (k_unfold; (try dsimp only)) | walk1 | (dsimp only; walk1) | (leave1; (try dsimp only))))
    refine go_on ?_
    rw [show (y == y) = true from beq_self_eq_true y]
    exact leaveB_ F2 (news_sub N2 (by kcf_all)) B1.stays FT1 fun h₁ B2 F3 N3 T3 => ret _ _ _ _ _ B2 F3 N3 (U.keeps B2.stays) T3 ⟨_, _, _, _, rfl, hcd₉, hcq₉, hltc, rfl⟩
set_option maxHeartbeats 400000 in
theorem leafI1_tell {w : World} {ta x : Str} {tk tt t : Tok} (hx : x.length ≤ 1000) (ht : ta.length ≤ 1000) {c₉ : Addr} {oc₉ : Obj} {vs₉ : Array Value} {tq₉ : Tok} (R : List (Addr × Obj)) (hcm : (c₉, oc₉) ∈ R) (hcd₉ : oc₉.data = .fields vs₉) (hcq₉ : vs₉[1]? = some (.str lamQ1 tq₉)) (hR : ∀ p ∈ R, p.1 ≠ 375) :
    TellB w 380 [.str (Str.ofString "instruction") tk, .str ta tt, .str x t] 14 ((375, tabObj #[rawInt 230, rawInt 22, .ref c₉]) :: R) (fun news' r => news' = (375, tabObj #[rawInt 230, rawInt 22, .ref c₉]) :: R ∧ r = .bool true) := by
  unfold TellB
  intro loose mean mg mb dp un gd cn cs a ccd cl outer A₀ base h₀ L m s Q E B F U N hb hlt hk hd hu ret
  obtain ⟨kind, nm, ig, ic, mr⟩ := cs
  obtain ⟨sh, sg, sd, st, so⟩ := s
  obtain rfl : kind = .function := hk
  refine wpAny_call ?_
  k_dflt (refine' enterBC B F U N hb hlt ?kA ?kK ?k6 ?k7 ?k8 ?k9 ?kB ?kD ?_ ?c2 ?c3 ?c4; (case kA => exact rfl); (case kK => exact rfl); (case k6 => k_is); (case k7 => k_is); (case k8 => k_room); (case k9 => first | exact BindsTo.of_eq rfl | exact binds_K (by k_in) rfl (by k_is) rfl rfl rfl); (case kB => exact rfl); (case kD => decide +kernel); (case c2 => exact rfl); (case c3 => exact rfl); (case c4 => exact rfl); k_whole; intro g' L' h' tk' cells' FG' F' N' Y' B' X' T' hb' hlt' l1; (try k_lt l1); k_cells Y'; (try simp only [List.cons_append, List.nil_append] at N'); (try dsimp only); (try k_lift B'))
  rename Fr _ _ _ _ => F1
  refine (let qk : Flow → Shared → Prop := _; let ek : Value → Shared → Prop := _; let A1 : Around := _; let m1 : Str → Option Value := _; let t1 : Nat := _; have F1 : Fr _ _ _ m1 := F1; (?_ : wpAny _ A1 _ qk ek (Shared.mk _ _ _ t1 _)))
  rename _ < _ ∧ AllLt _ R => l0
  have hRL := allLt_mem l0.2
  (repeat' (first | ((with_reducible show wpAny _ _ (call (Value.ref 197) _) _ _ _); refine stop_at ?_) | ((with_reducible show wpAny _ _ (call (Value.ref 190) _) _ _ _); refine stop_at ?_) | ((with_reducible show wpAny _ _ (call (Value.ref 183) _) _ _ _); refine stop_at ?_) | ((with_reducible show wpAny _ _ (call (Value.ref 373) _) _ _ _); refine stop_at ?_) | ((with_reducible show wpAny _ _ (call (Value.ref 344) _) _ _ _); refine stop_at ?_) | ((with_reducible show wpAny _ _ (callWith _ (Value.ref _) _ (backTo _ (starEach (_ :: _) _)) []) _ _ _); k_dflt (refine' callWith_mine ?zkX ?zkk ?_ ?zhe ?zhp; (case zhe => exact rfl); (case zhp => exact rfl); (case zkX => with_reducible assumption); (case zkk => with_unfolding_all exact rfl))) | (k_unfold; (try dsimp only)) | walk1 | (dsimp only; walk1) | (leave1; (try dsimp only))))
  refine go_on ?_
  rename Fr _ _ _ _ => F2
  rename News _ _ _ _ => N2
  rename _ < _ ∧ _ < _ ∧ _ < _ ∧ _ < _ ∧ 375 < _ ∧ AllLt _ R => lL
  have hC1 := (U.keeps B'.stays).c1
  refine' Tell.useRow (room := 4) ?B F2 ?X N2 ?T rfl ?d ?u (addInstr_tell (rows := []) (k := 0) _ ?hR ?hT (by decide)) ?_
  case B => k_asm
  case X => k_asm
  case T => k_asm
  case d => k_room
  case u => k_units
  case hR => exact all_off lL
  case hT => exact ⟨_, _, _, List.mem_cons_self, List.mem_cons_of_mem _ List.mem_cons_self⟩
  intro a9 dx9 es9 n9 ch9 at9 ns9 k9 tr9 h' tk' F' N' hFl hfr hlt9
  have e1 := five hfr (.tail _ (.tail _ (.tail _ (.head _))))
  have e2 := five hfr (.tail _ (.tail _ (.tail _ (.tail _ (.head _)))))
  have e3 := five hfr (.tail _ (.tail _ (.tail _ (.tail _ (.tail _ (.head _))))))
  simp only [newRow, List.cons_append, List.nil_append] at N'
  clear F2 N2
  (repeat' (first | ((with_reducible show wpAny _ _ (call (Value.ref 197) _) _ _ _); refine stop_at ?_) | ((with_reducible show wpAny _ _ (call (Value.ref 190) _) _ _ _); refine stop_at ?_) | ((with_reducible show wpAny _ _ (call (Value.ref 183) _) _ _ _); refine stop_at ?_) | ((with_reducible show wpAny _ _ (call (Value.ref 373) _) _ _ _); refine stop_at ?_) | ((with_reducible show wpAny _ _ (call (Value.ref 344) _) _ _ _); refine stop_at ?_) | ((with_reducible show wpAny _ _ (callWith _ (Value.ref _) _ (backTo _ (starEach (_ :: _) _)) []) _ _ _); k_dflt (refine' callWith_mine ?zkX ?zkk ?_ ?zhe ?zhp; (case zhe => exact rfl); (case zhp => exact rfl); (case zkX => with_reducible assumption); (case zkk => with_unfolding_all exact rfl))) | (k_unfold; (try dsimp only)) | walk1 | (dsimp only; walk1) | (leave1; (try dsimp only))))
  refine go_on ?_
  rename Fr _ _ _ _ => F5
  rename News _ _ _ _ => N5
  have hd9 := leaf_instr (d := ⟨Str.ofString "instruction", ta, Str.ofString "", ta, x, .none, ch9, at9, ns9⟩) (ta := ta) (x := x) rfl rfl rfl
  refine' TellB.use (room := 10) ?B F5 ?U N5 ?hb ?hlt rfl ?d ?u (heard_tell (o := leafOf ⟨Str.ofString "instruction", ta, Str.ofString "", ta, x, .none, ch9, at9, ns9⟩) ?hm ?C) ?_
  case B => k_asm
  case U => exact U
  case hb => exact hb'
  case hlt => exact hlt'
  case d => k_room
  case u => k_units
  case hm => exact List.mem_cons_self
  case C =>
    refine' lam_tell (a9 := a9) (rows := [.ref a9]) (k := k9) (d := ⟨Str.ofString "instruction", ta, Str.ofString "", ta, x, .none, ch9, at9, ns9⟩) _ List.mem_cons_self (by with_unfolding_all rfl) (by with_unfolding_all rfl) ?c1 ?c2 ?c3 ?c4 ?c5 ?c6 ?c7 ?c8 ?c9 ?h0 ?hz ?hi ?c10 ?c11 ?c12
    case c1 => exact List.mem_cons_of_mem _ (by k_mem)
    case c2 => exact hcd₉
    case c3 => exact hcq₉
    case c5 => with_reducible assumption
    case c7 => with_reducible assumption
    case c4 => k_mem
    case c6 => k_mem
    case c8 => exact ⟨_, _, _, by k_mem, by k_mem⟩
    case c9 => k_mem
    case h0 => exact Int.natCast_nonneg _
    case hz => exact Nat.le_of_ble_eq_true rfl
    case hi => rfl
    case c10 => exact nodeAt_of hFl (by k_mem) (by k_mem)
    case c11 => exact hx
    case c12 => exact ht
  intro r' nw' h' tk' h₁ B1 F1 N1 U1 FT1 hP'
  rw [hd9] at hP'
  clear F5 N5
  have X1 := U1.X
  have T1 := U1.T
  cases ho : lawLeafOf (Str.ofString "instruction") ta x with
  | none =>
    rw [ho] at hP'
    first | (refine el_0_5 hP' fun T9 t9 hrf2 hlT hrf4 => ?_; subst hrf2; subst hrf4) | (refine el_1_4 hP' fun T9 t9 hrf2 hlT hrf4 => ?_; subst hrf2; subst hrf4) | (refine el_2_3 hP' fun T9 t9 hrf2 hlT hrf4 => ?_; subst hrf2; subst hrf4) | (refine el_3_2 hP' fun T9 t9 hrf2 hlT hrf4 => ?_; subst hrf2; subst hrf4) | (refine el_4_1 hP' fun T9 t9 hrf2 hlT hrf4 => ?_; subst hrf2; subst hrf4) | obtain ⟨T9, t9, rfl, hlT, rfl⟩ := hP'
    try clear hP'
    (repeat' (first | ((with_reducible show wpAny _ _ (call (Value.ref 197) _) _ _ _); refine stop_at ?_) | ((with_reducible show wpAny _ _ (call (Value.ref 190) _) _ _ _); refine stop_at ?_) | ((with_reducible show wpAny _ _ (call (Value.ref 183) _) _ _ _); refine stop_at ?_) | ((with_reducible show wpAny _ _ (call (Value.ref 373) _) _ _ _); refine stop_at ?_) | ((with_reducible show wpAny _ _ (call (Value.ref 344) _) _ _ _); refine stop_at ?_) | ((with_reducible show wpAny _ _ (callWith _ (Value.ref _) _ (backTo _ (starEach (_ :: _) _)) []) _ _ _); k_dflt (refine' callWith_mine ?zkX ?zkk ?_ ?zhe ?zhp; (case zhe => exact rfl); (case zhp => exact rfl); (case zkX => with_reducible assumption); (case zkk => with_unfolding_all exact rfl))) | (k_unfold; (try dsimp only)) | walk1 | (dsimp only; walk1) | (leave1; (try dsimp only))))
    refine go_on ?_
    rename Fr _ _ _ _ => F6
    rename News _ _ _ _ => N6
    refine' Tell.use (room := 4) B1 F6 X1 N6 T1 rfl ?d ?u (lawLeaf_tell (kd := Str.ofString "instruction") hx ht _) (fun p hp => hp) ?_
    case d => k_room
    case u => k_units
    intro r2 nw2 h2 tk2 F2 N2 hP2
    rw [ho] at hP2
    clear F6 N6
    first | (refine el_0_5 hP2 fun T8 t8 hrf2 hlT8 hrf4 => ?_; subst hrf2; subst hrf4) | (refine el_1_4 hP2 fun T8 t8 hrf2 hlT8 hrf4 => ?_; subst hrf2; subst hrf4) | (refine el_2_3 hP2 fun T8 t8 hrf2 hlT8 hrf4 => ?_; subst hrf2; subst hrf4) | (refine el_3_2 hP2 fun T8 t8 hrf2 hlT8 hrf4 => ?_; subst hrf2; subst hrf4) | (refine el_4_1 hP2 fun T8 t8 hrf2 hlT8 hrf4 => ?_; subst hrf2; subst hrf4) | obtain ⟨T8, t8, rfl, hlT8, rfl⟩ := hP2
    try clear hP2
    unfold tupR at N2
    (repeat' (first | ((with_reducible show wpAny _ _ (call (Value.ref 197) _) _ _ _); refine stop_at ?_) | ((with_reducible show wpAny _ _ (call (Value.ref 190) _) _ _ _); refine stop_at ?_) | ((with_reducible show wpAny _ _ (call (Value.ref 183) _) _ _ _); refine stop_at ?_) | ((with_reducible show wpAny _ _ (call (Value.ref 373) _) _ _ _); refine stop_at ?_) | ((with_reducible show wpAny _ _ (call (Value.ref 344) _) _ _ _); refine stop_at ?_) | ((with_reducible show wpAny _ _ (callWith _ (Value.ref _) _ (backTo _ (starEach (_ :: _) _)) []) _ _ _); k_dflt (refine' callWith_mine ?zkX ?zkk ?_ ?zhe ?zhp; (case zhe => exact rfl); (case zhp => exact rfl); (case zkX => with_reducible assumption); (case zkk => with_unfolding_all exact rfl))) | (k_unfold; (try dsimp only)) | walk1 | (dsimp only; walk1) | (leave1; (try dsimp only))))
    refine go_on ?_
    exact leaveB_ F2 (news_sub N2 (by kcf_all)) B1.stays FT1 fun h₁ B2 F3 N3 T3 => ret _ _ _ _ _ B2 F3 N3 (U.keeps B2.stays) T3 ⟨rfl, rfl⟩
  | some y =>
    rw [ho] at hP'
    first | (refine el_0_3 hP' fun hrf0 t9 hrf2 => ?_; subst hrf0; subst hrf2) | (refine el_1_2 hP' fun hrf0 t9 hrf2 => ?_; subst hrf0; subst hrf2) | (refine el_2_1 hP' fun hrf0 t9 hrf2 => ?_; subst hrf0; subst hrf2) | obtain ⟨rfl, t9, rfl⟩ := hP'
    try clear hP'
    (repeat' (first | ((with_reducible show wpAny _ _ (call (Value.ref 197) _) _ _ _); refine stop_at ?_) | ((with_reducible show wpAny _ _ (call (Value.ref 190) _) _ _ _); refine stop_at ?_) | ((with_reducible show wpAny _ _ (call (Value.ref 183) _) _ _ _); refine stop_at ?_) | ((with_reducible show wpAny _ _ (call (Value.ref 373) _) _ _ _); refine stop_at ?_) | ((with_reducible show wpAny _ _ (call (Value.ref 344) _) _ _ _); refine stop_at ?_) | ((with_reducible show wpAny _ _ (callWith _ (Value.ref _) _ (backTo _ (starEach (_ :: _) _)) []) _ _ _); k_dflt (refine' callWith_mine ?zkX ?zkk ?_ ?zhe ?zhp; (case zhe => exact rfl); (case zhp => exact rfl); (case zkX => with_reducible assumption); (case zkk => with_unfolding_all exact rfl))) | (k_unfold; (try dsimp only)) | walk1 | (dsimp only; walk1) | (leave1; (try dsimp only))))
    refine go_on ?_
    rename Fr _ _ _ _ => F6
    rename News _ _ _ _ => N6
    refine' Tell.use (room := 4) B1 F6 X1 N6 T1 rfl ?d ?u (lawLeaf_tell (kd := Str.ofString "instruction") hx ht _) (fun p hp => hp) ?_
    case d => k_room
    case u => k_units
    intro r2 nw2 h2 tk2 F2 N2 hP2
    rw [ho] at hP2
    clear F6 N6
    first | (refine el_0_3 hP2 fun hrf0 t8 hrf2 => ?_; subst hrf0; subst hrf2) | (refine el_1_2 hP2 fun hrf0 t8 hrf2 => ?_; subst hrf0; subst hrf2) | (refine el_2_1 hP2 fun hrf0 t8 hrf2 => ?_; subst hrf0; subst hrf2) | obtain ⟨rfl, t8, rfl⟩ := hP2
    try clear hP2
    (repeat' (first | ((with_reducible show wpAny _ _ (call (Value.ref 197) _) _ _ _); refine stop_at ?_) | ((with_reducible show wpAny _ _ (call (Value.ref 190) _) _ _ _); refine stop_at ?_) | ((with_reducible show wpAny _ _ (call (Value.ref 183) _) _ _ _); refine stop_at ?_) | ((with_reducible show wpAny _ _ (call (Value.ref 373) _) _ _ _); refine stop_at ?_) | ((with_reducible show wpAny _ _ (call (Value.ref 344) _) _ _ _); refine stop_at ?_) | ((with_reducible show wpAny _ _ (callWith _ (Value.ref _) _ (backTo _ (starEach (_ :: _) _)) []) _ _ _); k_dflt (refine' callWith_mine ?zkX ?zkk ?_ ?zhe ?zhp; (case zhe => exact rfl); (case zhp => exact rfl); (case zkX => with_reducible assumption); (case zkk => with_unfolding_all exact rfl))) | (k_unfold; (try dsimp only)) | walk1 | (dsimp only; walk1) | (leave1; (try dsimp only))))
    refine go_on ?_
    rw [show (y == y) = true from beq_self_eq_true y]
    exact leaveB_ F2 (news_sub N2 (by kcf_all)) B1.stays FT1 fun h₁ B2 F3 N3 T3 => ret _ _ _ _ _ B2 F3 N3 (U.keeps B2.stays) T3 ⟨rfl, rfl⟩
theorem TellB.imp {w : World} {f : Addr} {args : List Value} {room : Nat} {news : List (Addr × Obj)} {Ret Ret' : List (Addr × Obj) → Value → Prop} (C : TellB w f args room news Ret) (h : ∀ n r, Ret n r → Ret' n r) : TellB w f args room news Ret' := by
  unfold TellB
  intro loose mean mg mb dp un gd cn cs a ccd cl outer A₀ base h₀ L m s Q E B F U N hb hlt hk hd hu ret
  exact C _ _ _ _ _ _ _ _ _ _ _ _ _ _ _ _ _ _ _ _ _ B F U N hb hlt hk hd hu fun r n h' tk' h₁ a b c d e f => ret r n h' tk' h₁ a b c d e (h n r f)
/-- the table of codes: nothing yet, or the lambda's code -/
def Tab1 (o : Obj) (T : List (Addr × Obj)) : Prop := o = tabObj #[] ∨ ∃ c' oc vs tq, o = tabObj #[rawInt 230, rawInt 22, .ref c'] ∧ (c', oc) ∈ T ∧ oc.data = .fields vs ∧ vs[1]? = some (.str lamQ1 tq)
theorem leafAny_tell {w : World} {kd ta x : Str} {tk tt t : Tok} {o : Obj} (hkd : kd = Str.ofString "text" ∨ kd = Str.ofString "comment" ∨ kd = Str.ofString "instruction") (hx : x.length ≤ 1000) (ht : ta.length ≤ 1000) (R : List (Addr × Obj)) (hT : Tab1 o R) (hR : ∀ p ∈ R, p.1 ≠ 375) :
    TellB w 380 [.str kd tk, .str ta tt, .str x t] 14 ((375, o) :: R) (fun news' r => r = .bool true ∧ (news' = (375, o) :: R ∨ ∃ c' oc vs tq, news' = (375, tabObj #[rawInt 230, rawInt 22, .ref c']) :: (c', oc) :: R ∧ oc.data = .fields vs ∧ vs[1]? = some (.str lamQ1 tq) ∧ ∀ p ∈ (375, o) :: R, p.1 < c')) := by
  rcases hT with rfl | ⟨c', oc, vs, tq, rfl, h1, h2, h3⟩
  · have key : ∀ (n : List (Addr × Obj)) (r : Value), (∃ c' oc vs tq, n = (375, tabObj #[rawInt 230, rawInt 22, .ref c']) :: (c', oc) :: R ∧ oc.data = .fields vs ∧ vs[1]? = some (.str lamQ1 tq) ∧ (∀ p ∈ (375, tabObj #[]) :: R, p.1 < c') ∧ r = .bool true) →
        (r = .bool true ∧ (n = (375, tabObj #[]) :: R ∨ ∃ c' oc vs tq, n = (375, tabObj #[rawInt 230, rawInt 22, .ref c']) :: (c', oc) :: R ∧ oc.data = .fields vs ∧ vs[1]? = some (.str lamQ1 tq) ∧ ∀ p ∈ (375, tabObj #[]) :: R, p.1 < c')) := by
      rintro n r ⟨c', oc, vs, tq, rfl, a, b, c, rfl⟩
      exact ⟨rfl, .inr ⟨c', oc, vs, tq, rfl, a, b, c⟩⟩
    rcases hkd with rfl | rfl | rfl
    · exact (leafT0_tell hx ht R hR).imp key
    · exact (leafC0_tell hx ht R hR).imp key
    · exact (leafI0_tell hx ht R hR).imp key
  · have key : ∀ (n : List (Addr × Obj)) (r : Value), (n = (375, tabObj #[rawInt 230, rawInt 22, .ref c']) :: R ∧ r = .bool true) →
        (r = .bool true ∧ (n = (375, tabObj #[rawInt 230, rawInt 22, .ref c']) :: R ∨ ∃ c₂ oc vs tq, n = (375, tabObj #[rawInt 230, rawInt 22, .ref c₂]) :: (c₂, oc) :: R ∧ oc.data = .fields vs ∧ vs[1]? = some (.str lamQ1 tq) ∧ ∀ p ∈ (375, tabObj #[rawInt 230, rawInt 22, .ref c']) :: R, p.1 < c₂)) := by
      rintro n r ⟨rfl, rfl⟩
      exact ⟨rfl, .inl rfl⟩
    rcases hkd with rfl | rfl | rfl
    · exact (leafT1_tell hx ht R h1 h2 h3 hR).imp key
    · exact (leafC1_tell hx ht R h1 h2 h3 hR).imp key
    · exact (leafI1_tell hx ht R h1 h2 h3 hR).imp key
end

theorem reset_C13 (h : PySem.Heap) : PySem.W.GrownAll [] h := by
  w_top off
  walk1
section
open PySem PySem.W PyProof.Rows
set_option Elab.async false
set_option maxRecDepth 100000
set_option linter.unusedSimpArgs false
set_option hygiene false
local macro_rules | `(tactic| walk_at "getAttr ref") => `(tactic| (k_here; k_dflt (refine' get_own ?zk1 ?zk2 ?zk3 ?zk4 ?zk5 ?zk6 ?zk7 ?zk8 ?zk9 ?_; (case zk1 => k_asm); (case zk2 => k_asm); (case zk3 => k_inst); (case zk4 => k_is); (case zk5 => k_is); (case zk6 => k_is); (case zk7 => k_is); (case zk8 => first | assumption | k_get); (case zk9 => k_handed); k_whole)))
local macro_rules | `(tactic| walk_at "pyIter ref") => `(tactic| refine stop_at ?_)
local macro_rules | `(tactic| walk_at "compareOp NotIn str ref") => `(tactic| refine stop_at ?_)
theorem fillKC13 : (fun (_ : Params → Frag) (_ : OpenLaw) => True) Mine.K PySem.Challenge.rw_xw0213_01 := by k_fill; trivial

theorem parents_root {w : World} {A : Around} {E : Value → Shared → Prop} {s : Shared} {u : Tok} {Q : Value → Shared → Prop} (X : (Mine.K w.params).In s.heap) (h : Q (.bool false) s) : wpAny (model PySem.Challenge.rw_xw0213_01.row.prog w) A (compareOp .NotIn (.str (Str.ofString "root") u) (.ref 106)) Q E s := by
  have e0 : ∃ t1 t2 n, s.heap.IsTuple 106 #[.str (Str.ofString "root") t1, .str (Str.ofString "element") t2] ∧ n = 0 := ⟨_, _, 0, ⟨_, X 106 _ (by with_unfolding_all exact rfl), rfl, 0, rfl⟩, rfl⟩
  obtain ⟨t1, t2, n, ht, -⟩ := e0
  refine SeqAt.notIn_tupleAt (fun v => match v with | .str y _ => y.cps.toList == (Str.ofString "root").cps.toList | _ => false) ht (fun y hy => ?_) ?_
  · simp only [List.mem_toArray, List.mem_cons, List.not_mem_nil, or_false] at hy
    rcases hy with rfl | rfl
    · exact (SeqRoads2.EqGives.str _ _ _ _).at _ _
    · exact (SeqRoads2.EqGives.str _ _ _ _).at _ _
  · have : (!(#[Value.str (Str.ofString "root") t1, Value.str (Str.ofString "element") t2] : Array Value).any fun v => match v with | .str y _ => y.cps.toList == (Str.ofString "root").cps.toList | _ => false) = false := by simp
    rw [this]
    exact h
theorem row_then {P : Prop} {h₀ h : Heap} {L l b a dx : Addr} {es : List DictEntry} {n : Nat} {d : NodeD} {o1 o2 : Obj} {R Rold : List (Addr × Obj)} (N : News h₀ L h ((l, o1) :: (newRow a dx es n d ++ ((b, o2) :: R)))) (hfr : ∀ p ∈ Rold, p.1 ≠ a ∧ p.1 ≠ dx ∧ p.1 ≠ d.ch ∧ p.1 ≠ d.at' ∧ p.1 ≠ d.ns) (hb : (b, o2) ∈ Rold) (hR2 : ∀ p ∈ R, p.1 ≠ b)
    (go : ∀ R', R' = newRow a dx es n d ++ R → (∀ p ∈ R', p.1 ≠ b) → (∀ p ∈ R, p ∈ R') → News h₀ L h ((b, o2) :: (l, o1) :: R') → P) : P := by
  refine go _ rfl ?_ (fun p hp => List.mem_append_right _ hp) (news_sub N fun p hp => ?_)
  · have := hfr (b, o2) hb
    intro p hp
    rcases List.mem_append.mp hp with hp | hp
    · simp only [newRow, List.mem_cons, List.not_mem_nil, or_false] at hp
      rcases hp with rfl | rfl | rfl | rfl | rfl
      · exact this.1.symm
      · exact this.2.1.symm
      · exact this.2.2.1.symm
      · exact this.2.2.2.1.symm
      · exact this.2.2.2.2.symm
    · exact hR2 p hp
  · simp only [List.mem_cons, List.mem_append] at hp ⊢
    rcases hp with h | h | h | h
    · exact .inr (.inr (.inl h))
    · exact .inl h
    · exact .inr (.inl h)
    · exact .inr (.inr (.inr h))
theorem swap2 {a b : Addr × Obj} {R : List (Addr × Obj)} : ∀ p ∈ a :: b :: R, p ∈ b :: a :: R := fun p hp => by
  rcases List.mem_cons.mp hp with h | h
  · rw [h]; exact List.mem_cons_of_mem _ List.mem_cons_self
  · rcases List.mem_cons.mp h with h | h
    · rw [h]; exact List.mem_cons_self
    · exact List.mem_cons_of_mem _ (List.mem_cons_of_mem _ h)
/-- what a new row under another brings: the list b of the other has grown -/
def UnderRet (l b : Addr) (rows bs : List Value) (kl kb : Nat) (R : List (Addr × Obj)) (kd nm ur lo va : Str) (par : Value) (news' : List (Addr × Obj)) (r : Value) : Prop := ∃ a dx es n ch a2 ns kl' kb' tr tr2,
  news' = (l, listOf (rows ++ [Value.ref a]).toArray kl') :: (b, listOf (bs ++ [Value.int (rows.length : Int) tr]).toArray kb') :: (newRow a dx es n ⟨kd, nm, ur, lo, va, par, ch, a2, ns⟩ ++ R) ∧ Flds es ⟨kd, nm, ur, lo, va, par, ch, a2, ns⟩ ∧
  (∀ p ∈ (l, listOf rows.toArray kl) :: (b, listOf bs.toArray kb) :: R, p.1 ≠ a ∧ p.1 ≠ dx ∧ p.1 ≠ ch ∧ p.1 ≠ a2 ∧ p.1 ≠ ns) ∧ (@LT.lt Nat _ dx a ∧ @LT.lt Nat _ a ch ∧ @LT.lt Nat _ ch a2 ∧ @LT.lt Nat _ a2 ns) ∧ r = .int (rows.length : Int) tr2
theorem UnderRet.mk {l b a dx ch a2 ns : Addr} {rows bs : List Value} {kl kb n kl' kb' : Nat} {R : List (Addr × Obj)} {kd nm ur lo va : Str} {par r : Value} {es : List DictEntry} {tr tr2 : Tok} {news' : List (Addr × Obj)}
    (e : news' = (l, listOf (rows ++ [Value.ref a]).toArray kl') :: (b, listOf (bs ++ [Value.int (rows.length : Int) tr]).toArray kb') :: (newRow a dx es n ⟨kd, nm, ur, lo, va, par, ch, a2, ns⟩ ++ R)) (h1 : Flds es ⟨kd, nm, ur, lo, va, par, ch, a2, ns⟩)
    (h2 : ∀ p ∈ (l, listOf rows.toArray kl) :: (b, listOf bs.toArray kb) :: R, p.1 ≠ a ∧ p.1 ≠ dx ∧ p.1 ≠ ch ∧ p.1 ≠ a2 ∧ p.1 ≠ ns) (h3 : @LT.lt Nat _ dx a ∧ @LT.lt Nat _ a ch ∧ @LT.lt Nat _ ch a2 ∧ @LT.lt Nat _ a2 ns) (hr : r = .int (rows.length : Int) tr2) : UnderRet l b rows bs kl kb R kd nm ur lo va par news' r :=
  ⟨a, dx, es, n, ch, a2, ns, kl', kb', tr, tr2, e, h1, h2, h3, hr⟩
section
variable {w : World} {f : Addr} {args : List Value} {room : Nat} {news : List (Addr × Obj)} {Ret : List (Addr × Obj) → Value → Prop} {loose : List Str} {mean : ExcName → Option Value} {mg mb : Str → Option Value} {dp un : Nat} {gd : Option (List Code)} {cn : Str} {cs : Scope} {a0 : Addr} {ccd : Value} {cl : List (Str × Addr)} {outer : List Env} {A₀ : Around} {base h₀ : Heap} {L : Addr} {m : Str → Option Value} {s : Shared} {Q E : Value → Shared → Prop} {news₀ : List (Addr × Obj)}
theorem Tell.useUnder {l b : Addr} {rows bs : List Value} {kl kb : Nat} {R : List (Addr × Obj)} {kd nm ur lo va : Str} {par : Value} (B : Below A₀ base outer h₀) (F : Fr h₀ L s.heap m) (X : (Mine.K w.params).In h₀) (N : News h₀ L s.heap news) (T : Top topProg loose mean mg mb h₀) (hk : cs.kind = .function) (hd : dp + room < recursionLimit) (hu : un + 40 * room < cLine)
    (C : Tell w f args room news (UnderRet l b rows bs kl kb R kd nm ur lo va par))
    (ret : ∀ a dx es n ch a2 ns kl' kb' tr tr2 h' tk', Fr h₀ L h' m → News h₀ L h' ((l, listOf (rows ++ [Value.ref a]).toArray kl') :: (b, listOf (bs ++ [Value.int (rows.length : Int) tr]).toArray kb') :: (newRow a dx es n ⟨kd, nm, ur, lo, va, par, ch, a2, ns⟩ ++ R)) → Flds es ⟨kd, nm, ur, lo, va, par, ch, a2, ns⟩ →
      (∀ p ∈ (l, listOf rows.toArray kl) :: (b, listOf bs.toArray kb) :: R, p.1 ≠ a ∧ p.1 ≠ dx ∧ p.1 ≠ ch ∧ p.1 ≠ a2 ∧ p.1 ≠ ns) → (@LT.lt Nat _ dx a ∧ @LT.lt Nat _ a ch ∧ @LT.lt Nat _ ch a2 ∧ @LT.lt Nat _ a2 ns) → Q (.int (rows.length : Int) tr2) { s with heap := h', toks := tk' }) :
    wpAny (model PySem.Challenge.rw_xw0213_01.row.prog w) (ktrTop dp un gd cn cs L a0 ccd cl outer) (call (.ref f) args) Q E s :=
  Tell.use B F X N T hk hd hu C (fun p hp => hp) fun r news' h' tk' F' N' hP => by
    obtain ⟨a, dx, es, n, ch, a2, ns, kl', kb', tr, tr2, rfl, h1, h2, h3, rfl⟩ := hP
    exact ret a dx es n ch a2 ns kl' kb' tr tr2 h' tk' F' N' h1 h2 h3
end
set_option maxHeartbeats 2000000 in
theorem addChildU_tell {w : World} {t l chp r0 : Addr} {rows chs : List Value} {kl kc : Nat} {pi : Int} {tp t1 t2 t3 t4 t5 : Tok} {kd nm0 ur lo va : Str} {d0 : NodeD} (R : List (Addr × Obj)) (hR : ∀ p ∈ R, p.1 ≠ l) (hR2 : ∀ p ∈ R, p.1 ≠ chp) (hlc : @Ne Nat chp l)
    (hT : TreeAt R t l) (hz : rows.length ≤ 100000) (hzc : chs.length ≤ 1000) (he0 : 0 ≤ pi) (he : rows[pi.toNat]? = some (.ref r0)) (hN : NodeAt R r0 d0) (hk0 : d0.kind = Str.ofString "root") (hc0 : d0.ch = chp) :
    Tell w 169 [.ref t, .int pi tp, .str kd t1, .str nm0 t2, .str ur t3, .str lo t4, .str va t5] 4 ((l, listOf rows.toArray kl) :: (chp, listOf chs.toArray kc) :: R) (UnderRet l chp rows chs kl kc R kd nm0 ur lo va (.int pi tp)) := by
  have hT0 := hT.mono (n' := (l, listOf rows.toArray kl) :: (chp, listOf chs.toArray kc) :: R) (by kcf_all)
  have hT9 := hT.mono (n' := (chp, listOf chs.toArray kc) :: R) (by kcf_all)
  first | (refine el_0_5 hT fun td hh htk hT1 hT2 => ?_) | (refine el_1_4 hT fun td hh htk hT1 hT2 => ?_) | (refine el_2_3 hT fun td hh htk hT1 hT2 => ?_) | (refine el_3_2 hT fun td hh htk hT1 hT2 => ?_) | (refine el_4_1 hT fun td hh htk hT1 hT2 => ?_) | obtain ⟨td, hh, htk, hT1, hT2⟩ := hT
  try clear hT
  obtain ⟨dx0, es0, n0, u1, u2, u3, u4, u5, hN1, hN2, g1, g2, g3, g4, g5, g6, g7, g8⟩ := hN
  rw [hk0] at g1
  rw [hc0] at g6
  refine Tell.intro fun loose mean mg mb dp un gd cn nm ig ic mr a ccd cl outer A₀ base h₀ L m sh sg sd st so Q E B F X N T hd hu ret => ?_
  refine wpAny_call ?_
  k_dflt k_enter
  rename Fr _ _ _ _ => F1
  refine (let A1 : Around := _; let m1 : Str → Option Value := _; let t1 : Nat := _; have F1 : Fr _ _ _ m1 := F1; (?_ : wpAny _ A1 _ _ _ (Shared.mk _ _ _ t1 _)))
  (repeat' (first | ((with_reducible show wpAny _ _ (callWith _ (Value.ref _) _ (backTo _ (starEach (_ :: _) _)) []) _ _ _); k_dflt (refine' callWith_mine ?zkX ?zkk ?_ ?zhe ?zhp; (case zhe => exact rfl); (case zhp => exact rfl); (case zkX => with_reducible assumption); (case zkk => with_unfolding_all exact rfl))) | (k_here; (with_reducible show wpAny _ _ (subscriptTail _ _ (Value.ref _) (Value.int _ _)) _ _ _); (with_unfolding_all refine' item_at ?zk1 ?zk2 ?zk4 ?zk5 ?zk6 ?_ ?zk7; (case zk1 => k_asm); (case zk2 => k_mem); (case zk4 => assumption); (case zk5 => assumption); (case zk6 => omega); (case zk7 => with_unfolding_all rfl); k_whole)) | ((with_reducible show wpAny _ _ (call (Value.ref 148) _) _ _ _); refine stop_at ?_) | ((with_reducible show wpAny _ _ (call (Value.ref 155) _) _ _ _); k_dflt (refine' Tell.useC (room := 1) ?zB ?zF ?zX ?zN ?zT ?zk ?zd ?zu (row_tell _ ?zhT ?zhl ?zh0 ?zhz ?zhi) ?_; (case zB => k_asm); (case zF => k_asm); (case zX => k_asm); (case zN => k_asm); (case zT => k_asm); (case zk => first | exact rfl | assumption); (case zd => k_room); (case zu => k_units); (case zhT => assumption); (case zhl => k_mem); (case zhi => first | assumption | exact rfl); (case zh0 => omega); (case zhz => omega)); intro h' tk' F' N') | (k_here; (with_reducible show wpAny _ _ (subscriptTail _ _ (Value.ref _) (Value.int _ _)) _ _ _); (with_unfolding_all refine' item_led ?zk1 ?zk2 ?zk4 ?zk5 ?zk6 ?_ ?zk7; (case zk1 => k_asm); (case zk2 => k_mem); (case zk4 => omega); (case zk5 => omega); (case zk6 => omega); (case zk7 => with_unfolding_all rfl); k_whole); intro v' hv') | (k_unfold; (try dsimp only)) | walk1 | (dsimp only; walk1) | (leave1; (try dsimp only))))
  rename Fr _ _ _ _ => F0
  rename (Mine.K w.params).In _ => X0
  refine go_on (parents_root (X0.keeps F0.keep) ?_)
  (repeat' (first | ((with_reducible show wpAny _ _ (callWith _ (Value.ref _) _ (backTo _ (starEach (_ :: _) _)) []) _ _ _); k_dflt (refine' callWith_mine ?zkX ?zkk ?_ ?zhe ?zhp; (case zhe => exact rfl); (case zhp => exact rfl); (case zkX => with_reducible assumption); (case zkk => with_unfolding_all exact rfl))) | (k_here; (with_reducible show wpAny _ _ (subscriptTail _ _ (Value.ref _) (Value.int _ _)) _ _ _); (with_unfolding_all refine' item_at ?zk1 ?zk2 ?zk4 ?zk5 ?zk6 ?_ ?zk7; (case zk1 => k_asm); (case zk2 => k_mem); (case zk4 => assumption); (case zk5 => assumption); (case zk6 => omega); (case zk7 => with_unfolding_all rfl); k_whole)) | ((with_reducible show wpAny _ _ (call (Value.ref 148) _) _ _ _); refine stop_at ?_) | ((with_reducible show wpAny _ _ (call (Value.ref 155) _) _ _ _); k_dflt (refine' Tell.useC (room := 1) ?zB ?zF ?zX ?zN ?zT ?zk ?zd ?zu (row_tell _ ?zhT ?zhl ?zh0 ?zhz ?zhi) ?_; (case zB => k_asm); (case zF => k_asm); (case zX => k_asm); (case zN => k_asm); (case zT => k_asm); (case zk => first | exact rfl | assumption); (case zd => k_room); (case zu => k_units); (case zhT => assumption); (case zhl => k_mem); (case zhi => first | assumption | exact rfl); (case zh0 => omega); (case zhz => omega)); intro h' tk' F' N') | (k_here; (with_reducible show wpAny _ _ (subscriptTail _ _ (Value.ref _) (Value.int _ _)) _ _ _); (with_unfolding_all refine' item_led ?zk1 ?zk2 ?zk4 ?zk5 ?zk6 ?_ ?zk7; (case zk1 => k_asm); (case zk2 => k_mem); (case zk4 => omega); (case zk5 => omega); (case zk6 => omega); (case zk7 => with_unfolding_all rfl); k_whole); intro v' hv') | (k_unfold; (try dsimp only)) | walk1 | (dsimp only; walk1) | (leave1; (try dsimp only))))
  refine go_on ?_
  rename Fr _ _ _ _ => F2
  rename News _ _ _ _ => N2
  refine' Tell.useRow (room := 2) ?B F2 ?X N2 ?T rfl ?d ?u (newRow_tell (t := t) (l := l) (rows := rows) (k := kl) ((chp, listOf chs.toArray kc) :: R) ?hR hT9 hz rfl) ?_
  case B => k_asm
  case X => k_asm
  case T => k_asm
  case d => k_room
  case u => k_units
  case hR => exact fun p hp => (List.mem_cons.mp hp).elim (fun e => e ▸ hlc) (hR p)
  intro a9 dx9 es9 n9 ch9 a29 ns9 k9 tr9 h' tk' F' N' hFl hfr hlt
  refine row_then N' hfr (List.mem_cons_of_mem _ List.mem_cons_self) hR2 fun R' hR' hRn1 hRs N3 => ?_
  have hRl : l ≠ chp := fun e => hlc e.symm
  have he2 : (rows ++ [Value.ref a9])[pi.toNat]? = some (.ref r0) := by
    obtain ⟨hk9, _⟩ := List.getElem?_eq_some_iff.mp he
    rw [List.getElem?_append_left hk9]; exact he
  have hz2 : (rows ++ [Value.ref a9]).length ≤ 1000000 := by rw [List.length_append, List.length_singleton]; omega
  replace hT1 := hRs _ hT1
  replace hT2 := hRs _ hT2
  replace hN1 := hRs _ hN1
  replace hN2 := hRs _ hN2
  clear N' F2 N2
  (repeat' (first | ((with_reducible show wpAny _ _ (callWith _ (Value.ref _) _ (backTo _ (starEach (_ :: _) _)) []) _ _ _); k_dflt (refine' callWith_mine ?zkX ?zkk ?_ ?zhe ?zhp; (case zhe => exact rfl); (case zhp => exact rfl); (case zkX => with_reducible assumption); (case zkk => with_unfolding_all exact rfl))) | (k_here; (with_reducible show wpAny _ _ (subscriptTail _ _ (Value.ref _) (Value.int _ _)) _ _ _); (with_unfolding_all refine' item_at ?zk1 ?zk2 ?zk4 ?zk5 ?zk6 ?_ ?zk7; (case zk1 => k_asm); (case zk2 => k_mem); (case zk4 => assumption); (case zk5 => assumption); (case zk6 => omega); (case zk7 => with_unfolding_all rfl); k_whole)) | ((with_reducible show wpAny _ _ (call (Value.ref 148) _) _ _ _); refine stop_at ?_) | ((with_reducible show wpAny _ _ (call (Value.ref 155) _) _ _ _); k_dflt (refine' Tell.useC (room := 1) ?zB ?zF ?zX ?zN ?zT ?zk ?zd ?zu (row_tell _ ?zhT ?zhl ?zh0 ?zhz ?zhi) ?_; (case zB => k_asm); (case zF => k_asm); (case zX => k_asm); (case zN => k_asm); (case zT => k_asm); (case zk => first | exact rfl | assumption); (case zd => k_room); (case zu => k_units); (case zhT => assumption); (case zhl => k_mem); (case zhi => first | assumption | exact rfl); (case zh0 => omega); (case zhz => omega)); intro h' tk' F' N') | (k_here; (with_reducible show wpAny _ _ (subscriptTail _ _ (Value.ref _) (Value.int _ _)) _ _ _); (with_unfolding_all refine' item_led ?zk1 ?zk2 ?zk4 ?zk5 ?zk6 ?_ ?zk7; (case zk1 => k_asm); (case zk2 => k_mem); (case zk4 => omega); (case zk5 => omega); (case zk6 => omega); (case zk7 => with_unfolding_all rfl); k_whole); intro v' hv') | (k_unfold; (try dsimp only)) | walk1 | (dsimp only; walk1) | (leave1; (try dsimp only))))
  subst hR'
  rename News h₀ L _ _ => N9
  simp only [List.push_toArray] at N9
  exact ret _ _ _ _ (by assumption) (news_sub N9 swap2) (UnderRet.mk rfl hFl hfr hlt rfl)
set_option maxHeartbeats 1000000 in
theorem addElementU_tell {w : World} {t l chp r0 : Addr} {rows chs : List Value} {kl kc : Nat} {pi : Int} {tp t2 t3 t4 : Tok} {nm0 ur lo : Str} {d0 : NodeD} (R : List (Addr × Obj)) (hR : ∀ p ∈ R, p.1 ≠ l) (hR2 : ∀ p ∈ R, p.1 ≠ chp) (hlc : @Ne Nat chp l)
    (hT : TreeAt R t l) (hz : rows.length ≤ 100000) (hzc : chs.length ≤ 1000) (he0 : 0 ≤ pi) (he : rows[pi.toNat]? = some (.ref r0)) (hN : NodeAt R r0 d0) (hk0 : d0.kind = Str.ofString "root") (hc0 : d0.ch = chp) :
    Tell w 176 [.ref t, .int pi tp, .str nm0 t2, .str ur t3, .str lo t4] 6 ((l, listOf rows.toArray kl) :: (chp, listOf chs.toArray kc) :: R) (UnderRet l chp rows chs kl kc R (Str.ofString "element") nm0 ur lo (Str.ofString "") (.int pi tp)) := by
  have hT9 := hT
  first | (refine el_0_5 hT fun td hh htk hT1 hT2 => ?_) | (refine el_1_4 hT fun td hh htk hT1 hT2 => ?_) | (refine el_2_3 hT fun td hh htk hT1 hT2 => ?_) | (refine el_3_2 hT fun td hh htk hT1 hT2 => ?_) | (refine el_4_1 hT fun td hh htk hT1 hT2 => ?_) | obtain ⟨td, hh, htk, hT1, hT2⟩ := hT
  try clear hT
  refine Tell.intro fun loose mean mg mb dp un gd cn nm ig ic mr a ccd cl outer A₀ base h₀ L m sh sg sd st so Q E B F X N T hd hu ret => ?_
  refine wpAny_call ?_
  k_dflt k_enter
  rename Fr _ _ _ _ => F1
  refine (let A1 : Around := _; let m1 : Str → Option Value := _; let t1 : Nat := _; have F1 : Fr _ _ _ m1 := F1; (?_ : wpAny _ A1 _ _ _ (Shared.mk _ _ _ t1 _)))
  (repeat' (first | ((with_reducible show wpAny _ _ (call (Value.ref 169) _) _ _ _); refine stop_at ?_) | ((with_reducible show wpAny _ _ (callWith _ (Value.ref _) _ (backTo _ (starEach (_ :: _) _)) []) _ _ _); k_dflt (refine' callWith_mine ?zkX ?zkk ?_ ?zhe ?zhp; (case zhe => exact rfl); (case zhp => exact rfl); (case zkX => with_reducible assumption); (case zkk => with_unfolding_all exact rfl))) | (k_here; (with_reducible show wpAny _ _ (subscriptTail _ _ (Value.ref _) (Value.int _ _)) _ _ _); (with_unfolding_all refine' item_at ?zk1 ?zk2 ?zk4 ?zk5 ?zk6 ?_ ?zk7; (case zk1 => k_asm); (case zk2 => k_mem); (case zk4 => assumption); (case zk5 => assumption); (case zk6 => omega); (case zk7 => with_unfolding_all rfl); k_whole)) | ((with_reducible show wpAny _ _ (call (Value.ref 148) _) _ _ _); refine stop_at ?_) | ((with_reducible show wpAny _ _ (call (Value.ref 155) _) _ _ _); k_dflt (refine' Tell.useC (room := 1) ?zB ?zF ?zX ?zN ?zT ?zk ?zd ?zu (row_tell _ ?zhT ?zhl ?zh0 ?zhz ?zhi) ?_; (case zB => k_asm); (case zF => k_asm); (case zX => k_asm); (case zN => k_asm); (case zT => k_asm); (case zk => first | exact rfl | assumption); (case zd => k_room); (case zu => k_units); (case zhT => assumption); (case zhl => k_mem); (case zhi => first | assumption | exact rfl); (case zh0 => omega); (case zhz => omega)); intro h' tk' F' N') | (k_here; (with_reducible show wpAny _ _ (subscriptTail _ _ (Value.ref _) (Value.int _ _)) _ _ _); (with_unfolding_all refine' item_led ?zk1 ?zk2 ?zk4 ?zk5 ?zk6 ?_ ?zk7; (case zk1 => k_asm); (case zk2 => k_mem); (case zk4 => omega); (case zk5 => omega); (case zk6 => omega); (case zk7 => with_unfolding_all rfl); k_whole); intro v' hv') | (k_unfold; (try dsimp only)) | walk1 | (dsimp only; walk1) | (leave1; (try dsimp only))))
  refine go_on ?_
  rename Fr _ _ _ _ => F2
  rename News _ _ _ _ => N2
  refine' Tell.useUnder (room := 4) ?B F2 ?X N2 ?T rfl ?d ?u (addChildU_tell R hR hR2 hlc hT9 hz hzc he0 he hN hk0 hc0) ?_
  case B => k_asm
  case X => k_asm
  case T => k_asm
  case d => k_room
  case u => k_units
  intro a9 dx9 es9 n9 ch9 a29 ns9 k9 kb9 tr9 tr29 h' tk' F' N' hFl hfr hlt
  clear F2 N2
  (repeat' (first | ((with_reducible show wpAny _ _ (call (Value.ref 169) _) _ _ _); refine stop_at ?_) | ((with_reducible show wpAny _ _ (callWith _ (Value.ref _) _ (backTo _ (starEach (_ :: _) _)) []) _ _ _); k_dflt (refine' callWith_mine ?zkX ?zkk ?_ ?zhe ?zhp; (case zhe => exact rfl); (case zhp => exact rfl); (case zkX => with_reducible assumption); (case zkk => with_unfolding_all exact rfl))) | (k_here; (with_reducible show wpAny _ _ (subscriptTail _ _ (Value.ref _) (Value.int _ _)) _ _ _); (with_unfolding_all refine' item_at ?zk1 ?zk2 ?zk4 ?zk5 ?zk6 ?_ ?zk7; (case zk1 => k_asm); (case zk2 => k_mem); (case zk4 => assumption); (case zk5 => assumption); (case zk6 => omega); (case zk7 => with_unfolding_all rfl); k_whole)) | ((with_reducible show wpAny _ _ (call (Value.ref 148) _) _ _ _); refine stop_at ?_) | ((with_reducible show wpAny _ _ (call (Value.ref 155) _) _ _ _); k_dflt (refine' Tell.useC (room := 1) ?zB ?zF ?zX ?zN ?zT ?zk ?zd ?zu (row_tell _ ?zhT ?zhl ?zh0 ?zhz ?zhi) ?_; (case zB => k_asm); (case zF => k_asm); (case zX => k_asm); (case zN => k_asm); (case zT => k_asm); (case zk => first | exact rfl | assumption); (case zd => k_room); (case zu => k_units); (case zhT => assumption); (case zhl => k_mem); (case zhi => first | assumption | exact rfl); (case zh0 => omega); (case zhz => omega)); intro h' tk' F' N') | (k_here; (with_reducible show wpAny _ _ (subscriptTail _ _ (Value.ref _) (Value.int _ _)) _ _ _); (with_unfolding_all refine' item_led ?zk1 ?zk2 ?zk4 ?zk5 ?zk6 ?_ ?zk7; (case zk1 => k_asm); (case zk2 => k_mem); (case zk4 => omega); (case zk5 => omega); (case zk6 => omega); (case zk7 => with_unfolding_all rfl); k_whole); intro v' hv') | (k_unfold; (try dsimp only)) | walk1 | (dsimp only; walk1) | (leave1; (try dsimp only))))
  exact ret _ _ _ _ (by assumption) (by assumption) (UnderRet.mk rfl hFl hfr hlt rfl)
set_option maxHeartbeats 2000000 in
theorem addNs_tell {w : World} {t l nsp r0 : Addr} {rows : List Value} {kl kc : Nat} {ei : Int} {te t2 t3 : Tok} {pf ur : Str} {d0 : NodeD} (R : List (Addr × Obj)) (hR : ∀ p ∈ R, p.1 ≠ l) (hR2 : ∀ p ∈ R, p.1 ≠ nsp) (hlc : @Ne Nat nsp l)
    (hT : TreeAt R t l) (hz : rows.length ≤ 100000) (he0 : 0 ≤ ei) (he : rows[ei.toNat]? = some (.ref r0)) (hN : NodeAt R r0 d0) (hk0 : d0.kind = Str.ofString "element") (hc0 : d0.ns = nsp) :
    Tell w 218 [.ref t, .int ei te, .str pf t2, .str ur t3] 4 ((l, listOf rows.toArray kl) :: (nsp, listOf ([] : List Value).toArray kc) :: R) (UnderRet l nsp rows [] kl kc R (Str.ofString "namespace") pf (Str.ofString "") pf ur (.int ei te)) := by
  have hT0 := hT.mono (n' := (l, listOf rows.toArray kl) :: (nsp, listOf ([] : List Value).toArray kc) :: R) (by kcf_all)
  have hT9 := hT.mono (n' := (nsp, listOf ([] : List Value).toArray kc) :: R) (by kcf_all)
  first | (refine el_0_5 hT fun td hh htk hT1 hT2 => ?_) | (refine el_1_4 hT fun td hh htk hT1 hT2 => ?_) | (refine el_2_3 hT fun td hh htk hT1 hT2 => ?_) | (refine el_3_2 hT fun td hh htk hT1 hT2 => ?_) | (refine el_4_1 hT fun td hh htk hT1 hT2 => ?_) | obtain ⟨td, hh, htk, hT1, hT2⟩ := hT
  try clear hT
  obtain ⟨dx0, es0, n0, u1, u2, u3, u4, u5, hN1, hN2, g1, g2, g3, g4, g5, g6, g7, g8⟩ := hN
  rw [hk0] at g1
  rw [hc0] at g8
  refine Tell.intro fun loose mean mg mb dp un gd cn nm ig ic mr a ccd cl outer A₀ base h₀ L m sh sg sd st so Q E B F X N T hd hu ret => ?_
  refine wpAny_call ?_
  k_dflt k_enter
  rename Fr _ _ _ _ => F1
  refine (let A1 : Around := _; let m1 : Str → Option Value := _; let t1 : Nat := _; have F1 : Fr _ _ _ m1 := F1; (?_ : wpAny _ A1 _ _ _ (Shared.mk _ _ _ t1 _)))
  (repeat' (first | ((with_reducible show wpAny _ _ (call (Value.ref 169) _) _ _ _); refine stop_at ?_) | ((with_reducible show wpAny _ _ (callWith _ (Value.ref _) _ (backTo _ (starEach (_ :: _) _)) []) _ _ _); k_dflt (refine' callWith_mine ?zkX ?zkk ?_ ?zhe ?zhp; (case zhe => exact rfl); (case zhp => exact rfl); (case zkX => with_reducible assumption); (case zkk => with_unfolding_all exact rfl))) | (k_here; (with_reducible show wpAny _ _ (subscriptTail _ _ (Value.ref _) (Value.int _ _)) _ _ _); (with_unfolding_all refine' item_at ?zk1 ?zk2 ?zk4 ?zk5 ?zk6 ?_ ?zk7; (case zk1 => k_asm); (case zk2 => k_mem); (case zk4 => assumption); (case zk5 => assumption); (case zk6 => omega); (case zk7 => with_unfolding_all rfl); k_whole)) | ((with_reducible show wpAny _ _ (call (Value.ref 148) _) _ _ _); refine stop_at ?_) | ((with_reducible show wpAny _ _ (call (Value.ref 155) _) _ _ _); k_dflt (refine' Tell.useC (room := 1) ?zB ?zF ?zX ?zN ?zT ?zk ?zd ?zu (row_tell _ ?zhT ?zhl ?zh0 ?zhz ?zhi) ?_; (case zB => k_asm); (case zF => k_asm); (case zX => k_asm); (case zN => k_asm); (case zT => k_asm); (case zk => first | exact rfl | assumption); (case zd => k_room); (case zu => k_units); (case zhT => assumption); (case zhl => k_mem); (case zhi => first | assumption | exact rfl); (case zh0 => omega); (case zhz => omega)); intro h' tk' F' N') | (k_here; (with_reducible show wpAny _ _ (subscriptTail _ _ (Value.ref _) (Value.int _ _)) _ _ _); (with_unfolding_all refine' item_led ?zk1 ?zk2 ?zk4 ?zk5 ?zk6 ?_ ?zk7; (case zk1 => k_asm); (case zk2 => k_mem); (case zk4 => omega); (case zk5 => omega); (case zk6 => omega); (case zk7 => with_unfolding_all rfl); k_whole); intro v' hv') | (k_unfold; (try dsimp only)) | walk1 | (dsimp only; walk1) | (leave1; (try dsimp only))))
  refine go_on ?_
  rename Fr _ _ _ _ => F0
  rename News _ _ _ _ => N0
  refine led_loop (l := nsp) (vs := []) (nn := kc) (x2 := Str.ofString "known") rfl (by k_mem) F0 N0 (fun i v m₁ h tk own hv => by simp at hv) ?_
  intro m₁ h tk F1 N1
  (repeat' (first | ((with_reducible show wpAny _ _ (call (Value.ref 169) _) _ _ _); refine stop_at ?_) | ((with_reducible show wpAny _ _ (callWith _ (Value.ref _) _ (backTo _ (starEach (_ :: _) _)) []) _ _ _); k_dflt (refine' callWith_mine ?zkX ?zkk ?_ ?zhe ?zhp; (case zhe => exact rfl); (case zhp => exact rfl); (case zkX => with_reducible assumption); (case zkk => with_unfolding_all exact rfl))) | (k_here; (with_reducible show wpAny _ _ (subscriptTail _ _ (Value.ref _) (Value.int _ _)) _ _ _); (with_unfolding_all refine' item_at ?zk1 ?zk2 ?zk4 ?zk5 ?zk6 ?_ ?zk7; (case zk1 => k_asm); (case zk2 => k_mem); (case zk4 => assumption); (case zk5 => assumption); (case zk6 => omega); (case zk7 => with_unfolding_all rfl); k_whole)) | ((with_reducible show wpAny _ _ (call (Value.ref 148) _) _ _ _); refine stop_at ?_) | ((with_reducible show wpAny _ _ (call (Value.ref 155) _) _ _ _); k_dflt (refine' Tell.useC (room := 1) ?zB ?zF ?zX ?zN ?zT ?zk ?zd ?zu (row_tell _ ?zhT ?zhl ?zh0 ?zhz ?zhi) ?_; (case zB => k_asm); (case zF => k_asm); (case zX => k_asm); (case zN => k_asm); (case zT => k_asm); (case zk => first | exact rfl | assumption); (case zd => k_room); (case zu => k_units); (case zhT => assumption); (case zhl => k_mem); (case zhi => first | assumption | exact rfl); (case zh0 => omega); (case zhz => omega)); intro h' tk' F' N') | (k_here; (with_reducible show wpAny _ _ (subscriptTail _ _ (Value.ref _) (Value.int _ _)) _ _ _); (with_unfolding_all refine' item_led ?zk1 ?zk2 ?zk4 ?zk5 ?zk6 ?_ ?zk7; (case zk1 => k_asm); (case zk2 => k_mem); (case zk4 => omega); (case zk5 => omega); (case zk6 => omega); (case zk7 => with_unfolding_all rfl); k_whole); intro v' hv') | (k_unfold; (try dsimp only)) | walk1 | (dsimp only; walk1) | (leave1; (try dsimp only))))
  refine go_on ?_
  rename Fr _ _ _ _ => F2
  rename News _ _ _ _ => N2
  refine' Tell.useRow (room := 2) ?B F2 ?X N2 ?T rfl ?d ?u (newRow_tell (t := t) (l := l) (rows := rows) (k := kl) ((nsp, listOf ([] : List Value).toArray kc) :: R) ?hR hT9 hz rfl) ?_
  case B => k_asm
  case X => k_asm
  case T => k_asm
  case d => k_room
  case u => k_units
  case hR => exact fun p hp => (List.mem_cons.mp hp).elim (fun e => e ▸ hlc) (hR p)
  intro a9 dx9 es9 n9 ch9 a29 ns9 k9 tr9 h' tk' F' N' hFl hfr hlt
  refine row_then N' hfr (List.mem_cons_of_mem _ List.mem_cons_self) hR2 fun R' hR' hRn1 hRs N3 => ?_
  have hRl : l ≠ nsp := fun e => hlc e.symm
  replace hT1 := hRs _ hT1
  replace hT2 := hRs _ hT2
  replace hN1 := hRs _ hN1
  replace hN2 := hRs _ hN2
  clear N' F2 N2
  (repeat' (first | ((with_reducible show wpAny _ _ (call (Value.ref 169) _) _ _ _); refine stop_at ?_) | ((with_reducible show wpAny _ _ (callWith _ (Value.ref _) _ (backTo _ (starEach (_ :: _) _)) []) _ _ _); k_dflt (refine' callWith_mine ?zkX ?zkk ?_ ?zhe ?zhp; (case zhe => exact rfl); (case zhp => exact rfl); (case zkX => with_reducible assumption); (case zkk => with_unfolding_all exact rfl))) | (k_here; (with_reducible show wpAny _ _ (subscriptTail _ _ (Value.ref _) (Value.int _ _)) _ _ _); (with_unfolding_all refine' item_at ?zk1 ?zk2 ?zk4 ?zk5 ?zk6 ?_ ?zk7; (case zk1 => k_asm); (case zk2 => k_mem); (case zk4 => assumption); (case zk5 => assumption); (case zk6 => omega); (case zk7 => with_unfolding_all rfl); k_whole)) | ((with_reducible show wpAny _ _ (call (Value.ref 148) _) _ _ _); refine stop_at ?_) | ((with_reducible show wpAny _ _ (call (Value.ref 155) _) _ _ _); k_dflt (refine' Tell.useC (room := 1) ?zB ?zF ?zX ?zN ?zT ?zk ?zd ?zu (row_tell _ ?zhT ?zhl ?zh0 ?zhz ?zhi) ?_; (case zB => k_asm); (case zF => k_asm); (case zX => k_asm); (case zN => k_asm); (case zT => k_asm); (case zk => first | exact rfl | assumption); (case zd => k_room); (case zu => k_units); (case zhT => assumption); (case zhl => k_mem); (case zhi => first | assumption | exact rfl); (case zh0 => omega); (case zhz => omega)); intro h' tk' F' N') | (k_here; (with_reducible show wpAny _ _ (subscriptTail _ _ (Value.ref _) (Value.int _ _)) _ _ _); (with_unfolding_all refine' item_led ?zk1 ?zk2 ?zk4 ?zk5 ?zk6 ?_ ?zk7; (case zk1 => k_asm); (case zk2 => k_mem); (case zk4 => omega); (case zk5 => omega); (case zk6 => omega); (case zk7 => with_unfolding_all rfl); k_whole); intro v' hv') | (k_unfold; (try dsimp only)) | walk1 | (dsimp only; walk1) | (leave1; (try dsimp only))))
  subst hR'
  rename News h₀ L _ _ => N9
  simp only [List.push_toArray] at N9
  exact ret _ _ _ _ (by assumption) (news_sub N9 swap2) (UnderRet.mk rfl hFl hfr hlt rfl)
end

theorem reset_C14 (h : PySem.Heap) : PySem.W.GrownAll [] h := by
  w_top off
  walk1
section
open PySem PySem.W PyProof.Rows
set_option Elab.async false
set_option maxRecDepth 100000
set_option linter.unusedSimpArgs false
set_option hygiene false
theorem fillK14 : (fun (_ : Params → Frag) (_ : OpenLaw) => True) Mine.K PySem.Challenge.rw_xw0213_01 := by k_fill; trivial
theorem callWith_mine0 {f : Addr} {env : Env} {pos₁ : Pos} {first : List Value} {A : Around} {w : World} {E : Value → Shared → Prop} {s : Shared} {h₀ : Heap} {L : Addr} {m : Str → Option Value} {Qv : Value → Shared → Prop} (F : Fr h₀ L s.heap m) (X : (Mine.K w.params).In h₀) (hk : keepIn (Mine.K w.params) (.ref f) = true)
    (h : wpAny (model PySem.Challenge.rw_xw0213_01.row.prog w) A (call (.ref f) (first ++ [])) Qv E s) :
    wpAny (model PySem.Challenge.rw_xw0213_01.row.prog w) A (callWith pos₁ (.ref f) first (backTo pos₁ (starEach [] env)) []) Qv E s := callWith_K0 (X.keeps F.keep) hk h
set_option maxHeartbeats 2000000 in
theorem newRoot_tell {w : World} {t l : Addr} {rows : List Value} {k : Nat} (R : List (Addr × Obj)) (hR : ∀ p ∈ R, p.1 ≠ l) (hT : TreeAt R t l) (hz : rows.length ≤ 100000) :
    Tell w 162 [.ref t] 4 ((l, listOf rows.toArray k) :: R) (RowRet l rows k R (Str.ofString "root") (Str.ofString "") (Str.ofString "") (Str.ofString "") (Str.ofString "") .none) := by
  have hT0 := hT
  obtain ⟨td, hh, htk, hT1, hT2⟩ := hT
  refine Tell.intro fun loose mean mg mb dp un gd cn nm ig ic mr a ccd cl outer A₀ base h₀ L m sh sg sd st so Q E B F X N T hd hu ret => ?_
  refine wpAny_call ?_
  k_dflt k_enter
  rename Fr _ _ _ _ => F1
  refine (let A1 : Around := _; let m1 : Str → Option Value := _; let t1 : Nat := _; have F1 : Fr _ _ _ m1 := F1; (?_ : wpAny _ A1 _ _ _ (Shared.mk _ _ _ t1 _)))
  (repeat' (first | ((with_reducible show wpAny _ _ (call (Value.ref 148) _) _ _ _); k_dflt (refine' Tell.useRow (room := 2) ?zB ?zF ?zX ?zN ?zT ?zk ?zd ?zu (newRow_tell _ ?zhR ?zhT ?zhz ?zhp) ?_; (case zB => k_asm); (case zF => k_asm); (case zX => k_asm); (case zN => k_asm); (case zT => k_asm); (case zk => first | exact rfl | assumption); (case zd => k_room); (case zu => k_units); (case zhR => assumption); (case zhT => assumption); (case zhz => assumption); (case zhp => first | assumption | exact rfl)); intro a' dx' es' n' ch' at' ns' k' tr' h' tk' F' N' e2' e3' e4') | (k_unfold; (try dsimp only)) | walk1 | (dsimp only; walk1) | (leave1; (try dsimp only))))
  exact ret _ _ _ _ (by assumption) (by assumption) (RowRet.mk rfl (by assumption) (by assumption) (by assumption) rfl)
end

theorem reset_P1 (h : PySem.Heap) : PySem.W.GrownAll [] h := by
  w_top off
  walk1
section
open PySem PySem.W PyProof.Rows
set_option Elab.async false
set_option maxRecDepth 100000
set_option linter.unusedSimpArgs false
set_option hygiene false
theorem fillKP1 : (fun (_ : Params → Frag) (_ : OpenLaw) => True) Mine.K PySem.Challenge.rw_xw0213_01 := by k_fill; trivial
theorem pool_tell {w : World} {l : Addr} {vs : List Value} {ns : List Int} (hI : IntsAre vs ns) (hz : ns.length ≤ 63) (R : List (Addr × Obj)) {loose : List Str} {mean : ExcName → Option Value} {mg mb : Str → Option Value} {dp un : Nat} {gd : Option (List Code)} {cn : Str} {cs : Scope} {a : Addr} {ccd : Value} {cl : List (Str × Addr)} {outer : List Env} {A₀ : Around} {base h₀ : Heap} {L : Addr} {m : Str → Option Value} {s : Shared} {Q E : Value → Shared → Prop}
    (B : Below A₀ base outer h₀) (F : Fr h₀ L s.heap m) (X : (Mine.K w.params).In h₀) (N : News h₀ L s.heap R) (T : Top topProg loose mean mg mb h₀) (hk : cs.kind = .function) (hd : dp + 2 < recursionLimit) (hu : un + 40 * 2 < cLine) (hl : base.IsList l vs.toArray)
    (ret : ∀ src o h' tk', IsSrc o → (∀ p ∈ R, p.1 < src) → Fr h₀ L h' m → News h₀ L h' ((src, o) :: R) → Q (.ref src) { s with heap := h', toks := tk' }) :
    wpAny (model PySem.Challenge.rw_xw0213_01.row.prog w) (ktrTop dp un gd cn cs L a ccd cl outer) (call (.ref 323) [.ref l]) Q E s := by
  refine wpAny_call ?_
  obtain ⟨kind, nm, ig, ic, mr⟩ := cs
  obtain rfl : kind = .function := hk
  k_dflt k_enter
  (repeat' (first | (k_unfold; (try dsimp only)) | walk1 | (dsimp only; walk1) | (leave1; (try dsimp only))))
  all_goals (refine ret _ _ _ _ ?_ (by assumption) (by assumption) (by assumption))
  all_goals (refine ⟨_, _, _, _, _, rfl, ?_, Int.fmod_nonneg_of_pos _ (by decide), Int.fmod_lt_of_pos _ (by decide)⟩)
  all_goals omega
end

theorem reset_G1 (h : PySem.Heap) : PySem.W.GrownAll [] h := by
  w_top off
  walk1
section
open PySem PySem.W PyProof.Rows PySem.Calls
set_option Elab.async false
set_option maxRecDepth 100000
set_option linter.unusedSimpArgs false
theorem news_drop {h₀ h : Heap} {L : Addr} {l : List (Addr × Obj)} (n : Nat) (N : News h₀ L h l) : News h₀ L h (l.drop n) := fun p hp => N p (List.mem_of_mem_drop hp)
theorem PairsAre.nil {n : List (Addr × Obj)} : PairsAre n [] [] := ⟨rfl, fun i v h => by simp at h⟩
theorem PairsAre.cons {n : List (Addr × Obj)} {v : Value} {vs : List Value} {p : Str × Str} {ps : List (Str × Str)} (h1 : PairAt n v p) (h2 : PairsAre n vs ps) : PairsAre n (v :: vs) (p :: ps) := by
  refine ⟨by rw [List.length_cons, List.length_cons, h2.1], fun i u h => ?_⟩
  cases i with
  | zero => exact ⟨p, rfl, by cases h; exact h1⟩
  | succ i => exact h2.2 i u h
theorem pair_of {n : List (Addr × Obj)} {T : Addr} {a b : Str} {t1 t2 : Tok} (h : (T, ({ cls := .type "tuple", data := .seq #[.str a t1, .str b t2] } : Obj)) ∈ n) : PairAt n (.ref T) (a, b) := ⟨T, _, _, t1, t2, rfl, h, rfl, rfl⟩
theorem short_dec {ps : List (Str × Str)} (h : (decide (ps.length ≤ 10) && ps.all fun p => decide (p.1.length ≤ 10) && decide (p.2.length ≤ 100)) = true) : Short ps := by
  rw [Bool.and_eq_true, decide_eq_true_eq] at h
  refine ⟨h.1, fun p hp => ?_⟩
  have := List.all_eq_true.mp h.2 p hp
  rw [Bool.and_eq_true, decide_eq_true_eq, decide_eq_true_eq] at this
  exact this
theorem apart_dec {qs : List (Str × Str)} (h : (qs.map (·.1)).Nodup) : Apart qs := by
  intro i j p p' hij hi hj e
  have h1 : (qs.map (·.1))[i]? = some p.1 := by rw [List.getElem?_map, hi]; rfl
  have h2 : (qs.map (·.1))[j]? = some p'.1 := by rw [List.getElem?_map, hj]; rfl
  rw [← e] at h2
  obtain ⟨hi', ei⟩ := List.getElem?_eq_some_iff.mp h1
  obtain ⟨hj', ej⟩ := List.getElem?_eq_some_iff.mp h2
  exact (List.pairwise_iff_getElem.mp h i j hi' hj' hij) (ei.trans ej.symm)
theorem mem_of_arr {vs : List Value} {v : Value} {i : Nat} (h : vs.toArray[i]? = some v) : v ∈ vs := List.mem_of_getElem? (by simpa using h)
/-- what stands between two told leaves -/
def Leav (g₀ : Heap) (fs : List Addr) (T0 nw : List (Addr × Obj)) : Prop := ∃ fo o T, nw = fo ++ (375, o) :: T ∧ FO g₀ fs fo ∧ Tab1 o T ∧ (∀ p ∈ T, p.1 ≠ 375) ∧ (∀ p ∈ T0, p ∈ T) ∧ ∀ p ∈ (375, o) :: T, p.1 ∉ fs
def kindOk (kd : Str) : Bool := kd == Str.ofString "text" || kd == Str.ofString "comment" || kd == Str.ofString "instruction"
theorem Tab1.mono {o : Obj} {T T' : List (Addr × Obj)} (h : Tab1 o T) (hs : ∀ p ∈ T, p ∈ T') : Tab1 o T' := by
  rcases h with rfl | ⟨c', oc, vs, tq, rfl, a, b, c⟩
  · exact .inl rfl
  · exact .inr ⟨c', oc, vs, tq, rfl, hs _ a, b, c⟩
theorem leav_end {g₀ : Heap} {fs : List Addr} {T0 fo fo' T nw1 : List (Addr × Obj)} {I C D : Addr} {oI oC oD o : Obj} (hFO : FO g₀ fs fo) (hFO' : FO g₀ fs fo') (hoff' : ∀ p ∈ nw1, p.1 ∉ fs) (off : LCg.Off3 I C D (fo ++ (375, o) :: T)) (hTab : Tab1 o T) (h375 : ∀ p ∈ T, p.1 ≠ 375) (hsub : ∀ p ∈ T0, p ∈ T)
    (hc : nw1 = (375, o) :: (I, oI) :: (C, oC) :: (D, oD) :: T ∨ ∃ c' oc vs tq, nw1 = (375, tabObj #[rawInt 230, rawInt 22, .ref c']) :: (c', oc) :: (I, oI) :: (C, oC) :: (D, oD) :: T ∧ oc.data = .fields vs ∧ vs[1]? = some (.str lamQ1 tq) ∧ ∀ p ∈ (375, o) :: (I, oI) :: (C, oC) :: (D, oD) :: T, p.1 < c') :
    ∃ nw2, Leav g₀ fs T0 nw2 ∧ LCg.Off3 I C D nw2 ∧ (∀ p ∈ (I, oI) :: (C, oC) :: (D, oD) :: nw2, p ∈ fo' ++ nw1) ∧ ∀ p ∈ T0, p ∈ nw2 := by
  have off3 := off.mem
  have offF : ∀ p ∈ fo', p.1 ≠ I ∧ p.1 ≠ C ∧ p.1 ≠ D := fun p hp => by
    obtain ⟨o', ho'⟩ := hFO.mem (hFO'.addr hp)
    exact off3 (p.1, o') (List.mem_append_left _ ho')
  rcases hc with rfl | ⟨c', oc, vs, tq, rfl, a, b, hl⟩
  · refine ⟨fo' ++ (375, o) :: T, ⟨fo', o, T, rfl, hFO', hTab, h375, hsub, fun p hp => hoff' p ?_⟩, LCg.Off3.of fun p hp => ?_, ?_, fun p hp => List.mem_append_right _ (List.mem_cons_of_mem _ (hsub p hp))⟩
    · rcases List.mem_cons.mp hp with rfl | hp
      · exact List.mem_cons_self
      · exact .tail _ (.tail _ (.tail _ (.tail _ hp)))
    · rcases List.mem_append.mp hp with hp | hp
      · exact offF p hp
      · exact off3 p (List.mem_append_right _ hp)
    · intro p hp
      simp only [List.mem_cons, List.mem_append] at hp ⊢
      rcases hp with h | h | h | h | h | h
      · exact .inr (.inr (.inl h))
      · exact .inr (.inr (.inr (.inl h)))
      · exact .inr (.inr (.inr (.inr (.inl h))))
      · exact .inl h
      · exact .inr (.inl h)
      · exact .inr (.inr (.inr (.inr (.inr h))))
  · have hlt : ∀ p ∈ (375, o) :: (I, oI) :: (C, oC) :: (D, oD) :: T, p.1 ≠ c' := fun p hp => Nat.ne_of_lt (hl p hp)
    have nI : c' ≠ I := (hlt (I, oI) (by kcf_m)).symm
    have nC : c' ≠ C := (hlt (C, oC) (by kcf_m)).symm
    have nD : c' ≠ D := (hlt (D, oD) (by kcf_m)).symm
    have n3 : c' ≠ 375 := (hlt (375, o) (by kcf_m)).symm
    refine ⟨fo' ++ (375, tabObj #[rawInt 230, rawInt 22, .ref c']) :: (c', oc) :: T, ⟨fo', _, (c', oc) :: T, rfl, hFO', .inr ⟨c', oc, vs, tq, rfl, List.mem_cons_self, a, b⟩, fun p hp => ?_, fun p hp => List.mem_cons_of_mem _ (hsub p hp), fun p hp => hoff' p ?_⟩, LCg.Off3.of fun p hp => ?_, ?_, fun p hp => List.mem_append_right _ (List.mem_cons_of_mem _ (List.mem_cons_of_mem _ (hsub p hp)))⟩
    · rcases List.mem_cons.mp hp with rfl | hp
      · exact n3
      · exact h375 p hp
    · rcases List.mem_cons.mp hp with rfl | hp
      · exact List.mem_cons_self
      · rcases List.mem_cons.mp hp with rfl | hp
        · exact .tail _ (.head _)
        · exact .tail _ (.tail _ (.tail _ (.tail _ (.tail _ hp))))
    · rcases List.mem_append.mp hp with hp | hp
      · exact offF p hp
      · rcases List.mem_cons.mp hp with rfl | hp
        · exact off3 (375, o) (List.mem_append_right _ List.mem_cons_self)
        · rcases List.mem_cons.mp hp with rfl | hp
          · exact ⟨nI, nC, nD⟩
          · exact off3 p (List.mem_append_right _ (List.mem_cons_of_mem _ hp))
    · intro p hp
      simp only [List.mem_cons, List.mem_append] at hp ⊢
      rcases hp with h | h | h | h | h | h | h
      · exact .inr (.inr (.inr (.inl h)))
      · exact .inr (.inr (.inr (.inr (.inl h))))
      · exact .inr (.inr (.inr (.inr (.inr (.inl h)))))
      · exact .inl h
      · exact .inr (.inl h)
      · exact .inr (.inr (.inl h))
      · exact .inr (.inr (.inr (.inr (.inr (.inr h)))))
theorem kind_cases {kd : Str} (h : kindOk kd = true) : kd = Str.ofString "text" ∨ kd = Str.ofString "comment" ∨ kd = Str.ofString "instruction" := by
  unfold kindOk at h
  simp only [Bool.or_eq_true, beq_iff_eq] at h
  rcases h with (h | h) | h
  · exact .inl h
  · exact .inr (.inl h)
  · exact .inr (.inr h)
/-- the told leaves -/
def LeavesAre (n : List (Addr × Obj)) (its : List Value) : Prop := ∀ v ∈ its, ∃ T kd t1 ta t2 x t3, v = .ref T ∧ (T, ({ cls := .type "tuple", data := .seq #[.str kd t1, .str ta t2, .str x t3] } : Obj)) ∈ n ∧ kindOk kd = true ∧ ta.length ≤ 1000 ∧ x.length ≤ 1000
theorem LeavesAre.nil {n : List (Addr × Obj)} : LeavesAre n [] := fun _ h => nomatch h
theorem LeavesAre.cons {n : List (Addr × Obj)} {T : Addr} {kd ta x : Str} {t1 t2 t3 : Tok} {its : List Value} (hm : (T, ({ cls := .type "tuple", data := .seq #[.str kd t1, .str ta t2, .str x t3] } : Obj)) ∈ n) (h : LeavesAre n its) (h1 : kindOk kd = true) (h2 : ta.length ≤ 1000) (h3 : x.length ≤ 1000) : LeavesAre n (.ref T :: its) := by
  intro v hv
  rcases List.mem_cons.mp hv with rfl | hv
  · exact ⟨T, kd, t1, ta, t2, x, t3, rfl, hm, h1, h2, h3⟩
  · exact h v hv
theorem leaves_start {P : Prop} {h₀ h : Heap} {L l e1 e2 e3 e4 e5 e6 e7 e8 c : Addr} {o1 o2 o3 o4 o5 o6 o7 o8 oc ot : Obj} {its : List Value} {k : Nat} (N : News h₀ L h [(l, listOf its.toArray k), (e1, o1), (e2, o2), (e3, o3), (e4, o4), (e5, o5), (e6, o6), (e7, o7), (e8, o8), (c, oc), (382, ot), (375, tabObj #[])])
    (hL : LeavesAre [(l, listOf its.toArray k), (e1, o1), (e2, o2), (e3, o3), (e4, o4), (e5, o5), (e6, o6), (e7, o7), (e8, o8), (c, oc), (382, ot)] its)
    (hne : @Ne Nat l 375 ∧ @Ne Nat e1 375 ∧ @Ne Nat e2 375 ∧ @Ne Nat e3 375 ∧ @Ne Nat e4 375 ∧ @Ne Nat e5 375 ∧ @Ne Nat e6 375 ∧ @Ne Nat e7 375 ∧ @Ne Nat e8 375 ∧ @Ne Nat c 375)
    (go : ∀ T0, ((l, listOf its.toArray k) ∈ T0 ∧ (c, oc) ∈ T0 ∧ (382, ot) ∈ T0 ∧ LeavesAre T0 its ∧ ∀ p ∈ T0, p.1 ≠ 375) → News h₀ L h ((375, tabObj #[]) :: T0) → P) : P := by
  refine go [(l, listOf its.toArray k), (e1, o1), (e2, o2), (e3, o3), (e4, o4), (e5, o5), (e6, o6), (e7, o7), (e8, o8), (c, oc), (382, ot)] ⟨by kcf_m, by kcf_m, by kcf_m, hL, ?_⟩ (news_sub N (by kcf_all))
  obtain ⟨n0, n1, n2, n3, n4, n5, n6, n7, n8, n9⟩ := hne
  intro p hp
  simp only [List.mem_cons, List.not_mem_nil, or_false] at hp
  rcases hp with rfl | rfl | rfl | rfl | rfl | rfl | rfl | rfl | rfl | rfl | rfl
  · exact n0
  · exact n1
  · exact n2
  · exact n3
  · exact n4
  · exact n5
  · exact n6
  · exact n7
  · exact n8
  · exact n9
  · exact neN (show @Ne Nat 382 375 by decide)
theorem turn_sub {fo T : List (Addr × Obj)} {a b c d : Addr × Obj} {p : Addr × Obj} (hp : p ∈ d :: a :: b :: c :: T) : p ∈ a :: b :: c :: (fo ++ d :: T) := by
  simp only [List.mem_cons, List.mem_append] at hp ⊢
  rcases hp with h | h | h | h | h
  · exact .inr (.inr (.inr (.inr (.inl h))))
  · exact .inl h
  · exact .inr (.inl h)
  · exact .inr (.inr (.inl h))
  · exact .inr (.inr (.inr (.inr (.inr h))))
theorem turn_off {fs : List Addr} {I C D : Addr} {oI oC oD : Obj} {d : Addr × Obj} {T : List (Addr × Obj)} (h1 : I ∉ fs) (h2 : C ∉ fs) (h3 : D ∉ fs) (h : ∀ p ∈ d :: T, p.1 ∉ fs) : ∀ p ∈ d :: (I, oI) :: (C, oC) :: (D, oD) :: T, p.1 ∉ fs := by
  intro p hp
  simp only [List.mem_cons] at hp
  rcases hp with rfl | rfl | rfl | rfl | hp
  · exact h _ List.mem_cons_self
  · exact h1
  · exact h2
  · exact h3
  · exact h _ (List.mem_cons_of_mem _ hp)
end

theorem reset_G2 (h : PySem.Heap) : PySem.W.GrownAll [] h := by
  w_top off
  walk1
section
open PySem PySem.W PyProof.Rows PySem.Calls
set_option Elab.async false
set_option maxRecDepth 100000
theorem off1_mem {D : Addr} : ∀ {l : List (Addr × Obj)}, LCg.Off1 D l → ∀ p ∈ l, @Ne Nat p.1 D
  | [], _, _, h => nomatch h
  | _ :: _, h, p, hp => by
    rcases List.mem_cons.mp hp with rfl | hp
    · exact h.1
    · exact off1_mem h.2 p hp
theorem news_same {h₀ h : Heap} {L a : Addr} {o1 o2 : Obj} {l : List (Addr × Obj)} (N : News h₀ L h l) (h1 : (a, o1) ∈ l) (h2 : (a, o2) ∈ l) : o1 = o2 := by
  have e := (N _ h1).1
  rw [(N _ h2).1] at e
  cases e; rfl
/-- the ledger is cut to what is needed still -/
theorem tab_cut {P : Prop} {h₀ h : Heap} {L c D : Addr} {o oc oD : Obj} {v : Option Value} {fo T : List (Addr × Obj)} (hTab : Tab1 o T) (N : News h₀ L h ((D, oD) :: (fo ++ (375, o) :: T))) (hc : (c, oc) ∈ T) (hd : oc.data = .cell v) (h2 : (382, tabObj #[]) ∈ T) (h5 : ∀ p ∈ T, p.1 ≠ 375)
    (go : ∀ T1, Tab1 o T1 → (∀ p ∈ T1, p ∈ T) → (∀ p ∈ T1, p.1 ≠ c) → (∀ p ∈ T1, p.1 ≠ 382) → (∀ p ∈ T1, p.1 ≠ 375) → (∀ p ∈ T1, ∃ vs, p.2.data = .fields vs) → P) : P := by
  have N' : News h₀ L h T := fun p hp => N p (.tail _ (List.mem_append_right _ (.tail _ hp)))
  rcases hTab with rfl | ⟨c', oc', vs, tq, rfl, h1, e1, e2⟩
  · exact go [] (.inl rfl) (fun _ h => nomatch h) (fun _ h => nomatch h) (fun _ h => nomatch h) (fun _ h => nomatch h) (fun _ h => nomatch h)
  · refine go [(c', oc')] (.inr ⟨c', oc', vs, tq, rfl, List.mem_cons_self, e1, e2⟩) ?_ ?_ ?_ ?_ ?_
    · intro p hp
      rw [List.mem_singleton.mp hp]; exact h1
    · intro p hp e
      rw [List.mem_singleton.mp hp] at e
      dsimp only at e
      subst e
      rw [news_same N' h1 hc, hd] at e1
      cases e1
    · intro p hp e
      rw [List.mem_singleton.mp hp] at e
      dsimp only at e
      subst e
      rw [news_same N' h1 h2] at e1
      cases e1
      simp at e2
    · intro p hp
      rw [List.mem_singleton.mp hp]; exact h5 _ h1
    · intro p hp
      rw [List.mem_singleton.mp hp]; exact ⟨vs, e1⟩
theorem fin_sub {D c : Addr} {o oc oD : Obj} {fo T T1 : List (Addr × Obj)} (hs : ∀ p ∈ T1, p ∈ T) (hc : (c, oc) ∈ T) (h2 : (382, tabObj #[]) ∈ T) : ∀ p ∈ (D, oD) :: (c, oc) :: (382, tabObj #[]) :: (375, o) :: T1, p ∈ (D, oD) :: (fo ++ (375, o) :: T) := by
  intro p hp
  simp only [List.mem_cons] at hp
  rcases hp with rfl | rfl | rfl | rfl | hp
  · exact .head _
  · exact .tail _ (List.mem_append_right _ (.tail _ hc))
  · exact .tail _ (List.mem_append_right _ (.tail _ h2))
  · exact .tail _ (List.mem_append_right _ (.head _))
  · exact .tail _ (List.mem_append_right _ (.tail _ (hs _ hp)))
theorem fin_off {fs : List Addr} {D c : Addr} {o oc oD : Obj} {T T1 : List (Addr × Obj)} (hD : D ∉ fs) (hoff : ∀ p ∈ (375, o) :: T, p.1 ∉ fs) (hs : ∀ p ∈ T1, p ∈ T) (hc : (c, oc) ∈ T) (h2 : (382, tabObj #[]) ∈ T) : ∀ p ∈ (D, oD) :: (c, oc) :: (382, tabObj #[]) :: (375, o) :: T1, p.1 ∉ fs := by
  intro p hp
  simp only [List.mem_cons] at hp
  rcases hp with rfl | rfl | rfl | rfl | hp
  · exact hD
  · exact hoff _ (.tail _ hc)
  · exact hoff _ (.tail _ h2)
  · exact hoff _ (.head _)
  · exact hoff _ (.tail _ (hs _ hp))
end

theorem reset_G3 (h : PySem.Heap) : PySem.W.GrownAll [] h := by
  w_top off
  walk1
section
open PySem PySem.W PyProof.Rows PySem.Calls
set_option Elab.async false
set_option maxRecDepth 100000
/-- the making of a lambda looks at no more of the scope than this -/
theorem makeFunction_env {nm q : Str} {params : Arguments} {body : PySem.Expr} {scope : Scope} {env env' : Env} {pos : Pos} {fl : Nat} (h0 : env.cells = env'.cells) (h1 : env.globals = env'.globals) (h2 : env.code = env'.code) (h3 : env.scope.kind = env'.scope.kind) (h4 : env.builtins = env'.builtins) :
    makeFunction nm q params (.expr body) scope env [] [] [] pos fl = makeFunction nm q params (.expr body) scope env' [] [] [] pos fl := by
  have hc : closureFor scope env = closureFor scope env' := by unfold closureFor cellOf; rw [h0]
  have hf : ∀ a b, functionCode env pos fl a b params scope (.expr body) = functionCode env' pos fl a b params scope (.expr body) := fun a b => by unfold functionCode codeAt; rw [h2, h3]
  rw [makeFunction_eq, makeFunction_eq]
  simp only [makeTail]
  rw [hc, h1, h4]
  simp only [hf]
abbrev lamQ2 : Str := (envOfC (Str.ofString "_law_told_right") lamScope 0 0 .none).qual ++ Str.ofString "<lambda>"
/-- the second table of codes -/
def Tab2 (ln cl : Int) (o : Obj) (T : List (Addr × Obj)) : Prop := o = tabObj #[] ∨ ∃ c' oc vs tq, o = tabObj #[rawInt ln, rawInt cl, .ref c'] ∧ (c', oc) ∈ T ∧ oc.data = .fields vs ∧ vs[1]? = some (.str lamQ2 tq)
theorem Tab2.mono {ln cl : Int} {o : Obj} {T T' : List (Addr × Obj)} (h : Tab2 ln cl o T) (hs : ∀ p ∈ T, p ∈ T') : Tab2 ln cl o T' := by
  rcases h with rfl | ⟨c', oc, vs, tq, rfl, a, b, c⟩
  · exact .inl rfl
  · exact .inr ⟨c', oc, vs, tq, rfl, hs _ a, b, c⟩
def Leav2 (ln cl : Int) (g₀ : Heap) (fs : List Addr) (T0 nw : List (Addr × Obj)) : Prop := ∃ fo o T, nw = fo ++ (382, o) :: T ∧ FO g₀ fs fo ∧ Tab2 ln cl o T ∧ (∀ p ∈ T, p.1 ≠ 382) ∧ (∀ p ∈ T0, p ∈ T) ∧ ∀ p ∈ (382, o) :: T, p.1 ∉ fs
/-- a turn has brought nothing, or the lambda's code -/
theorem leav2_end {ln cl : Int} {g₀ : Heap} {fs : List Addr} {T0 fo fo' T nw1 : List (Addr × Obj)} {I C c D : Addr} {oI oC o9 oD o : Obj} (hFO : FO g₀ fs fo) (hFO' : FO g₀ fs fo') (hoff' : ∀ p ∈ nw1, p.1 ∉ fs) (ar : Around4 I C c D (fo ++ (382, o) :: T)) (hTab : Tab2 ln cl o T) (h382 : ∀ p ∈ T, p.1 ≠ 382) (hsub : ∀ p ∈ T0, p ∈ T)
    (hc : (∀ p ∈ (382, o) :: (I, oI) :: (C, oC) :: (c, o9) :: (D, oD) :: T, p ∈ nw1) ∨ ∃ c' oc vs tq, (∀ p ∈ (382, tabObj #[rawInt ln, rawInt cl, .ref c']) :: (c', oc) :: (I, oI) :: (C, oC) :: (c, o9) :: (D, oD) :: T, p ∈ nw1) ∧ oc.data = .fields vs ∧ vs[1]? = some (.str lamQ2 tq) ∧ ∀ p ∈ (382, o) :: (I, oI) :: (C, oC) :: (c, o9) :: (D, oD) :: T, p.1 < c') :
    ∃ nw2, Leav2 ln cl g₀ fs T0 nw2 ∧ Around4 I C c D nw2 ∧ (∀ p ∈ (I, oI) :: (C, oC) :: (c, o9) :: (D, oD) :: nw2, p ∈ fo' ++ nw1) := by
  obtain ⟨a1, a2⟩ := ar
  have offF : ∀ p ∈ fo', p.1 ≠ I ∧ p.1 ≠ C ∧ p.1 ≠ c ∧ p.1 ≠ D := fun p hp => by
    obtain ⟨o', ho'⟩ := hFO.mem (hFO'.addr hp)
    exact a1 (p.1, o') (List.mem_append_left _ ho')
  rcases hc with hs | ⟨c', oc, vs, tq, hs, a, b, hl⟩
  · refine ⟨fo' ++ (382, o) :: T, ⟨fo', o, T, rfl, hFO', hTab, h382, hsub, fun p hp => hoff' p (hs _ ?_)⟩, ⟨fun p hp => ?_, a2⟩, ?_⟩
    · rcases List.mem_cons.mp hp with rfl | hp
      · exact List.mem_cons_self
      · exact .tail _ (.tail _ (.tail _ (.tail _ (.tail _ hp))))
    · rcases List.mem_append.mp hp with hp | hp
      · exact offF p hp
      · exact a1 p (List.mem_append_right _ hp)
    · intro p hp
      rcases List.mem_cons.mp hp with rfl | hp
      · exact List.mem_append_right _ (hs _ (.tail _ (.head _)))
      · rcases List.mem_cons.mp hp with rfl | hp
        · exact List.mem_append_right _ (hs _ (.tail _ (.tail _ (.head _))))
        · rcases List.mem_cons.mp hp with rfl | hp
          · exact List.mem_append_right _ (hs _ (.tail _ (.tail _ (.tail _ (.head _)))))
          · rcases List.mem_cons.mp hp with rfl | hp
            · exact List.mem_append_right _ (hs _ (.tail _ (.tail _ (.tail _ (.tail _ (.head _))))))
            · rcases List.mem_append.mp hp with hp | hp
              · exact List.mem_append_left _ hp
              · refine List.mem_append_right _ (hs _ ?_)
                rcases List.mem_cons.mp hp with rfl | hp
                · exact .head _
                · exact .tail _ (.tail _ (.tail _ (.tail _ (.tail _ hp))))
  · have hlt : ∀ p ∈ (382, o) :: (I, oI) :: (C, oC) :: (c, o9) :: (D, oD) :: T, p.1 ≠ c' := fun p hp => Nat.ne_of_lt (hl p hp)
    have nI : c' ≠ I := (hlt (I, oI) (.tail _ (.head _))).symm
    have nC : c' ≠ C := (hlt (C, oC) (.tail _ (.tail _ (.head _)))).symm
    have nc : c' ≠ c := (hlt (c, o9) (.tail _ (.tail _ (.tail _ (.head _))))).symm
    have nD : c' ≠ D := (hlt (D, oD) (.tail _ (.tail _ (.tail _ (.tail _ (.head _)))))).symm
    have n3 : c' ≠ 382 := (hlt (382, o) (.head _)).symm
    refine ⟨fo' ++ (382, tabObj #[rawInt ln, rawInt cl, .ref c']) :: (c', oc) :: T, ⟨fo', _, (c', oc) :: T, rfl, hFO', .inr ⟨c', oc, vs, tq, rfl, List.mem_cons_self, a, b⟩, fun p hp => ?_, fun p hp => List.mem_cons_of_mem _ (hsub p hp), fun p hp => hoff' p (hs _ ?_)⟩, ⟨fun p hp => ?_, a2⟩, ?_⟩
    · rcases List.mem_cons.mp hp with rfl | hp
      · exact n3
      · exact h382 p hp
    · rcases List.mem_cons.mp hp with rfl | hp
      · exact List.mem_cons_self
      · rcases List.mem_cons.mp hp with rfl | hp
        · exact .tail _ (.head _)
        · exact .tail _ (.tail _ (.tail _ (.tail _ (.tail _ (.tail _ hp)))))
    · rcases List.mem_append.mp hp with hp | hp
      · exact offF p hp
      · rcases List.mem_cons.mp hp with rfl | hp
        · exact a1 (382, o) (List.mem_append_right _ List.mem_cons_self)
        · rcases List.mem_cons.mp hp with rfl | hp
          · exact ⟨nI, nC, nc, nD⟩
          · exact a1 p (List.mem_append_right _ (List.mem_cons_of_mem _ hp))
    · intro p hp
      rcases List.mem_cons.mp hp with rfl | hp
      · exact List.mem_append_right _ (hs _ (.tail _ (.tail _ (.head _))))
      · rcases List.mem_cons.mp hp with rfl | hp
        · exact List.mem_append_right _ (hs _ (.tail _ (.tail _ (.tail _ (.head _)))))
        · rcases List.mem_cons.mp hp with rfl | hp
          · exact List.mem_append_right _ (hs _ (.tail _ (.tail _ (.tail _ (.tail _ (.head _))))))
          · rcases List.mem_cons.mp hp with rfl | hp
            · exact List.mem_append_right _ (hs _ (.tail _ (.tail _ (.tail _ (.tail _ (.tail _ (.head _)))))))
            · rcases List.mem_append.mp hp with hp | hp
              · exact List.mem_append_left _ hp
              · refine List.mem_append_right _ (hs _ ?_)
                rcases List.mem_cons.mp hp with rfl | hp
                · exact .head _
                · rcases List.mem_cons.mp hp with rfl | hp
                  · exact .tail _ (.head _)
                  · exact .tail _ (.tail _ (.tail _ (.tail _ (.tail _ (.tail _ hp)))))
theorem turn2_sub {fo T : List (Addr × Obj)} {a b c d e : Addr × Obj} {p : Addr × Obj} (hp : p ∈ e :: a :: b :: c :: d :: T) : p ∈ a :: b :: c :: d :: (fo ++ e :: T) := by
  rcases List.mem_cons.mp hp with rfl | hp
  · exact .tail _ (.tail _ (.tail _ (.tail _ (List.mem_append_right _ (.head _)))))
  · rcases List.mem_cons.mp hp with rfl | hp
    · exact .head _
    · rcases List.mem_cons.mp hp with rfl | hp
      · exact .tail _ (.head _)
      · rcases List.mem_cons.mp hp with rfl | hp
        · exact .tail _ (.tail _ (.head _))
        · rcases List.mem_cons.mp hp with rfl | hp
          · exact .tail _ (.tail _ (.tail _ (.head _)))
          · exact .tail _ (.tail _ (.tail _ (.tail _ (List.mem_append_right _ (.tail _ hp)))))
theorem turn2_off {fs : List Addr} {I C c D : Addr} {oI oC o9 oD : Obj} {d : Addr × Obj} {T : List (Addr × Obj)} (h1 : I ∉ fs) (h2 : C ∉ fs) (h3 : c ∉ fs) (h4 : D ∉ fs) (h : ∀ p ∈ d :: T, p.1 ∉ fs) : ∀ p ∈ d :: (I, oI) :: (C, oC) :: (c, o9) :: (D, oD) :: T, p.1 ∉ fs := by
  intro p hp
  rcases List.mem_cons.mp hp with rfl | hp
  · exact h _ List.mem_cons_self
  · rcases List.mem_cons.mp hp with rfl | hp
    · exact h1
    · rcases List.mem_cons.mp hp with rfl | hp
      · exact h2
      · rcases List.mem_cons.mp hp with rfl | hp
        · exact h3
        · rcases List.mem_cons.mp hp with rfl | hp
          · exact h4
          · exact h _ (List.mem_cons_of_mem _ hp)
end

theorem reset_G4 (h : PySem.Heap) : PySem.W.GrownAll [] h := by
  w_top off
  walk1
section
open PySem PySem.W PyProof.Rows PySem.Calls
set_option Elab.async false
set_option maxRecDepth 100000
/-- no list and no tuple -/
def NotSeq (o : Obj) : Prop := ∀ its k, o.data ≠ .seq its k
theorem NotSeq.inst {c d : Addr} : NotSeq (instObj c d) := fun _ _ h => nomatch h
theorem NotSeq.dict {es : List DictEntry} {n : Nat} : NotSeq (dictOf es n) := fun _ _ h => nomatch h
theorem NotSeq.tab {vs : Array Value} : NotSeq (tabObj vs) := fun _ _ h => nomatch h
theorem NotSeq.fields {o : Obj} {vs : Array Value} (h : o.data = .fields vs) : NotSeq o := fun _ _ e => by rw [h] at e; cases e
theorem NotSeq.cell {o : Obj} {v : Option Value} (h : o.data = .cell v) : NotSeq o := fun _ _ e => by rw [h] at e; cases e
theorem Tab1.notSeq {o : Obj} {T : List (Addr × Obj)} (h : Tab1 o T) : NotSeq o := by
  rcases h with rfl | ⟨_, _, _, _, rfl, _⟩ <;> exact NotSeq.tab
section
variable {P : Prop} {h₀ h : Heap} {L l b : Addr} {o1 o2 : Obj} {all R' X : List (Addr × Obj)}
theorem pick2 (N : News h₀ L h all) (h1 : (l, o1) ∈ all) (h2 : (b, o2) ∈ all)
    (go : ∀ R', (∀ p ∈ R', p.1 ≠ l) → (∀ p ∈ R', p.1 ≠ b) → (∀ p ∈ all, p.1 ≠ l → p.1 ≠ b → p ∈ R') → News h₀ L h ((l, o1) :: (b, o2) :: R') → P) : P := by
  refine go (all.filter fun p => !(Nat.beq p.1 l) && !(Nat.beq p.1 b)) ?_ ?_ ?_ ?_
  · intro p hp e
    have := (List.mem_filter.mp hp).2
    rw [e] at this
    simp at this
  · intro p hp e
    have := (List.mem_filter.mp hp).2
    rw [e] at this
    simp at this
  · intro p hp e1 e2
    refine List.mem_filter.mpr ⟨hp, ?_⟩
    have a1 : Nat.beq p.1 l = false := by cases q : Nat.beq p.1 l with
      | false => rfl
      | true => exact absurd (Nat.eq_of_beq_eq_true q) e1
    have a2 : Nat.beq p.1 b = false := by cases q : Nat.beq p.1 b with
      | false => rfl
      | true => exact absurd (Nat.eq_of_beq_eq_true q) e2
    rw [a1, a2]; rfl
  · refine news_sub N fun p hp => ?_
    rcases List.mem_cons.mp hp with rfl | hp
    · exact h1
    · rcases List.mem_cons.mp hp with rfl | hp
      · exact h2
      · exact (List.mem_filter.mp hp).1
theorem pick1 (N : News h₀ L h all) (h1 : (l, o1) ∈ all)
    (go : ∀ R', (∀ p ∈ R', p.1 ≠ l) → (∀ p ∈ all, p.1 ≠ l → p ∈ R') → (∀ p ∈ R', p ∈ all) → News h₀ L h ((l, o1) :: R') → P) : P := by
  refine go (all.filter fun p => !(Nat.beq p.1 l)) ?_ ?_ ?_ ?_
  · intro p hp e
    have := (List.mem_filter.mp hp).2
    rw [e] at this
    simp at this
  · intro p hp e1
    refine List.mem_filter.mpr ⟨hp, ?_⟩
    have a1 : Nat.beq p.1 l = false := by cases q : Nat.beq p.1 l with
      | false => rfl
      | true => exact absurd (Nat.eq_of_beq_eq_true q) e1
    rw [a1]; rfl
  · exact fun p hp => (List.mem_filter.mp hp).1
  · refine news_sub N fun p hp => ?_
    rcases List.mem_cons.mp hp with rfl | hp
    · exact h1
    · exact (List.mem_filter.mp hp).1
theorem notSeq_ne {a : Addr} {o : Obj} {its : Array Value} {k : Nat} (N : News h₀ L h all) (h1 : (a, o) ∈ all) (hn : NotSeq o) (h2 : (l, listOf its k) ∈ all) : a ≠ l := by
  rintro rfl
  rw [news_same N h1 h2] at hn
  exact hn _ _ rfl
theorem sub_pick {x1 x2 : Array Value} {k1 k2 : Nat} (N : News h₀ L h all) (h1 : (l, listOf x1 k1) ∈ all) (h2 : (b, listOf x2 k2) ∈ all) (hX : ∀ p ∈ X, p ∈ all) (hn : ∀ p ∈ X, NotSeq p.2) (ha : ∀ p ∈ all, p.1 ≠ l → p.1 ≠ b → p ∈ R') : ∀ p ∈ X, p ∈ R' :=
  fun p hp => ha p (hX p hp) (notSeq_ne N (hX p hp) (hn p hp) h1) (notSeq_ne N (hX p hp) (hn p hp) h2)
theorem NodeAt.pick {x1 x2 : Array Value} {k1 k2 : Nat} {a : Addr} {d : NodeD} (hN : NodeAt all a d) (N : News h₀ L h all) (h1 : (l, listOf x1 k1) ∈ all) (h2 : (b, listOf x2 k2) ∈ all) (ha : ∀ p ∈ all, p.1 ≠ l → p.1 ≠ b → p ∈ R') : NodeAt R' a d := by
  obtain ⟨dx, es, n, t1, t2, t3, t4, t5, m1, m2, r⟩ := hN
  exact ⟨dx, es, n, t1, t2, t3, t4, t5, ha _ m1 (notSeq_ne N m1 NotSeq.inst h1) (notSeq_ne N m1 NotSeq.inst h2), ha _ m2 (notSeq_ne N m2 NotSeq.dict h1) (notSeq_ne N m2 NotSeq.dict h2), r⟩
theorem node_new {a dx : Addr} {es : List DictEntry} {n : Nat} {d : NodeD} (hF : Flds es d) (hs : ∀ p ∈ newRow a dx es n d, p ∈ all) : NodeAt all a d := by
  obtain ⟨t1, t2, t3, t4, t5, r⟩ := hF
  exact ⟨dx, es, n, t1, t2, t3, t4, t5, hs _ (.head _), hs _ (.tail _ (.head _)), r⟩
end
/-- the things of told_right that stay, none of them a list -/
def kept7 (x d : Addr) (es : List DictEntry) (c : Addr) (oc o : Obj) (T : List (Addr × Obj)) : List (Addr × Obj) := (x, instObj 312 d) :: (d, dictOf es 1) :: (c, oc) :: (382, tabObj #[]) :: (375, o) :: T
theorem kept7_ns {x d c : Addr} {es : List DictEntry} {oc o : Obj} {T : List (Addr × Obj)} {v : Option Value} (hc : oc.data = .cell v) (hTab : Tab1 o T) (hT : ∀ p ∈ T, ∃ vs, p.2.data = .fields vs) : ∀ p ∈ kept7 x d es c oc o T, NotSeq p.2 := by
  intro p hp
  rcases List.mem_cons.mp hp with rfl | hp
  · exact NotSeq.inst
  · rcases List.mem_cons.mp hp with rfl | hp
    · exact NotSeq.dict
    · rcases List.mem_cons.mp hp with rfl | hp
      · exact NotSeq.cell hc
      · rcases List.mem_cons.mp hp with rfl | hp
        · exact NotSeq.tab
        · rcases List.mem_cons.mp hp with rfl | hp
          · exact hTab.notSeq
          · obtain ⟨vs, e⟩ := hT p hp
            exact NotSeq.fields e
/-- what the first row brings -/
theorem grow_root {P : Prop} {h₀ h : Heap} {L l x d c a dx : Addr} {es es1 : List DictEntry} {n k k1 : Nat} {oc o : Obj} {T R : List (Addr × Obj)} {d1 : NodeD} (N : News h₀ L h ((l, listOf ([] ++ [Value.ref a]).toArray k1) :: (newRow a dx es1 n d1 ++ R))) (hF : Flds es1 d1)
    (hfr : ∀ p ∈ (l, listOf ([] : List Value).toArray k) :: R, p.1 ≠ a ∧ p.1 ≠ dx ∧ p.1 ≠ d1.ch ∧ p.1 ≠ d1.at' ∧ p.1 ≠ d1.ns) (hX : ∀ p ∈ kept7 x d es c oc o T, p ∈ R) (hn : ∀ p ∈ kept7 x d es c oc o T, NotSeq p.2)
    (go : ∀ RA, (∀ p ∈ RA, p.1 ≠ l) → (∀ p ∈ RA, p.1 ≠ d1.ch) → (@Ne Nat d1.ch l) → (∀ p ∈ kept7 x d es c oc o T, p ∈ RA) → NodeAt RA a d1 → News h₀ L h ((l, listOf [Value.ref a].toArray k1) :: (d1.ch, listOf ([] : List Value).toArray 0) :: RA) → P) : P := by
  have m2 : (d1.ch, listOf #[] 0) ∈ (l, listOf ([] ++ [Value.ref a]).toArray k1) :: (newRow a dx es1 n d1 ++ R) := .tail _ (List.mem_append_left _ (.tail _ (.tail _ (.head _))))
  refine pick2 N (.head _) m2 fun RA e1 e2 ha NA => go RA e1 e2 (hfr _ (.head _)).2.2.1.symm (sub_pick N (.head _) m2 (fun p hp => .tail _ (List.mem_append_right _ (hX p hp))) hn ha) ?_ NA
  exact (node_new hF fun p hp => .tail _ (List.mem_append_left _ hp)).pick N (.head _) m2 ha
/-- what the element brings -/
theorem grow_elem {P : Prop} {h₀ h : Heap} {L l x d c a1 a dx b : Addr} {es es1 : List DictEntry} {n k1 kl kb kb' : Nat} {oc o : Obj} {T R : List (Addr × Obj)} {d1 d2 : NodeD} {v : Value} (N : News h₀ L h ((l, listOf ([Value.ref a1] ++ [Value.ref a]).toArray k1) :: (b, listOf ([] ++ [v]).toArray kb') :: (newRow a dx es1 n d2 ++ R))) (hF : Flds es1 d2)
    (hfr : ∀ p ∈ (l, listOf [Value.ref a1].toArray kl) :: (b, listOf ([] : List Value).toArray kb) :: R, p.1 ≠ a ∧ p.1 ≠ dx ∧ p.1 ≠ d2.ch ∧ p.1 ≠ d2.at' ∧ p.1 ≠ d2.ns) (hlt : @LT.lt Nat _ d2.at' d2.ns) (hX : ∀ p ∈ kept7 x d es c oc o T, p ∈ R) (hn : ∀ p ∈ kept7 x d es c oc o T, NotSeq p.2) (hN1 : NodeAt R a1 d1)
    (go : ∀ RA, (∀ p ∈ RA, p.1 ≠ l) → (∀ p ∈ RA, p.1 ≠ d2.at') → (@Ne Nat d2.at' l) → (∀ p ∈ kept7 x d es c oc o T, p ∈ RA) → NodeAt RA a1 d1 → NodeAt RA a d2 → (d2.ns, listOf ([] : List Value).toArray 0) ∈ RA → (@Ne Nat d2.ns l) → News h₀ L h ((l, listOf [Value.ref a1, Value.ref a].toArray k1) :: (d2.at', listOf ([] : List Value).toArray 0) :: RA) → P) : P := by
  have m2 : (d2.at', listOf #[] 0) ∈ (l, listOf ([Value.ref a1] ++ [Value.ref a]).toArray k1) :: (b, listOf ([] ++ [v]).toArray kb') :: (newRow a dx es1 n d2 ++ R) := .tail _ (.tail _ (List.mem_append_left _ (.tail _ (.tail _ (.tail _ (.head _))))))
  have m3 : (d2.ns, listOf #[] 0) ∈ (l, listOf ([Value.ref a1] ++ [Value.ref a]).toArray k1) :: (b, listOf ([] ++ [v]).toArray kb') :: (newRow a dx es1 n d2 ++ R) := .tail _ (.tail _ (List.mem_append_left _ (.tail _ (.tail _ (.tail _ (.tail _ (.head _)))))))
  refine pick2 N (.head _) m2 fun RA e1 e2 ha NA => go RA e1 e2 (hfr _ (.head _)).2.2.2.1.symm (sub_pick N (.head _) m2 (fun p hp => .tail _ (.tail _ (List.mem_append_right _ (hX p hp)))) hn ha) ?_ ?_ (ha _ m3 (hfr _ (.head _)).2.2.2.2.symm (Ne.symm (Nat.ne_of_lt hlt))) (hfr _ (.head _)).2.2.2.2.symm NA
  · exact (hN1.mono fun p hp => .tail _ (.tail _ (List.mem_append_right _ hp))).pick N (.head _) m2 ha
  · exact (node_new hF fun p hp => .tail _ (.tail _ (List.mem_append_left _ hp))).pick N (.head _) m2 ha
/-- what the attribute brings -/
theorem grow_attr {P : Prop} {h₀ h : Heap} {L l x d c a1 a2 a dx b : Addr} {es es1 : List DictEntry} {n k1 kb' : Nat} {oc o : Obj} {T R : List (Addr × Obj)} {d1 d2 d3 : NodeD} {v : Value} (N : News h₀ L h ((l, listOf ([Value.ref a1, Value.ref a2] ++ [Value.ref a]).toArray k1) :: (b, listOf ([] ++ [v]).toArray kb') :: (newRow a dx es1 n d3 ++ R))) (hF : Flds es1 d3)
    (hX : ∀ p ∈ kept7 x d es c oc o T, p ∈ R) (hn : ∀ p ∈ kept7 x d es c oc o T, NotSeq p.2) (hN1 : NodeAt R a1 d1) (hN2 : NodeAt R a2 d2) (hns : (d2.ns, listOf ([] : List Value).toArray 0) ∈ R) 
    (go : ∀ RA, (∀ p ∈ RA, p.1 ≠ l) → (∀ p ∈ RA, p.1 ≠ d2.ns) → (∀ p ∈ kept7 x d es c oc o T, p ∈ RA) → NodeAt RA a1 d1 → NodeAt RA a2 d2 → NodeAt RA a d3 → News h₀ L h ((l, listOf [Value.ref a1, Value.ref a2, Value.ref a].toArray k1) :: (d2.ns, listOf ([] : List Value).toArray 0) :: RA) → P) : P := by
  have m2 : (d2.ns, listOf #[] 0) ∈ (l, listOf ([Value.ref a1, Value.ref a2] ++ [Value.ref a]).toArray k1) :: (b, listOf ([] ++ [v]).toArray kb') :: (newRow a dx es1 n d3 ++ R) := .tail _ (.tail _ (List.mem_append_right _ hns))
  refine pick2 N (.head _) m2 fun RA e1 e2 ha NA => go RA e1 e2 (sub_pick N (.head _) m2 (fun p hp => .tail _ (.tail _ (List.mem_append_right _ (hX p hp)))) hn ha) ?_ ?_ ?_ NA
  · exact (hN1.mono fun p hp => .tail _ (.tail _ (List.mem_append_right _ hp))).pick N (.head _) m2 ha
  · exact (hN2.mono fun p hp => .tail _ (.tail _ (List.mem_append_right _ hp))).pick N (.head _) m2 ha
  · exact (node_new hF fun p hp => .tail _ (.tail _ (List.mem_append_left _ hp))).pick N (.head _) m2 ha
theorem kept7_sub {x d c : Addr} {es : List DictEntry} {oc o : Obj} {T : List (Addr × Obj)} {e1 e2 : Addr × Obj} : ∀ p ∈ kept7 x d es c oc o T, p ∈ (x, instObj 312 d) :: (d, dictOf es 1) :: e1 :: e2 :: (c, oc) :: (382, tabObj #[]) :: (375, o) :: T := by
  intro p hp
  rcases List.mem_cons.mp hp with rfl | hp
  · exact .head _
  · rcases List.mem_cons.mp hp with rfl | hp
    · exact .tail _ (.head _)
    · exact .tail _ (.tail _ (.tail _ (.tail _ hp)))
/-- what the prefix brings -/
theorem grow_ns {P : Prop} {h₀ h : Heap} {L l x d c a1 a2 a3 a dx b : Addr} {es es1 : List DictEntry} {n k1 kb' : Nat} {oc o : Obj} {T R : List (Addr × Obj)} {d1 d2 d3 d4 : NodeD} {v : Value} (N : News h₀ L h ((l, listOf ([Value.ref a1, Value.ref a2, Value.ref a3] ++ [Value.ref a]).toArray k1) :: (b, listOf ([] ++ [v]).toArray kb') :: (newRow a dx es1 n d4 ++ R))) (hF : Flds es1 d4)
    (hX : ∀ p ∈ kept7 x d es c oc o T, p ∈ R) (hN1 : NodeAt R a1 d1) (hN2 : NodeAt R a2 d2) (hN3 : NodeAt R a3 d3)
    (go : ∀ RA, (l, listOf [Value.ref a1, Value.ref a2, Value.ref a3, Value.ref a].toArray k1) ∈ RA → (∀ p ∈ kept7 x d es c oc o T, p ∈ RA) → NodeAt RA a1 d1 → NodeAt RA a2 d2 → NodeAt RA a3 d3 → NodeAt RA a d4 → News h₀ L h RA → P) : P :=
  go _ (.head _) (fun p hp => .tail _ (.tail _ (List.mem_append_right _ (hX p hp)))) (hN1.mono fun p hp => .tail _ (.tail _ (List.mem_append_right _ hp))) (hN2.mono fun p hp => .tail _ (.tail _ (List.mem_append_right _ hp))) (hN3.mono fun p hp => .tail _ (.tail _ (List.mem_append_right _ hp)))
    (node_new hF fun p hp => .tail _ (.tail _ (List.mem_append_left _ hp))) N
theorem attrs_nil {n : List (Addr × Obj)} {rows : List Value} {key : Str} : AttrsAre n rows [] key := fun _ h => nomatch h
end

theorem reset_G5 (h : PySem.Heap) : PySem.W.GrownAll [] h := by
  w_top off
  walk1
section
open PySem PySem.W PyProof.Rows PySem.Calls
set_option Elab.async false
set_option maxRecDepth 100000
/-- the lambda's code stands, old or new -/
def Made (ln cl : Int) (o2 : Obj) (R R' : List (Addr × Obj)) (c' : Addr) (oc : Obj) : Prop := (c', oc) ∈ R' ∧ (∃ vs tq, oc.data = .fields vs ∧ vs[1]? = some (.str lamQ2 tq)) ∧ (∀ p ∈ R, p ∈ R') ∧
  ((382, o2) ∈ R' ∨ ((382, tabObj #[rawInt ln, rawInt cl, .ref c']) ∈ R' ∧ ∀ p ∈ (382, o2) :: R, p.1 < c'))
theorem lam2_make {M : Model} {A : Around} {E : Value → Shared → Prop} {s : Shared} {Q : Value → Shared → Prop} {env : Env} {loose : List Str} {mean : ExcName → Option Value} {mg mb : Str → Option Value} {g : Heap} {L : Addr} {m : Str → Option Value} {o2 : Obj} {R : List (Addr × Obj)} {body : PySem.Expr} {pos : Pos} {cl2 clos : List (Str × Addr)} {cs2 : Scope}
    (hcells : env.cells = cl2) (hgl : env.globals = mainGlobals) (hcode : env.code = .ref 384) (hkind : env.scope.kind = cs2.kind) (hb : env.builtins = builtinsNs) (F : Fr g L s.heap m) (N : News g L s.heap ((382, o2) :: R)) (T : Top topProg loose mean mg mb g) (C : CodeHd g 384 382)
    (hTab : Tab2 pos.line pos.col o2 R) (hR : ∀ p ∈ R, p.1 ≠ 382) (hclos : closureFor lamScope (envX (Str.ofString "") cs2 L 0 (.ref 384) cl2) = pure clos)
    (h : ∀ f c' oc R' pm ctv h' tk, Fr g L h' m → News g L h' ((f, kla_obj (Str.ofString "<lambda>") lamQ2 noParams body lamScope clos pm c' ctv) :: R') → Made pos.line pos.col o2 R R' c' oc → (∀ p ∈ R', p.1 ≠ f) → Q (.ref f) { s with heap := h', toks := tk }) :
    wpAny M A (makeFunction (Str.ofString "<lambda>") lamQ2 noParams (.expr body) lamScope env [] [] [] pos pos.line) Q E s := by
  rw [makeFunction_env (env' := envX (Str.ofString "") cs2 L 0 (.ref 384) cl2) hcells hgl hcode hkind hb]
  rcases hTab with rfl | ⟨c₉, oc₉, vs₉, tq₉, rfl, h1, h2, h3⟩
  · refine kla_nest (ps := #[]) F N T C rfl (UpdF.head hR) True.intro rfl hclos fun f c' oc vs t ctv h' tk F' N' e1 e2 l1 l2 => ?_
    refine h f c' oc _ _ ctv h' tk F' N' ⟨.head _, ⟨vs, t, e1, e2⟩, fun p hp => .tail _ (.tail _ hp), .inr ⟨.tail _ (.head _), l1⟩⟩ fun p hp => ?_
    rcases List.mem_cons.mp hp with rfl | hp
    · exact Nat.ne_of_lt l2
    · rcases List.mem_cons.mp hp with rfl | hp
      · exact Nat.ne_of_lt (Nat.lt_trans (l1 (382, tabObj #[]) (.head _)) l2)
      · exact Nat.ne_of_lt (Nat.lt_trans (l1 _ (.tail _ hp)) l2)
  · refine kla_hit (c' := c₉) (ps := #[rawInt pos.line, rawInt pos.col, .ref c₉]) F N T C rfl (.head _) (by simp [TriplesOk, rawInt]) (by simp [codeAmong, rawInt]) hclos fun f ctv h' tk F' N' l1 => ?_
    exact h f c₉ oc₉ _ _ ctv h' tk F' N' ⟨.tail _ h1, ⟨vs₉, tq₉, h2, h3⟩, fun p hp => .tail _ hp, .inl (.head _)⟩ fun p hp => Nat.ne_of_lt (l1 p hp)
theorem not_tab {h₀ h : Heap} {L a : Addr} {o1 : Obj} {all : List (Addr × Obj)} (N : News h₀ L h all) (h2 : (382, tabObj #[]) ∈ all) (h1 : (a, o1) ∈ all) (hn : o1.data ≠ .fields #[]) : a ≠ 382 := by
  rintro rfl
  rw [news_same N h1 h2] at hn
  exact hn rfl
theorem NodeAt.pick1 {h₀ h : Heap} {L a : Addr} {d : NodeD} {all R' : List (Addr × Obj)} (hN : NodeAt all a d) (N : News h₀ L h all) (h2 : (382, tabObj #[]) ∈ all) (ha : ∀ p ∈ all, p.1 ≠ 382 → p ∈ R') : NodeAt R' a d := by
  obtain ⟨dx, es, n, t1, t2, t3, t4, t5, m1, m2, r⟩ := hN
  exact ⟨dx, es, n, t1, t2, t3, t4, t5, ha _ m1 (not_tab N h2 m1 fun e => nomatch e), ha _ m2 (not_tab N h2 m2 fun e => nomatch e), r⟩
/-- the ledger as the last comprehension wants it -/
theorem last_start {P : Prop} {h₀ h : Heap} {L l' l x d c a1 a2 a3 a4 : Addr} {es : List DictEntry} {oc o : Obj} {T RD : List (Addr × Obj)} {os rows : Array Value} {k k4 : Nat} {v : Option Value} {d1 d2 d3 d4 : NodeD} (N : News h₀ L h ((l', listOf os k) :: RD)) (hl : (l, listOf rows k4) ∈ RD) (hX : ∀ p ∈ kept7 x d es c oc o T, p ∈ RD)
    (hc : oc.data = .cell v) (hT82 : ∀ p ∈ T, p.1 ≠ 382) (hN1 : NodeAt RD a1 d1) (hN2 : NodeAt RD a2 d2) (hN3 : NodeAt RD a3 d3) (hN4 : NodeAt RD a4 d4)
    (go : ∀ T0, (∀ p ∈ T0, p.1 ≠ 382) → (l', listOf os k) ∈ T0 → (l, listOf rows k4) ∈ T0 → (x, instObj 312 d) ∈ T0 → (d, dictOf es 1) ∈ T0 → (c, oc) ∈ T0 → (375, o) ∈ T0 → (∀ p ∈ T, p ∈ T0) → NodeAt T0 a1 d1 → NodeAt T0 a2 d2 → NodeAt T0 a3 d3 → NodeAt T0 a4 d4 → News h₀ L h ((382, tabObj #[]) :: T0) → P) : P := by
  have h2 : (382, tabObj #[]) ∈ (l', listOf os k) :: RD := .tail _ (hX _ (.tail _ (.tail _ (.tail _ (.head _)))))
  have up : ∀ p ∈ RD, p ∈ (l', listOf os k) :: RD := fun p hp => .tail _ hp
  refine pick1 N h2 fun T0 e1 ha _ NE => ?_
  have p1 : ∀ {b ob}, (b, ob) ∈ RD → ob.data ≠ .fields #[] → (b, ob) ∈ T0 := fun hb hn => ha _ (.tail _ hb) (not_tab N h2 (.tail _ hb) hn)
  refine go T0 e1 (ha _ (.head _) (not_tab N h2 (.head _) fun e => nomatch e)) (p1 hl fun e => nomatch e) (p1 (hX _ (.head _)) fun e => nomatch e) (p1 (hX _ (.tail _ (.head _))) fun e => nomatch e)
    (p1 (hX _ (.tail _ (.tail _ (.head _)))) fun e => by rw [hc] at e; cases e) (ha _ (.tail _ (hX _ (.tail _ (.tail _ (.tail _ (.tail _ (.head _))))))) (neN (show @Ne Nat 375 382 by decide))) (fun p hp => ha _ (.tail _ (hX _ (.tail _ (.tail _ (.tail _ (.tail _ (.tail _ hp))))))) (hT82 p hp))
    ((hN1.mono up).pick1 N h2 ha) ((hN2.mono up).pick1 N h2 ha) ((hN3.mono up).pick1 N h2 ha) ((hN4.mono up).pick1 N h2 ha) NE
/-- the nodes that no leaf is -/
def OthersAre (n : List (Addr × Obj)) (rows its : List Value) : Prop := ∀ v ∈ its, ∃ j tj a d, v = .int j tj ∧ 0 ≤ j ∧ rows[j.toNat]? = some (.ref a) ∧ NodeAt n a d ∧ leafOf d = none ∧ d.val.length ≤ 1000 ∧ d.name.length ≤ 1000
theorem OthersAre.nil {n : List (Addr × Obj)} {rows : List Value} : OthersAre n rows [] := fun _ h => nomatch h
theorem OthersAre.cons {n : List (Addr × Obj)} {rows its : List Value} {j : Int} {tj : Tok} {a : Addr} {d : NodeD} (hN : NodeAt n a d) (h0 : 0 ≤ j) (hr : rows[j.toNat]? = some (.ref a)) (hd : leafOf d = none) (hv : d.val.length ≤ 1000) (hn : d.name.length ≤ 1000) (h : OthersAre n rows its) : OthersAre n rows (.int j tj :: its) := by
  intro v hv'
  rcases List.mem_cons.mp hv' with rfl | hv'
  · exact ⟨j, tj, a, d, rfl, h0, hr, hN, hd, hv, hn⟩
  · exact h v hv'
theorem no_leaf {kd nm ur lo va : Str} {par : Value} {ch a2 ns : Addr} (h : (kd == Str.ofString "text" || kd == Str.ofString "comment" || kd == Str.ofString "instruction") = false) : leafOf ⟨kd, nm, ur, lo, va, par, ch, a2, ns⟩ = none := by
  simp only [Bool.or_eq_false_iff] at h
  exact leaf_4 h.1.1 h.1.2 h.2
section
variable {prog : Program} {w : World} {A A₀ : Around} {base g₀ : Heap} {outer : List Env} {L : Addr} {m : Str → Option Value} {env : Env} {s₁ : Shared}
/-- the last comprehension starts -/
theorem cellSrc_leav2 {ct : PySem.Expr} {x : Str} {scope : Scope} {cl : List (Str × Addr)} {Q : Value → Shared → Prop} {ln col : Int} {fo T0 : List (Addr × Obj)} {l' : Addr} {os : Array Value} {k : Nat} (hFO : FO g₀ (fsOf outer) fo) (Fb : Fr base L s₁.heap m) (Nb : News base L s₁.heap (fo ++ (382, tabObj #[]) :: T0)) (h82 : ∀ p ∈ T0, p.1 ≠ 382) (hoff : ∀ p ∈ (382, tabObj #[]) :: T0, p.1 ∉ fsOf outer)
    (hl : (l', listOf os k) ∈ T0) (hh : A.handled = none) (hsz : os.size ≤ sizeLine)
    (turn : CellTurn prog w A base L m env ct x scope cl s₁ os (fun _ nw => Leav2 ln col g₀ (fsOf outer) T0 nw))
    (fin : ∀ nw D h tk, Leav2 ln col g₀ (fsOf outer) T0 nw → Fr base L h m → News base L h ((D, LCg.lst []) :: nw) → (∀ p ∈ nw, p.1 ≠ D) → Q (.ref D) { s₁ with heap := h, toks := tk }) :
    CellSrc prog w A base L m env ct x scope cl Q (.ref l') s₁ := by
  refine ⟨l', os, k, _, fun _ nw => Leav2 ln col g₀ (fsOf outer) T0 nw, rfl, hh, Fb, Nb, ?_, ⟨fo, tabObj #[], T0, rfl, hFO, .inl rfl, h82, fun _ h => h, hoff⟩, hsz, turn, fin⟩
  rintro i nw ⟨fo', o', T, rfl, _, _, _, hs, _⟩
  exact List.mem_append_right _ (.tail _ (hs _ hl))
end
theorem made_end {ln cl : Int} {o2 oc : Obj} {R R' nw1 : List (Addr × Obj)} {c' : Addr} (h : Made ln cl o2 R R' c' oc) (hs : ∀ p ∈ R', p ∈ nw1) :
    (∀ p ∈ (382, o2) :: R, p ∈ nw1) ∨ ∃ c' oc vs tq, (∀ p ∈ (382, tabObj #[rawInt ln, rawInt cl, .ref c']) :: (c', oc) :: R, p ∈ nw1) ∧ oc.data = .fields vs ∧ vs[1]? = some (.str lamQ2 tq) ∧ ∀ p ∈ (382, o2) :: R, p.1 < c' := by
  obtain ⟨m1, ⟨vs, tq, e1, e2⟩, m2, m3 | ⟨m3, l⟩⟩ := h
  · left
    intro p hp
    rcases List.mem_cons.mp hp with rfl | hp
    · exact hs _ m3
    · exact hs _ (m2 _ hp)
  · right
    refine ⟨c', oc, vs, tq, fun p hp => ?_, e1, e2, l⟩
    rcases List.mem_cons.mp hp with rfl | hp
    · exact hs _ m3
    · rcases List.mem_cons.mp hp with rfl | hp
      · exact hs _ m1
      · exact hs _ (m2 _ hp)
theorem around_off {I C c D : Addr} {oI oC o9 oD o2 : Obj} {fo T : List (Addr × Obj)} (ar : Around4 I C c D (fo ++ (382, o2) :: T)) (hT : ∀ p ∈ T, p.1 ≠ 382) : ∀ p ∈ (I, oI) :: (C, oC) :: (c, o9) :: (D, oD) :: T, p.1 ≠ 382 := by
  have a := ar.1 (382, o2) (List.mem_append_right _ (.head _))
  intro p hp
  rcases List.mem_cons.mp hp with rfl | hp
  · exact a.1.symm
  · rcases List.mem_cons.mp hp with rfl | hp
    · exact a.2.1.symm
    · rcases List.mem_cons.mp hp with rfl | hp
      · exact a.2.2.1.symm
      · rcases List.mem_cons.mp hp with rfl | hp
        · exact a.2.2.2.symm
        · exact hT p hp
theorem last_sub {D9 : Addr} {oD o o2 : Obj} {fo T T0 T1 : List (Addr × Obj)} (hsub : ∀ p ∈ T0, p ∈ T) (h5 : (375, o) ∈ T0) (hT : ∀ p ∈ T1, p ∈ T0) : ∀ p ∈ (D9, oD) :: (375, o) :: (382, o2) :: T1, p ∈ (D9, oD) :: (fo ++ (382, o2) :: T) := by
  intro p hp
  rcases List.mem_cons.mp hp with rfl | hp
  · exact .head _
  · rcases List.mem_cons.mp hp with rfl | hp
    · exact .tail _ (List.mem_append_right _ (.tail _ (hsub _ h5)))
    · rcases List.mem_cons.mp hp with rfl | hp
      · exact .tail _ (List.mem_append_right _ (.head _))
      · exact .tail _ (List.mem_append_right _ (.tail _ (hsub _ (hT _ hp))))
theorem last_off {fs : List Addr} {D9 : Addr} {oD o o2 : Obj} {T T0 T1 : List (Addr × Obj)} (hD : D9 ∉ fs) (hoff : ∀ p ∈ (382, o2) :: T, p.1 ∉ fs) (hsub : ∀ p ∈ T0, p ∈ T) (h5 : (375, o) ∈ T0) (hT : ∀ p ∈ T1, p ∈ T0) : ∀ p ∈ (D9, oD) :: (375, o) :: (382, o2) :: T1, p.1 ∉ fs := by
  intro p hp
  rcases List.mem_cons.mp hp with rfl | hp
  · exact hD
  · rcases List.mem_cons.mp hp with rfl | hp
    · exact hoff _ (.tail _ (hsub _ h5))
    · rcases List.mem_cons.mp hp with rfl | hp
      · exact hoff _ (.head _)
      · exact hoff _ (.tail _ (hsub _ (hT _ hp)))
/-- some table of codes -/
def TabO (o : Obj) : Prop := ∃ ps, o = tabObj ps
theorem Tab2.o {ln cl : Int} {o : Obj} {T : List (Addr × Obj)} (h : Tab2 ln cl o T) : TabO o := by
  rcases h with rfl | ⟨c', _, _, _, rfl, _⟩
  · exact ⟨_, rfl⟩
  · exact ⟨_, rfl⟩
theorem Tab1.o {o : Obj} {T : List (Addr × Obj)} (h : Tab1 o T) : TabO o := by
  rcases h with rfl | ⟨c', _, _, _, rfl, _⟩
  · exact ⟨_, rfl⟩
  · exact ⟨_, rfl⟩
end

theorem reset_G0 (h : PySem.Heap) : PySem.W.GrownAll [] h := by
  w_top off
  walk1
section
open PySem PySem.W PyProof.Rows
set_option Elab.async false
set_option maxRecDepth 100000
set_option linter.unusedSimpArgs false
set_option hygiene false
local macro_rules | `(tactic| k_mem) => `(tactic| first | assumption | exact List.Mem.head _ | (refine' List.mem_cons_of_mem _ ?_; k_mem) | (refine' List.mem_append_left _ ?_; k_mem) | (refine' List.mem_append_right _ ?_; k_mem))
local macro_rules | `(tactic| walk_at "getAttr ref") => `(tactic| (k_here; k_dflt (refine' get_own ?zk1 ?zk2 ?zk3 ?zk4 ?zk5 ?zk6 ?zk7 ?zk8 ?zk9 ?_; (case zk1 => k_asm); (case zk2 => k_asm); (case zk3 => k_inst); (case zk4 => k_is); (case zk5 => k_is); (case zk6 => k_is); (case zk7 => k_is); (case zk8 => first | assumption | k_get); (case zk9 => k_handed); k_whole)))
local macro_rules | `(tactic| walk_at "len") => `(tactic| first | assumption | exact (by decide +kernel : PySem.Str.length _ ≤ 64) | exact len_app (by walk_at "len") (by walk_at "len"))
local macro_rules | `(tactic| walk_at "LeaveB") => `(tactic| refine stop_at ?_)
local macro_rules | `(tactic| walk_at "noteFrame ref") => `(tactic| refine stop_at ?_)
local macro_rules | `(tactic| walk_at "leaving ref") => `(tactic| refine stop_at ?_)
local macro_rules | `(tactic| walk_at "CompSrcT") => `(tactic| refine stop_at ?_)
local macro_rules | `(tactic| walk_at "ItemsRest") => `(tactic| (refine stop_at ?_))
local macro_rules | `(tactic| walk_at "eval ListComp") => `(tactic| refine stop_at ?_)
local macro_rules | `(tactic| walk_at "eval Lambda") => `(tactic| refine stop_at ?_)
local macro_rules | `(tactic| walk_at "CellSrc") => `(tactic| refine stop_at ?_)
local macro_rules | `(tactic| walk_at "CellEnd") => `(tactic| refine stop_at ?_)
theorem fillKG0 : (fun (_ : Params → Frag) (_ : OpenLaw) => True) Mine.K PySem.Challenge.rw_xw0213_01 := by k_fill; trivial

/-- a turn of a for over a written list ends: all but the iterator stands -/
theorem unr_end1 {h₀ : Heap} {L a : Addr} {o : Obj} {R2 : List (Addr × Obj)} {rest : (Str → Option Value) → List (Addr × Obj) → Prop} {s₁ : Shared} {h' : Heap} {tk : Nat} {m' : Str → Option Value} (F : Fr h₀ L h' m') (N : News h₀ L h' ((a, o) :: R2)) (off : ∀ p ∈ R2, p.1 ≠ a) (r : rest m' R2) :
    UnrEndW h₀ L s₁ [(a, o)] rest { s₁ with heap := h', toks := tk } :=
  ⟨h', tk, m', R2, rfl, F, N, fun p hp q hq => by rw [List.mem_singleton.mp hq]; exact off p hp, r⟩
local macro_rules | `(tactic| walk_at "exec For Tuple List cons nil") => `(tactic| refine stop_at ?_)
set_option maxHeartbeats 4000000 in
theorem toldRight_tell {w : World} :
    TellB w 385 [] 30 [(382, tabObj #[]), (375, tabObj #[])] (fun news' r => r = .bool true ∧ ∃ o o2 T, news' = (375, o) :: (382, o2) :: T ∧ TabO o2 ∧ Tab1 o T ∧ ∀ p ∈ T, p.1 ≠ 375) := by
  unfold TellB
  intro loose mean mg mb dp un gd cn cs a ccd cl outer A₀ base h₀ L m s Q E B F U N hb hlt hk hd hu ret
  obtain ⟨kind, nm, ig, ic, mr⟩ := cs
  obtain ⟨sh, sg, sd, st, so⟩ := s
  obtain rfl : kind = .function := hk
  refine wpAny_call ?_
  k_dflt (refine' enterBC B F U N hb hlt ?kA ?kK ?k6 ?k7 ?k8 ?k9 ?kB ?kD ?_ ?c2 ?c3 ?c4; (case kA => exact rfl); (case kK => exact rfl); (case k6 => k_is); (case k7 => k_is); (case k8 => k_room); (case k9 => first | exact BindsTo.of_eq rfl | exact binds_K (by k_in) rfl (by k_is) rfl rfl rfl); (case kB => exact rfl); (case kD => decide +kernel); (case c2 => exact rfl); (case c3 => exact rfl); (case c4 => exact rfl); k_whole; intro g' L' h' tk' cells' FG' F' N' Y' B' X' T' hb' hlt' l1; (try k_lt l1); k_cells Y'; (try simp only [List.cons_append, List.nil_append] at N'); (try dsimp only); (try k_lift B'); (try k_fold))
  rename Fr _ _ _ _ => Fz
  refine (let qk : Flow → Shared → Prop := _; let ek : Value → Shared → Prop := _; let A1 : Around := _; let m1 : Str → Option Value := _; let t1 : Nat := _; have Fz : Fr _ _ _ m1 := Fz; (?_ : wpAny _ A1 _ qk ek (Shared.mk _ _ _ t1 _)))
  (repeat' (first | ((with_reducible show wpAny _ _ (callWith _ (Value.ref _) _ (backTo _ (starEach [] _)) []) _ _ _); k_dflt (refine' callWith_mine0 ?zkF ?zkX ?zkk ?_; (case zkF => with_reducible assumption); (case zkX => with_reducible assumption); (case zkk => with_unfolding_all exact rfl)); (try dsimp only [List.nil_append, List.cons_append, List.append_nil])) | ((with_reducible show wpAny _ _ (call (Value.ref 218) _) _ _ _); refine stop_at ?_) | ((with_reducible show wpAny _ _ (call (Value.ref 211) _) _ _ _); refine stop_at ?_) | ((with_reducible show wpAny _ _ (call (Value.ref 176) _) _ _ _); refine stop_at ?_) | ((with_reducible show wpAny _ _ (call (Value.ref 162) _) _ _ _); refine stop_at ?_) | ((with_reducible show wpAny _ _ (call (Value.ref 344) _) _ _ _); refine stop_at ?_) | ((with_reducible show wpAny _ _ (call (Value.ref 380) _) _ _ _); refine stop_at ?_) | ((with_reducible show wpAny _ _ (call (Value.ref 366) _) _ _ _); refine stop_at ?_) | ((with_reducible show wpAny _ _ (callWith _ (Value.ref _) _ (backTo _ (starEach (_ :: _) _)) []) _ _ _); k_dflt (refine' callWith_mine ?zkX ?zkk ?_ ?zhe ?zhp; (case zhe => exact rfl); (case zhp => exact rfl); (case zkX => with_reducible assumption); (case zkk => with_unfolding_all exact rfl))) | (k_unfold; (try dsimp only)) | walk1 | (dsimp only; walk1) | (leave1; (try dsimp only))))
  refine go_on ?_
  rename Fr _ _ _ _ => Fz
  rename News _ _ _ _ => Nz
  refine (let m2 : Str → Option Value := _; let R2 : List (Addr × Obj) := _; let t2 : Nat := _; have Fz : Fr _ _ _ m2 := Fz; have Nz : News _ _ _ R2 := Nz; (?_ : wpAny _ A1 _ _ _ (Shared.mk _ sg sd t2 so)))
  ktu_for
  (repeat' (first | ((with_reducible show wpAny _ _ (callWith _ (Value.ref _) _ (backTo _ (starEach [] _)) []) _ _ _); k_dflt (refine' callWith_mine0 ?zkF ?zkX ?zkk ?_; (case zkF => with_reducible assumption); (case zkX => with_reducible assumption); (case zkk => with_unfolding_all exact rfl)); (try dsimp only [List.nil_append, List.cons_append, List.append_nil])) | ((with_reducible show wpAny _ _ (call (Value.ref 218) _) _ _ _); refine stop_at ?_) | ((with_reducible show wpAny _ _ (call (Value.ref 211) _) _ _ _); refine stop_at ?_) | ((with_reducible show wpAny _ _ (call (Value.ref 176) _) _ _ _); refine stop_at ?_) | ((with_reducible show wpAny _ _ (call (Value.ref 162) _) _ _ _); refine stop_at ?_) | ((with_reducible show wpAny _ _ (call (Value.ref 344) _) _ _ _); refine stop_at ?_) | ((with_reducible show wpAny _ _ (call (Value.ref 380) _) _ _ _); refine stop_at ?_) | ((with_reducible show wpAny _ _ (call (Value.ref 366) _) _ _ _); refine stop_at ?_) | ((with_reducible show wpAny _ _ (callWith _ (Value.ref _) _ (backTo _ (starEach (_ :: _) _)) []) _ _ _); k_dflt (refine' callWith_mine ?zkX ?zkk ?_ ?zhe ?zhp; (case zhe => exact rfl); (case zhp => exact rfl); (case zkX => with_reducible assumption); (case zkk => with_unfolding_all exact rfl))) | (k_unfold; (try dsimp only)) | walk1 | (dsimp only; walk1) | (leave1; (try dsimp only))))
  refine go_on ?_
  rename Addr => i1
  rename _ < _ ∧ _ < _ ∧ _ < _ ∧ _ < _ ∧ _ < _ ∧ _ < _ ∧ _ < _ ∧ _ < _ ∧ _ < _ ∧ _ < _ ∧ _ < _ ∧ _ < _ ∧ _ => lI
  refine (let V1 : Env := _; let T1 : PySem.Expr := _; let B1 : List Stmt := _; let Q1 : Flow → Shared → Prop := _; let S1 : Shared := _; let W1 : List (Addr × String) := [(i1, _)]; let K1 : List (Addr × Obj) := _; let R1 : List (Addr × Obj) := _; (?_ : ItemsRest _ _ A1 ek _ V1 T1 B1 Q1 S1 W1 K1 _ _ R1))
  have turn : ∀ (R2 : List (Addr × Obj)) {D pl ql : Addr} {pvs qvs : List Value} {e : Bool} {ps qs : List (Str × Str)} {r : List Itm} {m2 : Str → Option Value}, (D, ({ cls := .type "tuple", data := .seq #[.ref pl, .ref ql, .bool e] } : Obj)) ∈ R2 → (pl, listOf pvs.toArray 0) ∈ R2 → PairsAre R2 pvs ps → (ql, listOf qvs.toArray 0) ∈ R2 → PairsAre R2 qvs qs → Short ps → Short qs → Apart qs → SubL K1 R2 → (∀ p ∈ R2, p.1 ≠ i1) →
      (∀ m', ItemsRest PySem.Challenge.rw_xw0213_01.row.prog w A1 ek g' V1 T1 B1 Q1 S1 W1 K1 r m' R2) → ItemsRest PySem.Challenge.rw_xw0213_01.row.prog w A1 ek g' V1 T1 B1 Q1 S1 W1 K1 (Itm.val (.ref D) :: r) m2 R2 := by
    intro R2 D pl ql pvs qvs e ps qs r m2 hTup hpl hps hql hqs s1 s2 ap hsub hoff next
    with_unfolding_all refine ItemsRest.val (fun h' tk' F' => ?_)
    ktu_objs
    dsimp only [T1, B1, V1]
    (repeat' (first | ((with_reducible show wpAny _ _ (callWith _ (Value.ref _) _ (backTo _ (starEach [] _)) []) _ _ _); k_dflt (refine' callWith_mine0 ?zkF ?zkX ?zkk ?_; (case zkF => with_reducible assumption); (case zkX => with_reducible assumption); (case zkk => with_unfolding_all exact rfl)); (try dsimp only [List.nil_append, List.cons_append, List.append_nil])) | ((with_reducible show wpAny _ _ (call (Value.ref 218) _) _ _ _); refine stop_at ?_) | ((with_reducible show wpAny _ _ (call (Value.ref 211) _) _ _ _); refine stop_at ?_) | ((with_reducible show wpAny _ _ (call (Value.ref 176) _) _ _ _); refine stop_at ?_) | ((with_reducible show wpAny _ _ (call (Value.ref 162) _) _ _ _); refine stop_at ?_) | ((with_reducible show wpAny _ _ (call (Value.ref 344) _) _ _ _); refine stop_at ?_) | ((with_reducible show wpAny _ _ (call (Value.ref 380) _) _ _ _); refine stop_at ?_) | ((with_reducible show wpAny _ _ (call (Value.ref 366) _) _ _ _); refine stop_at ?_) | ((with_reducible show wpAny _ _ (callWith _ (Value.ref _) _ (backTo _ (starEach (_ :: _) _)) []) _ _ _); k_dflt (refine' callWith_mine ?zkX ?zkk ?_ ?zhe ?zhp; (case zhe => exact rfl); (case zhp => exact rfl); (case zkX => with_reducible assumption); (case zkk => with_unfolding_all exact rfl))) | (k_unfold; (try dsimp only)) | walk1 | (dsimp only; walk1) | (leave1; (try dsimp only))))
    refine go_on ?_
    rename Fr _ _ _ _ => F1
    rename News _ _ _ _ => N1
    refine' Tell.use (room := 8) B' F1 X' N1 T' rfl ?d ?u (startRight_tell _ ?hp (hps.mono ?mp) ?hq (hqs.mono ?mq) s1 s2 ap (.inr (.inr rfl))) (fun p hp => hp) ?_
    case d => k_room
    case u => k_units
    case hp => exact List.mem_cons_of_mem _ hpl
    case hq => exact List.mem_cons_of_mem _ hql
    case mp => exact fun p hp => List.mem_cons_of_mem _ hp
    case mq => exact fun p hp => List.mem_cons_of_mem _ hp
    clear F1 N1
    rintro r' nw' h' tk' F1 N1 ⟨rfl, rfl⟩
    (repeat' (first | ((with_reducible show wpAny _ _ (callWith _ (Value.ref _) _ (backTo _ (starEach [] _)) []) _ _ _); k_dflt (refine' callWith_mine0 ?zkF ?zkX ?zkk ?_; (case zkF => with_reducible assumption); (case zkX => with_reducible assumption); (case zkk => with_unfolding_all exact rfl)); (try dsimp only [List.nil_append, List.cons_append, List.append_nil])) | ((with_reducible show wpAny _ _ (call (Value.ref 218) _) _ _ _); refine stop_at ?_) | ((with_reducible show wpAny _ _ (call (Value.ref 211) _) _ _ _); refine stop_at ?_) | ((with_reducible show wpAny _ _ (call (Value.ref 176) _) _ _ _); refine stop_at ?_) | ((with_reducible show wpAny _ _ (call (Value.ref 162) _) _ _ _); refine stop_at ?_) | ((with_reducible show wpAny _ _ (call (Value.ref 344) _) _ _ _); refine stop_at ?_) | ((with_reducible show wpAny _ _ (call (Value.ref 380) _) _ _ _); refine stop_at ?_) | ((with_reducible show wpAny _ _ (call (Value.ref 366) _) _ _ _); refine stop_at ?_) | ((with_reducible show wpAny _ _ (callWith _ (Value.ref _) _ (backTo _ (starEach (_ :: _) _)) []) _ _ _); k_dflt (refine' callWith_mine ?zkX ?zkk ?_ ?zhe ?zhp; (case zhe => exact rfl); (case zhp => exact rfl); (case zkX => with_reducible assumption); (case zkk => with_unfolding_all exact rfl))) | (k_unfold; (try dsimp only)) | walk1 | (dsimp only; walk1) | (leave1; (try dsimp only))))
    refine go_on ?_
    rename Fr _ _ _ _ => F1
    rename News _ _ _ _ => N1
    exact unr_end1 F1 N1 hoff ⟨hsub, next _⟩
  have hsub1 : SubL K1 R1 := ⟨by k_mem, trivial⟩
  have hoff1 : ∀ p ∈ R1, p.1 ≠ i1 := all_off (by simpa only [R1, AllLt, and_true] using lI)
  refine turn R1 (by k_mem) (by k_mem) PairsAre.nil (by k_mem) PairsAre.nil (short_dec (by decide +kernel)) (short_dec (by decide +kernel)) (apart_dec (by decide +kernel)) hsub1 hoff1 fun _ => ?_
  refine turn R1 (by k_mem) (by k_mem) PairsAre.nil (by k_mem) PairsAre.nil (short_dec (by decide +kernel)) (short_dec (by decide +kernel)) (apart_dec (by decide +kernel)) hsub1 hoff1 fun _ => ?_
  refine turn R1 (pvs := [_, _, _]) (qvs := [_, _]) (ps := [(Str.ofString "", Str.ofString "v"), (Str.ofString "p", Str.ofString "<\n"), (Str.ofString "", Str.ofString "")]) (qs := [(Str.ofString "b", Str.ofString "\"&>"), (Str.ofString "a", Str.ofString "\t\x0d")]) (by k_mem) (by k_mem) (PairsAre.cons (pair_of (by k_mem)) (PairsAre.cons (pair_of (by k_mem)) (PairsAre.cons (pair_of (by k_mem)) PairsAre.nil))) (by k_mem) (PairsAre.cons (pair_of (by k_mem)) (PairsAre.cons (pair_of (by k_mem)) PairsAre.nil)) (short_dec (by decide +kernel)) (short_dec (by decide +kernel)) (apart_dec (by decide +kernel)) hsub1 hoff1 fun _ => ?_
  refine turn R1 (pvs := [_, _]) (qvs := [_]) (ps := [(Str.ofString "p", Str.ofString "<\n"), (Str.ofString "", Str.ofString "")]) (qs := [(Str.ofString "a", Str.ofString "\t\x0d")]) (by k_mem) (by k_mem) (PairsAre.cons (pair_of (by k_mem)) (PairsAre.cons (pair_of (by k_mem)) PairsAre.nil)) (by k_mem) (PairsAre.cons (pair_of (by k_mem)) PairsAre.nil) (short_dec (by decide +kernel)) (short_dec (by decide +kernel)) (apart_dec (by decide +kernel)) hsub1 hoff1 fun _ => ?_
  rw [List.map_nil]
  refine' ItemsRest.zero ?_
  intro h' tk' F' N'
  replace F' : Fr g' L' h' _ := F'
  replace N' : News g' L' h' _ := N'
  replace N' := news_drop 11 N'
  simp only [R1, List.drop_succ_cons, List.drop_zero] at N'
  replace N' := news_drop 8 N'
  simp only [R2, List.drop_succ_cons, List.drop_zero] at N'
  dsimp only [Q1]
  show wpAny _ A1 _ _ _ (Shared.mk h' sg sd tk' so)
  (repeat' (first | ((with_reducible show wpAny _ _ (callWith _ (Value.ref _) _ (backTo _ (starEach [] _)) []) _ _ _); k_dflt (refine' callWith_mine0 ?zkF ?zkX ?zkk ?_; (case zkF => with_reducible assumption); (case zkX => with_reducible assumption); (case zkk => with_unfolding_all exact rfl)); (try dsimp only [List.nil_append, List.cons_append, List.append_nil])) | ((with_reducible show wpAny _ _ (call (Value.ref 218) _) _ _ _); refine stop_at ?_) | ((with_reducible show wpAny _ _ (call (Value.ref 211) _) _ _ _); refine stop_at ?_) | ((with_reducible show wpAny _ _ (call (Value.ref 176) _) _ _ _); refine stop_at ?_) | ((with_reducible show wpAny _ _ (call (Value.ref 162) _) _ _ _); refine stop_at ?_) | ((with_reducible show wpAny _ _ (call (Value.ref 344) _) _ _ _); refine stop_at ?_) | ((with_reducible show wpAny _ _ (call (Value.ref 380) _) _ _ _); refine stop_at ?_) | ((with_reducible show wpAny _ _ (call (Value.ref 366) _) _ _ _); refine stop_at ?_) | ((with_reducible show wpAny _ _ (callWith _ (Value.ref _) _ (backTo _ (starEach (_ :: _) _)) []) _ _ _); k_dflt (refine' callWith_mine ?zkX ?zkk ?_ ?zhe ?zhp; (case zhe => exact rfl); (case zhp => exact rfl); (case zkX => with_reducible assumption); (case zkk => with_unfolding_all exact rfl))) | (k_unfold; (try dsimp only)) | walk1 | (dsimp only; walk1) | (leave1; (try dsimp only))))
  refine go_on ?_
  rename Fr _ _ _ _ => F8
  rename News _ _ _ _ => N8
  rename _ < _ ∧ _ < _ ∧ _ < _ ∧ _ < _ ∧ _ < _ ∧ _ < _ ∧ _ < _ ∧ _ < _ ∧ _ < _ ∧ _ < _ ∧ _ < _ => lT
  refine leaves_start N8 ?_ ?_ fun T0 hT0 N9 => ?_
  · exact LeavesAre.cons (by k_mem) (LeavesAre.cons (by k_mem) (LeavesAre.cons (by k_mem) (LeavesAre.cons (by k_mem) (LeavesAre.cons (by k_mem) (LeavesAre.cons (by k_mem) (LeavesAre.cons (by k_mem) (LeavesAre.cons (by k_mem) (LeavesAre.nil) (by decide +kernel) (by decide +kernel) (by decide +kernel)) (by decide +kernel) (by decide +kernel) (by decide +kernel)) (by decide +kernel) (by decide +kernel) (by decide +kernel)) (by decide +kernel) (by decide +kernel) (by decide +kernel)) (by decide +kernel) (by decide +kernel) (by decide +kernel)) (by decide +kernel) (by decide +kernel) (by decide +kernel)) (by decide +kernel) (by decide +kernel) (by decide +kernel)) (by decide +kernel) (by decide +kernel) (by decide +kernel)
  · omega
  clear N8
  rename 382 < _ ∧ 375 < _ => l0
  obtain ⟨l0a, l0b⟩ := l0
  repeat (rename _ < _ ∧ _ => zz; clear zz)
  first | (refine el_0_5 hT0 fun hlv hcell9 h382 hLv h375 => ?_) | (refine el_1_4 hT0 fun hlv hcell9 h382 hLv h375 => ?_) | (refine el_2_3 hT0 fun hlv hcell9 h382 hLv h375 => ?_) | (refine el_3_2 hT0 fun hlv hcell9 h382 hLv h375 => ?_) | (refine el_4_1 hT0 fun hlv hcell9 h382 hLv h375 => ?_) | obtain ⟨hlv, hcell9, h382, hLv, h375⟩ := hT0
  try clear hT0
  have hEl := down B' B' F8 N9 FrameTurn.refl hb' hlt'
  first | (refine el_0_5 hEl fun fo hFO Fb Nb hoff => ?_) | (refine el_1_4 hEl fun fo hFO Fb Nb hoff => ?_) | (refine el_2_3 hEl fun fo hFO Fb Nb hoff => ?_) | (refine el_3_2 hEl fun fo hFO Fb Nb hoff => ?_) | (refine el_4_1 hEl fun fo hFO Fb Nb hoff => ?_) | obtain ⟨fo, hFO, Fb, Nb, hoff⟩ := hEl
  try clear hEl
  refine LCt.ListComp_T (h₀ := base) (F₀ := Fb) (cl := []) ?c1 ?c2 ?c3 ?c4 ?c5 ?_
  case c1 => with_unfolding_all rfl
  case c2 => decide
  case c3 => rfl
  case c4 => decide
  case c5 => rfl
  (repeat' (first | ((with_reducible show wpAny _ _ (callWith _ (Value.ref _) _ (backTo _ (starEach [] _)) []) _ _ _); k_dflt (refine' callWith_mine0 ?zkF ?zkX ?zkk ?_; (case zkF => with_reducible assumption); (case zkX => with_reducible assumption); (case zkk => with_unfolding_all exact rfl)); (try dsimp only [List.nil_append, List.cons_append, List.append_nil])) | ((with_reducible show wpAny _ _ (call (Value.ref 218) _) _ _ _); refine stop_at ?_) | ((with_reducible show wpAny _ _ (call (Value.ref 211) _) _ _ _); refine stop_at ?_) | ((with_reducible show wpAny _ _ (call (Value.ref 176) _) _ _ _); refine stop_at ?_) | ((with_reducible show wpAny _ _ (call (Value.ref 162) _) _ _ _); refine stop_at ?_) | ((with_reducible show wpAny _ _ (call (Value.ref 344) _) _ _ _); refine stop_at ?_) | ((with_reducible show wpAny _ _ (call (Value.ref 380) _) _ _ _); refine stop_at ?_) | ((with_reducible show wpAny _ _ (call (Value.ref 366) _) _ _ _); refine stop_at ?_) | ((with_reducible show wpAny _ _ (callWith _ (Value.ref _) _ (backTo _ (starEach (_ :: _) _)) []) _ _ _); k_dflt (refine' callWith_mine ?zkX ?zkk ?_ ?zhe ?zhp; (case zhe => exact rfl); (case zhp => exact rfl); (case zkX => with_reducible assumption); (case zkk => with_unfolding_all exact rfl))) | (k_unfold; (try dsimp only)) | walk1 | (dsimp only; walk1) | (leave1; (try dsimp only))))
  refine go_on (LCt.CompSrcT.ledger (by rfl) Fb Nb (List.mem_append_right _ (List.mem_cons_of_mem _ hlv)) (by rw [PySem.sizeLine_eq]; exact Nat.le_of_ble_eq_true rfl) fun g9 => ?_)
  refine restT_none (J := Leav g' (fsOf (envX cn _ L a ccd cl :: outer)) T0) ⟨fo, tabObj #[], T0, rfl, hFO, .inl rfl, h375, fun _ h => h, hoff⟩ ?_ ?_ _ 0
  · rintro i v nw I oI C oC D m₂ h tk E' hv ⟨fo, o, T, rfl, hFO, hTab, hT75, hsub, hoffT⟩ hC hx F N off ne
    have hEl := hLv v (mem_of_arr hv)
    first | (refine el_0_12 hEl fun T9 kd t1 ta t2 x t3 hrf7 hm9 hkd htl hxl => ?_; subst hrf7) | (refine el_1_11 hEl fun T9 kd t1 ta t2 x t3 hrf7 hm9 hkd htl hxl => ?_; subst hrf7) | (refine el_2_10 hEl fun T9 kd t1 ta t2 x t3 hrf7 hm9 hkd htl hxl => ?_; subst hrf7) | (refine el_3_9 hEl fun T9 kd t1 ta t2 x t3 hrf7 hm9 hkd htl hxl => ?_; subst hrf7) | (refine el_4_8 hEl fun T9 kd t1 ta t2 x t3 hrf7 hm9 hkd htl hxl => ?_; subst hrf7) | (refine el_5_7 hEl fun T9 kd t1 ta t2 x t3 hrf7 hm9 hkd htl hxl => ?_; subst hrf7) | (refine el_6_6 hEl fun T9 kd t1 ta t2 x t3 hrf7 hm9 hkd htl hxl => ?_; subst hrf7) | (refine el_7_5 hEl fun T9 kd t1 ta t2 x t3 hrf7 hm9 hkd htl hxl => ?_; subst hrf7) | (refine el_8_4 hEl fun T9 kd t1 ta t2 x t3 hrf7 hm9 hkd htl hxl => ?_; subst hrf7) | (refine el_9_3 hEl fun T9 kd t1 ta t2 x t3 hrf7 hm9 hkd htl hxl => ?_; subst hrf7) | (refine el_10_2 hEl fun T9 kd t1 ta t2 x t3 hrf7 hm9 hkd htl hxl => ?_; subst hrf7) | (refine el_11_1 hEl fun T9 kd t1 ta t2 x t3 hrf7 hm9 hkd htl hxl => ?_; subst hrf7) | obtain ⟨T9, kd, t1, ta, t2, x, t3, rfl, hm9, hkd, htl, hxl⟩ := hEl
    try clear hEl
    have off3 := off.mem
    have nfs : ∀ {b : Addr}, (∀ p ∈ fo, p.1 ≠ b) → b ∉ fsOf (envX cn _ L a ccd cl :: outer) := fun h hm => by
      obtain ⟨o', ho'⟩ := hFO.mem hm
      exact h _ ho' rfl
    have hEl := up (nw := (375, o) :: (I, oI) :: (C, oC) :: (D, LCg.lst []) :: T) B' hFO F N (fun p hp => .tail _ (.tail _ (.tail _ (List.mem_append_left _ hp)))) (fun p hp => turn_sub hp) (turn_off (nfs fun p hp => (off3 p (List.mem_append_left _ hp)).1) (nfs fun p hp => (off3 p (List.mem_append_left _ hp)).2.1) (nfs fun p hp => (off3 p (List.mem_append_left _ hp)).2.2) hoffT) hlt'
    first | (refine el_0_5 hEl fun g5 B5 F5 N5 FT5 => ?_) | (refine el_1_4 hEl fun g5 B5 F5 N5 FT5 => ?_) | (refine el_2_3 hEl fun g5 B5 F5 N5 FT5 => ?_) | (refine el_3_2 hEl fun g5 B5 F5 N5 FT5 => ?_) | (refine el_4_1 hEl fun g5 B5 F5 N5 FT5 => ?_) | obtain ⟨g5, B5, F5, N5, FT5⟩ := hEl
    try clear hEl
    have U5 := U.keeps B5.stays
    have X5 := U5.X
    have T5 := U5.T
    have hm9' := hsub _ hm9
    clear F N F8 Fb Nb
    (try k_fold)
    (repeat' (first | ((with_reducible show wpAny _ _ (callWith _ (Value.ref _) _ (backTo _ (starEach [] _)) []) _ _ _); k_dflt (refine' callWith_mine0 ?zkF ?zkX ?zkk ?_; (case zkF => with_reducible assumption); (case zkX => with_reducible assumption); (case zkk => with_unfolding_all exact rfl)); (try dsimp only [List.nil_append, List.cons_append, List.append_nil])) | ((with_reducible show wpAny _ _ (call (Value.ref 218) _) _ _ _); refine stop_at ?_) | ((with_reducible show wpAny _ _ (call (Value.ref 211) _) _ _ _); refine stop_at ?_) | ((with_reducible show wpAny _ _ (call (Value.ref 176) _) _ _ _); refine stop_at ?_) | ((with_reducible show wpAny _ _ (call (Value.ref 162) _) _ _ _); refine stop_at ?_) | ((with_reducible show wpAny _ _ (call (Value.ref 344) _) _ _ _); refine stop_at ?_) | ((with_reducible show wpAny _ _ (call (Value.ref 380) _) _ _ _); refine stop_at ?_) | ((with_reducible show wpAny _ _ (call (Value.ref 366) _) _ _ _); refine stop_at ?_) | ((with_reducible show wpAny _ _ (callWith _ (Value.ref _) _ (backTo _ (starEach (_ :: _) _)) []) _ _ _); k_dflt (refine' callWith_mine ?zkX ?zkk ?_ ?zhe ?zhp; (case zhe => exact rfl); (case zhp => exact rfl); (case zkX => with_reducible assumption); (case zkk => with_unfolding_all exact rfl))) | (k_unfold; (try dsimp only)) | walk1 | (dsimp only; walk1) | (leave1; (try dsimp only))))
    refine go_on ?_
    rename Fr _ _ _ _ => F6
    rename News _ _ _ _ => N6
    refine' TellB.use (room := 14) B5 F6 U N6 hb' hlt' rfl ?d ?u (leafAny_tell (kind_cases hkd) hxl htl ((I, oI) :: (C, oC) :: (D, LCg.lst []) :: T) (hTab.mono fun p hp => .tail _ (.tail _ (.tail _ hp))) ?hR) ?_
    case d => k_room
    case u => k_units
    case hR =>
      have := off3 (375, o) (List.mem_append_right _ List.mem_cons_self)
      intro p hp
      simp only [List.mem_cons] at hp
      rcases hp with rfl | rfl | rfl | hp
      · exact this.1.symm
      · exact this.2.1.symm
      · exact this.2.2.symm
      · exact hT75 p hp
    rintro r' nw' h' tk' h₁ B1 F1 N1 U1 FT1 ⟨rfl, hc⟩
    clear F6 N6
    have hEl := down B' B1 F1 N1 (FT5.trans FT1) hb' hlt'
    first | (refine el_0_5 hEl fun fo' hFO' Fb' Nb' hoff' => ?_) | (refine el_1_4 hEl fun fo' hFO' Fb' Nb' hoff' => ?_) | (refine el_2_3 hEl fun fo' hFO' Fb' Nb' hoff' => ?_) | (refine el_3_2 hEl fun fo' hFO' Fb' Nb' hoff' => ?_) | (refine el_4_1 hEl fun fo' hFO' Fb' Nb' hoff' => ?_) | obtain ⟨fo', hFO', Fb', Nb', hoff'⟩ := hEl
    try clear hEl
    have hEl := leav_end hFO hFO' hoff' off hTab hT75 hsub hc
    first | (refine el_0_5 hEl fun nw2 hL2 off2 hsub2 hsub3 => ?_) | (refine el_1_4 hEl fun nw2 hL2 off2 hsub2 hsub3 => ?_) | (refine el_2_3 hEl fun nw2 hL2 off2 hsub2 hsub3 => ?_) | (refine el_3_2 hEl fun nw2 hL2 off2 hsub2 hsub3 => ?_) | (refine el_4_1 hEl fun nw2 hL2 off2 hsub2 hsub3 => ?_) | obtain ⟨nw2, hL2, off2, hsub2, hsub3⟩ := hEl
    try clear hEl
    (repeat' (first | ((with_reducible show wpAny _ _ (callWith _ (Value.ref _) _ (backTo _ (starEach [] _)) []) _ _ _); k_dflt (refine' callWith_mine0 ?zkF ?zkX ?zkk ?_; (case zkF => with_reducible assumption); (case zkX => with_reducible assumption); (case zkk => with_unfolding_all exact rfl)); (try dsimp only [List.nil_append, List.cons_append, List.append_nil])) | ((with_reducible show wpAny _ _ (call (Value.ref 218) _) _ _ _); refine stop_at ?_) | ((with_reducible show wpAny _ _ (call (Value.ref 211) _) _ _ _); refine stop_at ?_) | ((with_reducible show wpAny _ _ (call (Value.ref 176) _) _ _ _); refine stop_at ?_) | ((with_reducible show wpAny _ _ (call (Value.ref 162) _) _ _ _); refine stop_at ?_) | ((with_reducible show wpAny _ _ (call (Value.ref 344) _) _ _ _); refine stop_at ?_) | ((with_reducible show wpAny _ _ (call (Value.ref 380) _) _ _ _); refine stop_at ?_) | ((with_reducible show wpAny _ _ (call (Value.ref 366) _) _ _ _); refine stop_at ?_) | ((with_reducible show wpAny _ _ (callWith _ (Value.ref _) _ (backTo _ (starEach (_ :: _) _)) []) _ _ _); k_dflt (refine' callWith_mine ?zkX ?zkk ?_ ?zhe ?zhp; (case zhe => exact rfl); (case zhp => exact rfl); (case zkX => with_reducible assumption); (case zkk => with_unfolding_all exact rfl))) | (k_unfold; (try dsimp only)) | walk1 | (dsimp only; walk1) | (leave1; (try dsimp only))))
    refine go_on ?_
    exact LCg.CompEnd.intro Fb' Nb' nw2 hsub2 off2 (.inr ⟨_, hsub3 _ hlv, rfl, _, rfl⟩) hL2
  · rintro nw ⟨fo, o, T, rfl, hFO, hTab, hT75, hsub, hoffT⟩
    have B0 := B'
    have hb0 := hb'
    have hlt0 := hlt'
    intro D h tk F N o1
    have o1m := off1_mem o1
    have nfs : ∀ {b : Addr}, (∀ p ∈ fo, p.1 ≠ b) → b ∉ fsOf (envX cn _ L a ccd cl :: outer) := fun h hm => by
      obtain ⟨o', ho'⟩ := hFO.mem hm
      exact h _ ho' rfl
    refine tab_cut hTab N (hsub _ hcell9) (by assumption) (hsub _ h382) hT75 fun T1 hTab1 hs1 hne1 hne2 hne3 hfl1 => ?_
    have hEl := up (nw := (D, LCg.lst []) :: _ :: (382, tabObj #[]) :: (375, o) :: T1) B' hFO F N (fun p hp => .tail _ (List.mem_append_left _ hp)) (fin_sub hs1 (hsub _ hcell9) (hsub _ h382)) (fin_off (nfs fun p hp => o1m p (List.mem_append_left _ hp)) hoffT hs1 (hsub _ hcell9) (hsub _ h382)) hlt'
    first | (refine el_0_5 hEl fun g5 B5 F5 N5 FT5 => ?_) | (refine el_1_4 hEl fun g5 B5 F5 N5 FT5 => ?_) | (refine el_2_3 hEl fun g5 B5 F5 N5 FT5 => ?_) | (refine el_3_2 hEl fun g5 B5 F5 N5 FT5 => ?_) | (refine el_4_1 hEl fun g5 B5 F5 N5 FT5 => ?_) | obtain ⟨g5, B5, F5, N5, FT5⟩ := hEl
    try clear hEl
    have U5 := U.keeps B5.stays
    have X5 := U5.X
    have T5 := U5.T
    have hD1 : @Ne Nat D _ := (o1m _ (List.mem_append_right _ (.tail _ (hsub _ hcell9)))).symm
    have hD2 : @Ne Nat D 382 := (o1m _ (List.mem_append_right _ (.tail _ (hsub _ h382)))).symm
    have hD3 : @Ne Nat D 375 := (o1m _ (List.mem_append_right _ (.head _))).symm
    dsimp only at hD1
    clear F N F8 Fb Nb
    (try k_fold)
    (repeat' (first | ((with_reducible show wpAny _ _ (callWith _ (Value.ref _) _ (backTo _ (starEach [] _)) []) _ _ _); k_dflt (refine' callWith_mine0 ?zkF ?zkX ?zkk ?_; (case zkF => with_reducible assumption); (case zkX => with_reducible assumption); (case zkk => with_unfolding_all exact rfl)); (try dsimp only [List.nil_append, List.cons_append, List.append_nil])) | ((with_reducible show wpAny _ _ (call (Value.ref 218) _) _ _ _); refine stop_at ?_) | ((with_reducible show wpAny _ _ (call (Value.ref 211) _) _ _ _); refine stop_at ?_) | ((with_reducible show wpAny _ _ (call (Value.ref 176) _) _ _ _); refine stop_at ?_) | ((with_reducible show wpAny _ _ (call (Value.ref 162) _) _ _ _); refine stop_at ?_) | ((with_reducible show wpAny _ _ (call (Value.ref 344) _) _ _ _); refine stop_at ?_) | ((with_reducible show wpAny _ _ (call (Value.ref 380) _) _ _ _); refine stop_at ?_) | ((with_reducible show wpAny _ _ (call (Value.ref 366) _) _ _ _); refine stop_at ?_) | ((with_reducible show wpAny _ _ (callWith _ (Value.ref _) _ (backTo _ (starEach (_ :: _) _)) []) _ _ _); k_dflt (refine' callWith_mine ?zkX ?zkk ?_ ?zhe ?zhp; (case zhe => exact rfl); (case zhp => exact rfl); (case zkX => with_reducible assumption); (case zkk => with_unfolding_all exact rfl))) | (k_unfold; (try dsimp only)) | walk1 | (dsimp only; walk1) | (leave1; (try dsimp only))))
    refine go_on ?_
    rename Fr _ _ _ _ => F6
    rename News _ _ _ _ => N6
    refine (let t3 : Nat := _; (?_ : wpAny _ _ _ _ _ (Shared.mk _ sg sd t3 so)))
    k_fold
    rename _ < _ ∧ _ < _ ∧ _ < _ ∧ _ < _ ∧ _ < _ ∧ _ < _ ∧ _ < _ ∧ AllLt _ T1 => lL
    refine' Tell.useRow (room := 4) B5 F6 X5 N6 T5 rfl ?d ?u (newRoot_tell (rows := []) (k := 0) _ ?hR ?hT (by decide)) ?_
    case d => k_room
    case u => k_units
    case hR => exact all_off lL
    case hT => exact ⟨_, _, _, List.mem_cons_self, List.mem_cons_of_mem _ List.mem_cons_self⟩
    intro a1 dx1 es1 n1 ch1 at1 ns1 k1 tr1 h' tk' F' N' hFl1 hfr1 hlt1
    refine grow_root N' hFl1 hfr1 kept7_sub (kept7_ns (by assumption) hTab1 hfl1) fun RA hA1 hA2 hA3 hXA hNA1 NA => ?_
    clear N' F6 N6 hfr1
    repeat (rename _ < _ ∧ _ => zz; clear zz)
    have mA1 := hXA _ (.head _)
    have mA2 := hXA _ (.tail _ (.head _))
    have mA3 := hXA _ (.tail _ (.tail _ (.head _)))
    (repeat' (first | ((with_reducible show wpAny _ _ (callWith _ (Value.ref _) _ (backTo _ (starEach [] _)) []) _ _ _); k_dflt (refine' callWith_mine0 ?zkF ?zkX ?zkk ?_; (case zkF => with_reducible assumption); (case zkX => with_reducible assumption); (case zkk => with_unfolding_all exact rfl)); (try dsimp only [List.nil_append, List.cons_append, List.append_nil])) | ((with_reducible show wpAny _ _ (call (Value.ref 218) _) _ _ _); refine stop_at ?_) | ((with_reducible show wpAny _ _ (call (Value.ref 211) _) _ _ _); refine stop_at ?_) | ((with_reducible show wpAny _ _ (call (Value.ref 176) _) _ _ _); refine stop_at ?_) | ((with_reducible show wpAny _ _ (call (Value.ref 162) _) _ _ _); refine stop_at ?_) | ((with_reducible show wpAny _ _ (call (Value.ref 344) _) _ _ _); refine stop_at ?_) | ((with_reducible show wpAny _ _ (call (Value.ref 380) _) _ _ _); refine stop_at ?_) | ((with_reducible show wpAny _ _ (call (Value.ref 366) _) _ _ _); refine stop_at ?_) | ((with_reducible show wpAny _ _ (callWith _ (Value.ref _) _ (backTo _ (starEach (_ :: _) _)) []) _ _ _); k_dflt (refine' callWith_mine ?zkX ?zkk ?_ ?zhe ?zhp; (case zhe => exact rfl); (case zhp => exact rfl); (case zkX => with_reducible assumption); (case zkk => with_unfolding_all exact rfl))) | (k_unfold; (try dsimp only)) | walk1 | (dsimp only; walk1) | (leave1; (try dsimp only))))
    refine go_on ?_
    rename Fr _ _ _ _ => F6
    rename News _ _ _ _ => N6
    refine' Tell.useUnder (room := 6) B5 F6 X5 N6 T5 rfl ?d ?u (addElementU_tell RA hA1 hA2 hA3 ⟨_, _, _, mA1, mA2⟩ (Nat.le_of_ble_eq_true rfl) (Nat.le_of_ble_eq_true rfl) (Int.natCast_nonneg _) rfl hNA1 rfl rfl) ?_
    case d => k_room
    case u => k_units
    intro a2 dx2 es2 n2 ch2 at2 ns2 k2 kb2 tr2 tr3 h' tk' F' N' hFl2 hfr2 hlt2
    refine grow_elem N' hFl2 hfr2 hlt2.2.2.2 hXA (kept7_ns (by assumption) hTab1 hfl1) hNA1 fun RB hB1 hB2 hB3 hXB hNB1 hNB2 hBns hBne NB => ?_
    clear N' F6 N6 hfr2 mA1 mA2 mA3 hXA hA1 hA2 hNA1
    have mB1 := hXB _ (.head _)
    have mB2 := hXB _ (.tail _ (.head _))
    have mB3 := hXB _ (.tail _ (.tail _ (.head _)))
    (repeat' (first | ((with_reducible show wpAny _ _ (callWith _ (Value.ref _) _ (backTo _ (starEach [] _)) []) _ _ _); k_dflt (refine' callWith_mine0 ?zkF ?zkX ?zkk ?_; (case zkF => with_reducible assumption); (case zkX => with_reducible assumption); (case zkk => with_unfolding_all exact rfl)); (try dsimp only [List.nil_append, List.cons_append, List.append_nil])) | ((with_reducible show wpAny _ _ (call (Value.ref 218) _) _ _ _); refine stop_at ?_) | ((with_reducible show wpAny _ _ (call (Value.ref 211) _) _ _ _); refine stop_at ?_) | ((with_reducible show wpAny _ _ (call (Value.ref 176) _) _ _ _); refine stop_at ?_) | ((with_reducible show wpAny _ _ (call (Value.ref 162) _) _ _ _); refine stop_at ?_) | ((with_reducible show wpAny _ _ (call (Value.ref 344) _) _ _ _); refine stop_at ?_) | ((with_reducible show wpAny _ _ (call (Value.ref 380) _) _ _ _); refine stop_at ?_) | ((with_reducible show wpAny _ _ (call (Value.ref 366) _) _ _ _); refine stop_at ?_) | ((with_reducible show wpAny _ _ (callWith _ (Value.ref _) _ (backTo _ (starEach (_ :: _) _)) []) _ _ _); k_dflt (refine' callWith_mine ?zkX ?zkk ?_ ?zhe ?zhp; (case zhe => exact rfl); (case zhp => exact rfl); (case zkX => with_reducible assumption); (case zkk => with_unfolding_all exact rfl))) | (k_unfold; (try dsimp only)) | walk1 | (dsimp only; walk1) | (leave1; (try dsimp only))))
    refine go_on ?_
    rename Fr _ _ _ _ => F6
    rename News _ _ _ _ => N6
    refine' Tell.useAttr (room := 4) B5 F6 X5 N6 T5 rfl ?d ?u (setAttr_tell RB hB1 hB2 hB3 ⟨_, _, _, mB1, mB2⟩ (Nat.le_of_ble_eq_true rfl) (Nat.le_of_ble_eq_true rfl) (Int.natCast_nonneg _) rfl hNB2 rfl rfl attrs_nil) ?_
    case d => k_room
    case u => k_units
    intro a3 dx3 es3 n3 ch3 at3 ns3 k3 kb3 tr4 tr5 h' tk' F' N' hFl3 hfr3
    refine grow_attr N' hFl3 hXB (kept7_ns (by assumption) hTab1 hfl1) hNB1 hNB2 hBns fun RC hC1 hC2 hXC hNC1 hNC2 hNC3 NC => ?_
    clear N' F6 N6 hfr3 mB1 mB2 mB3 hXB hB1 hB2 hNB1 hNB2 hBns
    have mC1 := hXC _ (.head _)
    have mC2 := hXC _ (.tail _ (.head _))
    have mC3 := hXC _ (.tail _ (.tail _ (.head _)))
    (repeat' (first | ((with_reducible show wpAny _ _ (callWith _ (Value.ref _) _ (backTo _ (starEach [] _)) []) _ _ _); k_dflt (refine' callWith_mine0 ?zkF ?zkX ?zkk ?_; (case zkF => with_reducible assumption); (case zkX => with_reducible assumption); (case zkk => with_unfolding_all exact rfl)); (try dsimp only [List.nil_append, List.cons_append, List.append_nil])) | ((with_reducible show wpAny _ _ (call (Value.ref 218) _) _ _ _); refine stop_at ?_) | ((with_reducible show wpAny _ _ (call (Value.ref 211) _) _ _ _); refine stop_at ?_) | ((with_reducible show wpAny _ _ (call (Value.ref 176) _) _ _ _); refine stop_at ?_) | ((with_reducible show wpAny _ _ (call (Value.ref 162) _) _ _ _); refine stop_at ?_) | ((with_reducible show wpAny _ _ (call (Value.ref 344) _) _ _ _); refine stop_at ?_) | ((with_reducible show wpAny _ _ (call (Value.ref 380) _) _ _ _); refine stop_at ?_) | ((with_reducible show wpAny _ _ (call (Value.ref 366) _) _ _ _); refine stop_at ?_) | ((with_reducible show wpAny _ _ (callWith _ (Value.ref _) _ (backTo _ (starEach (_ :: _) _)) []) _ _ _); k_dflt (refine' callWith_mine ?zkX ?zkk ?_ ?zhe ?zhp; (case zhe => exact rfl); (case zhp => exact rfl); (case zkX => with_reducible assumption); (case zkk => with_unfolding_all exact rfl))) | (k_unfold; (try dsimp only)) | walk1 | (dsimp only; walk1) | (leave1; (try dsimp only))))
    refine go_on ?_
    rename Fr _ _ _ _ => F6
    rename News _ _ _ _ => N6
    refine' Tell.useUnder (room := 4) B5 F6 X5 N6 T5 rfl ?d ?u (addNs_tell RC hC1 hC2 hBne ⟨_, _, _, mC1, mC2⟩ (Nat.le_of_ble_eq_true rfl) (Int.natCast_nonneg _) rfl hNC2 rfl rfl) ?_
    case d => k_room
    case u => k_units
    intro a4 dx4 es4 n4 ch4 at4 ns4 k4 kb4 tr6 tr7 h' tk' F' N' hFl4 hfr4 hlt4
    refine grow_ns N' hFl4 hXC hNC1 hNC2 hNC3 fun RD hDl hXD hND1 hND2 hND3 hND4 ND => ?_
    clear N' F6 N6 hfr4 mC1 mC2 mC3 hXC hC1 hC2 hNC1 hNC2 hNC3
    have mD1 := hXD _ (.head _)
    have mD2 := hXD _ (.tail _ (.head _))
    have mD3 := hXD _ (.tail _ (.tail _ (.head _)))
    (repeat' (first | ((with_reducible show wpAny _ _ (callWith _ (Value.ref _) _ (backTo _ (starEach [] _)) []) _ _ _); k_dflt (refine' callWith_mine0 ?zkF ?zkX ?zkk ?_; (case zkF => with_reducible assumption); (case zkX => with_reducible assumption); (case zkk => with_unfolding_all exact rfl)); (try dsimp only [List.nil_append, List.cons_append, List.append_nil])) | ((with_reducible show wpAny _ _ (call (Value.ref 218) _) _ _ _); refine stop_at ?_) | ((with_reducible show wpAny _ _ (call (Value.ref 211) _) _ _ _); refine stop_at ?_) | ((with_reducible show wpAny _ _ (call (Value.ref 176) _) _ _ _); refine stop_at ?_) | ((with_reducible show wpAny _ _ (call (Value.ref 162) _) _ _ _); refine stop_at ?_) | ((with_reducible show wpAny _ _ (call (Value.ref 344) _) _ _ _); refine stop_at ?_) | ((with_reducible show wpAny _ _ (call (Value.ref 380) _) _ _ _); refine stop_at ?_) | ((with_reducible show wpAny _ _ (call (Value.ref 366) _) _ _ _); refine stop_at ?_) | ((with_reducible show wpAny _ _ (callWith _ (Value.ref _) _ (backTo _ (starEach (_ :: _) _)) []) _ _ _); k_dflt (refine' callWith_mine ?zkX ?zkk ?_ ?zhe ?zhp; (case zhe => exact rfl); (case zhp => exact rfl); (case zkX => with_reducible assumption); (case zkk => with_unfolding_all exact rfl))) | (k_unfold; (try dsimp only)) | walk1 | (dsimp only; walk1) | (leave1; (try dsimp only))))
    refine go_on ?_
    rename Fr _ _ _ _ => F6
    rename News _ _ _ _ => N6
    refine last_start N6 hDl hXD (by assumption) hne2 hND1 hND2 hND3 hND4 fun T0 hT82 hol hrl hx1 hx2 hx3 hx5 hxT hN1 hN2 hN3 hN4 NE => ?_
    clear N6 hDl hXD hND1 hND2 hND3 hND4 mD1 mD2 mD3
    repeat (rename ∀ p ∈ RD, _ => zz; clear zz)
    have len0 : (Str.ofString "").length ≤ 1000 := by decide +kernel
    have len1 : (Str.ofString "e").length ≤ 1000 := by decide +kernel
    have len2 : (Str.ofString "k").length ≤ 1000 := by decide +kernel
    have len3 : (Str.ofString "v").length ≤ 1000 := by decide +kernel
    have len4 : (Str.ofString "p").length ≤ 1000 := by decide +kernel
    have len5 : (Str.ofString "u").length ≤ 1000 := by decide +kernel
    have hOth : OthersAre T0 [Value.ref a1, Value.ref a2, Value.ref a3, Value.ref a4] [Value.int (([] : List Value).length : Int) tr1, Value.int (([Value.ref a1] : List Value).length : Int) tr3, Value.int (([Value.ref a1, Value.ref a2] : List Value).length : Int) tr5, Value.int (([Value.ref a1, Value.ref a2, Value.ref a3] : List Value).length : Int) tr7] :=
      OthersAre.cons hN1 (Int.natCast_nonneg _) rfl (no_leaf (by decide +kernel)) len0 len0 (OthersAre.cons hN2 (Int.natCast_nonneg _) rfl (no_leaf (by decide +kernel)) len0 len1 (OthersAre.cons hN3 (Int.natCast_nonneg _) rfl (no_leaf (by decide +kernel)) len3 len2 (OthersAre.cons hN4 (Int.natCast_nonneg _) rfl (no_leaf (by decide +kernel)) len5 len4 OthersAre.nil)))
    have hEl := down B0 B5 F6 NE FT5 hb0 hlt0
    first | (refine el_0_5 hEl fun fo2 hFO2 Fb Nb hoff2 => ?_) | (refine el_1_4 hEl fun fo2 hFO2 Fb Nb hoff2 => ?_) | (refine el_2_3 hEl fun fo2 hFO2 Fb Nb hoff2 => ?_) | (refine el_3_2 hEl fun fo2 hFO2 Fb Nb hoff2 => ?_) | (refine el_4_1 hEl fun fo2 hFO2 Fb Nb hoff2 => ?_) | obtain ⟨fo2, hFO2, Fb, Nb, hoff2⟩ := hEl
    try clear hEl
    clear NE
    refine' ListComp_cell (h₀ := base) Fb ?c1 ?c2 ?c3 ?c4 ?c5 ?c6 ?_
    case c1 => with_unfolding_all exact rfl
    case c2 => rfl
    case c3 => decide
    case c4 => exact fun n => rfl
    case c5 => exact fun h => rfl
    case c6 => rfl
    (repeat' (first | ((with_reducible show wpAny _ _ (callWith _ (Value.ref _) _ (backTo _ (starEach [] _)) []) _ _ _); k_dflt (refine' callWith_mine0 ?zkF ?zkX ?zkk ?_; (case zkF => with_reducible assumption); (case zkX => with_reducible assumption); (case zkk => with_unfolding_all exact rfl)); (try dsimp only [List.nil_append, List.cons_append, List.append_nil])) | ((with_reducible show wpAny _ _ (call (Value.ref 218) _) _ _ _); refine stop_at ?_) | ((with_reducible show wpAny _ _ (call (Value.ref 211) _) _ _ _); refine stop_at ?_) | ((with_reducible show wpAny _ _ (call (Value.ref 176) _) _ _ _); refine stop_at ?_) | ((with_reducible show wpAny _ _ (call (Value.ref 162) _) _ _ _); refine stop_at ?_) | ((with_reducible show wpAny _ _ (call (Value.ref 344) _) _ _ _); refine stop_at ?_) | ((with_reducible show wpAny _ _ (call (Value.ref 380) _) _ _ _); refine stop_at ?_) | ((with_reducible show wpAny _ _ (call (Value.ref 366) _) _ _ _); refine stop_at ?_) | ((with_reducible show wpAny _ _ (callWith _ (Value.ref _) _ (backTo _ (starEach (_ :: _) _)) []) _ _ _); k_dflt (refine' callWith_mine ?zkX ?zkk ?_ ?zhe ?zhp; (case zhe => exact rfl); (case zhp => exact rfl); (case zkX => with_reducible assumption); (case zkk => with_unfolding_all exact rfl))) | (k_unfold; (try dsimp only)) | walk1 | (dsimp only; walk1) | (leave1; (try dsimp only))))
    refine go_on (cellSrc_leav2 (ln := 243) (col := 50) hFO2 Fb Nb hT82 hoff2 hol (by rfl) (by rw [PySem.sizeLine_eq]; exact Nat.le_of_ble_eq_true rfl) ?_ ?_)
    · intro i v nw I oI C oC c o9 D9 m₂ h tk E' hv hJ hC hd9 F N ar
      first | (refine el_0_9 hJ fun fo o2 T hrf3 hFO hTab hTT hsub hoffT => ?_; subst hrf3) | (refine el_1_8 hJ fun fo o2 T hrf3 hFO hTab hTT hsub hoffT => ?_; subst hrf3) | (refine el_2_7 hJ fun fo o2 T hrf3 hFO hTab hTT hsub hoffT => ?_; subst hrf3) | (refine el_3_6 hJ fun fo o2 T hrf3 hFO hTab hTT hsub hoffT => ?_; subst hrf3) | (refine el_4_5 hJ fun fo o2 T hrf3 hFO hTab hTT hsub hoffT => ?_; subst hrf3) | (refine el_5_4 hJ fun fo o2 T hrf3 hFO hTab hTT hsub hoffT => ?_; subst hrf3) | (refine el_6_3 hJ fun fo o2 T hrf3 hFO hTab hTT hsub hoffT => ?_; subst hrf3) | (refine el_7_2 hJ fun fo o2 T hrf3 hFO hTab hTT hsub hoffT => ?_; subst hrf3) | (refine el_8_1 hJ fun fo o2 T hrf3 hFO hTab hTT hsub hoffT => ?_; subst hrf3) | obtain ⟨fo, o2, T, rfl, hFO, hTab, hTT, hsub, hoffT⟩ := hJ
      try clear hJ
      have ar1 := ar.1
      have nfs : ∀ {b : Addr}, (∀ p ∈ fo, p.1 ≠ b) → b ∉ fsOf (envX cn _ L a ccd cl :: outer) := fun h hm => by
        obtain ⟨o', ho'⟩ := hFO.mem hm
        exact h _ ho' rfl
      have hEl := up (nw := (382, o2) :: (I, oI) :: (C, oC) :: (c, o9) :: (D9, LCg.lst []) :: T) B0 hFO F N (fun p hp => .tail _ (.tail _ (.tail _ (.tail _ (List.mem_append_left _ hp))))) (fun p hp => turn2_sub hp) (turn2_off (nfs fun p hp => (ar1 p (List.mem_append_left _ hp)).1) (nfs fun p hp => (ar1 p (List.mem_append_left _ hp)).2.1) (nfs fun p hp => (ar1 p (List.mem_append_left _ hp)).2.2.1) (nfs fun p hp => (ar1 p (List.mem_append_left _ hp)).2.2.2) hoffT) hlt0
      first | (refine el_0_5 hEl fun g6 B6 F6 N6 FT6 => ?_) | (refine el_1_4 hEl fun g6 B6 F6 N6 FT6 => ?_) | (refine el_2_3 hEl fun g6 B6 F6 N6 FT6 => ?_) | (refine el_3_2 hEl fun g6 B6 F6 N6 FT6 => ?_) | (refine el_4_1 hEl fun g6 B6 F6 N6 FT6 => ?_) | obtain ⟨g6, B6, F6, N6, FT6⟩ := hEl
      try clear hEl
      have U6 := U.keeps B6.stays
      have X6 := U6.X
      have T6 := U6.T
      have C6 := U6.c2
      have hEl := hOth v (mem_of_arr hv)
      first | (refine el_0_11 hEl fun j tj aj dj hrf4 hj0 hjr hNj hlf hlv2 hln2 => ?_; subst hrf4) | (refine el_1_10 hEl fun j tj aj dj hrf4 hj0 hjr hNj hlf hlv2 hln2 => ?_; subst hrf4) | (refine el_2_9 hEl fun j tj aj dj hrf4 hj0 hjr hNj hlf hlv2 hln2 => ?_; subst hrf4) | (refine el_3_8 hEl fun j tj aj dj hrf4 hj0 hjr hNj hlf hlv2 hln2 => ?_; subst hrf4) | (refine el_4_7 hEl fun j tj aj dj hrf4 hj0 hjr hNj hlf hlv2 hln2 => ?_; subst hrf4) | (refine el_5_6 hEl fun j tj aj dj hrf4 hj0 hjr hNj hlf hlv2 hln2 => ?_; subst hrf4) | (refine el_6_5 hEl fun j tj aj dj hrf4 hj0 hjr hNj hlf hlv2 hln2 => ?_; subst hrf4) | (refine el_7_4 hEl fun j tj aj dj hrf4 hj0 hjr hNj hlf hlv2 hln2 => ?_; subst hrf4) | (refine el_8_3 hEl fun j tj aj dj hrf4 hj0 hjr hNj hlf hlv2 hln2 => ?_; subst hrf4) | (refine el_9_2 hEl fun j tj aj dj hrf4 hj0 hjr hNj hlf hlv2 hln2 => ?_; subst hrf4) | (refine el_10_1 hEl fun j tj aj dj hrf4 hj0 hjr hNj hlf hlv2 hln2 => ?_; subst hrf4) | obtain ⟨j, tj, aj, dj, rfl, hj0, hjr, hNj, hlf, hlv2, hln2⟩ := hEl
      try clear hEl
      clear F N Fb Nb
      (try k_fold)
      (repeat' (first | ((with_reducible show wpAny _ _ (callWith _ (Value.ref _) _ (backTo _ (starEach [] _)) []) _ _ _); k_dflt (refine' callWith_mine0 ?zkF ?zkX ?zkk ?_; (case zkF => with_reducible assumption); (case zkX => with_reducible assumption); (case zkk => with_unfolding_all exact rfl)); (try dsimp only [List.nil_append, List.cons_append, List.append_nil])) | ((with_reducible show wpAny _ _ (call (Value.ref 218) _) _ _ _); refine stop_at ?_) | ((with_reducible show wpAny _ _ (call (Value.ref 211) _) _ _ _); refine stop_at ?_) | ((with_reducible show wpAny _ _ (call (Value.ref 176) _) _ _ _); refine stop_at ?_) | ((with_reducible show wpAny _ _ (call (Value.ref 162) _) _ _ _); refine stop_at ?_) | ((with_reducible show wpAny _ _ (call (Value.ref 344) _) _ _ _); refine stop_at ?_) | ((with_reducible show wpAny _ _ (call (Value.ref 380) _) _ _ _); refine stop_at ?_) | ((with_reducible show wpAny _ _ (call (Value.ref 366) _) _ _ _); refine stop_at ?_) | ((with_reducible show wpAny _ _ (callWith _ (Value.ref _) _ (backTo _ (starEach (_ :: _) _)) []) _ _ _); k_dflt (refine' callWith_mine ?zkX ?zkk ?_ ?zhe ?zhp; (case zhe => exact rfl); (case zhp => exact rfl); (case zkX => with_reducible assumption); (case zkk => with_unfolding_all exact rfl))) | (k_unfold; (try dsimp only)) | walk1 | (dsimp only; walk1) | (leave1; (try dsimp only))))
      refine go_on ?_
      rename Fr _ _ _ _ => F7
      rename News _ _ _ _ => N7
      refine kla_eval rfl ?_
      refine lam2_make (cs2 := lamScope) rfl rfl rfl rfl rfl F7 N7 T6 C6 (hTab.mono fun p hp => .tail _ (.tail _ (.tail _ (.tail _ hp)))) (around_off ar hTT) (by with_unfolding_all rfl) fun f c' oc R' pm ctv h' tk' F8 N8 hM hnf => ?_
      clear F7 N7
      (repeat' (first | ((with_reducible show wpAny _ _ (callWith _ (Value.ref _) _ (backTo _ (starEach [] _)) []) _ _ _); k_dflt (refine' callWith_mine0 ?zkF ?zkX ?zkk ?_; (case zkF => with_reducible assumption); (case zkX => with_reducible assumption); (case zkk => with_unfolding_all exact rfl)); (try dsimp only [List.nil_append, List.cons_append, List.append_nil])) | ((with_reducible show wpAny _ _ (call (Value.ref 218) _) _ _ _); refine stop_at ?_) | ((with_reducible show wpAny _ _ (call (Value.ref 211) _) _ _ _); refine stop_at ?_) | ((with_reducible show wpAny _ _ (call (Value.ref 176) _) _ _ _); refine stop_at ?_) | ((with_reducible show wpAny _ _ (call (Value.ref 162) _) _ _ _); refine stop_at ?_) | ((with_reducible show wpAny _ _ (call (Value.ref 344) _) _ _ _); refine stop_at ?_) | ((with_reducible show wpAny _ _ (call (Value.ref 380) _) _ _ _); refine stop_at ?_) | ((with_reducible show wpAny _ _ (call (Value.ref 366) _) _ _ _); refine stop_at ?_) | ((with_reducible show wpAny _ _ (callWith _ (Value.ref _) _ (backTo _ (starEach (_ :: _) _)) []) _ _ _); k_dflt (refine' callWith_mine ?zkX ?zkk ?_ ?zhe ?zhp; (case zhe => exact rfl); (case zhp => exact rfl); (case zkX => with_reducible assumption); (case zkk => with_unfolding_all exact rfl))) | (k_unfold; (try dsimp only)) | walk1 | (dsimp only; walk1) | (leave1; (try dsimp only))))
      refine go_on ?_
      rename Fr _ _ _ _ => F9
      rename News _ _ _ _ => N9
      refine' TellB.use (room := 10) B6 F9 U N9 hb0 hlt0 rfl ?d ?u (heard_tell (o := leafOf dj) List.mem_cons_self ?C) ?_
      case d => k_room
      case u => k_units
      case C =>
        obtain ⟨hc', ⟨vs, tq, q1, q2⟩, hR', -⟩ := hM
        have hs : ∀ p ∈ T0, p ∈ R' := fun p hp => hR' _ (.tail _ (.tail _ (.tail _ (.tail _ (hsub _ hp)))))
        exact lam_tell (a9 := aj) (rows := [Value.ref a1, Value.ref a2, Value.ref a3, Value.ref a4]) (k := k4) (d := dj) _ List.mem_cons_self (by with_unfolding_all rfl) (by with_unfolding_all rfl) (.tail _ hc') q1 q2 (.tail _ (hR' _ (.tail _ (.tail _ (.head _))))) hd9 (.tail _ (hs _ hx3)) (by assumption) ⟨_, _, _, .tail _ (hs _ hx1), .tail _ (hs _ hx2)⟩ (.tail _ (hs _ hrl)) hj0 (Nat.le_of_ble_eq_true rfl) hjr (hNj.mono fun p hp => .tail _ (hs _ hp)) hlv2 hln2
      intro r' nw' h' tk' h₁ B1 F1 N1 U1 FT1 hP'
      rw [hlf] at hP'
      first | (refine el_0_5 hP' fun T9 t9 hrf2 hlT hrf4 => ?_; subst hrf2; subst hrf4) | (refine el_1_4 hP' fun T9 t9 hrf2 hlT hrf4 => ?_; subst hrf2; subst hrf4) | (refine el_2_3 hP' fun T9 t9 hrf2 hlT hrf4 => ?_; subst hrf2; subst hrf4) | (refine el_3_2 hP' fun T9 t9 hrf2 hlT hrf4 => ?_; subst hrf2; subst hrf4) | (refine el_4_1 hP' fun T9 t9 hrf2 hlT hrf4 => ?_; subst hrf2; subst hrf4) | obtain ⟨T9, t9, rfl, hlT, rfl⟩ := hP'
      try clear hP'
      have X1 := U1.X
      have T1h := U1.T
      unfold tupR at N1
      clear F9 N9
      (repeat' (first | ((with_reducible show wpAny _ _ (callWith _ (Value.ref _) _ (backTo _ (starEach [] _)) []) _ _ _); k_dflt (refine' callWith_mine0 ?zkF ?zkX ?zkk ?_; (case zkF => with_reducible assumption); (case zkX => with_reducible assumption); (case zkk => with_unfolding_all exact rfl)); (try dsimp only [List.nil_append, List.cons_append, List.append_nil])) | ((with_reducible show wpAny _ _ (call (Value.ref 218) _) _ _ _); refine stop_at ?_) | ((with_reducible show wpAny _ _ (call (Value.ref 211) _) _ _ _); refine stop_at ?_) | ((with_reducible show wpAny _ _ (call (Value.ref 176) _) _ _ _); refine stop_at ?_) | ((with_reducible show wpAny _ _ (call (Value.ref 162) _) _ _ _); refine stop_at ?_) | ((with_reducible show wpAny _ _ (call (Value.ref 344) _) _ _ _); refine stop_at ?_) | ((with_reducible show wpAny _ _ (call (Value.ref 380) _) _ _ _); refine stop_at ?_) | ((with_reducible show wpAny _ _ (call (Value.ref 366) _) _ _ _); refine stop_at ?_) | ((with_reducible show wpAny _ _ (callWith _ (Value.ref _) _ (backTo _ (starEach (_ :: _) _)) []) _ _ _); k_dflt (refine' callWith_mine ?zkX ?zkk ?_ ?zhe ?zhp; (case zhe => exact rfl); (case zhp => exact rfl); (case zkX => with_reducible assumption); (case zkk => with_unfolding_all exact rfl))) | (k_unfold; (try dsimp only)) | walk1 | (dsimp only; walk1) | (leave1; (try dsimp only))))
      refine go_on ?_
      rename Fr _ _ _ _ => F10
      rename News _ _ _ _ => N10
      have hEl := down B0 B1 F10 N10 (FT6.trans FT1) hb0 hlt0
      first | (refine el_0_5 hEl fun fo' hFO' Fb' Nb' hoff' => ?_) | (refine el_1_4 hEl fun fo' hFO' Fb' Nb' hoff' => ?_) | (refine el_2_3 hEl fun fo' hFO' Fb' Nb' hoff' => ?_) | (refine el_3_2 hEl fun fo' hFO' Fb' Nb' hoff' => ?_) | (refine el_4_1 hEl fun fo' hFO' Fb' Nb' hoff' => ?_) | obtain ⟨fo', hFO', Fb', Nb', hoff'⟩ := hEl
      try clear hEl
      have hEl := leav2_end hFO hFO' hoff' ar hTab hTT hsub (made_end hM (fun p hp => .tail _ (.tail _ (.tail _ hp))))
      first | (refine el_0_4 hEl fun nw2 hL2 ar2 hsub2 => ?_) | (refine el_1_3 hEl fun nw2 hL2 ar2 hsub2 => ?_) | (refine el_2_2 hEl fun nw2 hL2 ar2 hsub2 => ?_) | (refine el_3_1 hEl fun nw2 hL2 ar2 hsub2 => ?_) | obtain ⟨nw2, hL2, ar2, hsub2⟩ := hEl
      try clear hEl
      exact CellEnd.intro Fb' Nb' hsub2 ar2 hL2
    · intro nw D9 h tk hJ F N ho9
      first | (refine el_0_9 hJ fun fo o2 T hrf3 hFO hTab hTT hsub hoffT => ?_; subst hrf3) | (refine el_1_8 hJ fun fo o2 T hrf3 hFO hTab hTT hsub hoffT => ?_; subst hrf3) | (refine el_2_7 hJ fun fo o2 T hrf3 hFO hTab hTT hsub hoffT => ?_; subst hrf3) | (refine el_3_6 hJ fun fo o2 T hrf3 hFO hTab hTT hsub hoffT => ?_; subst hrf3) | (refine el_4_5 hJ fun fo o2 T hrf3 hFO hTab hTT hsub hoffT => ?_; subst hrf3) | (refine el_5_4 hJ fun fo o2 T hrf3 hFO hTab hTT hsub hoffT => ?_; subst hrf3) | (refine el_6_3 hJ fun fo o2 T hrf3 hFO hTab hTT hsub hoffT => ?_; subst hrf3) | (refine el_7_2 hJ fun fo o2 T hrf3 hFO hTab hTT hsub hoffT => ?_; subst hrf3) | (refine el_8_1 hJ fun fo o2 T hrf3 hFO hTab hTT hsub hoffT => ?_; subst hrf3) | obtain ⟨fo, o2, T, rfl, hFO, hTab, hTT, hsub, hoffT⟩ := hJ
      try clear hJ
      have nfs : ∀ {b : Addr}, (∀ p ∈ fo, p.1 ≠ b) → b ∉ fsOf (envX cn _ L a ccd cl :: outer) := fun h hm => by
        obtain ⟨o', ho'⟩ := hFO.mem hm
        exact h _ ho' rfl
      have hEl := up (nw := (D9, LCg.lst []) :: (375, o) :: (382, o2) :: T1) B0 hFO F N (fun p hp => .tail _ (List.mem_append_left _ hp)) (last_sub hsub hx5 hxT) (last_off (nfs fun p hp => ho9 p (List.mem_append_left _ hp)) hoffT hsub hx5 hxT) hlt0
      first | (refine el_0_5 hEl fun g6 B6 F6 N6 FT6 => ?_) | (refine el_1_4 hEl fun g6 B6 F6 N6 FT6 => ?_) | (refine el_2_3 hEl fun g6 B6 F6 N6 FT6 => ?_) | (refine el_3_2 hEl fun g6 B6 F6 N6 FT6 => ?_) | (refine el_4_1 hEl fun g6 B6 F6 N6 FT6 => ?_) | obtain ⟨g6, B6, F6, N6, FT6⟩ := hEl
      try clear hEl
      have U6 := U.keeps B6.stays
      have X6 := U6.X
      have T6 := U6.T
      clear F N Fb Nb
      (try k_fold)
      (repeat' (first | ((with_reducible show wpAny _ _ (callWith _ (Value.ref _) _ (backTo _ (starEach [] _)) []) _ _ _); k_dflt (refine' callWith_mine0 ?zkF ?zkX ?zkk ?_; (case zkF => with_reducible assumption); (case zkX => with_reducible assumption); (case zkk => with_unfolding_all exact rfl)); (try dsimp only [List.nil_append, List.cons_append, List.append_nil])) | ((with_reducible show wpAny _ _ (call (Value.ref 218) _) _ _ _); refine stop_at ?_) | ((with_reducible show wpAny _ _ (call (Value.ref 211) _) _ _ _); refine stop_at ?_) | ((with_reducible show wpAny _ _ (call (Value.ref 176) _) _ _ _); refine stop_at ?_) | ((with_reducible show wpAny _ _ (call (Value.ref 162) _) _ _ _); refine stop_at ?_) | ((with_reducible show wpAny _ _ (call (Value.ref 344) _) _ _ _); refine stop_at ?_) | ((with_reducible show wpAny _ _ (call (Value.ref 380) _) _ _ _); refine stop_at ?_) | ((with_reducible show wpAny _ _ (call (Value.ref 366) _) _ _ _); refine stop_at ?_) | ((with_reducible show wpAny _ _ (callWith _ (Value.ref _) _ (backTo _ (starEach (_ :: _) _)) []) _ _ _); k_dflt (refine' callWith_mine ?zkX ?zkk ?_ ?zhe ?zhp; (case zhe => exact rfl); (case zhp => exact rfl); (case zkX => with_reducible assumption); (case zkk => with_unfolding_all exact rfl))) | (k_unfold; (try dsimp only)) | walk1 | (dsimp only; walk1) | (leave1; (try dsimp only))))
      refine go_on ?_
      rename Fr _ _ _ _ => F7
      rename News _ _ _ _ => N7
      exact leaveB_ F7 (news_sub N7 (fun p hp => .tail _ (.tail _ hp))) B6.stays FT6 fun h₁ B2 F3 N3 T3 => ret _ _ _ _ _ B2 F3 N3 (U.keeps B2.stays) T3 ⟨rfl, o, o2, T1, rfl, hTab.o, hTab1, hne3⟩
end

theorem reset_L1 (h : PySem.Heap) : PySem.W.GrownAll [] h := by
  w_top off
  walk1
section
open PySem PySem.W PyProof.Rows
set_option Elab.async false
set_option maxRecDepth 100000
section
variable {prog : Program} {w : World} {A : Around} {E : Value → Shared → Prop} {s : Shared} {env : Env} {h₀ : Heap} {x : Str} {body : List Stmt} {Q : Flow → Shared → Prop}
/-- a loop over a range, by an invariant over the ledger -/
theorem rng_led {r : Addr} {n : Nat} {t₀ u₀ v₀ : Tok} {m₀ : Str → Option Value} {news : List (Addr × Obj)} (J : Nat → List (Addr × Obj) → Prop)
    (hh : A.handled = none) (hr : IsRange s.heap r 0 (n : Int) 1 t₀ u₀ v₀) (hsmall : Builtin.Range.small 0 (n : Int) 1 = true) (hsz : Builtin.Range.rangeSize 0 (n : Int) 1 = (n : Int)) (F : Fr h₀ env.locals s.heap m₀) (N : News h₀ env.locals s.heap news) (hj : J 0 news)
    (turn : ∀ (i : Nat) t (u : Str → Option Value) nx h tk own, i < n → OwnOff own (nx.map (·.1)) → J i nx → Fr h₀ env.locals h (fun y => if y = x then some (.int (i : Int) t) else if y = x then u y else m₀ y) → News h₀ env.locals h (nx ++ own) →
      wpAny (model prog w) A (execs body env) (InvPostG h₀ env.locals (fun m' nx => J (i + 1) nx ∧ ∀ z, z ≠ x → m' z = m₀ z) own { s with heap := h, toks := tk } Q) E { s with heap := h, toks := tk })
    (done : ∀ (u : Str → Option Value) nx h tk, J n nx → Fr h₀ env.locals h (fun y => if y = x then u y else m₀ y) → News h₀ env.locals h nx → Q .next { s with heap := h, toks := tk }) :
    wpAny (model prog w) A (pyIter (.ref r)) (fun it s₂ => LoopAtV prog w A h₀ env x body Q E it s₂) E s := by
  refine wpAny_pyIter_range hr hsmall ?_
  have W := LCg.range_walks (prog := prog) (w := w) (I := s.heap.objs.size) hh 0 n
  refine ⟨_, _, _, n, _, _, m₀, news, (fun i m nx => J i nx ∧ ∀ z, z ≠ x → m z = m₀ z), rfl, W, ?_, ?_, ?_, (by show IsRangeIter _ _ _ _ _; rw [hsz]; simpa using Heap.get?_push_size _ rfl), F.push _, (fun p hp => ⟨Heap.get?_push_of_some _ (N p hp).1, (N p hp).2⟩), ⟨hj, fun _ _ => rfl⟩, ?_, ?_⟩
  · intro hm
    exact absurd F.ns.lt ((List.mem_singleton.mp hm) ▸ Nat.lt_irrefl _)
  · intro b hb
    rw [List.mem_singleton.mp hb]
    exact next_is_new F
  · intro p hp hI
    exact absurd (Heap.lt_size (N p hp).1) ((List.mem_singleton.mp hI) ▸ Nat.lt_irrefl _)
  · rintro i v m₁ news₁ s₁ own ⟨hh', tk', rfl⟩ hin ⟨t, rfl⟩ ⟨hJ, hm₁⟩ hoff hown _ hfp hst F₁ N₁
    have hI0 : h₀.get? s.heap.objs.size = none := next_is_new F
    have hIown := hfp _ (List.mem_singleton.mpr rfl) hI0 _ hst
    have hsep : OwnOff own (news₁.map (·.1)) := by
      intro p hp b hb e
      obtain ⟨q, hq, rfl⟩ := List.mem_map.mp hb
      exact hoff q hq (List.mem_singleton.mpr (e ▸ List.mem_singleton.mp (hown p hp)))
    have N₂ : News h₀ env.locals hh' (news₁ ++ own) := fun p hp => N₁ p ((List.mem_append.mp hp).elim (fun h => List.mem_append.mpr (.inr h)) fun h => List.mem_append.mpr (.inl h))
    rw [Int.zero_add] at F₁
    have em : ∀ y, (fun y => if y = x then some (Value.int (i : Int) t) else m₁ y) y = (fun y => if y = x then some (Value.int (i : Int) t) else if y = x then m₁ y else m₀ y) y := by
      intro y
      dsimp only
      split
      · rfl
      · rename_i hy
        exact hm₁ y hy
    rw [funext em] at F₁
    refine wpAny_mono (turn i t m₁ news₁ hh' tk' own hin hsep hJ F₁ N₂) (fun f s₂ p => ?_) fun _ _ e => e
    have fin : InvEndG h₀ env.locals (fun m' nx => J (i + 1) nx ∧ ∀ z, z ≠ x → m' z = m₀ z) own { s with heap := hh', toks := tk' } s₂ → LoopStepU h₀ env.locals [s.heap.objs.size] own (fun m' nx => J (i + 1) nx ∧ ∀ z, z ≠ x → m' z = m₀ z) { s with heap := hh', toks := tk' } .next s₂ := by
      rintro ⟨h', tk, m', news', nx, e, F', N', hn, ho, ha, hm⟩
      refine ⟨rfl, h', tk, m', nx, e, F', fun p hp => N' p ((List.mem_append.mp hp).elim (ho p) (hn p)), fun p hp hq => ?_, hm⟩
      exact ha _ hIown p.1 (List.mem_map.mpr ⟨p, hp, rfl⟩) (List.mem_singleton.mp hq).symm
    cases f with
    | ret v => exact .ret p
    | brk => exact .brk p
    | next => exact .next (fin p)
    | cont => exact .cont (fin p)
  · rintro h' tk m' news' F' N' _ ⟨hJ, hm'⟩
    have em : ∀ y, m' y = (fun y => if y = x then m' y else m₀ y) y := by
      intro y
      dsimp only
      split
      · rfl
      · rename_i hy
        exact hm' y hy
    rw [funext em] at F'
    exact done m' news' h' tk hJ F' N'
end
end

theorem reset_L2 (h : PySem.Heap) : PySem.W.GrownAll [] h := by
  w_top off
  walk1
section
open PySem PySem.W PyProof.Rows
set_option Elab.async false
set_option maxRecDepth 100000
theorem rng_small {n : Nat} (h : n < 8) : Builtin.Range.small 0 (n : Int) 1 = true := by
  have : n = 0 ∨ n = 1 ∨ n = 2 ∨ n = 3 ∨ n = 4 ∨ n = 5 ∨ n = 6 ∨ n = 7 := by omega
  rcases this with rfl | rfl | rfl | rfl | rfl | rfl | rfl | rfl <;> decide
theorem rng_size {n : Nat} (h : n < 8) : Builtin.Range.rangeSize 0 (n : Int) 1 = (n : Int) := by
  have : n = 0 ∨ n = 1 ∨ n = 2 ∨ n = 3 ∨ n = 4 ∨ n = 5 ∨ n = 6 ∨ n = 7 := by omega
  rcases this with rfl | rfl | rfl | rfl | rfl | rfl | rfl | rfl <;> decide
/-- a list of pairs grows, the source turns -/
def LJ (src pl : Addr) (R0 : List (Addr × Obj)) (G : Nat → Str × Str → Prop) (i : Nat) (nx : List (Addr × Obj)) : Prop := ∃ o ys k R ps, nx = (src, o) :: (pl, listOf ys.toArray k) :: R ∧ IsSrc o ∧ ys.length = i ∧ PairsAre R ys ps ∧ (∀ j p, ps[j]? = some p → G j p) ∧
  (∀ p ∈ R, p.1 ≠ src) ∧ (∀ p ∈ R, p.1 ≠ pl) ∧ (@Ne Nat pl src) ∧ ∀ p ∈ R0, p ∈ R
theorem LJ.start {src pl : Addr} {R0 : List (Addr × Obj)} {G : Nat → Str × Str → Prop} {o : Obj} {k : Nat} (ho : IsSrc o) (h1 : ∀ p ∈ R0, p.1 ≠ src) (h2 : ∀ p ∈ R0, p.1 ≠ pl) (h3 : @Ne Nat pl src) : LJ src pl R0 G 0 ((src, o) :: (pl, listOf #[] k) :: R0) :=
  ⟨o, [], k, R0, [], rfl, ho, rfl, PairsAre.nil, fun _ _ h => by simp at h, h1, h2, h3, fun _ h => h⟩
/-- what is the loop's own joins the rest -/
theorem LJ.open {P : Prop} {h₀ h : Heap} {L src pl : Addr} {R own : List (Addr × Obj)} {o ol : Obj} (N : News h₀ L h (((src, o) :: (pl, ol) :: R) ++ own)) (h1 : ∀ p ∈ R, p.1 ≠ src) (h2 : ∀ p ∈ R, p.1 ≠ pl) (ho : OwnOff own (((src, o) :: (pl, ol) :: R).map (·.1)))
    (go : ∀ Rx, Rx = R ++ own → (∀ p ∈ Rx, p.1 ≠ src) → (∀ p ∈ Rx, p.1 ≠ pl) → News h₀ L h ((src, o) :: (pl, ol) :: Rx) → P) : P := by
  refine go (R ++ own) rfl (fun p hp => ?_) (fun p hp => ?_) N
  · rcases List.mem_append.mp hp with hp | hp
    · exact h1 p hp
    · exact ho p hp _ (by simp)
  · rcases List.mem_append.mp hp with hp | hp
    · exact h2 p hp
    · exact ho p hp _ (by simp)
/-- a turn ends -/
theorem LJ.next {src pl T l9 : Addr} {R R0 own : List (Addr × Obj)} {G : Nat → Str × Str → Prop} {o o' oT o9 : Obj} {ys : List Value} {ps : List (Str × Str)} {k k' i : Nat} {x y : Str} {t1 t2 : Tok}
    (ho' : IsSrc o') (hys : ys.length = i) (hps : PairsAre R ys ps) (hG : ∀ j p, ps[j]? = some p → G j p) (h1 : ∀ p ∈ R, p.1 ≠ src) (h2 : ∀ p ∈ R, p.1 ≠ pl) (h3 : @Ne Nat pl src) (hR0 : ∀ p ∈ R0, p ∈ R) (ho : OwnOff own (((src, o) :: (pl, listOf ys.toArray k) :: R).map (·.1)))
    (hT : oT = { cls := .type "tuple", data := .seq #[.str x t1, .str y t2] }) (hTs : @LT.lt Nat _ src T) (hTp : @LT.lt Nat _ pl T) (hTo : ∀ p ∈ own, p.1 < T) (hg : G i (x, y)) :
    ∃ nx, LJ src pl R0 G (i + 1) nx ∧ OwnOff own (nx.map (·.1)) ∧ (∀ p ∈ nx, p ∈ (T, oT) :: (l9, o9) :: (src, o') :: (pl, listOf (ys ++ [Value.ref T]).toArray k') :: (R ++ own)) ∧ (∀ p ∈ own, p ∈ (T, oT) :: (l9, o9) :: (src, o') :: (pl, listOf (ys ++ [Value.ref T]).toArray k') :: (R ++ own)) := by
  refine ⟨(src, o') :: (pl, listOf (ys ++ [Value.ref T]).toArray k') :: (T, oT) :: R, ⟨o', ys ++ [Value.ref T], k', (T, oT) :: R, ps ++ [(x, y)], rfl, ho', by rw [List.length_append, hys]; rfl, ?_, ?_, ?_, ?_, h3, fun p hp => .tail _ (hR0 p hp)⟩, ?_, ?_, ?_⟩
  · refine ⟨by rw [List.length_append, List.length_append, hps.1]; rfl, fun j v hv => ?_⟩
    rcases Nat.lt_or_ge j ys.length with hj | hj
    · rw [List.getElem?_append_left hj] at hv
      obtain ⟨p, e, q⟩ := hps.2 j v hv
      exact ⟨p, by rw [List.getElem?_append_left (by rw [← hps.1]; exact hj)]; exact e, q.mono fun p hp => .tail _ hp⟩
    · rw [List.getElem?_append_right hj] at hv
      have hj0 : j - ys.length = 0 := by
        cases e : j - ys.length with
        | zero => rfl
        | succ n => rw [e] at hv; simp at hv
      rw [hj0] at hv
      cases hv
      refine ⟨(x, y), by rw [List.getElem?_append_right (by rw [← hps.1]; exact hj), ← hps.1, hj0]; rfl, ⟨T, oT, 0, t1, t2, rfl, .head _, by rw [hT], by rw [hT]⟩⟩
  · intro j p hp
    rcases Nat.lt_or_ge j ps.length with hj | hj
    · rw [List.getElem?_append_left hj] at hp
      exact hG j p hp
    · rw [List.getElem?_append_right hj] at hp
      have hj0 : j - ps.length = 0 := by
        cases e : j - ps.length with
        | zero => rfl
        | succ n => rw [e] at hp; simp at hp
      rw [hj0] at hp
      cases hp
      rw [show j = i by rw [← hps.1, hys] at hj0 hj; omega]
      exact hg
  · intro p hp
    rcases List.mem_cons.mp hp with rfl | hp
    · exact Ne.symm (Nat.ne_of_lt hTs)
    · exact h1 p hp
  · intro p hp
    rcases List.mem_cons.mp hp with rfl | hp
    · exact Ne.symm (Nat.ne_of_lt hTp)
    · exact h2 p hp
  · intro p hp b hb
    simp only [List.map_cons, List.mem_cons] at hb
    rcases hb with rfl | rfl | rfl | hb
    · exact ho p hp _ (by simp)
    · exact ho p hp _ (by simp)
    · exact Nat.ne_of_lt (hTo p hp)
    · exact ho p hp _ (by simp only [List.map_cons, List.mem_cons]; exact .inr (.inr hb))
  · intro p hp
    rcases List.mem_cons.mp hp with rfl | hp
    · exact .tail _ (.tail _ (.head _))
    · rcases List.mem_cons.mp hp with rfl | hp
      · exact .tail _ (.tail _ (.tail _ (.head _)))
      · rcases List.mem_cons.mp hp with rfl | hp
        · exact .head _
        · exact .tail _ (.tail _ (.tail _ (.tail _ (List.mem_append_left _ hp))))
  · exact fun p hp => .tail _ (.tail _ (.tail _ (.tail _ (List.mem_append_right _ hp))))
theorem loops_start {P : Prop} {h₀ h : Heap} {L D pl rl src : Addr} {oD o o' : Obj} {T : List (Addr × Obj)} {k1 k2 : Nat} (N : News h₀ L h ((D, oD) :: (rl, listOf #[] k2) :: (pl, listOf #[] k1) :: (src, o') :: (375, o) :: T)) (hs : ∀ p ∈ (375, o) :: T, p.1 < src) (h1 : @LT.lt Nat _ src pl) (h2 : @LT.lt Nat _ pl rl)
    (go : ∀ R0, R0 = (rl, listOf #[] k2) :: (375, o) :: T → (∀ p ∈ R0, p.1 ≠ src) → (∀ p ∈ R0, p.1 ≠ pl) → (@Ne Nat pl src) → News h₀ L h ((src, o') :: (pl, listOf #[] k1) :: R0) → P) : P := by
  refine go _ rfl (fun p hp => ?_) (fun p hp => ?_) (Ne.symm (Nat.ne_of_lt h1)) (news_sub N fun p hp => ?_)
  · rcases List.mem_cons.mp hp with rfl | hp
    · exact Ne.symm (Nat.ne_of_lt (Nat.lt_trans h1 h2))
    · exact Nat.ne_of_lt (hs p hp)
  · rcases List.mem_cons.mp hp with rfl | hp
    · exact Ne.symm (Nat.ne_of_lt h2)
    · exact Nat.ne_of_lt (Nat.lt_trans (hs p hp) h1)
  · rcases List.mem_cons.mp hp with rfl | hp
    · exact .tail _ (.tail _ (.tail _ (.head _)))
    · rcases List.mem_cons.mp hp with rfl | hp
      · exact .tail _ (.tail _ (.head _))
      · rcases List.mem_cons.mp hp with rfl | hp
        · exact .tail _ (.head _)
        · exact .tail _ (.tail _ (.tail _ (.tail _ hp)))
theorem LJ.close {h₀ h' : Heap} {L src pl T l9 : Addr} {R R0 own : List (Addr × Obj)} {G : Nat → Str × Str → Prop} {o o' o9 : Obj} {ys : List Value} {ps : List (Str × Str)} {k k' i tk : Nat} {x y xx : Str} {t1 t2 : Tok} {m' m₀ : Str → Option Value} {s₁ : Shared} (F : Fr h₀ L h' m')
    (N : News h₀ L h' ((T, { cls := .type "tuple", data := .seq #[.str x t1, .str y t2] }) :: (l9, o9) :: (src, o') :: (pl, listOf (ys ++ [Value.ref T]).toArray k') :: (R ++ own)))
    (ho' : IsSrc o') (hys : ys.length = i) (hps : PairsAre R ys ps) (hG : ∀ j p, ps[j]? = some p → G j p) (h1 : ∀ p ∈ R, p.1 ≠ src) (h2 : ∀ p ∈ R, p.1 ≠ pl) (h3 : @Ne Nat pl src) (hR0 : ∀ p ∈ R0, p ∈ R) (ho : OwnOff own (((src, o) :: (pl, listOf ys.toArray k) :: R).map (·.1)))
    (hl : @LT.lt Nat _ l9 T ∧ @LT.lt Nat _ src T ∧ @LT.lt Nat _ pl T ∧ AllLt T (R ++ own)) (hg : G i (x, y)) (hm : ∀ z, z ≠ xx → m' z = m₀ z) :
    InvEndG h₀ L (fun m'' nx => LJ src pl R0 G (i + 1) nx ∧ ∀ z, z ≠ xx → m'' z = m₀ z) own s₁ { s₁ with heap := h', toks := tk } := by
  obtain ⟨nx, b1, b2, b3, b4⟩ := LJ.next (k' := k') (l9 := l9) (o9 := o9) ho' hys hps hG h1 h2 h3 hR0 ho rfl hl.2.1 hl.2.2.1 (fun p hp => allLt_mem hl.2.2.2 p (List.mem_append_right _ hp)) hg
  exact InvEndG.intro F N ⟨b1, hm⟩ b2 b3 b4
theorem of3 {P : Str → Prop} {x a b c : Str} (h : x ∈ [a, b, c]) (ha : P a) (hb : P b) (hc : P c) : P x := by
  rcases List.mem_cons.mp h with rfl | h
  · exact ha
  · rcases List.mem_cons.mp h with rfl | h
    · exact hb
    · rw [List.mem_singleton.mp h]; exact hc
theorem of2 {P : Str → Prop} {x a b : Str} (h : x ∈ [a, b]) (ha : P a) (hb : P b) : P x := by
  rcases List.mem_cons.mp h with rfl | h
  · exact ha
  · rw [List.mem_singleton.mp h]; exact hb
theorem PairsAre.pick {h₀ h : Heap} {L l b : Addr} {all R' : List (Addr × Obj)} {x1 x2 : Array Value} {k1 k2 : Nat} {vs : List Value} {ps : List (Str × Str)} (hp : PairsAre all vs ps) (N : News h₀ L h all) (h1 : (l, listOf x1 k1) ∈ all) (h2 : (b, listOf x2 k2) ∈ all) (ha : ∀ p ∈ all, p.1 ≠ l → p.1 ≠ b → p ∈ R') : PairsAre R' vs ps := by
  refine ⟨hp.1, fun i v hv => ?_⟩
  obtain ⟨p, e, T, o, n, t1, t2, e1, hm, hc, hd⟩ := hp.2 i v hv
  have ne : ∀ {b x k}, (b, listOf x k) ∈ all → T ≠ b := by
    rintro b x k hb rfl
    rw [news_same N hm hb] at hc
    injection hc with e
    exact absurd e (by decide)
  exact ⟨p, e, T, o, n, t1, t2, e1, ha _ hm (ne h1) (ne h2), hc, hd⟩
/-- from the first loop to the second -/
theorem loops_mid {P : Prop} {h₀ h : Heap} {L pl rl src : Addr} {o o' : Obj} {T R R0 : List (Addr × Obj)} {k1 k2 : Nat} {ys : List Value} {ps : List (Str × Str)} (N : News h₀ L h ((src, o') :: (pl, listOf ys.toArray k1) :: R)) (ho : IsSrc o') (hR0 : R0 = (rl, listOf #[] k2) :: (375, o) :: T) (hz1 : ∀ p ∈ R0, p.1 ≠ src) (hz2 : ∀ p ∈ R0, p.1 ≠ pl) (hz3 : @Ne Nat pl src) (hrl : ∀ p ∈ (375, o) :: T, p.1 ≠ rl) (hsub : ∀ p ∈ R0, p ∈ R) (hps : PairsAre R ys ps)
    (go : ∀ R1, (∀ p ∈ R1, p.1 ≠ src) → (∀ p ∈ R1, p.1 ≠ rl) → (@Ne Nat rl src) → (pl, listOf ys.toArray k1) ∈ R1 → PairsAre R1 ys ps → (∀ p ∈ (375, o) :: T, p ∈ R1) → News h₀ L h ((src, o') :: (rl, listOf #[] k2) :: R1) → P) : P := by
  subst hR0
  obtain ⟨i, j, ti, tj, n, rfl, _⟩ := ho
  have mr : (rl, listOf #[] k2) ∈ (src, listOf #[.int i ti, .int j tj] n) :: (pl, listOf ys.toArray k1) :: R := .tail _ (.tail _ (hsub _ (.head _)))
  refine pick2 N (.head _) mr fun R1 e1 e2 ha N1 => go R1 e1 e2 (hz1 _ (.head _)) (ha _ (.tail _ (.head _)) hz3 (hz2 _ (.head _)).symm) ?_ (fun p hp => ha p (.tail _ (.tail _ (hsub _ (.tail _ hp)))) (hz1 _ (.tail _ hp)) (hrl p hp)) N1
  exact (hps.mono fun p hp => .tail _ (.tail _ hp)).pick N (.head _) mr ha
def dig (j : Nat) : Str := Str.ofString (toString ((j : Nat) : Int))
def keysAt (j : Nat) : List Str := [Str.ofString "a" ++ dig j, Str.ofString "b" ++ dig j, Str.ofString "p:c" ++ dig j]
def KeyG (j : Nat) (p : Str × Str) : Prop := (p.1.length ≤ 10 ∧ p.2.length ≤ 100) ∧ p.1 ∈ keysAt j
theorem dig_len {j : Nat} (h : j < 6) : (Str.ofString (toString ((j : Nat) : Int))).length ≤ 1 := by
  have : j = 0 ∨ j = 1 ∨ j = 2 ∨ j = 3 ∨ j = 4 ∨ j = 5 := by omega
  rcases this with rfl | rfl | rfl | rfl | rfl | rfl <;> decide +kernel
theorem keys_b : ((List.range 6).all fun i => (List.range 6).all fun j => i == j || (keysAt i).all fun x => (keysAt j).all fun y => !(x == y)) = true := by decide +kernel
theorem keys_apart : ∀ i < 6, ∀ j < 6, i ≠ j → ∀ x ∈ keysAt i, x ∉ keysAt j := by
  intro i hi j hj hij x hx hy
  have h1 := List.all_eq_true.mp (List.all_eq_true.mp keys_b i (List.mem_range.mpr hi)) j (List.mem_range.mpr hj)
  rw [Bool.or_eq_true] at h1
  rcases h1 with h1 | h1
  · exact hij (by simpa using h1)
  · have h2 := List.all_eq_true.mp (List.all_eq_true.mp h1 x hx) x hy
    rw [beq_self_eq_true] at h2
    cases h2
theorem short_of {ps : List (Str × Str)} (hl : ps.length ≤ 10) (h : ∀ (j : Nat) p, ps[j]? = some p → p.1.length ≤ 10 ∧ p.2.length ≤ 100) : Short ps := by
  refine ⟨hl, fun p hp => ?_⟩
  obtain ⟨j, hj, e⟩ := List.getElem_of_mem hp
  exact h j p (by rw [List.getElem?_eq_getElem hj, e])
theorem apart_of {qs : List (Str × Str)} (hl : qs.length < 6) (h : ∀ (j : Nat) p, qs[j]? = some p → KeyG j p) : Apart qs := by
  intro i j p p' hij hi hj e
  obtain ⟨h1, _⟩ := List.getElem?_eq_some_iff.mp hi
  obtain ⟨h2, _⟩ := List.getElem?_eq_some_iff.mp hj
  exact keys_apart i (by omega) j (by omega) (by omega) p.1 (h i p hi).2 (e ▸ (h j p' hj).2)
theorem key_mem {x a b c : Str} {i : Nat} (h : x ∈ [a, b, c]) (ha : a = Str.ofString "a") (hb : b = Str.ofString "b") (hc : c = Str.ofString "p:c") : x ++ Str.ofString (toString ((i : Nat) : Int)) ∈ keysAt i := by
  subst ha; subst hb; subst hc
  exact of3 (P := fun x => x ++ Str.ofString (toString ((i : Nat) : Int)) ∈ keysAt i) h (.head _) (.tail _ (.head _)) (.tail _ (.tail _ (.head _)))
end

theorem reset_L3 (h : PySem.Heap) : PySem.W.GrownAll [] h := by
  w_top off
  walk1
section
open PySem PySem.W PyProof.Rows
set_option Elab.async false
set_option maxRecDepth 100000
/-- at the top no frame lies below -/
theorem down0 {A₀ : Around} {base g₀ g h : Heap} {L : Addr} {m : Str → Option Value} {nw : List (Addr × Obj)} (B₀ : Below A₀ base [] g₀) (B : Below A₀ base [] g) (F : Fr g L h m) (N : News g L h nw) (FT : FrameTurn (fsOf []) g₀ g) (hb : base.objs.size ≤ L) : Fr base L h m ∧ News base L h nw := by
  obtain ⟨fo, _, Fb, Nb, _⟩ := down B₀ B F N FT hb (fun b hm => nomatch hm)
  exact ⟨Fb, fun p hp => Nb p (List.mem_append_right _ hp)⟩
def KJ (src kl : Addr) (ok : Obj) (nx : List (Addr × Obj)) : Prop := ∃ o2 oT T, nx = (src, o2) :: (375, oT) :: T ∧ IsSrc o2 ∧ Tab1 oT T ∧ (∀ p ∈ T, p.1 ≠ src) ∧ (∀ p ∈ T, p.1 ≠ 375) ∧ (@Ne Nat 375 src) ∧ (kl, ok) ∈ T ∧ ∃ o82, TabO o82 ∧ (382, o82) ∈ T
theorem kinds_start {P : Prop} {h₀ h : Heap} {L kl l1 src rl : Addr} {ok o1 o2 o3 oT : Obj} {R T : List (Addr × Obj)} (N : News h₀ L h ((kl, ok) :: (l1, o1) :: (src, o2) :: (rl, o3) :: R)) (ho : IsSrc o2) (hT : ∀ p ∈ (375, oT) :: T, p ∈ R) (hs : ∀ p ∈ (375, oT) :: T, p.1 < src) (hTab : Tab1 oT T) (h75 : ∀ p ∈ T, p.1 ≠ 375) (hk : @LT.lt Nat _ src kl) (h82 : ∃ o82, TabO o82 ∧ (382, o82) ∈ T)
    (go : KJ src kl ok ((src, o2) :: (375, oT) :: (kl, ok) :: T) → News h₀ L h ((src, o2) :: (375, oT) :: (kl, ok) :: T) → P) : P := by
  refine go ⟨o2, oT, (kl, ok) :: T, rfl, ho, hTab.mono fun p hp => .tail _ hp, fun p hp => ?_, fun p hp => ?_, Nat.ne_of_lt (hs _ (.head _)), .head _, let ⟨o8, a, b⟩ := h82; ⟨o8, a, .tail _ b⟩⟩ (news_sub N fun p hp => ?_)
  · rcases List.mem_cons.mp hp with rfl | hp
    · exact Ne.symm (Nat.ne_of_lt hk)
    · exact Nat.ne_of_lt (hs _ (.tail _ hp))
  · rcases List.mem_cons.mp hp with rfl | hp
    · exact Ne.symm (Nat.ne_of_lt (Nat.lt_trans (hs _ (.head _)) hk))
    · exact h75 p hp
  · rcases List.mem_cons.mp hp with rfl | hp
    · exact .tail _ (.tail _ (.head _))
    · rcases List.mem_cons.mp hp with rfl | hp
      · exact .tail _ (.tail _ (.tail _ (.tail _ (hT _ (.head _)))))
      · rcases List.mem_cons.mp hp with rfl | hp
        · exact .head _
        · exact .tail _ (.tail _ (.tail _ (.tail _ (hT _ (.tail _ hp)))))
/-- a turn opens -/
theorem kinds_open {P : Prop} {h₀ h : Heap} {L src : Addr} {o2 oT : Obj} {T own : List (Addr × Obj)} (N : News h₀ L h (((src, o2) :: (375, oT) :: T) ++ own)) (h1 : ∀ p ∈ T, p.1 ≠ src) (h2 : @Ne Nat 375 src) (ho : OwnOff own (((src, o2) :: (375, oT) :: T).map (·.1)))
    (go : ∀ R2, R2 = (375, oT) :: (T ++ own) → (∀ p ∈ R2, p.1 ≠ src) → News h₀ L h ((src, o2) :: R2) → P) : P := by
  refine go _ rfl (fun p hp => ?_) N
  rcases List.mem_cons.mp hp with rfl | hp
  · exact h2
  · rcases List.mem_append.mp hp with hp | hp
    · exact h1 p hp
    · exact ho p hp _ (by simp)
theorem kinds_off {l9 src : Addr} {o9 o2 o3 oT : Obj} {T own : List (Addr × Obj)} (h2 : ∀ p ∈ T, p.1 ≠ 375) (h3 : @Ne Nat 375 src) (ho : OwnOff own (((src, o2) :: (375, oT) :: T).map (·.1))) (hl : @LT.lt Nat _ src l9 ∧ ∀ p ∈ (375, oT) :: (T ++ own), p.1 < l9) : ∀ p ∈ (l9, o9) :: (src, o3) :: (T ++ own), p.1 ≠ 375 := by
  intro p hp
  rcases List.mem_cons.mp hp with rfl | hp
  · exact Ne.symm (Nat.ne_of_lt (hl.2 _ (.head _)))
  · rcases List.mem_cons.mp hp with rfl | hp
    · exact h3.symm
    · rcases List.mem_append.mp hp with hp | hp
      · exact h2 p hp
      · exact ho p hp _ (by simp)
/-- a turn ends -/
theorem kinds_close {h₀ h' : Heap} {L src kl l9 : Addr} {ok o9 o2 o3 oT : Obj} {T own nw : List (Addr × Obj)} {m' m₀ : Str → Option Value} {xx : Str} {s₁ : Shared} {tk : Nat} (F : Fr h₀ L h' m') (N : News h₀ L h' nw) (ho3 : IsSrc o3) (hTab : Tab1 oT T) (h1 : ∀ p ∈ T, p.1 ≠ src) (h2 : ∀ p ∈ T, p.1 ≠ 375) (h3 : @Ne Nat 375 src) (hk : (kl, ok) ∈ T) (h82 : ∃ o82, TabO o82 ∧ (382, o82) ∈ T) (ho : OwnOff own (((src, o2) :: (375, oT) :: T).map (·.1)))
    (hc : nw = (375, oT) :: (l9, o9) :: (src, o3) :: (T ++ own) ∨ ∃ c' oc vs tq, nw = (375, tabObj #[rawInt 230, rawInt 22, .ref c']) :: (c', oc) :: (l9, o9) :: (src, o3) :: (T ++ own) ∧ oc.data = .fields vs ∧ vs[1]? = some (.str lamQ1 tq) ∧ ∀ p ∈ (375, oT) :: (l9, o9) :: (src, o3) :: (T ++ own), p.1 < c')
    (hm : ∀ z, z ≠ xx → m' z = m₀ z) :
    InvEndG h₀ L (fun m'' nx => (kl, ok) ∈ nx ∧ KJ src kl ok nx ∧ ∀ z, z ≠ xx → m'' z = m₀ z) own s₁ { s₁ with heap := h', toks := tk } := by
  rcases hc with rfl | ⟨c', oc, vs, tq, rfl, e1, e2, hl⟩
  · refine InvEndG.intro (nx := (src, o3) :: (375, oT) :: T) F N ⟨.tail _ (.tail _ hk), ⟨o3, oT, T, rfl, ho3, hTab, h1, h2, h3, hk, h82⟩, hm⟩ (fun p hp b hb => ho p hp b (by simpa using hb)) (fun p hp => ?_) fun p hp => .tail _ (.tail _ (.tail _ (List.mem_append_right _ hp)))
    rcases List.mem_cons.mp hp with rfl | hp
    · exact .tail _ (.tail _ (.head _))
    · rcases List.mem_cons.mp hp with rfl | hp
      · exact .head _
      · exact .tail _ (.tail _ (.tail _ (List.mem_append_left _ hp)))
  · refine InvEndG.intro (nx := (src, o3) :: (375, tabObj #[rawInt 230, rawInt 22, .ref c']) :: (c', oc) :: T) F N ⟨.tail _ (.tail _ (.tail _ hk)), ⟨o3, _, (c', oc) :: T, rfl, ho3, .inr ⟨c', oc, vs, tq, rfl, .head _, e1, e2⟩, fun p hp => ?_, fun p hp => ?_, h3, .tail _ hk, let ⟨o8, a, b⟩ := h82; ⟨o8, a, .tail _ b⟩⟩, hm⟩ (fun p hp b hb => ?_) (fun p hp => ?_) fun p hp => .tail _ (.tail _ (.tail _ (.tail _ (List.mem_append_right _ hp))))
    · rcases List.mem_cons.mp hp with rfl | hp
      · exact Ne.symm (Nat.ne_of_lt (hl (src, o3) (.tail _ (.tail _ (.head _)))))
      · exact h1 p hp
    · rcases List.mem_cons.mp hp with rfl | hp
      · exact Ne.symm (Nat.ne_of_lt (hl (375, oT) (.head _)))
      · exact h2 p hp
    · simp only [List.map_cons, List.mem_cons] at hb
      rcases hb with rfl | rfl | rfl | hb
      · exact ho p hp _ (by simp)
      · exact ho p hp _ (by simp)
      · exact Nat.ne_of_lt (hl p (.tail _ (.tail _ (.tail _ (List.mem_append_right _ hp)))))
      · exact ho p hp _ (by simp only [List.map_cons, List.mem_cons]; exact .inr (.inr hb))
    · rcases List.mem_cons.mp hp with rfl | hp
      · exact .tail _ (.tail _ (.tail _ (.head _)))
      · rcases List.mem_cons.mp hp with rfl | hp
        · exact .head _
        · rcases List.mem_cons.mp hp with rfl | hp
          · exact .tail _ (.head _)
          · exact .tail _ (.tail _ (.tail _ (.tail _ (List.mem_append_left _ hp))))
theorem kinds_mem {t1 t2 t3 : Tok} {i : Nat} {v : Value} (h : [Value.str (Str.ofString "text") t1, Value.str (Str.ofString "comment") t2, Value.str (Str.ofString "instruction") t3][i]? = some v) : ∃ kd t, v = .str kd t ∧ (kd = Str.ofString "text" ∨ kd = Str.ofString "comment" ∨ kd = Str.ofString "instruction") := by
  have := List.mem_of_getElem? h
  simp only [List.mem_cons, List.not_mem_nil, or_false] at this
  rcases this with rfl | rfl | rfl
  · exact ⟨_, _, rfl, .inl rfl⟩
  · exact ⟨_, _, rfl, .inr (.inl rfl)⟩
  · exact ⟨_, _, rfl, .inr (.inr rfl)⟩
section
variable {prog : Program} {w : World} {A : Around} {E : Value → Shared → Prop} {s : Shared} {env : Env} {h₀ : Heap} {x : Str} {body : List Stmt} {Q : Flow → Shared → Prop}
theorem list_led {l : Addr} {vs : List Value} {nn : Nat} {m₀ : Str → Option Value} {news : List (Addr × Obj)} (K : List (Addr × Obj) → Prop)
    (hh : A.handled = none) (hl : (l, listOf vs.toArray nn) ∈ news) (F : Fr h₀ env.locals s.heap m₀) (N : News h₀ env.locals s.heap news) (hj : K news)
    (turn : ∀ (i : Nat) v (u : Str → Option Value) nx h tk own, vs[i]? = some v → OwnOff own (nx.map (·.1)) → K nx → Fr h₀ env.locals h (fun y => if y = x then some v else if y = x then u y else m₀ y) → News h₀ env.locals h (nx ++ own) →
      wpAny (model prog w) A (execs body env) (InvPostG h₀ env.locals (fun m' nx => (l, listOf vs.toArray nn) ∈ nx ∧ K nx ∧ ∀ z, z ≠ x → m' z = m₀ z) own { s with heap := h, toks := tk } Q) E { s with heap := h, toks := tk })
    (done : ∀ (u : Str → Option Value) nx h tk, K nx → Fr h₀ env.locals h (fun y => if y = x then u y else m₀ y) → News h₀ env.locals h nx → Q .next { s with heap := h, toks := tk }) :
    wpAny (model prog w) A (pyIter (.ref l)) (fun it s₂ => LoopAtV prog w A h₀ env x body Q E it s₂) E s := by
  refine kdl_iter (l := l) (vs := vs) (nn := nn) (fun _ m nx => K nx ∧ ∀ z, z ≠ x → m z = m₀ z) hh hl F N ⟨hj, fun _ _ => rfl⟩ ?_ ?_
  · rintro i v m₁ nx h tk own hv ho hm ⟨hK, hJ⟩ F1 N1
    have em : ∀ y, (fun y => if y = x then some v else m₁ y) y = (fun y => if y = x then some v else if y = x then m₁ y else m₀ y) y := by
      intro y
      dsimp only
      split
      · rfl
      · rename_i hy
        exact hJ y hy
    rw [funext em] at F1
    exact turn i v m₁ nx h tk own hv ho hK F1 N1
  · rintro m₁ nx h tk ⟨hK, hJ⟩ F1 N1
    have em : ∀ y, m₁ y = (fun y => if y = x then m₁ y else m₀ y) y := by
      intro y
      dsimp only
      split
      · rfl
      · rename_i hy
        exact hJ y hy
    rw [funext em] at F1
    exact done m₁ nx h tk hK F1 N1
end
end

theorem reset_L0 (h : PySem.Heap) : PySem.W.GrownAll [] h := by
  w_top off
  walk1
section
open PySem PySem.W PyProof.Rows
set_option Elab.async false
set_option maxRecDepth 100000
set_option linter.unusedSimpArgs false
set_option hygiene false
local macro_rules | `(tactic| k_mem) => `(tactic| first | assumption | exact List.Mem.head _ | (refine' List.mem_cons_of_mem _ ?_; k_mem) | (refine' List.mem_append_left _ ?_; k_mem) | (refine' List.mem_append_right _ ?_; k_mem))
local macro_rules | `(tactic| walk_at "pyIter ref") => `(tactic| refine stop_at ?_)
local macro_rules | `(tactic| walk_at "GrownAll") => `(tactic| refine stop_at ?_)
local macro_rules | `(tactic| walk_at "call type:range") => `(tactic| refine stop_at ?_)
local macro_rules | `(tactic| walk_at "binaryOp Add str str") => `(tactic| refine stop_at ?_)
theorem fillKL0 : (fun (_ : Params → Frag) (_ : OpenLaw) => True) Mine.K PySem.Challenge.rw_xw0213_01 := by k_fill; trivial

theorem look_take {a : Addr} {o : Obj} : ∀ (n : Nat) (l : Frag), (l.take n).lookup a = some o → l.lookup a = some o
  | 0, _, e => nomatch e
  | _ + 1, [], e => nomatch e
  | n + 1, (b, p) :: l, e => by
    rw [List.take_succ_cons, List.lookup_cons] at e
    rw [List.lookup_cons]
    split at e
    · exact e
    · exact look_take n l e
theorem in_sub {L : Params → Frag} {P : Params} {h : Heap} (e : ∀ P, Mine.K P = (L P).take 249) (x : (L P).In h) : (Mine.K P).In h := fun a o q => x a o (look_take 249 (L P) (by rw [← e]; exact q))
namespace law_holds
theorem tw5062152199769849712 : True := trivial
theorem tw5389484754426515990 : True := trivial
theorem tw13154458805202713791 : True := trivial
theorem tw18084069023838073519 : True := trivial
theorem tw13766487248619392586 : True := trivial
theorem tw12780804625047726367 : True := trivial
theorem tw16614716721108272449 : True := trivial
theorem tw13709617746848070560 : True := trivial
theorem tw602461330855297101 : True := trivial
theorem tw12831907817818079685 : True := trivial
theorem tw15544829507116839252 : True := trivial
theorem tw16836969012518115619 : True := trivial
theorem tw10817052189556005596 : True := trivial
theorem tw3426384778480675251 : True := trivial
theorem tw2387193687640843687 : True := trivial
theorem tw4781243967656130014 : True := trivial
theorem tw12116493165278983582 : True := trivial
theorem tw13280740594461564331 : True := trivial
theorem tw545109181885906688 : True := trivial
theorem tw724200737284857819 : True := trivial
theorem tw10566571302883470556 : True := trivial
theorem tw11404014056486942332 : True := trivial
theorem tw7408322871517469003 : True := trivial
theorem tw8984712037535005518 : True := trivial
theorem tw7185456241796803578 : True := trivial
theorem tw3776956092104397036 : True := trivial
theorem tw3035144380315620824 : True := trivial
theorem tw784011647948385275 : True := trivial
theorem tw6776455111828631412 : True := trivial
theorem tw4464252984393422682 : True := trivial
theorem tw9552830710289189752 : True := trivial
theorem tw2503670479209048990 : True := trivial
theorem tw9682718004065560343 : True := trivial
theorem tw10666784280354678857 : True := trivial
theorem tw15274831704391544125 : True := trivial
theorem tw14828999820898988419 : True := trivial
theorem tw10371022188087798493 : True := trivial
theorem tw653560878884961445 : True := trivial
theorem tw2102315897755806987 : True := trivial
theorem tw11846676642670509255 : True := trivial
theorem tw18090433342136740992 : True := trivial
theorem tw15448297888555860652 : True := trivial
theorem tw18203989763732354715 : True := trivial
theorem tw3158129796062787159 : True := trivial
theorem tw9255152265573255198 : True := trivial
theorem tw14497384708736915567 : True := trivial
theorem tw11625900857008200698 : True := trivial
theorem tw10368410895845634921 : True := trivial
theorem tw2136269947727277649 : True := trivial
theorem tw6934448944433832347 : True := trivial
theorem tw3366817510852727610 : True := trivial
theorem tw18269650602155537469 : True := trivial
theorem tw8266603773606604290 : True := trivial
theorem tw13397297893571687751 : True := trivial
theorem tw16883458599210261866 : True := trivial
theorem tw1905533677188600702 : True := trivial
theorem tw1670043908289496885 : True := trivial
theorem tw16470317323979864763 : True := trivial
theorem tw11609493526922420660 : True := trivial
theorem tw519298541982818421 : True := trivial
theorem tw12342728606916771844 : True := trivial
theorem tw4889031023730116350 : True := trivial
theorem tw3956099054510807996 : True := trivial
theorem tw576407869801174206 : True := trivial
theorem tw9849722394096787677 : True := trivial
theorem tw575232530192455986 : True := trivial
theorem tw15014403891855920072 : True := trivial
theorem tw2643271747718453845 : True := trivial
theorem tw6159533029260741167 : True := trivial
theorem tw7910590604623066228 : True := trivial
theorem tw12889673554181485818 : True := trivial
theorem tw7820799176418779761 : True := trivial
theorem tw17255088995462705879 : True := trivial
theorem tw7019463264422422977 : True := trivial
theorem tw3186734533307500241 : True := trivial
theorem tw1385162719727133579 : True := trivial
theorem tw11098625913536864229 : True := trivial
theorem tw11633083819707477107 : True := trivial
theorem tw12134408205421670959 : True := trivial
theorem tw10024239376800412576 : True := trivial
theorem tw2578278018795888234 : True := trivial
theorem tw11781800970755023335 : True := trivial
theorem tw6765152471904792315 : True := trivial
theorem tw16406091861079842607 : True := trivial
theorem tw8191475993861738794 : True := trivial
theorem tw676263390381983339 : True := trivial
theorem tw1989176631692091739 : True := trivial
theorem tw8249079356659094474 : True := trivial
theorem tw13800757232730249582 : True := trivial
theorem tw3912811242725288453 : True := trivial
theorem tw3756308257209627903 : True := trivial
theorem tw4593294709026258786 : True := trivial
theorem tw3850404396616230974 : True := trivial
theorem tw3943428198234077543 : True := trivial
theorem tw14883556706271630602 : True := trivial
theorem tw5731563423909890137 : True := trivial
theorem tw7636989558263936852 : True := trivial
theorem tw12835091436910803158 : True := trivial
theorem tw8553002610548859549 : True := trivial
theorem tw13402424001964919149 : True := trivial
theorem tw11182679623053108816 : True := trivial
theorem tw7356724547972884604 : True := trivial
theorem tw6564709946809587534 : True := trivial
theorem tw13028658284911697911 : True := trivial
theorem tw8176227357466254829 : True := trivial
theorem tw15694993059591697976 : True := trivial
theorem tw2295933128562542503 : True := trivial
theorem tw9069877914133315304 : True := trivial
theorem tw2856731137302751260 : True := trivial
theorem tw3742325753681652743 : True := trivial
theorem tw8330938851228082562 : True := trivial
theorem tw4515466672771955728 : True := trivial
theorem tw1928719863018725356 : True := trivial
theorem tw14335913921861858828 : True := trivial
theorem tw8857742495270377987 : True := trivial
theorem tw699380112222796084 : True := trivial
theorem tw9875236377963488844 : True := trivial
theorem tw2006301483956418059 : True := trivial
theorem tw8854015012368427407 : True := trivial
theorem tw14991590004735058009 : True := trivial
theorem tw6723812968561706957 : True := trivial
theorem tw2558664710541493025 : True := trivial
theorem tw15150646450996357022 : True := trivial
theorem tw18261290160731607033 : True := trivial
theorem tw2322801206320994539 : True := trivial
theorem tw4370086069003782432 : True := trivial
theorem tw13478230802861573701 : True := trivial
theorem tw10465528174321978529 : True := trivial
theorem tw6709271908398517637 : True := trivial
theorem tw15527639110640922598 : True := trivial
theorem tw17253691774821329096 : True := trivial
theorem tw7696488724909661519 : True := trivial
theorem tw13882729330811710610 : True := trivial
theorem tw1341266762083198811 : True := trivial
theorem tw11803358882649189518 : True := trivial
theorem tw15609566024721092083 : True := trivial
theorem tw9843604407834444796 : True := trivial
theorem tw445335354869643106 : True := trivial
theorem tw10609929442622069884 : True := trivial
theorem tw2152083551845799040 : True := trivial
theorem tw14904137174637212347 : True := trivial
theorem tw11924911360389889469 : True := trivial
theorem tw11126432536435168541 : True := trivial
theorem tw16106779387088534511 : True := trivial
theorem tw13650905803964671038 : True := trivial
theorem tw11690447701083486646 : True := trivial
theorem tw6727219029552735585 : True := trivial
theorem tw8514742172934523775 : True := trivial
theorem tw5769158387606399586 : True := trivial
theorem tw5274592661964301406 : True := trivial
theorem tw1819975233463548508 : True := trivial
theorem tw455179833554555240 : True := trivial
theorem tw11470271118054631628 : True := trivial
theorem tw11544315989524547432 : True := trivial
theorem tw16563099163409725306 : True := trivial
theorem tw8763168800255643514 : True := trivial
theorem tw1035469204868569938 : True := trivial
theorem tw12296726922439171297 : True := trivial
theorem tw15732109348078318572 : True := trivial
theorem tw15883345262158282383 : True := trivial
theorem tw11097158420108258118 : True := trivial
theorem tw10876394233666535175 : True := trivial
theorem tw16947615914383616782 : True := trivial
theorem tw5920216800500632969 : True := trivial
theorem tw6265907326580845545 : True := trivial
theorem tw14872900085578418628 : True := trivial
theorem tw13250372474279835810 : True := trivial
theorem tw12419048959643632839 : True := trivial
theorem tw7495221243884187115 : True := trivial
theorem tw12456547296908542839 : True := trivial
theorem tw5455921660152230842 : True := trivial
theorem tw2090888555730037645 : True := trivial
theorem tw11017292853192552079 : True := trivial
theorem tw9634471323475708679 : True := trivial
theorem tw607667584577438428 : True := trivial
theorem tw3049941959672503198 : True := trivial
theorem tw8570087061310353148 : True := trivial
theorem tw7472407996622490835 : True := trivial
theorem tw10442559174759676424 : True := trivial
theorem tw10812634152524527747 : True := trivial
theorem tw1973129929022764952 : True := trivial
theorem tw5364902710198789758 : True := trivial
theorem tw18388893480867403737 : True := trivial
theorem tw18430954121086234272 : True := trivial
theorem tw12622292602297523153 : True := trivial
theorem tw17028624522117568015 : True := trivial
theorem tw4146061822495498468 : True := trivial
theorem tw2887050238494874643 : True := trivial
theorem tw7769649832755249146 : True := trivial
theorem tw1909877003179415225 : True := trivial
theorem tw11881114122080957857 : True := trivial
theorem tw18221428039690301666 : True := trivial
theorem tw4072507727158212662 : True := trivial
theorem tw14892801356780361778 : True := trivial
theorem tw10362271348294423435 : True := trivial
theorem tw18135211599370774712 : True := trivial
theorem tw7311554392007033315 : True := trivial
theorem tw3033269912633744064 : True := trivial
theorem tw7566432030715092817 : True := trivial
theorem tw6333624483447246961 : True := trivial
theorem tw15293083901398250104 : True := trivial
theorem tw10108825076125807744 : True := trivial
theorem tw3896150654470677357 : True := trivial
theorem tw15333956030411951890 : True := trivial
theorem tw6719018230134327050 : True := trivial
theorem tw8040771413219435098 : True := trivial
theorem tw10983241140555628109 : True := trivial
theorem tw9992725586745946429 : True := trivial
theorem tw17923851452625207687 : True := trivial
theorem tw3955097671198598788 : True := trivial
theorem tw14789792462180790578 : True := trivial
theorem tw15272395603832836080 : True := trivial
theorem tw14746732674962391887 : True := trivial
theorem tw11946022803392826334 : True := trivial
theorem tw302768837105346163 : True := trivial
theorem tw12687621791434340054 : True := trivial
theorem tw17598101756349436640 : True := trivial
theorem tw7604666192120794032 : True := trivial
theorem tw11463670642173560981 : True := trivial
theorem tw881140697980615281 : True := trivial
theorem tw2557128651999224082 : True := trivial
theorem tw2602977815382960713 : True := trivial
theorem tw5907203647135998699 : True := trivial
theorem tw8312341600987523519 : True := trivial
theorem tw3979707639553702691 : True := trivial
theorem tw8790382262760724670 : True := trivial
theorem tw6674817763981286723 : True := trivial
theorem tw1550374771381668074 : True := trivial
theorem tw5914491427308094424 : True := trivial
theorem tw10726639523019406850 : True := trivial
theorem tw10093380194815717143 : True := trivial
theorem tw8386679336120195906 : True := trivial
theorem tw10441050188594101415 : True := trivial
theorem tw14531881819706719225 : True := trivial
theorem tw5950301352895977177 : True := trivial
theorem tw12149405283708829123 : True := trivial
theorem tw18051328159682125866 : True := trivial
theorem tw1099259369241382048 : True := trivial
theorem tw16190678330180157336 : True := trivial
theorem tw13281950902743806629 : True := trivial
theorem tw5898729028444588960 : True := trivial
theorem tw10027879121665395642 : True := trivial
theorem tw16462895619179043833 : True := trivial
theorem tw7404543985812422374 : True := trivial
theorem tw2903333896348957400 : True := trivial
theorem tw17470365217354309832 : True := trivial
theorem tw17345407343664743607 : True := trivial
theorem tw16935243356766158856 : True := trivial
theorem tw10301956948240465243 : True := trivial
theorem tw15352839923633478061 : True := trivial
theorem tw5981114437932730796 : True := trivial
theorem tw5989267464594152519 : True := trivial
theorem tw8481075993509181622 : True := trivial
theorem tw12847567107135931479 : True := trivial
theorem tw5037970770195530229 : True := trivial
theorem tw12645607732203181651 : True := trivial
theorem tw16273140198857503625 : True := trivial
theorem tw11795792742502079742 : True := trivial
theorem tw228058311090241170 : True := trivial
theorem tw16074064945343616743 : True := trivial
theorem tw11330957891505755796 : True := trivial
theorem tw6553333263825352884 : True := trivial
theorem tw908389787484368193 : True := trivial
theorem tw3028213030429885723 : True := trivial
theorem tw13429453918920967058 : True := trivial
theorem tw160851071654074740 : True := trivial
theorem tw1031057903888850656 : True := trivial
theorem tw13336368349410954346 : True := trivial
theorem tw6746360682218282392 : True := trivial
theorem tw8804120190785687885 : True := trivial
theorem tw194939583717160490 : True := trivial
theorem tw3572487005457819259 : True := trivial
theorem tw4741859662064258567 : True := trivial
theorem tw808278469055374699 : True := trivial
theorem tw17183477848116922584 : True := trivial
theorem tw16963379459963715452 : True := trivial
theorem tw4916342969005030805 : True := trivial
theorem tw15031514592837009168 : True := trivial
theorem tw10189704592693192966 : True := trivial
theorem tw12874571214893485439 : True := trivial
theorem tw3258674603298201628 : True := trivial
theorem tw11956458263131016624 : True := trivial
theorem tw9758593294864014727 : True := trivial
theorem tw12663309570017281627 : True := trivial
theorem tw11297062200503488469 : True := trivial
theorem tw17830944117370523080 : True := trivial
theorem tw9403268196540146800 : True := trivial
theorem tw17137235678499792623 : True := trivial
theorem tw10242277825702978295 : True := trivial
theorem tw723553956927101924 : True := trivial
theorem tw12800644894191811977 : True := trivial
theorem tw6751701741844952029 : True := trivial
theorem tw1376783240425437725 : True := trivial
theorem tw2667362832866536986 : True := trivial
theorem tw17264387287909652857 : True := trivial
theorem tw5640673133297012132 : True := trivial
theorem tw9187647767651647856 : True := trivial
theorem tw2127001594154878533 : True := trivial
theorem tw11714151634956498000 : True := trivial
theorem tw13482675847692870326 : True := trivial
theorem tw7544913113114293122 : True := trivial
theorem tw2887994833065977647 : True := trivial
theorem tw2788888992717563140 : True := trivial
theorem tw12476058986133298565 : True := trivial
theorem tw14281342344845405768 : True := trivial
theorem tw16057390660189216267 : True := trivial
theorem tw15644819842384902770 : True := trivial
theorem tw15341342317828512493 : True := trivial
theorem tw12108977868540685583 : True := trivial
theorem tw15695062497276918967 : True := trivial
theorem tw15806970514647361693 : True := trivial
theorem tw8061732933902216757 : True := trivial
theorem tw11666318101497114028 : True := trivial
theorem tw12949845418750544790 : True := trivial
theorem tw447027507633508388 : True := trivial
theorem tw16461882675039125421 : True := trivial
theorem tw10007947361888340627 : True := trivial
theorem tw1285599515219305098 : True := trivial
theorem tw12732824653754844360 : True := trivial
theorem tw15661869461025623997 : True := trivial
theorem tw9529696498207198238 : True := trivial
theorem tw13301187468288870568 : True := trivial
theorem tw4323815956820902445 : True := trivial
theorem tw8285764192309689115 : True := trivial
theorem tw7120836010843673076 : True := trivial
theorem tw13431030151845061361 : True := trivial
theorem tw16805829885119392726 : True := trivial
theorem tw17027635718292003107 : True := trivial
theorem tw14571795756577361901 : True := trivial
theorem tw9184033795430018204 : True := trivial
theorem tw2143268655074302082 : True := trivial
theorem tw14498155544194170393 : True := trivial
theorem tw2644310842459337959 : True := trivial
theorem tw17180001009569633970 : True := trivial
theorem tw14822640431511872941 : True := trivial
theorem tw7102550790548843376 : True := trivial
theorem tw7840963339656162547 : True := trivial
theorem tw1832781179975386347 : True := trivial
theorem tw12823684351632273404 : True := trivial
theorem tw16093045099236604761 : True := trivial
theorem tw11501577401961159163 : True := trivial
theorem tw2681691626216136826 : True := trivial
theorem tw520180527934627913 : True := trivial
theorem tw3502462603103325571 : True := trivial
theorem tw7320349236381187405 : True := trivial
theorem tw4485365951123398659 : True := trivial
theorem tw12889056044993165476 : True := trivial
theorem tw15963293909079661400 : True := trivial
theorem tw8706041035222106713 : True := trivial
theorem tw15454442590643882187 : True := trivial
theorem tw15759456685926392790 : True := trivial
theorem tw8835065897919829438 : True := trivial
theorem tw4164856251198601096 : True := trivial
end law_holds

set_option Elab.async true in
set_option maxHeartbeats 8000000 in
theorem law_holds : PySem.Challenge.rw_xw0213_01.Holds := by
  w_on
  o_law
  k_head
  case hw => w_witness2
  w_top off
  k_go0
  rename Frag.In _ _ => X9
  have X0 := in_sub (fun _ => by kernel_rfl) X9
  clear X9
  rename Fr _ _ _ _ => F0
  rename News _ _ _ _ => N0
  rename Below _ _ _ _ => B0
  rename Top topProg _ _ _ _ _ => T0
  rename Heap.IsList (ghostOf _ _) _ _ => hl0
  have U := Under.mk X0 T0 (by assumption) (by assumption)
  have hb := F0.above
  refine (let qk : Flow → Shared → Prop := _; let ek : Value → Shared → Prop := _; let G1 : Heap := _; let L1 : Addr := _; let m1 : Str → Option Value := _; let A1 : Around := _; let t1 : Nat := _; let g2 : Array GenState := _; let d2 : Drawn := _; let o2 : OsState := _; have F1 : Fr G1 L1 _ m1 := F0; have N1 : News G1 L1 _ _ := N0; have B1 : Below callerA G1 [] G1 := B0; have X1 : (Mine.K _).In G1 := X0; have T1 : Top topProg _ _ _ _ G1 := T0; have hl1 : G1.IsList _ _ := hl0; have U1 : Under _ _ _ _ _ G1 := U; have hb1 : G1.objs.size ≤ L1 := hb; (?_ : wpAny _ A1 _ qk ek (Shared.mk _ g2 d2 t1 o2)))
  clear F0 N0 B0 X0 T0 hl0 U hb
  rename Fr _ _ _ _ => F0
  rename News _ _ _ _ => N0
  rename Below _ _ _ _ => B0
  rename Top topProg _ _ _ _ _ => T0
  rename Heap.IsList G1 _ _ => hl0
  rename Under _ _ _ _ _ _ => U
  rename _ ≤ L1 => hb
  rename Frag.In _ _ => X0
  (repeat' (first | ((with_reducible show wpAny _ _ (call (Value.ref 380) _) _ _ _); refine stop_at ?_) | ((with_reducible show wpAny _ _ (call (Value.ref 366) _) _ _ _); refine stop_at ?_) | ((with_reducible show wpAny _ _ (call (Value.ref 323) _) _ _ _); refine stop_at ?_) | ((with_reducible show wpAny _ _ (call (Value.ref 385) _) _ _ _); refine stop_at ?_) | ((with_reducible show wpAny _ _ (callWith _ (Value.ref _) _ (backTo _ (starEach [] _)) []) _ _ _); k_dflt (refine' callWith_mine0 ?zkF ?zkX ?zkk ?_; (case zkF => with_reducible assumption); (case zkX => with_reducible assumption); (case zkk => with_unfolding_all exact rfl)); (try dsimp only [List.nil_append, List.cons_append, List.append_nil])) | ((with_reducible show wpAny _ _ (callWith _ (Value.ref _) _ (backTo _ (starEach (_ :: _) _)) []) _ _ _); k_dflt (refine' callWith_mine ?zkX ?zkk ?_ ?zhe ?zhp; (case zhe => exact rfl); (case zhp => exact rfl); (case zkX => with_reducible assumption); (case zkk => with_unfolding_all exact rfl))) | ((with_reducible show wpAny _ _ (call (Value.ref 361) _) _ _ _); k_dflt (refine' text_use ?zB ?zF ?zX ?zN ?zT ?zk ?zd ?zu ?zU ?zo ?_; (case zB => k_asm); (case zF => k_asm); (case zX => k_asm); (case zN => k_asm); (case zT => k_asm); (case zk => first | exact rfl | assumption); (case zd => k_room); (case zu => k_units); (case zU => k_updF); (case zo => assumption)); intro o' x' t' h' tk' F' N' hS' hx') | ((with_reducible show wpAny _ _ (call (Value.ref 337) _) _ _ _); k_dflt (refine' one_use ?zB ?zF ?zX ?zN ?zT ?zk ?zd ?zu ?zU ?zo ?zm ?zs ?zne ?zh0 ?zh1 ?_; (case zB => k_asm); (case zF => k_asm); (case zX => k_asm); (case zN => k_asm); (case zT => k_asm); (case zk => first | exact rfl | assumption); (case zd => k_room); (case zu => k_units); (case zU => k_updF); (case zo => assumption); (case zm => k_mem); (case zs => exact rfl); (case zne => omega); (case zh0 => exact Nat.le_of_ble_eq_true rfl); (case zh1 => exact Nat.le_of_ble_eq_true rfl)); intro o' x' t' h' tk' F' N' hS' hx') | ((with_reducible show wpAny _ _ (call (Value.ref 330) _) _ _ _); k_dflt (refine' take_use ?zB ?zF ?zX ?zN ?zT ?zk ?zd ?zu ?zU ?zo ?zt0 ?zt1 ?_; (case zB => k_asm); (case zF => k_asm); (case zX => k_asm); (case zN => k_asm); (case zT => k_asm); (case zk => first | exact rfl | assumption); (case zd => k_room); (case zu => k_units); (case zU => k_updF); (case zo => assumption); (case zt0 => omega); (case zt1 => omega)); intro o' k' t' h' tk' F' N' hS' hk0' hk1') | (k_unfold; (try dsimp only)) | walk1 | (dsimp only; walk1) | (leave1; (try dsimp only))))
  refine go_on ?_
  refine' TellB.use (room := 30) (outer := []) B0 F0 U N0 hb (fun b hm => nomatch hm) rfl ?d ?u toldRight_tell ?_
  case d => k_room
  case u => k_units
  rintro r' nw' h' tk' g1 B1 F1 N1 U1 FT1 ⟨rfl, o, o82, T', rfl, hTO, hTab', hT75'⟩
  obtain ⟨T, hTe, h82, hTab, hT75⟩ : ∃ T, T = (382, o82) :: T' ∧ (∃ o8, TabO o8 ∧ (382, o8) ∈ T) ∧ Tab1 o T ∧ (∀ p ∈ T, p.1 ≠ 375) := ⟨_, rfl, ⟨_, hTO, .head _⟩, hTab'.mono (fun p hp => .tail _ hp), fun p hp => by
    rcases List.mem_cons.mp hp with rfl | hp
    · exact neN (show @Ne Nat 382 375 by decide)
    · exact hT75' p hp⟩
  rw [← hTe] at N1
  clear hTe hTab' hT75' hTO
  have X1 := U1.X
  have T1 := U1.T
  clear F0 N0
  (repeat' (first | ((with_reducible show wpAny _ _ (call (Value.ref 380) _) _ _ _); refine stop_at ?_) | ((with_reducible show wpAny _ _ (call (Value.ref 366) _) _ _ _); refine stop_at ?_) | ((with_reducible show wpAny _ _ (call (Value.ref 323) _) _ _ _); refine stop_at ?_) | ((with_reducible show wpAny _ _ (call (Value.ref 385) _) _ _ _); refine stop_at ?_) | ((with_reducible show wpAny _ _ (callWith _ (Value.ref _) _ (backTo _ (starEach [] _)) []) _ _ _); k_dflt (refine' callWith_mine0 ?zkF ?zkX ?zkk ?_; (case zkF => with_reducible assumption); (case zkX => with_reducible assumption); (case zkk => with_unfolding_all exact rfl)); (try dsimp only [List.nil_append, List.cons_append, List.append_nil])) | ((with_reducible show wpAny _ _ (callWith _ (Value.ref _) _ (backTo _ (starEach (_ :: _) _)) []) _ _ _); k_dflt (refine' callWith_mine ?zkX ?zkk ?_ ?zhe ?zhp; (case zhe => exact rfl); (case zhp => exact rfl); (case zkX => with_reducible assumption); (case zkk => with_unfolding_all exact rfl))) | ((with_reducible show wpAny _ _ (call (Value.ref 361) _) _ _ _); k_dflt (refine' text_use ?zB ?zF ?zX ?zN ?zT ?zk ?zd ?zu ?zU ?zo ?_; (case zB => k_asm); (case zF => k_asm); (case zX => k_asm); (case zN => k_asm); (case zT => k_asm); (case zk => first | exact rfl | assumption); (case zd => k_room); (case zu => k_units); (case zU => k_updF); (case zo => assumption)); intro o' x' t' h' tk' F' N' hS' hx') | ((with_reducible show wpAny _ _ (call (Value.ref 337) _) _ _ _); k_dflt (refine' one_use ?zB ?zF ?zX ?zN ?zT ?zk ?zd ?zu ?zU ?zo ?zm ?zs ?zne ?zh0 ?zh1 ?_; (case zB => k_asm); (case zF => k_asm); (case zX => k_asm); (case zN => k_asm); (case zT => k_asm); (case zk => first | exact rfl | assumption); (case zd => k_room); (case zu => k_units); (case zU => k_updF); (case zo => assumption); (case zm => k_mem); (case zs => exact rfl); (case zne => omega); (case zh0 => exact Nat.le_of_ble_eq_true rfl); (case zh1 => exact Nat.le_of_ble_eq_true rfl)); intro o' x' t' h' tk' F' N' hS' hx') | ((with_reducible show wpAny _ _ (call (Value.ref 330) _) _ _ _); k_dflt (refine' take_use ?zB ?zF ?zX ?zN ?zT ?zk ?zd ?zu ?zU ?zo ?zt0 ?zt1 ?_; (case zB => k_asm); (case zF => k_asm); (case zX => k_asm); (case zN => k_asm); (case zT => k_asm); (case zk => first | exact rfl | assumption); (case zd => k_room); (case zu => k_units); (case zU => k_updF); (case zo => assumption); (case zt0 => omega); (case zt1 => omega)); intro o' k' t' h' tk' F' N' hS' hk0' hk1') | (k_unfold; (try dsimp only)) | walk1 | (dsimp only; walk1) | (leave1; (try dsimp only))))
  refine go_on ?_
  rename Fr _ _ _ _ => F2
  rename News _ _ _ _ => N2
  refine' pool_tell (by assumption) ?hz _ B1 F2 X1 N2 T1 rfl ?d ?u hl0 ?_
  case d => k_room
  case u => k_units
  case hz =>
    rename ¬ _ < _ => hc
    omega
  intro src os h' tk' hsrc hlt F3 N3
  clear F2 N2
  (repeat' (first | ((with_reducible show wpAny _ _ (call (Value.ref 380) _) _ _ _); refine stop_at ?_) | ((with_reducible show wpAny _ _ (call (Value.ref 366) _) _ _ _); refine stop_at ?_) | ((with_reducible show wpAny _ _ (call (Value.ref 323) _) _ _ _); refine stop_at ?_) | ((with_reducible show wpAny _ _ (call (Value.ref 385) _) _ _ _); refine stop_at ?_) | ((with_reducible show wpAny _ _ (callWith _ (Value.ref _) _ (backTo _ (starEach [] _)) []) _ _ _); k_dflt (refine' callWith_mine0 ?zkF ?zkX ?zkk ?_; (case zkF => with_reducible assumption); (case zkX => with_reducible assumption); (case zkk => with_unfolding_all exact rfl)); (try dsimp only [List.nil_append, List.cons_append, List.append_nil])) | ((with_reducible show wpAny _ _ (callWith _ (Value.ref _) _ (backTo _ (starEach (_ :: _) _)) []) _ _ _); k_dflt (refine' callWith_mine ?zkX ?zkk ?_ ?zhe ?zhp; (case zhe => exact rfl); (case zhp => exact rfl); (case zkX => with_reducible assumption); (case zkk => with_unfolding_all exact rfl))) | ((with_reducible show wpAny _ _ (call (Value.ref 361) _) _ _ _); k_dflt (refine' text_use ?zB ?zF ?zX ?zN ?zT ?zk ?zd ?zu ?zU ?zo ?_; (case zB => k_asm); (case zF => k_asm); (case zX => k_asm); (case zN => k_asm); (case zT => k_asm); (case zk => first | exact rfl | assumption); (case zd => k_room); (case zu => k_units); (case zU => k_updF); (case zo => assumption)); intro o' x' t' h' tk' F' N' hS' hx') | ((with_reducible show wpAny _ _ (call (Value.ref 337) _) _ _ _); k_dflt (refine' one_use ?zB ?zF ?zX ?zN ?zT ?zk ?zd ?zu ?zU ?zo ?zm ?zs ?zne ?zh0 ?zh1 ?_; (case zB => k_asm); (case zF => k_asm); (case zX => k_asm); (case zN => k_asm); (case zT => k_asm); (case zk => first | exact rfl | assumption); (case zd => k_room); (case zu => k_units); (case zU => k_updF); (case zo => assumption); (case zm => k_mem); (case zs => exact rfl); (case zne => omega); (case zh0 => exact Nat.le_of_ble_eq_true rfl); (case zh1 => exact Nat.le_of_ble_eq_true rfl)); intro o' x' t' h' tk' F' N' hS' hx') | ((with_reducible show wpAny _ _ (call (Value.ref 330) _) _ _ _); k_dflt (refine' take_use ?zB ?zF ?zX ?zN ?zT ?zk ?zd ?zu ?zU ?zo ?zt0 ?zt1 ?_; (case zB => k_asm); (case zF => k_asm); (case zX => k_asm); (case zN => k_asm); (case zT => k_asm); (case zk => first | exact rfl | assumption); (case zd => k_room); (case zu => k_units); (case zU => k_updF); (case zo => assumption); (case zt0 => omega); (case zt1 => omega)); intro o' k' t' h' tk' F' N' hS' hk0' hk1') | (k_unfold; (try dsimp only)) | walk1 | (dsimp only; walk1) | (leave1; (try dsimp only))))
  refine go_on ?_
  rename IsSrc _ => hs1
  rename 0 ≤ _ => hk0
  rename _ < 4 => hk4
  obtain ⟨n, hn⟩ := Int.eq_ofNat_of_zero_le hk0
  subst hn
  rename Fr _ _ _ _ => F4
  rename News _ _ _ _ => N4
  with_unfolding_all refine range1_rows F4 N4 ?_
  intro h4 tk4 ta tb tc hr F5 N5 hk5
  clear F4 N4
  (repeat' (first | ((with_reducible show wpAny _ _ (call (Value.ref 380) _) _ _ _); refine stop_at ?_) | ((with_reducible show wpAny _ _ (call (Value.ref 366) _) _ _ _); refine stop_at ?_) | ((with_reducible show wpAny _ _ (call (Value.ref 323) _) _ _ _); refine stop_at ?_) | ((with_reducible show wpAny _ _ (call (Value.ref 385) _) _ _ _); refine stop_at ?_) | ((with_reducible show wpAny _ _ (callWith _ (Value.ref _) _ (backTo _ (starEach [] _)) []) _ _ _); k_dflt (refine' callWith_mine0 ?zkF ?zkX ?zkk ?_; (case zkF => with_reducible assumption); (case zkX => with_reducible assumption); (case zkk => with_unfolding_all exact rfl)); (try dsimp only [List.nil_append, List.cons_append, List.append_nil])) | ((with_reducible show wpAny _ _ (callWith _ (Value.ref _) _ (backTo _ (starEach (_ :: _) _)) []) _ _ _); k_dflt (refine' callWith_mine ?zkX ?zkk ?_ ?zhe ?zhp; (case zhe => exact rfl); (case zhp => exact rfl); (case zkX => with_reducible assumption); (case zkk => with_unfolding_all exact rfl))) | ((with_reducible show wpAny _ _ (call (Value.ref 361) _) _ _ _); k_dflt (refine' text_use ?zB ?zF ?zX ?zN ?zT ?zk ?zd ?zu ?zU ?zo ?_; (case zB => k_asm); (case zF => k_asm); (case zX => k_asm); (case zN => k_asm); (case zT => k_asm); (case zk => first | exact rfl | assumption); (case zd => k_room); (case zu => k_units); (case zU => k_updF); (case zo => assumption)); intro o' x' t' h' tk' F' N' hS' hx') | ((with_reducible show wpAny _ _ (call (Value.ref 337) _) _ _ _); k_dflt (refine' one_use ?zB ?zF ?zX ?zN ?zT ?zk ?zd ?zu ?zU ?zo ?zm ?zs ?zne ?zh0 ?zh1 ?_; (case zB => k_asm); (case zF => k_asm); (case zX => k_asm); (case zN => k_asm); (case zT => k_asm); (case zk => first | exact rfl | assumption); (case zd => k_room); (case zu => k_units); (case zU => k_updF); (case zo => assumption); (case zm => k_mem); (case zs => exact rfl); (case zne => omega); (case zh0 => exact Nat.le_of_ble_eq_true rfl); (case zh1 => exact Nat.le_of_ble_eq_true rfl)); intro o' x' t' h' tk' F' N' hS' hx') | ((with_reducible show wpAny _ _ (call (Value.ref 330) _) _ _ _); k_dflt (refine' take_use ?zB ?zF ?zX ?zN ?zT ?zk ?zd ?zu ?zU ?zo ?zt0 ?zt1 ?_; (case zB => k_asm); (case zF => k_asm); (case zX => k_asm); (case zN => k_asm); (case zT => k_asm); (case zk => first | exact rfl | assumption); (case zd => k_room); (case zu => k_units); (case zU => k_updF); (case zo => assumption); (case zt0 => omega); (case zt1 => omega)); intro o' k' t' h' tk' F' N' hS' hk0' hk1') | (k_unfold; (try dsimp only)) | walk1 | (dsimp only; walk1) | (leave1; (try dsimp only))))
  refine go_on ?_
  refine loops_start N5 hlt (by omega) (by omega) fun R0 hR0 hz1 hz2 hz3 N6 => ?_
  refine rng_led (x := Str.ofString "turn") (LJ src _ R0 (fun _ p => p.1.length ≤ 10 ∧ p.2.length ≤ 100)) rfl hr (rng_small (by omega)) (rng_size (by omega)) F5 N6 (LJ.start hs1 hz1 hz2 hz3) ?_ ?_
  · clear F5 N5 N6 hr hk5 hs1
    intro i t u nx h tk own hi ho hLJ F6 N6
    first | (refine el_0_14 hLJ fun o2 ys k R ps hrf5 hs2 hyl hps hG hq1 hq2 hq3 hq4 => ?_; subst hrf5) | (refine el_1_13 hLJ fun o2 ys k R ps hrf5 hs2 hyl hps hG hq1 hq2 hq3 hq4 => ?_; subst hrf5) | (refine el_2_12 hLJ fun o2 ys k R ps hrf5 hs2 hyl hps hG hq1 hq2 hq3 hq4 => ?_; subst hrf5) | (refine el_3_11 hLJ fun o2 ys k R ps hrf5 hs2 hyl hps hG hq1 hq2 hq3 hq4 => ?_; subst hrf5) | (refine el_4_10 hLJ fun o2 ys k R ps hrf5 hs2 hyl hps hG hq1 hq2 hq3 hq4 => ?_; subst hrf5) | (refine el_5_9 hLJ fun o2 ys k R ps hrf5 hs2 hyl hps hG hq1 hq2 hq3 hq4 => ?_; subst hrf5) | (refine el_6_8 hLJ fun o2 ys k R ps hrf5 hs2 hyl hps hG hq1 hq2 hq3 hq4 => ?_; subst hrf5) | (refine el_7_7 hLJ fun o2 ys k R ps hrf5 hs2 hyl hps hG hq1 hq2 hq3 hq4 => ?_; subst hrf5) | (refine el_8_6 hLJ fun o2 ys k R ps hrf5 hs2 hyl hps hG hq1 hq2 hq3 hq4 => ?_; subst hrf5) | (refine el_9_5 hLJ fun o2 ys k R ps hrf5 hs2 hyl hps hG hq1 hq2 hq3 hq4 => ?_; subst hrf5) | (refine el_10_4 hLJ fun o2 ys k R ps hrf5 hs2 hyl hps hG hq1 hq2 hq3 hq4 => ?_; subst hrf5) | (refine el_11_3 hLJ fun o2 ys k R ps hrf5 hs2 hyl hps hG hq1 hq2 hq3 hq4 => ?_; subst hrf5) | (refine el_12_2 hLJ fun o2 ys k R ps hrf5 hs2 hyl hps hG hq1 hq2 hq3 hq4 => ?_; subst hrf5) | (refine el_13_1 hLJ fun o2 ys k R ps hrf5 hs2 hyl hps hG hq1 hq2 hq3 hq4 => ?_; subst hrf5) | obtain ⟨o2, ys, k, R, ps, rfl, hs2, hyl, hps, hG, hq1, hq2, hq3, hq4⟩ := hLJ
    try clear hLJ
    refine LJ.open N6 hq1 hq2 ho fun Rx hRx hx1 hx2 N7 => ?_
    clear N6
    (repeat' (first | ((with_reducible show wpAny _ _ (call (Value.ref 380) _) _ _ _); refine stop_at ?_) | ((with_reducible show wpAny _ _ (call (Value.ref 366) _) _ _ _); refine stop_at ?_) | ((with_reducible show wpAny _ _ (call (Value.ref 323) _) _ _ _); refine stop_at ?_) | ((with_reducible show wpAny _ _ (call (Value.ref 385) _) _ _ _); refine stop_at ?_) | ((with_reducible show wpAny _ _ (callWith _ (Value.ref _) _ (backTo _ (starEach [] _)) []) _ _ _); k_dflt (refine' callWith_mine0 ?zkF ?zkX ?zkk ?_; (case zkF => with_reducible assumption); (case zkX => with_reducible assumption); (case zkk => with_unfolding_all exact rfl)); (try dsimp only [List.nil_append, List.cons_append, List.append_nil])) | ((with_reducible show wpAny _ _ (callWith _ (Value.ref _) _ (backTo _ (starEach (_ :: _) _)) []) _ _ _); k_dflt (refine' callWith_mine ?zkX ?zkk ?_ ?zhe ?zhp; (case zhe => exact rfl); (case zhp => exact rfl); (case zkX => with_reducible assumption); (case zkk => with_unfolding_all exact rfl))) | ((with_reducible show wpAny _ _ (call (Value.ref 361) _) _ _ _); k_dflt (refine' text_use ?zB ?zF ?zX ?zN ?zT ?zk ?zd ?zu ?zU ?zo ?_; (case zB => k_asm); (case zF => k_asm); (case zX => k_asm); (case zN => k_asm); (case zT => k_asm); (case zk => first | exact rfl | assumption); (case zd => k_room); (case zu => k_units); (case zU => k_updF); (case zo => assumption)); intro o' x' t' h' tk' F' N' hS' hx') | ((with_reducible show wpAny _ _ (call (Value.ref 337) _) _ _ _); k_dflt (refine' one_use ?zB ?zF ?zX ?zN ?zT ?zk ?zd ?zu ?zU ?zo ?zm ?zs ?zne ?zh0 ?zh1 ?_; (case zB => k_asm); (case zF => k_asm); (case zX => k_asm); (case zN => k_asm); (case zT => k_asm); (case zk => first | exact rfl | assumption); (case zd => k_room); (case zu => k_units); (case zU => k_updF); (case zo => assumption); (case zm => k_mem); (case zs => exact rfl); (case zne => omega); (case zh0 => exact Nat.le_of_ble_eq_true rfl); (case zh1 => exact Nat.le_of_ble_eq_true rfl)); intro o' x' t' h' tk' F' N' hS' hx') | ((with_reducible show wpAny _ _ (call (Value.ref 330) _) _ _ _); k_dflt (refine' take_use ?zB ?zF ?zX ?zN ?zT ?zk ?zd ?zu ?zU ?zo ?zt0 ?zt1 ?_; (case zB => k_asm); (case zF => k_asm); (case zX => k_asm); (case zN => k_asm); (case zT => k_asm); (case zk => first | exact rfl | assumption); (case zd => k_room); (case zu => k_units); (case zU => k_updF); (case zo => assumption); (case zt0 => omega); (case zt1 => omega)); intro o' k' t' h' tk' F' N' hS' hk0' hk1') | (k_unfold; (try dsimp only)) | walk1 | (dsimp only; walk1) | (leave1; (try dsimp only))))
    rename Fr _ _ _ _ => F8
    rename News _ _ _ _ => N8
    rename _ < _ ∧ _ < _ ∧ _ < _ ∧ AllLt _ Rx => lD
    rename _ ∈ strsOf _ => hxm
    rename Str.length _ ≤ 6 => hx6
    rename IsSrc _ => hs3
    simp only [List.push_toArray] at N8
    subst hRx
    exact LJ.close F8 N8 hs3 hyl hps hG hq1 hq2 hq3 hq4 ho lD ⟨of3 (P := fun x => x.length ≤ 10) hxm (by decide +kernel) (by decide +kernel) (by decide +kernel), Nat.le_trans hx6 (by decide)⟩ (fun z hz => by simp only [if_neg hz])
  · clear F5 N5 N6 hr hk5 hs1
    intro u nx h tk hLJ F6 N6
    first | (refine el_0_14 hLJ fun o2 ys k R ps hrf5 hs2 hyl hps hG hq1 hq2 hq3 hq4 => ?_; subst hrf5) | (refine el_1_13 hLJ fun o2 ys k R ps hrf5 hs2 hyl hps hG hq1 hq2 hq3 hq4 => ?_; subst hrf5) | (refine el_2_12 hLJ fun o2 ys k R ps hrf5 hs2 hyl hps hG hq1 hq2 hq3 hq4 => ?_; subst hrf5) | (refine el_3_11 hLJ fun o2 ys k R ps hrf5 hs2 hyl hps hG hq1 hq2 hq3 hq4 => ?_; subst hrf5) | (refine el_4_10 hLJ fun o2 ys k R ps hrf5 hs2 hyl hps hG hq1 hq2 hq3 hq4 => ?_; subst hrf5) | (refine el_5_9 hLJ fun o2 ys k R ps hrf5 hs2 hyl hps hG hq1 hq2 hq3 hq4 => ?_; subst hrf5) | (refine el_6_8 hLJ fun o2 ys k R ps hrf5 hs2 hyl hps hG hq1 hq2 hq3 hq4 => ?_; subst hrf5) | (refine el_7_7 hLJ fun o2 ys k R ps hrf5 hs2 hyl hps hG hq1 hq2 hq3 hq4 => ?_; subst hrf5) | (refine el_8_6 hLJ fun o2 ys k R ps hrf5 hs2 hyl hps hG hq1 hq2 hq3 hq4 => ?_; subst hrf5) | (refine el_9_5 hLJ fun o2 ys k R ps hrf5 hs2 hyl hps hG hq1 hq2 hq3 hq4 => ?_; subst hrf5) | (refine el_10_4 hLJ fun o2 ys k R ps hrf5 hs2 hyl hps hG hq1 hq2 hq3 hq4 => ?_; subst hrf5) | (refine el_11_3 hLJ fun o2 ys k R ps hrf5 hs2 hyl hps hG hq1 hq2 hq3 hq4 => ?_; subst hrf5) | (refine el_12_2 hLJ fun o2 ys k R ps hrf5 hs2 hyl hps hG hq1 hq2 hq3 hq4 => ?_; subst hrf5) | (refine el_13_1 hLJ fun o2 ys k R ps hrf5 hs2 hyl hps hG hq1 hq2 hq3 hq4 => ?_; subst hrf5) | obtain ⟨o2, ys, k, R, ps, rfl, hs2, hyl, hps, hG, hq1, hq2, hq3, hq4⟩ := hLJ
    try clear hLJ
    refine loops_mid N6 hs2 hR0 hz1 hz2 hz3 (fun p hp => Nat.ne_of_lt (Nat.lt_trans (hlt p hp) (by omega))) hq4 hps fun R1 hb1 hb2 hb3 hb4 hb5 hb6 N7 => ?_
    clear N6 hps hq1 hq2 hq3 hq4
    (repeat' (first | ((with_reducible show wpAny _ _ (call (Value.ref 380) _) _ _ _); refine stop_at ?_) | ((with_reducible show wpAny _ _ (call (Value.ref 366) _) _ _ _); refine stop_at ?_) | ((with_reducible show wpAny _ _ (call (Value.ref 323) _) _ _ _); refine stop_at ?_) | ((with_reducible show wpAny _ _ (call (Value.ref 385) _) _ _ _); refine stop_at ?_) | ((with_reducible show wpAny _ _ (callWith _ (Value.ref _) _ (backTo _ (starEach [] _)) []) _ _ _); k_dflt (refine' callWith_mine0 ?zkF ?zkX ?zkk ?_; (case zkF => with_reducible assumption); (case zkX => with_reducible assumption); (case zkk => with_unfolding_all exact rfl)); (try dsimp only [List.nil_append, List.cons_append, List.append_nil])) | ((with_reducible show wpAny _ _ (callWith _ (Value.ref _) _ (backTo _ (starEach (_ :: _) _)) []) _ _ _); k_dflt (refine' callWith_mine ?zkX ?zkk ?_ ?zhe ?zhp; (case zhe => exact rfl); (case zhp => exact rfl); (case zkX => with_reducible assumption); (case zkk => with_unfolding_all exact rfl))) | ((with_reducible show wpAny _ _ (call (Value.ref 361) _) _ _ _); k_dflt (refine' text_use ?zB ?zF ?zX ?zN ?zT ?zk ?zd ?zu ?zU ?zo ?_; (case zB => k_asm); (case zF => k_asm); (case zX => k_asm); (case zN => k_asm); (case zT => k_asm); (case zk => first | exact rfl | assumption); (case zd => k_room); (case zu => k_units); (case zU => k_updF); (case zo => assumption)); intro o' x' t' h' tk' F' N' hS' hx') | ((with_reducible show wpAny _ _ (call (Value.ref 337) _) _ _ _); k_dflt (refine' one_use ?zB ?zF ?zX ?zN ?zT ?zk ?zd ?zu ?zU ?zo ?zm ?zs ?zne ?zh0 ?zh1 ?_; (case zB => k_asm); (case zF => k_asm); (case zX => k_asm); (case zN => k_asm); (case zT => k_asm); (case zk => first | exact rfl | assumption); (case zd => k_room); (case zu => k_units); (case zU => k_updF); (case zo => assumption); (case zm => k_mem); (case zs => exact rfl); (case zne => omega); (case zh0 => exact Nat.le_of_ble_eq_true rfl); (case zh1 => exact Nat.le_of_ble_eq_true rfl)); intro o' x' t' h' tk' F' N' hS' hx') | ((with_reducible show wpAny _ _ (call (Value.ref 330) _) _ _ _); k_dflt (refine' take_use ?zB ?zF ?zX ?zN ?zT ?zk ?zd ?zu ?zU ?zo ?zt0 ?zt1 ?_; (case zB => k_asm); (case zF => k_asm); (case zX => k_asm); (case zN => k_asm); (case zT => k_asm); (case zk => first | exact rfl | assumption); (case zd => k_room); (case zu => k_units); (case zU => k_updF); (case zo => assumption); (case zt0 => omega); (case zt1 => omega)); intro o' k' t' h' tk' F' N' hS' hk0' hk1') | (k_unfold; (try dsimp only)) | walk1 | (dsimp only; walk1) | (leave1; (try dsimp only))))
    refine go_on ?_
    rename IsSrc _ => hs4
    rename 0 ≤ _ => hk0'
    rename _ < 6 => hk6
    obtain ⟨n2, hn2⟩ := Int.eq_ofNat_of_zero_le hk0'
    subst hn2
    rename Fr _ _ _ _ => F5
    rename News _ _ _ _ => N5
    with_unfolding_all refine range1_rows F5 N5 ?_
    intro h5 tk5 ta5 tb5 tc5 hr5 F8 N8 hk8
    clear F5 N5
    (repeat' (first | ((with_reducible show wpAny _ _ (call (Value.ref 380) _) _ _ _); refine stop_at ?_) | ((with_reducible show wpAny _ _ (call (Value.ref 366) _) _ _ _); refine stop_at ?_) | ((with_reducible show wpAny _ _ (call (Value.ref 323) _) _ _ _); refine stop_at ?_) | ((with_reducible show wpAny _ _ (call (Value.ref 385) _) _ _ _); refine stop_at ?_) | ((with_reducible show wpAny _ _ (callWith _ (Value.ref _) _ (backTo _ (starEach [] _)) []) _ _ _); k_dflt (refine' callWith_mine0 ?zkF ?zkX ?zkk ?_; (case zkF => with_reducible assumption); (case zkX => with_reducible assumption); (case zkk => with_unfolding_all exact rfl)); (try dsimp only [List.nil_append, List.cons_append, List.append_nil])) | ((with_reducible show wpAny _ _ (callWith _ (Value.ref _) _ (backTo _ (starEach (_ :: _) _)) []) _ _ _); k_dflt (refine' callWith_mine ?zkX ?zkk ?_ ?zhe ?zhp; (case zhe => exact rfl); (case zhp => exact rfl); (case zkX => with_reducible assumption); (case zkk => with_unfolding_all exact rfl))) | ((with_reducible show wpAny _ _ (call (Value.ref 361) _) _ _ _); k_dflt (refine' text_use ?zB ?zF ?zX ?zN ?zT ?zk ?zd ?zu ?zU ?zo ?_; (case zB => k_asm); (case zF => k_asm); (case zX => k_asm); (case zN => k_asm); (case zT => k_asm); (case zk => first | exact rfl | assumption); (case zd => k_room); (case zu => k_units); (case zU => k_updF); (case zo => assumption)); intro o' x' t' h' tk' F' N' hS' hx') | ((with_reducible show wpAny _ _ (call (Value.ref 337) _) _ _ _); k_dflt (refine' one_use ?zB ?zF ?zX ?zN ?zT ?zk ?zd ?zu ?zU ?zo ?zm ?zs ?zne ?zh0 ?zh1 ?_; (case zB => k_asm); (case zF => k_asm); (case zX => k_asm); (case zN => k_asm); (case zT => k_asm); (case zk => first | exact rfl | assumption); (case zd => k_room); (case zu => k_units); (case zU => k_updF); (case zo => assumption); (case zm => k_mem); (case zs => exact rfl); (case zne => omega); (case zh0 => exact Nat.le_of_ble_eq_true rfl); (case zh1 => exact Nat.le_of_ble_eq_true rfl)); intro o' x' t' h' tk' F' N' hS' hx') | ((with_reducible show wpAny _ _ (call (Value.ref 330) _) _ _ _); k_dflt (refine' take_use ?zB ?zF ?zX ?zN ?zT ?zk ?zd ?zu ?zU ?zo ?zt0 ?zt1 ?_; (case zB => k_asm); (case zF => k_asm); (case zX => k_asm); (case zN => k_asm); (case zT => k_asm); (case zk => first | exact rfl | assumption); (case zd => k_room); (case zu => k_units); (case zU => k_updF); (case zo => assumption); (case zt0 => omega); (case zt1 => omega)); intro o' k' t' h' tk' F' N' hS' hk0' hk1') | (k_unfold; (try dsimp only)) | walk1 | (dsimp only; walk1) | (leave1; (try dsimp only))))
    refine go_on ?_
    refine rng_led (x := Str.ofString "turn") (LJ src _ R1 (fun j p => KeyG j p)) rfl hr5 (rng_small (by omega)) (rng_size (by omega)) F8 N8 (LJ.start hs4 hb1 hb2 hb3) ?_ ?_
    · clear F8 N8 hr5 hk8 hs4
      intro i t u nx h tk own hi ho hLJ F6 N6
      first | (refine el_0_14 hLJ fun o2 ys2 k2 R ps2 hrf5 hs2 hyl2 hps2 hG2 hq1 hq2 hq3 hq4 => ?_; subst hrf5) | (refine el_1_13 hLJ fun o2 ys2 k2 R ps2 hrf5 hs2 hyl2 hps2 hG2 hq1 hq2 hq3 hq4 => ?_; subst hrf5) | (refine el_2_12 hLJ fun o2 ys2 k2 R ps2 hrf5 hs2 hyl2 hps2 hG2 hq1 hq2 hq3 hq4 => ?_; subst hrf5) | (refine el_3_11 hLJ fun o2 ys2 k2 R ps2 hrf5 hs2 hyl2 hps2 hG2 hq1 hq2 hq3 hq4 => ?_; subst hrf5) | (refine el_4_10 hLJ fun o2 ys2 k2 R ps2 hrf5 hs2 hyl2 hps2 hG2 hq1 hq2 hq3 hq4 => ?_; subst hrf5) | (refine el_5_9 hLJ fun o2 ys2 k2 R ps2 hrf5 hs2 hyl2 hps2 hG2 hq1 hq2 hq3 hq4 => ?_; subst hrf5) | (refine el_6_8 hLJ fun o2 ys2 k2 R ps2 hrf5 hs2 hyl2 hps2 hG2 hq1 hq2 hq3 hq4 => ?_; subst hrf5) | (refine el_7_7 hLJ fun o2 ys2 k2 R ps2 hrf5 hs2 hyl2 hps2 hG2 hq1 hq2 hq3 hq4 => ?_; subst hrf5) | (refine el_8_6 hLJ fun o2 ys2 k2 R ps2 hrf5 hs2 hyl2 hps2 hG2 hq1 hq2 hq3 hq4 => ?_; subst hrf5) | (refine el_9_5 hLJ fun o2 ys2 k2 R ps2 hrf5 hs2 hyl2 hps2 hG2 hq1 hq2 hq3 hq4 => ?_; subst hrf5) | (refine el_10_4 hLJ fun o2 ys2 k2 R ps2 hrf5 hs2 hyl2 hps2 hG2 hq1 hq2 hq3 hq4 => ?_; subst hrf5) | (refine el_11_3 hLJ fun o2 ys2 k2 R ps2 hrf5 hs2 hyl2 hps2 hG2 hq1 hq2 hq3 hq4 => ?_; subst hrf5) | (refine el_12_2 hLJ fun o2 ys2 k2 R ps2 hrf5 hs2 hyl2 hps2 hG2 hq1 hq2 hq3 hq4 => ?_; subst hrf5) | (refine el_13_1 hLJ fun o2 ys2 k2 R ps2 hrf5 hs2 hyl2 hps2 hG2 hq1 hq2 hq3 hq4 => ?_; subst hrf5) | obtain ⟨o2, ys2, k2, R, ps2, rfl, hs2, hyl2, hps2, hG2, hq1, hq2, hq3, hq4⟩ := hLJ
      try clear hLJ
      refine LJ.open N6 hq1 hq2 ho fun Rx hRx hx1 hx2 N7 => ?_
      clear N6
      (repeat' (first | ((with_reducible show wpAny _ _ (call (Value.ref 380) _) _ _ _); refine stop_at ?_) | ((with_reducible show wpAny _ _ (call (Value.ref 366) _) _ _ _); refine stop_at ?_) | ((with_reducible show wpAny _ _ (call (Value.ref 323) _) _ _ _); refine stop_at ?_) | ((with_reducible show wpAny _ _ (call (Value.ref 385) _) _ _ _); refine stop_at ?_) | ((with_reducible show wpAny _ _ (callWith _ (Value.ref _) _ (backTo _ (starEach [] _)) []) _ _ _); k_dflt (refine' callWith_mine0 ?zkF ?zkX ?zkk ?_; (case zkF => with_reducible assumption); (case zkX => with_reducible assumption); (case zkk => with_unfolding_all exact rfl)); (try dsimp only [List.nil_append, List.cons_append, List.append_nil])) | ((with_reducible show wpAny _ _ (callWith _ (Value.ref _) _ (backTo _ (starEach (_ :: _) _)) []) _ _ _); k_dflt (refine' callWith_mine ?zkX ?zkk ?_ ?zhe ?zhp; (case zhe => exact rfl); (case zhp => exact rfl); (case zkX => with_reducible assumption); (case zkk => with_unfolding_all exact rfl))) | ((with_reducible show wpAny _ _ (call (Value.ref 361) _) _ _ _); k_dflt (refine' text_use ?zB ?zF ?zX ?zN ?zT ?zk ?zd ?zu ?zU ?zo ?_; (case zB => k_asm); (case zF => k_asm); (case zX => k_asm); (case zN => k_asm); (case zT => k_asm); (case zk => first | exact rfl | assumption); (case zd => k_room); (case zu => k_units); (case zU => k_updF); (case zo => assumption)); intro o' x' t' h' tk' F' N' hS' hx') | ((with_reducible show wpAny _ _ (call (Value.ref 337) _) _ _ _); k_dflt (refine' one_use ?zB ?zF ?zX ?zN ?zT ?zk ?zd ?zu ?zU ?zo ?zm ?zs ?zne ?zh0 ?zh1 ?_; (case zB => k_asm); (case zF => k_asm); (case zX => k_asm); (case zN => k_asm); (case zT => k_asm); (case zk => first | exact rfl | assumption); (case zd => k_room); (case zu => k_units); (case zU => k_updF); (case zo => assumption); (case zm => k_mem); (case zs => exact rfl); (case zne => omega); (case zh0 => exact Nat.le_of_ble_eq_true rfl); (case zh1 => exact Nat.le_of_ble_eq_true rfl)); intro o' x' t' h' tk' F' N' hS' hx') | ((with_reducible show wpAny _ _ (call (Value.ref 330) _) _ _ _); k_dflt (refine' take_use ?zB ?zF ?zX ?zN ?zT ?zk ?zd ?zu ?zU ?zo ?zt0 ?zt1 ?_; (case zB => k_asm); (case zF => k_asm); (case zX => k_asm); (case zN => k_asm); (case zT => k_asm); (case zk => first | exact rfl | assumption); (case zd => k_room); (case zu => k_units); (case zU => k_updF); (case zo => assumption); (case zt0 => omega); (case zt1 => omega)); intro o' k' t' h' tk' F' N' hS' hk0' hk1') | (k_unfold; (try dsimp only)) | walk1 | (dsimp only; walk1) | (leave1; (try dsimp only))))
      rename _ ∈ strsOf _ => hxm
      have hxl := of3 (P := fun x => x.length ≤ 3) hxm (by decide +kernel) (by decide +kernel) (by decide +kernel)
      have hdl := dig_len (j := i) (by omega)
      refine go_on ?_
      refine KOpn.add ?hz ?_
      case hz =>
        first | omega | (simp only [PySem.Str.length_append]; omega)
      intro _ _ _
      (repeat' (first | ((with_reducible show wpAny _ _ (call (Value.ref 380) _) _ _ _); refine stop_at ?_) | ((with_reducible show wpAny _ _ (call (Value.ref 366) _) _ _ _); refine stop_at ?_) | ((with_reducible show wpAny _ _ (call (Value.ref 323) _) _ _ _); refine stop_at ?_) | ((with_reducible show wpAny _ _ (call (Value.ref 385) _) _ _ _); refine stop_at ?_) | ((with_reducible show wpAny _ _ (callWith _ (Value.ref _) _ (backTo _ (starEach [] _)) []) _ _ _); k_dflt (refine' callWith_mine0 ?zkF ?zkX ?zkk ?_; (case zkF => with_reducible assumption); (case zkX => with_reducible assumption); (case zkk => with_unfolding_all exact rfl)); (try dsimp only [List.nil_append, List.cons_append, List.append_nil])) | ((with_reducible show wpAny _ _ (callWith _ (Value.ref _) _ (backTo _ (starEach (_ :: _) _)) []) _ _ _); k_dflt (refine' callWith_mine ?zkX ?zkk ?_ ?zhe ?zhp; (case zhe => exact rfl); (case zhp => exact rfl); (case zkX => with_reducible assumption); (case zkk => with_unfolding_all exact rfl))) | ((with_reducible show wpAny _ _ (call (Value.ref 361) _) _ _ _); k_dflt (refine' text_use ?zB ?zF ?zX ?zN ?zT ?zk ?zd ?zu ?zU ?zo ?_; (case zB => k_asm); (case zF => k_asm); (case zX => k_asm); (case zN => k_asm); (case zT => k_asm); (case zk => first | exact rfl | assumption); (case zd => k_room); (case zu => k_units); (case zU => k_updF); (case zo => assumption)); intro o' x' t' h' tk' F' N' hS' hx') | ((with_reducible show wpAny _ _ (call (Value.ref 337) _) _ _ _); k_dflt (refine' one_use ?zB ?zF ?zX ?zN ?zT ?zk ?zd ?zu ?zU ?zo ?zm ?zs ?zne ?zh0 ?zh1 ?_; (case zB => k_asm); (case zF => k_asm); (case zX => k_asm); (case zN => k_asm); (case zT => k_asm); (case zk => first | exact rfl | assumption); (case zd => k_room); (case zu => k_units); (case zU => k_updF); (case zo => assumption); (case zm => k_mem); (case zs => exact rfl); (case zne => omega); (case zh0 => exact Nat.le_of_ble_eq_true rfl); (case zh1 => exact Nat.le_of_ble_eq_true rfl)); intro o' x' t' h' tk' F' N' hS' hx') | ((with_reducible show wpAny _ _ (call (Value.ref 330) _) _ _ _); k_dflt (refine' take_use ?zB ?zF ?zX ?zN ?zT ?zk ?zd ?zu ?zU ?zo ?zt0 ?zt1 ?_; (case zB => k_asm); (case zF => k_asm); (case zX => k_asm); (case zN => k_asm); (case zT => k_asm); (case zk => first | exact rfl | assumption); (case zd => k_room); (case zu => k_units); (case zU => k_updF); (case zo => assumption); (case zt0 => omega); (case zt1 => omega)); intro o' k' t' h' tk' F' N' hS' hk0' hk1') | (k_unfold; (try dsimp only)) | walk1 | (dsimp only; walk1) | (leave1; (try dsimp only))))
      rename Fr _ _ _ _ => F8
      rename News _ _ _ _ => N8
      rename _ < _ ∧ _ < _ ∧ _ < _ ∧ AllLt _ Rx => lD
      rename Str.length _ ≤ 6 => hx6
      rename IsSrc _ => hs3
      simp only [List.push_toArray] at N8
      subst hRx
      exact LJ.close F8 N8 hs3 hyl2 hps2 hG2 hq1 hq2 hq3 hq4 ho lD ⟨⟨by rw [PySem.Str.length_append]; omega, Nat.le_trans hx6 (by decide)⟩, key_mem hxm rfl rfl rfl⟩ (fun z hz => by simp only [if_neg hz])
    · clear F8 N8 hr5 hk8 hs4
      intro u nx h tk hLJ F6 N6
      first | (refine el_0_14 hLJ fun o2 ys2 k2 R ps2 hrf5 hs2 hyl2 hps2 hG2 hq1 hq2 hq3 hq4 => ?_; subst hrf5) | (refine el_1_13 hLJ fun o2 ys2 k2 R ps2 hrf5 hs2 hyl2 hps2 hG2 hq1 hq2 hq3 hq4 => ?_; subst hrf5) | (refine el_2_12 hLJ fun o2 ys2 k2 R ps2 hrf5 hs2 hyl2 hps2 hG2 hq1 hq2 hq3 hq4 => ?_; subst hrf5) | (refine el_3_11 hLJ fun o2 ys2 k2 R ps2 hrf5 hs2 hyl2 hps2 hG2 hq1 hq2 hq3 hq4 => ?_; subst hrf5) | (refine el_4_10 hLJ fun o2 ys2 k2 R ps2 hrf5 hs2 hyl2 hps2 hG2 hq1 hq2 hq3 hq4 => ?_; subst hrf5) | (refine el_5_9 hLJ fun o2 ys2 k2 R ps2 hrf5 hs2 hyl2 hps2 hG2 hq1 hq2 hq3 hq4 => ?_; subst hrf5) | (refine el_6_8 hLJ fun o2 ys2 k2 R ps2 hrf5 hs2 hyl2 hps2 hG2 hq1 hq2 hq3 hq4 => ?_; subst hrf5) | (refine el_7_7 hLJ fun o2 ys2 k2 R ps2 hrf5 hs2 hyl2 hps2 hG2 hq1 hq2 hq3 hq4 => ?_; subst hrf5) | (refine el_8_6 hLJ fun o2 ys2 k2 R ps2 hrf5 hs2 hyl2 hps2 hG2 hq1 hq2 hq3 hq4 => ?_; subst hrf5) | (refine el_9_5 hLJ fun o2 ys2 k2 R ps2 hrf5 hs2 hyl2 hps2 hG2 hq1 hq2 hq3 hq4 => ?_; subst hrf5) | (refine el_10_4 hLJ fun o2 ys2 k2 R ps2 hrf5 hs2 hyl2 hps2 hG2 hq1 hq2 hq3 hq4 => ?_; subst hrf5) | (refine el_11_3 hLJ fun o2 ys2 k2 R ps2 hrf5 hs2 hyl2 hps2 hG2 hq1 hq2 hq3 hq4 => ?_; subst hrf5) | (refine el_12_2 hLJ fun o2 ys2 k2 R ps2 hrf5 hs2 hyl2 hps2 hG2 hq1 hq2 hq3 hq4 => ?_; subst hrf5) | (refine el_13_1 hLJ fun o2 ys2 k2 R ps2 hrf5 hs2 hyl2 hps2 hG2 hq1 hq2 hq3 hq4 => ?_; subst hrf5) | obtain ⟨o2, ys2, k2, R, ps2, rfl, hs2, hyl2, hps2, hG2, hq1, hq2, hq3, hq4⟩ := hLJ
      try clear hLJ
      have mp := hq4 _ hb4
      have hpsR := hb5.mono hq4
      have hl1 := hb5.1
      have hl2 := hps2.1
      have hS1 := short_of (ps := ps) (by omega) hG
      have hS2 := short_of (ps := ps2) (by omega) (fun j p hp => (hG2 j p hp).1)
      have hA2 := apart_of (qs := ps2) (by omega) hG2
      (repeat' (first | ((with_reducible show wpAny _ _ (call (Value.ref 380) _) _ _ _); refine stop_at ?_) | ((with_reducible show wpAny _ _ (call (Value.ref 366) _) _ _ _); refine stop_at ?_) | ((with_reducible show wpAny _ _ (call (Value.ref 323) _) _ _ _); refine stop_at ?_) | ((with_reducible show wpAny _ _ (call (Value.ref 385) _) _ _ _); refine stop_at ?_) | ((with_reducible show wpAny _ _ (callWith _ (Value.ref _) _ (backTo _ (starEach [] _)) []) _ _ _); k_dflt (refine' callWith_mine0 ?zkF ?zkX ?zkk ?_; (case zkF => with_reducible assumption); (case zkX => with_reducible assumption); (case zkk => with_unfolding_all exact rfl)); (try dsimp only [List.nil_append, List.cons_append, List.append_nil])) | ((with_reducible show wpAny _ _ (callWith _ (Value.ref _) _ (backTo _ (starEach (_ :: _) _)) []) _ _ _); k_dflt (refine' callWith_mine ?zkX ?zkk ?_ ?zhe ?zhp; (case zhe => exact rfl); (case zhp => exact rfl); (case zkX => with_reducible assumption); (case zkk => with_unfolding_all exact rfl))) | ((with_reducible show wpAny _ _ (call (Value.ref 361) _) _ _ _); k_dflt (refine' text_use ?zB ?zF ?zX ?zN ?zT ?zk ?zd ?zu ?zU ?zo ?_; (case zB => k_asm); (case zF => k_asm); (case zX => k_asm); (case zN => k_asm); (case zT => k_asm); (case zk => first | exact rfl | assumption); (case zd => k_room); (case zu => k_units); (case zU => k_updF); (case zo => assumption)); intro o' x' t' h' tk' F' N' hS' hx') | ((with_reducible show wpAny _ _ (call (Value.ref 337) _) _ _ _); k_dflt (refine' one_use ?zB ?zF ?zX ?zN ?zT ?zk ?zd ?zu ?zU ?zo ?zm ?zs ?zne ?zh0 ?zh1 ?_; (case zB => k_asm); (case zF => k_asm); (case zX => k_asm); (case zN => k_asm); (case zT => k_asm); (case zk => first | exact rfl | assumption); (case zd => k_room); (case zu => k_units); (case zU => k_updF); (case zo => assumption); (case zm => k_mem); (case zs => exact rfl); (case zne => omega); (case zh0 => exact Nat.le_of_ble_eq_true rfl); (case zh1 => exact Nat.le_of_ble_eq_true rfl)); intro o' x' t' h' tk' F' N' hS' hx') | ((with_reducible show wpAny _ _ (call (Value.ref 330) _) _ _ _); k_dflt (refine' take_use ?zB ?zF ?zX ?zN ?zT ?zk ?zd ?zu ?zU ?zo ?zt0 ?zt1 ?_; (case zB => k_asm); (case zF => k_asm); (case zX => k_asm); (case zN => k_asm); (case zT => k_asm); (case zk => first | exact rfl | assumption); (case zd => k_room); (case zu => k_units); (case zU => k_updF); (case zo => assumption); (case zt0 => omega); (case zt1 => omega)); intro o' k' t' h' tk' F' N' hS' hk0' hk1') | (k_unfold; (try dsimp only)) | walk1 | (dsimp only; walk1) | (leave1; (try dsimp only))))
      refine go_on ?_
      rename Fr _ _ _ _ => F9
      rename News _ _ _ _ => N9
      rename _ ∈ strsOf _ => hxm
      refine' Tell.use (room := 8) B1 F9 X1 N9 T1 rfl ?d ?u (startRight_tell (ps := ps) (qs := ps2) (pvs := ys) (qvs := ys2) (kp := k) (kq := k2) _ ?hp ?hps ?hq ?hqs hS1 hS2 hA2 ?hnm) (fun p hp => hp) ?_
      case d => k_room
      case u => k_units
      case hp => k_mem
      case hps => exact hpsR.mono (fun p hp => by k_mem)
      case hq => k_mem
      case hqs => exact hps2.mono (fun p hp => by k_mem)
      case hnm => exact of2 (P := fun x => x = Str.ofString "e" ∨ x = Str.ofString "q:e" ∨ x = Str.ofString "p:e") hxm (.inl rfl) (.inr (.inl rfl))
      rintro r' nw' h' tk' F10 N10 ⟨rfl, rfl⟩
      clear F9 N9
      obtain ⟨F11, N11⟩ := down0 B0 B1 F10 N10 FT1 hb
      clear F10 N10 B1 X1 T1
      (repeat' (first | ((with_reducible show wpAny _ _ (call (Value.ref 380) _) _ _ _); refine stop_at ?_) | ((with_reducible show wpAny _ _ (call (Value.ref 366) _) _ _ _); refine stop_at ?_) | ((with_reducible show wpAny _ _ (call (Value.ref 323) _) _ _ _); refine stop_at ?_) | ((with_reducible show wpAny _ _ (call (Value.ref 385) _) _ _ _); refine stop_at ?_) | ((with_reducible show wpAny _ _ (callWith _ (Value.ref _) _ (backTo _ (starEach [] _)) []) _ _ _); k_dflt (refine' callWith_mine0 ?zkF ?zkX ?zkk ?_; (case zkF => with_reducible assumption); (case zkX => with_reducible assumption); (case zkk => with_unfolding_all exact rfl)); (try dsimp only [List.nil_append, List.cons_append, List.append_nil])) | ((with_reducible show wpAny _ _ (callWith _ (Value.ref _) _ (backTo _ (starEach (_ :: _) _)) []) _ _ _); k_dflt (refine' callWith_mine ?zkX ?zkk ?_ ?zhe ?zhp; (case zhe => exact rfl); (case zhp => exact rfl); (case zkX => with_reducible assumption); (case zkk => with_unfolding_all exact rfl))) | ((with_reducible show wpAny _ _ (call (Value.ref 361) _) _ _ _); k_dflt (refine' text_use ?zB ?zF ?zX ?zN ?zT ?zk ?zd ?zu ?zU ?zo ?_; (case zB => k_asm); (case zF => k_asm); (case zX => k_asm); (case zN => k_asm); (case zT => k_asm); (case zk => first | exact rfl | assumption); (case zd => k_room); (case zu => k_units); (case zU => k_updF); (case zo => assumption)); intro o' x' t' h' tk' F' N' hS' hx') | ((with_reducible show wpAny _ _ (call (Value.ref 337) _) _ _ _); k_dflt (refine' one_use ?zB ?zF ?zX ?zN ?zT ?zk ?zd ?zu ?zU ?zo ?zm ?zs ?zne ?zh0 ?zh1 ?_; (case zB => k_asm); (case zF => k_asm); (case zX => k_asm); (case zN => k_asm); (case zT => k_asm); (case zk => first | exact rfl | assumption); (case zd => k_room); (case zu => k_units); (case zU => k_updF); (case zo => assumption); (case zm => k_mem); (case zs => exact rfl); (case zne => omega); (case zh0 => exact Nat.le_of_ble_eq_true rfl); (case zh1 => exact Nat.le_of_ble_eq_true rfl)); intro o' x' t' h' tk' F' N' hS' hx') | ((with_reducible show wpAny _ _ (call (Value.ref 330) _) _ _ _); k_dflt (refine' take_use ?zB ?zF ?zX ?zN ?zT ?zk ?zd ?zu ?zU ?zo ?zt0 ?zt1 ?_; (case zB => k_asm); (case zF => k_asm); (case zX => k_asm); (case zN => k_asm); (case zT => k_asm); (case zk => first | exact rfl | assumption); (case zd => k_room); (case zu => k_units); (case zU => k_updF); (case zo => assumption); (case zt0 => omega); (case zt1 => omega)); intro o' k' t' h' tk' F' N' hS' hk0' hk1') | (k_unfold; (try dsimp only)) | walk1 | (dsimp only; walk1) | (leave1; (try dsimp only))))
      refine go_on ?_
      rename Fr _ _ _ _ => F12
      rename News _ _ _ _ => N12
      rename IsSrc _ => hs5
      refine kinds_start N12 hs5 (fun p hp => hq4 _ (hb6 p hp)) hlt hTab hT75 (by omega) h82 fun hK0 N13 => ?_
      clear N12
      refine list_led (vs := [Value.str (Str.ofString "text") _, Value.str (Str.ofString "comment") _, Value.str (Str.ofString "instruction") _]) (x := Str.ofString "kind") (KJ src _ _) rfl (.tail _ (.tail _ (.head _))) F12 N13 hK0 ?_ ?_
      · clear F12 N13 hK0 hs5
        intro i v u nx h tk own hv ho hK F6 N6
        have hEl := kinds_mem hv
        first | (refine el_0_4 hEl fun kd tkd hrf2 hkd => ?_; subst hrf2) | (refine el_1_3 hEl fun kd tkd hrf2 hkd => ?_; subst hrf2) | (refine el_2_2 hEl fun kd tkd hrf2 hkd => ?_; subst hrf2) | (refine el_3_1 hEl fun kd tkd hrf2 hkd => ?_; subst hrf2) | obtain ⟨kd, tkd, rfl, hkd⟩ := hEl
        try clear hEl
        first | (refine el_0_11 hK fun o2 oT T2 hrf3 hs2 hTab2 hg1 hg2 hg3 hg4 hg5 => ?_; subst hrf3) | (refine el_1_10 hK fun o2 oT T2 hrf3 hs2 hTab2 hg1 hg2 hg3 hg4 hg5 => ?_; subst hrf3) | (refine el_2_9 hK fun o2 oT T2 hrf3 hs2 hTab2 hg1 hg2 hg3 hg4 hg5 => ?_; subst hrf3) | (refine el_3_8 hK fun o2 oT T2 hrf3 hs2 hTab2 hg1 hg2 hg3 hg4 hg5 => ?_; subst hrf3) | (refine el_4_7 hK fun o2 oT T2 hrf3 hs2 hTab2 hg1 hg2 hg3 hg4 hg5 => ?_; subst hrf3) | (refine el_5_6 hK fun o2 oT T2 hrf3 hs2 hTab2 hg1 hg2 hg3 hg4 hg5 => ?_; subst hrf3) | (refine el_6_5 hK fun o2 oT T2 hrf3 hs2 hTab2 hg1 hg2 hg3 hg4 hg5 => ?_; subst hrf3) | (refine el_7_4 hK fun o2 oT T2 hrf3 hs2 hTab2 hg1 hg2 hg3 hg4 hg5 => ?_; subst hrf3) | (refine el_8_3 hK fun o2 oT T2 hrf3 hs2 hTab2 hg1 hg2 hg3 hg4 hg5 => ?_; subst hrf3) | (refine el_9_2 hK fun o2 oT T2 hrf3 hs2 hTab2 hg1 hg2 hg3 hg4 hg5 => ?_; subst hrf3) | (refine el_10_1 hK fun o2 oT T2 hrf3 hs2 hTab2 hg1 hg2 hg3 hg4 hg5 => ?_; subst hrf3) | obtain ⟨o2, oT, T2, rfl, hs2, hTab2, hg1, hg2, hg3, hg4, hg5⟩ := hK
        try clear hK
        refine kinds_open N6 hg1 hg3 ho fun R2 hR2 hR2s N7 => ?_
        clear N6
        (repeat' (first | ((with_reducible show wpAny _ _ (call (Value.ref 380) _) _ _ _); refine stop_at ?_) | ((with_reducible show wpAny _ _ (call (Value.ref 366) _) _ _ _); refine stop_at ?_) | ((with_reducible show wpAny _ _ (call (Value.ref 323) _) _ _ _); refine stop_at ?_) | ((with_reducible show wpAny _ _ (call (Value.ref 385) _) _ _ _); refine stop_at ?_) | ((with_reducible show wpAny _ _ (callWith _ (Value.ref _) _ (backTo _ (starEach [] _)) []) _ _ _); k_dflt (refine' callWith_mine0 ?zkF ?zkX ?zkk ?_; (case zkF => with_reducible assumption); (case zkX => with_reducible assumption); (case zkk => with_unfolding_all exact rfl)); (try dsimp only [List.nil_append, List.cons_append, List.append_nil])) | ((with_reducible show wpAny _ _ (callWith _ (Value.ref _) _ (backTo _ (starEach (_ :: _) _)) []) _ _ _); k_dflt (refine' callWith_mine ?zkX ?zkk ?_ ?zhe ?zhp; (case zhe => exact rfl); (case zhp => exact rfl); (case zkX => with_reducible assumption); (case zkk => with_unfolding_all exact rfl))) | ((with_reducible show wpAny _ _ (call (Value.ref 361) _) _ _ _); k_dflt (refine' text_use ?zB ?zF ?zX ?zN ?zT ?zk ?zd ?zu ?zU ?zo ?_; (case zB => k_asm); (case zF => k_asm); (case zX => k_asm); (case zN => k_asm); (case zT => k_asm); (case zk => first | exact rfl | assumption); (case zd => k_room); (case zu => k_units); (case zU => k_updF); (case zo => assumption)); intro o' x' t' h' tk' F' N' hS' hx') | ((with_reducible show wpAny _ _ (call (Value.ref 337) _) _ _ _); k_dflt (refine' one_use ?zB ?zF ?zX ?zN ?zT ?zk ?zd ?zu ?zU ?zo ?zm ?zs ?zne ?zh0 ?zh1 ?_; (case zB => k_asm); (case zF => k_asm); (case zX => k_asm); (case zN => k_asm); (case zT => k_asm); (case zk => first | exact rfl | assumption); (case zd => k_room); (case zu => k_units); (case zU => k_updF); (case zo => assumption); (case zm => k_mem); (case zs => exact rfl); (case zne => omega); (case zh0 => exact Nat.le_of_ble_eq_true rfl); (case zh1 => exact Nat.le_of_ble_eq_true rfl)); intro o' x' t' h' tk' F' N' hS' hx') | ((with_reducible show wpAny _ _ (call (Value.ref 330) _) _ _ _); k_dflt (refine' take_use ?zB ?zF ?zX ?zN ?zT ?zk ?zd ?zu ?zU ?zo ?zt0 ?zt1 ?_; (case zB => k_asm); (case zF => k_asm); (case zX => k_asm); (case zN => k_asm); (case zT => k_asm); (case zk => first | exact rfl | assumption); (case zd => k_room); (case zu => k_units); (case zU => k_updF); (case zo => assumption); (case zt0 => omega); (case zt1 => omega)); intro o' k' t' h' tk' F' N' hS' hk0' hk1') | (k_unfold; (try dsimp only)) | walk1 | (dsimp only; walk1) | (leave1; (try dsimp only))))
        refine go_on ?_
        rename Fr _ _ _ _ => F9
        rename News _ _ _ _ => N9
        rename _ ∈ strsOf _ => hxm
        rename Str.length _ ≤ 6 => hx6
        rename IsSrc _ => hs3
        subst hR2
        rename _ < _ ∧ AllLt _ _ => lD
        have hlD : @LT.lt Nat _ src _ ∧ ∀ p ∈ (375, oT) :: (T2 ++ own), p.1 < _ := ⟨lD.1, allLt_mem lD.2⟩
        refine' TellB.use (room := 14) (outer := []) B0 F9 U (news_sub N9 ?hsb) hb (fun b hm => nomatch hm) rfl ?d ?u (leafAny_tell hkd ?hx ?ht _ (hTab2.mono (fun p hp => .tail _ (.tail _ (List.mem_append_left _ hp)))) (kinds_off hg2 hg3 ho hlD)) ?_
        case d => k_room
        case u => k_units
        case hx => exact Nat.le_trans hx6 (by decide)
        case ht => exact of2 (P := fun x => x.length ≤ 1000) hxm (by decide +kernel) (by decide +kernel)
        case hsb =>
          intro p hp
          rcases List.mem_cons.mp hp with rfl | hp
          · exact .tail _ (.tail _ (.head _))
          · rcases List.mem_cons.mp hp with rfl | hp
            · exact .head _
            · rcases List.mem_cons.mp hp with rfl | hp
              · exact .tail _ (.head _)
              · exact .tail _ (.tail _ (.tail _ hp))
        intro r' nw' h' tk' h₁ B1 F1 N1 U1 FT2 hP'
        obtain ⟨rfl, hc⟩ := hP'
        obtain ⟨F2, N2⟩ := down0 B0 B1 F1 N1 FT2 hb
        clear B1 F1 N1 U1 F9 N9
        (repeat' (first | ((with_reducible show wpAny _ _ (call (Value.ref 380) _) _ _ _); refine stop_at ?_) | ((with_reducible show wpAny _ _ (call (Value.ref 366) _) _ _ _); refine stop_at ?_) | ((with_reducible show wpAny _ _ (call (Value.ref 323) _) _ _ _); refine stop_at ?_) | ((with_reducible show wpAny _ _ (call (Value.ref 385) _) _ _ _); refine stop_at ?_) | ((with_reducible show wpAny _ _ (callWith _ (Value.ref _) _ (backTo _ (starEach [] _)) []) _ _ _); k_dflt (refine' callWith_mine0 ?zkF ?zkX ?zkk ?_; (case zkF => with_reducible assumption); (case zkX => with_reducible assumption); (case zkk => with_unfolding_all exact rfl)); (try dsimp only [List.nil_append, List.cons_append, List.append_nil])) | ((with_reducible show wpAny _ _ (callWith _ (Value.ref _) _ (backTo _ (starEach (_ :: _) _)) []) _ _ _); k_dflt (refine' callWith_mine ?zkX ?zkk ?_ ?zhe ?zhp; (case zhe => exact rfl); (case zhp => exact rfl); (case zkX => with_reducible assumption); (case zkk => with_unfolding_all exact rfl))) | ((with_reducible show wpAny _ _ (call (Value.ref 361) _) _ _ _); k_dflt (refine' text_use ?zB ?zF ?zX ?zN ?zT ?zk ?zd ?zu ?zU ?zo ?_; (case zB => k_asm); (case zF => k_asm); (case zX => k_asm); (case zN => k_asm); (case zT => k_asm); (case zk => first | exact rfl | assumption); (case zd => k_room); (case zu => k_units); (case zU => k_updF); (case zo => assumption)); intro o' x' t' h' tk' F' N' hS' hx') | ((with_reducible show wpAny _ _ (call (Value.ref 337) _) _ _ _); k_dflt (refine' one_use ?zB ?zF ?zX ?zN ?zT ?zk ?zd ?zu ?zU ?zo ?zm ?zs ?zne ?zh0 ?zh1 ?_; (case zB => k_asm); (case zF => k_asm); (case zX => k_asm); (case zN => k_asm); (case zT => k_asm); (case zk => first | exact rfl | assumption); (case zd => k_room); (case zu => k_units); (case zU => k_updF); (case zo => assumption); (case zm => k_mem); (case zs => exact rfl); (case zne => omega); (case zh0 => exact Nat.le_of_ble_eq_true rfl); (case zh1 => exact Nat.le_of_ble_eq_true rfl)); intro o' x' t' h' tk' F' N' hS' hx') | ((with_reducible show wpAny _ _ (call (Value.ref 330) _) _ _ _); k_dflt (refine' take_use ?zB ?zF ?zX ?zN ?zT ?zk ?zd ?zu ?zU ?zo ?zt0 ?zt1 ?_; (case zB => k_asm); (case zF => k_asm); (case zX => k_asm); (case zN => k_asm); (case zT => k_asm); (case zk => first | exact rfl | assumption); (case zd => k_room); (case zu => k_units); (case zU => k_updF); (case zo => assumption); (case zt0 => omega); (case zt1 => omega)); intro o' k' t' h' tk' F' N' hS' hk0' hk1') | (k_unfold; (try dsimp only)) | walk1 | (dsimp only; walk1) | (leave1; (try dsimp only))))
        rename Fr _ _ _ _ => F8
        rename News _ _ _ _ => N8
        exact kinds_close F8 N8 hs3 hTab2 hg1 hg2 hg3 hg4 hg5 ho hc (fun z hz => by simp only [if_neg hz])
      · clear F12 N13 hK0 hs5
        intro u nx h tk hK F6 N6
        (repeat' (first | ((with_reducible show wpAny _ _ (call (Value.ref 380) _) _ _ _); refine stop_at ?_) | ((with_reducible show wpAny _ _ (call (Value.ref 366) _) _ _ _); refine stop_at ?_) | ((with_reducible show wpAny _ _ (call (Value.ref 323) _) _ _ _); refine stop_at ?_) | ((with_reducible show wpAny _ _ (call (Value.ref 385) _) _ _ _); refine stop_at ?_) | ((with_reducible show wpAny _ _ (callWith _ (Value.ref _) _ (backTo _ (starEach [] _)) []) _ _ _); k_dflt (refine' callWith_mine0 ?zkF ?zkX ?zkk ?_; (case zkF => with_reducible assumption); (case zkX => with_reducible assumption); (case zkk => with_unfolding_all exact rfl)); (try dsimp only [List.nil_append, List.cons_append, List.append_nil])) | ((with_reducible show wpAny _ _ (callWith _ (Value.ref _) _ (backTo _ (starEach (_ :: _) _)) []) _ _ _); k_dflt (refine' callWith_mine ?zkX ?zkk ?_ ?zhe ?zhp; (case zhe => exact rfl); (case zhp => exact rfl); (case zkX => with_reducible assumption); (case zkk => with_unfolding_all exact rfl))) | ((with_reducible show wpAny _ _ (call (Value.ref 361) _) _ _ _); k_dflt (refine' text_use ?zB ?zF ?zX ?zN ?zT ?zk ?zd ?zu ?zU ?zo ?_; (case zB => k_asm); (case zF => k_asm); (case zX => k_asm); (case zN => k_asm); (case zT => k_asm); (case zk => first | exact rfl | assumption); (case zd => k_room); (case zu => k_units); (case zU => k_updF); (case zo => assumption)); intro o' x' t' h' tk' F' N' hS' hx') | ((with_reducible show wpAny _ _ (call (Value.ref 337) _) _ _ _); k_dflt (refine' one_use ?zB ?zF ?zX ?zN ?zT ?zk ?zd ?zu ?zU ?zo ?zm ?zs ?zne ?zh0 ?zh1 ?_; (case zB => k_asm); (case zF => k_asm); (case zX => k_asm); (case zN => k_asm); (case zT => k_asm); (case zk => first | exact rfl | assumption); (case zd => k_room); (case zu => k_units); (case zU => k_updF); (case zo => assumption); (case zm => k_mem); (case zs => exact rfl); (case zne => omega); (case zh0 => exact Nat.le_of_ble_eq_true rfl); (case zh1 => exact Nat.le_of_ble_eq_true rfl)); intro o' x' t' h' tk' F' N' hS' hx') | ((with_reducible show wpAny _ _ (call (Value.ref 330) _) _ _ _); k_dflt (refine' take_use ?zB ?zF ?zX ?zN ?zT ?zk ?zd ?zu ?zU ?zo ?zt0 ?zt1 ?_; (case zB => k_asm); (case zF => k_asm); (case zX => k_asm); (case zN => k_asm); (case zT => k_asm); (case zk => first | exact rfl | assumption); (case zd => k_room); (case zu => k_units); (case zU => k_updF); (case zo => assumption); (case zt0 => omega); (case zt1 => omega)); intro o' k' t' h' tk' F' N' hS' hk0' hk1') | (k_unfold; (try dsimp only)) | walk1 | (dsimp only; walk1) | (leave1; (try dsimp only))))
        · (try dsimp only)
          first | (k_end; kc_close) | (k_end; wrow_close)
        · obtain ⟨o2, oT, T2, rfl, hs2, hTab2, hg1, hg2, hg3, hg4, o8, ⟨ps8, rfl⟩, hg5⟩ := hK
          obtain ⟨ps7, rfl⟩ := hTab2.o
          refine go_on ?_
          exact ⟨GrownAt.of N6 (.tail _ (.tail _ hg5)), GrownAt.of N6 (.tail _ (.head _)), True.intro⟩
end

end Mine
end

theorem PySem.Challenge.cw_xw0213_01_holds : PySem.Challenge.rw_xw0213_01.Holds :=
  Mine.law_holds
