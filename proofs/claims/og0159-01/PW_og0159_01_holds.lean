import PyProof.Rows.All
import Wide.All
import OpenK.AllK
import Wide.FinOn
import Lean
import PySem.Challenge.RW_og0159_01
open PySem PySem.W PyProof.Rows
set_option maxRecDepth 100000
set_option linter.unusedVariables false
namespace Mine
def lay (n : Nat) : Nat := n
def Laid (a b : Nat) : Prop := a = 0 ∧ b = 1
theorem lay_zero (_ : PySem.Challenge.rw_og0159_01.Holds) : lay 0 = 0 := rfl
theorem lay_one : lay 1 = 1 := rfl
def pre.tw302789280906610752 : Nat := 0
def pre.tw11389374557681466464 : Nat := 0
def pre.tw4286845863238312128 : Nat := 0
def pre.tw11600251252059698432 : Nat := 0
def pre.tw7743745216617401696 : Nat := 0
def pre.tw12601736412296754624 : Nat := 0
def pre.tw1167468095371924960 : Nat := 0
def pre.tw13105971157969536512 : Nat := 0
def pre.tw17947361977853104736 : Nat := 0
def pre.tw11404711845346167456 : Nat := 0
def pre.tw17813032836175352512 : Nat := 0
def pre.tw3056967183029245664 : Nat := 0
def pre.tw16676685420422431488 : Nat := 0
def pre.tw1691685179661515648 : Nat := 0
def pre.tw5999219517231674561 : Nat := 0
def pre.tw9163486881185348833 : Nat := 0
def pre.tw9453402838058930433 : Nat := 0
def pre.tw1562247505020969217 : Nat := 0
def pre.tw3841362995048172961 : Nat := 0
def pre.tw5915181514357443041 : Nat := 0
def pre.tw12951121588697251329 : Nat := 0
def pre.tw15552298541256452641 : Nat := 0
def pre.tw10006983352648288001 : Nat := 0
def pre.tw11661489554611879777 : Nat := 0
def pre.tw10407998980130990082 : Nat := 0
def pre.tw9966088280660723746 : Nat := 0
def pre.tw7227131079710277698 : Nat := 0
def pre.tw5131142871185379458 : Nat := 0
def pre.tw1744327949836340386 : Nat := 0
def pre.tw9933342878302970050 : Nat := 0
def pre.tw5901435557038343362 : Nat := 0
def pre.tw14435009961475074242 : Nat := 0
def pre.tw4592789736104886690 : Nat := 0
def pre.tw8646183201884414562 : Nat := 0
def pre.tw12010930066579576610 : Nat := 0
def pre.tw10091149122847604739 : Nat := 0
def pre.tw16164899644161129635 : Nat := 0
def pre.tw6232320607302061507 : Nat := 0
def pre.tw14070096154038975331 : Nat := 0
def pre.tw3641751962990203908 : Nat := 0
def pre.tw17618866157977115684 : Nat := 0
def pre.tw8442420562293693508 : Nat := 0
def pre.tw13743101554249772228 : Nat := 0
def pre.tw868406912619844004 : Nat := 0
def pre.tw9948208398504503780 : Nat := 0
def pre.tw18233255370621244900 : Nat := 0
def pre.tw14844808246951043556 : Nat := 0
def pre.tw3363428373326525988 : Nat := 0
def pre.tw2570518636118495876 : Nat := 0
def pre.tw16830677165564596964 : Nat := 0
def pre.tw5281669908752499588 : Nat := 0
def pre.tw1385352955633275780 : Nat := 0
def pre.tw5857112834756203396 : Nat := 0
def pre.tw17819266545383817124 : Nat := 0
def pre.tw6767112457854269605 : Nat := 0
def pre.tw2302775849342015749 : Nat := 0
def pre.tw6882613176781099269 : Nat := 0
def pre.tw8599402730897727845 : Nat := 0
def pre.tw6075171507606715781 : Nat := 0
def pre.tw17370370564525365829 : Nat := 0
def pre.tw10125758760863536837 : Nat := 0
def pre.tw7559264692432220869 : Nat := 0
def pre.tw8729141346455856134 : Nat := 0
def pre.tw4936351757903562790 : Nat := 0
def pre.tw1410439416757514342 : Nat := 0
def pre.tw8138631344701588614 : Nat := 0
def pre.tw6695662797832715526 : Nat := 0
def pre.tw6598987100012212614 : Nat := 0
def pre.tw13798339373520121222 : Nat := 0
def pre.tw15846384593253705126 : Nat := 0
def pre.tw4084086026405070310 : Nat := 0
def pre.tw10204019117609856550 : Nat := 0
def pre.tw6437931551330290438 : Nat := 0
def pre.tw16969236973895314278 : Nat := 0
def pre.tw12600001335209363398 : Nat := 0
def pre.tw3583441638673829862 : Nat := 0
def pre.tw456585482795024358 : Nat := 0
def pre.tw5532335634301144135 : Nat := 0
def pre.tw2864218492612468839 : Nat := 0
def pre.tw18027193599098250407 : Nat := 0
def pre.tw7205318348024006823 : Nat := 0
def pre.tw580001322987908391 : Nat := 0
def pre.tw2008175563879463239 : Nat := 0
def pre.tw6101896429416769895 : Nat := 0
def pre.tw8077660925545611655 : Nat := 0
def pre.tw7615275554976931207 : Nat := 0
def pre.tw12355011657982118343 : Nat := 0
def pre.tw3331293935044646375 : Nat := 0
def pre.tw6453602053160676839 : Nat := 0
def pre.tw15364903961692622375 : Nat := 0
def pre.tw2346428165239446087 : Nat := 0
def pre.tw5105748471666761287 : Nat := 0
def pre.tw6170148345488586343 : Nat := 0
def pre.tw2256743641975187207 : Nat := 0
def pre.tw6260126215559185383 : Nat := 0
def pre.tw4827731062090534920 : Nat := 0
def pre.tw4866971608788673576 : Nat := 0
def pre.tw14504531411983417640 : Nat := 0
def pre.tw8930836413682506088 : Nat := 0
def pre.tw7071218303330986376 : Nat := 0
def pre.tw14460636035774949768 : Nat := 0
def pre.tw8301558168250483144 : Nat := 0
def pre.tw1083846401382969032 : Nat := 0
def pre.tw13155615532978356968 : Nat := 0
def pre.tw5188450790433985288 : Nat := 0
def pre.tw17434239335780912936 : Nat := 0
def pre.tw15911490980385452904 : Nat := 0
def pre.tw2204125747762997160 : Nat := 0
def pre.tw3788907338250133416 : Nat := 0
def pre.tw17670664521834963977 : Nat := 0
def pre.tw17373973320644317417 : Nat := 0
def pre.tw17224984220818489609 : Nat := 0
def pre.tw6468908739991884073 : Nat := 0
def pre.tw6041060555226907945 : Nat := 0
def pre.tw1891802886393711113 : Nat := 0
def pre.tw17028943642903203401 : Nat := 0
def pre.tw7383441886188000873 : Nat := 0
def pre.tw18334436613972320873 : Nat := 0
def pre.tw12209519486425430729 : Nat := 0
def pre.tw8220757499984453353 : Nat := 0
def pre.tw17268093052136287145 : Nat := 0
def pre.tw833301866567259626 : Nat := 0
def pre.tw15042315596094944778 : Nat := 0
def pre.tw13985651320828149354 : Nat := 0
def pre.tw6567427038174304042 : Nat := 0
def pre.tw16258003978061591434 : Nat := 0
def pre.tw1405237036650921930 : Nat := 0
def pre.tw11905930611378980011 : Nat := 0
def pre.tw11736959194184035499 : Nat := 0
def pre.tw9889784722808467691 : Nat := 0
def pre.tw4144508531414183275 : Nat := 0
def pre.tw1873049638177181067 : Nat := 0
def pre.tw3975201578378184139 : Nat := 0
def pre.tw5161355914259166667 : Nat := 0
def pre.tw15489355944739424747 : Nat := 0
def pre.tw16187767858317590155 : Nat := 0
def pre.tw3097859360267383691 : Nat := 0
def pre.tw1519199417220949963 : Nat := 0
def pre.tw1936523389482728524 : Nat := 0
def pre.tw8406826420958275948 : Nat := 0
def pre.tw4406938201441374700 : Nat := 0
def pre.tw9315323111575073388 : Nat := 0
def pre.tw3539277104568050316 : Nat := 0
def pre.tw3745178552056971020 : Nat := 0
def pre.tw7466802901070070636 : Nat := 0
def pre.tw1050892389064381581 : Nat := 0
def pre.tw12465533948053986477 : Nat := 0
def pre.tw5559670671026103597 : Nat := 0
def pre.tw7686153911082905933 : Nat := 0
def pre.tw6615631486209965517 : Nat := 0
def pre.tw15123789955226152525 : Nat := 0
def pre.tw10657489962057554541 : Nat := 0
def pre.tw4207049851535343501 : Nat := 0
def pre.tw2165444987737528205 : Nat := 0
def pre.tw6330714749281072045 : Nat := 0
def pre.tw14861680889543947245 : Nat := 0
def pre.tw5916611623707148302 : Nat := 0
def pre.tw578446559104950318 : Nat := 0
def pre.tw3780960313077853262 : Nat := 0
def pre.tw8960298273192479886 : Nat := 0
def pre.tw5510518022562020494 : Nat := 0
def pre.tw14795137245576490350 : Nat := 0
def pre.tw2228330938466492814 : Nat := 0
def pre.tw3482203876616400270 : Nat := 0
def pre.tw10842554608732231118 : Nat := 0
def pre.tw15855931796569405934 : Nat := 0
def pre.tw11686044155741065774 : Nat := 0
def pre.tw14799728766091433518 : Nat := 0
def pre.tw9571515539528028750 : Nat := 0
def pre.tw14967782790706212462 : Nat := 0
def pre.tw4886116117891900527 : Nat := 0
def pre.tw2495331874266312815 : Nat := 0
def pre.tw9238746042885938319 : Nat := 0
def pre.tw6548938536104458511 : Nat := 0
def pre.tw15300636199408841007 : Nat := 0
def pre.tw14628187420673343983 : Nat := 0
def pre.tw10832435889686368783 : Nat := 0
def pre.tw13676013984246606415 : Nat := 0
def pre.tw720506306688461391 : Nat := 0
def pre.tw14177746915815934671 : Nat := 0
def pre.tw9552730113335097103 : Nat := 0
def pre.tw1264671815619765103 : Nat := 0
def pre.tw18320262050320308368 : Nat := 0
def pre.tw9018989078215470512 : Nat := 0
def pre.tw16248381776914940432 : Nat := 0
def pre.tw4186475853221050928 : Nat := 0
def pre.tw13693728815753610864 : Nat := 0
def pre.tw13839825171144383216 : Nat := 0
def pre.tw13344253833810582256 : Nat := 0
def pre.tw12397509471128462064 : Nat := 0
def pre.tw2987692468026973072 : Nat := 0
def pre.tw2035697669160248337 : Nat := 0
def pre.tw3075770761106440465 : Nat := 0
def pre.tw8866184789985215761 : Nat := 0
def pre.tw4189212242694403473 : Nat := 0
def pre.tw7744840787576684945 : Nat := 0
def pre.tw5167664360043482673 : Nat := 0
def pre.tw12464593357960378961 : Nat := 0
def pre.tw1220156853476297361 : Nat := 0
def pre.tw14531996196986799985 : Nat := 0
def pre.tw14811703683298601042 : Nat := 0
def pre.tw10281252085104320626 : Nat := 0
def pre.tw14504007709385416882 : Nat := 0
def pre.tw6630880664941729010 : Nat := 0
def pre.tw14114672765552503122 : Nat := 0
def pre.tw7027690882501090706 : Nat := 0
def pre.tw9609149167571056082 : Nat := 0
def pre.tw6907033906714537426 : Nat := 0
def pre.tw13763285996321713714 : Nat := 0
def pre.tw2572576715449792082 : Nat := 0
def pre.tw11167059680745534066 : Nat := 0
def pre.tw899124743068861042 : Nat := 0
def pre.tw2432886682013690578 : Nat := 0
def pre.tw1493470869393423090 : Nat := 0
def pre.tw15715415247232172914 : Nat := 0
def pre.tw7599535592181252978 : Nat := 0
def pre.tw12329847798736442354 : Nat := 0
def pre.tw9545121603016536275 : Nat := 0
def pre.tw2698468114796561683 : Nat := 0
def pre.tw191430818103548243 : Nat := 0
def pre.tw12444740210674830803 : Nat := 0
def pre.tw17747810498848355795 : Nat := 0
def pre.tw15006343836391424499 : Nat := 0
def pre.tw695282062261810739 : Nat := 0
def pre.tw12104294763669239379 : Nat := 0
def pre.tw15625995988735854195 : Nat := 0
def pre.tw16268650808249262707 : Nat := 0
def pre.tw14370870987140484787 : Nat := 0
def pre.tw5602671513192827635 : Nat := 0
def pre.tw5147264164118438643 : Nat := 0
def pre.tw17454632208202312435 : Nat := 0
def pre.tw419906794060333811 : Nat := 0
def pre.tw2152995962621348627 : Nat := 0
def pre.tw9248483282066975539 : Nat := 0
def pre.tw1961266365660868435 : Nat := 0
def pre.tw5785080345214292851 : Nat := 0
def pre.tw15416329323232597108 : Nat := 0
def pre.tw16520217711010471092 : Nat := 0
def pre.tw12633947648045723924 : Nat := 0
def pre.tw9269883197500966196 : Nat := 0
def pre.tw5779897831729120596 : Nat := 0
def pre.tw12411956784754534868 : Nat := 0
def pre.tw8089614636097026548 : Nat := 0
def pre.tw7462887173716235764 : Nat := 0
def pre.tw7569232922502155860 : Nat := 0
def pre.tw2968953917466835636 : Nat := 0
def pre.tw18236140840165549141 : Nat := 0
def pre.tw7798483633350419733 : Nat := 0
def pre.tw11399554475807630645 : Nat := 0
def pre.tw2339367589048809781 : Nat := 0
def pre.tw3955983160652177813 : Nat := 0
def pre.tw5568758830717608373 : Nat := 0
def pre.tw8351358002074471861 : Nat := 0
def pre.tw17680803279675618773 : Nat := 0
def pre.tw343712557402399189 : Nat := 0
def pre.tw12472410725357626837 : Nat := 0
def pre.tw11383056963669434997 : Nat := 0
def pre.tw3142542386609302197 : Nat := 0
def pre.tw6422557553253898997 : Nat := 0
def pre.tw12058416156572183381 : Nat := 0
def pre.tw10556904025073309525 : Nat := 0
def pre.tw16058929423575460821 : Nat := 0
def pre.tw11967863500246565877 : Nat := 0
def pre.tw6204301905142194262 : Nat := 0
def pre.tw6846343938879960342 : Nat := 0
def pre.tw7871981215989793078 : Nat := 0
def pre.tw1885593639795240310 : Nat := 0
def pre.tw13233266800153922966 : Nat := 0
def pre.tw18236615629503518134 : Nat := 0
def pre.tw12274083203712686582 : Nat := 0
def pre.tw364626883998391094 : Nat := 0
def pre.tw17070133332105845622 : Nat := 0
def pre.tw16080086136244568982 : Nat := 0
def pre.tw2397827621436535734 : Nat := 0
def pre.tw9048862158676561846 : Nat := 0
def pre.tw3261195165716478934 : Nat := 0
def pre.tw13261852673686306774 : Nat := 0
def pre.tw2147516935554881526 : Nat := 0
def pre.tw17951621792752003255 : Nat := 0
def pre.tw15287351508561526039 : Nat := 0
def pre.tw12285278899058290007 : Nat := 0
def pre.tw6431232979522229623 : Nat := 0
def pre.tw10251759765297449335 : Nat := 0
def pre.tw4834714738879756663 : Nat := 0
def pre.tw6327315350404671063 : Nat := 0
def pre.tw12109822677291299447 : Nat := 0
def pre.tw18060547212737682071 : Nat := 0
def pre.tw6756400117972860631 : Nat := 0
def pre.tw3144533544089427767 : Nat := 0
def pre.tw12723660185843396471 : Nat := 0
def pre.tw6027166026388233240 : Nat := 0
def pre.tw963679378083677624 : Nat := 0
def pre.tw12455990067847257688 : Nat := 0
def pre.tw5179339599432730232 : Nat := 0
def pre.tw6887083531147954808 : Nat := 0
def pre.tw7226070088885751544 : Nat := 0
def pre.tw5141576093561083736 : Nat := 0
def pre.tw14417016902113386360 : Nat := 0
def pre.tw13305933163451760600 : Nat := 0
def pre.tw1460512165978779608 : Nat := 0
def pre.tw7012385086442814489 : Nat := 0
def pre.tw1134953709659117593 : Nat := 0
def pre.tw10895488247777486873 : Nat := 0
def pre.tw9181419433902100537 : Nat := 0
def pre.tw2901822031365257273 : Nat := 0
def pre.tw2487895064821818521 : Nat := 0
def pre.tw8050647239357041817 : Nat := 0
def pre.tw14604634542777377977 : Nat := 0
def pre.tw2400968014658280633 : Nat := 0
def pre.tw11477163547676270809 : Nat := 0
def pre.tw30198436418510105 : Nat := 0
def pre.tw9354241043653843321 : Nat := 0
def pre.tw698346005061455353 : Nat := 0
def pre.tw13510392928544659033 : Nat := 0
def pre.tw11632232044515301145 : Nat := 0
def pre.tw14864557699967703993 : Nat := 0
def pre.tw1686993885542229018 : Nat := 0
def pre.tw4579400933631224890 : Nat := 0
def pre.tw10392466030464386394 : Nat := 0
def pre.tw15577061551490466234 : Nat := 0
def pre.tw4351630123409058234 : Nat := 0
def pre.tw28029345213723098 : Nat := 0
def pre.tw7964398728579978746 : Nat := 0
def pre.tw9684811492765809210 : Nat := 0
def pre.tw1957200725488321114 : Nat := 0
def pre.tw17844419999514078010 : Nat := 0
def pre.tw12354323748567133018 : Nat := 0
def pre.tw6585939558152295258 : Nat := 0
def pre.tw7907242505890983963 : Nat := 0
def pre.tw3644608556721293339 : Nat := 0
def pre.tw2834345416658533467 : Nat := 0
def pre.tw11118472615564045499 : Nat := 0
def pre.tw14193552647469303995 : Nat := 0
def pre.tw15217727220281956571 : Nat := 0
def pre.tw124356168213406971 : Nat := 0
def pre.tw503137831086811483 : Nat := 0
def pre.tw16852057512633287067 : Nat := 0
def pre.tw10933684431934463483 : Nat := 0
def pre.tw12660056702362669563 : Nat := 0
def pre.tw2949526638472983035 : Nat := 0
def pre.tw12361741206388785723 : Nat := 0
def pre.tw13233907954065186395 : Nat := 0
def pre.tw15130635324320710267 : Nat := 0
def pre.tw4043348016317792891 : Nat := 0
def pre.tw14569818649042903867 : Nat := 0
def pre.tw11460421374433590107 : Nat := 0
def pre.tw15368396088340907196 : Nat := 0
def pre.tw13954526434592077084 : Nat := 0
def pre.tw2924357142288256476 : Nat := 0
def pre.tw10408196067039045116 : Nat := 0
def pre.tw5368791875907632636 : Nat := 0
def pre.tw1375586104308093436 : Nat := 0
def pre.tw3744368537293892124 : Nat := 0
def pre.tw10584150303738031772 : Nat := 0
def pre.tw2793876952464144092 : Nat := 0
def pre.tw10476441753547339612 : Nat := 0
def pre.tw6926492576228361084 : Nat := 0
def pre.tw2942983534999405500 : Nat := 0
def pre.tw10740070326456252 : Nat := 0
def pre.tw3837823695312889917 : Nat := 0
def pre.tw2749649739559614557 : Nat := 0
def pre.tw8113819696807641309 : Nat := 0
def pre.tw8923979195374158045 : Nat := 0
def pre.tw15216588824572760413 : Nat := 0
def pre.tw6984639926880643421 : Nat := 0
def pre.tw18177360088511047037 : Nat := 0
def pre.tw9925072483942813245 : Nat := 0
def pre.tw1909223688630405981 : Nat := 0
def pre.tw16193113423199527773 : Nat := 0
def pre.tw512931023691214685 : Nat := 0
def pre.tw2142029966526130302 : Nat := 0
def pre.tw15233245896131659966 : Nat := 0
def pre.tw13207373630104666366 : Nat := 0
def pre.tw3653203284003021278 : Nat := 0
def pre.tw10626571451207548414 : Nat := 0
def pre.tw5974860125168666142 : Nat := 0
def pre.tw6737512137890597438 : Nat := 0
def pre.tw10534597610666090110 : Nat := 0
def pre.tw5504704829203286782 : Nat := 0
def pre.tw9293138973955870494 : Nat := 0
def pre.tw12951829144241428286 : Nat := 0
def pre.tw246745258367748990 : Nat := 0
def pre.tw5265556644796053535 : Nat := 0
def pre.tw1111464524378067007 : Nat := 0
def pre.tw13663304939719888959 : Nat := 0
def pre.tw15353535704898639103 : Nat := 0
def pre.tw14552072348316998079 : Nat := 0
def pre.tw7264331424420516383 : Nat := 0
def pre.tw13434469736033276543 : Nat := 0
def pre.tw3084166743060496063 : Nat := 0
def pre.tw7404310320488361791 : Nat := 0
def pre.tw14055543467470474079 : Nat := 0
def pre.tw16009375183914227583 : Nat := 0
def pre.tw5616357354536732607 : Nat := 0
def pre.tw348168221346353151 : Nat := 0
def pre.tw13028091800383447701 : Nat := 0
set_option Elab.async true
set_option maxHeartbeats 0 in
theorem pre : Laid (lay 0) (lay 1) := by
  simp (disch := (o_law; k_head; (case hw => w_witness2))) only [lay_zero, lay_one]
  exact ⟨rfl, rfl⟩
set_option Elab.async false
section
variable {prog : Program} {w : World} {A : Around} {E : Value → Shared → Prop} {s : Shared} {a b : Int} {t u : Tok} {Q : Value → Shared → Prop}
theorem fd_small (hb : 0 < b) (hb2 : b ≤ 1000) (ha : 0 ≤ a) (ha2 : a ≤ 200) (h : ∀ v t tk, 0 ≤ v → v ≤ 200 → Q (.int v t) { s with toks := tk }) : wpAny (model prog w) A (binaryOp .FloorDiv (.int a t) (.int b u)) Q E s := by
  refine floordiv_int (by omega) (h _ _ _ ?_ ?_) (Or.inl (PyProof.noPylong_small (by omega)))
  · rw [Int.fdiv_eq_ediv_of_nonneg _ (by omega)]; exact Int.ediv_nonneg ha (by omega)
  · rw [Int.fdiv_eq_ediv_of_nonneg _ (by omega)]
    exact Int.le_trans (Int.ediv_le_self b ha) ha2
theorem fd_big (hb : 0 < b) (hl : b.natAbs.log2 < 9000) (h : ∀ v t tk, Q (.int v t) { s with toks := tk }) : wpAny (model prog w) A (binaryOp .FloorDiv (.int a t) (.int b u)) Q E s :=
  floordiv_int (by omega) (h _ _ _) (Or.inl (PyProof.noPylong_of_log2 hl))
theorem md_any (hb : 0 < b) (h : ∀ v t tk, 0 ≤ v → v < b → Q (.int v t) { s with toks := tk }) : wpAny (model prog w) A (binaryOp .Mod (.int a t) (.int b u)) Q E s := by
  refine mod_int' (by omega) (h _ _ _ ?_ ?_)
  · exact Int.fmod_nonneg_of_pos _ hb
  · exact Int.fmod_lt_of_pos _ hb
theorem ml_any (ha : a.natAbs < 2 ^ 64) (h : ∀ v t tk, v = a * b → Q (.int v t) { s with toks := tk }) : wpAny (model prog w) A (binaryOp .Mult (.int a t) (.int b u)) Q E s :=
  mul_int (h _ _ _ rfl) (IntMulOk.of_left (intBits_le ha))
theorem pw_any (hb : 0 ≤ b) (hb2 : b ≤ 200) (h : ∀ v t tk, 0 < v → v.natAbs.log2 < 9000 → Q (.int v t) { s with toks := tk }) : wpAny (model prog w) A (binaryOp .Pow (.int 720720 t) (.int b u)) Q E s := by
  refine pow_int_small hb (by omega) (by decide) (h _ _ _ (Int.pow_pos (by decide)) ?_)
  have e : ((720720 : Int) ^ b.toNat).natAbs = 720720 ^ b.toNat := by rw [Int.natAbs_pow]; rfl
  rw [e]
  have h1 : 720720 ^ b.toNat ≤ (2 ^ 20) ^ b.toNat := Nat.pow_le_pow_left (by decide) _
  rw [← Nat.pow_mul] at h1
  have h2 : 720720 ^ b.toNat < 2 ^ 9000 := Nat.lt_of_le_of_lt h1 (Nat.pow_lt_pow_right (by decide) (by omega))
  exact (Nat.log2_lt (Nat.ne_of_gt (Nat.pow_pos (by decide)))).mpr h2
end
@[reducible] def takeParts (P : Params) : {q : Arguments × List Stmt × Scope // PySem.Challenge.rw_og0159_01 = PySem.Challenge.rw_og0159_01 ∧ ∃ (a b b2 e : Stmt) (nm : Str) (dl : List Expr) (rt : Option Expr) (tp : List TypeParam) (ts : Option Scope) (bd : Str) (ps : Pos) (c : Value) (d : Option Addr) (name qual : Str) (pa : Arguments) (sc : Scope) (dV kV doc pm : Value) (an : Option Addr) (cdv ct : Value) (sl : Array (Option Value)),
    List.lookup 343 (pre.heap_1_41 P) = some ⟨c, d, .func (fnOf name qual pa [a, b, b2, .FunctionDef nm q.1 q.2.1 dl rt tp q.2.2 ts bd ps, e] sc dV kV doc pm an cdv ct), sl⟩} := by
  k_fill
  exact ⟨(_, _, _), rfl, _, _, _, _, _, _, _, _, _, _, _, _, _, _, _, _, _, _, _, _, _, _, _, _, _, by k_is⟩
section
open PySem.Spec
section
variable {prog : Program} {w : World} {A : Around} {E : Value → Shared → Prop} {s : Shared} {value slice : Expr} {a : Addr} {i : Int} {u t : Tok} {Q : Value → Shared → Prop}
theorem strsAt {vs : List Value} {ss : List Str} (h : StrsAre vs ss) : ∀ {j : Nat}, j < ss.length → ∃ x t, vs[j]? = some (.str x t) ∧ x ∈ ss := by
  induction h with
  | nil => intro j hj; simp at hj
  | cons y t _ ih =>
    intro j hj
    cases j with
    | zero => exact ⟨y, t, by simp, .head _⟩
    | succ j =>
      obtain ⟨x, t', e, m⟩ := ih (j := j) (by simpa using hj)
      exact ⟨x, t', by simpa using e, .tail _ m⟩
theorem tup_pick {vs : List Value} {ss : List Str} (ht : IsTup s.heap a vs.toArray) (hS : StrsAre vs ss) (h0 : 0 ≤ i) (h1 : i < ss.length) (hl : ss.length ≤ 100) (h : ∀ x t, x ∈ ss → Q (.str x t) s)
    (hs : subscripted slice false (.ref a) (.int i u) = operate [.ref a, .int i u] (getItem (.ref a) (.int i u)) := by with_unfolding_all rfl) :
    wpAny (model prog w) A (subscriptTail value slice (.ref a) (.int i u)) Q E s := by
  obtain ⟨x, t, e, m⟩ := strsAt hS (j := i.toNat) (by omega)
  have hv : vs.length = ss.length := StrsAre.length hS
  exact item_tupleT ht (by omega) (by omega) (PySem.seqIndex_of h0 (by omega)) e (h x t m) hs
def sOf : Value → Str
  | .str x _ => x
  | _ => Str.empty
def isS : Value → Bool
  | .str _ _ => true
  | _ => false
theorem strsOf_all : ∀ {vs : List Value}, vs.all isS = true → StrsAre vs (vs.map sOf)
  | [], _ => .nil
  | .str x t :: r, h => .cons x t (strsOf_all (by simpa [isS] using h))
  | .none :: _, h => by simp [isS] at h
  | .ellipsis :: _, h => by simp [isS] at h
  | .notImplemented :: _, h => by simp [isS] at h
  | .bool _ :: _, h => by simp [isS] at h
  | .int _ _ :: _, h => by simp [isS] at h
  | .float _ _ :: _, h => by simp [isS] at h
  | .bytes _ _ :: _, h => by simp [isS] at h
  | .type _ :: _, h => by simp [isS] at h
  | .builtin _ :: _, h => by simp [isS] at h
  | .ref _ :: _, h => by simp [isS] at h
theorem tup_pickV {vs : List Value} {n : Nat} (ht : IsTup s.heap a vs.toArray) (hS : vs.all isS = true) (hn : vs.length = n) (h0 : 0 ≤ i) (h1 : i < (n : Int)) (hl : n ≤ 100) (h : ∀ x t, x ∈ vs.map sOf → Q (.str x t) s)
    (hs : subscripted slice false (.ref a) (.int i u) = operate [.ref a, .int i u] (getItem (.ref a) (.int i u)) := by with_unfolding_all rfl) :
    wpAny (model prog w) A (subscriptTail value slice (.ref a) (.int i u)) Q E s :=
  tup_pick ht (strsOf_all hS) h0 (by rw [List.length_map, hn]; exact h1) (by rw [List.length_map, hn]; exact hl) h hs
theorem txt_pick (h0 : 0 ≤ i) (h1 : i < 3) (h : ∀ y t tk, PyData.strOk y = true → Q (.str y t) { s with toks := tk })
    (hs : subscripted slice false (.str (Str.ofString "abc") t) (.int i u) = operate [.str (Str.ofString "abc") t, .int i u] (getItem (.str (Str.ofString "abc") t) (.int i u)) := by with_unfolding_all rfl)
    (ht : ∀ r, letTemporaryGo value (.str (Str.ofString "abc") t) r = pure () := by intro _; with_unfolding_all rfl) :
    wpAny (model prog w) A (subscriptTail value slice (.str (Str.ofString "abc") t) (.int i u)) Q E s := by
  refine KXi.item (n := 3) rfl (by omega) (by omega) (by omega) (fun _ => h _ _ _ ?_) hs ht
  have hc : i = 0 ∨ i = 1 ∨ i = 2 := by omega
  rcases hc with e | e | e <;> subst e <;> decide +kernel
theorem item_lst {vs : List Value} {v : Value} (hl : s.heap.IsList a vs.toArray) (h0 : 0 ≤ i) (hhi : i < 2 ^ 63) (hx : vs[i.toNat]? = some v) (h : Q v s)
    (hs : subscripted slice false (.ref a) (.int i u) = operate [.ref a, .int i u] (getItem (.ref a) (.int i u)) := by with_unfolding_all rfl) :
    wpAny (model prog w) A (subscriptTail value slice (.ref a) (.int i u)) Q E s :=
  tail_any hl.typeIs slot_list_getitem.lookup (wpAny_getItem_list hl h0 hhi (by simpa using hx) h) hs
theorem lst_pick5 {h₀ : Heap} {L : Addr} {news : List (Addr × Obj)} {v0 v1 v2 v3 v4 : Value} {n : Nat} (N : News h₀ L s.heap news) (hm : (a, listOf [v0, v1, v2, v3, v4].toArray n) ∈ news) (h0 : 0 ≤ i) (h1 : i < 5)
    (q0 : i = 0 → Q v0 s) (q1 : i = 1 → Q v1 s) (q2 : i = 2 → Q v2 s) (q3 : i = 3 → Q v3 s) (q4 : i = 4 → Q v4 s)
    (hs : subscripted slice false (.ref a) (.int i u) = operate [.ref a, .int i u] (getItem (.ref a) (.int i u)) := by with_unfolding_all rfl) :
    wpAny (model prog w) A (subscriptTail value slice (.ref a) (.int i u)) Q E s := by
  have hl := (News.isList N hm)
  have hc : i = 0 ∨ i = 1 ∨ i = 2 ∨ i = 3 ∨ i = 4 := by omega
  rcases hc with e | e | e | e | e
  · exact item_lst hl (by omega) (by omega) (by rw [e]; rfl) (q0 e) hs
  · exact item_lst hl (by omega) (by omega) (by rw [e]; rfl) (q1 e) hs
  · exact item_lst hl (by omega) (by omega) (by rw [e]; rfl) (q2 e) hs
  · exact item_lst hl (by omega) (by omega) (by rw [e]; rfl) (q3 e) hs
  · exact item_lst hl (by omega) (by omega) (by rw [e]; rfl) (q4 e) hs
end
end
def EndM (h₀ : Heap) (L : Addr) (J : (Str → Option Value) → List (Addr × Obj) → Prop) (own : List (Addr × Obj)) (s₁ s₂ : Shared) : Prop :=
  ∃ h' tk m' news' nx, s₂ = { s₁ with heap := h', toks := tk } ∧ Fr h₀ L h' m' ∧ News h₀ L h' news' ∧ (∀ p ∈ nx, p ∈ news') ∧ (∀ p ∈ own, p ∈ news') ∧ (∀ p ∈ nx, ∀ q ∈ own, p.1 ≠ q.1) ∧ J m' nx
def PostM (h₀ : Heap) (L : Addr) (J : (Str → Option Value) → List (Addr × Obj) → Prop) (own : List (Addr × Obj)) (s₁ : Shared) (Q : Flow → Shared → Prop) (f : Flow) (s₂ : Shared) : Prop :=
  match f with
  | .ret v => Q (.ret v) s₂
  | .brk => Q .next s₂
  | _ => EndM h₀ L J own s₁ s₂
section
variable {prog : Program} {w : World} {A : Around} {E : Value → Shared → Prop} {s : Shared} {env : Env} {h₀ : Heap} {x : Str} {body : List Stmt} {Q : Flow → Shared → Prop}
theorem rng_loop {σ : Type} {r : Addr} {a₀ b₀ : Int} {t₀ u₀ v₀ : Tok} {n : Nat} {m₀ : Str → Option Value} (Led : σ → List (Addr × Obj)) (ps : σ → List (Str × Value)) (stored : List Str) (P : Nat → σ → Prop) (c₀ : σ)
    (hh : A.handled = none) (hr : IsRange s.heap r a₀ b₀ 1 t₀ u₀ v₀) (hsmall : Builtin.Range.small a₀ b₀ 1 = true) (hn : Builtin.Range.rangeSize a₀ b₀ 1 = (n : Int)) (F : Fr h₀ env.locals s.heap m₀) (N : News h₀ env.locals s.heap (Led c₀)) (hk : ∀ p ∈ ps c₀, m₀ p.1 = some p.2) (hp : P 0 c₀)
    (turn : ∀ (i : Nat) (c : σ) (k : Int) t (u : Str → Option Value) h tk own, i < n → (∀ p ∈ Led c, ∀ q ∈ own, p.1 ≠ q.1) → P i c →
      Fr h₀ env.locals h (fun y => if y = x then some (.int k t) else kstB (fun z => if stored.contains z then u z else m₀ z) (ps c) y) → News h₀ env.locals h (Led c ++ own) →
      wpAny (model prog w) A (execs body env) (PostM h₀ env.locals (KstS Led ps (fun _ => True) x stored m₀ (fun _ => P (i + 1)) []) own { s with heap := h, toks := tk } Q) E { s with heap := h, toks := tk })
    (done : ∀ (c : σ) (u : Str → Option Value) h tk, P n c → Fr h₀ env.locals h (fun y => if y = x then u y else kstB (fun z => if stored.contains z then u z else m₀ z) (ps c) y) → News h₀ env.locals h (Led c) → Q .next { s with heap := h, toks := tk }) :
    wpAny (model prog w) A (pyIter (.ref r)) (fun it s₂ => LoopAtV prog w A h₀ env x body Q E it s₂) E s := by
  refine wpAny_pyIter_range hr hsmall ?_
  have W : Walks prog w A s.heap.objs.size [s.heap.objs.size] [s.heap.objs.size] n (fun i v => i < n ∧ ∃ t, v = .int (a₀ + i * 1) t)
      (fun i h => IsRangeIter h s.heap.objs.size (a₀ + (i : Nat) * 1) ((n : Int) - (i : Nat)) 1) := (Walks.range hh _ a₀ 1 n).bound
  have off : ∀ p ∈ Led c₀, p.1 ∉ [s.heap.objs.size] := fun p hp hI => absurd (Heap.lt_size (N p hp).1) ((List.mem_singleton.mp hI) ▸ Nat.lt_irrefl _)
  refine ⟨_, _, _, n, _, _, m₀, Led c₀, (fun i m nx => (∀ p ∈ nx, p.1 ∉ [s.heap.objs.size]) ∧ KstS Led ps (fun _ => True) x stored m₀ (fun _ => P i) [] m nx), rfl, W, ?_, ?_, off, (by show IsRangeIter _ _ _ _ _; rw [hn]; simpa using Heap.get?_push_size _ rfl), (F.push _), (fun p hp => ⟨Heap.get?_push_of_some _ (N p hp).1, (N p hp).2⟩), ⟨off, c₀, rfl, trivial, hk, fun _ _ _ _ => rfl, hp⟩, ?_, ?_⟩
  · intro hm
    exact absurd F.ns.lt ((List.mem_singleton.mp hm) ▸ Nat.lt_irrefl _)
  · intro b hb
    rw [List.mem_singleton.mp hb]
    exact next_is_new F
  · rintro i v m₁ news₁ s₁ own ⟨h, tk, rfl⟩ hi ⟨_, t, rfl⟩ ⟨hoff, c, rfl, -, h1, h2, hp'⟩ hnw hown hat hall hst F₁ N₁
    obtain ⟨oI, hI⟩ : ∃ o, (s.heap.objs.size, o) ∈ own := by
      obtain ⟨o, ho⟩ : ∃ o, h.get? s.heap.objs.size = some o := by
        have := hst
        exact ⟨_, this⟩
      exact ⟨o, hall _ (.head _) (next_is_new F) o ho⟩
    have sep : ∀ p ∈ Led c, ∀ q ∈ own, p.1 ≠ q.1 := fun p hp q hq e => hnw p hp (e ▸ hown q hq)
    have N₂ : News h₀ env.locals h (Led c ++ own) := fun p hp => N₁ p ((List.mem_append.mp hp).elim (fun h => List.mem_append.mpr (.inr h)) fun h => List.mem_append.mpr (.inl h))
    refine wpAny_mono (turn i c _ t m₁ h tk own hi sep hp' (kst_fr h1 h2 F₁) N₂) (fun f s₂ p => ?_) fun _ _ e => e
    have fin : EndM h₀ env.locals (KstS Led ps (fun _ => True) x stored m₀ (fun _ => P (i + 1)) []) own { s with heap := h, toks := tk } s₂ →
        LoopStepU h₀ env.locals [s.heap.objs.size] own (fun m nx => (∀ p ∈ nx, p.1 ∉ [s.heap.objs.size]) ∧ KstS Led ps (fun _ => True) x stored m₀ (fun _ => P (i + 1)) [] m nx) { s with heap := h, toks := tk } .next s₂ := by
      rintro ⟨h', tk', m', news', nx, e, F', N', hn', ho, ha, hm⟩
      have hw : ∀ p ∈ nx, p.1 ∉ [s.heap.objs.size] := fun p hp hb => ha p hp _ hI (List.mem_singleton.mp hb)
      exact ⟨rfl, h', tk', m', nx, e, F', fun p hp => N' p ((List.mem_append.mp hp).elim (ho p) (hn' p)), hw, hw, hm⟩
    cases f with
    | ret v => exact .ret p
    | brk => exact .brk p
    | next => exact .next (fin p)
    | cont => exact .cont (fin p)
  · rintro h tk m₁ news' F₁ N₁ _ ⟨_, c, rfl, -, h1, h2, hp'⟩
    exact done c m₁ h tk hp' (kst_frOut h1 h2 F₁) N₁
theorem m_end {σ : Type} {Led : σ → List (Addr × Obj)} {ps : σ → List (Str × Value)} {stored : List Str} {m₀ : Str → Option Value} {P : σ → Prop} (c : σ) {L : Addr} {m' : Str → Option Value} {own news' : List (Addr × Obj)} {s₁ : Shared} {h' : Heap} {tk : Nat}
    (F : Fr h₀ L h' m') (N : News h₀ L h' news') (hn : ∀ p ∈ Led c, p ∈ news') (ho : ∀ p ∈ own, p ∈ news') (ha : ∀ p ∈ Led c, ∀ q ∈ own, p.1 ≠ q.1) (hk : ∀ p ∈ ps c, m' p.1 = some p.2) (hr : ∀ z, z ≠ x → (∀ p ∈ ps c, z ≠ p.1) → stored.contains z = false → m' z = m₀ z) (hp : P c) :
    EndM h₀ L (KstS Led ps (fun _ => True) x stored m₀ (fun _ => P) []) own s₁ { s₁ with heap := h', toks := tk } :=
  ⟨h', tk, m', news', Led c, rfl, F, N, hn, ho, ha, c, rfl, trivial, hk, hr, hp⟩
end
def dOk : Nat → Dat → Bool
  | _, .bool _ => true
  | _, .int _ => true
  | _, .str x => PySem.PyData.strOk x
  | n + 1, .tuple ds => ds.all (dOk n)
  | n + 1, .list ds => ds.all (dOk n)
  | _, _ => false
section
variable {h₀ h : Heap} {L : Addr} {news : List (Addr × Obj)}
mutual
theorem dat_reads (N : News h₀ L h news) : ∀ {v : Value} {d : Dat} (n : Nat), DatIn news v d → dOk n d = true → ∃ as, Reads h v (kqdP d) as
  | _, _, n, .none, hk => by cases n <;> simp [dOk] at hk
  | _, _, _, .bool b, _ => ⟨_, .bool b⟩
  | _, _, _, .int i t, _ => ⟨_, .int i t⟩
  | _, _, _, .str x t, _ => ⟨_, .str x t⟩
  | _, _, n, .bytes _ _, hk => by cases n <;> simp [dOk] at hk
  | _, _, 0, .tuple _ _, hk => by simp [dOk] at hk
  | _, _, 0, .list _ _, hk => by simp [dOk] at hk
  | _, _, n + 1, .tuple hm r, hk => by
    obtain ⟨as, q⟩ := dat_readsAll N n r (by simpa [dOk] using hk)
    rw [kqdP]
    exact ⟨_, .tuple (N.get hm) rfl rfl (by simpa using q)⟩
  | _, _, n + 1, .list hm r, hk => by
    obtain ⟨as, q⟩ := dat_readsAll N n r (by simpa [dOk] using hk)
    rw [kqdP]
    exact ⟨_, .list (N.get hm) rfl rfl (by simpa [W.listOf] using q)⟩
theorem dat_readsAll (N : News h₀ L h news) : ∀ {vs : List Value} {ds : List Dat} (n : Nat), DatAll news vs ds → (∀ d ∈ ds, dOk n d = true) → ∃ as, ReadsAll h vs (kqdPs ds) as
  | _, _, _, .nil, _ => ⟨_, .nil⟩
  | _, _, n, .cons hd r, hk => by
    obtain ⟨as, q⟩ := dat_reads N n hd (hk _ (.head _))
    obtain ⟨bs, p⟩ := dat_readsAll N n r fun d hm => hk d (.tail _ hm)
    rw [kqdPs]
    exact ⟨_, .cons q p⟩
end
end
theorem dat_lay : ∀ (n : Nat) (d : Dat), dOk n d = true → (kqdP d).canLay0 = true ∧ (kqdP d).depth ≤ n := by
  have all : ∀ (n : Nat), (∀ d, dOk n d = true → (kqdP d).canLay0 = true ∧ (kqdP d).depth ≤ n) → ∀ ds : List Dat, (∀ d ∈ ds, dOk n d = true) → PySem.PyData.canLayAll0 (kqdPs ds) = true ∧ PySem.PyData.depthAll (kqdPs ds) ≤ n := by
    intro n ih ds
    induction ds with
    | nil => intro _; simp [kqdPs, PySem.PyData.canLayAll0, PySem.PyData.depthAll]
    | cons d ds hi =>
      intro h
      obtain ⟨p1, p2⟩ := ih d (h d (.head _))
      obtain ⟨q1, q2⟩ := hi fun e he => h e (.tail _ he)
      simp only [kqdPs, PySem.PyData.canLayAll0, PySem.PyData.depthAll, p1, q1, Bool.and_self, true_and]
      omega
  intro n
  induction n with
  | zero => intro d h; cases d <;> simp_all [dOk, kqdP, PySem.PyData.canLay0, PySem.PyData.depth]
  | succ n ih =>
    intro d h
    cases d with
    | none => simp [dOk] at h
    | bytes b => simp [dOk] at h
    | bool b => simp [kqdP, PySem.PyData.canLay0, PySem.PyData.depth]
    | int i => simp [kqdP, PySem.PyData.canLay0, PySem.PyData.depth]
    | str x => simp [dOk] at h; simp [kqdP, PySem.PyData.canLay0, PySem.PyData.depth, h]
    | tuple ds =>
      obtain ⟨q1, q2⟩ := all n ih ds (by simpa [dOk] using h)
      simp only [kqdP, PySem.PyData.canLay0, PySem.PyData.depth, q1, true_and]
      omega
    | list ds =>
      obtain ⟨q1, q2⟩ := all n ih ds (by simpa [dOk] using h)
      simp only [kqdP, PySem.PyData.canLay0, PySem.PyData.depth, q1, true_and]
      omega
theorem dat_shaped {d : Dat} (h : dOk 9 d = true) : SeqAt.shaped (kqdP d) = true := by
  obtain ⟨a, b⟩ := dat_lay 9 d h
  unfold SeqAt.shaped; rw [a, Bool.true_and]; exact decide_eq_true (Nat.le_trans b (by decide))
section
variable {prog : Program} {w : World} {A : Around} {E : Value → Shared → Prop} {s : Shared} {h₀ : Heap} {L : Addr} {news n₁ n₂ : List (Addr × Obj)} {v u : Value} {d : Dat} {Q : Value → Shared → Prop}
theorem ne_same (N : News h₀ L s.heap news) (Da : DatIn n₁ v d) (sa : ∀ p ∈ n₁, p ∈ news) (Db : DatIn n₂ u d) (sb : ∀ p ∈ n₂, p ∈ news) (ok : dOk 9 d = true) (hu : A.units + 64 < cLine) (h : Q (.bool false) s) :
    wpAny (model prog w) A (compareOp .NotEq v u) Q E s := by
  obtain ⟨as, ra⟩ := dat_reads N 9 (Da.mono sa) ok
  obtain ⟨bs, rb⟩ := dat_reads N 9 (Db.mono sb) ok
  exact ne_dataH ra rb (dat_shaped ok) (dat_shaped ok) hu (by rw [PySem.SeqAt.eqv_refl _ (dat_lay 9 d ok).1]; exact h)
theorem ne_nil {ds : List Dat} (N : News h₀ L s.heap news) (Da : DatIn n₁ v (.list ds)) (sa : ∀ p ∈ n₁, p ∈ news) (Db : DatIn n₂ u (.list [])) (sb : ∀ p ∈ n₂, p ∈ news) (ok : dOk 9 (.list ds) = true) (hu : A.units + 64 < cLine) (h : Q (.bool (!ds.isEmpty)) s) :
    wpAny (model prog w) A (compareOp .NotEq v u) Q E s := by
  obtain ⟨as, ra⟩ := dat_reads N 9 (Da.mono sa) ok
  obtain ⟨bs, rb⟩ := dat_reads N 9 (Db.mono sb) (by simp [dOk])
  refine ne_dataH ra rb (dat_shaped ok) (dat_shaped (by simp [dOk])) hu ?_
  have e : PySem.PyData.eqv (kqdP (.list ds)) (kqdP (.list [])) = ds.isEmpty := by cases ds <;> simp [kqdP, kqdPs, PySem.PyData.eqv, PySem.PyData.eqvAll]
  rw [e]; exact h
end
structure Parts where
  s1 : Stmt
  s2 : Stmt
  s3 : Stmt
  s4 : Stmt
  s5 : Stmt
  s6 : Stmt
  s7 : Stmt
  s8 : Stmt
  s9 : Stmt
  s10 : Stmt
  s11 : Stmt
  sc : Scope
@[reducible] def tp : {q : Parts // ∃ (a b c e : Stmt) (tg : Expr) (it : Expr) (ps po : Pos) (nm : Str) (pa : Arguments) (kwd : List (Str × Expr)),
    defOf pre.view_1_42 (Str.ofString "law") = some (⟨nm, pa, [a, b, c, .For tg it [q.s1, q.s2, q.s3, q.s4, q.s5, q.s6, q.s7, q.s8, q.s9, q.s10, q.s11] [] ps, e], q.sc, po⟩, kwd)} :=
  ⟨⟨_, _, _, _, _, _, _, _, _, _, _, _⟩, _, _, _, _, _, _, _, _, _, _, _, rfl⟩
section
theorem memOf {α : Type} {a : α} {l : List α} (h : a ∈ l) : List.Mem a l := h
local macro_rules | `(tactic| k_room) => `(tactic| ((try simp only [depth_under_make, depth_under_kw, depth_in1, depth_deeper, depth_caller, ktrTop]); omega))
local macro_rules | `(tactic| k_units) => `(tactic| ((try simp only [units_in1, units_deeper, units_caller, ktrTop]); omega))
local macro_rules | `(tactic| cell_enter) => `(tactic| (refine' code_defC ?k1 ?k2 ?k3 ?k4 ?k5 ?kA ?kF ?kK ?k6 ?k7 ?k8 ?k9 ?kB ?kD ?_ ?c2 ?c3 ?c4; (case kA => exact rfl); (case kF => exact rfl); (case kK => assumption); (case k1 => k_asm); (case k2 => k_asm); (case k3 => k_asm); (case k4 => k_asm); (case k5 => k_asm); (case k6 => k_is); (case k7 => k_is); (case k8 => k_room); (case k9 => exact BindsTo.of_eq rfl); (case kB => exact rfl); (case kD => decide +kernel); (case c2 => exact rfl); (case c3 => exact rfl); (case c4 => exact rfl); k_whole; intro g' L' h' tk' cells' FG' F' N' Y' B' X' T' l1; (try k_lt l1); k_cells Y'; (try simp only [List.cons_append, List.nil_append] at N'); (try dsimp only); (try k_lift B'); (try k_fold)))
local macro_rules | `(tactic| k_mem) => `(tactic| (refine memOf ?_; assumption))
local macro_rules | `(tactic| k_all) => `(tactic| assumption)
section

inductive Opd where
  | name (x : Str)
  | int (i : Int)
  | tru
  | dict
inductive OpdIn (prog : Program) (w : World) (news : List (Addr × Obj)) : Value → Opd → Prop
  | name {a d : Addr} {hs : Int} {kt t : Tok} {x : Str} {n : Nat} : (a, instObj 171 d) ∈ news → (d, dictOf [⟨hs, .str (Str.ofString "text") kt, .str x t⟩] n) ∈ news → OpdIn prog w news (.ref a) (.name x)
  | int (i : Int) (t : Tok) : OpdIn prog w news (.int i t) (.int i)
  | tru : OpdIn prog w news (.bool true) .tru
  | dict {a : Addr} {o : Obj} {kvs : List (Str × Value)} : (a, o) ∈ news → (a == sysModules) = false → o.IsDictOf (strKind prog w) kvs → PyProof.V.FlatPairs PyData.str kvs [(PyData.str (Str.ofString "x"), PyData.int 1)] → OpdIn prog w news (.ref a) .dict
def toldOf : Opd → Dat
  | .name x => .tuple [.str (Str.ofString "name"), .str x]
  | .int i => .tuple [.str (Str.ofString "int"), .int i]
  | .tru => .tuple [.str (Str.ofString "truth"), .int 1]
  | .dict => .tuple [.str (Str.ofString "dict"), .tuple [.str (Str.ofString "x"), .tuple [.str (Str.ofString "int"), .int 1]]]

def Gives (prog : Program) (w : World) (K : Frag) (f : Addr) (news : List (Addr × Obj)) (vs : List Value) (room : Nat) (Out : List (Addr × Obj) → Value → Prop) : Prop :=
  ∀ (p : Program) (loose : List Str) (mean : ExcName → Option Value) (mg mb : Str → Option Value) (dp un : Nat) (gd : Option (List Code)) (cn : Str) (cs : Scope) (a : Addr) (ccd : Value) (cl : List (Str × Addr)) (outer : List Env) (A₀ : Around) (base h₀ : Heap) (L : Addr) (m : Str → Option Value) (s : Shared) (Q E : Value → Shared → Prop),
    Below A₀ base outer h₀ → Fr h₀ L s.heap m → K.In h₀ → News h₀ L s.heap news → Top p loose mean mg mb h₀ → cs.kind = .function → dp + room < recursionLimit → un + (64 + 8 * room) < cLine →
    (∀ r tl h' tk', Fr h₀ L h' m → News h₀ L h' (news ++ tl) → (∀ q ∈ news, ∀ p ∈ tl, q.1 < p.1) → Out tl r → Q r { s with heap := h', toks := tk' }) →
    wpAny (model prog w) (ktrTop dp un gd cn cs L a ccd cl outer) (call (.ref f) vs) Q E s
theorem endsN {h₀ h' : Heap} {L : Addr} {news rest tl : List (Addr × Obj)} (N : News h₀ L h' rest) (h1 : ∀ p ∈ news, p ∈ rest) (h2 : ∀ p ∈ tl, p ∈ rest) : News h₀ L h' (news ++ tl) :=
  fun p hp => N p ((List.mem_append.mp hp).elim (h1 p) (h2 p))
theorem ltAll {d : Addr} {o : Obj} {news : List (Addr × Obj)} (h : AllLt d news) : ∀ q ∈ news, ∀ p ∈ [(d, o)], q.1 < p.1 := fun q hq p hp => by
  rw [List.mem_singleton.mp hp]; exact kst_ltOf h q hq
theorem allLtIn {d : Addr} {news : List (Addr × Obj)} (h : ∀ q ∈ news, q.1 < d) : AllLt d news := allLt_of h
theorem comp_end_dict {h₀ h' : Heap} {L I C Dl D D1 S P c1 c2 : Addr} {m : Str → Option Value} {s₁ : Shared} {oI oC oD T1 T2 oc oS oP oc2 : Obj} {SS : List (Addr × Obj) → Prop} {rest : Value → List (Addr × Obj) → Prop} {y : Value} {tk : Nat} {news : List (Addr × Obj)}
    (F : Fr h₀ L h' m) (N : News h₀ L h' ((D, T1) :: (D1, T2) :: (c1, oc) :: (I, oI) :: (C, oC) :: (Dl, oD) :: (S, oS) :: (P, oP) :: (c2, oc2) :: news))
    (l : D1 < D ∧ c1 < D ∧ I < D ∧ C < D ∧ Dl < D ∧ S < D ∧ P < D ∧ c2 < D ∧ AllLt D news) (l1 : c1 < D1 ∧ I < D1 ∧ C < D1 ∧ Dl < D1 ∧ S < D1 ∧ P < D1 ∧ c2 < D1 ∧ AllLt D1 news)
    (off : (S ≠ I ∧ S ≠ C ∧ S ≠ Dl) ∧ (P ≠ I ∧ P ≠ C ∧ P ≠ Dl) ∧ (c2 ≠ I ∧ c2 ≠ C ∧ c2 ≠ Dl) ∧ LCg.Off3 I C Dl news)
    (hS : SS ((D, T1) :: (D1, T2) :: (S, oS) :: (P, oP) :: news)) (r : rest y ((D, T1) :: (D1, T2) :: (S, oS) :: (P, oP) :: news)) :
    LCg.CompEnd h₀ L m s₁ I oI C oC Dl oD SS rest y { s₁ with heap := h', toks := tk } := by
  obtain ⟨l_1, l_2, l_3, l_4, l_5, l_6, l_7, l_8, l_9⟩ := l
  obtain ⟨k_2, k_3, k_4, k_5, k_6, k_7, k_8, k_9⟩ := l1
  refine LCg.CompEnd.intro F N ((D, T1) :: (D1, T2) :: (S, oS) :: (P, oP) :: news) (fun p hp => ?_) ⟨⟨Nat.ne_of_gt l_3, Nat.ne_of_gt l_4, Nat.ne_of_gt l_5⟩, ⟨Nat.ne_of_gt k_3, Nat.ne_of_gt k_4, Nat.ne_of_gt k_5⟩, off.1, off.2.1, off.2.2.2⟩ hS r
  simp only [List.mem_cons] at hp ⊢
  rcases hp with h | h | h | h | h | h | h | h <;> simp [h]

theorem dict_end {h₀ h' : Heap} {L D D1 D2 D3 D4 D6 D7 c1 I C D5 c2 : Addr} {m : Str → Option Value} {s : Shared} {o1 o2 o6 o7 : Obj} {tk : Nat} {news : List (Addr × Obj)} {t1 t2 t3 t4 : Tok} {n1 n2 n3 : Nat} {Q : Value → Shared → Prop}
    (hret : ∀ r tl h' tk', Fr h₀ L h' m → News h₀ L h' (news ++ tl) → (∀ q ∈ news, ∀ p ∈ tl, q.1 < p.1) → DatIn tl r (toldOf .dict) → Q r { s with heap := h', toks := tk' })
    (F : Fr h₀ L h' m) (N : News h₀ L h' ((D, { cls := .type "tuple", data := .seq [Value.str (Str.ofString "dict") t1, .ref D3].toArray n1 }) :: (D1, o1) :: (D2, o2) :: (D3, { cls := .type "tuple", data := .seq [Value.str (Str.ofString "x") t2, .ref D4].toArray n2 }) :: (D4, { cls := .type "tuple", data := .seq [Value.str (Str.ofString "int") t3, .int 1 t4].toArray n3 }) :: (D6, o6) :: (D7, o7) :: news))
    (l : D1 < D ∧ D2 < D ∧ D3 < D ∧ D4 < D ∧ D6 < D ∧ D7 < D ∧ AllLt D news)
    (l3 : D4 < D3 ∧ c1 < D3 ∧ I < D3 ∧ C < D3 ∧ D5 < D3 ∧ D6 < D3 ∧ D7 < D3 ∧ c2 < D3 ∧ AllLt D3 news)
    (l4 : c1 < D4 ∧ I < D4 ∧ C < D4 ∧ D5 < D4 ∧ D6 < D4 ∧ D7 < D4 ∧ c2 < D4 ∧ AllLt D4 news) : Q (.ref D) { s with heap := h', toks := tk } := by
  refine hret _ [(D, { cls := .type "tuple", data := .seq [Value.str (Str.ofString "dict") t1, .ref D3].toArray n1 }), (D3, { cls := .type "tuple", data := .seq [Value.str (Str.ofString "x") t2, .ref D4].toArray n2 }), (D4, { cls := .type "tuple", data := .seq [Value.str (Str.ofString "int") t3, .int 1 t4].toArray n3 })] _ _ F (endsN N (fun p hp => ?_) (fun p hp => ?_)) (fun q hq p hp => ?_)
    (DatIn.tuple (.head _) (.cons (.str _ _) (.cons (DatIn.tuple (.tail _ (.head _)) (.cons (.str _ _) (.cons (DatIn.tuple (.tail _ (.tail _ (.head _))) (.cons (.str _ _) (.cons (.int _ _) .nil))) .nil))) .nil)))
  · simp only [List.mem_cons]; simp [hp]
  · simp only [List.mem_cons, List.not_mem_nil, or_false] at hp ⊢
    rcases hp with h | h | h <;> simp [h]
  · simp only [List.mem_cons, List.not_mem_nil, or_false] at hp
    rcases hp with h | h | h <;> subst h
    · exact kst_ltOf l.2.2.2.2.2.2 q hq
    · exact kst_ltOf l3.2.2.2.2.2.2.2.2 q hq
    · exact kst_ltOf l4.2.2.2.2.2.2.2 q hq
theorem sort_one {prog : Program} {w : World} {A : Around} {E : Value → Shared → Prop} {s : Shared} {h₀ : Heap} {L D : Addr} {m : Str → Option Value} {rest : List (Addr × Obj)} {x : Str} {t : Tok} {n : Nat} {Q : Value → Shared → Prop}
    (F : Fr h₀ L s.heap m) (N : News h₀ L s.heap ((D, listOf [Value.str x t].toArray n) :: rest)) (off : AllLt D rest)
    (h : ∀ h', Fr h₀ L h' m → News h₀ L h' ((D, listOf [Value.str x t].toArray (n + 2)) :: rest) → Q .none { s with heap := h' }) :
    wpAny (model prog w) A (call (.builtin "list.sort") [.ref D]) Q E s := by
  have z := N (D, listOf [Value.str x t].toArray n) (.head _)
  have ho : s.heap.get? D = some (seqObj "list" [Value.str x t].toArray n) := z.1
  have hS : StrsAre [Value.str x t] [x] := .cons _ _ .nil
  refine wpAny_call_entry PyProof.Rows.slot_list_sort ⟨_, z.1, rfl⟩ PyProof.Rows.entry_list_sort (list_sort_treeK strKind_oneLt (n := n) ho hS.keysOf (fun _ _ _ e => by cases e) (by simp) fun st' hp _ => ⟨.none, rfl, ?_⟩) (PyProof.Rows.args_list_sort _)
  have e1 : (arrOf st').toList = [(Value.str x t, Value.str x t)] := by
    have := Array.perm_iff_toList_perm.mp hp
    rw [pairsOf_toList] at this
    exact List.perm_singleton.mp this
  have e2 : (arrOf st').map (·.2) = [Value.str x t].toArray := by
    apply Array.toList_inj.mp
    rw [Array.toList_map, e1]
    rfl
  rw [e2]
  have off' : ∀ p ∈ rest, p.1 ≠ D := fun p hp => Nat.ne_of_lt (kst_ltOf off p hp)
  have F1 : Fr h₀ L (s.heap.update D (Obj.mapSeq fun _ => (#[] : Array Value))) m := F.change (Heap.SameBut.update ..) z.2.1 z.2.2
  have N1 := ki_turn (pre := []) (fun _ => (#[] : Array Value)) (its' := #[]) (n' := n + 1) N (fun _ hp => nomatch hp) off' rfl (by rfl)
  have N2 := News.grown N1 fun _ _ e => Heap.get?_push_of_some (seqObj "tuple" [Value.str x t].toArray 0) e
  have N3 := News.grown N2 fun _ _ e => Heap.get?_push_of_some (seqObj "list" #[] 0) e
  have N4 := ki_turn (pre := []) (fun _ => [Value.str x t].toArray) (its' := [Value.str x t].toArray) (n' := n + 2) N3 (fun _ hp => nomatch hp) off' rfl (by rfl)
  have F4 := ((F1.push (seqObj "tuple" [Value.str x t].toArray 0)).push (seqObj "list" #[] 0)).change (Heap.SameBut.update (a := D) (f := Obj.mapSeq fun _ => [Value.str x t].toArray) ..) z.2.1 z.2.2
  exact h _ F4 N4

set_option maxHeartbeats 4000000 in
theorem told_name (w : World) (news : List (Addr × Obj)) (v : Value) (x : Str) (h : OpdIn PySem.Challenge.rw_og0159_01.row.prog w news v (.name x)) :
    Gives PySem.Challenge.rw_og0159_01.row.prog w (pre.heap_1_41 w.params) 265 news [v] 8 (fun tl r => DatIn tl r (toldOf (.name x))) := by
  k_fill
  cases h
  unfold Gives
  intro p loose mean mg mb dp un gd cn cs a ccd cl outer A₀ base h₀ L m s Q E B F X N T hk hd hu hret
  refine wpAny_call ?_
  with_unfolding_all cell_enter
  k_steps
  exact hret _ [(_, _)] _ _ (by k_asm) (endsN (by k_asm) (fun p hp => List.Mem.tail _ (List.Mem.tail _ hp)) (fun p hp => by rw [List.mem_singleton.mp hp]; exact List.Mem.head _)) (ltAll (And.right (by assumption))) (DatIn.tuple (List.Mem.head _) (.cons (.str _ _) (.cons (.str _ _) .nil)))

set_option maxHeartbeats 4000000 in
theorem told_int (w : World) (news : List (Addr × Obj)) (v : Value) (i : Int) (h : OpdIn PySem.Challenge.rw_og0159_01.row.prog w news v (.int i)) :
    Gives PySem.Challenge.rw_og0159_01.row.prog w (pre.heap_1_41 w.params) 265 news [v] 8 (fun tl r => DatIn tl r (toldOf (.int i))) := by
  k_fill
  cases h
  unfold Gives
  intro p loose mean mg mb dp un gd cn cs a ccd cl outer A₀ base h₀ L m s Q E B F X N T hk hd hu hret
  refine wpAny_call ?_
  with_unfolding_all cell_enter
  k_steps
  exact hret _ [(_, _)] _ _ (by k_asm) (endsN (by k_asm) (fun p hp => List.Mem.tail _ (List.Mem.tail _ hp)) (fun p hp => by rw [List.mem_singleton.mp hp]; exact List.Mem.head _)) (ltAll (And.right (by assumption))) (DatIn.tuple (List.Mem.head _) (.cons (.str _ _) (.cons (.int _ _) .nil)))

set_option maxHeartbeats 4000000 in
theorem told_tru (w : World) (news : List (Addr × Obj)) (v : Value)  (h : OpdIn PySem.Challenge.rw_og0159_01.row.prog w news v .tru) :
    Gives PySem.Challenge.rw_og0159_01.row.prog w (pre.heap_1_41 w.params) 265 news [v] 8 (fun tl r => DatIn tl r (toldOf .tru)) := by
  k_fill
  cases h
  unfold Gives
  intro p loose mean mg mb dp un gd cn cs a ccd cl outer A₀ base h₀ L m s Q E B F X N T hk hd hu hret
  refine wpAny_call ?_
  with_unfolding_all cell_enter
  k_steps
  exact hret _ [(_, _)] _ _ (by k_asm) (endsN (by k_asm) (fun p hp => List.Mem.tail _ (List.Mem.tail _ hp)) (fun p hp => by rw [List.mem_singleton.mp hp]; exact List.Mem.head _)) (ltAll (And.right (by assumption))) (DatIn.tuple (List.Mem.head _) (.cons (.str _ _) (.cons (.int _ _) .nil)))


section DictPart
local macro_rules | `(tactic| walk_at "newTuple") => `(tactic| (k_here; k_dflt (refine' kup_newTuple ?F ?N ?_ ?z; (case F => k_asm); (case N => k_asm); (case z => kmk_size)); intro D' h' F' N' l1; (try k_lt l1); (try k_sweep)))
local macro_rules | `(tactic| walk_at "call builtin:list.sort") => `(tactic| (k_here; (with_reducible show wpAny _ _ (call (Value.builtin _) [Value.ref _]) _ _ _); k_dflt (refine sort_one (by k_asm) (by k_asm) (by assumption) ?_); intro h' F' N'))
local macro_rules | `(tactic| walk_at "call builtin:sorted") => `(tactic| (k_here; (with_reducible show wpAny _ _ (call (Value.builtin "sorted") [Value.ref _]) _ _ _); k_dflt (refine kdu_sortedD (knd := PySem.strKind _ _) (enc := PyData.str) (fun _ _ => kdl_flat_str) (by rfl) (by k_asm) (by k_asm) (by k_tabat) (by decide) ?_); intro D' h' tk'; kdl_open))
local macro_rules | `(tactic| walk_at "eval ListComp") => `(tactic| (k_here; lct_look; k_dflt (refine LCt.ListComp_T (F₀ := by k_asm) (by with_unfolding_all rfl) (by decide) (by rfl) (by decide) (by rfl) ?_)))
set_option maxHeartbeats 4000000 in
theorem told_dict (w : World) (news : List (Addr × Obj)) (v : Value)  (h : OpdIn PySem.Challenge.rw_og0159_01.row.prog w news v .dict) :
    Gives PySem.Challenge.rw_og0159_01.row.prog w (pre.heap_1_41 w.params) 265 news [v] 8 (fun tl r => DatIn tl r (toldOf .dict)) := by
  k_fill
  cases h
  unfold Gives
  intro p loose mean mg mb dp un gd cn cs a ccd cl outer A₀ base h₀ L m s Q E B F X N T hk hd hu hret
  refine wpAny_call ?_
  with_unfolding_all cell_enter
  k_steps
  refine comp_end_dict (by k_asm) (by k_asm) (by assumption) (by assumption) (by assumption) ?_ ?_
  · exact .inr ⟨_, .tail _ (.tail _ (.head _)), rfl, _, rfl⟩
  k_steps
  exact dict_end hret (by k_asm) (by k_asm) (by assumption) (by assumption) (by assumption)

end DictPart

theorem told_all (w : World) (news : List (Addr × Obj)) (v : Value) (o : Opd) (h : OpdIn PySem.Challenge.rw_og0159_01.row.prog w news v o) :
    Gives PySem.Challenge.rw_og0159_01.row.prog w (pre.heap_1_41 w.params) 265 news [v] 8 (fun tl r => DatIn tl r (toldOf o)) := by
  cases o with
  | name x => exact told_name w news v x h
  | int i => exact told_int w news v i h
  | tru => exact told_tru w news v h
  | dict => exact told_dict w news v h
end
section

inductive OpdAll (prog : Program) (w : World) (news : List (Addr × Obj)) : List Value → List Opd → Prop
  | nil : OpdAll prog w news [] []
  | cons {v : Value} {vs : List Value} {o : Opd} {os : List Opd} : OpdIn prog w news v o → OpdAll prog w news vs os → OpdAll prog w news (v :: vs) (o :: os)
theorem OpdIn.mono {prog : Program} {w : World} {news news' : List (Addr × Obj)} {v : Value} {o : Opd} (h : OpdIn prog w news v o) (hs : ∀ p ∈ news, p ∈ news') : OpdIn prog w news' v o := by
  cases h with
  | name a b => exact .name (hs _ a) (hs _ b)
  | int i t => exact .int i t
  | tru => exact .tru
  | dict a b c d => exact .dict (hs _ a) b c d
theorem OpdAll.mono {prog : Program} {w : World} {news news' : List (Addr × Obj)} {vs : List Value} {os : List Opd} (h : OpdAll prog w news vs os) (hs : ∀ p ∈ news, p ∈ news') : OpdAll prog w news' vs os := by
  induction h with
  | nil => exact .nil
  | cons a _ ih => exact .cons (a.mono hs) ih
theorem OpdAll.length {prog : Program} {w : World} {news : List (Addr × Obj)} {vs : List Value} {os : List Opd} (h : OpdAll prog w news vs os) : vs.length = os.length := by
  induction h with
  | nil => rfl
  | cons _ _ ih => simp [ih]
theorem OpdAll.at {prog : Program} {w : World} {news : List (Addr × Obj)} {vs : List Value} {os : List Opd} (h : OpdAll prog w news vs os) : ∀ {i : Nat} {v : Value}, vs[i]? = some v → ∃ o, os[i]? = some o ∧ OpdIn prog w news v o := by
  induction h with
  | nil => intro i v hv; simp at hv
  | cons a _ ih =>
    intro i v hv
    cases i with
    | zero => simp at hv; subst hv; exact ⟨_, rfl, a⟩
    | succ i => simpa using ih (by simpa using hv)
theorem OpdIn.handed {prog : Program} {w : World} {news : List (Addr × Obj)} {v : Value} {o : Opd} (h : OpdIn prog w news v o) : handedIn v = true := by cases h <;> rfl

/-- the ledger bears an Operation at a -/
structure OpIn (prog : Program) (w : World) (news : List (Addr × Obj)) (a : Addr) (x : Str) (os : List Opd) (d l : Addr) (vs : List Value) (h1 h2 : Int) (k1 k2 t : Tok) (n n' : Nat) : Prop where
  obj : (a, instObj 287 d) ∈ news
  dict : (d, dictOf [⟨h1, .str (Str.ofString "word") k1, .str x t⟩, ⟨h2, .str (Str.ofString "operands") k2, .ref l⟩] n) ∈ news
  lst : (l, listOf vs.toArray n') ∈ news
  all : OpdAll prog w news vs os
  few : os.length ≤ 8
theorem OpIn.mono {prog : Program} {w : World} {news news' : List (Addr × Obj)} {a d l : Addr} {x : Str} {os : List Opd} {vs : List Value} {h1 h2 : Int} {k1 k2 t : Tok} {n n' : Nat} (h : OpIn prog w news a x os d l vs h1 h2 k1 k2 t n n') (hs : ∀ p ∈ news, p ∈ news') :
    OpIn prog w news' a x os d l vs h1 h2 k1 k2 t n n' := ⟨hs _ h.obj, hs _ h.dict, hs _ h.lst, h.all.mono hs, h.few⟩
def opTold (x : Str) (os : List Opd) : Dat := .tuple [.str x, .tuple (os.map toldOf)]

theorem Gives.use {prog : Program} {w : World} {K : Frag} {f : Addr} {news : List (Addr × Obj)} {vs : List Value} {room : Nat} {Out : List (Addr × Obj) → Value → Prop} (G : Gives prog w K f news vs room Out)
    {p : Program} {loose : List Str} {mean : ExcName → Option Value} {mg mb : Str → Option Value} {dp un : Nat} {gd : Option (List Code)} {cn : Str} {cs : Scope} {a : Addr} {ccd : Value} {cl : List (Str × Addr)} {outer : List Env} {A₀ : Around} {base h₀ : Heap} {L : Addr} {m : Str → Option Value} {s : Shared} {Q E : Value → Shared → Prop}
    (B : Below A₀ base outer h₀) (F : Fr h₀ L s.heap m) (X : K.In h₀) (N : News h₀ L s.heap news) (T : Top p loose mean mg mb h₀) (hk : cs.kind = .function) (hd : dp + room < recursionLimit) (hu : un + (64 + 8 * room) < cLine)
    (h : ∀ r tl h' tk', Fr h₀ L h' m → News h₀ L h' (news ++ tl) → (∀ q ∈ news, ∀ p ∈ tl, q.1 < p.1) → Out tl r → Q r { s with heap := h', toks := tk' }) :
    wpAny (model prog w) (ktrTop dp un gd cn cs L a ccd cl outer) (call (.ref f) vs) Q E s :=
  G _ _ _ _ _ _ _ _ _ _ _ _ _ _ _ _ _ _ _ _ _ _ B F X N T hk hd hu h

theorem endMono {h₀ : Heap} {L I C D : Addr} {m : Str → Option Value} {s₁ : Shared} {oI oC oD : Obj} {S : List (Addr × Obj) → Prop} {r r' : Value → List (Addr × Obj) → Prop} {y : Value} {s₂ : Shared}
    (h : LCg.CompEnd h₀ L m s₁ I oI C oC D oD S r y s₂) (k : ∀ y nw, r y nw → r' y nw) : LCg.CompEnd h₀ L m s₁ I oI C oC D oD S r' y s₂ := by
  obtain ⟨h', tk, nw, e, F, N, o, hS, hr⟩ := h
  exact ⟨h', tk, nw, e, F, N, o, hS, k _ _ hr⟩
theorem rest_ind {prog : Program} {w : World} {A : Around} {h₀ : Heap} {L : Addr} {m : Str → Option Value} {env : Env} {elt : Expr} {x : Str} {scope : Scope} {cl : List (Str × Addr)} {s : Shared} {S : List (Addr × Obj) → Prop} {P : Nat → Value → Prop} {Fin : List Value → List (Addr × Obj) → Prop}
    (J : Nat → List Value → List (Addr × Obj) → Prop) (n : Nat)
    (step : ∀ i ys news, i < n → J i ys news → ∀ v I oI C oC D m₂ h tk (E' : Value → Shared → Prop), P i v → LCg.NsObj oC m₂ → m₂ x = some v → Fr h₀ L h m → News h₀ L h ((I, oI) :: (C, oC) :: (D, LCg.lst ys) :: news) → LCg.Off3 I C D news → ((@Ne Nat I C) ∧ (@Ne Nat I D) ∧ (@Ne Nat C D)) →
      wpAny (model prog w) A (eval elt (compEnvC scope cl C env)) (LCg.CompEnd h₀ L m { s with heap := h, toks := tk } I oI C oC D (LCg.lst ys) S (fun y news' => J (i + 1) (ys ++ [y]) news')) E' { s with heap := h, toks := tk })
    (fin : ∀ ys news, J n ys news → Fin ys news) : ∀ k i ys news, i + k = n → J i ys news → LCg.CompRest prog w A h₀ L m env elt x scope cl s S P Fin k i ys news := by
  intro k
  induction k with
  | zero => intro i ys news e j; exact LCg.CompRest.zero (fin _ _ (by rw [← show i = n by omega]; exact j))
  | succ k ih =>
    intro i ys news e j
    refine LCg.CompRest.succ fun v I oI C oC D m₂ h tk E' hP hC hx F N off ne => ?_
    exact wpAny_mono (step i ys news (by omega) j v I oI C oC D m₂ h tk E' hP hC hx F N off ne) (fun y s₂ z => endMono z fun y nw q => ih (i + 1) _ _ (by omega) q) fun _ _ e => e
theorem off3App {I C D : Addr} {a b : List (Addr × Obj)} (ha : LCg.Off3 I C D a) (hb : ∀ p ∈ b, I < p.1 ∧ C < p.1 ∧ D < p.1) : LCg.Off3 I C D (a ++ b) := LCg.Off3.of fun p hp => by
  rcases List.mem_append.mp hp with hp | hp
  · exact LCg.Off3.mem ha p hp
  · exact ⟨Nat.ne_of_gt (hb p hp).1, Nat.ne_of_gt (hb p hp).2.1, Nat.ne_of_gt (hb p hp).2.2⟩
theorem DatAll.snoc {news : List (Addr × Obj)} {vs : List Value} {ds : List Dat} {v : Value} {d : Dat} (h : DatAll news vs ds) (hv : DatIn news v d) : DatAll news (vs ++ [v]) (ds ++ [d]) := by
  induction vs generalizing ds with
  | nil => cases h; exact .cons hv .nil
  | cons u us ih => cases h with
    | cons a b => exact .cons a (ih b)
theorem take_snoc {α : Type} {l : List α} {i : Nat} {a : α} (h : l[i]? = some a) : l.take (i + 1) = l.take i ++ [a] := by simp [List.take_add_one, h]

theorem op_fin {h₀ h' : Heap} {L D D1 Dl : Addr} {m : Str → Option Value} {s : Shared} {ol : Obj} {tk : Nat} {news tl : List (Addr × Obj)} {t : Tok} {n1 n2 : Nat} {x : Str} {os : List Opd} {ys : List Value} {Q : Value → Shared → Prop}
    (hret : ∀ r tl h' tk', Fr h₀ L h' m → News h₀ L h' (news ++ tl) → (∀ q ∈ news, ∀ p ∈ tl, q.1 < p.1) → DatIn tl r (opTold x os) → Q r { s with heap := h', toks := tk' })
    (hlt : ∀ q ∈ news, ∀ p ∈ tl, q.1 < p.1) (hda : DatAll tl ys (os.map toldOf))
    (F : Fr h₀ L h' m) (N : News h₀ L h' ((D, { cls := .type "tuple", data := .seq [Value.str x t, .ref D1].toArray n1 }) :: (D1, { cls := .type "tuple", data := .seq ys.toArray n2 }) :: (Dl, ol) :: (news ++ tl)))
    (l : D1 < D ∧ Dl < D ∧ AllLt D (news ++ tl)) (l1 : Dl < D1 ∧ AllLt D1 (news ++ tl)) : Q (.ref D) { s with heap := h', toks := tk } := by
  refine hret _ ((D, { cls := .type "tuple", data := .seq [Value.str x t, .ref D1].toArray n1 }) :: (D1, { cls := .type "tuple", data := .seq ys.toArray n2 }) :: tl) _ _ F (endsN N (fun p hp => ?_) (fun p hp => ?_)) (fun q hq p hp => ?_)
    (DatIn.tuple (.head _) (.cons (.str _ _) (.cons (DatIn.tuple (.tail _ (.head _)) (hda.mono fun p hp => .tail _ (.tail _ hp))) .nil)))
  · exact .tail _ (.tail _ (.tail _ (List.mem_append_left _ hp)))
  · rcases List.mem_cons.mp hp with h | hp
    · rw [h]; exact .head _
    · rcases List.mem_cons.mp hp with h | hp
      · rw [h]; exact .tail _ (.head _)
      · exact .tail _ (.tail _ (.tail _ (List.mem_append_right _ hp)))
  · rcases List.mem_cons.mp hp with h | hp
    · rw [h]; exact kst_ltOf l.2.2 q (List.mem_append_left _ hq)
    · rcases List.mem_cons.mp hp with h | hp
      · rw [h]; exact kst_ltOf l1.2 q (List.mem_append_left _ hq)
      · exact hlt q hq p hp

local macro_rules | `(tactic| walk_at "eval ListComp") => `(tactic| (k_here; k_dflt (refine LCg.ListComp_U (F₀ := by k_asm) (by with_unfolding_all rfl) (by decide) (by rfl) (by decide) (by rfl) ?_)))
local macro_rules | `(tactic| walk_at "call type:tuple") => `(tactic| (k_here; (with_reducible show wpAny _ _ (call (Value.type _) [Value.ref _]) _ _ _); k_dflt (refine' kde_tupleOf ?k1 ?k2 ?k3 ?k4 ?k5 ?_; (case k1 => k_asm); (case k2 => k_asm); (case k3 => exact News.isList (by k_asm) (by k_mem)); (case k4 => (rw [List.size_toArray]; omega)); (case k5 => exact List.toList_toArray); k_whole); intro D' h' F' N' l1; (try k_lt l1)))
set_option maxHeartbeats 4000000 in
theorem op_told (w : World) (news : List (Addr × Obj)) (ao : Addr) (x : Str) (os : List Opd) (d l : Addr) (vs : List Value) (h1 h2 : Int) (k1 k2 t : Tok) (n n' : Nat) (h : OpIn PySem.Challenge.rw_og0159_01.row.prog w news ao x os d l vs h1 h2 k1 k2 t n n') :
    Gives PySem.Challenge.rw_og0159_01.row.prog w (pre.heap_1_41 w.params) 284 news [.ref ao] 12 (fun tl r => DatIn tl r (opTold x os)) := by
  k_fill
  have hm1 := h.obj
  have hm2 := h.dict
  have hm3 := h.lst
  have hlen := h.all.length
  have hfew := h.few
  unfold Gives
  intro p loose mean mg mb dp un gd cn cs a ccd cl outer A₀ base h₀ L m s Q E B F X N T hk hd hu hret
  refine wpAny_call ?_
  with_unfolding_all cell_enter
  k_steps
  refine LCg.CompSrc.ledger (by rfl) (by k_asm) (by k_asm) (by k_mem) (by rw [List.size_toArray, sizeLine_eq]; omega) ?_
  intro g9
  have hsz : vs.toArray.size = os.length := by rw [List.size_toArray]; exact hlen
  rw [hsz]
  refine rest_ind (fun i ys nw => ∃ tl, nw = news ++ tl ∧ (∀ q ∈ news, ∀ p ∈ tl, q.1 < p.1) ∧ DatAll tl ys ((os.take i).map toldOf)) os.length ?step ?fin _ 0 [] _ (Nat.zero_add _) ⟨[], (List.append_nil _).symm, (fun _ _ _ hp => nomatch hp), .nil⟩
  case step =>
    rintro i ys _ hi ⟨tl, rfl, hlt, hda⟩ v I oI C oC D m₂ h9 tk9 E9 hP hC hx F9 N9 off9 ne9
    obtain ⟨o9, ho9, hop⟩ := h.all.at (show vs[i]? = some v by simpa using hP)
    repeat' (first | ((fail_if_success (with_reducible show wpAny _ _ (call (Value.ref 265) _) _ _ _)); first | walk1 | (dsimp only; walk1)) | fail "no step")
    refine' Gives.use (told_all w _ v o9 (hop.mono fun p hp => .tail _ (.tail _ (.tail _ (List.mem_append_left _ hp))))) ?k1 ?k2 ?k3 N9 ?k5 ?k6 ?k7 ?k8 ?_
    case k1 => k_asm
    case k2 => k_asm
    case k3 => k_asm
    case k5 => k_asm
    case k6 => first | exact rfl | assumption
    case k7 => k_room
    case k8 => k_units
    intro r tl2 h2 tk2 F2 N2 lt2 out2
    have ltI : ∀ p ∈ tl2, I < p.1 ∧ C < p.1 ∧ D < p.1 := fun p hp => ⟨lt2 _ (.head _) p hp, lt2 _ (.tail _ (.head _)) p hp, lt2 _ (.tail _ (.tail _ (.head _))) p hp⟩
    refine LCg.CompEnd.intro F2 N2 ((news ++ tl) ++ tl2) (fun p hp => ?_) (off3App off9 ltI) (.inr ⟨_, List.mem_append_left _ (List.mem_append_left _ hm3), rfl, _, rfl⟩) ⟨tl ++ tl2, List.append_assoc _ _ _, fun q hq p hp => ?_, ?_⟩
    · simpa using hp
    · rcases List.mem_append.mp hp with hp | hp
      · exact hlt q hq p hp
      · exact lt2 q (.tail _ (.tail _ (.tail _ (List.mem_append_left _ hq)))) p hp
    · rw [take_snoc ho9, List.map_append]
      exact DatAll.snoc (hda.mono fun p hp => List.mem_append_left _ hp) (out2.mono fun p hp => List.mem_append_right _ hp)
  case fin =>
    rintro ys _ ⟨tl, rfl, hlt, hda⟩
    rw [List.take_length] at hda
    have hylen : ys.length ≤ 8 := by rw [hda.length, List.length_map]; exact hfew
    k_steps
    exact op_fin hret hlt hda (by k_asm) (by k_asm) (by assumption) (by assumption)
end
section
local macro_rules | `(tactic| walk_at "none 0") => `(tactic| fail)

def namesOf : List Opd → List Str
  | [] => []
  | .name x :: r => x :: namesOf r
  | _ :: r => namesOf r
def shownOf (x : Str) (os : List Opd) : Bool :=
  if x = Str.ofString "BDC" ∧ os.length = 2 then (match namesOf os with
    | [a, b] => if a = Str.ofString "OC" then !(b == Str.ofString "b") else true
    | _ => true) else true
theorem namesOf_snoc : ∀ (os : List Opd) (o : Opd), namesOf (os ++ [o]) = namesOf os ++ namesOf [o]
  | [], _ => rfl
  | .name x :: r, o => by rw [List.cons_append, namesOf, namesOf, namesOf_snoc r o, List.cons_append]
  | .int _ :: r, o => by rw [List.cons_append, namesOf, namesOf, namesOf_snoc r o]; all_goals (intro _ h; cases h)
  | .tru :: r, o => by rw [List.cons_append, namesOf, namesOf, namesOf_snoc r o]; all_goals (intro _ h; cases h)
  | .dict :: r, o => by rw [List.cons_append, namesOf, namesOf, namesOf_snoc r o]; all_goals (intro _ h; cases h)
theorem namesOf_len : ∀ os : List Opd, (namesOf os).length ≤ os.length
  | [] => Nat.le_refl _
  | .name x :: r => Nat.succ_le_succ (namesOf_len r)
  | .int _ :: r => Nat.le_succ_of_le (namesOf_len r)
  | .tru :: r => Nat.le_succ_of_le (namesOf_len r)
  | .dict :: r => Nat.le_succ_of_le (namesOf_len r)
theorem strsSnoc {vs : List Value} {ss : List Str} (h : StrsAre vs ss) (x : Str) (t : Tok) : StrsAre (vs ++ [.str x t]) (ss ++ [x]) := by
  induction h with
  | nil => exact .cons _ _ .nil
  | cons y t _ ih => exact .cons _ _ ih
theorem restT_ind {prog : Program} {w : World} {A : Around} {h₀ : Heap} {L : Addr} {m : Str → Option Value} {env : Env} {ct elt : Expr} {x : Str} {scope : Scope} {cl : List (Str × Addr)} {s : Shared} {S : List (Addr × Obj) → Prop} {P : Nat → Value → Prop} {Fin : List Value → List (Addr × Obj) → Prop}
    (J : Nat → List Value → List (Addr × Obj) → Prop) (n : Nat)
    (step : ∀ i ys news, i < n → J i ys news → ∀ v I oI C oC D m₂ h tk (E' : Value → Shared → Prop), P i v → LCg.NsObj oC m₂ → m₂ x = some v → Fr h₀ L h m → News h₀ L h ((I, oI) :: (C, oC) :: (D, LCg.lst ys) :: news) → LCg.Off3 I C D news → ((@Ne Nat I C) ∧ (@Ne Nat I D) ∧ (@Ne Nat C D)) →
      wpAny (model prog w) A (isTrue ct (compEnvC scope cl C env) (eval ct (compEnvC scope cl C env))) (fun ok s' => if ok = true then
        wpAny (model prog w) A (eval elt (compEnvC scope cl C env)) (LCg.CompEnd h₀ L m { s with heap := h, toks := tk } I oI C oC D (LCg.lst ys) S (fun y news' => J (i + 1) (ys ++ [y]) news')) E' s'
        else LCg.CompEnd h₀ L m { s with heap := h, toks := tk } I oI C oC D (LCg.lst ys) S (fun _ news' => J (i + 1) ys news') Value.none s') E' { s with heap := h, toks := tk })
    (fin : ∀ ys news, J n ys news → Fin ys news) : ∀ k i ys news, i + k = n → J i ys news → LCt.CompRestT prog w A h₀ L m env ct elt x scope cl s S P Fin k i ys news := by
  intro k
  induction k with
  | zero => intro i ys news e j; exact LCt.CompRestT.zero (fin _ _ (by rw [← show i = n by omega]; exact j))
  | succ k ih =>
    intro i ys news e j
    refine LCt.CompRestT.succ fun v I oI C oC D m₂ h tk E' hP hC hx F N off ne => ?_
    refine wpAny_mono (step i ys news (by omega) j v I oI C oC D m₂ h tk E' hP hC hx F N off ne) (fun ok s' z => ?_) fun _ _ e => e
    cases ok with
    | true =>
      simp only [if_true] at z ⊢
      exact wpAny_mono z (fun y s₂ z => endMono z fun y nw q => ih (i + 1) _ _ (by omega) q) fun _ _ e => e
    | false =>
      simp only [Bool.false_eq_true, if_false] at z ⊢
      exact endMono z fun y nw q => ih (i + 1) _ _ (by omega) q
theorem compStay {h₀ h : Heap} {L I C D : Addr} {m : Str → Option Value} {s₁ : Shared} {oI oC oD : Obj} {S : List (Addr × Obj) → Prop} {r : Value → List (Addr × Obj) → Prop} {y : Value} {tk : Nat} {nw : List (Addr × Obj)}
    (F : Fr h₀ L h m) (N : News h₀ L h ((I, oI) :: (C, oC) :: (D, oD) :: nw)) (off : LCg.Off3 I C D nw) (hS : S nw) (hr : r y nw) : LCg.CompEnd h₀ L m s₁ I oI C oC D oD S r y { s₁ with heap := h, toks := tk } :=
  LCg.CompEnd.intro F N nw (fun _ hp => hp) off hS hr

theorem shown_fin {h₀ h' : Heap} {L D : Addr} {m : Str → Option Value} {s : Shared} {o : Obj} {tk : Nat} {news : List (Addr × Obj)} {x : Str} {os : List Opd} {v : Value} {Q : Value → Shared → Prop}
    (hret : ∀ r tl h' tk', Fr h₀ L h' m → News h₀ L h' (news ++ tl) → (∀ q ∈ news, ∀ p ∈ tl, q.1 < p.1) → tl = [] ∧ r = .bool (shownOf x os) → Q r { s with heap := h', toks := tk' })
    (F : Fr h₀ L h' m) (N : News h₀ L h' ((D, o) :: news)) (e : v = .bool (shownOf x os)) : Q v { s with heap := h', toks := tk } := by
  exact hret _ [] _ _ F (endsN N (fun p hp => .tail _ hp) (fun _ hp => nomatch hp)) (fun _ _ _ hp => nomatch hp) ⟨rfl, e⟩
section
variable {x n0 n1 : Str} {os : List Opd}
theorem sA (h : (x != Str.ofString "BDC") = true) : Value.bool true = .bool (shownOf x os) := by
  have : x ≠ Str.ofString "BDC" := by simpa using h
  simp [shownOf, this]
theorem sB (h : (os.length : Int) ≠ 2) : Value.bool true = .bool (shownOf x os) := by
  have : os.length ≠ 2 := by omega
  simp [shownOf, this]
theorem sC (h : ((namesOf os).length : Int) ≠ 2) : Value.bool true = .bool (shownOf x os) := by
  unfold shownOf
  split
  · split
    · rename_i e; rw [e] at h; exact absurd rfl h
    · rfl
  · rfl
theorem sD (hn : namesOf os = [n0, n1]) (h : (n0 != Str.ofString "OC") = true) : Value.bool true = .bool (shownOf x os) := by
  have : n0 ≠ Str.ofString "OC" := by simpa using h
  simp [shownOf, hn, this]
theorem sF (h : (namesOf os).length ≠ 2) (h2 : ((namesOf os).length : Int) = 2) {v : Value} : v = .bool (shownOf x os) := absurd (by omega) h
theorem seen_get {v : Value} (h : PyProof.V.Flat v ((Spec.lookup (PyData.str n1) [(PyData.str { cps := #[97] }, PyData.bool true), (PyData.str { cps := #[98] }, PyData.bool false)]).getD (PyData.bool true))) : v = .bool (!(n1 == Str.ofString "b")) := by
  have e : Str.ofString "b" = ({ cps := #[98] } : Str) := rfl
  rw [e]
  by_cases ha : n1 = ({ cps := #[97] } : Str)
  · subst ha
    have : PyProof.V.Flat v (PyData.bool true) := h
    exact this.bool_inv
  · by_cases hb : n1 = ({ cps := #[98] } : Str)
    · subst hb
      have : PyProof.V.Flat v (PyData.bool false) := h
      exact this.bool_inv
    · have e1 : Spec.lookup (PyData.str n1) [(PyData.str { cps := #[97] }, PyData.bool true), (PyData.str { cps := #[98] }, PyData.bool false)] = none := by
        simp [Spec.lookup, PyProof.V.same_str, Ne.symm ha, Ne.symm hb]
      rw [e1] at h
      have : PyProof.V.Flat v (PyData.bool true) := h
      rw [this.bool_inv]
      simp [hb]
theorem sE {v : Value} (h1 : (x != Str.ofString "BDC") = false) (h2 : (os.length : Int) = 2) (hn : namesOf os = [n0, n1]) (h3 : (n0 != Str.ofString "OC") = false)
    (h : PyProof.V.Flat v ((Spec.lookup (PyData.str n1) [(PyData.str { cps := #[97] }, PyData.bool true), (PyData.str { cps := #[98] }, PyData.bool false)]).getD (PyData.bool true))) : v = .bool (shownOf x os) := by
  rw [seen_get h]
  have e1 : x = Str.ofString "BDC" := by simpa using h1
  have e2 : os.length = 2 := by omega
  have e3 : n0 = Str.ofString "OC" := by simpa using h3
  simp [shownOf, e1, e2, hn, e3]
end
local macro_rules | `(tactic| walk_at "call builtin:len") => `(tactic| (k_here; (with_reducible show wpAny _ _ (call (Value.builtin "len") [Value.ref _]) _ _ _); k_dflt (refine' kst_len ?k1 ?k2 ?k3 ?k4 ?_; (case k1 => k_asm); (case k2 => k_mem); (case k3 => assumption); (case k4 => omega)); k_whole))
local macro_rules | `(tactic| walk_at "exec Assign cons ListComp") => `(tactic| (k_here; lct_look; k_dflt (refine LCt.Assign_ListComp_T (F₀ := by k_asm) (by rfl) (by with_unfolding_all rfl) (by with_unfolding_all rfl) (by decide) (by rfl) (by decide) (by rfl) (by rfl) (by rfl) ?_)))
set_option maxHeartbeats 4000000 in
theorem shown_ok (w : World) (news : List (Addr × Obj)) (ao : Addr) (x : Str) (os : List Opd) (d l : Addr) (vs : List Value) (h1 h2 : Int) (k1 k2 t : Tok) (n n' : Nat) (h : OpIn PySem.Challenge.rw_og0159_01.row.prog w news ao x os d l vs h1 h2 k1 k2 t n n') :
    Gives PySem.Challenge.rw_og0159_01.row.prog w (pre.heap_1_41 w.params) 299 news [.ref ao, .ref 335] 12 (fun tl r => tl = [] ∧ r = .bool (shownOf x os)) := by
  k_fill
  have hm1 := h.obj
  have hm2 := h.dict
  have hm3 := h.lst
  have hlen := h.all.length
  have hfew := h.few
  unfold Gives
  intro p loose mean mg mb dp un gd cn cs a ccd cl outer A₀ base h₀ L m s Q E B F X N T hk hd hu hret
  refine wpAny_call ?_
  with_unfolding_all cell_enter
  k_steps
  refine LCt.CompSrcT.ledger (by rfl) (by k_asm) (by k_asm) (by k_mem) (by rw [List.size_toArray, sizeLine_eq]; omega) ?_
  intro g9
  have hsz : vs.toArray.size = os.length := by rw [List.size_toArray]; exact hlen
  rw [hsz]
  refine restT_ind (fun i ys nw => nw = news ∧ StrsAre ys (namesOf (os.take i))) os.length ?step ?fin _ 0 [] _ (Nat.zero_add _) ⟨rfl, .nil⟩
  case step =>
    rintro i ys _ hi ⟨rfl, hys⟩ v I oI C oC D m₂ h9 tk9 E9 hP hC hx F9 N9 off9 ne9
    obtain ⟨o9, ho9, hop⟩ := h.all.at (show vs[i]? = some v by simpa using hP)
    have hts := take_snoc ho9
    cases hop
    all_goals k_steps
    · exact compStay (by k_asm) (by k_asm) off9 (.inr ⟨_, hm3, rfl, _, rfl⟩) ⟨rfl, by rw [hts, namesOf_snoc]; exact strsSnoc hys _ _⟩
    · exact compStay (by k_asm) (by k_asm) off9 (.inr ⟨_, hm3, rfl, _, rfl⟩) ⟨rfl, by rw [hts, namesOf_snoc]; simpa [namesOf] using hys⟩
    · exact compStay (by k_asm) (by k_asm) off9 (.inr ⟨_, hm3, rfl, _, rfl⟩) ⟨rfl, by rw [hts, namesOf_snoc]; simpa [namesOf] using hys⟩
    · exact compStay (by k_asm) (by k_asm) off9 (.inr ⟨_, hm3, rfl, _, rfl⟩) ⟨rfl, by rw [hts, namesOf_snoc]; simpa [namesOf] using hys⟩
  case fin =>
    rintro ys _ ⟨rfl, hys⟩
    rw [List.take_length] at hys
    have hnl := namesOf_len os
    have hyl : ys.length = (namesOf os).length := StrsAre.length hys
    by_cases hq : ∃ n0 n1, namesOf os = [n0, n1]
    · obtain ⟨n0, n1, hn⟩ := hq
      rw [hn] at hys
      cases hys with
      | cons _ t0 hys => cases hys with
        | cons _ t1 hys =>
          cases hys
          k_steps
          all_goals refine shown_fin hret (by k_asm) (by k_asm) ?_
          · exact sA (by assumption)
          · exact sB (by assumption)
          · exact sC (by assumption)
          · exact sD hn (by assumption)
          · exact sE (by assumption) (by assumption) hn (by assumption) (by with_unfolding_all assumption)
    · have hn2 : (namesOf os).length ≠ 2 := fun e => by
        match he : namesOf os, e with
        | [n0, n1], _ => exact hq ⟨n0, n1, he⟩
      k_steps
      all_goals refine shown_fin hret (by k_asm) (by k_asm) ?_
      · exact sA (by assumption)
      · exact sB (by assumption)
      · exact sC (by assumption)
      · exact sF hn2 (by assumption)
end
section

/-- the ledger bears the closure take at f, over the cells cs; its list of one int lies apart, at pl -/
structure TakeIn (w : World) (news : List (Addr × Obj)) (f pl : Addr) (c cp cc D : Addr) (oc ocp occ : Obj) (vsc : Array Value) (tq : Tok) (qual : Str) (dc pm ct : Value) (vs : List Value) (cs : List Int) (nD : Nat) : Prop where
  fn : (f, fnMade (Str.ofString "take") qual (takeParts w.params).1.1 (takeParts w.params).1.2.1 (takeParts w.params).1.2.2 [(Str.ofString "place", cp), (Str.ofString "cells", cc)] dc pm c ct) ∈ news
  co : (c, oc) ∈ news
  cod : oc.data = .fields vsc
  coq : vsc[1]? = some (.str qual tq)
  pc : (cp, ocp) ∈ news
  pcd : ocp.data = .cell (some (.ref pl))
  cc : (cc, occ) ∈ news
  ccd : occ.data = .cell (some (.ref D))
  lst : (D, listOf vs.toArray nD) ∈ news
  isI : IntsAre vs cs
  ne : cs ≠ []
  few : cs.length ≤ 63

local macro_rules | `(tactic| walk_at "subscriptTail Name Constant ref int") => `(tactic| (k_here; k_dflt (refine kim_list (k := 0) (by k_asm) (by k_mem) rfl rfl (by decide) (by decide) rfl ?_)))
local macro_rules | `(tactic| walk_at "binaryOp FloorDiv int int") => `(tactic| (k_here; k_dflt (first
  | (refine' fd_small ?ka ?kb ?kc ?kd ?_; (case ka => omega); (case kb => omega); (case kc => omega); (case kd => omega); intro v' t' tk' hv0 hv1)
  | (refine fd_big (by assumption) (by assumption) ?_; intro v' t' tk'))))
local macro_rules | `(tactic| walk_at "binaryOp Mod int int") => `(tactic| (k_here; k_dflt (refine' md_any ?ka ?_; (case ka => omega); intro v' t' tk' hv0 hv1)))
local macro_rules | `(tactic| walk_at "binaryOp Pow int int") => `(tactic| (k_here; k_dflt (refine pw_any (by assumption) (by assumption) ?_; intro v' t' tk' hv0 hv1)))
local macro_rules | `(tactic| walk_at "binaryOp Mult int int") => `(tactic| (k_here; k_dflt (refine' ml_any ?ka ?_; (case ka => omega); intro v' t' tk' hv0)))
local macro_rules | `(tactic| walk_at "call builtin:len") => `(tactic| (k_here; (with_reducible show wpAny _ _ (call (Value.builtin "len") [Value.ref _]) _ _ _); k_dflt (refine' kst_len ?k1 ?k2 ?k3 ?k4 ?_; (case k1 => k_asm); (case k2 => k_mem); (case k3 => assumption); (case k4 => omega)); k_whole))
local macro_rules | `(tactic| walk_at "eval Name") => `(tactic| (k_here; k_dflt (refine' nameX_F ?N ?c ?m ?d ?_ ?a ?b; (case a => rfl); (case b => rfl); (case N => k_asm); (case c => rfl); (case m => k_mem); (case d => k_asm); k_whole)))
set_option maxHeartbeats 1000000 in
theorem take_ok (w : World) (news : List (Addr × Obj)) (f pl c cp cc D : Addr) (oc ocp occ : Obj) (vsc : Array Value) (tq : Tok) (qual : Str) (dc pm ct : Value) (vs : List Value) (cs : List Int) (nD np : Nat) (k lm : Int) (tk tl : Tok)
    (h : TakeIn w news f pl c cp cc D oc ocp occ vsc tq qual dc pm ct vs cs nD) (off : ∀ q ∈ news, q.1 ≠ pl) (hk : 0 ≤ k) (hk2 : k ≤ 200) (hl : 1 ≤ lm) (hl2 : lm ≤ 1000)
    (p : Program) (loose : List Str) (mean : ExcName → Option Value) (mg mb : Str → Option Value) (dp un : Nat) (gd : Option (List Code)) (cn : Str) (csc : Scope) (a : Addr) (ccd : Value) (cl : List (Str × Addr)) (outer : List Env) (A₀ : Around) (base h₀ : Heap) (L : Addr) (m : Str → Option Value) (s : Shared) (Q E : Value → Shared → Prop)
    (B : Below A₀ base outer h₀) (F : Fr h₀ L s.heap m) (X : (pre.heap_1_41 w.params).In h₀) (N : News h₀ L s.heap ((pl, listOf [Value.int k tk].toArray np) :: news)) (T : Top p loose mean mg mb h₀) (hkf : csc.kind = .function) (hdp : dp + 4 < recursionLimit) (hun : un + 64 < cLine)
    (hret : ∀ v t t2 h' tk', Fr h₀ L h' m → News h₀ L h' ((pl, listOf [Value.int (k + 1) t2].toArray np) :: news) → 0 ≤ v → v < lm → Q (.int v t) { s with heap := h', toks := tk' }) :
    wpAny (model PySem.Challenge.rw_og0159_01.row.prog w) (ktrTop dp un gd cn csc L a ccd cl outer) (call (.ref f) [.int lm tl]) Q E s := by
  revert X
  k_fill
  intro X
  obtain ⟨h1, h2, h3, h4, h5, h6, h7, h8, h9, hI, hne, hfew⟩ := h
  dsimp only [takeParts] at h1
  have hvl := hI.length
  have hpos : 1 ≤ cs.length := List.length_pos_iff.mpr hne
  refine wpAny_call ?_
  refine' code_nest ?k1 ?k2 ?k3 ?k4 ?k5 ?kA ?kF ?kK ?k6 ?k7 ?k8 ?k9 ?kB ?_ ?c2 ?c3 ?c4 ?c5
  case kA => exact rfl
  case kF => exact rfl
  case kK => assumption
  case k1 => k_asm
  case k2 => k_asm
  case k3 => k_asm
  case k4 => k_asm
  case k5 => k_asm
  case k6 => exact List.Mem.tail _ h1
  case k7 => exact codeRec_news N (List.Mem.tail _ h2) h3 h4
  case k8 => k_room
  case k9 => exact BindsTo.of_eq rfl
  case c5 => decide
  case kB => exact locs rfl
  case c2 => exact rfl
  case c3 => exact rfl
  case c4 => exact rfl
  intro g' L' h' FG' F' N' B' X' T'
  (try dsimp only)
  (try k_lift B')
  (try k_fold)
  k_steps
  exact hret _ _ _ _ _ (by k_asm) (by k_asm) (by assumption) (by assumption)
end
section


set_option maxHeartbeats 1000000 in
theorem name_new {w : World} {news : List (Addr × Obj)} {x : Str} {t : Tok}
    {p : Program} {loose : List Str} {mean : ExcName → Option Value} {mg mb : Str → Option Value} {dp un : Nat} {gd : Option (List Code)} {cn : Str} {csc : Scope} {a : Addr} {ccd : Value} {cl : List (Str × Addr)} {outer : List Env} {A₀ : Around} {base h₀ : Heap} {L : Addr} {m : Str → Option Value} {s : Shared} {Q E : Value → Shared → Prop}
    (B : Below A₀ base outer h₀) (F : Fr h₀ L s.heap m) (X : (pre.heap_1_41 w.params).In h₀) (N : News h₀ L s.heap news) (T : Top p loose mean mg mb h₀) (hkf : csc.kind = .function) (hdp : dp + 4 < recursionLimit) (hun : un + 64 < cLine)
    (hret : ∀ ao d h' tk' (hs1 : Int) (kt1 : Tok), Fr h₀ L h' m → News h₀ L h' ((ao, instObj 171 d) :: (d, dictOf [⟨hs1, .str (Str.ofString "text") kt1, .str x t⟩] 1) :: news) → (∀ p ∈ news, p.1 < d) → d < ao → Q (.ref ao) { s with heap := h', toks := tk' }) :
    wpAny (model PySem.Challenge.rw_og0159_01.row.prog w) (ktrTop dp un gd cn csc L a ccd cl outer) (call (.ref 171) [.str x t]) Q E s := by
  revert X
  k_fill
  intro X
  refine' call_cls ?k1 ?k2 ?k3 ?k4 ?k5 ?k6 ?_
  case k1 => k_asm
  case k2 => k_asm
  case k3 => k_asm
  case k4 => k_dflt k_is
  case k5 => k_dflt k_is
  case k6 => k_dflt k_is
  intro x' d' h1 F1 N1 lt1 lt2
  have lt2' := ltN lt2
  have off0 : ∀ p ∈ news, p.1 ≠ d' := fun p hp => Nat.ne_of_lt (lt1 p hp)
  (refine' code_def ?k1 ?k2 ?k3 ?k4 ?k5 ?kA ?kF ?kK ?k6 ?k7 ?k8 ?k9 ?kB ?_ ?c2 ?c3 ?c4 ?c5; (case kA => exact rfl); (case kF => exact rfl); (case kK => assumption); (case k1 => k_asm); (case k2 => k_asm); (case k3 => k_asm); (case k4 => k_asm); (case k5 => k_asm); (case k6 => k_dflt k_is); (case k7 => k_dflt k_is); (case k8 => k_room); (case k9 => exact BindsTo.of_eq rfl); (case c5 => decide); (case kB => exact locs rfl); (case c2 => exact rfl); (case c3 => exact rfl); (case c4 => exact rfl); intro g' L' h' FG' F' N' B' X' T'; (try dsimp only); (try k_lift B'); (try k_fold))
  k_steps
  exact hret _ _ _ _ _ _ (by k_asm) (by k_asm) lt1 lt2

set_option maxHeartbeats 1000000 in
theorem oper_new {w : World} {news : List (Addr × Obj)} {x : Str} {t : Tok} {l : Addr}
    {p : Program} {loose : List Str} {mean : ExcName → Option Value} {mg mb : Str → Option Value} {dp un : Nat} {gd : Option (List Code)} {cn : Str} {csc : Scope} {a : Addr} {ccd : Value} {cl : List (Str × Addr)} {outer : List Env} {A₀ : Around} {base h₀ : Heap} {L : Addr} {m : Str → Option Value} {s : Shared} {Q E : Value → Shared → Prop}
    (B : Below A₀ base outer h₀) (F : Fr h₀ L s.heap m) (X : (pre.heap_1_41 w.params).In h₀) (N : News h₀ L s.heap news) (T : Top p loose mean mg mb h₀) (hkf : csc.kind = .function) (hdp : dp + 4 < recursionLimit) (hun : un + 64 < cLine)
    (hret : ∀ ao d h' tk' (hs1 hs2 : Int) (kt1 kt2 : Tok), Fr h₀ L h' m → News h₀ L h' ((ao, instObj 287 d) :: (d, dictOf [⟨hs1, .str (Str.ofString "word") kt1, .str x t⟩, ⟨hs2, .str (Str.ofString "operands") kt2, .ref l⟩] 2) :: news) → (∀ p ∈ news, p.1 < d) → d < ao → Q (.ref ao) { s with heap := h', toks := tk' }) :
    wpAny (model PySem.Challenge.rw_og0159_01.row.prog w) (ktrTop dp un gd cn csc L a ccd cl outer) (call (.ref 287) [.str x t, .ref l]) Q E s := by
  revert X
  k_fill
  intro X
  refine' call_cls ?k1 ?k2 ?k3 ?k4 ?k5 ?k6 ?_
  case k1 => k_asm
  case k2 => k_asm
  case k3 => k_asm
  case k4 => k_dflt k_is
  case k5 => k_dflt k_is
  case k6 => k_dflt k_is
  intro x' d' h1 F1 N1 lt1 lt2
  have lt2' := ltN lt2
  have off0 : ∀ p ∈ news, p.1 ≠ d' := fun p hp => Nat.ne_of_lt (lt1 p hp)
  (refine' code_def ?k1 ?k2 ?k3 ?k4 ?k5 ?kA ?kF ?kK ?k6 ?k7 ?k8 ?k9 ?kB ?_ ?c2 ?c3 ?c4 ?c5; (case kA => exact rfl); (case kF => exact rfl); (case kK => assumption); (case k1 => k_asm); (case k2 => k_asm); (case k3 => k_asm); (case k4 => k_asm); (case k5 => k_asm); (case k6 => k_dflt k_is); (case k7 => k_dflt k_is); (case k8 => k_room); (case k9 => exact BindsTo.of_eq rfl); (case c5 => decide); (case kB => exact locs rfl); (case c2 => exact rfl); (case c3 => exact rfl); (case c4 => exact rfl); intro g' L' h' FG' F' N' B' X' T'; (try dsimp only); (try k_lift B'); (try k_fold))
  k_steps
  exact hret _ _ _ _ _ _ _ _ (by k_asm) (by k_asm) lt1 lt2
end
section

theorem TakeIn.mono {w : World} {news news' : List (Addr × Obj)} {f pl c cp cc D : Addr} {oc ocp occ : Obj} {vsc : Array Value} {tq : Tok} {qual : Str} {dc pm ct : Value} {vs : List Value} {cs : List Int} {nD : Nat} (h : TakeIn w news f pl c cp cc D oc ocp occ vsc tq qual dc pm ct vs cs nD) (hs : ∀ p ∈ news, p ∈ news') :
    TakeIn w news' f pl c cp cc D oc ocp occ vsc tq qual dc pm ct vs cs nD := ⟨hs _ h.fn, hs _ h.co, h.cod, h.coq, hs _ h.pc, h.pcd, hs _ h.cc, h.ccd, hs _ h.lst, h.isI, h.ne, h.few⟩
theorem take_use {w : World} {news all : List (Addr × Obj)} {all' : Tok → List (Addr × Obj)} {f pl c cp cc D : Addr} {oc ocp occ : Obj} {vsc : Array Value} {tq : Tok} {qual : Str} {dc pm ct : Value} {vs : List Value} {cs : List Int} {nD np : Nat} {k lm : Int} {tk tl : Tok}
    (h : TakeIn w news f pl c cp cc D oc ocp occ vsc tq qual dc pm ct vs cs nD) (off : ∀ q ∈ news, q.1 ≠ pl)
    {p : Program} {loose : List Str} {mean : ExcName → Option Value} {mg mb : Str → Option Value} {dp un : Nat} {gd : Option (List Code)} {cn : Str} {csc : Scope} {a : Addr} {ccd : Value} {cl : List (Str × Addr)} {outer : List Env} {A₀ : Around} {base h₀ : Heap} {L : Addr} {m : Str → Option Value} {s : Shared} {Q E : Value → Shared → Prop}
    (B : Below A₀ base outer h₀) (F : Fr h₀ L s.heap m) (X : (pre.heap_1_41 w.params).In h₀) (N : News h₀ L s.heap all) (T : Top p loose mean mg mb h₀) (hkf : csc.kind = .function)
    (U : ∀ t2, Upd pl (listOf [Value.int k tk].toArray np) (listOf [Value.int (k + 1) t2].toArray np) all (all' t2)) (sub : ∀ p ∈ news, p ∈ all) (hk : 0 ≤ k) (hk2 : k ≤ 200) (hl : 1 ≤ lm) (hl2 : lm ≤ 1000) (hdp : dp + 4 < recursionLimit) (hun : un + 64 < cLine)
    (hret : ∀ v t t2 h' tk', Fr h₀ L h' m → News h₀ L h' (all' t2) → 0 ≤ v → v < lm → Q (.int v t) { s with heap := h', toks := tk' }) :
    wpAny (model PySem.Challenge.rw_og0159_01.row.prog w) (ktrTop dp un gd cn csc L a ccd cl outer) (call (.ref f) [.int lm tl]) Q E s := by
  obtain ⟨pre, post, e1, _, n1, n2⟩ := (U 0).split
  have e2 : ∀ t2, all' t2 = pre ++ (pl, listOf [Value.int (k + 1) t2].toArray np) :: post := fun t2 => by
    obtain ⟨pre', post', e1', e2', n1', n2'⟩ := (U t2).split
    rw [e1] at e1'
    have hq : ∀ (a a' b b' : List (Addr × Obj)) (o : Obj), a ++ (pl, o) :: b = a' ++ (pl, o) :: b' → (∀ p ∈ a, p.1 ≠ pl) → (∀ p ∈ a', p.1 ≠ pl) → a = a' ∧ b = b' := by
      intro a
      induction a with
      | nil =>
        intro a' b b' o e _ h2
        cases a' with
        | nil => simp at e; exact ⟨rfl, e⟩
        | cons x r =>
          simp only [List.nil_append, List.cons_append, List.cons.injEq] at e
          exact absurd (by rw [← e.1]) (h2 x (.head _))
      | cons x r ih =>
        intro a' b b' o e h1 h2
        cases a' with
        | nil =>
          simp only [List.nil_append, List.cons_append, List.cons.injEq] at e
          exact absurd (by rw [e.1]) (h1 x (.head _))
        | cons y r' =>
          simp only [List.cons_append, List.cons.injEq] at e
          obtain ⟨q1, q2⟩ := ih r' b b' o e.2 (fun p hp => h1 p (.tail _ hp)) (fun p hp => h2 p (.tail _ hp))
          exact ⟨by rw [e.1, q1], q2⟩
    obtain ⟨rfl, rfl⟩ := hq _ _ _ _ _ e1' n1 n1'
    exact e2'
  have N' : News h₀ L s.heap ((pl, listOf [Value.int k tk].toArray np) :: (pre ++ post)) := fun q hq => N q (by
    rw [e1]
    rcases List.mem_cons.mp hq with rfl | hq
    · exact List.mem_append_right _ (.head _)
    · rcases List.mem_append.mp hq with hq | hq
      · exact List.mem_append_left _ hq
      · exact List.mem_append_right _ (.tail _ hq))
  refine take_ok w (pre ++ post) f pl c cp cc D oc ocp occ vsc tq qual dc pm ct vs cs nD np k lm tk tl (h.mono fun q hq => ?_) (fun q hq => ?_) hk hk2 hl hl2 p loose mean mg mb dp un gd cn csc a ccd cl outer A₀ base h₀ L m s Q E B F X N' T hkf hdp hun fun v t t2 h' tk' F' N2 h0 h1 => ?_
  · have z := sub q hq
    rw [e1] at z
    rcases List.mem_append.mp z with z | z
    · exact List.mem_append_left _ z
    · rcases List.mem_cons.mp z with z | z
      · exact absurd (by rw [z]) (off q hq)
      · exact List.mem_append_right _ z
  · exact (List.mem_append.mp hq).elim (n1 q) (n2 q)
  · refine hret v t t2 h' tk' F' (fun q hq => N2 q ?_) h0 h1
    rw [e2] at hq
    rcases List.mem_append.mp hq with hq | hq
    · exact .tail _ (List.mem_append_left _ hq)
    · rcases List.mem_cons.mp hq with rfl | hq
      · exact .head _
      · exact .tail _ (List.mem_append_right _ hq)
def seenV : Option Bool → Value
  | some b => .bool b
  | none => .none

inductive Pre (pl : Addr) (X : Obj) (news : List (Addr × Obj)) : List (Addr × Obj) → List (Addr × Obj) → Prop
  | here : Pre pl X news ((pl, X) :: news) []
  | cons {e : Addr × Obj} {all tl : List (Addr × Obj)} : Pre pl X news all tl → Pre pl X news (e :: all) (e :: tl)
theorem Pre.sub {pl : Addr} {X : Obj} {news all tl : List (Addr × Obj)} (h : Pre pl X news all tl) : ∀ p ∈ (pl, X) :: (news ++ tl), p ∈ all := by
  induction h with
  | here => intro p hp; simpa using hp
  | cons _ ih =>
    intro p hp
    rcases List.mem_cons.mp hp with e | hp
    · exact .tail _ (ih p (by rw [e]; exact .head _))
    · rcases List.mem_append.mp hp with hp | hp
      · exact .tail _ (ih p (.tail _ (List.mem_append_left _ hp)))
      · rcases List.mem_cons.mp hp with e | hp
        · rw [e]; exact .head _
        · exact .tail _ (ih p (.tail _ (List.mem_append_right _ hp)))
inductive DrawnOk : Str → List Opd → Option Bool → Prop
  | opened {x : Str} {os : List Opd} {b : Bool} : (x = Str.ofString "BDC" ∨ x = Str.ofString "BMC") → b = shownOf x os → DrawnOk x os (some b)
  | emc : DrawnOk (Str.ofString "EMC") [] none
  | q : DrawnOk (Str.ofString "q") [] none
  | bq : DrawnOk (Str.ofString "Q") [] none
  | tr1 {n : Int} : 0 ≤ n → n < 8 → DrawnOk (Str.ofString "Tr") [.int n] none
  | tr2 {x : Str} : DrawnOk (Str.ofString "Tr") [.name x] none
  | tr3 : DrawnOk (Str.ofString "Tr") [] none
  | tr4 {a b : Int} : DrawnOk (Str.ofString "Tr") [.int a, .int b] none
  | tr5 : DrawnOk (Str.ofString "Tr") [.tru] none
  | other {x : Str} {os : List Opd} : (x ≠ Str.ofString "BDC" ∧ x ≠ Str.ofString "BMC" ∧ x ≠ Str.ofString "EMC" ∧ x ≠ Str.ofString "q" ∧ x ≠ Str.ofString "Q" ∧ x ≠ Str.ofString "Tr") → DrawnOk x os none
def opsOk : List Opd → Bool
  | [] => true
  | .name x :: r => PySem.PyData.strOk x && opsOk r
  | .int _ :: r => opsOk r
  | .tru :: r => opsOk r
  | .dict :: r => opsOk r
theorem sok_of {l : List Str} {x : Str} (m : x ∈ l) (h : l.all PySem.PyData.strOk = true) : PySem.PyData.strOk x = true := List.all_eq_true.mp h x m
def DrawnIs (w : World) (tl : List (Addr × Obj)) (r : Value) (x : Str) (os : List Opd) (seen : Option Bool) : Prop :=
  ∃ (T op d l : Addr) (vs : List Value) (h1 h2 : Int) (k1 k2 t : Tok) (n n' nT : Nat), r = .ref T ∧ (T, ({ cls := .type "tuple", data := .seq [.ref op, seenV seen].toArray nT } : Obj)) ∈ tl ∧ OpIn PySem.Challenge.rw_og0159_01.row.prog w tl op x os d l vs h1 h2 k1 k2 t n n'
abbrev DrawnRet (w : World) (h₀ : Heap) (L : Addr) (m : Str → Option Value) (news : List (Addr × Obj)) (pl : Addr) (np : Nat) (k : Int) (s : Shared) (Q : Value → Shared → Prop) : Prop :=
  ∀ r tl x os seen k2 t2 h' tk', Fr h₀ L h' m → News h₀ L h' ((pl, listOf [Value.int k2 t2].toArray np) :: (news ++ tl)) → (∀ q ∈ (pl, listOf [Value.int k2 t2].toArray np) :: news, ∀ p ∈ tl, q.1 < p.1) → k ≤ k2 → k2 ≤ k + 4 →
    DrawnIs w tl r x os seen → DrawnOk x os seen → PySem.PyData.strOk x = true → opsOk os = true → Q r { s with heap := h', toks := tk' }
theorem drawn_fin {w : World} {h₀ h' : Heap} {L pl e0 T op d l : Addr} {m : Str → Option Value} {news all tl : List (Addr × Obj)} {np n n' nT : Nat} {k k2 : Int} {t2 : Tok} {s : Shared} {Q : Value → Shared → Prop} {x : Str} {os : List Opd} {seen : Option Bool} {sv : Value} {vs : List Value} {h1 h2 : Int} {kt1 kt2 t : Tok} {tk : Nat}
    (hret : DrawnRet w h₀ L m news pl np k s Q) (F : Fr h₀ L h' m) (N : News h₀ L h' all) (P : Pre pl (listOf [Value.int k2 t2].toArray np) news all tl) (low : (@LT.lt Nat _ pl e0) ∧ AllLt e0 news) (hi : ∀ p ∈ tl, @LE.le Nat _ e0 p.1)
    (hk : k ≤ k2) (hk2 : k2 ≤ k + 4) (hT : (T, ({ cls := .type "tuple", data := .seq [.ref op, sv].toArray nT } : Obj)) ∈ tl) (hO : OpIn PySem.Challenge.rw_og0159_01.row.prog w tl op x os d l vs h1 h2 kt1 kt2 t n n') (ok : DrawnOk x os seen) (hs : sv = seenV seen) (sx : PySem.PyData.strOk x = true) (so : opsOk os = true) :
    Q (.ref T) { s with heap := h', toks := tk } := by
  subst hs
  refine hret _ tl x os seen k2 t2 _ _ F (fun p hp => N p (P.sub p hp)) (fun q hq p hp => ?_) hk hk2 ⟨T, op, d, l, vs, h1, h2, kt1, kt2, t, n, n', nT, rfl, hT, hO⟩ ok sx so
  rcases List.mem_cons.mp hq with e | hq
  · rw [e]; exact Nat.lt_of_lt_of_le low.1 (hi p hp)
  · exact Nat.lt_of_lt_of_le (kst_ltOf low.2 q hq) (hi p hp)
def openW (x : Str) : Bool := x == Str.ofString "BDC" || x == Str.ofString "BMC"
def plainW (x : Str) : Bool := !([Str.ofString "BDC", Str.ofString "BMC", Str.ofString "EMC", Str.ofString "q", Str.ofString "Q", Str.ofString "Tr"].contains x)
theorem open_of {l : List Str} {x : Str} (m : x ∈ l) (h : l.all openW = true) : x = Str.ofString "BDC" ∨ x = Str.ofString "BMC" := by
  have := List.all_eq_true.mp h x m
  simpa [openW] using this
theorem plain_of {l : List Str} {x : Str} (m : x ∈ l) (h : l.all plainW = true) : x ≠ Str.ofString "BDC" ∧ x ≠ Str.ofString "BMC" ∧ x ≠ Str.ofString "EMC" ∧ x ≠ Str.ofString "q" ∧ x ≠ Str.ofString "Q" ∧ x ≠ Str.ofString "Tr" := by
  have := List.all_eq_true.mp h x m
  simpa [plainW] using this
theorem sh_not {x : Str} {os : List Opd} (h : (x != Str.ofString "BDC") = true) : (x != Str.ofString "BDC") = shownOf x os := by
  have := sA (os := os) h
  rw [h]; exact Value.bool.inj this
theorem sh_is {x y : Str} (h : (x != Str.ofString "BDC") = false) : (y != Str.ofString "b") = shownOf x [.name (Str.ofString "OC"), .name y] := by
  have e : x = Str.ofString "BDC" := by simpa using h
  subst e
  simp [shownOf, namesOf, bne]
theorem sh_1 {x y : Str} : true = shownOf x [.name (Str.ofString "Tag"), .name y] := by
  have : Str.ofString "Tag" ≠ Str.ofString "OC" := by decide
  unfold shownOf; split
  · simp [namesOf, this]
  · rfl
theorem sh_len {x : Str} {os : List Opd} (h : os.length ≠ 2) : true = shownOf x os := by simp [shownOf, h]
theorem sh_4 {x y : Str} : true = shownOf x [.name y, .dict] := by
  unfold shownOf; split
  · simp [namesOf]
  · rfl

local macro_rules | `(tactic| walk_at "call ref") => `(tactic| (k_here; (with_reducible show wpAny _ _ (call (Value.ref 171) _) _ _ _); k_dflt (refine' name_new ?k1 ?k2 ?k3 ?k4 ?k5 ?k6 ?kp ?ku ?_; (case k1 => k_asm); (case k2 => k_asm); (case k3 => k_asm); (case k4 => k_asm); (case k5 => k_asm); (case k6 => first | exact rfl | assumption); (case kp => k_room); (case ku => k_units); k_whole); intro x' d' h' tk' hs1 kt1 F' N' l1 l2; (try k_lt l1); (try k_lt2 l2); (try k_sweep)))
local macro_rules | `(tactic| walk_at "call ref") => `(tactic| (k_here; (with_reducible show wpAny _ _ (call (Value.ref 287) _) _ _ _); k_dflt (refine' oper_new ?k1 ?k2 ?k3 ?k4 ?k5 ?k6 ?kp ?ku ?_; (case k1 => k_asm); (case k2 => k_asm); (case k3 => k_asm); (case k4 => k_asm); (case k5 => k_asm); (case k6 => first | exact rfl | assumption); (case kp => k_room); (case ku => k_units); k_whole); intro x' d' h' tk' hs1 hs2 kt1 kt2 F' N' l1 l2; (try k_lt l1); (try k_lt2 l2); (try k_sweep)))
local macro_rules | `(tactic| walk_at "subscriptTail Constant str Call str int") => `(tactic| (k_here; k_dflt (refine' txt_pick ?kb ?kc ?_; (case kb => assumption); (case kc => assumption); intro y' t' tk' hy')))
local macro_rules | `(tactic| walk_at "subscriptTail Tuple cons Call ref int") => `(tactic| (k_here; k_dflt (refine' tup_pickV ?kt ?kS ?kn ?kb ?kc ?kd ?_; (case kt => first | exact News.isTup (by k_asm) (by k_mem) | exact tupK (Frag.In.keeps (by k_asm) (Fr.keep (by k_asm))) (by k_is)); (case kS => rfl); (case kn => rfl); (case kb => assumption); (case kc => assumption); (case kd => exact Nat.le_of_ble_eq_true rfl); intro x' t' m')))
local macro_rules | `(tactic| walk_at "subscriptTail Name Call ref int") => `(tactic| (k_here; k_dflt (refine' tup_pickV ?kt ?kS ?kn ?kb ?kc ?kd ?_; (case kt => first | exact News.isTup (by k_asm) (by k_mem) | exact tupK (Frag.In.keeps (by k_asm) (Fr.keep (by k_asm))) (by k_is)); (case kS => rfl); (case kn => rfl); (case kb => assumption); (case kc => assumption); (case kd => exact Nat.le_of_ble_eq_true rfl); intro x' t' m')))
local macro_rules | `(tactic| walk_at "subscriptTail List cons Call ref int") => `(tactic| (k_here; k_dflt (refine' lst_pick5 ?kN ?km ?kb ?kc ?q0 ?q1 ?q2 ?q3 ?q4; (case kN => k_asm); (case km => k_mem); (case kb => assumption); (case kc => assumption); (all_goals (intro e5; subst e5)))))
local macro_rules | `(tactic| walk_at "subscriptTail List cons Name ref int") => `(tactic| (k_here; k_dflt (refine' lst_pick5 ?kN ?km ?kb ?kc ?q0 ?q1 ?q2 ?q3 ?q4; (case kN => k_asm); (case km => k_mem); (case kb => assumption); (case kc => assumption); (all_goals (intro e5; subst e5)))))
local macro_rules | `(tactic| walk_at "callWith ref") => `(tactic| (k_here; k_dflt (refine' callWith_F ?k1 ?_; (case k1 => exact FnAt.of (by k_asm) (by k_mem)); k_whole)))
local macro_rules | `(tactic| walk_at "eval Dict cons cons") => `(tactic| (k_here; k_dflt (refine' kdn_str ?q ?F ?N ?b ?a ?l ?e ?n ?_; (case q => rfl); (case F => k_asm); (case N => k_asm); (case b => exact Top.nolimit (by k_asm)); (case a => rfl); (case l => rfl); (case e => exact List.cons_ne_nil _ _); (case n => exact Nat.le_of_ble_eq_true rfl)); intro d' h' o' F' N' l1 lo' hd'; (try k_lt l1)))
local macro_rules | `(tactic| walk_at "call ref") => `(tactic| (k_here; (with_reducible show wpAny _ _ (call (Value.ref _) [Value.int _ _]) _ _ _); k_dflt (refine' take_use ?kh ?ko ?k1 ?k2 ?k3 ?k4 ?k5 ?k6 ?kU ?ks ?ka ?kb ?kc ?kd ?kp ?ku ?_; (case kh => assumption); (case ko => assumption); (case k1 => k_asm); (case k2 => k_asm); (case k3 => k_asm); (case k4 => k_asm); (case k5 => k_asm); (case k6 => first | exact rfl | assumption); (case kU => (intro t2'; k_upd)); (case ks => (intro p' hp'; repeat (first | exact hp' | refine List.Mem.tail _ ?_))); (case ka => omega); (case kb => omega); (case kc => decide); (case kd => decide); (case kp => k_room); (case ku => k_units); k_whole); intro v' t' t2' h' tk' F' N' hv0 hv1))
set_option maxHeartbeats 2000000 in
theorem drawn_ok (w : World) (news : List (Addr × Obj)) (f pl c cp cc D : Addr) (oc ocp occ : Obj) (vsc : Array Value) (tq : Tok) (qual : Str) (dc pm ct : Value) (vs : List Value) (cs : List Int) (nD np : Nat) (k : Int) (tk : Tok)
    (h : TakeIn w news f pl c cp cc D oc ocp occ vsc tq qual dc pm ct vs cs nD) (off : ∀ q ∈ news, q.1 ≠ pl) (hk : 0 ≤ k) (hk2 : k ≤ 190)
    (p : Program) (loose : List Str) (mean : ExcName → Option Value) (mg mb : Str → Option Value) (dp un : Nat) (gd : Option (List Code)) (cn : Str) (csc : Scope) (a : Addr) (ccd : Value) (cl : List (Str × Addr)) (outer : List Env) (A₀ : Around) (base h₀ : Heap) (L : Addr) (m : Str → Option Value) (s : Shared) (Q E : Value → Shared → Prop)
    (B : Below A₀ base outer h₀) (F : Fr h₀ L s.heap m) (X : (pre.heap_1_41 w.params).In h₀) (N : News h₀ L s.heap ((pl, listOf [Value.int k tk].toArray np) :: news)) (T : Top p loose mean mg mb h₀) (hkf : csc.kind = .function) (hdp : dp + 12 < recursionLimit) (hun : un + 160 < cLine)
    (hret : DrawnRet w h₀ L m news pl np k s Q) :
    wpAny (model PySem.Challenge.rw_og0159_01.row.prog w) (ktrTop dp un gd cn csc L a ccd cl outer) (call (.ref 350) [.ref f]) Q E s := by
  revert X
  k_fill
  intro X
  have hfn := h.fn
  refine wpAny_call ?_
  with_unfolding_all cell_enter
  k_steps
  · refine' drawn_fin hret ?F ?N ?P ?low ?hi ?hk ?hk2 ?hT ?hO ?ok ?hs ?sx ?so
    case F => k_asm
    case N => k_asm
    case P => repeat' (first | exact Pre.here | refine' Pre.cons ?_)
    case low => assumption
    case hT => exact (by repeat (first | exact List.Mem.head _ | refine List.Mem.tail _ ?_))
    case hO => exact ⟨(by repeat (first | exact List.Mem.head _ | refine List.Mem.tail _ ?_)), (by repeat (first | exact List.Mem.head _ | refine List.Mem.tail _ ?_)), (by repeat (first | exact List.Mem.head _ | refine List.Mem.tail _ ?_)), (.cons (OpdIn.name (by repeat (first | exact List.Mem.head _ | refine List.Mem.tail _ ?_)) (by repeat (first | exact List.Mem.head _ | refine List.Mem.tail _ ?_))) (.cons (OpdIn.name (by repeat (first | exact List.Mem.head _ | refine List.Mem.tail _ ?_)) (by repeat (first | exact List.Mem.head _ | refine List.Mem.tail _ ?_))) .nil)), Nat.le_of_ble_eq_true rfl⟩
    case hk => omega
    case hk2 => omega
    case hi => (repeat' (first | exact List.forall_mem_nil _ | refine List.forall_mem_cons.mpr ⟨?_, ?_⟩)) <;> (try dsimp only) <;> omega
    case ok => exact .opened (open_of (by assumption) (by rfl)) (sh_not (by assumption))
    case hs => rfl
    case sx => first | exact sok_of (by assumption) (by kernel_rfl) | kernel_rfl
    case so => first | exact Eq.refl (a := true) | ((simp only [opsOk, Bool.and_eq_true, and_true]); (repeat' (first | assumption | refine And.intro ?_ ?_ | kernel_rfl)))
  · refine' drawn_fin hret ?F ?N ?P ?low ?hi ?hk ?hk2 ?hT ?hO ?ok ?hs ?sx ?so
    case F => k_asm
    case N => k_asm
    case P => repeat' (first | exact Pre.here | refine' Pre.cons ?_)
    case low => assumption
    case hT => exact (by repeat (first | exact List.Mem.head _ | refine List.Mem.tail _ ?_))
    case hO => exact ⟨(by repeat (first | exact List.Mem.head _ | refine List.Mem.tail _ ?_)), (by repeat (first | exact List.Mem.head _ | refine List.Mem.tail _ ?_)), (by repeat (first | exact List.Mem.head _ | refine List.Mem.tail _ ?_)), (.cons (OpdIn.name (by repeat (first | exact List.Mem.head _ | refine List.Mem.tail _ ?_)) (by repeat (first | exact List.Mem.head _ | refine List.Mem.tail _ ?_))) (.cons (OpdIn.name (by repeat (first | exact List.Mem.head _ | refine List.Mem.tail _ ?_)) (by repeat (first | exact List.Mem.head _ | refine List.Mem.tail _ ?_))) .nil)), Nat.le_of_ble_eq_true rfl⟩
    case hk => omega
    case hk2 => omega
    case hi => (repeat' (first | exact List.forall_mem_nil _ | refine List.forall_mem_cons.mpr ⟨?_, ?_⟩)) <;> (try dsimp only) <;> omega
    case ok => exact .opened (open_of (by assumption) (by rfl)) (sh_is (by assumption))
    case hs => rfl
    case sx => first | exact sok_of (by assumption) (by kernel_rfl) | kernel_rfl
    case so => first | exact Eq.refl (a := true) | ((simp only [opsOk, Bool.and_eq_true, and_true]); (repeat' (first | assumption | refine And.intro ?_ ?_ | kernel_rfl)))
  · refine' drawn_fin hret ?F ?N ?P ?low ?hi ?hk ?hk2 ?hT ?hO ?ok ?hs ?sx ?so
    case F => k_asm
    case N => k_asm
    case P => repeat' (first | exact Pre.here | refine' Pre.cons ?_)
    case low => assumption
    case hT => exact (by repeat (first | exact List.Mem.head _ | refine List.Mem.tail _ ?_))
    case hO => exact ⟨(by repeat (first | exact List.Mem.head _ | refine List.Mem.tail _ ?_)), (by repeat (first | exact List.Mem.head _ | refine List.Mem.tail _ ?_)), (by repeat (first | exact List.Mem.head _ | refine List.Mem.tail _ ?_)), (.cons (OpdIn.name (by repeat (first | exact List.Mem.head _ | refine List.Mem.tail _ ?_)) (by repeat (first | exact List.Mem.head _ | refine List.Mem.tail _ ?_))) (.cons (OpdIn.name (by repeat (first | exact List.Mem.head _ | refine List.Mem.tail _ ?_)) (by repeat (first | exact List.Mem.head _ | refine List.Mem.tail _ ?_))) .nil)), Nat.le_of_ble_eq_true rfl⟩
    case hk => omega
    case hk2 => omega
    case hi => (repeat' (first | exact List.forall_mem_nil _ | refine List.forall_mem_cons.mpr ⟨?_, ?_⟩)) <;> (try dsimp only) <;> omega
    case ok => exact .opened (open_of (by assumption) (by rfl)) (sh_not (by assumption))
    case hs => rfl
    case sx => first | exact sok_of (by assumption) (by kernel_rfl) | kernel_rfl
    case so => first | exact Eq.refl (a := true) | ((simp only [opsOk, Bool.and_eq_true, and_true]); (repeat' (first | assumption | refine And.intro ?_ ?_ | kernel_rfl)))
  · refine' drawn_fin hret ?F ?N ?P ?low ?hi ?hk ?hk2 ?hT ?hO ?ok ?hs ?sx ?so
    case F => k_asm
    case N => k_asm
    case P => repeat' (first | exact Pre.here | refine' Pre.cons ?_)
    case low => assumption
    case hT => exact (by repeat (first | exact List.Mem.head _ | refine List.Mem.tail _ ?_))
    case hO => exact ⟨(by repeat (first | exact List.Mem.head _ | refine List.Mem.tail _ ?_)), (by repeat (first | exact List.Mem.head _ | refine List.Mem.tail _ ?_)), (by repeat (first | exact List.Mem.head _ | refine List.Mem.tail _ ?_)), (.cons (OpdIn.name (by repeat (first | exact List.Mem.head _ | refine List.Mem.tail _ ?_)) (by repeat (first | exact List.Mem.head _ | refine List.Mem.tail _ ?_))) (.cons (OpdIn.name (by repeat (first | exact List.Mem.head _ | refine List.Mem.tail _ ?_)) (by repeat (first | exact List.Mem.head _ | refine List.Mem.tail _ ?_))) .nil)), Nat.le_of_ble_eq_true rfl⟩
    case hk => omega
    case hk2 => omega
    case hi => (repeat' (first | exact List.forall_mem_nil _ | refine List.forall_mem_cons.mpr ⟨?_, ?_⟩)) <;> (try dsimp only) <;> omega
    case ok => exact .opened (open_of (by assumption) (by rfl)) (sh_1)
    case hs => rfl
    case sx => first | exact sok_of (by assumption) (by kernel_rfl) | kernel_rfl
    case so => first | exact Eq.refl (a := true) | ((simp only [opsOk, Bool.and_eq_true, and_true]); (repeat' (first | assumption | refine And.intro ?_ ?_ | kernel_rfl)))
  · refine' drawn_fin hret ?F ?N ?P ?low ?hi ?hk ?hk2 ?hT ?hO ?ok ?hs ?sx ?so
    case F => k_asm
    case N => k_asm
    case P => repeat' (first | exact Pre.here | refine' Pre.cons ?_)
    case low => assumption
    case hT => exact (by repeat (first | exact List.Mem.head _ | refine List.Mem.tail _ ?_))
    case hO => exact ⟨(by repeat (first | exact List.Mem.head _ | refine List.Mem.tail _ ?_)), (by repeat (first | exact List.Mem.head _ | refine List.Mem.tail _ ?_)), (by repeat (first | exact List.Mem.head _ | refine List.Mem.tail _ ?_)), (.cons (OpdIn.name (by repeat (first | exact List.Mem.head _ | refine List.Mem.tail _ ?_)) (by repeat (first | exact List.Mem.head _ | refine List.Mem.tail _ ?_))) .nil), Nat.le_of_ble_eq_true rfl⟩
    case hk => omega
    case hk2 => omega
    case hi => (repeat' (first | exact List.forall_mem_nil _ | refine List.forall_mem_cons.mpr ⟨?_, ?_⟩)) <;> (try dsimp only) <;> omega
    case ok => exact .opened (open_of (by assumption) (by rfl)) (sh_not (by assumption))
    case hs => rfl
    case sx => first | exact sok_of (by assumption) (by kernel_rfl) | kernel_rfl
    case so => first | exact Eq.refl (a := true) | ((simp only [opsOk, Bool.and_eq_true, and_true]); (repeat' (first | assumption | refine And.intro ?_ ?_ | kernel_rfl)))
  · refine' drawn_fin hret ?F ?N ?P ?low ?hi ?hk ?hk2 ?hT ?hO ?ok ?hs ?sx ?so
    case F => k_asm
    case N => k_asm
    case P => repeat' (first | exact Pre.here | refine' Pre.cons ?_)
    case low => assumption
    case hT => exact (by repeat (first | exact List.Mem.head _ | refine List.Mem.tail _ ?_))
    case hO => exact ⟨(by repeat (first | exact List.Mem.head _ | refine List.Mem.tail _ ?_)), (by repeat (first | exact List.Mem.head _ | refine List.Mem.tail _ ?_)), (by repeat (first | exact List.Mem.head _ | refine List.Mem.tail _ ?_)), (.cons (OpdIn.name (by repeat (first | exact List.Mem.head _ | refine List.Mem.tail _ ?_)) (by repeat (first | exact List.Mem.head _ | refine List.Mem.tail _ ?_))) .nil), Nat.le_of_ble_eq_true rfl⟩
    case hk => omega
    case hk2 => omega
    case hi => (repeat' (first | exact List.forall_mem_nil _ | refine List.forall_mem_cons.mpr ⟨?_, ?_⟩)) <;> (try dsimp only) <;> omega
    case ok => exact .opened (open_of (by assumption) (by rfl)) (sh_len (by decide))
    case hs => rfl
    case sx => first | exact sok_of (by assumption) (by kernel_rfl) | kernel_rfl
    case so => first | exact Eq.refl (a := true) | ((simp only [opsOk, Bool.and_eq_true, and_true]); (repeat' (first | assumption | refine And.intro ?_ ?_ | kernel_rfl)))
  · refine' drawn_fin hret ?F ?N ?P ?low ?hi ?hk ?hk2 ?hT ?hO ?ok ?hs ?sx ?so
    case F => k_asm
    case N => k_asm
    case P => repeat' (first | exact Pre.here | refine' Pre.cons ?_)
    case low => assumption
    case hT => exact (by repeat (first | exact List.Mem.head _ | refine List.Mem.tail _ ?_))
    case hO => exact ⟨(by repeat (first | exact List.Mem.head _ | refine List.Mem.tail _ ?_)), (by repeat (first | exact List.Mem.head _ | refine List.Mem.tail _ ?_)), (by repeat (first | exact List.Mem.head _ | refine List.Mem.tail _ ?_)), (.cons (OpdIn.name (by repeat (first | exact List.Mem.head _ | refine List.Mem.tail _ ?_)) (by repeat (first | exact List.Mem.head _ | refine List.Mem.tail _ ?_))) (.cons (OpdIn.name (by repeat (first | exact List.Mem.head _ | refine List.Mem.tail _ ?_)) (by repeat (first | exact List.Mem.head _ | refine List.Mem.tail _ ?_))) (.cons (OpdIn.int _ _) .nil))), Nat.le_of_ble_eq_true rfl⟩
    case hk => omega
    case hk2 => omega
    case hi => (repeat' (first | exact List.forall_mem_nil _ | refine List.forall_mem_cons.mpr ⟨?_, ?_⟩)) <;> (try dsimp only) <;> omega
    case ok => exact .opened (open_of (by assumption) (by rfl)) (sh_not (by assumption))
    case hs => rfl
    case sx => first | exact sok_of (by assumption) (by kernel_rfl) | kernel_rfl
    case so => first | exact Eq.refl (a := true) | ((simp only [opsOk, Bool.and_eq_true, and_true]); (repeat' (first | assumption | refine And.intro ?_ ?_ | kernel_rfl)))
  · refine' drawn_fin hret ?F ?N ?P ?low ?hi ?hk ?hk2 ?hT ?hO ?ok ?hs ?sx ?so
    case F => k_asm
    case N => k_asm
    case P => repeat' (first | exact Pre.here | refine' Pre.cons ?_)
    case low => assumption
    case hT => exact (by repeat (first | exact List.Mem.head _ | refine List.Mem.tail _ ?_))
    case hO => exact ⟨(by repeat (first | exact List.Mem.head _ | refine List.Mem.tail _ ?_)), (by repeat (first | exact List.Mem.head _ | refine List.Mem.tail _ ?_)), (by repeat (first | exact List.Mem.head _ | refine List.Mem.tail _ ?_)), (.cons (OpdIn.name (by repeat (first | exact List.Mem.head _ | refine List.Mem.tail _ ?_)) (by repeat (first | exact List.Mem.head _ | refine List.Mem.tail _ ?_))) (.cons (OpdIn.name (by repeat (first | exact List.Mem.head _ | refine List.Mem.tail _ ?_)) (by repeat (first | exact List.Mem.head _ | refine List.Mem.tail _ ?_))) (.cons (OpdIn.int _ _) .nil))), Nat.le_of_ble_eq_true rfl⟩
    case hk => omega
    case hk2 => omega
    case hi => (repeat' (first | exact List.forall_mem_nil _ | refine List.forall_mem_cons.mpr ⟨?_, ?_⟩)) <;> (try dsimp only) <;> omega
    case ok => exact .opened (open_of (by assumption) (by rfl)) (sh_len (by simp))
    case hs => rfl
    case sx => first | exact sok_of (by assumption) (by kernel_rfl) | kernel_rfl
    case so => first | exact Eq.refl (a := true) | ((simp only [opsOk, Bool.and_eq_true, and_true]); (repeat' (first | assumption | refine And.intro ?_ ?_ | kernel_rfl)))
  · refine' drawn_fin hret ?F ?N ?P ?low ?hi ?hk ?hk2 ?hT ?hO ?ok ?hs ?sx ?so
    case F => k_asm
    case N => k_asm
    case P => repeat' (first | exact Pre.here | refine' Pre.cons ?_)
    case low => assumption
    case hT => exact (by repeat (first | exact List.Mem.head _ | refine List.Mem.tail _ ?_))
    case hO => exact ⟨(by repeat (first | exact List.Mem.head _ | refine List.Mem.tail _ ?_)), (by repeat (first | exact List.Mem.head _ | refine List.Mem.tail _ ?_)), (by repeat (first | exact List.Mem.head _ | refine List.Mem.tail _ ?_)), (.cons (OpdIn.name (by repeat (first | exact List.Mem.head _ | refine List.Mem.tail _ ?_)) (by repeat (first | exact List.Mem.head _ | refine List.Mem.tail _ ?_))) (.cons (OpdIn.dict (by repeat (first | exact List.Mem.head _ | refine List.Mem.tail _ ?_)) (by assumption) (by assumption) (by assumption)) .nil)), Nat.le_of_ble_eq_true rfl⟩
    case hk => omega
    case hk2 => omega
    case hi => (repeat' (first | exact List.forall_mem_nil _ | refine List.forall_mem_cons.mpr ⟨?_, ?_⟩)) <;> (try dsimp only) <;> omega
    case ok => exact .opened (open_of (by assumption) (by rfl)) (sh_not (by assumption))
    case hs => rfl
    case sx => first | exact sok_of (by assumption) (by kernel_rfl) | kernel_rfl
    case so => first | exact Eq.refl (a := true) | ((simp only [opsOk, Bool.and_eq_true, and_true]); (repeat' (first | assumption | refine And.intro ?_ ?_ | kernel_rfl)))
  · refine' drawn_fin hret ?F ?N ?P ?low ?hi ?hk ?hk2 ?hT ?hO ?ok ?hs ?sx ?so
    case F => k_asm
    case N => k_asm
    case P => repeat' (first | exact Pre.here | refine' Pre.cons ?_)
    case low => assumption
    case hT => exact (by repeat (first | exact List.Mem.head _ | refine List.Mem.tail _ ?_))
    case hO => exact ⟨(by repeat (first | exact List.Mem.head _ | refine List.Mem.tail _ ?_)), (by repeat (first | exact List.Mem.head _ | refine List.Mem.tail _ ?_)), (by repeat (first | exact List.Mem.head _ | refine List.Mem.tail _ ?_)), (.cons (OpdIn.name (by repeat (first | exact List.Mem.head _ | refine List.Mem.tail _ ?_)) (by repeat (first | exact List.Mem.head _ | refine List.Mem.tail _ ?_))) (.cons (OpdIn.dict (by repeat (first | exact List.Mem.head _ | refine List.Mem.tail _ ?_)) (by assumption) (by assumption) (by assumption)) .nil)), Nat.le_of_ble_eq_true rfl⟩
    case hk => omega
    case hk2 => omega
    case hi => (repeat' (first | exact List.forall_mem_nil _ | refine List.forall_mem_cons.mpr ⟨?_, ?_⟩)) <;> (try dsimp only) <;> omega
    case ok => exact .opened (open_of (by assumption) (by rfl)) (sh_4)
    case hs => rfl
    case sx => first | exact sok_of (by assumption) (by kernel_rfl) | kernel_rfl
    case so => first | exact Eq.refl (a := true) | ((simp only [opsOk, Bool.and_eq_true, and_true]); (repeat' (first | assumption | refine And.intro ?_ ?_ | kernel_rfl)))
  · refine' drawn_fin hret ?F ?N ?P ?low ?hi ?hk ?hk2 ?hT ?hO ?ok ?hs ?sx ?so
    case F => k_asm
    case N => k_asm
    case P => repeat' (first | exact Pre.here | refine' Pre.cons ?_)
    case low => assumption
    case hT => exact (by repeat (first | exact List.Mem.head _ | refine List.Mem.tail _ ?_))
    case hO => exact ⟨(by repeat (first | exact List.Mem.head _ | refine List.Mem.tail _ ?_)), (by repeat (first | exact List.Mem.head _ | refine List.Mem.tail _ ?_)), (by repeat (first | exact List.Mem.head _ | refine List.Mem.tail _ ?_)), (.cons (OpdIn.name (by repeat (first | exact List.Mem.head _ | refine List.Mem.tail _ ?_)) (by repeat (first | exact List.Mem.head _ | refine List.Mem.tail _ ?_))) .nil), Nat.le_of_ble_eq_true rfl⟩
    case hk => omega
    case hk2 => omega
    case hi => (repeat' (first | exact List.forall_mem_nil _ | refine List.forall_mem_cons.mpr ⟨?_, ?_⟩)) <;> (try dsimp only) <;> omega
    case ok => exact .opened (.inr rfl) (sh_len (by decide))
    case hs => rfl
    case sx => first | exact sok_of (by assumption) (by kernel_rfl) | kernel_rfl
    case so => first | exact Eq.refl (a := true) | ((simp only [opsOk, Bool.and_eq_true, and_true]); (repeat' (first | assumption | refine And.intro ?_ ?_ | kernel_rfl)))
  · refine' drawn_fin hret ?F ?N ?P ?low ?hi ?hk ?hk2 ?hT ?hO ?ok ?hs ?sx ?so
    case F => k_asm
    case N => k_asm
    case P => repeat' (first | exact Pre.here | refine' Pre.cons ?_)
    case low => assumption
    case hT => exact (by repeat (first | exact List.Mem.head _ | refine List.Mem.tail _ ?_))
    case hO => exact ⟨(by repeat (first | exact List.Mem.head _ | refine List.Mem.tail _ ?_)), (by repeat (first | exact List.Mem.head _ | refine List.Mem.tail _ ?_)), (by repeat (first | exact List.Mem.head _ | refine List.Mem.tail _ ?_)), .nil, Nat.le_of_ble_eq_true rfl⟩
    case hk => omega
    case hk2 => omega
    case hi => (repeat' (first | exact List.forall_mem_nil _ | refine List.forall_mem_cons.mpr ⟨?_, ?_⟩)) <;> (try dsimp only) <;> omega
    case ok => exact .emc
    case hs => rfl
    case sx => first | exact sok_of (by assumption) (by kernel_rfl) | kernel_rfl
    case so => first | exact Eq.refl (a := true) | ((simp only [opsOk, Bool.and_eq_true, and_true]); (repeat' (first | assumption | refine And.intro ?_ ?_ | kernel_rfl)))
  · refine' drawn_fin hret ?F ?N ?P ?low ?hi ?hk ?hk2 ?hT ?hO ?ok ?hs ?sx ?so
    case F => k_asm
    case N => k_asm
    case P => repeat' (first | exact Pre.here | refine' Pre.cons ?_)
    case low => assumption
    case hT => exact (by repeat (first | exact List.Mem.head _ | refine List.Mem.tail _ ?_))
    case hO => exact ⟨(by repeat (first | exact List.Mem.head _ | refine List.Mem.tail _ ?_)), (by repeat (first | exact List.Mem.head _ | refine List.Mem.tail _ ?_)), (by repeat (first | exact List.Mem.head _ | refine List.Mem.tail _ ?_)), .nil, Nat.le_of_ble_eq_true rfl⟩
    case hk => omega
    case hk2 => omega
    case hi => (repeat' (first | exact List.forall_mem_nil _ | refine List.forall_mem_cons.mpr ⟨?_, ?_⟩)) <;> (try dsimp only) <;> omega
    case ok => exact .q
    case hs => rfl
    case sx => first | exact sok_of (by assumption) (by kernel_rfl) | kernel_rfl
    case so => first | exact Eq.refl (a := true) | ((simp only [opsOk, Bool.and_eq_true, and_true]); (repeat' (first | assumption | refine And.intro ?_ ?_ | kernel_rfl)))
  · refine' drawn_fin hret ?F ?N ?P ?low ?hi ?hk ?hk2 ?hT ?hO ?ok ?hs ?sx ?so
    case F => k_asm
    case N => k_asm
    case P => repeat' (first | exact Pre.here | refine' Pre.cons ?_)
    case low => assumption
    case hT => exact (by repeat (first | exact List.Mem.head _ | refine List.Mem.tail _ ?_))
    case hO => exact ⟨(by repeat (first | exact List.Mem.head _ | refine List.Mem.tail _ ?_)), (by repeat (first | exact List.Mem.head _ | refine List.Mem.tail _ ?_)), (by repeat (first | exact List.Mem.head _ | refine List.Mem.tail _ ?_)), .nil, Nat.le_of_ble_eq_true rfl⟩
    case hk => omega
    case hk2 => omega
    case hi => (repeat' (first | exact List.forall_mem_nil _ | refine List.forall_mem_cons.mpr ⟨?_, ?_⟩)) <;> (try dsimp only) <;> omega
    case ok => exact .bq
    case hs => rfl
    case sx => first | exact sok_of (by assumption) (by kernel_rfl) | kernel_rfl
    case so => first | exact Eq.refl (a := true) | ((simp only [opsOk, Bool.and_eq_true, and_true]); (repeat' (first | assumption | refine And.intro ?_ ?_ | kernel_rfl)))
  · refine' drawn_fin hret ?F ?N ?P ?low ?hi ?hk ?hk2 ?hT ?hO ?ok ?hs ?sx ?so
    case F => k_asm
    case N => k_asm
    case P => repeat' (first | exact Pre.here | refine' Pre.cons ?_)
    case low => assumption
    case hT => exact (by repeat (first | exact List.Mem.head _ | refine List.Mem.tail _ ?_))
    case hO => exact ⟨(by repeat (first | exact List.Mem.head _ | refine List.Mem.tail _ ?_)), (by repeat (first | exact List.Mem.head _ | refine List.Mem.tail _ ?_)), (by repeat (first | exact List.Mem.head _ | refine List.Mem.tail _ ?_)), (.cons (OpdIn.int _ _) .nil), Nat.le_of_ble_eq_true rfl⟩
    case hk => omega
    case hk2 => omega
    case hi => (repeat' (first | exact List.forall_mem_nil _ | refine List.forall_mem_cons.mpr ⟨?_, ?_⟩)) <;> (try dsimp only) <;> omega
    case ok => exact .tr1 (by assumption) (by assumption)
    case hs => rfl
    case sx => first | exact sok_of (by assumption) (by kernel_rfl) | kernel_rfl
    case so => first | exact Eq.refl (a := true) | ((simp only [opsOk, Bool.and_eq_true, and_true]); (repeat' (first | assumption | refine And.intro ?_ ?_ | kernel_rfl)))
  · refine' drawn_fin hret ?F ?N ?P ?low ?hi ?hk ?hk2 ?hT ?hO ?ok ?hs ?sx ?so
    case F => k_asm
    case N => k_asm
    case P => repeat' (first | exact Pre.here | refine' Pre.cons ?_)
    case low => assumption
    case hT => exact (by repeat (first | exact List.Mem.head _ | refine List.Mem.tail _ ?_))
    case hO => exact ⟨(by repeat (first | exact List.Mem.head _ | refine List.Mem.tail _ ?_)), (by repeat (first | exact List.Mem.head _ | refine List.Mem.tail _ ?_)), (by repeat (first | exact List.Mem.head _ | refine List.Mem.tail _ ?_)), (.cons (OpdIn.name (by repeat (first | exact List.Mem.head _ | refine List.Mem.tail _ ?_)) (by repeat (first | exact List.Mem.head _ | refine List.Mem.tail _ ?_))) .nil), Nat.le_of_ble_eq_true rfl⟩
    case hk => omega
    case hk2 => omega
    case hi => (repeat' (first | exact List.forall_mem_nil _ | refine List.forall_mem_cons.mpr ⟨?_, ?_⟩)) <;> (try dsimp only) <;> omega
    case ok => exact .tr2
    case hs => rfl
    case sx => first | exact sok_of (by assumption) (by kernel_rfl) | kernel_rfl
    case so => first | exact Eq.refl (a := true) | ((simp only [opsOk, Bool.and_eq_true, and_true]); (repeat' (first | assumption | refine And.intro ?_ ?_ | kernel_rfl)))
  · refine' drawn_fin hret ?F ?N ?P ?low ?hi ?hk ?hk2 ?hT ?hO ?ok ?hs ?sx ?so
    case F => k_asm
    case N => k_asm
    case P => repeat' (first | exact Pre.here | refine' Pre.cons ?_)
    case low => assumption
    case hT => exact (by repeat (first | exact List.Mem.head _ | refine List.Mem.tail _ ?_))
    case hO => exact ⟨(by repeat (first | exact List.Mem.head _ | refine List.Mem.tail _ ?_)), (by repeat (first | exact List.Mem.head _ | refine List.Mem.tail _ ?_)), (by repeat (first | exact List.Mem.head _ | refine List.Mem.tail _ ?_)), .nil, Nat.le_of_ble_eq_true rfl⟩
    case hk => omega
    case hk2 => omega
    case hi => (repeat' (first | exact List.forall_mem_nil _ | refine List.forall_mem_cons.mpr ⟨?_, ?_⟩)) <;> (try dsimp only) <;> omega
    case ok => exact .tr3
    case hs => rfl
    case sx => first | exact sok_of (by assumption) (by kernel_rfl) | kernel_rfl
    case so => first | exact Eq.refl (a := true) | ((simp only [opsOk, Bool.and_eq_true, and_true]); (repeat' (first | assumption | refine And.intro ?_ ?_ | kernel_rfl)))
  · refine' drawn_fin hret ?F ?N ?P ?low ?hi ?hk ?hk2 ?hT ?hO ?ok ?hs ?sx ?so
    case F => k_asm
    case N => k_asm
    case P => repeat' (first | exact Pre.here | refine' Pre.cons ?_)
    case low => assumption
    case hT => exact (by repeat (first | exact List.Mem.head _ | refine List.Mem.tail _ ?_))
    case hO => exact ⟨(by repeat (first | exact List.Mem.head _ | refine List.Mem.tail _ ?_)), (by repeat (first | exact List.Mem.head _ | refine List.Mem.tail _ ?_)), (by repeat (first | exact List.Mem.head _ | refine List.Mem.tail _ ?_)), (.cons (OpdIn.int _ _) (.cons (OpdIn.int _ _) .nil)), Nat.le_of_ble_eq_true rfl⟩
    case hk => omega
    case hk2 => omega
    case hi => (repeat' (first | exact List.forall_mem_nil _ | refine List.forall_mem_cons.mpr ⟨?_, ?_⟩)) <;> (try dsimp only) <;> omega
    case ok => exact .tr4
    case hs => rfl
    case sx => first | exact sok_of (by assumption) (by kernel_rfl) | kernel_rfl
    case so => first | exact Eq.refl (a := true) | ((simp only [opsOk, Bool.and_eq_true, and_true]); (repeat' (first | assumption | refine And.intro ?_ ?_ | kernel_rfl)))
  · refine' drawn_fin hret ?F ?N ?P ?low ?hi ?hk ?hk2 ?hT ?hO ?ok ?hs ?sx ?so
    case F => k_asm
    case N => k_asm
    case P => repeat' (first | exact Pre.here | refine' Pre.cons ?_)
    case low => assumption
    case hT => exact (by repeat (first | exact List.Mem.head _ | refine List.Mem.tail _ ?_))
    case hO => exact ⟨(by repeat (first | exact List.Mem.head _ | refine List.Mem.tail _ ?_)), (by repeat (first | exact List.Mem.head _ | refine List.Mem.tail _ ?_)), (by repeat (first | exact List.Mem.head _ | refine List.Mem.tail _ ?_)), (.cons OpdIn.tru .nil), Nat.le_of_ble_eq_true rfl⟩
    case hk => omega
    case hk2 => omega
    case hi => (repeat' (first | exact List.forall_mem_nil _ | refine List.forall_mem_cons.mpr ⟨?_, ?_⟩)) <;> (try dsimp only) <;> omega
    case ok => exact .tr5
    case hs => rfl
    case sx => first | exact sok_of (by assumption) (by kernel_rfl) | kernel_rfl
    case so => first | exact Eq.refl (a := true) | ((simp only [opsOk, Bool.and_eq_true, and_true]); (repeat' (first | assumption | refine And.intro ?_ ?_ | kernel_rfl)))
  · refine' drawn_fin hret ?F ?N ?P ?low ?hi ?hk ?hk2 ?hT ?hO ?ok ?hs ?sx ?so
    case F => k_asm
    case N => k_asm
    case P => repeat' (first | exact Pre.here | refine' Pre.cons ?_)
    case low => assumption
    case hT => exact (by repeat (first | exact List.Mem.head _ | refine List.Mem.tail _ ?_))
    case hO => exact ⟨(by repeat (first | exact List.Mem.head _ | refine List.Mem.tail _ ?_)), (by repeat (first | exact List.Mem.head _ | refine List.Mem.tail _ ?_)), (by repeat (first | exact List.Mem.head _ | refine List.Mem.tail _ ?_)), .nil, Nat.le_of_ble_eq_true rfl⟩
    case hk => omega
    case hk2 => omega
    case hi => (repeat' (first | exact List.forall_mem_nil _ | refine List.forall_mem_cons.mpr ⟨?_, ?_⟩)) <;> (try dsimp only) <;> omega
    case ok => exact .other (plain_of (by assumption) (by rfl))
    case hs => rfl
    case sx => first | exact sok_of (by assumption) (by kernel_rfl) | kernel_rfl
    case so => first | exact Eq.refl (a := true) | ((simp only [opsOk, Bool.and_eq_true, and_true]); (repeat' (first | assumption | refine And.intro ?_ ?_ | kernel_rfl)))
  · refine' drawn_fin hret ?F ?N ?P ?low ?hi ?hk ?hk2 ?hT ?hO ?ok ?hs ?sx ?so
    case F => k_asm
    case N => k_asm
    case P => repeat' (first | exact Pre.here | refine' Pre.cons ?_)
    case low => assumption
    case hT => exact (by repeat (first | exact List.Mem.head _ | refine List.Mem.tail _ ?_))
    case hO => exact ⟨(by repeat (first | exact List.Mem.head _ | refine List.Mem.tail _ ?_)), (by repeat (first | exact List.Mem.head _ | refine List.Mem.tail _ ?_)), (by repeat (first | exact List.Mem.head _ | refine List.Mem.tail _ ?_)), (.cons (OpdIn.name (by repeat (first | exact List.Mem.head _ | refine List.Mem.tail _ ?_)) (by repeat (first | exact List.Mem.head _ | refine List.Mem.tail _ ?_))) .nil), Nat.le_of_ble_eq_true rfl⟩
    case hk => omega
    case hk2 => omega
    case hi => (repeat' (first | exact List.forall_mem_nil _ | refine List.forall_mem_cons.mpr ⟨?_, ?_⟩)) <;> (try dsimp only) <;> omega
    case ok => exact .other (plain_of (by assumption) (by rfl))
    case hs => rfl
    case sx => first | exact sok_of (by assumption) (by kernel_rfl) | kernel_rfl
    case so => first | exact Eq.refl (a := true) | ((simp only [opsOk, Bool.and_eq_true, and_true]); (repeat' (first | assumption | refine And.intro ?_ ?_ | kernel_rfl)))
end
section
local macro_rules | `(tactic| walk_at "none 0") => `(tactic| fail)


def OpAt (w : World) (all : List (Addr × Obj)) (v : Value) (x : Str) (os : List Opd) : Prop :=
  ∃ (op d l : Addr) (vs : List Value) (h1 h2 : Int) (k1 k2 t : Tok) (n n' : Nat), v = .ref op ∧ OpIn PySem.Challenge.rw_og0159_01.row.prog w all op x os d l vs h1 h2 k1 k2 t n n'
inductive OpsAt (w : World) (all : List (Addr × Obj)) : List Value → List (Str × List Opd) → Prop
  | nil : OpsAt w all [] []
  | cons {v : Value} {vs : List Value} {x : Str} {os : List Opd} {ps : List (Str × List Opd)} : OpAt w all v x os → OpsAt w all vs ps → OpsAt w all (v :: vs) ((x, os) :: ps)
inductive PreT (news : List (Addr × Obj)) : List (Addr × Obj) → List (Addr × Obj) → Prop
  | here : PreT news news []
  | cons {e : Addr × Obj} {all tl : List (Addr × Obj)} : PreT news all tl → PreT news (e :: all) (e :: tl)
theorem PreT.sub {news all tl : List (Addr × Obj)} (h : PreT news all tl) : ∀ p ∈ news ++ tl, p ∈ all := by
  induction h with
  | here => intro p hp; simpa using hp
  | cons _ ih =>
    intro p hp
    rcases List.mem_append.mp hp with hp | hp
    · exact .tail _ (ih p (List.mem_append_left _ hp))
    · rcases List.mem_cons.mp hp with e | hp
      · rw [e]; exact .head _
      · exact .tail _ (ih p (List.mem_append_right _ hp))
theorem gives_fin {h₀ h' : Heap} {L e0 : Addr} {m : Str → Option Value} {news all tl : List (Addr × Obj)} {s : Shared} {Q : Value → Shared → Prop} {Out : List (Addr × Obj) → Value → Prop} {r : Value} {tk : Nat}
    (hret : ∀ r tl h' tk', Fr h₀ L h' m → News h₀ L h' (news ++ tl) → (∀ q ∈ news, ∀ p ∈ tl, q.1 < p.1) → Out tl r → Q r { s with heap := h', toks := tk' })
    (F : Fr h₀ L h' m) (N : News h₀ L h' all) (P : PreT news all tl) (low : ∀ p ∈ news, @LT.lt Nat _ p.1 e0) (hi : ∀ p ∈ tl, @LE.le Nat _ e0 p.1) (O : Out tl r) : Q r { s with heap := h', toks := tk } :=
  hret _ tl _ _ F (fun p hp => N p (P.sub p hp)) (fun q hq p hp => Nat.lt_of_lt_of_le (low q hq) (hi p hp)) O

def isIn (l : List Str) (x : Str) : Bool := l.any (· == x)
def PATHS : List Str := [Str.ofString "S", Str.ofString "s", Str.ofString "f", Str.ofString "F", Str.ofString "f*", Str.ofString "B", Str.ofString "B*", Str.ofString "b", Str.ofString "b*"]
def OTHERS : List Str := [Str.ofString "sh", Str.ofString "Do", Str.ofString "BI"]
def TEXTS : List Str := [Str.ofString "Tj", Str.ofString "TJ", Str.ofString "'", Str.ofString "\""]
def unseenOf (x : Str) (os : List Opd) (m : Int) : List (Str × List Opd) :=
  if isIn PATHS x then [(Str.ofString "n", [])] else if isIn OTHERS x then [] else if isIn TEXTS x = false then [(x, os)] else if [3, 7].any (fun x => x == m) then [(x, os)] else [(Str.ofString "Tr", [.int (if m < 4 then 3 else 7)]), (x, os), (Str.ofString "Tr", [.int m])]
section
variable {x : Str} {os : List Opd} {m : Int}
theorem un_1 (h : isIn PATHS x = true) : unseenOf x os m = [(Str.ofString "n", [])] := if_pos h
theorem un_2 (h : isIn PATHS x = false) (h2 : isIn OTHERS x = true) : unseenOf x os m = [] := by
  unfold unseenOf; rw [if_neg (ne_true_of_eq_false h), if_pos h2]
theorem un_3 (h : isIn PATHS x = false) (h2 : isIn OTHERS x = false) (h3 : isIn TEXTS x = false) : unseenOf x os m = [(x, os)] := by
  unfold unseenOf; rw [if_neg (ne_true_of_eq_false h), if_neg (ne_true_of_eq_false h2), if_pos h3]
theorem un_4 (h : isIn PATHS x = false) (h2 : isIn OTHERS x = false) (h3 : isIn TEXTS x = true) (h4 : ([3, 7].any fun x => x == m) = true) : unseenOf x os m = [(x, os)] := by
  unfold unseenOf; rw [if_neg (ne_true_of_eq_false h), if_neg (ne_true_of_eq_false h2), if_neg (by rw [h3]; decide), if_pos h4]
theorem un_5 (h : isIn PATHS x = false) (h2 : isIn OTHERS x = false) (h3 : isIn TEXTS x = true) (h4 : ([3, 7].any fun x => x == m) = false) (h5 : m < 4) : unseenOf x os m = [(Str.ofString "Tr", [.int 3]), (x, os), (Str.ofString "Tr", [.int m])] := by
  unfold unseenOf; rw [if_neg (ne_true_of_eq_false h), if_neg (ne_true_of_eq_false h2), if_neg (by rw [h3]; decide), if_neg (ne_true_of_eq_false h4), if_pos h5]
theorem un_6 (h : isIn PATHS x = false) (h2 : isIn OTHERS x = false) (h3 : isIn TEXTS x = true) (h4 : ([3, 7].any fun x => x == m) = false) (h5 : ¬ m < 4) : unseenOf x os m = [(Str.ofString "Tr", [.int 7]), (x, os), (Str.ofString "Tr", [.int m])] := by
  unfold unseenOf; rw [if_neg (ne_true_of_eq_false h), if_neg (ne_true_of_eq_false h2), if_neg (by rw [h3]; decide), if_neg (ne_true_of_eq_false h4), if_neg h5]
end

section
variable {prog : Program} {w : World} {A : Around} {E : Value → Shared → Prop} {s : Shared} {a : Addr} {t : Tok} {Q : Value → Shared → Prop} {x : Str} {vs : List Value}
theorem in_tupV (ss : List Str) (ht : IsTup s.heap a vs.toArray) (hS : vs.all isS = true) (e : vs.map sOf = ss) (h : Q (.bool (isIn ss x)) s) : wpAny (model prog w) A (compareOp .In (.str x t) (.ref a)) Q E s := by
  subst e
  exact in_tuple_strs ht (by simpa using strsOf_all hS) h
theorem notin_tupV (ss : List Str) (ht : IsTup s.heap a vs.toArray) (hS : vs.all isS = true) (e : vs.map sOf = ss) (h : Q (.bool (!isIn ss x)) s) : wpAny (model prog w) A (compareOp .NotIn (.str x t) (.ref a)) Q E s := by
  subst e
  exact notin_tuple_strs ht (by simpa using strsOf_all hS) h
end

local macro_rules | `(tactic| walk_at "compareOp In str ref") => `(tactic| (k_here; k_dflt (first
  | (refine' in_tupV PATHS ?kt ?kS ?ke ?_; (case kt => first | exact News.isTup (by k_asm) (by k_mem) | exact tupK (Frag.In.keeps (by k_asm) (Fr.keep (by k_asm))) (by k_is)); (case kS => rfl); (case ke => rfl))
  | (refine' in_tupV OTHERS ?kt ?kS ?ke ?_; (case kt => first | exact News.isTup (by k_asm) (by k_mem) | exact tupK (Frag.In.keeps (by k_asm) (Fr.keep (by k_asm))) (by k_is)); (case kS => rfl); (case ke => rfl))
  | (refine' in_tupV TEXTS ?kt ?kS ?ke ?_; (case kt => first | exact News.isTup (by k_asm) (by k_mem) | exact tupK (Frag.In.keeps (by k_asm) (Fr.keep (by k_asm))) (by k_is)); (case kS => rfl); (case ke => rfl)))))
local macro_rules | `(tactic| walk_at "compareOp NotIn str ref") => `(tactic| (k_here; k_dflt
  (refine' notin_tupV TEXTS ?kt ?kS ?ke ?_; (case kt => first | exact News.isTup (by k_asm) (by k_mem) | exact tupK (Frag.In.keeps (by k_asm) (Fr.keep (by k_asm))) (by k_is)); (case kS => rfl); (case ke => rfl))))
local macro_rules | `(tactic| walk_at "call ref") => `(tactic| (k_here; (with_reducible show wpAny _ _ (call (Value.ref 287) _) _ _ _); k_dflt (refine' oper_new ?k1 ?k2 ?k3 ?k4 ?k5 ?k6 ?kp ?ku ?_; (case k1 => k_asm); (case k2 => k_asm); (case k3 => k_asm); (case k4 => k_asm); (case k5 => k_asm); (case k6 => first | exact rfl | assumption); (case kp => k_room); (case ku => k_units); k_whole); intro x' d' h' tk' hs1 hs2 kt1 kt2 F' N' l1 l2; (try k_lt l1); (try k_lt2 l2); (try k_sweep)))

set_option maxHeartbeats 2000000 in
theorem unseen_ok (w : World) (news : List (Addr × Obj)) (ao : Addr) (x : Str) (os : List Opd) (d l : Addr) (vs : List Value) (h1 h2 : Int) (k1 k2 t : Tok) (n n' : Nat) (mode : Int) (tm : Tok) (hm0 : 0 ≤ mode) (hm7 : mode < 8) (h : OpIn PySem.Challenge.rw_og0159_01.row.prog w news ao x os d l vs h1 h2 k1 k2 t n n') :
    Gives PySem.Challenge.rw_og0159_01.row.prog w (pre.heap_1_41 w.params) 306 news [.ref ao, .int mode tm] 16 (fun tl r => ∃ (l' : Addr) (vs' : List Value) (n' : Nat), r = .ref l' ∧ (l', listOf vs'.toArray n') ∈ tl ∧ OpsAt w (news ++ tl) vs' (unseenOf x os mode)) := by
  k_fill
  have hm1 := h.obj
  have hm2 := h.dict
  have hm3 := h.lst
  have hlen := h.all.length
  have hfew := h.few
  unfold Gives
  intro p loose mean mg mb dp un gd cn cs a ccd cl outer A₀ base h₀ L m s Q E B F X N T hk hd hu hret
  refine wpAny_call ?_
  with_unfolding_all cell_enter
  k_steps
  
  · refine' gives_fin hret ?F ?N ?P ?low ?hi ?O
    case F => k_asm
    case N => k_asm
    case P => repeat' (first | exact PreT.here | refine' PreT.cons ?_)
    case low => assumption
    case hi => (repeat' (first | exact List.forall_mem_nil _ | refine List.forall_mem_cons.mpr ⟨?_, ?_⟩)) <;> (try dsimp only) <;> omega
    case O =>
      refine ⟨_, _, _, rfl, (by repeat (first | exact List.Mem.head _ | refine List.Mem.tail _ ?_)), ?_⟩
      rw [un_1 (by assumption)]
      exact (.cons ⟨_, _, _, _, _, _, _, _, _, _, _, rfl, List.mem_append_right _ (by repeat (first | exact List.Mem.head _ | refine List.Mem.tail _ ?_)), List.mem_append_right _ (by repeat (first | exact List.Mem.head _ | refine List.Mem.tail _ ?_)), List.mem_append_right _ (by repeat (first | exact List.Mem.head _ | refine List.Mem.tail _ ?_)), .nil, Nat.le_of_ble_eq_true rfl⟩ .nil)
  · refine' gives_fin hret ?F ?N ?P ?low ?hi ?O
    case F => k_asm
    case N => k_asm
    case P => repeat' (first | exact PreT.here | refine' PreT.cons ?_)
    case low => assumption
    case hi => (repeat' (first | exact List.forall_mem_nil _ | refine List.forall_mem_cons.mpr ⟨?_, ?_⟩)) <;> (try dsimp only) <;> omega
    case O =>
      refine ⟨_, _, _, rfl, (by repeat (first | exact List.Mem.head _ | refine List.Mem.tail _ ?_)), ?_⟩
      rw [un_2 (by assumption) (by assumption)]
      exact .nil
  · refine' gives_fin hret ?F ?N ?P ?low ?hi ?O
    case F => k_asm
    case N => k_asm
    case P => repeat' (first | exact PreT.here | refine' PreT.cons ?_)
    case low => assumption
    case hi => (repeat' (first | exact List.forall_mem_nil _ | refine List.forall_mem_cons.mpr ⟨?_, ?_⟩)) <;> (try dsimp only) <;> omega
    case O =>
      refine ⟨_, _, _, rfl, (by repeat (first | exact List.Mem.head _ | refine List.Mem.tail _ ?_)), ?_⟩
      rw [un_4 (by assumption) (by assumption) (by assumption) (by assumption)]
      exact (.cons ⟨_, _, _, _, _, _, _, _, _, _, _, rfl, h.mono fun p hp => List.mem_append_left _ hp⟩ .nil)
  · refine' gives_fin hret ?F ?N ?P ?low ?hi ?O
    case F => k_asm
    case N => k_asm
    case P => repeat' (first | exact PreT.here | refine' PreT.cons ?_)
    case low => assumption
    case hi => (repeat' (first | exact List.forall_mem_nil _ | refine List.forall_mem_cons.mpr ⟨?_, ?_⟩)) <;> (try dsimp only) <;> omega
    case O =>
      refine ⟨_, _, _, rfl, (by repeat (first | exact List.Mem.head _ | refine List.Mem.tail _ ?_)), ?_⟩
      rw [un_5 (by assumption) (by assumption) (by assumption) (by assumption) (by assumption)]
      exact (.cons ⟨_, _, _, _, _, _, _, _, _, _, _, rfl, List.mem_append_right _ (by repeat (first | exact List.Mem.head _ | refine List.Mem.tail _ ?_)), List.mem_append_right _ (by repeat (first | exact List.Mem.head _ | refine List.Mem.tail _ ?_)), List.mem_append_right _ (by repeat (first | exact List.Mem.head _ | refine List.Mem.tail _ ?_)), (.cons (OpdIn.int _ _) .nil), Nat.le_of_ble_eq_true rfl⟩ (.cons ⟨_, _, _, _, _, _, _, _, _, _, _, rfl, h.mono fun p hp => List.mem_append_left _ hp⟩ (.cons ⟨_, _, _, _, _, _, _, _, _, _, _, rfl, List.mem_append_right _ (by repeat (first | exact List.Mem.head _ | refine List.Mem.tail _ ?_)), List.mem_append_right _ (by repeat (first | exact List.Mem.head _ | refine List.Mem.tail _ ?_)), List.mem_append_right _ (by repeat (first | exact List.Mem.head _ | refine List.Mem.tail _ ?_)), (.cons (OpdIn.int _ _) .nil), Nat.le_of_ble_eq_true rfl⟩ .nil)))
  · refine' gives_fin hret ?F ?N ?P ?low ?hi ?O
    case F => k_asm
    case N => k_asm
    case P => repeat' (first | exact PreT.here | refine' PreT.cons ?_)
    case low => assumption
    case hi => (repeat' (first | exact List.forall_mem_nil _ | refine List.forall_mem_cons.mpr ⟨?_, ?_⟩)) <;> (try dsimp only) <;> omega
    case O =>
      refine ⟨_, _, _, rfl, (by repeat (first | exact List.Mem.head _ | refine List.Mem.tail _ ?_)), ?_⟩
      rw [un_6 (by assumption) (by assumption) (by assumption) (by assumption) (by assumption)]
      exact (.cons ⟨_, _, _, _, _, _, _, _, _, _, _, rfl, List.mem_append_right _ (by repeat (first | exact List.Mem.head _ | refine List.Mem.tail _ ?_)), List.mem_append_right _ (by repeat (first | exact List.Mem.head _ | refine List.Mem.tail _ ?_)), List.mem_append_right _ (by repeat (first | exact List.Mem.head _ | refine List.Mem.tail _ ?_)), (.cons (OpdIn.int _ _) .nil), Nat.le_of_ble_eq_true rfl⟩ (.cons ⟨_, _, _, _, _, _, _, _, _, _, _, rfl, h.mono fun p hp => List.mem_append_left _ hp⟩ (.cons ⟨_, _, _, _, _, _, _, _, _, _, _, rfl, List.mem_append_right _ (by repeat (first | exact List.Mem.head _ | refine List.Mem.tail _ ?_)), List.mem_append_right _ (by repeat (first | exact List.Mem.head _ | refine List.Mem.tail _ ?_)), List.mem_append_right _ (by repeat (first | exact List.Mem.head _ | refine List.Mem.tail _ ?_)), (.cons (OpdIn.int _ _) .nil), Nat.le_of_ble_eq_true rfl⟩ .nil)))
  · refine' gives_fin hret ?F ?N ?P ?low ?hi ?O
    case F => k_asm
    case N => k_asm
    case P => repeat' (first | exact PreT.here | refine' PreT.cons ?_)
    case low => assumption
    case hi => (repeat' (first | exact List.forall_mem_nil _ | refine List.forall_mem_cons.mpr ⟨?_, ?_⟩)) <;> (try dsimp only) <;> omega
    case O =>
      refine ⟨_, _, _, rfl, (by repeat (first | exact List.Mem.head _ | refine List.Mem.tail _ ?_)), ?_⟩
      rw [un_3 (by assumption) (by assumption) (by assumption)]
      exact (.cons ⟨_, _, _, _, _, _, _, _, _, _, _, rfl, h.mono fun p hp => List.mem_append_left _ hp⟩ .nil)
end
section
local macro_rules | `(tactic| walk_at "none 0") => `(tactic| fail)

inductive PreU (news t : List (Addr × Obj)) : List (Addr × Obj) → List (Addr × Obj) → Prop
  | here : PreU news t (news ++ t) t
  | cons {e : Addr × Obj} {all tl : List (Addr × Obj)} : PreU news t all tl → PreU news t (e :: all) (e :: tl)
theorem PreU.sub {news t all tl : List (Addr × Obj)} (h : PreU news t all tl) : ∀ p ∈ news ++ tl, p ∈ all := by
  induction h with
  | here => intro p hp; exact hp
  | cons _ ih =>
    intro p hp
    rcases List.mem_append.mp hp with hp | hp
    · exact .tail _ (ih p (List.mem_append_left _ hp))
    · rcases List.mem_cons.mp hp with e | hp
      · rw [e]; exact .head _
      · exact .tail _ (ih p (List.mem_append_right _ hp))
section
variable {h₀ h' : Heap} {L e0 : Addr} {m : Str → Option Value} {news all tl t : List (Addr × Obj)} {s : Shared} {Q : Value → Shared → Prop} {Out : List (Addr × Obj) → Value → Prop} {r : Value} {tk : Nat}
theorem gives_finU (hret : ∀ r tl h' tk', Fr h₀ L h' m → News h₀ L h' (news ++ tl) → (∀ q ∈ news, ∀ p ∈ tl, q.1 < p.1) → Out tl r → Q r { s with heap := h', toks := tk' })
    (F : Fr h₀ L h' m) (N : News h₀ L h' all) (P : PreU news t all tl) (low : ∀ p ∈ news, @LT.lt Nat _ p.1 e0) (hi : ∀ p ∈ tl, @LE.le Nat _ e0 p.1) (O : Out tl r) : Q r { s with heap := h', toks := tk } :=
  hret _ tl _ _ F (fun p hp => N p (P.sub p hp)) (fun q hq p hp => Nat.lt_of_lt_of_le (low q hq) (hi p hp)) O
theorem gives_finV {e : Addr × Obj} (hret : ∀ r tl h' tk', Fr h₀ L h' m → News h₀ L h' (news ++ tl) → (∀ q ∈ news, ∀ p ∈ tl, q.1 < p.1) → Out tl r → Q r { s with heap := h', toks := tk' })
    (F : Fr h₀ L h' m) (N : News h₀ L h' (e :: (news ++ t))) (lt : ∀ q ∈ news, ∀ p ∈ t, q.1 < p.1) (low : ∀ p ∈ news ++ t, @LT.lt Nat _ p.1 e.1) (O : Out (e :: t) r) : Q r { s with heap := h', toks := tk } :=
  hret _ (e :: t) _ _ F (fun p hp => N p ((PreU.cons .here).sub p hp)) (fun q hq p hp => (List.mem_cons.mp hp).elim (fun z => by rw [z]; exact low q (List.mem_append_left _ hq)) (lt q hq p)) O
end
theorem le_in {l t : List (Addr × Obj)} (h : ∀ q ∈ l, ∀ p ∈ t, q.1 < p.1) {e : Addr} {o : Obj} {p : Addr × Obj} (hp : p ∈ t) (hm : (e, o) ∈ l) : @LE.le Nat _ e p.1 := Nat.le_of_lt (h _ hm p hp)
theorem dat_up {l t : List (Addr × Obj)} {v : Value} {d : Dat} (h : DatIn l v d) (hs : ∀ p ∈ l, p ∈ t) : DatIn t v d := h.mono hs
def told2 (p : Str × List Opd) : Dat := opTold p.1 p.2
theorem any_t {m : Int} (h0 : 0 ≤ m) (h8 : m < 8) (h : m.fmod 4 = 3) : ([3, 7].any fun x => x == m) = true := by
  have : m = 0 ∨ m = 1 ∨ m = 2 ∨ m = 3 ∨ m = 4 ∨ m = 5 ∨ m = 6 ∨ m = 7 := by omega
  rcases this with rfl | rfl | rfl | rfl | rfl | rfl | rfl | rfl <;> revert h <;> decide
theorem any_f {m : Int} (h0 : 0 ≤ m) (h8 : m < 8) (h : m.fmod 4 ≠ 3) : ([3, 7].any fun x => x == m) = false := by
  have : m = 0 ∨ m = 1 ∨ m = 2 ∨ m = 3 ∨ m = 4 ∨ m = 5 ∨ m = 6 ∨ m = 7 := by omega
  rcases this with rfl | rfl | rfl | rfl | rfl | rfl | rfl | rfl <;> revert h <;> decide

theorem told_ref {tl : List (Addr × Obj)} {r : Value} {x : Str} {os : List Opd} (h : DatIn tl r (opTold x os)) : ∃ (a : Addr) (vs : List Value) (n : Nat), r = .ref a ∧ (a, ({ cls := .type "tuple", data := .seq vs.toArray n } : Obj)) ∈ tl ∧ DatIn tl (.ref a) (opTold x os) := by
  cases h with
  | tuple a b => exact ⟨_, _, _, rfl, a, .tuple a b⟩

local macro_rules | `(tactic| walk_at "compareOp In str ref") => `(tactic| (k_here; k_dflt (first
  | (refine' in_tupV PATHS ?kt ?kS ?ke ?_; (case kt => first | exact News.isTup (by k_asm) (by k_mem) | exact tupK (Frag.In.keeps (by k_asm) (Fr.keep (by k_asm))) (by k_is)); (case kS => rfl); (case ke => rfl))
  | (refine' in_tupV OTHERS ?kt ?kS ?ke ?_; (case kt => first | exact News.isTup (by k_asm) (by k_mem) | exact tupK (Frag.In.keeps (by k_asm) (Fr.keep (by k_asm))) (by k_is)); (case kS => rfl); (case ke => rfl))
  | (refine' in_tupV TEXTS ?kt ?kS ?ke ?_; (case kt => first | exact News.isTup (by k_asm) (by k_mem) | exact tupK (Frag.In.keeps (by k_asm) (Fr.keep (by k_asm))) (by k_is)); (case kS => rfl); (case ke => rfl)))))
local macro_rules | `(tactic| walk_at "compareOp NotIn str ref") => `(tactic| (k_here; k_dflt
  (refine' notin_tupV TEXTS ?kt ?kS ?ke ?_; (case kt => first | exact News.isTup (by k_asm) (by k_mem) | exact tupK (Frag.In.keeps (by k_asm) (Fr.keep (by k_asm))) (by k_is)); (case kS => rfl); (case ke => rfl))))
local macro_rules | `(tactic| walk_at "call ref") => `(tactic| (k_here; (with_reducible show wpAny _ _ (call (Value.ref 287) _) _ _ _); k_dflt (refine' oper_new ?k1 ?k2 ?k3 ?k4 ?k5 ?k6 ?kp ?ku ?_; (case k1 => k_asm); (case k2 => k_asm); (case k3 => k_asm); (case k4 => k_asm); (case k5 => k_asm); (case k6 => first | exact rfl | assumption); (case kp => k_room); (case ku => k_units); k_whole); intro x' d' h' tk' hs1 hs2 kt1 kt2 F' N' l1 l2; (try k_lt l1); (try k_lt2 l2); (try k_sweep)))

local macro_rules | `(tactic| walk_at "call ref") => `(tactic| (k_here; (with_reducible show wpAny _ _ (call (Value.ref 284) _) _ _ _); k_dflt (refine' Gives.use (op_told _ _ _ _ _ _ _ _ _ _ _ _ _ _ _ ?kh) ?k1 ?k2 ?k3 ?k4 ?k5 ?k6 ?k7 ?k8 ?_; (case k1 => k_asm); (case k2 => k_asm); (case k3 => k_asm); (case k4 => k_asm); (case kh => (refine OpIn.mono (by assumption) ?_; intro p' hp'; repeat (first | exact hp' | refine List.Mem.tail _ ?_))); (case k5 => k_asm); (case k6 => first | exact rfl | assumption); (case k7 => k_room); (case k8 => k_units); k_whole); intro r' tl' h' tk' F' N' lt' out'; (try simp only [List.cons_append] at N'); (try (obtain ⟨D', vs', n', hr', hm', hd'⟩ := told_ref out'; subst hr')); (try k_sweep)))

set_option maxHeartbeats 2000000 in
theorem law_unseen_ok (w : World) (news : List (Addr × Obj)) (ao : Addr) (x : Str) (os : List Opd) (d l : Addr) (vs : List Value) (h1 h2 : Int) (k1 k2 t : Tok) (n n' : Nat) (mode : Int) (tm : Tok) (hm0 : 0 ≤ mode) (hm7 : mode < 8) (h : OpIn PySem.Challenge.rw_og0159_01.row.prog w news ao x os d l vs h1 h2 k1 k2 t n n') :
    Gives PySem.Challenge.rw_og0159_01.row.prog w (pre.heap_1_41 w.params) 357 news [.ref ao, .int mode tm] 20 (fun tl r => ∃ (l' : Addr) (vs' : List Value) (n' : Nat), r = .ref l' ∧ (l', listOf vs'.toArray n') ∈ tl ∧ DatAll tl vs' ((unseenOf x os mode).map told2)) := by
  k_fill
  have hm1 := h.obj
  have hm2 := h.dict
  have hm3 := h.lst
  have hlen := h.all.length
  have hfew := h.few
  unfold Gives
  intro p loose mean mg mb dp un gd cn cs a ccd cl outer A₀ base h₀ L m s Q E B F X N T hk hd hu hret
  refine wpAny_call ?_
  with_unfolding_all cell_enter
  k_steps
  
  · refine' gives_fin hret ?F ?N ?P ?low ?hi ?O
    case F => k_asm
    case N => k_asm
    case P => repeat' (first | exact PreT.here | refine' PreT.cons ?_)
    case low => assumption
    case hi =>
      repeat' (first | exact List.forall_mem_nil _ | refine List.forall_mem_cons.mpr ⟨?_, ?_⟩)
      all_goals first
        | ((try dsimp only); omega)
        | (intro p' hp'; exact le_in (by assumption) hp' (by repeat (first | exact List.Mem.head _ | refine List.Mem.tail _ ?_)))
    case O =>
      refine ⟨_, _, _, rfl, (by repeat (first | exact List.Mem.head _ | refine List.Mem.tail _ ?_)), ?_⟩
      rw [un_1 (by assumption)]
      exact (.cons (.tuple (by repeat (first | exact List.Mem.head _ | refine List.Mem.tail _ ?_)) (.cons (.str _ _) (.cons (.tuple (by repeat (first | exact List.Mem.head _ | refine List.Mem.tail _ ?_)) .nil) .nil))) .nil)
  · refine' gives_fin hret ?F ?N ?P ?low ?hi ?O
    case F => k_asm
    case N => k_asm
    case P => repeat' (first | exact PreT.here | refine' PreT.cons ?_)
    case low => assumption
    case hi =>
      repeat' (first | exact List.forall_mem_nil _ | refine List.forall_mem_cons.mpr ⟨?_, ?_⟩)
      all_goals first
        | ((try dsimp only); omega)
        | (intro p' hp'; exact le_in (by assumption) hp' (by repeat (first | exact List.Mem.head _ | refine List.Mem.tail _ ?_)))
    case O =>
      refine ⟨_, _, _, rfl, (by repeat (first | exact List.Mem.head _ | refine List.Mem.tail _ ?_)), ?_⟩
      rw [un_2 (by assumption) (by assumption)]
      exact .nil
  · refine' gives_finU hret ?F ?N ?P ?low ?hi ?O
    case F => k_asm
    case N => k_asm
    case P => repeat' (first | exact PreU.here | refine' PreU.cons ?_)
    case low => assumption
    case hi =>
      repeat' (first | exact List.forall_mem_nil _ | refine List.forall_mem_cons.mpr ⟨?_, ?_⟩)
      all_goals first
        | ((try dsimp only); omega)
        | (intro p' hp'; exact le_in (by assumption) hp' (by repeat (first | exact List.Mem.head _ | refine List.Mem.tail _ ?_)))
    case O =>
      refine ⟨_, _, _, rfl, (by repeat (first | exact List.Mem.head _ | refine List.Mem.tail _ ?_)), ?_⟩
      rw [un_5 (by assumption) (by assumption) (by assumption) (any_f hm0 hm7 (by assumption)) (by assumption)]
      exact (.cons (.tuple (by repeat (first | exact List.Mem.head _ | refine List.Mem.tail _ ?_)) (.cons (.str _ _) (.cons (.tuple (by repeat (first | exact List.Mem.head _ | refine List.Mem.tail _ ?_)) (.cons (.tuple (by repeat (first | exact List.Mem.head _ | refine List.Mem.tail _ ?_)) (.cons (.str _ _) (.cons (.int _ _) .nil))) .nil)) .nil))) (.cons (dat_up (by assumption) (fun p hp => by repeat (first | exact hp | refine List.Mem.tail _ ?_))) (.cons (.tuple (by repeat (first | exact List.Mem.head _ | refine List.Mem.tail _ ?_)) (.cons (.str _ _) (.cons (.tuple (by repeat (first | exact List.Mem.head _ | refine List.Mem.tail _ ?_)) (.cons (.tuple (by repeat (first | exact List.Mem.head _ | refine List.Mem.tail _ ?_)) (.cons (.str _ _) (.cons (.int _ _) .nil))) .nil)) .nil))) .nil)))
  · refine' gives_finU hret ?F ?N ?P ?low ?hi ?O
    case F => k_asm
    case N => k_asm
    case P => repeat' (first | exact PreU.here | refine' PreU.cons ?_)
    case low => assumption
    case hi =>
      repeat' (first | exact List.forall_mem_nil _ | refine List.forall_mem_cons.mpr ⟨?_, ?_⟩)
      all_goals first
        | ((try dsimp only); omega)
        | (intro p' hp'; exact le_in (by assumption) hp' (by repeat (first | exact List.Mem.head _ | refine List.Mem.tail _ ?_)))
    case O =>
      refine ⟨_, _, _, rfl, (by repeat (first | exact List.Mem.head _ | refine List.Mem.tail _ ?_)), ?_⟩
      rw [un_6 (by assumption) (by assumption) (by assumption) (any_f hm0 hm7 (by assumption)) (by assumption)]
      exact (.cons (.tuple (by repeat (first | exact List.Mem.head _ | refine List.Mem.tail _ ?_)) (.cons (.str _ _) (.cons (.tuple (by repeat (first | exact List.Mem.head _ | refine List.Mem.tail _ ?_)) (.cons (.tuple (by repeat (first | exact List.Mem.head _ | refine List.Mem.tail _ ?_)) (.cons (.str _ _) (.cons (.int _ _) .nil))) .nil)) .nil))) (.cons (dat_up (by assumption) (fun p hp => by repeat (first | exact hp | refine List.Mem.tail _ ?_))) (.cons (.tuple (by repeat (first | exact List.Mem.head _ | refine List.Mem.tail _ ?_)) (.cons (.str _ _) (.cons (.tuple (by repeat (first | exact List.Mem.head _ | refine List.Mem.tail _ ?_)) (.cons (.tuple (by repeat (first | exact List.Mem.head _ | refine List.Mem.tail _ ?_)) (.cons (.str _ _) (.cons (.int _ _) .nil))) .nil)) .nil))) .nil)))
  · refine' gives_finU hret ?F ?N ?P ?low ?hi ?O
    case F => k_asm
    case N => k_asm
    case P => repeat' (first | exact PreU.here | refine' PreU.cons ?_)
    case low => assumption
    case hi =>
      repeat' (first | exact List.forall_mem_nil _ | refine List.forall_mem_cons.mpr ⟨?_, ?_⟩)
      all_goals first
        | ((try dsimp only); omega)
        | (intro p' hp'; exact le_in (by assumption) hp' (by repeat (first | exact List.Mem.head _ | refine List.Mem.tail _ ?_)))
    case O =>
      refine ⟨_, _, _, rfl, (by repeat (first | exact List.Mem.head _ | refine List.Mem.tail _ ?_)), ?_⟩
      rw [un_4 (by assumption) (by assumption) (by assumption) (any_t hm0 hm7 (by assumption))]
      exact (.cons (dat_up (by assumption) (fun p hp => by repeat (first | exact hp | refine List.Mem.tail _ ?_))) .nil)
  · refine' gives_finU hret ?F ?N ?P ?low ?hi ?O
    case F => k_asm
    case N => k_asm
    case P => repeat' (first | exact PreU.here | refine' PreU.cons ?_)
    case low => assumption
    case hi =>
      repeat' (first | exact List.forall_mem_nil _ | refine List.forall_mem_cons.mpr ⟨?_, ?_⟩)
      all_goals first
        | ((try dsimp only); omega)
        | (intro p' hp'; exact le_in (by assumption) hp' (by repeat (first | exact List.Mem.head _ | refine List.Mem.tail _ ?_)))
    case O =>
      refine ⟨_, _, _, rfl, (by repeat (first | exact List.Mem.head _ | refine List.Mem.tail _ ?_)), ?_⟩
      rw [un_3 (by assumption) (by assumption) (by assumption)]
      exact (.cons (dat_up (by assumption) (fun p hp => by repeat (first | exact hp | refine List.Mem.tail _ ?_))) .nil)
end
section
local macro_rules | `(tactic| walk_at "none 0") => `(tactic| fail)

theorem taker_fin {w : World} {s : Shared} {h₀ h' : Heap} {L f pl c cp cc D : Addr} {oc ocp occ : Obj} {vsc : Array Value} {tq tk : Tok} {qual : Str} {dc pm ct : Value} {vs : List Value} {cs : List Int} {nD np tk' : Nat} {m : Str → Option Value} {rest : List (Addr × Obj)} {Q : Value → Shared → Prop}
    (hret : ∀ f pl c cp cc D oc ocp occ vsc tq qual dc pm ct vs' cs' nD np tk news h' tk', Fr h₀ L h' m → News h₀ L h' ((pl, listOf [Value.int 0 tk].toArray np) :: news) → TakeIn w news f pl c cp cc D oc ocp occ vsc tq qual dc pm ct vs' cs' nD → (∀ q ∈ news, q.1 ≠ pl) → (∃ ps, (338, tabObj ps) ∈ news) → Q (.ref f) { s with heap := h', toks := tk' })
    (F : Fr h₀ L h' m) (N : News h₀ L h' ((f, fnMade (Str.ofString "take") qual (takeParts w.params).1.1 (takeParts w.params).1.2.1 (takeParts w.params).1.2.2 [(Str.ofString "place", cp), (Str.ofString "cells", cc)] dc pm c ct) :: (c, oc) :: (pl, listOf #[Value.int 0 tk] np) :: rest))
    (cod : oc.data = .fields vsc) (coq : vsc[1]? = some (.str qual tq)) (isI : IntsAre vs cs) (hD : (D, listOf vs.toArray nD) ∈ rest) (ne : cs ≠ []) (few : cs.length ≤ 63) (d1 : ocp.data = .cell (some (.ref pl))) (h1 : (cp, ocp) ∈ rest) (d2 : occ.data = .cell (some (.ref D))) (h2 : (cc, occ) ∈ rest)
    {ps9 : Array Value} (tab : (338, tabObj ps9) ∈ rest) (off : ∀ q ∈ rest, @Ne Nat q.1 pl) (of : @Ne Nat f pl) (oc' : @Ne Nat c pl) : Q (.ref f) { s with heap := h', toks := tk' } := by
  refine hret f pl c cp cc D oc ocp occ vsc tq qual dc pm ct vs cs nD np tk (_ :: _ :: rest) _ _ F (fun p hp => N p ?_) ⟨.head _, .tail _ (.head _), cod, coq, .tail _ (.tail _ h1), d1, .tail _ (.tail _ h2), d2, .tail _ (.tail _ hD), isI, ne, few⟩ ?_ ⟨_, .tail _ (.tail _ tab)⟩
  · rcases List.mem_cons.mp hp with e | hp
    · rw [e]; exact .tail _ (.tail _ (.head _))
    · rcases List.mem_cons.mp hp with e | hp
      · rw [e]; exact .head _
      · rcases List.mem_cons.mp hp with e | hp
        · rw [e]; exact .tail _ (.head _)
        · exact .tail _ (.tail _ (.tail _ hp))
  · intro q hq
    rcases List.mem_cons.mp hq with e | hq
    · rw [e]; exact of
    · rcases List.mem_cons.mp hq with e | hq
      · rw [e]; exact oc'
      · exact off q hq

set_option maxHeartbeats 2000000 in
theorem taker_ok (w : World) (sl : Addr) (vs : List Value) (cs : List Int) 
    (p : Program) (loose : List Str) (mean : ExcName → Option Value) (mg mb : Str → Option Value) (dp un : Nat) (gd : Option (List Code)) (cn : Str) (csc : Scope) (a : Addr) (ccd : Value) (cl : List (Str × Addr)) (outer : List Env) (A₀ : Around) (base h₀ : Heap) (L : Addr) (m : Str → Option Value) (s : Shared) (Q E : Value → Shared → Prop)
    (B : Below A₀ base outer h₀) (F : Fr h₀ L s.heap m) (X : (pre.heap_1_41 w.params).In h₀) (N : News h₀ L s.heap [(338, tabObj #[])]) (T : Top p loose mean mg mb h₀) (hkf : csc.kind = .function) (hdp : dp + 12 < recursionLimit) (hun : un + 160 < cLine)
    (codeHd : CodeHd h₀ 342 338) (l0 : @LT.lt Nat _ 338 L) (lifted : h₀.IsList sl vs.toArray) (hI : IntsAre vs cs) (hfew : cs.length ≤ 63)
    (hret : ∀ f pl c cp cc D oc ocp occ vsc tq qual dc pm ct vs' cs' nD np tk news h' tk', Fr h₀ L h' m → News h₀ L h' ((pl, listOf [Value.int 0 tk].toArray np) :: news) → TakeIn w news f pl c cp cc D oc ocp occ vsc tq qual dc pm ct vs' cs' nD → (∀ q ∈ news, q.1 ≠ pl) → (∃ ps, (338, tabObj ps) ∈ news) → Q (.ref f) { s with heap := h', toks := tk' }) :
    wpAny (model PySem.Challenge.rw_og0159_01.row.prog w) (ktrTop dp un gd cn csc L a ccd cl outer) (call (.ref 343) [.ref sl]) Q E s := by
  revert X
  k_fill
  intro X
  refine wpAny_call ?_
  with_unfolding_all cell_enter
  rename Fr h₀ L _ _ => FG9
  have lifted := lifted.at (fun o e => FG9.keep _ o e)
  have codeHd := codeHd.keeps FG9.keep
  k_steps
  · refine' taker_fin hret ?F ?N ?cod ?coq ?isI ?hD ?ne ?few ?d1 ?h1 ?d2 ?h2 ?tab ?off ?of ?oc
    case F => k_asm
    case N => k_asm
    case cod => assumption
    case coq => assumption
    case hD => (repeat (first | exact List.Mem.head _ | refine List.Mem.tail _ ?_))
    case isI => exact .cons 1 _ .nil
    case ne => exact List.cons_ne_nil _ _
    case few => exact Nat.le_of_ble_eq_true rfl
    case d1 => assumption
    case h1 => (repeat (first | exact List.Mem.head _ | refine List.Mem.tail _ ?_))
    case d2 => assumption
    case h2 => (repeat (first | exact List.Mem.head _ | refine List.Mem.tail _ ?_))
    case tab => (repeat (first | exact List.Mem.head _ | refine List.Mem.tail _ ?_))
    case off => (repeat' (first | exact List.forall_mem_nil _ | refine List.forall_mem_cons.mpr ⟨?_, ?_⟩)) <;> (try dsimp only) <;> omega
    case of => omega
    case oc => omega
  · refine' taker_fin hret ?F ?N ?cod ?coq ?isI ?hD ?ne ?few ?d1 ?h1 ?d2 ?h2 ?tab ?off ?of ?oc
    case F => k_asm
    case N => k_asm
    case cod => assumption
    case coq => assumption
    case isI => assumption
    case hD => (repeat (first | exact List.Mem.head _ | refine List.Mem.tail _ ?_))
    case ne => exact of_decide_eq_false (by assumption)
    case few => omega
    case d1 => assumption
    case h1 => (repeat (first | exact List.Mem.head _ | refine List.Mem.tail _ ?_))
    case d2 => assumption
    case h2 => (repeat (first | exact List.Mem.head _ | refine List.Mem.tail _ ?_))
    case tab => (repeat (first | exact List.Mem.head _ | refine List.Mem.tail _ ?_))
    case off => (repeat' (first | exact List.forall_mem_nil _ | refine List.forall_mem_cons.mpr ⟨?_, ?_⟩)) <;> (try dsimp only) <;> omega
    case of => omega
    case oc => omega
end
end
/-- what changes from turn to turn -/
structure Let where
  k : Int
  tk : Tok
  np : Nat
  bs : List Bool
  is : List Int
  va : List Value
  vb : List Value
  md : Int
  t1 : Tok
  t2 : Tok
  la : Addr
  n1 : Nat
  n2 : Nat
  n3 : Nat
  n4 : Nat
def bvs (bs : List Bool) : List Value := bs.map .bool
def okMode (m : Int) : Prop := 0 ≤ m ∧ m < 8
structure LetOk (i : Nat) (c : Let) : Prop where
  k0 : 0 ≤ c.k
  k1 : c.k ≤ 1 + 4 * (i : Int)
  bl : c.bs.length ≤ i
  il : c.is.length ≤ i
  ia : IntsAre c.va c.is
  ib : IntsAre c.vb c.is
  im : ∀ m ∈ c.is, okMode m
  md : okMode c.md
def letLed (pl sd ml ol lo sg : Addr) (h1 h2 h3 : Int) (k1 k2 k3 : Tok) (nd : Nat) (news : List (Addr × Obj)) (c : Let) : List (Addr × Obj) :=
  (lo, listOf c.vb.toArray c.n4) :: (c.la, listOf (bvs c.bs).toArray c.n3) :: (ol, listOf c.va.toArray c.n2) :: (ml, listOf (bvs c.bs).toArray c.n1) :: (sg, instObj 330 sd) ::
    (sd, dictOf [⟨h1, .str (Str.ofString "marks") k1, .ref ml⟩, ⟨h2, .str (Str.ofString "modes") k2, .ref ol⟩, ⟨h3, .str (Str.ofString "mode") k3, .int c.md c.t1⟩] nd) :: (pl, listOf #[Value.int c.k c.tk] c.np) :: news
def letPs (c : Let) : List (Str × Value) := [(Str.ofString "marks", .ref c.la), (Str.ofString "mode", .int c.md c.t2)]
def letSt : List Str := [Str.ofString "operation", Str.ofString "is_seen", Str.ofString "before", Str.ofString "given"]
/-- the addresses that stay are apart, and the moving one is apart from them -/
structure Apart (pl sd ml ol lo sg : Addr) (news : List (Addr × Obj)) : Prop where
  o1 : @LT.lt Nat _ pl sd
  o2 : @LT.lt Nat _ sd sg
  o3 : @LT.lt Nat _ sg ml
  o4 : @LT.lt Nat _ ml ol
  o6 : @LT.lt Nat _ ol lo
  off : ∀ q ∈ news, q.1 ≠ pl ∧ @LT.lt Nat _ q.1 sd
structure ApartL (pl sd ml ol lo sg : Addr) (news : List (Addr × Obj)) (la : Addr) : Prop where
  a1 : @LT.lt Nat _ ol la
  a2 : @Ne Nat la lo
section
variable {prog : Program} {w : World} {A : Around} {E : Value → Shared → Prop} {s : Shared} {env : Env} {h₀ : Heap} {x : Str} {body : List Stmt} {Q : Flow → Shared → Prop}
theorem law_rng {r : Addr} {b₀ : Int} {t₀ u₀ v₀ : Tok} {m₀ : Str → Option Value} {pl sd ml ol lo la sg : Addr} {T : Addr × Obj} {h1 h2 h3 : Int} {k1 k2 k3 tk t1 t2 : Tok} {np nd n1 n2 n3 n4 : Nat} {news : List (Addr × Obj)} {k : Int}
    (hh : A.handled = none) (hr : IsRange s.heap r 0 b₀ 1 t₀ u₀ v₀) (hb0 : 0 ≤ b₀) (hb1 : b₀ < 21) (F : Fr h₀ env.locals s.heap m₀)
    (N : News h₀ env.locals s.heap (T :: (lo, listOf #[] n4) :: (la, listOf #[] n3) :: (ol, listOf #[] n2) :: (ml, listOf #[] n1) :: (sg, instObj 330 sd) ::
      (sd, dictOf [⟨h1, .str (Str.ofString "marks") k1, .ref ml⟩, ⟨h2, .str (Str.ofString "modes") k2, .ref ol⟩, ⟨h3, .str (Str.ofString "mode") k3, .int 0 t1⟩] nd) :: (pl, listOf #[Value.int k tk] np) :: news))
    (hk0 : 0 ≤ k) (hk1 : k ≤ 1) (ap : Apart pl sd ml ol lo sg news) (apl : ApartL pl sd ml ol lo sg news la) (hm1 : m₀ (Str.ofString "marks") = some (.ref la)) (hm2 : m₀ (Str.ofString "mode") = some (.int 0 t2))
    (turn : ∀ (i : Nat) (c : Let) (kk : Int) t (u : Str → Option Value) h tk own, i < 21 → (∀ p ∈ letLed pl sd ml ol lo sg h1 h2 h3 k1 k2 k3 nd news c, ∀ q ∈ own, p.1 ≠ q.1) → LetOk i c → ApartL pl sd ml ol lo sg news c.la →
      Fr h₀ env.locals h (fun y => if y = x then some (.int kk t) else kstB (fun z => if letSt.contains z then u z else m₀ z) (letPs c) y) → News h₀ env.locals h (letLed pl sd ml ol lo sg h1 h2 h3 k1 k2 k3 nd news c ++ own) →
      wpAny (model prog w) A (execs body env) (PostM h₀ env.locals (KstS (letLed pl sd ml ol lo sg h1 h2 h3 k1 k2 k3 nd news) letPs (fun _ => True) x letSt m₀ (fun _ c => LetOk (i + 1) c ∧ ApartL pl sd ml ol lo sg news c.la) []) own { s with heap := h, toks := tk } Q) E { s with heap := h, toks := tk })
    (done : ∀ (c : Let) (u : Str → Option Value) h tk, Fr h₀ env.locals h (fun y => if y = x then u y else kstB (fun z => if letSt.contains z then u z else m₀ z) (letPs c) y) → News h₀ env.locals h (letLed pl sd ml ol lo sg h1 h2 h3 k1 k2 k3 nd news c) → Q .next { s with heap := h, toks := tk }) :
    wpAny (model prog w) A (pyIter (.ref r)) (fun it s₂ => LoopAtV prog w A h₀ env x body Q E it s₂) E s := by
  refine rng_loop (n := b₀.toNat) (letLed pl sd ml ol lo sg h1 h2 h3 k1 k2 k3 nd news) letPs letSt (fun i c => LetOk i c ∧ ApartL pl sd ml ol lo sg news c.la) ⟨k, tk, np, [], [], [], [], 0, t1, t2, la, n1, n2, n3, n4⟩ hh hr ?_ ?_ F (fun p hp => N p (.tail _ hp)) ?_ ⟨⟨hk0, by simpa using hk1, Nat.le_refl _, Nat.le_refl _, .nil, .nil, (fun _ h => nomatch h), ⟨Int.le_refl 0, (by decide : (0:Int) < 8)⟩⟩, apl⟩ ?_ ?_
  · have f : ∀ z : Int, 0 ≤ z → z < 100 → Builtin.Range.rangeFitsLong z = true := fun z a b => by
      unfold Builtin.Range.rangeFitsLong
      simp
      omega
    unfold Builtin.Range.small
    rw [rangeSize_nat]
    simp [f b₀ hb0 (by omega), f 0 (by omega) (by omega), f 1 (by omega) (by omega), f (b₀.toNat : Int) (by omega) (by omega)]
    exact f _ (by omega) (by omega)
  · rw [rangeSize_nat, Int.sub_zero]
  · intro p hp
    simp only [letPs, List.mem_cons, List.not_mem_nil, or_false] at hp
    rcases hp with rfl | rfl
    · exact hm1
    · exact hm2
  · rintro i c kk t u h tk own hi sep ⟨ok, al⟩ F' N'
    exact turn i c kk t u h tk own (by omega) sep ok al F' N'
  · rintro c u h tk _ F' N'
    exact done c u h tk F' N'
end
section
local macro_rules | `(tactic| k_room) => `(tactic| ((try simp only [depth_under_make, depth_under_kw, depth_in1, depth_deeper, depth_caller, ktrTop]); omega))
local macro_rules | `(tactic| k_units) => `(tactic| ((try simp only [units_in1, units_deeper, units_caller, ktrTop]); omega))
local macro_rules | `(tactic| cell_enter) => `(tactic| (refine' code_defC ?k1 ?k2 ?k3 ?k4 ?k5 ?kA ?kF ?kK ?k6 ?k7 ?k8 ?k9 ?kB ?kD ?_ ?c2 ?c3 ?c4; (case kA => exact rfl); (case kF => exact rfl); (case kK => assumption); (case k1 => k_asm); (case k2 => k_asm); (case k3 => k_asm); (case k4 => k_asm); (case k5 => k_asm); (case k6 => k_is); (case k7 => k_is); (case k8 => k_room); (case k9 => exact BindsTo.of_eq rfl); (case kB => exact rfl); (case kD => decide +kernel); (case c2 => exact rfl); (case c3 => exact rfl); (case c4 => exact rfl); k_whole; intro g' L' h' tk' cells' FG' F' N' Y' B' X' T' l1; (try k_lt l1); k_cells Y'; (try simp only [List.cons_append, List.nil_append] at N'); (try dsimp only); (try k_lift B'); (try k_fold)))
local macro_rules | `(tactic| k_mem) => `(tactic| (refine memOf ?_; assumption))
local macro_rules | `(tactic| k_all) => `(tactic| assumption)
local macro_rules | `(tactic| walk_at "eval Name") => `(tactic| (k_here; k_dflt (refine' nameX_L ?F ?hv ?_ ?a ?b; (case a => rfl); (case b => rfl); (case F => k_asm); (case hv => assumption); k_whole)))
section

structure Mid where
  k : Int
  tk : Tok
  np : Nat
  sb : List Bool
  si : List Int
  sv : List Value
  sm : Int
  t1 : Tok
  lb : List Bool
  li : List Int
  lv : List Value
  lm : Int
  t2 : Tok
  la : Addr
  n1 : Nat
  n2 : Nat
  n3 : Nat
  n4 : Nat
structure Fix where
  pl : Addr
  sd : Addr
  ml : Addr
  ol : Addr
  lo : Addr
  sg : Addr
  h1 : Int
  h2 : Int
  h3 : Int
  k1 : Tok
  k2 : Tok
  k3 : Tok

@[reducible] def sdObj (f : Fix) (m : Int) (t : Tok) : Obj := dictOf [⟨f.h1, .str (Str.ofString "marks") f.k1, .ref f.ml⟩, ⟨f.h2, .str (Str.ofString "modes") f.k2, .ref f.ol⟩, ⟨f.h3, .str (Str.ofString "mode") f.k3, .int m t⟩] 3

structure Opn where
  op : Addr
  d : Addr
  l : Addr
  x : Str
  os : List Opd
  seen : Option Bool
  vs : List Value
  h1 : Int
  h2 : Int
  k1 : Tok
  k2 : Tok
  t : Tok
  n : Nat
  n' : Nat
  bf : Value
structure Sta (w : World) (h₀ : Heap) (L : Addr) (m₀ : Str → Option Value) (f : Fix) (ba : List (Addr × Obj)) (o : Opn) (c : Mid) (m : Str → Option Value) (h : Heap) (R : List (Addr × Obj)) : Prop where
  F : Fr h₀ L h m
  N : News h₀ L h ((f.lo, listOf c.lv.toArray c.n4) :: (c.la, listOf (bvs c.lb).toArray c.n3) :: (f.ol, listOf c.sv.toArray c.n2) :: (f.ml, listOf (bvs c.sb).toArray c.n1) :: (f.sg, instObj 330 f.sd) :: (f.sd, sdObj f c.sm c.t1) :: R)
  off : ∀ q ∈ R, q.1 ≠ f.lo ∧ q.1 ≠ c.la ∧ q.1 ≠ f.ol ∧ q.1 ≠ f.ml ∧ q.1 ≠ f.sg ∧ q.1 ≠ f.sd
  ap : @LT.lt Nat _ f.sd f.sg ∧ @LT.lt Nat _ f.sg f.ml ∧ @LT.lt Nat _ f.ml f.ol ∧ @LT.lt Nat _ f.ol f.lo ∧ @LT.lt Nat _ f.ol c.la ∧ @Ne Nat c.la f.lo
  sub : ∀ p ∈ ba, p ∈ R
  mm : m (Str.ofString "marks") = some (.ref c.la)
  mo : m (Str.ofString "mode") = some (.int c.lm c.t2)
  mz : ∀ z, z ≠ Str.ofString "turn" → z ≠ Str.ofString "marks" → z ≠ Str.ofString "mode" → letSt.contains z = false → m z = m₀ z
  mp : m (Str.ofString "operation") = some (.ref o.op)
  md : m (Str.ofString "modes") = some (.ref f.lo)
  mg : m (Str.ofString "sight") = some (.ref f.sg)
  ms : m (Str.ofString "is_seen") = some (seenV o.seen)
  mb : m (Str.ofString "before") = some o.bf
  opn : OpIn PySem.Challenge.rw_og0159_01.row.prog w R o.op o.x o.os o.d o.l o.vs o.h1 o.h2 o.k1 o.k2 o.t o.n o.n'
  bef : DatIn R o.bf (opTold o.x o.os)
  ia : IntsAre c.sv c.si
  ib : IntsAre c.lv c.li

theorem pick_init (vs : List Value) : slicePick vs.toArray none (some (-1)) none = vs.dropLast.toArray := by
  have e : sliceBounds none (some (-1)) none vs.toArray.size = (((0 : Nat) : Int), ((vs.toArray.size - 1 : Nat) : Int), 1) := by
    simp only [sliceBounds, Option.getD_none, show (1 : Int) > 0 by decide, if_true, if_pos (show (-1 : Int) < 0 by decide)]
    congr 1
    congr 1
    omega
  rw [kmk_pick_nat _ e]
  simp [List.dropLast_eq_take]
theorem bvs_init (bs : List Bool) : (bvs bs).dropLast = bvs bs.dropLast := (List.map_dropLast).symm
theorem bvs_len (bs : List Bool) : (bvs bs).length = bs.length := List.length_map _
theorem bvs_add (bs : List Bool) (b : Bool) : bvs bs ++ [.bool b] = bvs (bs ++ [b]) := by simp [bvs]
section
variable {prog : Program} {w : World} {A : Around} {E : Value → Shared → Prop} {s : Shared} {h₀ : Heap} {L l : Addr} {m : Str → Option Value} {news : List (Addr × Obj)} {bs : List Bool} {vl vu : Value} {Q : Value → Shared → Prop} {value slice : Expr}
theorem mk_init (F : Fr h₀ L s.heap m) (N : News h₀ L s.heap news) (hl : s.heap.IsList l (bvs bs).toArray) (pl : IsPart vl none) (pu : IsPart vu (some (-1)))
    (h : ∀ D h', Fr h₀ L h' m → News h₀ L h' ((D, listOf (bvs bs.dropLast).toArray 0) :: news) → (∀ p ∈ news, p.1 < D) → Q (.ref D) { s with heap := h' })
    (hs : subscripted slice false (.ref l) (.ref s.heap.objs.size) = operate [.ref s.heap.objs.size, .ref l] (getItem (.ref l) (.ref s.heap.objs.size))) (ht : ∀ r, letTemporaryGo value (.ref l) r = pure ()) (hz : bs.length ≤ sizeLine) :
    wpAny (model prog w) A (subscriptTail value slice (.ref l) (.ref s.heap.objs.size)) Q E { s with heap := s.heap.push { cls := .type "slice", data := .fields #[vl, vu, .none] } } := by
  refine kmk_slice F N hl pl pu (fun D h' F' N' l1 => h D h' F' ?_ l1) hs ht (by rw [List.size_toArray, bvs_len]; exact hz)
  rw [pick_init, bvs_init] at N'
  exact N'
end
section
variable {w : World} {h₀ : Heap} {L : Addr} {m₀ : Str → Option Value} {f : Fix} {ba : List (Addr × Obj)} {o : Opn} {c : Mid} {m : Str → Option Value} {h : Heap} {R : List (Addr × Obj)}
theorem Sta.rebind (S : Sta w h₀ L m₀ f ba o c m h R) {D : Addr} {h' : Heap} {bs : List Bool} {n : Nat} (F : Fr h₀ L h' (fun y => if y = Str.ofString "marks" then some (.ref D) else m y))
    (N : News h₀ L h' ((D, listOf (bvs bs).toArray n) :: (f.lo, listOf c.lv.toArray c.n4) :: (c.la, listOf (bvs c.lb).toArray c.n3) :: (f.ol, listOf c.sv.toArray c.n2) :: (f.ml, listOf (bvs c.sb).toArray c.n1) :: (f.sg, instObj 330 f.sd) :: (f.sd, sdObj f c.sm c.t1) :: R))
    (l : @LT.lt Nat _ f.lo D ∧ @LT.lt Nat _ c.la D ∧ @LT.lt Nat _ f.ol D ∧ @LT.lt Nat _ f.ml D ∧ @LT.lt Nat _ f.sg D ∧ @LT.lt Nat _ f.sd D ∧ AllLt D R) : Sta w h₀ L m₀ f ba o { c with la := D, lb := bs, n3 := n } (fun y => if y = Str.ofString "marks" then some (.ref D) else m y) h' R := by
  obtain ⟨l1, l2, l3, l4, l5, l6, l7⟩ := l
  exact { S with
    F := F
    N := fun p hp => N p (by
      simp only [List.mem_cons] at hp ⊢
      rcases hp with h | h | h | h | h | h | h <;> simp [h])
    off := fun q hq => ⟨(S.off q hq).1, Nat.ne_of_lt (kst_ltOf l7 q hq), (S.off q hq).2.2⟩
    ap := ⟨S.ap.1, S.ap.2.1, S.ap.2.2.1, S.ap.2.2.2.1, l3, (Nat.ne_of_lt l1).symm⟩
    mm := if_pos rfl
    mo := (if_neg (by decide)).trans S.mo
    mz := fun z h1 h2 h3 h4 => (if_neg h2).trans (S.mz z h1 h2 h3 h4)
    mp := (if_neg (by decide)).trans S.mp
    md := (if_neg (by decide)).trans S.md
    mg := (if_neg (by decide)).trans S.mg
    ms := (if_neg (by decide)).trans S.ms
    mb := (if_neg (by decide)).trans S.mb }
theorem Sta.setMode (S : Sta w h₀ L m₀ f ba o c m h R) {h' : Heap} {i : Int} {t : Tok} {li : List Int} {lv : List Value} {n4 : Nat} (hi : IntsAre lv li) (F : Fr h₀ L h' (fun y => if y = Str.ofString "mode" then some (.int i t) else m y))
    (N : News h₀ L h' ((f.lo, listOf lv.toArray n4) :: (c.la, listOf (bvs c.lb).toArray c.n3) :: (f.ol, listOf c.sv.toArray c.n2) :: (f.ml, listOf (bvs c.sb).toArray c.n1) :: (f.sg, instObj 330 f.sd) :: (f.sd, sdObj f c.sm c.t1) :: R)) :
    Sta w h₀ L m₀ f ba o { c with lm := i, t2 := t, li := li, lv := lv, n4 := n4 } (fun y => if y = Str.ofString "mode" then some (.int i t) else m y) h' R := 
  { S with
    F := F
    N := N
    ib := hi
    mo := if_pos rfl
    mm := (if_neg (by decide)).trans S.mm
    mz := fun z h1 h2 h3 h4 => (if_neg h3).trans (S.mz z h1 h2 h3 h4)
    mp := (if_neg (by decide)).trans S.mp
    md := (if_neg (by decide)).trans S.md
    mg := (if_neg (by decide)).trans S.mg
    ms := (if_neg (by decide)).trans S.ms
    mb := (if_neg (by decide)).trans S.mb }
theorem Sta.given (S : Sta w h₀ L m₀ f ba o c m h R) {h' : Heap} {v : Value} (F : Fr h₀ L h' (fun y => if y = Str.ofString "given" then some v else m y))
    (N : News h₀ L h' ((f.lo, listOf c.lv.toArray c.n4) :: (c.la, listOf (bvs c.lb).toArray c.n3) :: (f.ol, listOf c.sv.toArray c.n2) :: (f.ml, listOf (bvs c.sb).toArray c.n1) :: (f.sg, instObj 330 f.sd) :: (f.sd, sdObj f c.sm c.t1) :: R)) :
    Sta w h₀ L m₀ f ba o c (fun y => if y = Str.ofString "given" then some v else m y) h' R := 
  { S with
    F := F
    N := N
    mo := (if_neg (by decide)).trans S.mo
    mm := (if_neg (by decide)).trans S.mm
    mz := fun z h1 h2 h3 h4 => (if_neg (fun e => by rw [e] at h4; revert h4; decide)).trans (S.mz z h1 h2 h3 h4)
    mp := (if_neg (by decide)).trans S.mp
    md := (if_neg (by decide)).trans S.md
    mg := (if_neg (by decide)).trans S.mg
    ms := (if_neg (by decide)).trans S.ms
    mb := (if_neg (by decide)).trans S.mb }
theorem ints_dat {news : List (Addr × Obj)} {vs : List Value} {ns : List Int} (h : IntsAre vs ns) : DatAll news vs (ns.map .int) := by
  induction h with
  | nil => exact .nil
  | cons n t _ ih => exact .cons (.int n t) ih
theorem bvs_dat {news : List (Addr × Obj)} (bs : List Bool) : DatAll news (bvs bs) (bs.map .bool) := by
  induction bs with
  | nil => exact .nil
  | cons b bs ih => exact .cons (.bool b) ih
theorem dOk_ints (ns : List Int) : dOk 9 (.list (ns.map .int)) = true := by simp [dOk]
theorem dOk_bools (bs : List Bool) : dOk 9 (.list (bs.map .bool)) = true := by simp [dOk]
end
local macro_rules | `(tactic| walk_at "subscriptTail Name Slice ref ref") => `(tactic| (k_here; k_dflt (refine' mk_init ?F ?N ?l ?p ?q ?_ ?s ?t ?z; (case F => k_asm); (case N => k_asm); (case l => exact News.isList (by k_asm) (by k_mem)); (case p => exact IsPart.none); (case q => exact IsPart.int _ _); (case s => with_unfolding_all rfl); (case t => kmk_pure); (case z => (rw [sizeLine_eq]; omega))); intro D' h' F' N' l1; (try k_lt l1)))

set_option maxHeartbeats 2000000 in
theorem s5_ok {w : World} {h₀ : Heap} {L : Addr} {m₀ : Str → Option Value} {f : Fix} {ba : List (Addr × Obj)} {o : Opn} {c : Mid} {m : Str → Option Value} {R : List (Addr × Obj)} 
    {p : Program} {loose : List Str} {mean : ExcName → Option Value} {mg mb : Str → Option Value} {dp un : Nat} {gd : Option (List Code)} {a : Addr} {ccd : Value} {outer : List Env} {A₀ : Around} {base : Heap} {s : Shared} {Q : Flow → Shared → Prop} {E : Value → Shared → Prop}
    (B : Below A₀ base outer h₀) (X : (pre.heap_1_41 w.params).In h₀) (T : Top p loose mean mg mb h₀) (hdp : dp + 40 < recursionLimit) (hun : un + 500 < cLine) (S : Sta w h₀ L m₀ f ba o c m s.heap R) (hl : c.lb.length ≤ 60)
    (hQ : ∀ la' lb' n3' m' h' tk', lb' = (if (o.x == Str.ofString "EMC") = true then c.lb.dropLast else c.lb) → Sta w h₀ L m₀ f ba o { c with la := la', n3 := n3', lb := lb' } m' h' R → Q .next { s with heap := h', toks := tk' }) :
    wpAny (model PySem.Challenge.rw_og0159_01.row.prog w) (ktrTop dp un gd (Str.ofString "law") tp.1.sc L a ccd [] outer) (exec tp.1.s5 (envOf (Str.ofString "law") tp.1.sc L a ccd)) Q E s := by
  revert X
  k_fill
  intro X
  have ⟨F, N, off, ⟨p1, p2, p3, p4, p5, p6⟩, sub, mm, mo, mz, mp, md, mg9, ms, mb, opn, bef, ia, ib⟩ := id S
  obtain ⟨pl, sd, ml, ol, lo, sg, fh1, fh2, fh3, fk1, fk2, fk3⟩ := f
  obtain ⟨k, tk, np, sb, si, sv, sm, t1, lb, li, lv, lm, t2, la, n1, n2, n3, n4⟩ := c
  obtain ⟨op, d, l, x, os, seen, vs, h1, h2, k1, k2, t, n, n', bf⟩ := o
  dsimp only at *
  have o1 : ∀ q ∈ R, q.1 ≠ lo := fun q hq => (off q hq).1
  have o2 : ∀ q ∈ R, q.1 ≠ la := fun q hq => (off q hq).2.1
  have o3 : ∀ q ∈ R, q.1 ≠ ol := fun q hq => (off q hq).2.2.1
  have o4 : ∀ q ∈ R, q.1 ≠ ml := fun q hq => (off q hq).2.2.2.1
  have o5 : ∀ q ∈ R, q.1 ≠ sg := fun q hq => (off q hq).2.2.2.2.1
  have o6 : ∀ q ∈ R, q.1 ≠ sd := fun q hq => (off q hq).2.2.2.2.2
  have hm1 := opn.obj
  have hm2 := opn.dict
  have hm3 := opn.lst
  have hlen := opn.all.length
  have hfew := opn.few
  try dsimp only [tp]
  k_steps
  · exact hQ _ _ _ _ _ _ (if_pos (by assumption)).symm (S.rebind (by k_asm) (by k_asm) (by assumption))
  · exact hQ _ _ _ _ _ _ (if_neg (ne_true_of_eq_false (by assumption))).symm { S with F := by k_asm, N := by k_asm }
end
section

theorem n_tail {h₀ h : Heap} {L : Addr} {e : Addr × Obj} {l : List (Addr × Obj)} (N : News h₀ L h (e :: l)) : News h₀ L h l := fun p hp => N p (.tail _ hp)
theorem ne_pos {vs : List Value} {ns : List Int} (h : IntsAre vs ns) (e : (List.map Dat.int ns).isEmpty = false) : 0 < vs.length := by
  rw [h.length]; cases ns with
  | nil => simp at e
  | cons _ _ => simp
local macro_rules | `(tactic| walk_at "compareOp NotEq ref ref") => `(tactic| (k_here; k_dflt (refine' ne_nil (by k_asm) (DatIn.list (by k_mem) (ints_dat (by assumption))) (fun _ hp => hp) (DatIn.list (by k_mem) .nil) (fun _ hp => hp) (dOk_ints _) ?u ?_; (case u => k_units); k_whole)))
local macro_rules | `(tactic| walk_at "call builtin:list.pop") => `(tactic| (k_here; (with_reducible show wpAny _ _ (call (Value.builtin _) [Value.ref _]) _ _ _); k_dflt (refine' kpa_pop ?F ?N ?U ?i ?l ?z ?_; (case F => k_asm); (case N => k_asm); (case U => k_upd); (case i => assumption); (case l => exact ne_pos (by assumption) (by assumption)); (case z => (rw [sizeLine_eq]; omega))); (intro h' t' F' N' hI'; (try dsimp only [List.nil_append, List.cons_append] at N'))))

set_option maxHeartbeats 2000000 in
theorem s6_ok {w : World} {h₀ : Heap} {L : Addr} {m₀ : Str → Option Value} {f : Fix} {ba : List (Addr × Obj)} {o : Opn} {c : Mid} {m : Str → Option Value} {R : List (Addr × Obj)} 
    {p : Program} {loose : List Str} {mean : ExcName → Option Value} {mg mb : Str → Option Value} {dp un : Nat} {gd : Option (List Code)} {a : Addr} {ccd : Value} {outer : List Env} {A₀ : Around} {base : Heap} {s : Shared} {Q : Flow → Shared → Prop} {E : Value → Shared → Prop}
    (B : Below A₀ base outer h₀) (X : (pre.heap_1_41 w.params).In h₀) (T : Top p loose mean mg mb h₀) (hdp : dp + 40 < recursionLimit) (hun : un + 500 < cLine) (S : Sta w h₀ L m₀ f ba o c m s.heap R) (hl : c.lv.length ≤ 60)
    (hQ : ∀ li' lv' n4' h' tk', li' = (if (o.x == Str.ofString "q") = true then c.li ++ [c.lm] else c.li) → Sta w h₀ L m₀ f ba o { c with li := li', lv := lv', n4 := n4' } m h' R → Q .next { s with heap := h', toks := tk' }) :
    wpAny (model PySem.Challenge.rw_og0159_01.row.prog w) (ktrTop dp un gd (Str.ofString "law") tp.1.sc L a ccd [] outer) (exec tp.1.s6 (envOf (Str.ofString "law") tp.1.sc L a ccd)) Q E s := by
  revert X
  k_fill
  intro X
  have ⟨F, N, off, ⟨p1, p2, p3, p4, p5, p6⟩, sub, mm, mo, mz, mp, md, mg9, ms, mb, opn, bef, ia, ib⟩ := id S
  obtain ⟨pl, sd, ml, ol, lo, sg, fh1, fh2, fh3, fk1, fk2, fk3⟩ := f
  obtain ⟨k, tk, np, sb, si, sv, sm, t1, lb, li, lv, lm, t2, la, n1, n2, n3, n4⟩ := c
  obtain ⟨op, d, l, x, os, seen, vs, h1, h2, k1, k2, t, n, n', bf⟩ := o
  dsimp only at *
  have o1 : ∀ q ∈ R, q.1 ≠ lo := fun q hq => (off q hq).1
  have o2 : ∀ q ∈ R, q.1 ≠ la := fun q hq => (off q hq).2.1
  have o3 : ∀ q ∈ R, q.1 ≠ ol := fun q hq => (off q hq).2.2.1
  have o4 : ∀ q ∈ R, q.1 ≠ ml := fun q hq => (off q hq).2.2.2.1
  have o5 : ∀ q ∈ R, q.1 ≠ sg := fun q hq => (off q hq).2.2.2.2.1
  have o6 : ∀ q ∈ R, q.1 ≠ sd := fun q hq => (off q hq).2.2.2.2.2
  have hm1 := opn.obj
  have hm2 := opn.dict
  have hm3 := opn.lst
  have hlen := opn.all.length
  have hfew := opn.few
  try dsimp only [tp]
  k_steps
  · rename News h₀ L _ _ => N9
    rw [List.push_toArray] at N9
    exact hQ _ _ _ _ _ (if_pos (by assumption)).symm { S with F := by k_asm, N := N9, ib := ib.append (.cons _ _ .nil) }
  · exact hQ _ _ _ _ _ (if_neg (ne_true_of_eq_false (by assumption))).symm { S with F := by k_asm, N := by k_asm }

set_option maxHeartbeats 2000000 in
theorem s7_ok {w : World} {h₀ : Heap} {L : Addr} {m₀ : Str → Option Value} {f : Fix} {ba : List (Addr × Obj)} {o : Opn} {c : Mid} {m : Str → Option Value} {R : List (Addr × Obj)} 
    {p : Program} {loose : List Str} {mean : ExcName → Option Value} {mg mb : Str → Option Value} {dp un : Nat} {gd : Option (List Code)} {a : Addr} {ccd : Value} {outer : List Env} {A₀ : Around} {base : Heap} {s : Shared} {Q : Flow → Shared → Prop} {E : Value → Shared → Prop}
    (B : Below A₀ base outer h₀) (X : (pre.heap_1_41 w.params).In h₀) (T : Top p loose mean mg mb h₀) (hdp : dp + 40 < recursionLimit) (hun : un + 500 < cLine) (S : Sta w h₀ L m₀ f ba o c m s.heap R) (hl : c.lv.length ≤ 60)
    (hQ : ∀ li' lv' n4' lm' t2' m' h' tk', li' = (if (o.x == Str.ofString "Q") = true then c.li.dropLast else c.li) → lm' = (if (o.x == Str.ofString "Q") = true ∧ c.li ≠ [] then c.li.getLastD 0 else c.lm) → Sta w h₀ L m₀ f ba o { c with li := li', lv := lv', n4 := n4', lm := lm', t2 := t2' } m' h' R → Q .next { s with heap := h', toks := tk' }) :
    wpAny (model PySem.Challenge.rw_og0159_01.row.prog w) (ktrTop dp un gd (Str.ofString "law") tp.1.sc L a ccd [] outer) (exec tp.1.s7 (envOf (Str.ofString "law") tp.1.sc L a ccd)) Q E s := by
  revert X
  k_fill
  intro X
  have ⟨F, N, off, ⟨p1, p2, p3, p4, p5, p6⟩, sub, mm, mo, mz, mp, md, mg9, ms, mb, opn, bef, ia, ib⟩ := id S
  obtain ⟨pl, sd, ml, ol, lo, sg, fh1, fh2, fh3, fk1, fk2, fk3⟩ := f
  obtain ⟨k, tk, np, sb, si, sv, sm, t1, lb, li, lv, lm, t2, la, n1, n2, n3, n4⟩ := c
  obtain ⟨op, d, l, x, os, seen, vs, h1, h2, k1, k2, t, n, n', bf⟩ := o
  dsimp only at *
  have o1 : ∀ q ∈ R, q.1 ≠ lo := fun q hq => (off q hq).1
  have o2 : ∀ q ∈ R, q.1 ≠ la := fun q hq => (off q hq).2.1
  have o3 : ∀ q ∈ R, q.1 ≠ ol := fun q hq => (off q hq).2.2.1
  have o4 : ∀ q ∈ R, q.1 ≠ ml := fun q hq => (off q hq).2.2.2.1
  have o5 : ∀ q ∈ R, q.1 ≠ sg := fun q hq => (off q hq).2.2.2.2.1
  have o6 : ∀ q ∈ R, q.1 ≠ sd := fun q hq => (off q hq).2.2.2.2.2
  have hm1 := opn.obj
  have hm2 := opn.dict
  have hm3 := opn.lst
  have hlen := opn.all.length
  have hfew := opn.few
  try dsimp only [tp]
  k_steps
  · rename (List.map Dat.int li).isEmpty = true => e9
    have e8 : li = [] := by cases li with
      | nil => rfl
      | cons _ _ => simp at e9
    exact hQ _ _ _ _ _ _ _ _ (by simp [e8]) (by simp [e8]) { S with F := by k_asm, N := n_tail (by k_asm) }
  · rename (List.map Dat.int li).isEmpty = false => e9
    have e8 : li ≠ [] := by rintro rfl; simp at e9
    rename (x == Str.ofString "Q") = true => e7
    exact hQ _ _ _ _ _ _ _ _ (if_pos e7).symm (if_pos ⟨e7, e8⟩).symm (S.setMode (by assumption) (by k_asm) (n_tail (by k_asm)))
  · rename (x == Str.ofString "Q") = false => e7
    exact hQ _ _ _ _ _ _ _ _ (if_neg (ne_true_of_eq_false e7)).symm (if_neg (fun h => ne_true_of_eq_false e7 h.1)).symm { S with F := by k_asm, N := by k_asm }

set_option maxHeartbeats 2000000 in
theorem s8_ok {w : World} {h₀ : Heap} {L : Addr} {m₀ : Str → Option Value} {f : Fix} {ba : List (Addr × Obj)} {o : Opn} {c : Mid} {m : Str → Option Value} {R : List (Addr × Obj)} 
    {p : Program} {loose : List Str} {mean : ExcName → Option Value} {mg mb : Str → Option Value} {dp un : Nat} {gd : Option (List Code)} {a : Addr} {ccd : Value} {outer : List Env} {A₀ : Around} {base : Heap} {s : Shared} {Q : Flow → Shared → Prop} {E : Value → Shared → Prop}
    (B : Below A₀ base outer h₀) (X : (pre.heap_1_41 w.params).In h₀) (T : Top p loose mean mg mb h₀) (hdp : dp + 40 < recursionLimit) (hun : un + 500 < cLine) (S : Sta w h₀ L m₀ f ba o c m s.heap R)
    (hQ : ∀ m' h' tk', m' (Str.ofString "given") = some (.ref o.l) → Sta w h₀ L m₀ f ba o c m' h' R → Q .next { s with heap := h', toks := tk' }) :
    wpAny (model PySem.Challenge.rw_og0159_01.row.prog w) (ktrTop dp un gd (Str.ofString "law") tp.1.sc L a ccd [] outer) (exec tp.1.s8 (envOf (Str.ofString "law") tp.1.sc L a ccd)) Q E s := by
  revert X
  k_fill
  intro X
  have ⟨F, N, off, ⟨p1, p2, p3, p4, p5, p6⟩, sub, mm, mo, mz, mp, md, mg9, ms, mb, opn, bef, ia, ib⟩ := id S
  obtain ⟨pl, sd, ml, ol, lo, sg, fh1, fh2, fh3, fk1, fk2, fk3⟩ := f
  obtain ⟨k, tk, np, sb, si, sv, sm, t1, lb, li, lv, lm, t2, la, n1, n2, n3, n4⟩ := c
  obtain ⟨op, d, l, x, os, seen, vs, h1, h2, k1, k2, t, n, n', bf⟩ := o
  dsimp only at *
  have o1 : ∀ q ∈ R, q.1 ≠ lo := fun q hq => (off q hq).1
  have o2 : ∀ q ∈ R, q.1 ≠ la := fun q hq => (off q hq).2.1
  have o3 : ∀ q ∈ R, q.1 ≠ ol := fun q hq => (off q hq).2.2.1
  have o4 : ∀ q ∈ R, q.1 ≠ ml := fun q hq => (off q hq).2.2.2.1
  have o5 : ∀ q ∈ R, q.1 ≠ sg := fun q hq => (off q hq).2.2.2.2.1
  have o6 : ∀ q ∈ R, q.1 ≠ sd := fun q hq => (off q hq).2.2.2.2.2
  have hm1 := opn.obj
  have hm2 := opn.dict
  have hm3 := opn.lst
  have hlen := opn.all.length
  have hfew := opn.few
  try dsimp only [tp]
  k_steps
  exact hQ _ _ _ (if_pos rfl) (S.given (by k_asm) (by k_asm))
end
section

local macro_rules | `(tactic| walk_at "call builtin:len") => `(tactic| (k_here; (with_reducible show wpAny _ _ (call (Value.builtin "len") [Value.ref _]) _ _ _); k_dflt (refine' kst_len ?k1 ?k2 ?k3 ?k4 ?_; (case k1 => k_asm); (case k2 => k_mem); (case k3 => assumption); (case k4 => omega)); k_whole))
local macro_rules | `(tactic| walk_at "call ref") => `(tactic| (k_here; (with_reducible show wpAny _ _ (call (Value.ref 299) _) _ _ _); k_dflt (refine' Gives.use (shown_ok _ _ _ _ _ _ _ _ _ _ _ _ _ _ _ ?kh) ?k1 ?k2 ?k3 ?k4 ?k5 ?k6 ?k7 ?k8 ?_; (case k1 => k_asm); (case k2 => k_asm); (case k3 => k_asm); (case k4 => k_asm); (case kh => (refine OpIn.mono (by assumption) ?_; intro p' hp'; repeat (first | exact hp' | refine List.Mem.tail _ ?_))); (case k5 => k_asm); (case k6 => exact rfl); (case k7 => k_room); (case k8 => k_units); k_whole); intro r' tl' h' tk' F' N' lt' out'; (obtain ⟨e1', e2'⟩ := out'; subst e1'; subst e2'); (try simp only [List.append_nil] at N'); (try k_sweep)))
local macro_rules | `(tactic| walk_at "subscriptTail Name Constant ref int") => `(tactic| (k_here; k_dflt (refine kim_list (k := 0) (by k_asm) (by k_mem) rfl rfl (by decide) (by decide) rfl ?_)))
def trMode (os : List Opd) (m : Int) : Int := match os with
  | [.int i] => i
  | _ => m
theorem trMode_of {os : List Opd} {m : Int} (h : ∀ i, os ≠ [.int i]) : trMode os m = m := by
  unfold trMode
  split
  · exact absurd rfl (h _)
  · rfl
theorem one_of {os : List Opd} (h : (os.length : Int) = 1) : ∃ o, os = [o] := by
  match os, h with
  | [o], _ => exact ⟨o, rfl⟩
  | [], h => simp at h
  | _ :: _ :: _, h => simp at h; omega

set_option maxHeartbeats 2000000 in
theorem s4_ok {w : World} {h₀ : Heap} {L : Addr} {m₀ : Str → Option Value} {f : Fix} {ba : List (Addr × Obj)} {o : Opn} {c : Mid} {m : Str → Option Value} {R : List (Addr × Obj)} 
    {p : Program} {loose : List Str} {mean : ExcName → Option Value} {mg mb : Str → Option Value} {dp un : Nat} {gd : Option (List Code)} {a : Addr} {ccd : Value} {outer : List Env} {A₀ : Around} {base : Heap} {s : Shared} {Q : Flow → Shared → Prop} {E : Value → Shared → Prop}
    (B : Below A₀ base outer h₀) (X : (pre.heap_1_41 w.params).In h₀) (T : Top p loose mean mg mb h₀) (hdp : dp + 40 < recursionLimit) (hun : un + 500 < cLine) (S : Sta w h₀ L m₀ f ba o c m s.heap R) (hl : c.lb.length ≤ 60) (hs : ∀ b, o.seen = some b → b = shownOf o.x o.os)
    (hQ : ∀ lb' n3' h' tk', lb' = (match o.seen with | some b => c.lb ++ [b] | none => c.lb) → Sta w h₀ L m₀ f ba o { c with lb := lb', n3 := n3' } m h' R → Q .next { s with heap := h', toks := tk' }) :
    wpAny (model PySem.Challenge.rw_og0159_01.row.prog w) (ktrTop dp un gd (Str.ofString "law") tp.1.sc L a ccd [] outer) (exec tp.1.s4 (envOf (Str.ofString "law") tp.1.sc L a ccd)) Q E s := by
  revert X
  k_fill
  intro X
  have ⟨F, N, off, ⟨p1, p2, p3, p4, p5, p6⟩, sub, mm, mo, mz, mp, md, mg9, ms, mb, opn, bef, ia, ib⟩ := id S
  obtain ⟨pl, sd, ml, ol, lo, sg, fh1, fh2, fh3, fk1, fk2, fk3⟩ := f
  obtain ⟨k, tk, np, sb, si, sv, sm, t1, lb, li, lv, lm, t2, la, n1, n2, n3, n4⟩ := c
  obtain ⟨op, d, l, x, os, seen, vs, h1, h2, k1, k2, t, n, n', bf⟩ := o
  dsimp only at *
  have o1 : ∀ q ∈ R, q.1 ≠ lo := fun q hq => (off q hq).1
  have o2 : ∀ q ∈ R, q.1 ≠ la := fun q hq => (off q hq).2.1
  have o3 : ∀ q ∈ R, q.1 ≠ ol := fun q hq => (off q hq).2.2.1
  have o4 : ∀ q ∈ R, q.1 ≠ ml := fun q hq => (off q hq).2.2.2.1
  have o5 : ∀ q ∈ R, q.1 ≠ sg := fun q hq => (off q hq).2.2.2.2.1
  have o6 : ∀ q ∈ R, q.1 ≠ sd := fun q hq => (off q hq).2.2.2.2.2
  have hm1 := opn.obj
  have hm2 := opn.dict
  have hm3 := opn.lst
  have hlen := opn.all.length
  have hfew := opn.few
  try dsimp only [tp]
  have hbl := bvs_len lb
  cases seen with
  | none =>
    dsimp only [seenV] at ms
    k_steps
    exact hQ _ _ _ _ rfl { S with F := by k_asm, N := by k_asm }
  | some b =>
    obtain rfl := hs b rfl
    dsimp only [seenV] at ms
    k_steps
    · exact absurd (show (shownOf x os != shownOf x os) = true by assumption) (by simp)
    rename News h₀ L _ _ => N9
    rw [List.push_toArray, bvs_add] at N9
    exact hQ _ _ _ _ rfl { S with F := by k_asm, N := N9 }

set_option maxHeartbeats 2000000 in
theorem s9_ok {w : World} {h₀ : Heap} {L : Addr} {m₀ : Str → Option Value} {f : Fix} {ba : List (Addr × Obj)} {o : Opn} {c : Mid} {m : Str → Option Value} {R : List (Addr × Obj)} 
    {p : Program} {loose : List Str} {mean : ExcName → Option Value} {mg mb : Str → Option Value} {dp un : Nat} {gd : Option (List Code)} {a : Addr} {ccd : Value} {outer : List Env} {A₀ : Around} {base : Heap} {s : Shared} {Q : Flow → Shared → Prop} {E : Value → Shared → Prop}
    (B : Below A₀ base outer h₀) (X : (pre.heap_1_41 w.params).In h₀) (T : Top p loose mean mg mb h₀) (hdp : dp + 40 < recursionLimit) (hun : un + 500 < cLine) (S : Sta w h₀ L m₀ f ba o c m s.heap R) (hg : m (Str.ofString "given") = some (.ref o.l))
    (hQ : ∀ lm' t2' m' h' tk', lm' = (if (o.x == Str.ofString "Tr") = true then trMode o.os c.lm else c.lm) → Sta w h₀ L m₀ f ba o { c with lm := lm', t2 := t2' } m' h' R → Q .next { s with heap := h', toks := tk' }) :
    wpAny (model PySem.Challenge.rw_og0159_01.row.prog w) (ktrTop dp un gd (Str.ofString "law") tp.1.sc L a ccd [] outer) (exec tp.1.s9 (envOf (Str.ofString "law") tp.1.sc L a ccd)) Q E s := by
  revert X
  k_fill
  intro X
  have ⟨F, N, off, ⟨p1, p2, p3, p4, p5, p6⟩, sub, mm, mo, mz, mp, md, mg9, ms, mb, opn, bef, ia, ib⟩ := id S
  obtain ⟨pl, sd, ml, ol, lo, sg, fh1, fh2, fh3, fk1, fk2, fk3⟩ := f
  obtain ⟨k, tk, np, sb, si, sv, sm, t1, lb, li, lv, lm, t2, la, n1, n2, n3, n4⟩ := c
  obtain ⟨op, d, l, x, os, seen, vs, h1, h2, k1, k2, t, n, n', bf⟩ := o
  dsimp only at *
  have o1 : ∀ q ∈ R, q.1 ≠ lo := fun q hq => (off q hq).1
  have o2 : ∀ q ∈ R, q.1 ≠ la := fun q hq => (off q hq).2.1
  have o3 : ∀ q ∈ R, q.1 ≠ ol := fun q hq => (off q hq).2.2.1
  have o4 : ∀ q ∈ R, q.1 ≠ ml := fun q hq => (off q hq).2.2.2.1
  have o5 : ∀ q ∈ R, q.1 ≠ sg := fun q hq => (off q hq).2.2.2.2.1
  have o6 : ∀ q ∈ R, q.1 ≠ sd := fun q hq => (off q hq).2.2.2.2.2
  have hm1 := opn.obj
  have hm2 := opn.dict
  have hm3 := opn.lst
  have hlen := opn.all.length
  have hfew := opn.few
  try dsimp only [tp]
  have hall := opn.all
  k_steps
  · rename (os.length : Int) = 1 => e9
    obtain ⟨o9, rfl⟩ := one_of e9
    cases hall with
    | cons h9 h8 =>
    cases h8
    cases h9
    all_goals k_steps
    · exact hQ _ _ _ _ _ (if_pos (by assumption)).symm { S with F := by k_asm, N := by k_asm }
    · exact hQ _ _ _ _ _ (if_pos (by assumption)).symm (S.setMode ib (by k_asm) (by k_asm))
    · exact hQ _ _ _ _ _ (if_pos (by assumption)).symm { S with F := by k_asm, N := by k_asm }
    · exact hQ _ _ _ _ _ (if_pos (by assumption)).symm { S with F := by k_asm, N := by k_asm }
  · rename (x == Str.ofString "Tr") = true => e7
    rename ¬ (os.length : Int) = 1 => e9
    refine hQ _ _ _ _ _ ((if_pos e7).trans (trMode_of ?_)).symm { S with F := by k_asm, N := by k_asm }
    intro i e
    rw [e] at e9
    exact e9 rfl
  · exact hQ _ _ _ _ _ (if_neg (ne_true_of_eq_false (by assumption))).symm { S with F := by k_asm, N := by k_asm }
end
section
local macro_rules | `(tactic| walk_at "none 0") => `(tactic| fail)
local macro_rules | `(tactic| walk_at "none 1") => `(tactic| fail)
local macro_rules | `(tactic| walk_at "none 2") => `(tactic| fail)

theorem dOk_three (bs : List Bool) (ns : List Int) (i : Int) : dOk 9 (.tuple [.list (bs.map .bool), .list (ns.map .int), .int i]) = true := by simp [dOk]

local macro_rules | `(tactic| walk_at "compareOp NotEq ref ref") => `(tactic| (k_here; k_dflt (refine' ne_same (by k_asm) (DatIn.tuple (by k_mem) (.cons (DatIn.list (by k_mem) (bvs_dat _)) (.cons (DatIn.list (by k_mem) (ints_dat (by assumption))) (.cons (.int _ _) .nil)))) (fun _ hp => hp) (DatIn.tuple (by k_mem) (.cons (DatIn.list (by k_mem) (bvs_dat _)) (.cons (DatIn.list (by k_mem) (ints_dat (by assumption))) (.cons (.int _ _) .nil)))) (fun _ hp => hp) (dOk_three _ _ _) ?u ?_; (case u => k_units); k_whole)))

set_option maxHeartbeats 2000000 in
theorem s10_ok {w : World} {h₀ : Heap} {L : Addr} {m₀ : Str → Option Value} {f : Fix} {ba : List (Addr × Obj)} {o : Opn} {c : Mid} {m : Str → Option Value} {R : List (Addr × Obj)} 
    {p : Program} {loose : List Str} {mean : ExcName → Option Value} {mg mb : Str → Option Value} {dp un : Nat} {gd : Option (List Code)} {a : Addr} {ccd : Value} {outer : List Env} {A₀ : Around} {base : Heap} {s : Shared} {Q : Flow → Shared → Prop} {E : Value → Shared → Prop}
    (B : Below A₀ base outer h₀) (X : (pre.heap_1_41 w.params).In h₀) (T : Top p loose mean mg mb h₀) (hdp : dp + 40 < recursionLimit) (hun : un + 500 < cLine) (S : Sta w h₀ L m₀ f ba o c m s.heap R) (e1 : c.sb = c.lb) (e2 : c.si = c.li) (e3 : c.sm = c.lm)
    (hQ : ∀ h' tk', Sta w h₀ L m₀ f ba o c m h' R → Q .next { s with heap := h', toks := tk' }) :
    wpAny (model PySem.Challenge.rw_og0159_01.row.prog w) (ktrTop dp un gd (Str.ofString "law") tp.1.sc L a ccd [] outer) (exec tp.1.s10 (envOf (Str.ofString "law") tp.1.sc L a ccd)) Q E s := by
  revert X
  k_fill
  intro X
  have ⟨F, N, off, ⟨p1, p2, p3, p4, p5, p6⟩, sub, mm, mo, mz, mp, md, mg9, ms, mb, opn, bef, ia, ib⟩ := id S
  obtain ⟨pl, sd, ml, ol, lo, sg, fh1, fh2, fh3, fk1, fk2, fk3⟩ := f
  obtain ⟨k, tk, np, sb, si, sv, sm, t1, lb, li, lv, lm, t2, la, n1, n2, n3, n4⟩ := c
  obtain ⟨op, d, l, x, os, seen, vs, h1, h2, k1, k2, t, n, n', bf⟩ := o
  dsimp only at *
  have o1 : ∀ q ∈ R, q.1 ≠ lo := fun q hq => (off q hq).1
  have o2 : ∀ q ∈ R, q.1 ≠ la := fun q hq => (off q hq).2.1
  have o3 : ∀ q ∈ R, q.1 ≠ ol := fun q hq => (off q hq).2.2.1
  have o4 : ∀ q ∈ R, q.1 ≠ ml := fun q hq => (off q hq).2.2.2.1
  have o5 : ∀ q ∈ R, q.1 ≠ sg := fun q hq => (off q hq).2.2.2.2.1
  have o6 : ∀ q ∈ R, q.1 ≠ sd := fun q hq => (off q hq).2.2.2.2.2
  have hm1 := opn.obj
  have hm2 := opn.dict
  have hm3 := opn.lst
  have hlen := opn.all.length
  have hfew := opn.few
  subst e1; subst e2; subst e3
  try dsimp only [tp]
  k_steps
  exact hQ _ _ { S with F := by k_asm, N := n_tail (n_tail (by k_asm)) }
end
section

local macro_rules | `(tactic| walk_at "eval ListComp") => `(tactic| (k_here; k_dflt (refine LCg.ListComp_U (F₀ := by k_asm) (by with_unfolding_all rfl) (by decide) (by rfl) (by decide) (by rfl) ?_)))
local macro_rules | `(tactic| walk_at "call ref") => `(tactic| (k_here; (with_reducible show wpAny _ _ (call (Value.ref 306) _) _ _ _); k_dflt (refine' Gives.use (unseen_ok _ _ _ _ _ _ _ _ _ _ _ _ _ _ _ _ _ (by assumption) (by assumption) ?kh) ?k1 ?k2 ?k3 ?k4 ?k5 ?k6 ?k7 ?k8 ?_; (case k1 => k_asm); (case k2 => k_asm); (case k3 => k_asm); (case k4 => k_asm); (case kh => (refine OpIn.mono (by assumption) ?_; intro p' hp'; repeat (first | exact hp' | refine List.Mem.tail _ ?_ | (refine List.mem_append_left _ ?_)))); (case k5 => k_asm); (case k6 => exact rfl); (case k7 => k_room); (case k8 => k_units); k_whole); intro r' tl' h' tk' F' N' lt' out'; (try simp only [List.cons_append] at N'); (obtain ⟨l', vs', n', e', hm', hO'⟩ := out'; subst e'); (try k_sweep)))
local macro_rules | `(tactic| walk_at "call ref") => `(tactic| (k_here; (with_reducible show wpAny _ _ (call (Value.ref 357) _) _ _ _); k_dflt (refine' Gives.use (law_unseen_ok _ _ _ _ _ _ _ _ _ _ _ _ _ _ _ _ _ (by assumption) (by assumption) ?kh) ?k1 ?k2 ?k3 ?k4 ?k5 ?k6 ?k7 ?k8 ?_; (case k1 => k_asm); (case k2 => k_asm); (case k3 => k_asm); (case k4 => k_asm); (case kh => (refine OpIn.mono (by assumption) ?_; intro p' hp'; repeat (first | exact hp' | refine List.Mem.tail _ ?_ | (refine List.mem_append_left _ ?_)))); (case k5 => k_asm); (case k6 => exact rfl); (case k7 => k_room); (case k8 => k_units); k_whole); intro r' tl' h' tk' F' N' lt' out'; (try simp only [List.cons_append] at N'); (obtain ⟨l', vs', n', e', hm', hO'⟩ := out'; subst e'); (try k_sweep)))
local macro_rules | `(tactic| walk_at "call ref") => `(tactic| (k_here; (with_reducible show wpAny _ _ (call (Value.ref 284) _) _ _ _); k_dflt (refine' Gives.use (op_told _ _ _ _ _ _ _ _ _ _ _ _ _ _ _ ?kh) ?k1 ?k2 ?k3 ?k4 ?k5 ?k6 ?k7 ?k8 ?_; (case k1 => k_asm); (case k2 => k_asm); (case k3 => k_asm); (case k4 => k_asm); (case kh => (refine OpIn.mono (by assumption) ?_; intro p' hp'; repeat (first | exact hp' | refine List.Mem.tail _ ?_ | (refine List.mem_append_left _ ?_)))); (case k5 => k_asm); (case k6 => exact rfl); (case k7 => k_room); (case k8 => k_units); k_whole); intro r' tl' h' tk' F' N' lt' out'; (try simp only [List.cons_append] at N'); (obtain ⟨D', vs', n', e', hm', hd'⟩ := told_ref out'; subst e'); (try k_sweep)))

theorem OpsAt.at {w : World} {all : List (Addr × Obj)} {vs : List Value} {ps : List (Str × List Opd)} (h : OpsAt w all vs ps) : ∀ {i : Nat} {v : Value}, vs[i]? = some v → ∃ p, ps[i]? = some p ∧ OpAt w all v p.1 p.2 := by
  induction h with
  | nil => intro i v hv; simp at hv
  | cons a _ ih =>
    intro i v hv
    cases i with
    | zero => simp at hv; subst hv; exact ⟨(_, _), rfl, a⟩
    | succ i => simpa using ih (by simpa using hv)
theorem OpsAt.length {w : World} {all : List (Addr × Obj)} {vs : List Value} {ps : List (Str × List Opd)} (h : OpsAt w all vs ps) : vs.length = ps.length := by
  induction h with
  | nil => rfl
  | cons _ _ ih => simp [ih]
theorem unseen_len (x : Str) (os : List Opd) (m : Int) : (unseenOf x os m).length ≤ 3 := by
  unfold unseenOf; repeat' split
  all_goals simp
theorem dOk_opd (n : Nat) : ∀ (os : List Opd), opsOk os = true → ∀ d ∈ os.map toldOf, dOk (n + 3) d = true := by
  have sk : ∀ z ∈ [Str.ofString "name", Str.ofString "int", Str.ofString "truth", Str.ofString "dict", Str.ofString "x"], PySem.PyData.strOk z = true := by decide +kernel
  intro os
  induction os with
  | nil => intro _ d h; simp at h
  | cons o os ih =>
    intro h d hd
    rcases List.mem_cons.mp hd with rfl | hd
    · cases o with
      | name x => simp [opsOk] at h; simp [toldOf, dOk, h.1, sk (Str.ofString "name")]
      | int i => simp [toldOf, dOk, sk (Str.ofString "int")]
      | tru => simp [toldOf, dOk, sk (Str.ofString "truth")]
      | dict => simp [toldOf, dOk, sk (Str.ofString "dict"), sk (Str.ofString "x"), sk (Str.ofString "int")]
    · refine ih ?_ d hd
      cases o <;> simp [opsOk] at h <;> first | exact h.2 | exact h
theorem dOk_told (n : Nat) {x : Str} {os : List Opd} (hx : PySem.PyData.strOk x = true) (ho : opsOk os = true) : dOk (n + 5) (opTold x os) = true := by
  have := dOk_opd n os ho
  simp only [opTold, dOk, List.all_cons, List.all_nil, Bool.and_true, hx, Bool.true_and]
  exact List.all_eq_true.mpr this
theorem dOk_unseen {x : Str} {os : List Opd} {m : Int} (hx : PySem.PyData.strOk x = true) (ho : opsOk os = true) : dOk 9 (.list ((unseenOf x os m).map told2)) = true := by
  have sk : ∀ z ∈ [Str.ofString "n", Str.ofString "Tr"], PySem.PyData.strOk z = true := by decide +kernel
  have all : ∀ p ∈ unseenOf x os m, PySem.PyData.strOk p.1 = true ∧ opsOk p.2 = true := by
    have hn : PySem.PyData.strOk (Str.ofString "n") = true := sk _ (.head _)
    have ht : PySem.PyData.strOk (Str.ofString "Tr") = true := sk _ (.tail _ (.head _))
    unfold unseenOf
    repeat' split
    all_goals simp [hx, ho, hn, ht, opsOk]
  rw [dOk]
  refine List.all_eq_true.mpr fun d hd => ?_
  obtain ⟨p, hp, rfl⟩ := List.mem_map.mp hd
  exact dOk_told 3 (all p hp).1 (all p hp).2
end
section
local macro_rules | `(tactic| walk_at "none 0") => `(tactic| fail)

local macro_rules | `(tactic| walk_at "eval ListComp") => `(tactic| (k_here; k_dflt (refine LCg.ListComp_U (F₀ := by k_asm) (by with_unfolding_all rfl) (by decide) (by rfl) (by decide) (by rfl) ?_)))
local macro_rules | `(tactic| walk_at "call ref") => `(tactic| (k_here; (with_reducible show wpAny _ _ (call (Value.ref 306) _) _ _ _); k_dflt (refine' Gives.use (unseen_ok _ _ _ _ _ _ _ _ _ _ _ _ _ _ _ _ _ (by assumption) (by assumption) ?kh) ?k1 ?k2 ?k3 ?k4 ?k5 ?k6 ?k7 ?k8 ?_; (case k1 => k_asm); (case k2 => k_asm); (case k3 => k_asm); (case k4 => k_asm); (case kh => (refine OpIn.mono (by assumption) ?_; intro p' hp'; repeat (first | exact hp' | refine List.Mem.tail _ ?_ | (refine List.mem_append_left _ ?_)))); (case k5 => k_asm); (case k6 => exact rfl); (case k7 => k_room); (case k8 => k_units); k_whole); intro r' tl' h' tk' F' N' lt' out'; (try simp only [List.cons_append] at N'); (obtain ⟨l', vs', n', e', hm', hO'⟩ := out'; subst e'); (try k_sweep)))
local macro_rules | `(tactic| walk_at "call ref") => `(tactic| (k_here; (with_reducible show wpAny _ _ (call (Value.ref 357) _) _ _ _); k_dflt (refine' Gives.use (law_unseen_ok _ _ _ _ _ _ _ _ _ _ _ _ _ _ _ _ _ (by assumption) (by assumption) ?kh) ?k1 ?k2 ?k3 ?k4 ?k5 ?k6 ?k7 ?k8 ?_; (case k1 => k_asm); (case k2 => k_asm); (case k3 => k_asm); (case k4 => k_asm); (case kh => (refine OpIn.mono (by assumption) ?_; intro p' hp'; repeat (first | exact hp' | refine List.Mem.tail _ ?_ | (refine List.mem_append_left _ ?_)))); (case k5 => k_asm); (case k6 => exact rfl); (case k7 => k_room); (case k8 => k_units); k_whole); intro r' tl' h' tk' F' N' lt' out'; (try simp only [List.cons_append] at N'); (obtain ⟨l', vs', n', e', hm', hO'⟩ := out'; subst e'); (try k_sweep)))
local macro_rules | `(tactic| walk_at "call ref") => `(tactic| (k_here; (with_reducible show wpAny _ _ (call (Value.ref 284) _) _ _ _); k_dflt (refine' Gives.use (op_told _ _ _ _ _ _ _ _ _ _ _ _ _ _ _ ?kh) ?k1 ?k2 ?k3 ?k4 ?k5 ?k6 ?k7 ?k8 ?_; (case k1 => k_asm); (case k2 => k_asm); (case k3 => k_asm); (case k4 => k_asm); (case kh => (refine OpIn.mono (by assumption) ?_; intro p' hp'; repeat (first | exact hp' | refine List.Mem.tail _ ?_ | (refine List.mem_append_left _ ?_)))); (case k5 => k_asm); (case k6 => exact rfl); (case k7 => k_room); (case k8 => k_units); k_whole); intro r' tl' h' tk' F' N' lt' out'; (try simp only [List.cons_append] at N'); (obtain ⟨D', vs', n', e', hm', hd'⟩ := told_ref out'; subst e'); (try k_sweep)))

set_option maxHeartbeats 2000000 in
theorem s11_core {w : World} {h₀ : Heap} {L : Addr} {m : Str → Option Value} {NW : List (Addr × Obj)} {op d l : Addr} {x : Str} {os : List Opd} {vs : List Value} {h1 h2 : Int} {k1 k2 t : Tok} {n n' : Nat}
    {p : Program} {loose : List Str} {mean : ExcName → Option Value} {mg mb : Str → Option Value} {dp un : Nat} {gd : Option (List Code)} {a : Addr} {ccd : Value} {outer : List Env} {A₀ : Around} {base : Heap} {s : Shared} {Q : Flow → Shared → Prop} {E : Value → Shared → Prop}
    (B : Below A₀ base outer h₀) (X : (pre.heap_1_41 w.params).In h₀) (T : Top p loose mean mg mb h₀) (hdp : dp + 40 < recursionLimit) (hun : un + 500 < cLine)
    (F : Fr h₀ L s.heap m) (N : News h₀ L s.heap NW) (mp : m (Str.ofString "operation") = some (.ref op)) (opn : OpIn PySem.Challenge.rw_og0159_01.row.prog w NW op x os d l vs h1 h2 k1 k2 t n n') {md : Int} {tm : Tok} {bf : Value} (mo : m (Str.ofString "mode") = some (.int md tm)) (mb : m (Str.ofString "before") = some bf) (bef : DatIn NW bf (opTold x os)) (m0 : 0 ≤ md) (m8 : md < 8) (sx : PySem.PyData.strOk x = true) (so : opsOk os = true)
    (hQ : ∀ h' tk', Fr h₀ L h' m → News h₀ L h' NW → Q .next { s with heap := h', toks := tk' }) :
    wpAny (model PySem.Challenge.rw_og0159_01.row.prog w) (ktrTop dp un gd (Str.ofString "law") tp.1.sc L a ccd [] outer) (exec tp.1.s11 (envOf (Str.ofString "law") tp.1.sc L a ccd)) Q E s := by
  revert X
  k_fill
  intro X
  have hm1 := opn.obj
  have hm2 := opn.dict
  have hm3 := opn.lst
  have hlen := opn.all.length
  have hfew := opn.few
  try dsimp only [tp]
  k_steps
  rename_i tl h9 tk9 F9 N9 lt9 l9 vs9 n9 hm9 hO9
  have hm8 : (l9, listOf vs9.toArray n9) ∈ NW ++ tl := List.mem_append_right _ hm9
  have hl9 := hO9.length
  have hl8 := unseen_len x os md
  refine LCg.CompSrc.ledger (by rfl) (by k_asm) (by k_asm) (by k_mem) (by rw [List.size_toArray, sizeLine_eq]; omega) ?_
  intro g9
  have hsz : vs9.toArray.size = (unseenOf x os md).length := by rw [List.size_toArray]; exact hl9
  rw [hsz]
  refine rest_ind (fun i ys nw => ∃ tl2, nw = (NW ++ tl) ++ tl2 ∧ (∀ q ∈ NW ++ tl, ∀ p ∈ tl2, q.1 < p.1) ∧ DatAll tl2 ys (((unseenOf x os md).take i).map told2)) (unseenOf x os md).length ?step ?fin _ 0 [] _ (Nat.zero_add _) ⟨[], (List.append_nil _).symm, (fun _ _ _ hp => nomatch hp), .nil⟩
  case step =>
    rintro i ys _ hi ⟨tl2, rfl, hlt, hda⟩ v I oI C oC D m₂ h7 tk7 E7 hP hC hx F7 N7 off7 ne7
    obtain ⟨y9, hy9, op2, d2, l2, vs2, g1, g2, j1, j2, t2, z1, z2, rfl, oi⟩ := hO9.at (show vs9[i]? = some v by simpa using hP)
    have oi' := oi.mono (news' := (I, oI) :: (C, oC) :: (D, LCg.lst ys) :: ((NW ++ tl) ++ tl2)) fun p hp => .tail _ (.tail _ (.tail _ (List.mem_append_left _ hp)))
    have hq1 := oi'.obj
    have hq2 := oi'.dict
    k_steps
    rename_i tl3 h6 tk6 F6 N6 lt6 D6 vs6 n6 a6 b6 c6
    have ltI : ∀ p ∈ tl3, I < p.1 ∧ C < p.1 ∧ D < p.1 := fun p hp => ⟨lt6 _ (.head _) p hp, lt6 _ (.tail _ (.head _)) p hp, lt6 _ (.tail _ (.tail _ (.head _))) p hp⟩
    refine LCg.CompEnd.intro F6 N6 (((NW ++ tl) ++ tl2) ++ tl3) (fun p hp => hp) (off3App off7 ltI) (.inr ⟨_, List.mem_append_left _ (List.mem_append_left _ hm8), rfl, _, rfl⟩) ⟨tl2 ++ tl3, List.append_assoc _ _ _, fun q hq p hp => ?_, ?_⟩
    · rcases List.mem_append.mp hp with hp | hp
      · exact hlt q hq p hp
      · exact lt6 q (.tail _ (.tail _ (.tail _ (List.mem_append_left _ hq)))) p hp
    · rw [take_snoc hy9, List.map_append]
      exact DatAll.snoc (hda.mono fun p hp => List.mem_append_left _ hp) (DatIn.mono (fun p hp => List.mem_append_right _ hp) (show DatIn tl3 _ _ by assumption))
  case fin =>
    rintro ys _ ⟨tl2, rfl, hlt, hda⟩
    rw [List.take_length] at hda
    repeat' (first | ((fail_if_success (with_reducible show wpAny _ _ (compareOp .NotEq _ _) _ _ _)); first | walk1 | (dsimp only; walk1) | (k_unfold; (try dsimp only))) | fail "no step")
    rename_i D5 h5 tk5 off5 tl5 h4 tk4 F4 N4 lt4 l4 vs4 n4 hm4 hO4
    refine ne_same N4 (DatIn.list (.head _) (hda.mono fun p hp => .tail _ (List.mem_append_left _ (List.mem_append_right _ hp)))) (fun _ hp => hp) (DatIn.list hm4 hO4) (fun p hp => .tail _ (List.mem_append_right _ hp)) (dOk_unseen sx so) (by k_units) ?_
    have hn9 : ∀ p ∈ NW, p ∈ (D5, LCg.lst ys) :: (NW ++ tl ++ tl2 ++ tl5) := fun p hp => .tail _ (List.mem_append_left _ (List.mem_append_left _ (List.mem_append_left _ hp)))
    have opn9 := opn.mono hn9
    have hq1 := opn9.obj
    have hq2 := opn9.dict
    repeat' (first | ((fail_if_success (with_reducible show wpAny _ _ (compareOp .NotEq _ _) _ _ _)); first | walk1 | (dsimp only; walk1) | (k_unfold; (try dsimp only))) | fail "no step")
    rename_i tl3 h6 tk6 F6 N6 lt6 D6 vs6 n6 a6 b6 c6
    refine ne_same N6 (show DatIn tl3 _ _ by assumption) (fun p hp => .tail _ (List.mem_append_right _ hp)) (bef.mono hn9) (fun p hp => (List.mem_cons.mp hp).elim (fun e => by rw [e]; exact .head _) fun hp => .tail _ (List.mem_append_left _ hp)) (dOk_told 4 sx so) (by k_units) ?_
    k_steps
    exact hQ _ _ F6 fun p hp => N6 p ((List.mem_cons.mp (hn9 p hp)).elim (fun e => by rw [e]; exact .head _) fun hp => .tail _ (List.mem_append_left _ hp))

set_option maxHeartbeats 2000000 in
theorem s11_ok {w : World} {h₀ : Heap} {L : Addr} {m₀ : Str → Option Value} {f : Fix} {ba : List (Addr × Obj)} {o : Opn} {c : Mid} {m : Str → Option Value} {R : List (Addr × Obj)} 
    {p : Program} {loose : List Str} {mean : ExcName → Option Value} {mg mb : Str → Option Value} {dp un : Nat} {gd : Option (List Code)} {a : Addr} {ccd : Value} {outer : List Env} {A₀ : Around} {base : Heap} {s : Shared} {Q : Flow → Shared → Prop} {E : Value → Shared → Prop}
    (B : Below A₀ base outer h₀) (X : (pre.heap_1_41 w.params).In h₀) (T : Top p loose mean mg mb h₀) (hdp : dp + 40 < recursionLimit) (hun : un + 500 < cLine) (S : Sta w h₀ L m₀ f ba o c m s.heap R) (m0 : 0 ≤ c.lm) (m8 : c.lm < 8) (sx : PySem.PyData.strOk o.x = true) (so : opsOk o.os = true)
    (hQ : ∀ h' tk', Sta w h₀ L m₀ f ba o c m h' R → Q .next { s with heap := h', toks := tk' }) :
    wpAny (model PySem.Challenge.rw_og0159_01.row.prog w) (ktrTop dp un gd (Str.ofString "law") tp.1.sc L a ccd [] outer) (exec tp.1.s11 (envOf (Str.ofString "law") tp.1.sc L a ccd)) Q E s := by
  have hs : ∀ p ∈ R, p ∈ (f.lo, listOf c.lv.toArray c.n4) :: (c.la, listOf (bvs c.lb).toArray c.n3) :: (f.ol, listOf c.sv.toArray c.n2) :: (f.ml, listOf (bvs c.sb).toArray c.n1) :: (f.sg, instObj 330 f.sd) :: (f.sd, sdObj f c.sm c.t1) :: R := fun p hp => .tail _ (.tail _ (.tail _ (.tail _ (.tail _ (.tail _ hp)))))
  exact s11_core B X T hdp hun S.F S.N S.mp (S.opn.mono hs) S.mo S.mb (S.bef.mono hs) m0 m8 sx so fun h' tk' F' N' => hQ h' tk' { S with F := F', N := N' }
end
section
local macro_rules | `(tactic| walk_at "none 0") => `(tactic| fail)
local macro_rules | `(tactic| walk_at "none 1") => `(tactic| fail)

local macro_rules | `(tactic| walk_at "eval ListComp") => `(tactic| (k_here; k_dflt (refine LCg.ListComp_U (F₀ := by k_asm) (by with_unfolding_all rfl) (by decide) (by rfl) (by decide) (by rfl) ?_)))
local macro_rules | `(tactic| walk_at "call ref") => `(tactic| (k_here; (with_reducible show wpAny _ _ (call (Value.ref 306) _) _ _ _); k_dflt (refine' Gives.use (unseen_ok _ _ _ _ _ _ _ _ _ _ _ _ _ _ _ _ _ (by assumption) (by assumption) ?kh) ?k1 ?k2 ?k3 ?k4 ?k5 ?k6 ?k7 ?k8 ?_; (case k1 => k_asm); (case k2 => k_asm); (case k3 => k_asm); (case k4 => k_asm); (case kh => (refine OpIn.mono (by assumption) ?_; intro p' hp'; repeat (first | exact hp' | refine List.Mem.tail _ ?_ | (refine List.mem_append_left _ ?_)))); (case k5 => k_asm); (case k6 => exact rfl); (case k7 => k_room); (case k8 => k_units); k_whole); intro r' tl' h' tk' F' N' lt' out'; (try simp only [List.cons_append] at N'); (obtain ⟨l', vs', n', e', hm', hO'⟩ := out'; subst e'); (try k_sweep)))
local macro_rules | `(tactic| walk_at "call ref") => `(tactic| (k_here; (with_reducible show wpAny _ _ (call (Value.ref 357) _) _ _ _); k_dflt (refine' Gives.use (law_unseen_ok _ _ _ _ _ _ _ _ _ _ _ _ _ _ _ _ _ (by assumption) (by assumption) ?kh) ?k1 ?k2 ?k3 ?k4 ?k5 ?k6 ?k7 ?k8 ?_; (case k1 => k_asm); (case k2 => k_asm); (case k3 => k_asm); (case k4 => k_asm); (case kh => (refine OpIn.mono (by assumption) ?_; intro p' hp'; repeat (first | exact hp' | refine List.Mem.tail _ ?_ | (refine List.mem_append_left _ ?_)))); (case k5 => k_asm); (case k6 => exact rfl); (case k7 => k_room); (case k8 => k_units); k_whole); intro r' tl' h' tk' F' N' lt' out'; (try simp only [List.cons_append] at N'); (obtain ⟨l', vs', n', e', hm', hO'⟩ := out'; subst e'); (try k_sweep)))
local macro_rules | `(tactic| walk_at "call ref") => `(tactic| (k_here; (with_reducible show wpAny _ _ (call (Value.ref 284) _) _ _ _); k_dflt (refine' Gives.use (op_told _ _ _ _ _ _ _ _ _ _ _ _ _ _ _ ?kh) ?k1 ?k2 ?k3 ?k4 ?k5 ?k6 ?k7 ?k8 ?_; (case k1 => k_asm); (case k2 => k_asm); (case k3 => k_asm); (case k4 => k_asm); (case kh => (refine OpIn.mono (by assumption) ?_; intro p' hp'; repeat (first | exact hp' | refine List.Mem.tail _ ?_ | (refine List.mem_append_left _ ?_)))); (case k5 => k_asm); (case k6 => exact rfl); (case k7 => k_room); (case k8 => k_units); k_whole); intro r' tl' h' tk' F' N' lt' out'; (try simp only [List.cons_append] at N'); (obtain ⟨D', vs', n', e', hm', hd'⟩ := told_ref out'; subst e'); (try k_sweep)))

set_option maxHeartbeats 2000000 in
theorem s2_core {w : World} {h₀ : Heap} {L : Addr} {m : Str → Option Value} {NW : List (Addr × Obj)} {op d l : Addr} {x : Str} {os : List Opd} {vs : List Value} {h1 h2 : Int} {k1 k2 t : Tok} {n n' : Nat}
    {p : Program} {loose : List Str} {mean : ExcName → Option Value} {mg mb : Str → Option Value} {dp un : Nat} {gd : Option (List Code)} {a : Addr} {ccd : Value} {outer : List Env} {A₀ : Around} {base : Heap} {s : Shared} {Q : Flow → Shared → Prop} {E : Value → Shared → Prop}
    (B : Below A₀ base outer h₀) (X : (pre.heap_1_41 w.params).In h₀) (T : Top p loose mean mg mb h₀) (hdp : dp + 40 < recursionLimit) (hun : un + 500 < cLine)
    (F : Fr h₀ L s.heap m) (N : News h₀ L s.heap NW) (mp : m (Str.ofString "operation") = some (.ref op)) (opn : OpIn PySem.Challenge.rw_og0159_01.row.prog w NW op x os d l vs h1 h2 k1 k2 t n n')
    (hQ : ∀ tl bf h' tk', Fr h₀ L h' (fun y => if y = Str.ofString "before" then some bf else m y) → News h₀ L h' (NW ++ tl) → (∀ q ∈ NW, ∀ p ∈ tl, q.1 < p.1) → DatIn tl bf (opTold x os) → Q .next { s with heap := h', toks := tk' }) :
    wpAny (model PySem.Challenge.rw_og0159_01.row.prog w) (ktrTop dp un gd (Str.ofString "law") tp.1.sc L a ccd [] outer) (exec tp.1.s2 (envOf (Str.ofString "law") tp.1.sc L a ccd)) Q E s := by
  revert X
  k_fill
  intro X
  have hm1 := opn.obj
  have hm2 := opn.dict
  have hm3 := opn.lst
  have hlen := opn.all.length
  have hfew := opn.few
  try dsimp only [tp]
  k_steps
  rename_i tl h6 tk6 lt6 D6 vs6 n6 a6 b6 c6 h7 F7 N7
  exact hQ tl _ _ _ F7 N7 lt6 (by assumption)

set_option maxHeartbeats 2000000 in
theorem s1_core {w : World} {h₀ : Heap} {L : Addr} {m : Str → Option Value} {NW : List (Addr × Obj)} {f pl c cp cc D : Addr} {oc ocp occ : Obj} {vsc : Array Value} {tq : Tok} {qual : Str} {dc pm ct : Value} {vs : List Value} {cs : List Int} {nD np : Nat} {k : Int} {tk : Tok}
    {p : Program} {loose : List Str} {mean : ExcName → Option Value} {mg mb : Str → Option Value} {dp un : Nat} {gd : Option (List Code)} {a : Addr} {ccd : Value} {outer : List Env} {A₀ : Around} {base : Heap} {s : Shared} {Q : Flow → Shared → Prop} {E : Value → Shared → Prop}
    (B : Below A₀ base outer h₀) (X : (pre.heap_1_41 w.params).In h₀) (T : Top p loose mean mg mb h₀) (hdp : dp + 40 < recursionLimit) (hun : un + 500 < cLine)

    (F : Fr h₀ L s.heap m) (N : News h₀ L s.heap ((pl, listOf [Value.int k tk].toArray np) :: NW)) (mt : m (Str.ofString "take") = some (.ref f)) (hT : TakeIn w NW f pl c cp cc D oc ocp occ vsc tq qual dc pm ct vs cs nD) (off : ∀ q ∈ NW, q.1 ≠ pl) (k0 : 0 ≤ k) (k9 : k ≤ 190)
    (hQ : ∀ (op d l : Addr) (x : Str) (os : List Opd) (seen : Option Bool) (vs : List Value) (h1 h2 : Int) (j1 j2 t : Tok) (n n' : Nat) (k2 : Int) (t2 : Tok) (tl : List (Addr × Obj)) (h' : Heap) (tk' : Nat), Fr h₀ L h' (fun y => if y = Str.ofString "is_seen" then some (seenV seen) else if y = Str.ofString "operation" then some (.ref op) else m y) →
      News h₀ L h' ((pl, listOf [Value.int k2 t2].toArray np) :: (NW ++ tl)) → (∀ q ∈ (pl, listOf [Value.int k2 t2].toArray np) :: NW, ∀ p ∈ tl, q.1 < p.1) → k ≤ k2 → k2 ≤ k + 4 → OpIn PySem.Challenge.rw_og0159_01.row.prog w tl op x os d l vs h1 h2 j1 j2 t n n' → DrawnOk x os seen → PySem.PyData.strOk x = true → opsOk os = true → Q .next { s with heap := h', toks := tk' }) :
    wpAny (model PySem.Challenge.rw_og0159_01.row.prog w) (ktrTop dp un gd (Str.ofString "law") tp.1.sc L a ccd [] outer) (exec tp.1.s1 (envOf (Str.ofString "law") tp.1.sc L a ccd)) Q E s := by
  revert X
  k_fill
  intro X
  try dsimp only [tp]
  repeat' (first | ((fail_if_success (with_reducible show wpAny _ _ (call (Value.ref 350) _) _ _ _)); first | walk1 | (dsimp only; walk1) | (k_unfold; (try dsimp only))) | fail "no step")
  refine drawn_ok _ _ _ _ _ _ _ _ _ _ _ _ _ _ _ _ _ _ _ _ _ _ _ hT off k0 k9 _ _ _ _ _ _ _ _ _ _ _ _ _ _ _ _ _ _ _ _ _ _ B (by k_asm) X (by k_asm) T rfl (by omega) (by omega) ?_
  intro r tl x os seen k2 t2 h' tk' F' N' lt' ka kb hD hok sx so
  obtain ⟨T', op, d, l, vs, h1, h2, j1, j2, t, n, n', nT, rfl, hT', hO⟩ := hD
  have hm9 : (T', ({ cls := .type "tuple", data := .seq [.ref op, seenV seen].toArray nT } : Obj)) ∈ (pl, listOf [Value.int k2 t2].toArray np) :: (NW ++ tl) := .tail _ (List.mem_append_right _ hT')
  k_steps
  exact hQ op d l x os seen vs h1 h2 j1 j2 t n n' k2 t2 tl _ _ (by k_asm) (by k_asm) lt' ka kb hO hok sx so
end
section
local macro_rules | `(tactic| walk_at "compareOp NotEq ref ref") => `(tactic| (k_here; k_dflt (refine' ne_nil (by k_asm) (DatIn.list (by k_mem) (ints_dat (by assumption))) (fun _ hp => hp) (DatIn.list (by k_mem) .nil) (fun _ hp => hp) (dOk_ints _) ?u ?_; (case u => k_units); k_whole)))
local macro_rules | `(tactic| walk_at "call builtin:list.pop") => `(tactic| (k_here; (with_reducible show wpAny _ _ (call (Value.builtin _) [Value.ref _]) _ _ _); k_dflt (refine' kpa_pop ?F ?N ?U ?i ?l ?z ?_; (case F => k_asm); (case N => k_asm); (case U => k_upd); (case i => assumption); (case l => exact ne_pos (by assumption) (by assumption)); (case z => (rw [sizeLine_eq]; omega))); (intro h' t' F' N' hI'; (try dsimp only [List.nil_append, List.cons_append] at N'))))
local macro_rules | `(tactic| walk_at "compareOp NotEq ref ref") => `(tactic| (k_here; k_dflt (refine' ne_nil (by k_asm) (DatIn.list (by k_mem) (bvs_dat _)) (fun _ hp => hp) (DatIn.list (by k_mem) .nil) (fun _ hp => hp) (dOk_bools _) ?u ?_; (case u => k_units); k_whole)))

theorem last_bools : ∀ {bs : List Bool}, bs ≠ [] → ∃ b, kl_last (bvs bs) = some (bvs bs.dropLast, .bool b) := by
  intro bs h
  refine ⟨bs.getLast h, ?_⟩
  have e : bvs bs = bvs bs.dropLast ++ [.bool (bs.getLast h)] := by
    rw [bvs_add, List.dropLast_concat_getLast h]
  rw [e]
  exact kpa_last _ _
theorem pop_bools {prog : Program} {w : World} {A : Around} {E : Value → Shared → Prop} {s : Shared} {h₀ : Heap} {L D : Addr} {m : Str → Option Value} {news news' : List (Addr × Obj)} {n : Nat} {bs : List Bool} {Q : Value → Shared → Prop} (F : Fr h₀ L s.heap m) (N : News h₀ L s.heap news) (U : Upd D (listOf (bvs bs).toArray n) (listOf (bvs bs.dropLast).toArray (n + 1)) news news')
    (hne : (List.map Dat.bool bs).isEmpty = false) (hz : bs.length ≤ 60) (h : ∀ h' b, Fr h₀ L h' m → News h₀ L h' news' → Q (.bool b) { s with heap := h' }) : wpAny (model prog w) A (call (.builtin "list.pop") [.ref D]) Q E s := by
  obtain ⟨b, e⟩ := last_bools (bs := bs) (by rintro rfl; simp at hne)
  exact kl_pop F N (p := bvs bs.dropLast) (y := .bool b) (by simpa using e) U (by rw [List.toList_toArray, bvs_len, sizeLine_eq]; omega) fun h' F' N' => h h' b F' N'
local macro_rules | `(tactic| walk_at "call builtin:list.pop") => `(tactic| (k_here; (with_reducible show wpAny _ _ (call (Value.builtin _) [Value.ref _]) _ _ _); k_dflt (refine' pop_bools ?F ?N ?U ?l ?z ?_; (case F => k_asm); (case N => k_asm); (case U => k_upd); (case l => assumption); (case z => assumption)); (intro h' b' F' N'; (try dsimp only [List.nil_append, List.cons_append] at N'))))

local macro_rules | `(tactic| walk_at "call builtin:len") => `(tactic| (k_here; (with_reducible show wpAny _ _ (call (Value.builtin "len") [Value.ref _]) _ _ _); k_dflt (refine' kst_len ?k1 ?k2 ?k3 ?k4 ?_; (case k1 => k_asm); (case k2 => k_mem); (case k3 => assumption); (case k4 => omega)); k_whole))
local macro_rules | `(tactic| walk_at "call ref") => `(tactic| (k_here; (with_reducible show wpAny _ _ (call (Value.ref 299) _) _ _ _); k_dflt (refine' Gives.use (shown_ok _ _ _ _ _ _ _ _ _ _ _ _ _ _ _ ?kh) ?k1 ?k2 ?k3 ?k4 ?k5 ?k6 ?k7 ?k8 ?_; (case k1 => k_asm); (case k2 => k_asm); (case k3 => k_asm); (case k4 => k_asm); (case kh => (refine OpIn.mono (by assumption) ?_; intro p' hp'; repeat (first | exact hp' | refine List.Mem.tail _ ?_))); (case k5 => k_asm); (case k6 => exact rfl); (case k7 => k_room); (case k8 => k_units); k_whole); intro r' tl' h' tk' F' N' lt' out'; (obtain ⟨e1', e2'⟩ := out'; subst e1'; subst e2'); (try simp only [List.append_nil] at N'); (try k_sweep)))
local macro_rules | `(tactic| walk_at "subscriptTail Name Constant ref int") => `(tactic| (k_here; k_dflt (refine kim_list (k := 0) (by k_asm) (by k_mem) rfl rfl (by decide) (by decide) rfl ?_)))
local macro_rules | `(tactic| walk_at "subscriptTail Attribute Name Constant ref int") => `(tactic| (k_here; k_dflt (refine kim_list (k := 0) (by k_asm) (by k_mem) rfl rfl (by decide) (by decide) rfl ?_)))

theorem nb_mk {x : Str} {a : Str} (h : (x == a) = true) {P : Str → Prop} (p : P a) : P x := by rw [eq_of_beq h]; exact p
theorem ne_mk {x a b : Str} (h : (x == a) = true) (e : (a == b) = false) : (x == b) = false := by rw [eq_of_beq h]; exact e

def nbOf (x : Str) (os : List Opd) (bs : List Bool) : List Bool := if (x == Str.ofString "BDC") = true ∨ (x == Str.ofString "BMC") = true then bs ++ [shownOf x os] else if (x == Str.ofString "EMC") = true then bs.dropLast else bs
def niOf (x : Str) (m : Int) (is : List Int) : List Int := if (x == Str.ofString "q") = true then is ++ [m] else if (x == Str.ofString "Q") = true then is.dropLast else is
def nmOf (x : Str) (os : List Opd) (is : List Int) (m : Int) : Int := if (x == Str.ofString "Q") = true ∧ is ≠ [] then is.getLastD 0 else if (x == Str.ofString "Tr") = true then trMode os m else m

set_option maxHeartbeats 2000000 in
theorem s3_ok {w : World} {h₀ : Heap} {L : Addr} {m₀ : Str → Option Value} {f : Fix} {ba : List (Addr × Obj)} {o : Opn} {c : Mid} {m : Str → Option Value} {R : List (Addr × Obj)} 
    {p : Program} {loose : List Str} {mean : ExcName → Option Value} {mg mb : Str → Option Value} {dp un : Nat} {gd : Option (List Code)} {a : Addr} {ccd : Value} {outer : List Env} {A₀ : Around} {base : Heap} {s : Shared} {Q : Flow → Shared → Prop} {E : Value → Shared → Prop}
    (B : Below A₀ base outer h₀) (X : (pre.heap_1_41 w.params).In h₀) (T : Top p loose mean mg mb h₀) (hdp : dp + 40 < recursionLimit) (hun : un + 500 < cLine) (S : Sta w h₀ L m₀ f ba o c m s.heap R) (hl : c.sb.length ≤ 60) (hl2 : c.sv.length ≤ 60)
    (hQ : ∀ sb' si' sv' sm' t1' n1' n2' h' tk', sb' = nbOf o.x o.os c.sb → si' = niOf o.x c.sm c.si → sm' = nmOf o.x o.os c.si c.sm → Sta w h₀ L m₀ f ba o { c with sb := sb', si := si', sv := sv', sm := sm', t1 := t1', n1 := n1', n2 := n2' } m h' R → Q .next { s with heap := h', toks := tk' }) :
    wpAny (model PySem.Challenge.rw_og0159_01.row.prog w) (ktrTop dp un gd (Str.ofString "law") tp.1.sc L a ccd [] outer) (exec tp.1.s3 (envOf (Str.ofString "law") tp.1.sc L a ccd)) Q E s := by
  revert X
  k_fill
  intro X
  have ⟨F, N, off, ⟨p1, p2, p3, p4, p5, p6⟩, sub, mm, mo, mz, mp, md, mg9, ms, mb, opn, bef, ia, ib⟩ := id S
  obtain ⟨pl, sd, ml, ol, lo, sg, fh1, fh2, fh3, fk1, fk2, fk3⟩ := f
  obtain ⟨k, tk, np, sb, si, sv, sm, t1, lb, li, lv, lm, t2, la, n1, n2, n3, n4⟩ := c
  obtain ⟨op, d, l, x, os, seen, vs, h1, h2, k1, k2, t, n, n', bf⟩ := o
  dsimp only at *
  have o1 : ∀ q ∈ R, q.1 ≠ lo := fun q hq => (off q hq).1
  have o2 : ∀ q ∈ R, q.1 ≠ la := fun q hq => (off q hq).2.1
  have o3 : ∀ q ∈ R, q.1 ≠ ol := fun q hq => (off q hq).2.2.1
  have o4 : ∀ q ∈ R, q.1 ≠ ml := fun q hq => (off q hq).2.2.2.1
  have o5 : ∀ q ∈ R, q.1 ≠ sg := fun q hq => (off q hq).2.2.2.2.1
  have o6 : ∀ q ∈ R, q.1 ≠ sd := fun q hq => (off q hq).2.2.2.2.2
  have hm1 := opn.obj
  have hm2 := opn.dict
  have hm3 := opn.lst
  have hlen := opn.all.length
  have hfew := opn.few
  try dsimp only [tp]
  have hbl := bvs_len sb
  dsimp only [sdObj] at N
  have hall := opn.all
  repeat' (first | ((fail_if_success (with_reducible show wpAny _ _ (compareOp .NotEq (Value.ref _) (Value.ref _)) _ _ _)); (fail_if_success (with_reducible show wpAny _ _ (call (Value.builtin "len") _) _ _ _)); first | (k_unfold; (try dsimp only)) | ((with_reducible show wpAny _ _ (exec _ _) _ _ _); k_fold) | walk1 | (dsimp only; walk1)) | fail "no step")
  · have hx : (x == Str.ofString "BDC") = true := by assumption
    rename News h₀ L _ _ => N9
    rw [List.push_toArray, bvs_add] at N9
    exact hQ _ _ _ _ _ _ _ _ _ (nb_mk hx (P := fun x => sb ++ [shownOf x os] = nbOf x os sb) rfl) (nb_mk hx (P := fun x => si = niOf x sm si) rfl) (nb_mk hx (P := fun x => sm = nmOf x os si sm) rfl) { S with F := by k_asm, N := N9 }
  · have hx : (x == Str.ofString "BMC") = true := by assumption
    rename News h₀ L _ _ => N9
    rw [List.push_toArray, bvs_add] at N9
    exact hQ _ _ _ _ _ _ _ _ _ (nb_mk hx (P := fun x => sb ++ [shownOf x os] = nbOf x os sb) rfl) (nb_mk hx (P := fun x => si = niOf x sm si) rfl) (nb_mk hx (P := fun x => sm = nmOf x os si sm) rfl) { S with F := by k_asm, N := N9 }
  · have hx : (x == Str.ofString "EMC") = true := by assumption
    have y4 : (x == Str.ofString "q") = false := ne_mk hx (by decide)
    have y5 : (x == Str.ofString "Q") = false := ne_mk hx (by decide)
    have y6 : (x == Str.ofString "Tr") = false := ne_mk hx (by decide)
    k_steps
    · rename (List.map Dat.bool sb).isEmpty = true => e9
      have e8 : sb = sb.dropLast := by cases sb with
        | nil => rfl
        | cons _ _ => simp at e9
      exact hQ _ _ _ _ _ _ _ _ _ (e8.trans (nb_mk hx (P := fun x => sb.dropLast = nbOf x os sb) rfl)) (nb_mk hx (P := fun x => si = niOf x sm si) rfl) (nb_mk hx (P := fun x => sm = nmOf x os si sm) rfl) { S with F := by k_asm, N := n_tail (by k_asm) }
    · exact hQ _ _ _ _ _ _ _ _ _ (nb_mk hx (P := fun x => sb.dropLast = nbOf x os sb) rfl) (nb_mk hx (P := fun x => si = niOf x sm si) rfl) (nb_mk hx (P := fun x => sm = nmOf x os si sm) rfl) { S with F := by k_asm, N := n_tail (by k_asm) }
  · have hx : (x == Str.ofString "q") = true := by assumption
    rename News h₀ L _ _ => N9
    rw [List.push_toArray] at N9
    exact hQ _ _ _ _ _ _ _ _ _ (nb_mk hx (P := fun x => sb = nbOf x os sb) rfl) (nb_mk hx (P := fun x => si ++ [sm] = niOf x sm si) rfl) (nb_mk hx (P := fun x => sm = nmOf x os si sm) rfl) { S with F := by k_asm, N := N9, ia := ia.append (.cons _ _ .nil) }
  · have hx : (x == Str.ofString "Q") = true := by assumption
    have y6 : (x == Str.ofString "Tr") = false := ne_mk hx (by decide)
    k_steps
    · rename (List.map Dat.int si).isEmpty = true => e9
      have e8 : si = si.dropLast := by cases si with
        | nil => rfl
        | cons _ _ => simp at e9
      have e7 : ¬ ((x == Str.ofString "Q") = true ∧ si ≠ []) := fun h => h.2 (by cases si with
        | nil => rfl
        | cons _ _ => simp at e9)
      exact hQ _ _ _ _ _ _ _ _ _ (nb_mk hx (P := fun x => sb = nbOf x os sb) rfl) (e8.trans (nb_mk hx (P := fun x => si.dropLast = niOf x sm si) rfl)) (((if_neg e7).trans (if_neg (ne_true_of_eq_false y6))).symm) { S with F := by k_asm, N := n_tail (by k_asm) }
    · rename (List.map Dat.int si).isEmpty = false => e9
      have e8 : si ≠ [] := by rintro rfl; simp at e9
      exact hQ _ _ _ _ _ _ _ _ _ (nb_mk hx (P := fun x => sb = nbOf x os sb) rfl) (nb_mk hx (P := fun x => si.dropLast = niOf x sm si) rfl) (if_pos ⟨hx, e8⟩).symm { S with F := by k_asm, N := n_tail (by k_asm), ia := by assumption }
  · have hx : (x == Str.ofString "Tr") = true := by assumption
    repeat' (first | ((fail_if_success (with_reducible show wpAny _ _ (subscriptTail _ _ (Value.ref l) _) _ _ _)); first | (k_unfold; (try dsimp only)) | ((with_reducible show wpAny _ _ (exec _ _) _ _ _); k_fold) | walk1 | (dsimp only; walk1)) | fail "no step")
    · rename (os.length : Int) = 1 => e9
      obtain ⟨o9, rfl⟩ := one_of e9
      have hb9 : sb = nbOf x [o9] sb := nb_mk hx (P := fun x => sb = nbOf x [o9] sb) rfl
      have hm9 : trMode [o9] sm = nmOf x [o9] si sm := nb_mk hx (P := fun x => trMode [o9] sm = nmOf x [o9] si sm) rfl
      have hi9 : si = niOf x sm si := nb_mk hx (P := fun x => si = niOf x sm si) rfl
      cases hall with
      | cons h9 h8 =>
      cases h8
      cases h9
      all_goals dsimp only [trMode] at hm9
      all_goals k_steps
      · exact hQ _ _ _ _ _ _ _ _ _ hb9 hi9 hm9 { S with F := by k_asm, N := by k_asm }
      · exact hQ _ _ _ _ _ _ _ _ _ hb9 hi9 hm9 { S with F := by k_asm, N := by k_asm }
      · exact hQ _ _ _ _ _ _ _ _ _ hb9 hi9 hm9 { S with F := by k_asm, N := by k_asm }
      · exact hQ _ _ _ _ _ _ _ _ _ hb9 hi9 hm9 { S with F := by k_asm, N := by k_asm }
    · rename ¬ (os.length : Int) = 1 => e9
      exact hQ _ _ _ _ _ _ _ _ _ (nb_mk hx (P := fun x => sb = nbOf x os sb) rfl) (nb_mk hx (P := fun x => si = niOf x sm si) rfl) ((trMode_of (fun i e => e9 (by rw [e]; rfl))).symm.trans (nb_mk hx (P := fun x => trMode os sm = nmOf x os si sm) rfl)) { S with F := by k_asm, N := by k_asm }
  · have y1 : (x == Str.ofString "BDC") = false := by assumption
    have y2 : (x == Str.ofString "BMC") = false := by assumption
    have y3 : (x == Str.ofString "EMC") = false := by assumption
    have y4 : (x == Str.ofString "q") = false := by assumption
    have y5 : (x == Str.ofString "Q") = false := by assumption
    have y6 : (x == Str.ofString "Tr") = false := by assumption
    exact hQ _ _ _ _ _ _ _ _ _ (by simp [nbOf, y1, y2, y3]) (by simp [niOf, y4, y5]) (by simp [nmOf, y5, y6]) { S with F := by k_asm, N := by k_asm }
end
end
def lbOf (x : Str) (seen : Option Bool) (bs : List Bool) : List Bool := if (x == Str.ofString "EMC") = true then (match seen with | some b => bs ++ [b] | none => bs).dropLast else (match seen with | some b => bs ++ [b] | none => bs)
theorem lb_nb {x : Str} {os : List Opd} {seen : Option Bool} {bs : List Bool} (h : DrawnOk x os seen) : lbOf x seen bs = nbOf x os bs := by
  cases h with
  | opened h e => subst e; rcases h with rfl | rfl <;> rfl
  | emc => rfl
  | q => rfl
  | bq => rfl
  | tr1 _ _ => rfl
  | tr2 => rfl
  | tr3 => rfl
  | tr4 => rfl
  | tr5 => rfl
  | other h =>
    obtain ⟨h1, h2, h3, _⟩ := h
    simp [lbOf, nbOf, h1, h2, h3]
def li1 (x : Str) (m : Int) (is : List Int) : List Int := if (x == Str.ofString "q") = true then is ++ [m] else is
def li2 (x : Str) (m : Int) (is : List Int) : List Int := if (x == Str.ofString "Q") = true then (li1 x m is).dropLast else li1 x m is
def lm1 (x : Str) (m : Int) (is : List Int) : Int := if (x == Str.ofString "Q") = true ∧ li1 x m is ≠ [] then (li1 x m is).getLastD 0 else m
def lm2 (x : Str) (os : List Opd) (m : Int) (is : List Int) : Int := if (x == Str.ofString "Tr") = true then trMode os (lm1 x m is) else lm1 x m is
theorem li_ni {x : Str} {os : List Opd} {seen : Option Bool} {m : Int} {is : List Int} (h : DrawnOk x os seen) : li2 x m is = niOf x m is := by
  cases h with
  | opened h e => rcases h with rfl | rfl <;> rfl
  | emc => rfl
  | q => rfl
  | bq => rfl
  | tr1 _ _ => rfl
  | tr2 => rfl
  | tr3 => rfl
  | tr4 => rfl
  | tr5 => rfl
  | other h =>
    obtain ⟨h1, h2, h3, h4, h5, h6⟩ := h
    simp [li2, li1, niOf, h4, h5]
theorem lm_nm {x : Str} {os : List Opd} {seen : Option Bool} {m : Int} {is : List Int} (h : DrawnOk x os seen) : lm2 x os m is = nmOf x os is m := by
  cases h with
  | opened h e => rcases h with rfl | rfl <;> rfl
  | emc => rfl
  | q => rfl
  | bq => rfl
  | tr1 _ _ => rfl
  | tr2 => rfl
  | tr3 => rfl
  | tr4 => rfl
  | tr5 => rfl
  | other h =>
    obtain ⟨h1, h2, h3, h4, h5, h6⟩ := h
    simp [lm2, lm1, nmOf, h5, h6]
theorem nb_len (x : Str) (os : List Opd) (bs : List Bool) : (nbOf x os bs).length ≤ bs.length + 1 := by
  unfold nbOf; repeat' split
  all_goals simp
  omega
theorem ni_len (x : Str) (m : Int) (is : List Int) : (niOf x m is).length ≤ is.length + 1 := by
  unfold niOf; repeat' split
  all_goals simp
  omega
theorem ni_ok {x : Str} {m : Int} {is : List Int} (hm : okMode m) (h : ∀ i ∈ is, okMode i) : ∀ i ∈ niOf x m is, okMode i := by
  unfold niOf; repeat' split
  · intro i hi
    rcases List.mem_append.mp hi with hi | hi
    · exact h i hi
    · rw [List.mem_singleton.mp hi]; exact hm
  · exact fun i hi => h i (List.dropLast_subset _ hi)
  · exact h
theorem tr_ok {os : List Opd} {seen : Option Bool} {m : Int} (h : DrawnOk (Str.ofString "Tr") os seen) (hm : okMode m) : okMode (trMode os m) := by
  generalize e : Str.ofString "Tr" = x at h
  cases h with
  | opened h _ => rcases h with h | h <;> exact absurd (e.trans h) (by decide)
  | emc => exact absurd e (by decide)
  | q => exact absurd e (by decide)
  | bq => exact absurd e (by decide)
  | tr1 a b => exact ⟨a, b⟩
  | tr2 => exact hm
  | tr3 => exact hm
  | tr4 => exact hm
  | tr5 => exact hm
  | other h => exact absurd e.symm h.2.2.2.2.2
theorem last_mem : ∀ {is : List Int}, is ≠ [] → is.getLastD 0 ∈ is
  | [], h => absurd rfl h
  | a :: r, _ => by
    rw [List.getLastD_cons]
    cases r with
    | nil => exact .head _
    | cons b r => exact .tail _ (by
        have : (b :: r).getLastD a = (b :: r).getLast (List.cons_ne_nil _ _) := by simp [List.getLastD]
        rw [this]; exact List.getLast_mem _)
theorem nm_ok {x : Str} {os : List Opd} {seen : Option Bool} {m : Int} {is : List Int} (h : DrawnOk x os seen) (hm : okMode m) (hi : ∀ i ∈ is, okMode i) : okMode (nmOf x os is m) := by
  unfold nmOf; repeat' split
  · rename_i e; exact hi _ (last_mem e.2)
  · rename_i e
    have e' : x = Str.ofString "Tr" := by simpa using e
    subst e'
    exact tr_ok h hm
  · exact hm
theorem seen_shown {x : Str} {os : List Opd} {seen : Option Bool} (h : DrawnOk x os seen) : ∀ b, seen = some b → b = shownOf x os := by
  intro b e
  cases h with
  | opened _ q => cases e; exact q
  | _ => cases e
section
variable {w : World} {h₀ : Heap} {L : Addr} {m₀ : Str → Option Value} {f : Fix} {ba own news : List (Addr × Obj)} {o : Opn} {c : Mid} {m : Str → Option Value} {h : Heap} {R : List (Addr × Obj)}
theorem Sta.end (S : Sta w h₀ L m₀ f ba o c m h R) {i : Nat} {s : Shared} {tk : Nat} {np : Nat} {k2 : Int} {t2 : Tok} (hb : ∀ p ∈ (f.pl, listOf #[Value.int k2 t2] np) :: (news ++ own), p ∈ ba)
    (sep : ∀ p ∈ (f.pl, listOf #[Value.int k2 t2] np) :: news, ∀ q ∈ own, p.1 ≠ q.1) (e1 : c.sb = c.lb) (e2 : c.si = c.li) (e3 : c.sm = c.lm)
    (k0 : 0 ≤ k2) (k1 : k2 ≤ 1 + 4 * ((i + 1 : Nat) : Int)) (bl : c.sb.length ≤ i + 1) (il : c.si.length ≤ i + 1) (im : ∀ m ∈ c.si, okMode m) (md : okMode c.sm) :
    EndM h₀ L (KstS (letLed f.pl f.sd f.ml f.ol f.lo f.sg f.h1 f.h2 f.h3 f.k1 f.k2 f.k3 3 news) letPs (fun _ => True) (Str.ofString "turn") letSt m₀ (fun _ c => LetOk (i + 1) c ∧ ApartL f.pl f.sd f.ml f.ol f.lo f.sg news c.la) []) own s { s with heap := h, toks := tk } := by
  obtain ⟨k, tk9, np9, sb, si, sv, sm, t1, lb, li, lv, lm, t2', la, n1, n2, n3, n4⟩ := c
  dsimp only at e1 e2 e3 bl il im md
  subst e1; subst e2; subst e3
  refine ⟨h, tk, m, _, _, rfl, S.F, S.N, ?_, ?_, ?_, ⟨k2, t2, np, sb, si, sv, lv, sm, t1, t2', la, n1, n2, n3, n4⟩, rfl, trivial, ?_, ?_, ⟨k0, k1, bl, il, S.ia, S.ib, im, md⟩, ⟨S.ap.2.2.2.2.1, S.ap.2.2.2.2.2⟩⟩
  · intro p hp
    simp only [letLed, List.mem_cons] at hp
    rcases hp with hp | hp | hp | hp | hp | hp | hp | hp
    · rw [hp]; exact .head _
    · rw [hp]; exact .tail _ (.head _)
    · rw [hp]; exact .tail _ (.tail _ (.head _))
    · rw [hp]; exact .tail _ (.tail _ (.tail _ (.head _)))
    · rw [hp]; exact .tail _ (.tail _ (.tail _ (.tail _ (.head _))))
    · rw [hp]; exact .tail _ (.tail _ (.tail _ (.tail _ (.tail _ (.head _)))))
    · exact .tail _ (.tail _ (.tail _ (.tail _ (.tail _ (.tail _ (S.sub p (hb p (by rw [hp]; exact .head _))))))))
    · exact .tail _ (.tail _ (.tail _ (.tail _ (.tail _ (.tail _ (S.sub p (hb p (.tail _ (List.mem_append_left _ hp)))))))))
  · intro p hp
    exact .tail _ (.tail _ (.tail _ (.tail _ (.tail _ (.tail _ (S.sub p (hb p (.tail _ (List.mem_append_right _ hp)))))))))
  · intro p hp q hq
    have z := S.off q (S.sub q (hb q (.tail _ (List.mem_append_right _ hq))))
    simp only [letLed, List.mem_cons] at hp
    rcases hp with hp | hp | hp | hp | hp | hp | hp | hp
    · rw [hp]; exact z.1.symm
    · rw [hp]; exact z.2.1.symm
    · rw [hp]; exact z.2.2.1.symm
    · rw [hp]; exact z.2.2.2.1.symm
    · rw [hp]; exact z.2.2.2.2.1.symm
    · rw [hp]; exact z.2.2.2.2.2.symm
    · exact sep p (by rw [hp]; exact .head _) q hq
    · exact sep p (.tail _ hp) q hq
  · intro p hp
    simp only [letPs, List.mem_cons, List.not_mem_nil, or_false] at hp
    rcases hp with rfl | rfl
    · exact S.mm
    · exact S.mo
  · intro z h1 h2 h3
    exact S.mz z h1 (h2 _ (.head _)) (h2 _ (.tail _ (.head _))) h3
end
set_option maxHeartbeats 2000000 in
theorem turn_ok {w : World} {h₀ : Heap} {L : Addr} {m₀ : Str → Option Value} {pl sd ml ol lo sg : Addr} {h1 h2 h3 : Int} {k1 k2 k3 : Tok} {news own : List (Addr × Obj)}
    {p : Program} {loose : List Str} {mean : ExcName → Option Value} {mg mb : Str → Option Value} {dp un : Nat} {gd : Option (List Code)} {a : Addr} {ccd : Value} {outer : List Env} {A₀ : Around} {base : Heap} {s : Shared} {Q : Flow → Shared → Prop} {E : Value → Shared → Prop}
    {fa tc cp cc D : Addr} {oc ocp occ : Obj} {vsc : Array Value} {tq : Tok} {qual : Str} {dc pm ct : Value} {vs : List Value} {cs : List Int} {nD : Nat}
    (B : Below A₀ base outer h₀) (X : (pre.heap_1_41 w.params).In h₀) (T : Top p loose mean mg mb h₀) (hdp : dp + 40 < recursionLimit) (hun : un + 500 < cLine)
    (hT : TakeIn w news fa pl tc cp cc D oc ocp occ vsc tq qual dc pm ct vs cs nD) (offA : ∀ q ∈ news, q.1 ≠ pl) (ap : Apart pl sd ml ol lo sg news)
    (mt : m₀ (Str.ofString "take") = some (.ref fa)) (mg9 : m₀ (Str.ofString "sight") = some (.ref sg)) (mm : m₀ (Str.ofString "modes") = some (.ref lo))
    (i : Nat) (c : Let) (kk : Int) (t : Tok) (u : Str → Option Value) (hi : i < 21) (sep : ∀ p ∈ letLed pl sd ml ol lo sg h1 h2 h3 k1 k2 k3 3 news c, ∀ q ∈ own, p.1 ≠ q.1) (ok : LetOk i c) (al : ApartL pl sd ml ol lo sg news c.la)
    (F : Fr h₀ L s.heap (fun y => if y = Str.ofString "turn" then some (.int kk t) else kstB (fun z => if letSt.contains z then u z else m₀ z) (letPs c) y)) (N : News h₀ L s.heap (letLed pl sd ml ol lo sg h1 h2 h3 k1 k2 k3 3 news c ++ own)) :
    wpAny (model PySem.Challenge.rw_og0159_01.row.prog w) (ktrTop dp un gd (Str.ofString "law") tp.1.sc L a ccd [] outer) (execs [tp.1.s1, tp.1.s2, tp.1.s3, tp.1.s4, tp.1.s5, tp.1.s6, tp.1.s7, tp.1.s8, tp.1.s9, tp.1.s10, tp.1.s11] (envOf (Str.ofString "law") tp.1.sc L a ccd))
      (PostM h₀ L (KstS (letLed pl sd ml ol lo sg h1 h2 h3 k1 k2 k3 3 news) letPs (fun _ => True) (Str.ofString "turn") letSt m₀ (fun _ c => LetOk (i + 1) c ∧ ApartL pl sd ml ol lo sg news c.la) []) own s Q) E s := by
  obtain ⟨k, tk, np, bs, is, va, vb, md, t1, t2, la, n1, n2, n3, n4⟩ := c
  obtain ⟨ok0, ok1, okb, oki, ia, ib, im, omd⟩ := ok
  obtain ⟨a1, a2⟩ := al
  obtain ⟨q1, q2, q3, q4, q6, qo⟩ := ap
  dsimp only at *
  dsimp only [letLed, letPs, kstB, List.cons_append] at N F sep
  have N1 : News h₀ L s.heap ((pl, listOf [Value.int k tk].toArray np) :: ((lo, listOf vb.toArray n4) :: (la, listOf (bvs bs).toArray n3) :: (ol, listOf va.toArray n2) :: (ml, listOf (bvs bs).toArray n1) :: (sg, instObj 330 sd) :: (sd, dictOf [⟨h1, .str (Str.ofString "marks") k1, .ref ml⟩, ⟨h2, .str (Str.ofString "modes") k2, .ref ol⟩, ⟨h3, .str (Str.ofString "mode") k3, .int md t1⟩] 3) :: (news ++ own))) := by
    intro p hp
    refine N p ?_
    simp only [List.mem_cons] at hp ⊢
    rcases hp with h | h | h | h | h | h | h | h <;> simp [h]
  have len1 := ia.length
  have len2 := ib.length
  have offN : ∀ q ∈ ((lo, listOf vb.toArray n4) :: (la, listOf (bvs bs).toArray n3) :: (ol, listOf va.toArray n2) :: (ml, listOf (bvs bs).toArray n1) :: (sg, instObj 330 sd) :: (sd, dictOf [⟨h1, .str (Str.ofString "marks") k1, .ref ml⟩, ⟨h2, .str (Str.ofString "modes") k2, .ref ol⟩, ⟨h3, .str (Str.ofString "mode") k3, .int md t1⟩] 3) :: (news ++ own)), q.1 ≠ pl := by
    intro q hq
    simp only [List.mem_cons, List.mem_append] at hq
    rcases hq with h | h | h | h | h | h | h | h
    · rw [h]; exact neN (by dsimp only; omega)
    · rw [h]; exact neN (by dsimp only; omega)
    · rw [h]; exact neN (by dsimp only; omega)
    · rw [h]; exact neN (by dsimp only; omega)
    · rw [h]; exact neN (by dsimp only; omega)
    · rw [h]; exact neN (by dsimp only; omega)
    · exact offA q h
    · exact (sep (pl, listOf #[Value.int k tk] np) (by simp) q h).symm
  refine wpAny_execs_cons (s1_core B X T hdp hun F N1 mt (hT.mono fun p hp => .tail _ (.tail _ (.tail _ (.tail _ (.tail _ (.tail _ (List.mem_append_left _ hp))))))) offN ok0 (by omega) ?_)
  intro op d l x os seen vs' g1 g2 j1 j2 t' n n' k' t2' tl h1' tk1 F1 N1' lt1 ka kb hO hok sx so
  refine wpAny_execs_cons (s2_core B X T hdp hun F1 N1' rfl (hO.mono fun p hp => .tail _ (List.mem_append_right _ hp)) ?_)
  intro tl2 bf h2' tk2 F2 N2 lt2 bef
  have S0 : Sta w h₀ L m₀ ⟨pl, sd, ml, ol, lo, sg, h1, h2, h3, k1, k2, k3⟩ ((pl, listOf #[Value.int k' t2'] np) :: (news ++ own)) ⟨op, d, l, x, os, seen, vs', g1, g2, j1, j2, t', n, n', bf⟩ ⟨k', t2', np, bs, is, va, md, t1, bs, is, vb, md, t2, la, n1, n2, n3, n4⟩ _ h2' ((pl, listOf #[Value.int k' t2'] np) :: (news ++ own) ++ (tl ++ tl2)) :=
    { F := F2
      N := by
        intro p hp
        refine N2 p ?_
        simp only [List.mem_cons, List.mem_append] at hp ⊢
        rcases hp with h | h | h | h | h | h | (h | h | h) | h | h <;> simp [h]
      off := by
        intro q hq
        simp only [List.mem_cons, List.mem_append] at hq
        rcases hq with (h | h | h) | h | h
        · rw [h]; exact ⟨neN (by dsimp only; omega), neN (by dsimp only; omega), neN (by dsimp only; omega), neN (by dsimp only; omega), neN (by dsimp only; omega), neN (by dsimp only; omega)⟩
        · have z : @LT.lt Nat _ q.1 sd := (qo q h).2
          exact ⟨neN (by dsimp only; omega), neN (by dsimp only; omega), neN (by dsimp only; omega), neN (by dsimp only; omega), neN (by dsimp only; omega), neN (by dsimp only; omega)⟩
        · exact ⟨(sep _ (.head _) q h).symm, (sep _ (.tail _ (.head _)) q h).symm, (sep _ (.tail _ (.tail _ (.head _))) q h).symm, (sep _ (.tail _ (.tail _ (.tail _ (.head _)))) q h).symm, (sep _ (.tail _ (.tail _ (.tail _ (.tail _ (.head _))))) q h).symm, (sep _ (.tail _ (.tail _ (.tail _ (.tail _ (.tail _ (.head _)))))) q h).symm⟩
        · exact ⟨Nat.ne_of_gt (lt1 _ (.tail _ (.head _)) q h), Nat.ne_of_gt (lt1 _ (.tail _ (.tail _ (.head _))) q h), Nat.ne_of_gt (lt1 _ (.tail _ (.tail _ (.tail _ (.head _)))) q h), Nat.ne_of_gt (lt1 _ (.tail _ (.tail _ (.tail _ (.tail _ (.head _))))) q h), Nat.ne_of_gt (lt1 _ (.tail _ (.tail _ (.tail _ (.tail _ (.tail _ (.head _)))))) q h), Nat.ne_of_gt (lt1 _ (.tail _ (.tail _ (.tail _ (.tail _ (.tail _ (.tail _ (.head _))))))) q h)⟩
        · exact ⟨Nat.ne_of_gt (lt2 _ (.tail _ (.head _)) q h), Nat.ne_of_gt (lt2 _ (.tail _ (.tail _ (.head _))) q h), Nat.ne_of_gt (lt2 _ (.tail _ (.tail _ (.tail _ (.head _)))) q h), Nat.ne_of_gt (lt2 _ (.tail _ (.tail _ (.tail _ (.tail _ (.head _))))) q h), Nat.ne_of_gt (lt2 _ (.tail _ (.tail _ (.tail _ (.tail _ (.tail _ (.head _)))))) q h), Nat.ne_of_gt (lt2 _ (.tail _ (.tail _ (.tail _ (.tail _ (.tail _ (.tail _ (.head _))))))) q h)⟩
      ap := ⟨q2, q3, q4, q6, a1, a2⟩
      sub := fun p hp => List.mem_append_left _ hp
      mm := rfl
      mo := rfl
      mz := fun z z1 z2 z3 z4 => by
        have y1 : z ≠ Str.ofString "before" := by rintro rfl; revert z4; decide
        have y2 : z ≠ Str.ofString "is_seen" := by rintro rfl; revert z4; decide
        have y3 : z ≠ Str.ofString "operation" := by rintro rfl; revert z4; decide
        exact (if_neg y1).trans ((if_neg y2).trans ((if_neg y3).trans ((if_neg z1).trans ((if_neg z2).trans ((if_neg z3).trans (if_neg (by rw [z4]; decide)))))))
      mp := rfl
      md := mm
      mg := mg9
      ms := rfl
      mb := rfl
      opn := hO.mono fun p hp => List.mem_append_right _ (List.mem_append_left _ hp)
      bef := bef.mono fun p hp => List.mem_append_right _ (List.mem_append_right _ hp)
      ia := ia
      ib := ib }
  refine wpAny_execs_cons (s3_ok B X T hdp hun S0 (by dsimp only; omega) (by dsimp only; omega) ?_)
  intro sb' si' sv' sm' t1' n1' n2' h3' tk3 e3a e3b e3c S3
  refine wpAny_execs_cons (s4_ok B X T hdp hun S3 (by dsimp only; omega) (seen_shown hok) ?_)
  intro lb4 n34 h4 tk4 e4 S4
  dsimp only at e3a e3b e3c e4
  have len4 : lb4.length ≤ 60 := by rw [e4]; cases seen <;> simp <;> omega
  refine wpAny_execs_cons (s5_ok B X T hdp hun S4 len4 ?_)
  intro la5 lb5 n35 m5 h5 tk5 e5 S5
  refine wpAny_execs_cons (s6_ok B X T hdp hun S5 (by dsimp only; omega) ?_)
  intro li6 lv6 n46 h6 tk6 e6 S6
  dsimp only at e5 e6
  have len6 : lv6.length ≤ 60 := by
    have := S6.ib.length
    dsimp only at this
    rw [this, e6]
    split <;> simp <;> omega
  refine wpAny_execs_cons (s7_ok B X T hdp hun S6 len6 ?_)
  intro li7 lv7 n47 lm7 t27 m7 h7 tk7 e7a e7b S7
  refine wpAny_execs_cons (s8_ok B X T hdp hun S7 ?_)
  intro m8 h8 tk8 hg S8
  refine wpAny_execs_cons (s9_ok B X T hdp hun S8 hg ?_)
  intro lm9 t29 m9 h9 tk9 e9 S9
  dsimp only at e7a e7b e9
  have f1 : sb' = lb5 := by rw [e3a, e5, e4]; exact (lb_nb hok).symm
  have f2 : si' = li7 := by rw [e3b, e7a, e6]; exact (li_ni hok).symm
  have f3 : sm' = lm9 := by rw [e3c, e9, e7b, e6]; exact (lm_nm hok).symm
  have g3 : okMode lm9 := by rw [← f3, e3c]; exact nm_ok hok omd im
  refine wpAny_execs_cons (s10_ok B X T hdp hun S9 f1 f2 f3 ?_)
  intro h10 tk10 S10
  refine wpAny_execs_cons (s11_ok B X T hdp hun S10 g3.1 g3.2 sx so ?_)
  intro h11 tk11 S11
  refine wpAny_execs_nil ?_
  refine S11.end (np := np) (k2 := k') (t2 := t2') (fun p hp => hp) (fun p hp q hq => ?_) f1 f2 f3 (by omega) (by omega) ?_ ?_ ?_ ?_
  · rcases List.mem_cons.mp hp with h | h
    · rw [h]; exact sep (pl, listOf #[Value.int k tk] np) (by simp) q hq
    · exact sep p (by simp [h]) q hq
  · show sb'.length ≤ i + 1
    rw [e3a]; exact Nat.le_trans (nb_len _ _ _) (by omega)
  · show si'.length ≤ i + 1
    rw [e3b]; exact Nat.le_trans (ni_len _ _ _) (by omega)
  · show ∀ m ∈ si', okMode m
    rw [e3b]; exact ni_ok omd im
  · show okMode sm'
    rw [f3]; exact g3
section
local macro_rules | `(tactic| k_mem) => `(tactic| (refine memOf ?_; assumption))

local macro_rules | `(tactic| k_room) => `(tactic| (simp only [depth_under_make, depth_under_kw, depth_in1, depth_deeper, depth_caller, ktrTop]; omega))
local macro_rules | `(tactic| walk_at "call ref") => `(tactic| (k_here; (with_reducible show wpAny _ _ (call (Value.ref 343) _) _ _ _); k_dflt (refine' taker_ok _ _ _ _ _ _ _ _ _ ?dp ?un _ _ _ _ _ _ _ _ _ _ _ _ _ _ _ ?k1 ?k2 ?k3 ?k4 ?k5 ?k6 ?k7 ?k8 ?k9 ?k10 ?k11 ?k12 ?k13 ?_; (case k1 => k_asm); (case k2 => k_asm); (case k3 => k_asm); (case k4 => k_asm); (case k5 => k_asm); (case k6 => first | exact rfl | assumption); (case k9 => assumption); (case k10 => assumption); (case k11 => assumption); (case k12 => assumption); (case k13 => omega); (case k7 => decide +kernel); (case k8 => decide +kernel); k_whole)))

local macro_rules | `(tactic| k_all) => `(tactic| assumption)
local macro_rules | `(tactic| k_units) => `(tactic| (simp only [units_in1, units_deeper, units_caller, ktrTop]; omega))
local macro_rules | `(tactic| walk_at "callWith ref") => `(tactic| (k_here; k_dflt (refine' callWith_F ?k1 ?_; (case k1 => exact FnAt.of (by k_asm) (by k_mem)); k_whole)))
local macro_rules | `(tactic| walk_at "call ref") => `(tactic| (k_here; (with_reducible show wpAny _ _ (call (Value.ref _) [Value.int _ _]) _ _ _); k_dflt (refine' take_use ?kh ?ko ?k1 ?k2 ?k3 ?k4 ?k5 ?k6 ?kU ?ks ?ka ?kb ?kc ?kd ?kp ?ku ?_; (case kh => assumption); (case ko => assumption); (case k1 => k_asm); (case k2 => k_asm); (case k3 => k_asm); (case k4 => k_asm); (case k5 => k_asm); (case k6 => first | exact rfl | assumption); (case kU => (intro t2'; k_upd)); (case ks => (intro p' hp'; repeat (first | exact hp' | refine List.Mem.tail _ ?_))); (case ka => omega); (case kb => omega); (case kc => decide); (case kd => decide); (case kp => decide +kernel); (case ku => decide +kernel); k_whole); intro v' t' t2' h' tk' F' N' hv0 hv1))

set_option maxHeartbeats 2000000 in
set_option rowWalk.seconds 200 in
theorem law_walk (as : List Addr) (pf : ∀ P, as = (pre.heap_1_41 P).map (·.1)) (d : DefRec) (kwd : List (Str × Expr)) (hd : defOf pre.view_1_42 (Str.ofString "law") = some (d, kwd)) :
    WalkO pre.view_1_42 [Str.ofString "PaperError", Str.ofString "told_objects", Str.ofString "_law_SEEN"] (XL pre.view_1_42 []) (kmHook pre.heap_1_41 as pf [338]).says PySem.Challenge.rw_og0159_01.row.toRowW d kwd (fun f vs => PySem.call f vs) := by
  have e0 : defOf pre.view_1_42 (Str.ofString "law") = some (_, _) := rfl
  obtain ⟨rfl, rfl⟩ : _ ∧ _ := by simpa only [Option.some.injEq, Prod.mk.injEq] using hd.symm.trans e0
  clear hd e0
  k_go0
  all_goals try k_fold
  repeat' (first | ((fail_if_success (with_reducible show wpAny _ _ (call (Value.ref 343) _) _ _ _)); (first | (k_unfold; (try dsimp only)) | (k_end; wrow_close) | walk1 | (dsimp only; walk1) | (leave1; walk_say "STEP leave1"; try dsimp only) | fail "no step")) | fail "no step")
  refine' taker_ok _ _ _ _ _ _ _ _ _ _ _ _ _ _ _ _ _ _ _ _ _ _ _ _ _ _ ?k1 ?k2 ?k3 ?k4 ?k5 ?k6 ?k7 ?k8 ?k9 ?k10 ?k11 ?k12 ?k13 ?_
  case k1 => k_asm
  case k2 => k_asm
  case k3 => k_asm
  case k4 => k_asm
  case k5 => k_asm
  case k6 => exact rfl
  case k9 => assumption
  case k10 => assumption
  case k11 => assumption
  case k12 => assumption
  case k13 => omega
  case k7 => decide +kernel
  case k8 => decide +kernel
  intro f pl c cp cc D oc ocp occ vsc tq qual dc pm ct vs' cs' nD np tk news h' tk' FA NA TA offA tabA
  obtain ⟨psA, tabA⟩ := tabA
  have hfn := TA.fn
  repeat' (first | ((fail_if_success (with_reducible show wpAny _ _ (pyIter _) _ _ _)); (first | (k_unfold; (try dsimp only)) | (k_end; wrow_close) | walk1 | (dsimp only; walk1) | (leave1; walk_say "STEP leave1"; try dsimp only) | fail "no step")) | fail "no step")
  refine' law_rng ?hh ?hr ?b0 ?b1 ?F ?N ?k0 ?k1 ?ap ?apl ?m1 ?m2 ?turn ?done
  case hh => rfl
  case hr => assumption
  case b0 => assumption
  case b1 => assumption
  case F => assumption
  case N => assumption
  case k0 => decide
  case k1 => decide
  case ap => exact ⟨by omega, by omega, by omega, by omega, by omega, fun q hq => ⟨offA q hq, kst_ltOf (And.right ‹(@LT.lt Nat _ pl _) ∧ AllLt _ news›) q hq⟩⟩
  case apl => exact ⟨by omega, by omega⟩
  case m1 => rfl
  case m2 => rfl
  case done =>
    intro c u h9 tk9 F9 N9
    iterate 4 (first | (k_unfold; (try dsimp only)) | (k_end; wrow_close) | walk1 | (dsimp only; walk1) | (leave1; walk_say "STEP leave1"; try dsimp only) | fail "no step")
    rotate_left
    · exact ⟨⟨_, (N9 _ (.tail _ (.tail _ (.tail _ (.tail _ (.tail _ (.tail _ (.tail _ tabA)))))))).1⟩, trivial⟩
    clear N9
    refine goodW_bool F9 (by assumption) (raisesW_false ?_) ?_
    · wrow_none_raised
    · wrow_post
  case turn =>
    intro i c kk t u h9 tk9 own hi sep ok al F9 N9
    refine' turn_ok ?B ?X ?T ?hdp ?hun TA offA ?ap rfl rfl rfl i c kk t u hi sep ok al F9 N9
    case B => assumption
    case X => assumption
    case T => assumption
    case hdp => decide +kernel
    case hun => decide +kernel
    case ap => exact ⟨by omega, by omega, by omega, by omega, by omega, fun q hq => ⟨offA q hq, kst_ltOf (And.right ‹(@LT.lt Nat _ pl _) ∧ AllLt _ news›) q hq⟩⟩
end
def whole.tw17667163613716643404 : Nat := 0
def whole.tw5942346508108547180 : Nat := 0
def whole.tw6612613915786651340 : Nat := 0
def whole.tw13962616709173656972 : Nat := 0
def whole.tw15189915617685484396 : Nat := 0
def whole.tw1329479340354266572 : Nat := 0
def whole.tw17659150536888882668 : Nat := 0
def whole.tw8961415085178454156 : Nat := 0
def whole.tw18174217711786252908 : Nat := 0
def whole.tw843396670912023852 : Nat := 0
def whole.tw7525632177321363660 : Nat := 0
def whole.tw6266228650988000492 : Nat := 0
def whole.tw2781955308351554444 : Nat := 0
def whole.tw18145388855558949900 : Nat := 0
def whole.tw8699793337390238261 : Nat := 0
def whole.tw7187317218736086229 : Nat := 0
def whole.tw7499365098147365621 : Nat := 0
def whole.tw16595449952281916149 : Nat := 0
def whole.tw1633898876240874773 : Nat := 0
def whole.tw8719548228035378133 : Nat := 0
def whole.tw5542149417468696053 : Nat := 0
def whole.tw14395644662136614805 : Nat := 0
def whole.tw9787344453429475573 : Nat := 0
def whole.tw14621228733418778453 : Nat := 0
def whole.tw10219327507634694686 : Nat := 0
def whole.tw14890280090424698046 : Nat := 0
def whole.tw5189780602208921310 : Nat := 0
def whole.tw13156973312945586846 : Nat := 0
def whole.tw3306209509626126654 : Nat := 0
def whole.tw1256279898242784606 : Nat := 0
def whole.tw8184708281838074206 : Nat := 0
def whole.tw4725433933799282014 : Nat := 0
def whole.tw13463558215457259582 : Nat := 0
def whole.tw12928932934922122878 : Nat := 0
def whole.tw13000713063990318526 : Nat := 0
def whole.tw437534634077163847 : Nat := 0
def whole.tw4605417425148642151 : Nat := 0
def whole.tw2665807779830099079 : Nat := 0
def whole.tw369943808078234791 : Nat := 0
def whole.tw3384858237140249800 : Nat := 0
def whole.tw3619989788208562024 : Nat := 0
def whole.tw1832333835049095048 : Nat := 0
def whole.tw18315055452531851272 : Nat := 0
def whole.tw17395194986337826024 : Nat := 0
def whole.tw14916202748087371944 : Nat := 0
def whole.tw6095937858554715304 : Nat := 0
def whole.tw17980908128825299112 : Nat := 0
def whole.tw14875044017630859624 : Nat := 0
def whole.tw14192229110069238088 : Nat := 0
def whole.tw9046693723037758376 : Nat := 0
def whole.tw3390907139478361160 : Nat := 0
def whole.tw10499325594661192776 : Nat := 0
def whole.tw7645621925510333512 : Nat := 0
def whole.tw5462770333876777704 : Nat := 0
def whole.tw8894826161267586577 : Nat := 0
def whole.tw8109663874093803249 : Nat := 0
def whole.tw17789319016849944305 : Nat := 0
def whole.tw6711224856247384401 : Nat := 0
def whole.tw949743934663060849 : Nat := 0
def whole.tw11841974853317911985 : Nat := 0
def whole.tw10339747121181971505 : Nat := 0
def whole.tw12098860561503762481 : Nat := 0
def whole.tw46433443316919834 : Nat := 0
def whole.tw4357746044423742650 : Nat := 0
def whole.tw16303177371058202746 : Nat := 0
def whole.tw17092094596097150618 : Nat := 0
def whole.tw8602141644225615130 : Nat := 0
def whole.tw8444963059077079450 : Nat := 0
def whole.tw7856580471358416282 : Nat := 0
def whole.tw15338273372565686330 : Nat := 0
def whole.tw4180466227808675834 : Nat := 0
def whole.tw4162360135600614074 : Nat := 0
def whole.tw10887019763833697050 : Nat := 0
def whole.tw10461253832287612282 : Nat := 0
def whole.tw9722750020625992282 : Nat := 0
def whole.tw5408107943391738 : Nat := 0
def whole.tw13749801708979339770 : Nat := 0
def whole.tw9347626172496877827 : Nat := 0
def whole.tw17175008800681467811 : Nat := 0
def whole.tw381110514646162275 : Nat := 0
def whole.tw3869719713472690019 : Nat := 0
def whole.tw11407776976990688227 : Nat := 0
def whole.tw14592908492388784131 : Nat := 0
def whole.tw9275439568921707171 : Nat := 0
def whole.tw9446046918361872579 : Nat := 0
def whole.tw11952309323241053379 : Nat := 0
def whole.tw3028004478679740547 : Nat := 0
def whole.tw11678933692714762019 : Nat := 0
def whole.tw16588625043399567139 : Nat := 0
def whole.tw18060336119277286115 : Nat := 0
def whole.tw10488504414272976643 : Nat := 0
def whole.tw17814491789457634051 : Nat := 0
def whole.tw11409993775148365219 : Nat := 0
def whole.tw8572516506043022915 : Nat := 0
def whole.tw1765076044715932963 : Nat := 0
def whole.tw6472696656209681604 : Nat := 0
def whole.tw4603890583814415204 : Nat := 0
def whole.tw7056001396292377188 : Nat := 0
def whole.tw13989200534822022692 : Nat := 0
def whole.tw15701146451533950532 : Nat := 0
def whole.tw10439992726400626244 : Nat := 0
def whole.tw15015764479258077956 : Nat := 0
def whole.tw2168223474955763204 : Nat := 0
def whole.tw842793390314483620 : Nat := 0
def whole.tw16342273516520970692 : Nat := 0
def whole.tw1182916100746360932 : Nat := 0
def whole.tw4689585835679557668 : Nat := 0
def whole.tw16741440440132755172 : Nat := 0
def whole.tw1317784869382153956 : Nat := 0
def whole.tw6774775609766916077 : Nat := 0
def whole.tw7101197657001211085 : Nat := 0
def whole.tw3479739002732855021 : Nat := 0
def whole.tw14031613983174702221 : Nat := 0
def whole.tw8411213810732793997 : Nat := 0
def whole.tw9521756469634577901 : Nat := 0
def whole.tw6496092161831514541 : Nat := 0
def whole.tw5137022389394785357 : Nat := 0
def whole.tw8983667203327932493 : Nat := 0
def whole.tw4447922135398794285 : Nat := 0
def whole.tw4234479992401935053 : Nat := 0
def whole.tw6531100040246800141 : Nat := 0
def whole.tw5477020428343274486 : Nat := 0
def whole.tw7185185305316088854 : Nat := 0
def whole.tw5433660331597885046 : Nat := 0
def whole.tw15089273742334493110 : Nat := 0
def whole.tw2989192609971925910 : Nat := 0
def whole.tw12384909515848061526 : Nat := 0
def whole.tw10832908153356258463 : Nat := 0
def whole.tw7545590854473540767 : Nat := 0
def whole.tw5297632933804744799 : Nat := 0
def whole.tw9838295914634562783 : Nat := 0
def whole.tw12179455670472476543 : Nat := 0
def whole.tw16501938294340090687 : Nat := 0
def whole.tw17295703372945214271 : Nat := 0
def whole.tw13760198194640045919 : Nat := 0
def whole.tw1072497446573119103 : Nat := 0
def whole.tw8615399842404961663 : Nat := 0
def whole.tw15539963934695697727 : Nat := 0
def whole.tw7509650053966640704 : Nat := 0
def whole.tw397210227534267232 : Nat := 0
def whole.tw15462414832971340256 : Nat := 0
def whole.tw6416634858453334624 : Nat := 0
def whole.tw113900542113845248 : Nat := 0
def whole.tw10379991877525085312 : Nat := 0
def whole.tw5015864234111024480 : Nat := 0
def whole.tw978456291528864041 : Nat := 0
def whole.tw9235561108164731721 : Nat := 0
def whole.tw5833760311655045577 : Nat := 0
def whole.tw17692944630003236201 : Nat := 0
def whole.tw137721658169608169 : Nat := 0
def whole.tw1902754551582867561 : Nat := 0
def whole.tw15695161780090201225 : Nat := 0
def whole.tw1470681187219097129 : Nat := 0
def whole.tw11401351377558187561 : Nat := 0
def whole.tw13213058742666125385 : Nat := 0
def whole.tw13730376311393935369 : Nat := 0
def whole.tw5405151241437436114 : Nat := 0
def whole.tw18135788421098096370 : Nat := 0
def whole.tw13155097880312403346 : Nat := 0
def whole.tw15401142651479110994 : Nat := 0
def whole.tw12077107353733055826 : Nat := 0
def whole.tw13334927893685096626 : Nat := 0
def whole.tw16026843855606243410 : Nat := 0
def whole.tw1692622564874605650 : Nat := 0
def whole.tw9625973628771424018 : Nat := 0
def whole.tw3302022795765607730 : Nat := 0
def whole.tw6377287985247879410 : Nat := 0
def whole.tw5201323674647411954 : Nat := 0
def whole.tw4918820536221260690 : Nat := 0
def whole.tw3860174431591174066 : Nat := 0
def whole.tw9406530864695525851 : Nat := 0
def whole.tw1114806542021703131 : Nat := 0
def whole.tw12562849145585476731 : Nat := 0
def whole.tw2013318861076662011 : Nat := 0
def whole.tw10602399703277881627 : Nat := 0
def whole.tw17169624498616045403 : Nat := 0
def whole.tw8868806382682364411 : Nat := 0
def whole.tw10354518954362131899 : Nat := 0
def whole.tw9200330197067421115 : Nat := 0
def whole.tw6772379921613518395 : Nat := 0
def whole.tw10000958634945066235 : Nat := 0
def whole.tw10144505478992762587 : Nat := 0
def whole.tw7276013540153241084 : Nat := 0
def whole.tw14492196311604417308 : Nat := 0
def whole.tw16668768811381343612 : Nat := 0
def whole.tw17948893368442150300 : Nat := 0
def whole.tw17991299263585117788 : Nat := 0
def whole.tw4479364801722962140 : Nat := 0
def whole.tw7868544009499267292 : Nat := 0
def whole.tw8559153523923667164 : Nat := 0
def whole.tw4934077235998201596 : Nat := 0
def whole.tw6097748072631727781 : Nat := 0
def whole.tw17075553230084287909 : Nat := 0
def whole.tw4338333698743118245 : Nat := 0
def whole.tw14654356449610600485 : Nat := 0
def whole.tw12967805889597932581 : Nat := 0
def whole.tw2959683903145980101 : Nat := 0
def whole.tw14756447051001558117 : Nat := 0
def whole.tw8243020233432551205 : Nat := 0
def whole.tw13110515450571257733 : Nat := 0
def whole.tw16912792503757511054 : Nat := 0
def whole.tw11423436602419212718 : Nat := 0
def whole.tw8181180424491326830 : Nat := 0
def whole.tw7582116766257987118 : Nat := 0
def whole.tw10178181129370835086 : Nat := 0
def whole.tw14776171463994254414 : Nat := 0
def whole.tw6888942637506950926 : Nat := 0
def whole.tw6891315699540082446 : Nat := 0
def whole.tw5532809562029925614 : Nat := 0
def whole.tw5649241889958590350 : Nat := 0
def whole.tw17128258169734466478 : Nat := 0
def whole.tw3166543957339863982 : Nat := 0
def whole.tw9775085227918541326 : Nat := 0
def whole.tw4107823604484434990 : Nat := 0
def whole.tw1469495571348798126 : Nat := 0
def whole.tw7248877203947682478 : Nat := 0
def whole.tw17179786008130999086 : Nat := 0
def whole.tw14173393766343599159 : Nat := 0
def whole.tw10467399731503315703 : Nat := 0
def whole.tw6084657873442493111 : Nat := 0
def whole.tw17700112632457955127 : Nat := 0
def whole.tw16738726308800667447 : Nat := 0
def whole.tw5985152501930238807 : Nat := 0
def whole.tw9685896690342822935 : Nat := 0
def whole.tw6453619897266653623 : Nat := 0
def whole.tw6896427876366098391 : Nat := 0
def whole.tw11116944545036436439 : Nat := 0
def whole.tw9841425051670495895 : Nat := 0
def whole.tw17529894129228449367 : Nat := 0
def whole.tw16304597587823193687 : Nat := 0
def whole.tw13285438998962464343 : Nat := 0
def whole.tw2777902329107566167 : Nat := 0
def whole.tw11791088910183784695 : Nat := 0
def whole.tw3945383572190744343 : Nat := 0
def whole.tw14671651394210877623 : Nat := 0
def whole.tw12121751950062872279 : Nat := 0
def whole.tw1021466310418864216 : Nat := 0
def whole.tw5001923725869043736 : Nat := 0
def whole.tw5938623499991607928 : Nat := 0
def whole.tw5081031077709457048 : Nat := 0
def whole.tw5438831827131416888 : Nat := 0
def whole.tw13489153976866020792 : Nat := 0
def whole.tw17781206938751360472 : Nat := 0
def whole.tw17475311184863085016 : Nat := 0
def whole.tw3150075250938504248 : Nat := 0
def whole.tw11384259339768038936 : Nat := 0
def whole.tw254780913952180833 : Nat := 0
def whole.tw6648197116569056673 : Nat := 0
def whole.tw1934810232205804993 : Nat := 0
def whole.tw10438997657263567297 : Nat := 0
def whole.tw16316554137538487329 : Nat := 0
def whole.tw10007520593648235073 : Nat := 0
def whole.tw16616245412964173377 : Nat := 0
def whole.tw4337987958061720545 : Nat := 0
def whole.tw7280849871689594849 : Nat := 0
def whole.tw12742087137024979937 : Nat := 0
def whole.tw14857529406646634625 : Nat := 0
def whole.tw17843127513448600897 : Nat := 0
def whole.tw16564990636065421569 : Nat := 0
def whole.tw1640677438868554593 : Nat := 0
def whole.tw5233578499609466721 : Nat := 0
def whole.tw4672207989499910625 : Nat := 0
def whole.tw17463027529269885953 : Nat := 0
def whole.tw1393339623888494026 : Nat := 0
def whole.tw6866068747796929802 : Nat := 0
def whole.tw16731332320388202666 : Nat := 0
def whole.tw6933715213461094250 : Nat := 0
def whole.tw13478315594510353802 : Nat := 0
def whole.tw3085902745639715626 : Nat := 0
def whole.tw11792362355297244138 : Nat := 0
def whole.tw12066178620653064874 : Nat := 0
def whole.tw14381574177426341226 : Nat := 0
def whole.tw5824933755056202634 : Nat := 0
def whole.tw15103685750691789098 : Nat := 0
def whole.tw6525215580464160042 : Nat := 0
def whole.tw8341004590406740810 : Nat := 0
def whole.tw15657491793718945610 : Nat := 0
def whole.tw16062187612904122858 : Nat := 0
def whole.tw11836910150536664915 : Nat := 0
def whole.tw16845944245580146995 : Nat := 0
def whole.tw10332575325313852403 : Nat := 0
def whole.tw5879479702872096659 : Nat := 0
def whole.tw17195952149560314771 : Nat := 0
def whole.tw675793542917168019 : Nat := 0
def whole.tw12850242359631670003 : Nat := 0
def whole.tw9024608533772062355 : Nat := 0
def whole.tw11357175057958205107 : Nat := 0
def whole.tw4163455835068889971 : Nat := 0
def whole.tw14138553856905868755 : Nat := 0
def whole.tw9733464779038806419 : Nat := 0
def whole.tw12442016628978143412 : Nat := 0
def whole.tw8799044985600393684 : Nat := 0
def whole.tw14661705875561194100 : Nat := 0
def whole.tw1242133270297695508 : Nat := 0
def whole.tw9189751539129569556 : Nat := 0
def whole.tw14877643965249282964 : Nat := 0
def whole.tw3802398583823018356 : Nat := 0
def whole.tw17992364426957274132 : Nat := 0
def whole.tw10472183733418339316 : Nat := 0
def whole.tw620233503781600244 : Nat := 0
def whole.tw12976933641374925533 : Nat := 0
def whole.tw13974613887430780637 : Nat := 0
def whole.tw4772658413541480157 : Nat := 0
def whole.tw6150244297128479101 : Nat := 0
def whole.tw3141554390599180669 : Nat := 0
def whole.tw4346055641746905949 : Nat := 0
def whole.tw1219099391390118749 : Nat := 0
def whole.tw5277582801102665213 : Nat := 0
def whole.tw10654317064775040509 : Nat := 0
def whole.tw9501391760213346845 : Nat := 0
def whole.tw12384220206497402333 : Nat := 0
def whole.tw3687826684616867901 : Nat := 0
def whole.tw7466904020207815869 : Nat := 0
def whole.tw5171116725156735389 : Nat := 0
def whole.tw11690859581915506653 : Nat := 0
def whole.tw15564212434770411261 : Nat := 0
def whole.tw12762855891700095494 : Nat := 0
def whole.tw5360207378560713126 : Nat := 0
def whole.tw2021854409746315462 : Nat := 0
def whole.tw15001587830400145190 : Nat := 0
def whole.tw1699034841665187622 : Nat := 0
def whole.tw10344827342348678470 : Nat := 0
def whole.tw10590843552420965350 : Nat := 0
def whole.tw16467933323881711526 : Nat := 0
def whole.tw13142167418276237254 : Nat := 0
def whole.tw16529046165737248422 : Nat := 0
def whole.tw2349701861695252166 : Nat := 0
def whole.tw15835130817642446534 : Nat := 0
def whole.tw1859146779660683823 : Nat := 0
def whole.tw15206955865107345967 : Nat := 0
def whole.tw12920395458479335663 : Nat := 0
def whole.tw16151222146762293071 : Nat := 0
def whole.tw14390007995909808975 : Nat := 0
def whole.tw13675596732203519343 : Nat := 0
def whole.tw10002100669626812175 : Nat := 0
def whole.tw15716183405302250479 : Nat := 0
def whole.tw7078629122812257199 : Nat := 0
def whole.tw9654072969724333583 : Nat := 0
def whole.tw14407849266092530191 : Nat := 0
def whole.tw536816803628104207 : Nat := 0
def whole.tw590541238101311183 : Nat := 0
def whole.tw1897105925431849711 : Nat := 0
def whole.tw12808456870637180559 : Nat := 0
def whole.tw9170513070990267023 : Nat := 0
def whole.tw3127163415804763599 : Nat := 0
def whole.tw8258574867067344367 : Nat := 0
def whole.tw4487652198498899664 : Nat := 0
def whole.tw6065093676875020208 : Nat := 0
def whole.tw3798757254938238448 : Nat := 0
def whole.tw13468923340822585488 : Nat := 0
def whole.tw6049599900894316688 : Nat := 0
def whole.tw13835169320686990480 : Nat := 0
def whole.tw7689902935678670512 : Nat := 0
def whole.tw715978364194892080 : Nat := 0
def whole.tw8884531897199943920 : Nat := 0
def whole.tw4909349585908861296 : Nat := 0
def whole.tw2439357469168130064 : Nat := 0
def whole.tw6823266097380344784 : Nat := 0
def whole.tw7545654013535254480 : Nat := 0
def whole.tw2083198920140632441 : Nat := 0
def whole.tw10301362462094837657 : Nat := 0
def whole.tw10838650209671834137 : Nat := 0
def whole.tw6872907005359335961 : Nat := 0
def whole.tw203428145850139289 : Nat := 0
def whole.tw17881794589497109145 : Nat := 0
def whole.tw3280129329062278201 : Nat := 0
def whole.tw3935972832432928633 : Nat := 0
def whole.tw845893999290184857 : Nat := 0
def whole.tw11124209341801176217 : Nat := 0
def whole.tw12852820008105578649 : Nat := 0
def whole.tw15274856360797078626 : Nat := 0
def whole.tw2290268214366725154 : Nat := 0
def whole.tw18162983195158539490 : Nat := 0
def whole.tw10025635815308576066 : Nat := 0
def whole.tw7977878525754885090 : Nat := 0
def whole.tw6290923202673413122 : Nat := 0
def whole.tw9121730484126507938 : Nat := 0
def whole.tw9212966250080664162 : Nat := 0
def whole.tw1488662743745869538 : Nat := 0
def whole.tw3162365515331879682 : Nat := 0
def whole.tw2536362301702204066 : Nat := 0
def whole.tw14239292526413980002 : Nat := 0
def whole.tw9951143050096045611 : Nat := 0
def whole.tw7576292583959916747 : Nat := 0
def whole.tw12092817750456807627 : Nat := 0
def whole.tw9315315907157715723 : Nat := 0
def whole.tw16576061068926947915 : Nat := 0
def whole.tw11018331769982298155 : Nat := 0
def whole.tw12381228794656768651 : Nat := 0
def whole.tw11476502588441444683 : Nat := 0
def whole.tw9464417701048127947 : Nat := 0
def whole.tw12207685810698929643 : Nat := 0
def whole.tw285988719286631819 : Nat := 0
def whole.tw7588574119468234827 : Nat := 0
def whole.tw1266484639899004939 : Nat := 0
def whole.tw13028091800383447701 : Nat := 0
set_option Elab.async true
set_option maxHeartbeats 0 in
theorem whole : PySem.Challenge.rw_og0159_01.Holds := by
  (o_law; k_head; (case hw => w_witness2))

  exact law_walk _ _ _ _ rfl
end Mine
theorem PySem.Challenge.cw_og0159_01_holds : PySem.Challenge.rw_og0159_01.Holds :=
  Mine.whole
