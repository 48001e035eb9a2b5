import PyProof.Rows.All
import Wide.All
import OpenK.AllK
import Wide.FinOn
import Lean
import PySem.Challenge.RW_sy0034_01
open PySem PySem.W PyProof.Rows
set_option Elab.async false
set_option maxRecDepth 100000
set_option maxHeartbeats 8000000
theorem Mine.two {T H : Prop} (f : T → H) (h : T) : H := f h
theorem Mine.pre.tw15353535704898639103 : True := trivial
theorem Mine.pre.tw9293138973955870494 : True := trivial
theorem Mine.pre.tw11967863500246565877 : True := trivial
theorem Mine.pre.tw6548938536104458511 : True := trivial
theorem Mine.pre.tw14864557699967703993 : True := trivial
theorem Mine.pre.tw5616357354536732607 : True := trivial
theorem Mine.pre.tw2749649739559614557 : True := trivial
theorem Mine.pre.tw8935432345942236138 : True := trivial
theorem Mine.pre.tw16405991477785959986 : True := trivial
theorem Mine.pre.tw17434239335780912936 : True := trivial
theorem Mine.pre.tw7226070088885751544 : True := trivial
theorem Mine.pre.tw12109822677291299447 : True := trivial
theorem Mine.pre.tw364626883998391094 : True := trivial
theorem Mine.pre.tw11383056963669434997 : True := trivial
theorem Mine.pre.tw10895488247777486873 : True := trivial
theorem Mine.pre.tw17813032836175352512 : True := trivial
theorem Mine.pre.tw17747810498848355795 : True := trivial
theorem Mine.pre.tw695282062261810739 : True := trivial
theorem Mine.pre.tw13643637958380103959 : True := trivial
theorem Mine.pre.tw12465533948053986477 : True := trivial
theorem Mine.pre.tw18177360088511047037 : True := trivial
theorem Mine.pre.tw11600251252059698432 : True := trivial
theorem Mine.pre.tw16187767858317590155 : True := trivial
theorem Mine.pre.tw6330714749281072045 : True := trivial
theorem Mine.pre.tw5896042150136470975 : True := trivial
theorem Mine.pre.tw15846384593253705126 : True := trivial
theorem Mine.pre.tw4087977772668509057 : True := trivial
theorem Mine.pre.tw9269883197500966196 : True := trivial
theorem Mine.pre.tw3144533544089427767 : True := trivial
theorem Mine.pre.tw14799728766091433518 : True := trivial
theorem Mine.pre.tw17947361977853104736 : True := trivial
theorem Mine.pre.tw6232320607302061507 : True := trivial
theorem Mine.pre.tw13954526434592077084 : True := trivial
theorem Mine.pre.tw5265556644796053535 : True := trivial
theorem Mine.pre.tw3056967183029245664 : True := trivial
theorem Mine.pre.tw10534597610666090110 : True := trivial
theorem Mine.pre.tw4866971608788673576 : True := trivial
theorem Mine.pre.tw3075770761106440465 : True := trivial
theorem Mine.pre.tw5147264164118438643 : True := trivial
theorem Mine.pre.tw7404310320488361791 : True := trivial
theorem Mine.pre.tw7205318348024006823 : True := trivial
theorem Mine.pre.tw10251759765297449335 : True := trivial
theorem Mine.pre.tw1885593639795240310 : True := trivial
theorem Mine.pre.tw18060547212737682071 : True := trivial
theorem Mine.pre.tw4144508531414183275 : True := trivial
theorem Mine.pre.tw2967884538074990319 : True := trivial
theorem Mine.pre.tw12354323748567133018 : True := trivial
theorem Mine.pre.tw10657489962057554541 : True := trivial
theorem Mine.pre.tw16058929423575460821 : True := trivial
theorem Mine.pre.tw5779897831729120596 : True := trivial
theorem Mine.pre.tw9966088280660723746 : True := trivial
theorem Mine.pre.tw11701290255382674204 : True := trivial
theorem Mine.pre.tw12472410725357626837 : True := trivial
theorem Mine.pre.tw1220156853476297361 : True := trivial
theorem Mine.pre.tw3780960313077853262 : True := trivial
theorem Mine.pre.tw13344253833810582256 : True := trivial
theorem Mine.pre.tw2570518636118495876 : True := trivial
theorem Mine.pre.tw2698468114796561683 : True := trivial
theorem Mine.pre.tw6598987100012212614 : True := trivial
theorem Mine.pre.tw6567427038174304042 : True := trivial
theorem Mine.pre.tw6984639926880643421 : True := trivial
theorem Mine.pre.tw16164899644161129635 : True := trivial
theorem Mine.pre.tw12455990067847257688 : True := trivial
theorem Mine.pre.tw15416329323232597108 : True := trivial
theorem Mine.pre.tw13798339373520121222 : True := trivial
theorem Mine.pre.tw14531996196986799985 : True := trivial
theorem Mine.pre.tw12285278899058290007 : True := trivial
theorem Mine.pre.tw14417016902113386360 : True := trivial
theorem Mine.pre.tw1083846401382969032 : True := trivial
theorem Mine.pre.tw5532335634301144135 : True := trivial
theorem Mine.pre.tw28029345213723098 : True := trivial
theorem Mine.pre.tw14177746915815934671 : True := trivial
theorem Mine.pre.tw11422953727881016366 : True := trivial
theorem Mine.pre.tw11686044155741065774 : True := trivial
theorem Mine.pre.tw3331293935044646375 : True := trivial
theorem Mine.pre.tw13663304939719888959 : True := trivial
theorem Mine.pre.tw18320262050320308368 : True := trivial
theorem Mine.pre.tw2949526638472983035 : True := trivial
theorem Mine.pre.tw18233255370621244900 : True := trivial
theorem Mine.pre.tw17028943642903203401 : True := trivial
theorem Mine.pre.tw5568758830717608373 : True := trivial
theorem Mine.pre.tw8646183201884414562 : True := trivial
theorem Mine.pre.tw1873049638177181067 : True := trivial
theorem Mine.pre.tw10006983352648288001 : True := trivial
theorem Mine.pre.tw15233245896131659966 : True := trivial
theorem Mine.pre.tw7466802901070070636 : True := trivial
theorem Mine.pre.tw8351358002074471861 : True := trivial
theorem Mine.pre.tw9571515539528028750 : True := trivial
theorem Mine.pre.tw15552298541256452641 : True := trivial
theorem Mine.pre.tw4406938201441374700 : True := trivial
theorem Mine.pre.tw10125758760863536837 : True := trivial
theorem Mine.pre.tw963679378083677624 : True := trivial
theorem Mine.pre.tw3902790719647856373 : True := trivial
theorem Mine.pre.tw14967782790706212462 : True := trivial
theorem Mine.pre.tw16852057512633287067 : True := trivial
theorem Mine.pre.tw2987692468026973072 : True := trivial
theorem Mine.pre.tw9552730113335097103 : True := trivial
theorem Mine.pre.tw12464593357960378961 : True := trivial
theorem Mine.pre.tw3142542386609302197 : True := trivial
theorem Mine.pre.tw12601736412296754624 : True := trivial
theorem Mine.pre.tw6907033906714537426 : True := trivial
theorem Mine.pre.tw15042315596094944778 : True := trivial
theorem Mine.pre.tw381845577398426587 : True := trivial
theorem Mine.pre.tw6846343938879960342 : True := trivial
theorem Mine.pre.tw8050647239357041817 : True := trivial
theorem Mine.pre.tw5141576093561083736 : True := trivial
theorem Mine.pre.tw9354241043653843321 : True := trivial
theorem Mine.pre.tw7564766255729297416 : True := trivial
theorem Mine.pre.tw10407998980130990082 : True := trivial
theorem Mine.pre.tw343712557402399189 : True := trivial
theorem Mine.pre.tw720506306688461391 : True := trivial
theorem Mine.pre.tw2397827621436535734 : True := trivial
theorem Mine.pre.tw3539277104568050316 : True := trivial
theorem Mine.pre.tw1050892389064381581 : True := trivial
theorem Mine.pre.tw456585482795024358 : True := trivial
theorem Mine.pre.tw6170148345488586343 : True := trivial
theorem Mine.pre.tw7569232922502155860 : True := trivial
theorem Mine.pre.tw14861680889543947245 : True := trivial
theorem Mine.pre.tw17370370564525365829 : True := trivial
theorem Mine.pre.tw5602671513192827635 : True := trivial
theorem Mine.pre.tw12355011657982118343 : True := trivial
theorem Mine.pre.tw4936351757903562790 : True := trivial
theorem Mine.pre.tw6695662797832715526 : True := trivial
theorem Mine.pre.tw7027690882501090706 : True := trivial
theorem Mine.pre.tw15693231618869550497 : True := trivial
theorem Mine.pre.tw2469959991118930107 : True := trivial
theorem Mine.pre.tw14114672765552503122 : True := trivial
theorem Mine.pre.tw14795137245576490350 : True := trivial
theorem Mine.pre.tw833301866567259626 : True := trivial
theorem Mine.pre.tw3955983160652177813 : True := trivial
theorem Mine.pre.tw10842554608732231118 : True := trivial
theorem Mine.pre.tw13743101554249772228 : True := trivial
theorem Mine.pre.tw5105748471666761287 : True := trivial
theorem Mine.pre.tw10476441753547339612 : True := trivial
theorem Mine.pre.tw17718280010624859874 : True := trivial
theorem Mine.pre.tw8077660925545611655 : True := trivial
theorem Mine.pre.tw11118472615564045499 : True := trivial
theorem Mine.pre.tw1134953709659117593 : True := trivial
theorem Mine.pre.tw14898805574407847723 : True := trivial
theorem Mine.pre.tw4834714738879756663 : True := trivial
theorem Mine.pre.tw9933342878302970050 : True := trivial
theorem Mine.pre.tw6260126215559185383 : True := trivial
theorem Mine.pre.tw7964398728579978746 : True := trivial
theorem Mine.pre.tw14569818649042903867 : True := trivial
theorem Mine.pre.tw14504531411983417640 : True := trivial
theorem Mine.pre.tw16969236973895314278 : True := trivial
theorem Mine.pre.tw16857692971724807165 : True := trivial
theorem Mine.pre.tw5510518022562020494 : True := trivial
theorem Mine.pre.tw7798483633350419733 : True := trivial
theorem Mine.pre.tw12010930066579576610 : True := trivial
theorem Mine.pre.tw6027166026388233240 : True := trivial
theorem Mine.pre.tw3583441638673829862 : True := trivial
theorem Mine.pre.tw4084086026405070310 : True := trivial
theorem Mine.pre.tw30198436418510105 : True := trivial
theorem Mine.pre.tw17538440247239122154 : True := trivial
theorem Mine.pre.tw14844808246951043556 : True := trivial
theorem Mine.pre.tw12951121588697251329 : True := trivial
theorem Mine.pre.tw5155193400670720939 : True := trivial
theorem Mine.pre.tw11477163547676270809 : True := trivial
theorem Mine.pre.tw2035697669160248337 : True := trivial
theorem Mine.pre.tw18236615629503518134 : True := trivial
theorem Mine.pre.tw1744327949836340386 : True := trivial
theorem Mine.pre.tw12361741206388785723 : True := trivial
theorem Mine.pre.tw10204019117609856550 : True := trivial
theorem Mine.pre.tw3744368537293892124 : True := trivial
theorem Mine.pre.tw6926492576228361084 : True := trivial
theorem Mine.pre.tw1493470869393423090 : True := trivial
theorem Mine.pre.tw11460421374433590107 : True := trivial
theorem Mine.pre.tw6756400117972860631 : True := trivial
theorem Mine.pre.tw7686153911082905933 : True := trivial
theorem Mine.pre.tw1936523389482728524 : True := trivial
theorem Mine.pre.tw16258003978061591434 : True := trivial
theorem Mine.pre.tw6468908739991884073 : True := trivial
theorem Mine.pre.tw124356168213406971 : True := trivial
theorem Mine.pre.tw3745178552056971020 : True := trivial
theorem Mine.pre.tw7907242505890983963 : True := trivial
theorem Mine.pre.tw3644608556721293339 : True := trivial
theorem Mine.pre.tw4592789736104886690 : True := trivial
theorem Mine.pre.tw2346428165239446087 : True := trivial
theorem Mine.pre.tw1111464524378067007 : True := trivial
theorem Mine.pre.tw7462887173716235764 : True := trivial
theorem Mine.pre.tw5281669908752499588 : True := trivial
theorem Mine.pre.tw2968953917466835636 : True := trivial
theorem Mine.pre.tw12600001335209363398 : True := trivial
theorem Mine.pre.tw899124743068861042 : True := trivial
theorem Mine.pre.tw2924357142288256476 : True := trivial
theorem Mine.pre.tw4351630123409058234 : True := trivial
theorem Mine.pre.tw5915181514357443041 : True := trivial
theorem Mine.pre.tw8138631344701588614 : True := trivial
theorem Mine.pre.tw7744840787576684945 : True := trivial
theorem Mine.pre.tw12660056702362669563 : True := trivial
theorem Mine.pre.tw8113819696807641309 : True := trivial
theorem Mine.pre.tw15715415247232172914 : True := trivial
theorem Mine.pre.tw5179339599432730232 : True := trivial
theorem Mine.pre.tw8301558168250483144 : True := trivial
theorem Mine.pre.tw12444740210674830803 : True := trivial
theorem Mine.pre.tw4207049851535343501 : True := trivial
theorem Mine.pre.tw3363428373326525988 : True := trivial
theorem Mine.pre.tw12209519486425430729 : True := trivial
theorem Mine.pre.tw10933684431934463483 : True := trivial
theorem Mine.pre.tw1455952714067624315 : True := trivial
theorem Mine.pre.tw17070133332105845622 : True := trivial
theorem Mine.pre.tw8930836413682506088 : True := trivial
theorem Mine.pre.tw9163486881185348833 : True := trivial
theorem Mine.pre.tw17373973320644317417 : True := trivial
theorem Mine.pre.tw17844419999514078010 : True := trivial
theorem Mine.pre.tw6431232979522229623 : True := trivial
theorem Mine.pre.tw7314852895229071976 : True := trivial
theorem Mine.pre.tw10832435889686368783 : True := trivial
theorem Mine.pre.tw3699158118826431907 : True := trivial
theorem Mine.pre.tw1047120459358279703 : True := trivial
theorem Mine.pre.tw15368396088340907196 : True := trivial
theorem Mine.pre.tw6615631486209965517 : True := trivial
theorem Mine.pre.tw13305933163451760600 : True := trivial
theorem Mine.pre.tw14552072348316998079 : True := trivial
theorem Mine.pre.tw5185967812794802750 : True := trivial
theorem Mine.pre.tw13888 : True := trivial
theorem Mine.pre.tw10584150303738031772 : True := trivial
theorem Mine.pre.tw1961266365660868435 : True := trivial
theorem Mine.pre.tw13839825171144383216 : True := trivial
theorem Mine.pre.tw16248381776914940432 : True := trivial
theorem Mine.pre.tw7615275554976931207 : True := trivial
theorem Mine.pre.tw7871981215989793078 : True := trivial
theorem Mine.pre.tw8406826420958275948 : True := trivial
theorem Mine.pre.tw6585939558152295258 : True := trivial
theorem Mine.pre.tw512931023691214685 : True := trivial
theorem Mine.pre.tw18334436613972320873 : True := trivial
theorem Mine.pre.tw12723660185843396471 : True := trivial
theorem Mine.pre.tw1891802886393711113 : True := trivial
theorem Mine.pre.tw6327315350404671063 : True := trivial
theorem Mine.pre.tw8274623536164426032 : True := trivial
theorem Mine.pre.tw12329847798736442354 : True := trivial
theorem Mine.pre.tw9609149167571056082 : True := trivial
theorem Mine.pre.tw15625995988735854195 : True := trivial
theorem Mine.pre.tw1264671815619765103 : True := trivial
theorem Mine.pre.tw18151825547678234113 : True := trivial
theorem Mine.pre.tw9181419433902100537 : True := trivial
theorem Mine.pre.tw5857112834756203396 : True := trivial
theorem Mine.pre.tw16676685420422431488 : True := trivial
theorem Mine.pre.tw1691685179661515648 : True := trivial
theorem Mine.pre.tw10556904025073309525 : True := trivial
theorem Mine.pre.tw13510392928544659033 : True := trivial
theorem Mine.pre.tw13434469736033276543 : True := trivial
theorem Mine.pre.tw18236140840165549141 : True := trivial
theorem Mine.pre.tw8866184789985215761 : True := trivial
theorem Mine.pre.tw2142029966526130302 : True := trivial
theorem Mine.pre.tw9453402838058930433 : True := trivial
theorem Mine.pre.tw8599402730897727845 : True := trivial
theorem Mine.pre.tw2495331874266312815 : True := trivial
theorem Mine.pre.tw17454632208202312435 : True := trivial
theorem Mine.pre.tw12274083203712686582 : True := trivial
theorem Mine.pre.tw3841362995048172961 : True := trivial
theorem Mine.pre.tw7559264692432220869 : True := trivial
theorem Mine.pre.tw13693728815753610864 : True := trivial
theorem Mine.pre.tw3097859360267383691 : True := trivial
theorem Mine.pre.tw10091149122847604739 : True := trivial
theorem Mine.pre.tw17951621792752003255 : True := trivial
theorem Mine.pre.tw16785959692537240356 : True := trivial
theorem Mine.pre.tw5368791875907632636 : True := trivial
theorem Mine.pre.tw9048862158676561846 : True := trivial
theorem Mine.pre.tw3261195165716478934 : True := trivial
theorem Mine.pre.tw7383441886188000873 : True := trivial
theorem Mine.pre.tw2165444987737528205 : True := trivial
theorem Mine.pre.tw10408196067039045116 : True := trivial
theorem Mine.pre.tw2256743641975187207 : True := trivial
theorem Mine.pre.tw15489355944739424747 : True := trivial
theorem Mine.pre.tw13763285996321713714 : True := trivial
theorem Mine.pre.tw6767112457854269605 : True := trivial
theorem Mine.pre.tw6887083531147954808 : True := trivial
theorem Mine.pre.tw191430818103548243 : True := trivial
theorem Mine.pre.tw2901822031365257273 : True := trivial
theorem Mine.pre.tw13261852673686306774 : True := trivial
theorem Mine.pre.tw2572576715449792082 : True := trivial
theorem Mine.pre.tw2204125747762997160 : True := trivial
theorem Mine.pre.tw578446559104950318 : True := trivial
theorem Mine.pre.tw4579400933631224890 : True := trivial
theorem Mine.pre.tw10740070326456252 : True := trivial
theorem Mine.pre.tw11661489554611879777 : True := trivial
theorem Mine.pre.tw16520217711010471092 : True := trivial
theorem Mine.pre.tw13207373630104666366 : True := trivial
theorem Mine.pre.tw14435009961475074242 : True := trivial
theorem Mine.pre.tw15287351508561526039 : True := trivial
theorem Mine.pre.tw5504704829203286782 : True := trivial
theorem Mine.pre.tw9948208398504503780 : True := trivial
theorem Mine.pre.tw16268650808249262707 : True := trivial
theorem Mine.pre.tw5167664360043482673 : True := trivial
theorem Mine.pre.tw8220757499984453353 : True := trivial
theorem Mine.pre.tw5131142871185379458 : True := trivial
theorem Mine.pre.tw1686993885542229018 : True := trivial
theorem Mine.pre.tw5999219517231674561 : True := trivial
theorem Mine.pre.tw1167468095371924960 : True := trivial
theorem Mine.pre.tw9925072483942813245 : True := trivial
theorem Mine.pre.tw6453602053160676839 : True := trivial
theorem Mine.pre.tw15217727220281956571 : True := trivial
theorem Mine.pre.tw2942983534999405500 : True := trivial
theorem Mine.pre.tw503137831086811483 : True := trivial
theorem Mine.pre.tw7766291113635084844 : True := trivial
theorem Mine.pre.tw6187619449173069176 : True := trivial
theorem Mine.pre.tw9238746042885938319 : True := trivial
theorem Mine.pre.tw15123789955226152525 : True := trivial
theorem Mine.pre.tw15364903961692622375 : True := trivial
theorem Mine.pre.tw1385352955633275780 : True := trivial
theorem Mine.pre.tw10626571451207548414 : True := trivial
theorem Mine.pre.tw1562247505020969217 : True := trivial
theorem Mine.pre.tw12931314848048146806 : True := trivial
theorem Mine.pre.tw18027193599098250407 : True := trivial
theorem Mine.pre.tw13233266800153922966 : True := trivial
theorem Mine.pre.tw12058416156572183381 : True := trivial
theorem Mine.pre.tw14193552647469303995 : True := trivial
theorem Mine.pre.tw15577061551490466234 : True := trivial
set_option Elab.async true in
theorem Mine.pre : ∃ T : Prop, (T → PySem.Challenge.rw_sy0034_01.Holds) := by
  refine' Exists.intro _ ?goal
  case goal =>
    as_aux_lemma =>
      intro hT
      refine' Mine.two (fun _ => ?main2) ?hc
      case main2 =>
        (w_on; o_law; k_head; (case hw => w_witness2))
      exact hT
namespace Mine
local macro_rules | `(tactic| walk_at "newTuple") => `(tactic| walk_at "my newTuple")
local macro_rules | `(tactic| walk_at "newList") => `(tactic| walk_at "my newList")
local macro_rules | `(tactic| walk_at "storeName") => `(tactic| walk_at "my storeName")
local macro_rules | `(tactic| walk_at "LeaveK") => `(tactic| walk_at "my LeaveK")
local macro_rules | `(tactic| walk_at "binaryOp Add str str") => `(tactic| walk_at "my binaryOp Add str str")
local macro_rules | `(tactic| walk_at "exec Assign cons ListComp") => `(tactic| walk_at "my exec Assign cons ListComp")
local macro_rules | `(tactic| walk_at "eval ListComp") => `(tactic| walk_at "my eval ListComp")
local macro_rules | `(tactic| walk_at "CompSrc") => `(tactic| walk_at "my CompSrc")
local macro_rules | `(tactic| walk_at "CompRest") => `(tactic| walk_at "my CompRest")
local macro_rules | `(tactic| walk_at "CompEnd") => `(tactic| walk_at "my CompEnd")
local macro_rules | `(tactic| walk_at "FinE") => `(tactic| walk_at "my FinE")
local macro_rules | `(tactic| walk_at "FinA") => `(tactic| walk_at "my FinA")
local macro_rules | `(tactic| walk_at "subscriptTail") => `(tactic| walk_at "my subscriptTail")
local macro_rules | `(tactic| walk_at "subscriptTail Name") => `(tactic| walk_at "my subscriptTail Name")
local macro_rules | `(tactic| walk_at "subscriptTail Call") => `(tactic| walk_at "my subscriptTail Call")
local macro_rules | `(tactic| walk_at "subscriptTail Subscript") => `(tactic| walk_at "my subscriptTail Subscript")
local macro_rules | `(tactic| walk_at "subscriptTail Name Constant ref int") => `(tactic| walk_at "my subscriptTail Name Constant ref int")
local macro_rules | `(tactic| walk_at "subscriptTail Name Name ref int") => `(tactic| walk_at "my subscriptTail Name Name ref int")
local macro_rules | `(tactic| walk_at "eval Name") => `(tactic| walk_at "my eval Name")
local macro_rules | `(tactic| walk_at "setItem ref int int") => `(tactic| walk_at "my setItem ref int int")
local macro_rules | `(tactic| walk_at "call ref") => `(tactic| walk_at "my call ref")
local macro_rules | `(tactic| walk_at "call builtin:len") => `(tactic| walk_at "my call builtin:len")
local macro_rules | `(tactic| walk_at "binaryOp Mult ref int") => `(tactic| walk_at "my binaryOp Mult ref int")
local macro_rules | `(tactic| walk_at "compareOp In str ref") => `(tactic| walk_at "my compareOp In str ref")
local macro_rules | `(tactic| walk_at "subscriptTail Name Subscript ref str") => `(tactic| walk_at "my subscriptTail Name Subscript ref str")
local macro_rules | `(tactic| walk_at "compareOp Eq ref ref") => `(tactic| walk_at "my compareOp Eq ref ref")
local macro_rules | `(tactic| walk_at "call builtin:str.join") => `(tactic| walk_at "my call builtin:str.join")
local macro_rules | `(tactic| walk_at "exec For Tuple Name cons nil") => `(tactic| walk_at "my exec For Tuple Name cons nil")
local macro_rules | `(tactic| walk_at "pyIter ref") => `(tactic| walk_at "my pyIter ref")
local macro_rules | `(tactic| walk_at "UnrEndW") => `(tactic| walk_at "my UnrEndW")
local macro_rules | `(tactic| walk_at "call type:list") => `(tactic| walk_at "my call type:list")
local macro_rules | `(tactic| walk_at "TupSrc") => `(tactic| walk_at "my TupSrc")
local macro_rules | `(tactic| walk_at "binaryOp Add ref ref") => `(tactic| walk_at "my binaryOp Add ref ref")
local macro_rules | `(tactic| walk_at "call builtin:list.append") => `(tactic| walk_at "my call builtin:list.append")
local macro_rules | `(tactic| walk_at "exec While BoolOp") => `(tactic| walk_at "my exec While BoolOp")
local macro_rules | `(tactic| walk_at "compareOp Eq str str") => `(tactic| walk_at "my compareOp Eq str str")
local macro_rules | `(tactic| walk_at "NilSrc") => `(tactic| walk_at "my NilSrc")
local macro_rules | `(tactic| walk_at "compareOp NotEq str str") => `(tactic| walk_at "my compareOp NotEq str str")
local macro_rules | `(tactic| walk_at "UnrEnd") => `(tactic| walk_at "my UnrEnd")
-- Base
noncomputable abbrev LL : List Str := looseW pre.view_1_40 [Str.ofString "LEVELS", Str.ofString "write_path", Str.ofString "write_expr", Str.ofString "_law_open"]
abbrev tup (vs : List Value) : Obj := { cls := .type "tuple", data := .seq vs.toArray }
abbrev lst (vs : List Value) : Obj := { cls := .type "list", data := .seq vs.toArray }
abbrev Led := List (Addr × Obj)

/-- a contract: the call of f with vs, where the ledger is N and behind it N' -/
def Does (w : World) (f : Addr) (vs : List Value) (nd nu : Nat) (N : Led) (Out : Addr → Led → Value → Prop) : Prop :=
  ∀ (mean : ExcName → Option Value) (mg mb : Str → Option Value) (dp un : Nat) (gd : Option (List Code)) (cn : Str) (cs : Scope) (a : Addr) (ccd : Value) (cl : List (Str × Addr)) (outer : List Env) (A₀ : Around) (base h₀ : Heap) (L : Addr) (m : Str → Option Value) (s : Shared)
    (Q E : Value → Shared → Prop),
    Below A₀ base outer h₀ → Fr h₀ L s.heap m → (pre.heap_1_39 w.params).In h₀ → News h₀ L s.heap N → Top pre.view_1_40 LL mean mg mb h₀ → cs.kind = .function → dp + nd < recursionLimit → un + nu < cLine →
    (∀ r N' h' tk', Fr h₀ L h' m → News h₀ L h' N' → Out L N' r → Q r { s with heap := h', toks := tk' }) →
    wpAny (model PySem.Challenge.rw_sy0034_01.row.prog w) (ktrTop dp un gd cn cs L a ccd cl outer) (call (.ref f) vs) Q E s

abbrev srcO (g d : Int) (tg td : Tok) : Obj := { cls := .type "list", data := .seq #[.int g tg, .int d td] }

section
variable {prog : Program} {w : World} {A : Around} {E : Value → Shared → Prop} {s : Shared} {h₀ : Heap} {L src : Addr} {m : Str → Option Value} {N : Led} {g d x : Int} {tg td t u : Tok}
theorem ints2 : IntsAre [Value.int g tg, Value.int d td] [g, d] := .cons _ _ (.cons _ _ .nil)
theorem src_set0 {Q : Unit → Shared → Prop} (F : Fr h₀ L s.heap m) (NN : News h₀ L s.heap ((src, srcO g d tg td) :: N)) (hs : ∀ p ∈ N, p.1 ≠ src)
    (h : ∀ h', Fr h₀ L h' m → News h₀ L h' ((src, srcO x d u td) :: N) → Q () { s with heap := h' }) :
    wpAny (model prog w) A (setItem (.ref src) (.int 0 t) (.int x u)) Q E s :=
  ksa_set (vs := [.int g tg, .int d td]) (ns := [g, d]) (n := 0) F NN (Upd.head hs) ints2 (by decide) (by simp) (by decide) fun h' F' N' _ _ _ => h h' F' N'
theorem src_set1 {Q : Unit → Shared → Prop} (F : Fr h₀ L s.heap m) (NN : News h₀ L s.heap ((src, srcO g d tg td) :: N)) (hs : ∀ p ∈ N, p.1 ≠ src)
    (h : ∀ h', Fr h₀ L h' m → News h₀ L h' ((src, srcO g x tg u) :: N) → Q () { s with heap := h' }) :
    wpAny (model prog w) A (setItem (.ref src) (.int 1 t) (.int x u)) Q E s :=
  ksa_set (vs := [.int g tg, .int d td]) (ns := [g, d]) (n := 0) F NN (Upd.head hs) ints2 (by decide) (by simp) (by decide) fun h' F' N' _ _ _ => h h' F' N'
end
-- Def
/-- the expressions that the law draws -/
inductive E where
  | name (b : Bool)
  | seven | zero | tru | strct | block | ifa
  | bin (j : Fin 18) (l r : E)
  | asg (l r : E)
  | upd (j : Fin 10) (l r : E)
  | loop (b : Fin 4)
  | whl (b : Fin 4) (c : E)
  | for_ (b : Fin 4) (z : Bool) (l r : E)
  | cont (b : Fin 4)
  | brk0 (b : Fin 4)
  | brk (b : Fin 4) (v : E)
  | ret (v : E)
  | arr (e : E)
  | tpl (e : E)
  | rep (e : E)
  | call (n : Fin 3) (f x y : E)
  | meth (k n : Fin 3) (f x y : E)
  | cast (e : E)
  | un (j : Fin 3) (e : E)
  | bor (e : E)

def nm (b : Bool) : Str := if b then Str.ofString "bc" else Str.ofString "a"
def sgnL : List Str := [Str.ofString "||", Str.ofString "&&", Str.ofString "==", Str.ofString "!=", Str.ofString "<", Str.ofString "<=", Str.ofString ">", Str.ofString ">=", Str.ofString "|", Str.ofString "^", Str.ofString "&", Str.ofString "<<", Str.ofString ">>", Str.ofString "+", Str.ofString "-", Str.ofString "*", Str.ofString "/", Str.ofString "%"]
def sgn (j : Fin 18) : Str := sgnL.getD j.val (Str.ofString "")
def blvL : List Int := [1, 2, 3, 3, 3, 3, 3, 3, 4, 5, 6, 7, 7, 8, 8, 9, 9, 9]
def blv (j : Fin 18) : Int := blvL.getD j.val 1
def usgL : List Str := [Str.ofString "+", Str.ofString "-", Str.ofString "*", Str.ofString "/", Str.ofString "%", Str.ofString "&", Str.ofString "|", Str.ofString "^", Str.ofString "<<", Str.ofString ">>"]
def usg (j : Fin 10) : Str := usgL.getD j.val (Str.ofString "")
def usn : Fin 3 → Str
  | 0 => Str.ofString "-" | 1 => Str.ofString "!" | 2 => Str.ofString "*"
def lbl : Fin 4 → Option Str
  | 0 => none | 1 => some (Str.ofString "'a") | 2 => some (Str.ofString "'bc") | 3 => some (Str.ofString "'c")
/-- a label ahead, a label behind -/
def lbA (b : Fin 4) : Str := match lbl b with | none => Str.ofString "" | some x => x ++ Str.ofString ": "
def lbB (b : Fin 4) : Str := match lbl b with | none => Str.ofString "" | some x => Str.ofString " " ++ x
def ang : Fin 3 → Str
  | 0 => Str.ofString "" | 1 => Str.ofString "::<u8>" | 2 => Str.ofString "::<Box<T>, T>"

def lvl : E → Int
  | .name _ | .seven | .zero | .tru | .strct => 12
  | .block | .ifa => 0
  | .bin j _ _ => blv j
  | .asg .. | .upd .. | .loop _ | .whl .. | .for_ .. | .cont _ | .brk0 _ | .brk .. | .ret _ => 0
  | .arr _ | .tpl _ | .rep _ | .call .. | .meth .. => 12
  | .cast _ => 10
  | .un .. | .bor _ => 11
/-- blocks, jumps, a struct: told so before a block -/
def opn : E → Bool
  | .strct | .block | .ifa | .loop _ | .whl .. | .for_ .. | .cont _ | .brk0 _ | .brk .. | .ret _ => true
  | _ => false
def isCast : E → Bool
  | .cast _ => true
  | _ => false
def isBlk : E → Bool
  | .block | .ifa | .loop _ | .whl .. | .for_ .. => true
  | _ => false
def isStr : E → Bool
  | .strct => true
  | _ => false
def kind : E → Str
  | .name _ => Str.ofString "path" | .seven | .zero => Str.ofString "int" | .tru => Str.ofString "bool" | .strct => Str.ofString "struct" | .block => Str.ofString "block" | .ifa => Str.ofString "if"
  | .bin .. => Str.ofString "binary" | .asg .. => Str.ofString "assign" | .upd .. => Str.ofString "update" | .loop _ => Str.ofString "loop" | .whl .. => Str.ofString "while" | .for_ .. => Str.ofString "for"
  | .cont _ => Str.ofString "continue" | .brk0 _ | .brk .. => Str.ofString "break" | .ret _ => Str.ofString "return" | .arr _ => Str.ofString "array" | .tpl _ => Str.ofString "tuple" | .rep _ => Str.ofString "repeat"
  | .call .. => Str.ofString "call" | .meth .. => Str.ofString "method" | .cast _ => Str.ofString "cast" | .un .. => Str.ofString "unary" | .bor _ => Str.ofString "borrow"
def hgt : E → Nat
  | .ifa => 1
  | .bin _ l r | .asg l r | .upd _ l r | .for_ _ _ l r => max (hgt l) (hgt r) + 1
  | .whl _ c | .brk _ c | .ret c | .arr c | .tpl c | .rep c | .cast c | .un _ c | .bor c => hgt c + 1
  | .call _ f x y | .meth _ _ f x y => max (hgt f) (max (hgt x) (hgt y)) + 1
  | _ => 0

def par (x : Str) : Str := Str.ofString "(" ++ x ++ Str.ofString ")"
def wst (l n : Int) (x y : Str) : Str := if l < n then par x else y
def opb (b : Bool) (x : Str) : Str := if b then par x else x
def argT : Fin 3 → Str → Str → Str
  | 0, _, _ => Str.ofString "" | 1, x, _ => x | 2, x, y => x ++ Str.ofString ", " ++ y
/-- the text: alone (false), ahead of a block (true) -/
def txt : E → Bool → Str
  | .name n, _ => nm n
  | .seven, _ => Str.ofString "7"
  | .zero, _ => Str.ofString "0i64"
  | .tru, _ => Str.ofString "true"
  | .strct, b => opb b (Str.ofString "P {}")
  | .block, b => opb b (Str.ofString "{}")
  | .ifa, b => opb b (Str.ofString "if a {}")
  | .bin j l r, b => wst (lvl l) (if isCast l then 11 else blv j + (if blv j = 3 then 1 else 0)) (txt l false) (txt l b) ++ Str.ofString " " ++ sgn j ++ Str.ofString " " ++ wst (lvl r) (if isCast r then 11 else blv j + 1) (txt r false) (txt r b)
  | .asg l r, b => wst (lvl l) (if isCast l then 11 else 1) (txt l false) (txt l b) ++ Str.ofString " = " ++ txt r b
  | .upd j l r, b => wst (lvl l) (if isCast l then 11 else 1) (txt l false) (txt l b) ++ Str.ofString " " ++ usg j ++ Str.ofString "= " ++ txt r b
  | .loop n, b => opb b (lbA n ++ Str.ofString "loop {}")
  | .whl n c, b => opb b (lbA n ++ Str.ofString "while " ++ txt c true ++ Str.ofString " {}")
  | .for_ n z l r, b => opb b (lbA n ++ Str.ofString "for x in " ++ (wst (lvl l) (if isCast l then 11 else 1) (txt l false) (txt l true) ++ (if z then Str.ofString " ..= " else Str.ofString " .. ") ++ wst (lvl r) (if isCast r then 11 else 1) (txt r false) (txt r true)) ++ Str.ofString " {}")
  | .cont n, b => opb b (Str.ofString "continue" ++ lbB n)
  | .brk0 n, b => opb b (Str.ofString "break" ++ lbB n)
  | .brk n v, b => opb b (Str.ofString "break" ++ lbB n ++ Str.ofString " " ++ (if isBlk v then par (txt v false) else txt v false))
  | .ret v, b => opb b (Str.ofString "return " ++ (if isBlk v then par (txt v false) else txt v false))
  | .arr e, _ => Str.ofString "[" ++ txt e false ++ Str.ofString "]"
  | .tpl e, _ => Str.ofString "(" ++ txt e false ++ Str.ofString ",)"
  | .rep e, _ => Str.ofString "[" ++ txt e false ++ Str.ofString "; 3]"
  | .call n f x y, b => (if isStr f then par (txt f false) else wst (lvl f) 12 (txt f false) (txt f b)) ++ Str.ofString "(" ++ argT n (txt x false) (txt y false) ++ Str.ofString ")"
  | .meth k n f x y, b => (if isStr f then par (txt f false) else wst (lvl f) 12 (txt f false) (txt f b)) ++ Str.ofString ".m" ++ ang k ++ Str.ofString "(" ++ argT n (txt x false) (txt y false) ++ Str.ofString ")"
  | .cast e, b => wst (lvl e) 10 (txt e false) (txt e b) ++ Str.ofString " as u8"
  | .un j e, b => usn j ++ wst (lvl e) 11 (txt e false) (txt e b)
  | .bor e, b => Str.ofString "&mut " ++ wst (lvl e) 11 (txt e false) (txt e b)

/-- what write_expr tells -/
def W (e : E) (n : Int) (b : Bool) : Str := wst (lvl e) n (txt e false) (txt e b)
/-- what write_side tells -/
def Sd (e : E) (n : Int) (b : Bool) : Str := W e (if isCast e then 11 else n) b

theorem blv_pos (j : Fin 18) : 1 ≤ blv j ∧ blv j ≤ 9 := by revert j; decide
theorem lvl_pos (e : E) : 0 ≤ lvl e := by
  cases e <;> first | (simp only [lvl]; omega) | (simp only [lvl]; have := blv_pos (by assumption); omega)
theorem lvl_le (e : E) : lvl e ≤ 12 := by
  cases e <;> first | (simp only [lvl]; omega) | (simp only [lvl]; have := blv_pos (by assumption); omega)
theorem W0 (e : E) (b : Bool) : W e 0 b = txt e b := by
  have := lvl_pos e
  unfold W wst
  rw [if_neg (by omega)]
theorem opn_txt {e : E} (h : opn e = true) : txt e true = par (txt e false) := by
  cases e <;> first | (simp only [opn, Bool.false_eq_true] at h; done) | simp only [txt, opb, if_true, Bool.false_eq_true, if_false]
theorem isStr_eq {e : E} (h : isStr e = true) : e = .strct := by cases e <;> first | rfl | (simp [isStr] at h)

theorem nm_len (b : Bool) : (nm b).length ≤ 10 := by cases b <;> decide
theorem sgn_len (j : Fin 18) : (sgn j).length ≤ 10 := by revert j; decide
theorem usg_len (j : Fin 10) : (usg j).length ≤ 10 := by revert j; decide
theorem usn_len (j : Fin 3) : (usn j).length ≤ 10 := by revert j; decide
theorem ang_len (j : Fin 3) : (ang j).length ≤ 13 := by revert j; decide
theorem lbA_len (j : Fin 4) : (lbA j).length ≤ 10 := by revert j; decide
theorem lbB_len (j : Fin 4) : (lbB j).length ≤ 10 := by revert j; decide
theorem len_app (x y : Str) : (x ++ y).length = x.length + y.length := Str.length_append x y
theorem par_len (x : Str) : (par x).length = x.length + 2 := by
  unfold par
  rw [len_app, len_app]
  have h1 : (Str.ofString "(").length = 1 := by decide
  have h2 : (Str.ofString ")").length = 1 := by decide
  omega
theorem wst_len (l n : Int) (x y : Str) (k : Nat) (hx : x.length ≤ k) (hy : y.length ≤ k) : (wst l n x y).length ≤ k + 2 := by
  unfold wst
  split
  · rw [par_len]; omega
  · omega
theorem opb_len (b : Bool) (x : Str) : (opb b x).length ≤ x.length + 2 := by
  cases b
  · exact Nat.le_add_right _ _
  · exact Nat.le_of_eq (par_len x)
theorem argT_len (n : Fin 3) (x y : Str) (k : Nat) (hx : x.length ≤ k) (hy : y.length ≤ k) : (argT n x y).length ≤ 2 * k + 2 := by
  have h0 : (Str.ofString "").length = 0 := by decide
  have h2 : (Str.ofString ", ").length = 2 := by decide
  match n with
  | 0 => show (Str.ofString "").length ≤ _; omega
  | 1 => show x.length ≤ _; omega
  | 2 => show (x ++ Str.ofString ", " ++ y).length ≤ _; rw [len_app, len_app]; omega
-- Len
theorem ln_c1 : (Str.ofString " ").length = 1 := by decide
theorem ln_c2 : (Str.ofString " = ").length = 3 := by decide
theorem ln_c3 : (Str.ofString "= ").length = 2 := by decide
theorem ln_c4 : (Str.ofString "loop {}").length = 7 := by decide
theorem ln_c5 : (Str.ofString "while ").length = 6 := by decide
theorem ln_c6 : (Str.ofString " {}").length = 3 := by decide
theorem ln_c7 : (Str.ofString "for x in ").length = 9 := by decide
theorem ln_c8 : (Str.ofString " ..= ").length = 5 := by decide
theorem ln_c9 : (Str.ofString " .. ").length = 4 := by decide
theorem ln_d1 : (Str.ofString "continue").length = 8 := by decide
theorem ln_d2 : (Str.ofString "break").length = 5 := by decide
theorem ln_d3 : (Str.ofString "return ").length = 7 := by decide
theorem ln_d4 : (Str.ofString "[").length = 1 := by decide
theorem ln_d5 : (Str.ofString "]").length = 1 := by decide
theorem ln_d6 : (Str.ofString "(").length = 1 := by decide
theorem ln_d7 : (Str.ofString ")").length = 1 := by decide
theorem ln_d8 : (Str.ofString ",)").length = 2 := by decide
theorem ln_d9 : (Str.ofString "; 3]").length = 4 := by decide
theorem ln_e1 : (Str.ofString ".m").length = 2 := by decide
theorem ln_e2 : (Str.ofString " as u8").length = 6 := by decide
theorem ln_e3 : (Str.ofString "&mut ").length = 5 := by decide
theorem ln_e4 : (Str.ofString "7").length = 1 := by decide
theorem ln_e5 : (Str.ofString "0i64").length = 4 := by decide
theorem ln_e6 : (Str.ofString "true").length = 4 := by decide
theorem ln_e7 : (Str.ofString "P {}").length = 4 := by decide
theorem ln_e8 : (Str.ofString "{}").length = 2 := by decide
theorem ln_e9 : (Str.ofString "if a {}").length = 7 := by decide
theorem txt_len : ∀ (e : E) (n : Nat), hgt e ≤ n → ∀ b, (txt e b).length + 40 ≤ 100 * 4 ^ n := by
  have pos : ∀ n : Nat, 1 ≤ 4 ^ n := fun n => Nat.pow_pos (by decide)
  have wl : ∀ (l n : Int) (e : E) (k : Nat) (b : Bool), (∀ b, (txt e b).length + 40 ≤ k) → (wst l n (txt e false) (txt e b)).length + 38 ≤ k := fun l n e k b h => by
    have h1 := h false
    have h2 := h b
    have := wst_len l n (txt e false) (txt e b) (k - 40) (by omega) (by omega)
    omega
  have bl : ∀ (e : E) (k : Nat), (∀ b, (txt e b).length + 40 ≤ k) → (if isBlk e = true then par (txt e false) else txt e false).length + 38 ≤ k := fun e k h => by
    have h1 := h false
    split
    · rw [par_len]; omega
    · omega
  have sl : ∀ (e : E) (k : Nat) (l n : Int) (b : Bool), (∀ b, (txt e b).length + 40 ≤ k) → (if isStr e = true then par (txt e false) else wst l n (txt e false) (txt e b)).length + 38 ≤ k := fun e k l n b h => by
    have h1 := h false
    have h2 := wl l n e k b h
    split
    · rw [par_len]; omega
    · omega
  have al : ∀ (n : _root_.Fin 3) (x y : E) (k : Nat), (∀ b, (txt x b).length + 40 ≤ k) → (∀ b, (txt y b).length + 40 ≤ k) → (argT n (txt x false) (txt y false)).length + 78 ≤ 2 * k := fun n x y k h h' => by
    have h1 := h false
    have h2 := h' false
    have := argT_len n (txt x false) (txt y false) (k - 40) (by omega) (by omega)
    omega
  have up : ∀ {m n : Nat}, m + 1 ≤ n → ∃ k, n = k + 1 ∧ m ≤ k ∧ 4 ^ n = 4 * 4 ^ k := fun {m n} h => ⟨n - 1, by omega, by omega, by
    obtain ⟨k, rfl⟩ : ∃ k, n = k + 1 := ⟨n - 1, by omega⟩
    rw [Nat.add_sub_cancel, Nat.pow_succ, Nat.mul_comm]⟩
  intro e
  induction e with
  | name n => intro n' h b; have := pos n'; have := nm_len n; simp only [txt, ln_c1, ln_c2, ln_c3, ln_c4, ln_c5, ln_c6, ln_c7, ln_c8, ln_c9, ln_d1, ln_d2, ln_d3, ln_d4, ln_d5, ln_d6, ln_d7, ln_d8, ln_d9, ln_e1, ln_e2, ln_e3, ln_e4, ln_e5, ln_e6, ln_e7, ln_e8, ln_e9]; omega
  | seven => intro n' h b; have := pos n'; simp only [txt, ln_c1, ln_c2, ln_c3, ln_c4, ln_c5, ln_c6, ln_c7, ln_c8, ln_c9, ln_d1, ln_d2, ln_d3, ln_d4, ln_d5, ln_d6, ln_d7, ln_d8, ln_d9, ln_e1, ln_e2, ln_e3, ln_e4, ln_e5, ln_e6, ln_e7, ln_e8, ln_e9]; omega
  | zero => intro n' h b; have := pos n'; simp only [txt, ln_c1, ln_c2, ln_c3, ln_c4, ln_c5, ln_c6, ln_c7, ln_c8, ln_c9, ln_d1, ln_d2, ln_d3, ln_d4, ln_d5, ln_d6, ln_d7, ln_d8, ln_d9, ln_e1, ln_e2, ln_e3, ln_e4, ln_e5, ln_e6, ln_e7, ln_e8, ln_e9]; omega
  | tru => intro n' h b; have := pos n'; simp only [txt, ln_c1, ln_c2, ln_c3, ln_c4, ln_c5, ln_c6, ln_c7, ln_c8, ln_c9, ln_d1, ln_d2, ln_d3, ln_d4, ln_d5, ln_d6, ln_d7, ln_d8, ln_d9, ln_e1, ln_e2, ln_e3, ln_e4, ln_e5, ln_e6, ln_e7, ln_e8, ln_e9]; omega
  | strct => intro n' h b; have := pos n'; have := opb_len b (Str.ofString "P {}"); rw [ln_e7] at this; simp only [txt, ln_c1, ln_c2, ln_c3, ln_c4, ln_c5, ln_c6, ln_c7, ln_c8, ln_c9, ln_d1, ln_d2, ln_d3, ln_d4, ln_d5, ln_d6, ln_d7, ln_d8, ln_d9, ln_e1, ln_e2, ln_e3, ln_e4, ln_e5, ln_e6, ln_e7, ln_e8, ln_e9]; omega
  | block => intro n' h b; have := pos n'; have := opb_len b (Str.ofString "{}"); rw [ln_e8] at this; simp only [txt, ln_c1, ln_c2, ln_c3, ln_c4, ln_c5, ln_c6, ln_c7, ln_c8, ln_c9, ln_d1, ln_d2, ln_d3, ln_d4, ln_d5, ln_d6, ln_d7, ln_d8, ln_d9, ln_e1, ln_e2, ln_e3, ln_e4, ln_e5, ln_e6, ln_e7, ln_e8, ln_e9]; omega
  | ifa => intro n' h b; have := pos n'; have := opb_len b (Str.ofString "if a {}"); rw [ln_e9] at this; simp only [txt, ln_c1, ln_c2, ln_c3, ln_c4, ln_c5, ln_c6, ln_c7, ln_c8, ln_c9, ln_d1, ln_d2, ln_d3, ln_d4, ln_d5, ln_d6, ln_d7, ln_d8, ln_d9, ln_e1, ln_e2, ln_e3, ln_e4, ln_e5, ln_e6, ln_e7, ln_e8, ln_e9]; omega
  | bin j l r il ir =>
    intro n' h b
    simp only [hgt] at h
    obtain ⟨k, rfl, hk, e⟩ := up h
    have h1 := wl (lvl l) (if isCast l = true then 11 else blv j + (if blv j = 3 then 1 else 0)) l _ b (il k (by omega))
    have h2 := wl (lvl r) (if isCast r = true then 11 else blv j + 1) r _ b (ir k (by omega))
    have := pos k
    have := sgn_len j
    simp only [txt, len_app, ln_c1, ln_c2, ln_c3, ln_c4, ln_c5, ln_c6, ln_c7, ln_c8, ln_c9, ln_d1, ln_d2, ln_d3, ln_d4, ln_d5, ln_d6, ln_d7, ln_d8, ln_d9, ln_e1, ln_e2, ln_e3, ln_e4, ln_e5, ln_e6, ln_e7, ln_e8, ln_e9]
    omega
  | asg l r il ir =>
    intro n' h b
    simp only [hgt] at h
    obtain ⟨k, rfl, hk, e⟩ := up h
    have h1 := wl (lvl l) (if isCast l = true then 11 else 1) l _ b (il k (by omega))
    have h2 := ir k (by omega) b
    have := pos k
    simp only [txt, len_app, ln_c1, ln_c2, ln_c3, ln_c4, ln_c5, ln_c6, ln_c7, ln_c8, ln_c9, ln_d1, ln_d2, ln_d3, ln_d4, ln_d5, ln_d6, ln_d7, ln_d8, ln_d9, ln_e1, ln_e2, ln_e3, ln_e4, ln_e5, ln_e6, ln_e7, ln_e8, ln_e9]
    omega
  | upd j l r il ir =>
    intro n' h b
    simp only [hgt] at h
    obtain ⟨k, rfl, hk, e⟩ := up h
    have h1 := wl (lvl l) (if isCast l = true then 11 else 1) l _ b (il k (by omega))
    have h2 := ir k (by omega) b
    have := pos k
    have := usg_len j
    simp only [txt, len_app, ln_c1, ln_c2, ln_c3, ln_c4, ln_c5, ln_c6, ln_c7, ln_c8, ln_c9, ln_d1, ln_d2, ln_d3, ln_d4, ln_d5, ln_d6, ln_d7, ln_d8, ln_d9, ln_e1, ln_e2, ln_e3, ln_e4, ln_e5, ln_e6, ln_e7, ln_e8, ln_e9]
    omega
  | loop n => intro n' h b; have := pos n'; have := lbA_len n; have := opb_len b (lbA n ++ Str.ofString "loop {}"); simp only [txt, ln_c1, ln_c2, ln_c3, ln_c4, ln_c5, ln_c6, ln_c7, ln_c8, ln_c9, ln_d1, ln_d2, ln_d3, ln_d4, ln_d5, ln_d6, ln_d7, ln_d8, ln_d9, ln_e1, ln_e2, ln_e3, ln_e4, ln_e5, ln_e6, ln_e7, ln_e8, ln_e9]; simp only [len_app, ln_c1, ln_c2, ln_c3, ln_c4, ln_c5, ln_c6, ln_c7, ln_c8, ln_c9, ln_d1, ln_d2, ln_d3, ln_d4, ln_d5, ln_d6, ln_d7, ln_d8, ln_d9, ln_e1, ln_e2, ln_e3, ln_e4, ln_e5, ln_e6, ln_e7, ln_e8, ln_e9] at this; omega
  | whl n c ic =>
    intro n' h b
    simp only [hgt] at h
    obtain ⟨k, rfl, hk, e⟩ := up h
    have h1 := ic k (by omega) true
    have := pos k
    have := lbA_len n
    have := opb_len b (lbA n ++ Str.ofString "while " ++ txt c true ++ Str.ofString " {}")
    simp only [txt, len_app, ln_c1, ln_c2, ln_c3, ln_c4, ln_c5, ln_c6, ln_c7, ln_c8, ln_c9, ln_d1, ln_d2, ln_d3, ln_d4, ln_d5, ln_d6, ln_d7, ln_d8, ln_d9, ln_e1, ln_e2, ln_e3, ln_e4, ln_e5, ln_e6, ln_e7, ln_e8, ln_e9] at *
    omega
  | for_ n z l r il ir =>
    intro n' h b
    simp only [hgt] at h
    obtain ⟨k, rfl, hk, e⟩ := up h
    have h1 := wl (lvl l) (if isCast l = true then 11 else 1) l _ true (il k (by omega))
    have h2 := wl (lvl r) (if isCast r = true then 11 else 1) r _ true (ir k (by omega))
    have := pos k
    have := lbA_len n
    have hz : (if z = true then Str.ofString " ..= " else Str.ofString " .. ").length ≤ 5 := by
      split
      · exact Nat.le_of_eq ln_c8
      · exact Nat.le_trans (Nat.le_of_eq ln_c9) (by decide)
    have := opb_len b (lbA n ++ Str.ofString "for x in " ++ (wst (lvl l) (if isCast l then 11 else 1) (txt l false) (txt l true) ++ (if z then Str.ofString " ..= " else Str.ofString " .. ") ++ wst (lvl r) (if isCast r then 11 else 1) (txt r false) (txt r true)) ++ Str.ofString " {}")
    simp only [txt, len_app, ln_c1, ln_c2, ln_c3, ln_c4, ln_c5, ln_c6, ln_c7, ln_c8, ln_c9, ln_d1, ln_d2, ln_d3, ln_d4, ln_d5, ln_d6, ln_d7, ln_d8, ln_d9, ln_e1, ln_e2, ln_e3, ln_e4, ln_e5, ln_e6, ln_e7, ln_e8, ln_e9] at *
    omega
  | cont n => intro n' h b; have := pos n'; have := lbB_len n; have := opb_len b (Str.ofString "continue" ++ lbB n); simp only [txt, ln_c1, ln_c2, ln_c3, ln_c4, ln_c5, ln_c6, ln_c7, ln_c8, ln_c9, ln_d1, ln_d2, ln_d3, ln_d4, ln_d5, ln_d6, ln_d7, ln_d8, ln_d9, ln_e1, ln_e2, ln_e3, ln_e4, ln_e5, ln_e6, ln_e7, ln_e8, ln_e9]; simp only [len_app, ln_c1, ln_c2, ln_c3, ln_c4, ln_c5, ln_c6, ln_c7, ln_c8, ln_c9, ln_d1, ln_d2, ln_d3, ln_d4, ln_d5, ln_d6, ln_d7, ln_d8, ln_d9, ln_e1, ln_e2, ln_e3, ln_e4, ln_e5, ln_e6, ln_e7, ln_e8, ln_e9] at this; omega
  | brk0 n => intro n' h b; have := pos n'; have := lbB_len n; have := opb_len b (Str.ofString "break" ++ lbB n); simp only [txt, ln_c1, ln_c2, ln_c3, ln_c4, ln_c5, ln_c6, ln_c7, ln_c8, ln_c9, ln_d1, ln_d2, ln_d3, ln_d4, ln_d5, ln_d6, ln_d7, ln_d8, ln_d9, ln_e1, ln_e2, ln_e3, ln_e4, ln_e5, ln_e6, ln_e7, ln_e8, ln_e9]; simp only [len_app, ln_c1, ln_c2, ln_c3, ln_c4, ln_c5, ln_c6, ln_c7, ln_c8, ln_c9, ln_d1, ln_d2, ln_d3, ln_d4, ln_d5, ln_d6, ln_d7, ln_d8, ln_d9, ln_e1, ln_e2, ln_e3, ln_e4, ln_e5, ln_e6, ln_e7, ln_e8, ln_e9] at this; omega
  | brk n v iv =>
    intro n' h b
    simp only [hgt] at h
    obtain ⟨k, rfl, hk, e⟩ := up h
    have h1 := bl v _ (iv k (by omega))
    have := pos k
    have := lbB_len n
    have := opb_len b (Str.ofString "break" ++ lbB n ++ Str.ofString " " ++ (if isBlk v then par (txt v false) else txt v false))
    simp only [txt, len_app, ln_c1, ln_c2, ln_c3, ln_c4, ln_c5, ln_c6, ln_c7, ln_c8, ln_c9, ln_d1, ln_d2, ln_d3, ln_d4, ln_d5, ln_d6, ln_d7, ln_d8, ln_d9, ln_e1, ln_e2, ln_e3, ln_e4, ln_e5, ln_e6, ln_e7, ln_e8, ln_e9] at *
    omega
  | ret v iv =>
    intro n' h b
    simp only [hgt] at h
    obtain ⟨k, rfl, hk, e⟩ := up h
    have h1 := bl v _ (iv k (by omega))
    have := pos k
    have := opb_len b (Str.ofString "return " ++ (if isBlk v then par (txt v false) else txt v false))
    simp only [txt, len_app, ln_c1, ln_c2, ln_c3, ln_c4, ln_c5, ln_c6, ln_c7, ln_c8, ln_c9, ln_d1, ln_d2, ln_d3, ln_d4, ln_d5, ln_d6, ln_d7, ln_d8, ln_d9, ln_e1, ln_e2, ln_e3, ln_e4, ln_e5, ln_e6, ln_e7, ln_e8, ln_e9] at *
    omega
  | arr e ie =>
    intro n' h b
    simp only [hgt] at h
    obtain ⟨k, rfl, hk, e⟩ := up h
    have h1 := ie k (by omega) false
    have := pos k
    simp only [txt, len_app, ln_c1, ln_c2, ln_c3, ln_c4, ln_c5, ln_c6, ln_c7, ln_c8, ln_c9, ln_d1, ln_d2, ln_d3, ln_d4, ln_d5, ln_d6, ln_d7, ln_d8, ln_d9, ln_e1, ln_e2, ln_e3, ln_e4, ln_e5, ln_e6, ln_e7, ln_e8, ln_e9]
    omega
  | tpl e ie =>
    intro n' h b
    simp only [hgt] at h
    obtain ⟨k, rfl, hk, e⟩ := up h
    have h1 := ie k (by omega) false
    have := pos k
    simp only [txt, len_app, ln_c1, ln_c2, ln_c3, ln_c4, ln_c5, ln_c6, ln_c7, ln_c8, ln_c9, ln_d1, ln_d2, ln_d3, ln_d4, ln_d5, ln_d6, ln_d7, ln_d8, ln_d9, ln_e1, ln_e2, ln_e3, ln_e4, ln_e5, ln_e6, ln_e7, ln_e8, ln_e9]
    omega
  | rep e ie =>
    intro n' h b
    simp only [hgt] at h
    obtain ⟨k, rfl, hk, e⟩ := up h
    have h1 := ie k (by omega) false
    have := pos k
    simp only [txt, len_app, ln_c1, ln_c2, ln_c3, ln_c4, ln_c5, ln_c6, ln_c7, ln_c8, ln_c9, ln_d1, ln_d2, ln_d3, ln_d4, ln_d5, ln_d6, ln_d7, ln_d8, ln_d9, ln_e1, ln_e2, ln_e3, ln_e4, ln_e5, ln_e6, ln_e7, ln_e8, ln_e9]
    omega
  | call n f x y jf jx jy =>
    intro n' h b
    simp only [hgt] at h
    obtain ⟨k, rfl, hk, e⟩ := up h
    have h1 := sl f _ (lvl f) 12 b (jf k (by omega))
    have h2 := al n x y _ (jx k (by omega)) (jy k (by omega))
    have := pos k
    simp only [txt, len_app, ln_c1, ln_c2, ln_c3, ln_c4, ln_c5, ln_c6, ln_c7, ln_c8, ln_c9, ln_d1, ln_d2, ln_d3, ln_d4, ln_d5, ln_d6, ln_d7, ln_d8, ln_d9, ln_e1, ln_e2, ln_e3, ln_e4, ln_e5, ln_e6, ln_e7, ln_e8, ln_e9]
    omega
  | meth m n f x y jf jx jy =>
    intro n' h b
    simp only [hgt] at h
    obtain ⟨k, rfl, hk, e⟩ := up h
    have h1 := sl f _ (lvl f) 12 b (jf k (by omega))
    have h2 := al n x y _ (jx k (by omega)) (jy k (by omega))
    have := pos k
    have := ang_len m
    simp only [txt, len_app, ln_c1, ln_c2, ln_c3, ln_c4, ln_c5, ln_c6, ln_c7, ln_c8, ln_c9, ln_d1, ln_d2, ln_d3, ln_d4, ln_d5, ln_d6, ln_d7, ln_d8, ln_d9, ln_e1, ln_e2, ln_e3, ln_e4, ln_e5, ln_e6, ln_e7, ln_e8, ln_e9]
    omega
  | cast e ie =>
    intro n' h b
    simp only [hgt] at h
    obtain ⟨k, rfl, hk, hq⟩ := up h
    have h1 := wl (lvl e) 10 e _ b (ie k (by omega))
    have := pos k
    simp only [txt, len_app, ln_c1, ln_c2, ln_c3, ln_c4, ln_c5, ln_c6, ln_c7, ln_c8, ln_c9, ln_d1, ln_d2, ln_d3, ln_d4, ln_d5, ln_d6, ln_d7, ln_d8, ln_d9, ln_e1, ln_e2, ln_e3, ln_e4, ln_e5, ln_e6, ln_e7, ln_e8, ln_e9]
    omega
  | un j e ie =>
    intro n' h b
    simp only [hgt] at h
    obtain ⟨k, rfl, hk, hq⟩ := up h
    have h1 := wl (lvl e) 11 e _ b (ie k (by omega))
    have := pos k
    have := usn_len j
    simp only [txt, len_app, ln_c1, ln_c2, ln_c3, ln_c4, ln_c5, ln_c6, ln_c7, ln_c8, ln_c9, ln_d1, ln_d2, ln_d3, ln_d4, ln_d5, ln_d6, ln_d7, ln_d8, ln_d9, ln_e1, ln_e2, ln_e3, ln_e4, ln_e5, ln_e6, ln_e7, ln_e8, ln_e9]
    omega
  | bor e ie =>
    intro n' h b
    simp only [hgt] at h
    obtain ⟨k, rfl, hk, hq⟩ := up h
    have h1 := wl (lvl e) 11 e _ b (ie k (by omega))
    have := pos k
    simp only [txt, len_app, ln_c1, ln_c2, ln_c3, ln_c4, ln_c5, ln_c6, ln_c7, ln_c8, ln_c9, ln_d1, ln_d2, ln_d3, ln_d4, ln_d5, ln_d6, ln_d7, ln_d8, ln_d9, ln_e1, ln_e2, ln_e3, ln_e4, ln_e5, ln_e6, ln_e7, ln_e8, ln_e9]
    omega
theorem txt_small {e : E} (h : hgt e ≤ 6) (b : Bool) : (txt e b).length ≤ 500000 := by
  have := txt_len e 6 h b
  omega
theorem W_small {e : E} (h : hgt e ≤ 6) (n : Int) (b : Bool) : (W e n b).length ≤ 500002 := wst_len _ _ _ _ _ (txt_small h _) (txt_small h _)
-- Rel
/-- a path of one name without regions and types -/
inductive PathQ (N : Led) (x : Str) : Addr → Prop where
  | mk {q p q1 q2 : Addr} {t : Tok} : (q, tup [.ref p]) ∈ N → (p, tup [.str x t, .ref q1, .ref q2]) ∈ N → (q1, tup []) ∈ N → (q2, tup []) ∈ N → PathQ N x q
inductive PathV (N : Led) (x : Str) : Value → Prop where
  | mk {a q : Addr} {t t' : Tok} : (a, tup [.str (Str.ofString "path") t, .int 0 t', .ref q]) ∈ N → PathQ N x q → PathV N x (.ref a)
inductive BoxV (N : Led) : Value → Prop where
  | mk {a q p q1 q2 : Addr} {v : Value} {t t' t'' : Tok} : (a, tup [.str (Str.ofString "path") t, .int 0 t', .ref q]) ∈ N → (q, tup [.ref p]) ∈ N → (p, tup [.str (Str.ofString "Box") t'', .ref q1, .ref q2]) ∈ N → (q1, tup []) ∈ N → (q2, tup [v]) ∈ N → PathV N (Str.ofString "T") v → BoxV N (.ref a)
inductive TysV (N : Led) : Fin 3 → Value → Prop where
  | zero {q : Addr} : (q, tup []) ∈ N → TysV N 0 (.ref q)
  | one {q : Addr} {v : Value} : (q, tup [v]) ∈ N → PathV N (Str.ofString "u8") v → TysV N 1 (.ref q)
  | two {q : Addr} {v v' : Value} : (q, tup [v, v']) ∈ N → BoxV N v → PathV N (Str.ofString "T") v' → TysV N 2 (.ref q)
inductive LabV : Option Str → Value → Prop where
  | none : LabV Option.none .none
  | some {x : Str} {t : Tok} : LabV (Option.some x) (.str x t)

/-- the ledger bears the expression at a value -/
inductive Tr (N : Led) : E → Value → Prop where
  | name {b : Bool} {v : Value} : PathV N (nm b) v → Tr N (.name b) v
  | seven {a : Addr} {t1 t2 t3 : Tok} : (a, tup [.str (Str.ofString "int") t1, .int 0 t2, .int 7 t3, .none]) ∈ N → Tr N .seven (.ref a)
  | zero {a : Addr} {t1 t2 t3 t4 : Tok} : (a, tup [.str (Str.ofString "int") t1, .int 0 t2, .int 0 t3, .str (Str.ofString "i64") t4]) ∈ N → Tr N .zero (.ref a)
  | tru {a : Addr} {t1 t2 : Tok} : (a, tup [.str (Str.ofString "bool") t1, .int 0 t2, .bool true]) ∈ N → Tr N .tru (.ref a)
  | strct : Tr N .strct (.ref 221)
  | block : Tr N .block (.ref 215)
  | ifa {a : Addr} {v : Value} {t1 t2 : Tok} : (a, tup [.str (Str.ofString "if") t1, .int 0 t2, v, .ref 215, .none]) ∈ N → Tr N (.name false) v → Tr N .ifa (.ref a)
  | bin {j : Fin 18} {l r : E} {a : Addr} {v v' : Value} {t1 t2 t3 : Tok} : (a, tup [.str (Str.ofString "binary") t1, .int 0 t2, .str (sgn j) t3, v, v']) ∈ N → Tr N l v → Tr N r v' → Tr N (.bin j l r) (.ref a)
  | asg {l r : E} {a : Addr} {v v' : Value} {t1 t2 : Tok} : (a, tup [.str (Str.ofString "assign") t1, .int 0 t2, v, v']) ∈ N → Tr N l v → Tr N r v' → Tr N (.asg l r) (.ref a)
  | upd {j : Fin 10} {l r : E} {a : Addr} {v v' : Value} {t1 t2 t3 : Tok} : (a, tup [.str (Str.ofString "update") t1, .int 0 t2, .str (usg j) t3, v, v']) ∈ N → Tr N l v → Tr N r v' → Tr N (.upd j l r) (.ref a)
  | loop {n : Fin 4} {a : Addr} {lv : Value} {t1 t2 : Tok} : (a, tup [.str (Str.ofString "loop") t1, .int 0 t2, lv, .ref 215]) ∈ N → LabV (lbl n) lv → Tr N (.loop n) (.ref a)
  | whl {n : Fin 4} {c : E} {a : Addr} {lv v : Value} {t1 t2 : Tok} : (a, tup [.str (Str.ofString "while") t1, .int 0 t2, lv, v, .ref 215]) ∈ N → LabV (lbl n) lv → Tr N c v → Tr N (.whl n c) (.ref a)
  | for_ {n : Fin 4} {z : Bool} {l r : E} {a x : Addr} {lv v v' : Value} {t1 t2 t3 t4 t5 : Tok} : (a, tup [.str (Str.ofString "for") t1, .int 0 t2, lv, .ref x, v, v', .bool z, .ref 215]) ∈ N → LabV (lbl n) lv →
      (x, tup [.str (Str.ofString "name") t3, .int 0 t4, .str (Str.ofString "x") t5, .bool false, .bool false, .none]) ∈ N → Tr N l v → Tr N r v' → Tr N (.for_ n z l r) (.ref a)
  | cont {n : Fin 4} {a : Addr} {lv : Value} {t1 t2 : Tok} : (a, tup [.str (Str.ofString "continue") t1, .int 0 t2, lv]) ∈ N → LabV (lbl n) lv → Tr N (.cont n) (.ref a)
  | brk0 {n : Fin 4} {a : Addr} {lv : Value} {t1 t2 : Tok} : (a, tup [.str (Str.ofString "break") t1, .int 0 t2, lv, .none]) ∈ N → LabV (lbl n) lv → Tr N (.brk0 n) (.ref a)
  | brk {n : Fin 4} {c : E} {a : Addr} {lv : Value} {va : Addr} {t1 t2 : Tok} : (a, tup [.str (Str.ofString "break") t1, .int 0 t2, lv, .ref va]) ∈ N → LabV (lbl n) lv → Tr N c (.ref va) → Tr N (.brk n c) (.ref a)
  | ret {c : E} {a : Addr} {va : Addr} {t1 t2 : Tok} : (a, tup [.str (Str.ofString "return") t1, .int 0 t2, .ref va]) ∈ N → Tr N c (.ref va) → Tr N (.ret c) (.ref a)
  | arr {c : E} {a q : Addr} {v : Value} {t1 t2 : Tok} : (a, tup [.str (Str.ofString "array") t1, .int 0 t2, .ref q]) ∈ N → (q, tup [v]) ∈ N → Tr N c v → Tr N (.arr c) (.ref a)
  | tpl {c : E} {a q : Addr} {v : Value} {t1 t2 : Tok} : (a, tup [.str (Str.ofString "tuple") t1, .int 0 t2, .ref q]) ∈ N → (q, tup [v]) ∈ N → Tr N c v → Tr N (.tpl c) (.ref a)
  | rep {c : E} {a : Addr} {v : Value} {t1 t2 t3 : Tok} : (a, tup [.str (Str.ofString "repeat") t1, .int 0 t2, v, .int 3 t3]) ∈ N → Tr N c v → Tr N (.rep c) (.ref a)
  | call0 {f x y : E} {a fa q : Addr} {t1 t2 : Tok} : (a, tup [.str (Str.ofString "call") t1, .int 0 t2, .ref fa, .ref q]) ∈ N → (q, tup []) ∈ N → Tr N f (.ref fa) → Tr N (.call 0 f x y) (.ref a)
  | call1 {f x y : E} {a fa q : Addr} {v : Value} {t1 t2 : Tok} : (a, tup [.str (Str.ofString "call") t1, .int 0 t2, .ref fa, .ref q]) ∈ N → (q, tup [v]) ∈ N → Tr N f (.ref fa) → Tr N x v → Tr N (.call 1 f x y) (.ref a)
  | call2 {f x y : E} {a fa q : Addr} {v v' : Value} {t1 t2 : Tok} : (a, tup [.str (Str.ofString "call") t1, .int 0 t2, .ref fa, .ref q]) ∈ N → (q, tup [v, v']) ∈ N → Tr N f (.ref fa) → Tr N x v → Tr N y v' → Tr N (.call 2 f x y) (.ref a)
  | meth0 {k : Fin 3} {f x y : E} {a fa q y' : Addr} {t1 t2 t3 : Tok} : (a, tup [.str (Str.ofString "method") t1, .int 0 t2, .ref fa, .str (Str.ofString "m") t3, .ref y', .ref q]) ∈ N → TysV N k (.ref y') → (q, tup []) ∈ N → Tr N f (.ref fa) → Tr N (.meth k 0 f x y) (.ref a)
  | meth1 {k : Fin 3} {f x y : E} {a fa q y' : Addr} {v : Value} {t1 t2 t3 : Tok} : (a, tup [.str (Str.ofString "method") t1, .int 0 t2, .ref fa, .str (Str.ofString "m") t3, .ref y', .ref q]) ∈ N → TysV N k (.ref y') → (q, tup [v]) ∈ N → Tr N f (.ref fa) → Tr N x v → Tr N (.meth k 1 f x y) (.ref a)
  | meth2 {k : Fin 3} {f x y : E} {a fa q y' : Addr} {v v' : Value} {t1 t2 t3 : Tok} : (a, tup [.str (Str.ofString "method") t1, .int 0 t2, .ref fa, .str (Str.ofString "m") t3, .ref y', .ref q]) ∈ N → TysV N k (.ref y') → (q, tup [v, v']) ∈ N → Tr N f (.ref fa) → Tr N x v → Tr N y v' → Tr N (.meth k 2 f x y) (.ref a)
  | cast {c : E} {a : Addr} {v v' : Value} {t1 t2 : Tok} : (a, tup [.str (Str.ofString "cast") t1, .int 0 t2, v, v']) ∈ N → Tr N c v → PathV N (Str.ofString "u8") v' → Tr N (.cast c) (.ref a)
  | un {j : Fin 3} {c : E} {a : Addr} {v : Value} {t1 t2 t3 : Tok} : (a, tup [.str (Str.ofString "unary") t1, .int 0 t2, .str (usn j) t3, v]) ∈ N → Tr N c v → Tr N (.un j c) (.ref a)
  | bor {c : E} {a : Addr} {v : Value} {t1 t2 : Tok} : (a, tup [.str (Str.ofString "borrow") t1, .int 0 t2, .bool true, v]) ∈ N → Tr N c v → Tr N (.bor c) (.ref a)

theorem PathQ.mono {N N' : Led} {x : Str} {a : Addr} (s : ∀ p ∈ N, p ∈ N') (h : PathQ N x a) : PathQ N' x a := by
  cases h with | mk a b c d => exact .mk (s _ a) (s _ b) (s _ c) (s _ d)
theorem PathV.mono {N N' : Led} {x : Str} {v : Value} (s : ∀ p ∈ N, p ∈ N') (h : PathV N x v) : PathV N' x v := by
  cases h with | mk a b => exact .mk (s _ a) (b.mono s)
theorem BoxV.mono {N N' : Led} {v : Value} (s : ∀ p ∈ N, p ∈ N') (h : BoxV N v) : BoxV N' v := by
  cases h with | mk a b c d e f => exact .mk (s _ a) (s _ b) (s _ c) (s _ d) (s _ e) (f.mono s)
theorem TysV.mono {N N' : Led} {k : Fin 3} {v : Value} (s : ∀ p ∈ N, p ∈ N') (h : TysV N k v) : TysV N' k v := by
  cases h with
  | zero a => exact .zero (s _ a)
  | one a b => exact .one (s _ a) (b.mono s)
  | two a b c => exact .two (s _ a) (b.mono s) (c.mono s)
theorem Tr.mono {N N' : Led} {e : E} {v : Value} (s : ∀ p ∈ N, p ∈ N') (h : Tr N e v) : Tr N' e v := by
  induction h with
  | name a => exact .name (a.mono s)
  | seven a => exact .seven (s _ a)
  | zero a => exact .zero (s _ a)
  | tru a => exact .tru (s _ a)
  | strct => exact .strct
  | block => exact .block
  | ifa a _ ih => exact .ifa (s _ a) ih
  | bin a _ _ i j => exact .bin (s _ a) i j
  | asg a _ _ i j => exact .asg (s _ a) i j
  | upd a _ _ i j => exact .upd (s _ a) i j
  | loop a b => exact .loop (s _ a) b
  | whl a b _ i => exact .whl (s _ a) b i
  | for_ a b c _ _ i j => exact .for_ (s _ a) b (s _ c) i j
  | cont a b => exact .cont (s _ a) b
  | brk0 a b => exact .brk0 (s _ a) b
  | brk a b _ i => exact .brk (s _ a) b i
  | ret a _ i => exact .ret (s _ a) i
  | arr a b _ i => exact .arr (s _ a) (s _ b) i
  | tpl a b _ i => exact .tpl (s _ a) (s _ b) i
  | rep a _ i => exact .rep (s _ a) i
  | call0 a b _ i => exact .call0 (s _ a) (s _ b) i
  | call1 a b _ _ i j => exact .call1 (s _ a) (s _ b) i j
  | call2 a b _ _ _ i j k => exact .call2 (s _ a) (s _ b) i j k
  | meth0 a b c _ i => exact .meth0 (s _ a) (b.mono s) (s _ c) i
  | meth1 a b c _ _ i j => exact .meth1 (s _ a) (b.mono s) (s _ c) i j
  | meth2 a b c _ _ _ i j k => exact .meth2 (s _ a) (b.mono s) (s _ c) i j k
  | cast a _ b i => exact .cast (s _ a) i (b.mono s)
  | un a _ i => exact .un (s _ a) i
  | bor a _ i => exact .bor (s _ a) i

/-- a piece: the expression and its two texts, its strength -/
inductive Pc (N : Led) : E → Value → Prop where
  | mk {e : E} {p v : Addr} {t1 t2 t3 : Tok} : (p, tup [.ref v, .str (txt e false) t1, .str (txt e true) t2, .int (lvl e) t3]) ∈ N → Tr N e (.ref v) → Pc N e (.ref p)
theorem Pc.mono {N N' : Led} {e : E} {v : Value} (s : ∀ p ∈ N, p ∈ N') (h : Pc N e v) : Pc N' e v := by
  cases h with | mk a b => exact .mk (s _ a) (b.mono s)

theorem sub_refl {N : Led} : ∀ p ∈ N, p ∈ N := fun _ h => h
theorem sub_cons {N N' : Led} {q : Addr × Obj} (h : ∀ p ∈ N, p ∈ N') : ∀ p ∈ N, p ∈ q :: N' := fun p hp => .tail _ (h p hp)
theorem sub_inl {N M : Led} : ∀ p ∈ N, p ∈ N ++ M := fun _ h => List.mem_append.mpr (.inl h)
theorem sub_cons2 {N N' : Led} {q : Addr × Obj} (h : ∀ p ∈ N, p ∈ N') : ∀ p ∈ q :: N, p ∈ q :: N' := fun p hp => by
  rcases List.mem_cons.mp hp with rfl | hp
  · exact .head _
  · exact .tail _ (h p hp)
theorem sub_app2 {N N' tl : Led} (h : ∀ p ∈ N, p ∈ N') : ∀ p ∈ tl ++ N, p ∈ tl ++ N' := fun p hp => List.mem_append.mpr ((List.mem_append.mp hp).imp id (h p))
theorem news_sub {h₀ h : Heap} {L : Addr} {N N' : Led} (s : ∀ p ∈ N, p ∈ N') (n : News h₀ L h N') : News h₀ L h N := fun p hp => n p (s p hp)

def notSrc (o : Obj) : Bool := match o.data with
  | .seq xs _ => (match xs.toList with | .int .. :: _ => false | _ => true)
  | _ => true
def isCell (o : Obj) : Bool := match o.data with
  | .cell _ => true
  | _ => false
abbrev AllNot (N : Led) : Prop := ∀ p ∈ N, notSrc p.2 = true
abbrev NoCell (N : Led) : Prop := ∀ p ∈ N, isCell p.2 = false
theorem ns_nil : AllNot [] := fun _ h => nomatch h
theorem notSrc_cell {o : Obj} {v : Option Value} (h : o.data = .cell v) : notSrc o = true := by
  unfold notSrc
  rw [h]
theorem ns_cons {a : Addr} {o : Obj} {N : Led} (h : notSrc o = true) (t : AllNot N) : AllNot ((a, o) :: N) := fun p hp => by
  rcases List.mem_cons.mp hp with rfl | hp
  · exact h
  · exact t p hp
theorem ns_app {M N : Led} (h : AllNot M) (t : AllNot N) : AllNot (M ++ N) := fun p hp => (List.mem_append.mp hp).elim (h p) (t p)
def NeAll (c : Addr) (R : Led) : Prop := ∀ p ∈ R, isCell p.2 = false ∨ p.1 ≠ c
theorem ne_of {h₀ h : Heap} {L c : Addr} {o : Obj} {v : Option Value} {R : Led} (n : News h₀ L h ((c, o) :: R)) (hd : o.data = .cell v) (a : NeAll c R) : ∀ p ∈ R, p.1 ≠ c := fun p hp e => by
  have h1 := (n _ (.head _)).1
  have h2 := (n _ (.tail _ hp)).1
  rw [e] at h2
  rw [h1] at h2
  rcases a p hp with h3 | h3
  · rw [← Option.some.inj h2] at h3
    unfold isCell at h3
    rw [hd] at h3
    cases h3
  · exact h3 e
inductive Pull (a : Addr) (o : Obj) : Led → Led → Prop where
  | head {r : Led} : Pull a o ((a, o) :: r) r
  | tail {p : Addr × Obj} {l r : Led} : Pull a o l r → Pull a o (p :: l) (p :: r)
  | app {M l r : Led} : Pull a o l r → Pull a o (M ++ l) (M ++ r)
theorem Pull.sub {a : Addr} {o : Obj} {l r : Led} (h : Pull a o l r) : ∀ p ∈ (a, o) :: r, p ∈ l := by
  induction h with
  | head => exact fun _ h => h
  | tail _ ih =>
    intro p hp
    rcases List.mem_cons.mp hp with rfl | hp
    · exact .tail _ (ih _ (.head _))
    · rcases List.mem_cons.mp hp with rfl | hp
      · exact .head _
      · exact .tail _ (ih _ (.tail _ hp))
  | app _ ih =>
    intro p hp
    rcases List.mem_cons.mp hp with rfl | hp
    · exact List.mem_append.mpr (.inr (ih _ (.head _)))
    · rcases List.mem_append.mp hp with hp | hp
      · exact List.mem_append.mpr (.inl hp)
      · exact List.mem_append.mpr (.inr (ih _ (.tail _ hp)))
structure SrcOk (g d : Int) : Prop where
  g0 : 0 ≤ g
  d0 : 0 ≤ d
  d1 : d < 2147483647
/-- apart from the source -/
abbrev ANot (src : Addr) (N : Led) : Prop := ∀ p ∈ N, notSrc p.2 = true ∨ @Ne Nat p.1 src
theorem an_nil {src : Addr} : ANot src [] := fun _ h => nomatch h
theorem an_cons {src a : Addr} {o : Obj} {N : Led} (h : notSrc o = true) (t : ANot src N) : ANot src ((a, o) :: N) := fun p hp => by
  rcases List.mem_cons.mp hp with rfl | hp
  · exact .inl h
  · exact t p hp
theorem an_app {src : Addr} {M N : Led} (h : AllNot M) (t : ANot src N) : ANot src (M ++ N) := fun p hp => (List.mem_append.mp hp).elim (fun h' => .inl (h p h')) (t p)
theorem sep_of {h₀ h : Heap} {L src : Addr} {g d : Int} {tg td : Tok} {N : Led} (n : News h₀ L h ((src, srcO g d tg td) :: N)) (a : ANot src N) : ∀ p ∈ N, p.1 ≠ src := fun p hp e => by
  have h1 := (n _ (.head _)).1
  have h2 := (n _ (.tail _ hp)).1
  rw [e] at h2
  rw [h1] at h2
  rcases a p hp with h3 | h3
  · rw [← Option.some.inj h2] at h3
    exact absurd h3 (by simp [notSrc])
  · exact h3 e

/-- a def of the writer: the ledger as it stood, a text back -/
def WOut (N : Led) (x : Str) (_ : Addr) (N' : Led) (r : Value) : Prop := N' = N ∧ ∃ t, r = .str x t
/-- a def that draws -/
abbrev Abv (c : Addr) (M : Led) : Prop := ∀ p ∈ M, @LT.lt Nat _ c p.1
abbrev Fresh (N M : Led) : Prop := ∀ q ∈ N, ∀ p ∈ M, @LT.lt Nat _ q.1 p.1
def GOut (src : Addr) (N : Led) (P : Led → Value → Prop) (L : Addr) (N' : Led) (r : Value) : Prop :=
  ∃ g d tg td tl, N' = (src, srcO g d tg td) :: (tl ++ N) ∧ SrcOk g d ∧ AllNot tl ∧ NoCell tl ∧ Abv L tl ∧ Fresh N tl ∧ P tl r
def Gen (w : World) (f : Addr) (args : List Value) (nd nu : Nat) (N : Led) (P : Led → Value → Prop) : Prop :=
  ∀ src g d tg td, SrcOk g d → ANot src N → Does w f (.ref src :: args) nd nu ((src, srcO g d tg td) :: N) (GOut src N P)

section
variable {w : World} {f : Addr} {vs : List Value} {nd nu : Nat} {N M : Led} {mean : ExcName → Option Value} {mg mb : Str → Option Value} {dp un : Nat} {gd : Option (List Code)} {cn : Str} {cs : Scope} {a : Addr} {ccd : Value} {cl : List (Str × Addr)} {outer : List Env} {A₀ : Around} {base h₀ : Heap} {L : Addr} {m : Str → Option Value} {s : Shared}
    {Q E : Value → Shared → Prop}
theorem Does.use {x : Str} (D : Does w f vs nd nu N (WOut N x)) (B : Below A₀ base outer h₀) (F : Fr h₀ L s.heap m) (X : (pre.heap_1_39 w.params).In h₀) (NN : News h₀ L s.heap N) (T : Top pre.view_1_40 LL mean mg mb h₀) (hk : cs.kind = .function) (hdp : dp + nd < recursionLimit) (hun : un + nu < cLine)
    (ret : ∀ t h' tk', Fr h₀ L h' m → News h₀ L h' N → Q (.str x t) { s with heap := h', toks := tk' }) :
    wpAny (model PySem.Challenge.rw_sy0034_01.row.prog w) (ktrTop dp un gd cn cs L a ccd cl outer) (call (.ref f) vs) Q E s :=
  D _ _ _ _ _ _ _ _ _ _ _ _ _ _ _ _ _ _ _ _ B F X NN T hk hdp hun fun r N' h' tk' F' N9 o => by
    obtain ⟨rfl, t, rfl⟩ := o
    exact ret t h' tk' F' N9
theorem Gen.use {P : Led → Value → Prop} {src : Addr} {g d : Int} {tg td : Tok} (D : Gen w f vs nd nu N P) (B : Below A₀ base outer h₀) (F : Fr h₀ L s.heap m) (X : (pre.heap_1_39 w.params).In h₀) (NN : News h₀ L s.heap M) (pl : Pull src (srcO g d tg td) M N) (so : SrcOk g d) (ns : ANot src N) (T : Top pre.view_1_40 LL mean mg mb h₀) (hk : cs.kind = .function) (hdp : dp + nd < recursionLimit) (hun : un + nu < cLine)
    (ret : ∀ r g' d' tg' td' tl h' tk', Fr h₀ L h' m → News h₀ L h' ((src, srcO g' d' tg' td') :: (tl ++ N)) → SrcOk g' d' → AllNot tl → NoCell tl → Abv L tl → Fresh N tl → P tl r → Q r { s with heap := h', toks := tk' }) :
    wpAny (model PySem.Challenge.rw_sy0034_01.row.prog w) (ktrTop dp un gd cn cs L a ccd cl outer) (call (.ref f) (.ref src :: vs)) Q E s :=
  D src g d tg td so ns _ _ _ _ _ _ _ _ _ _ _ _ _ _ _ _ _ _ _ _ B F X (news_sub pl.sub NN) T hk hdp hun fun r N' h' tk' F' N9 o => by
    obtain ⟨g', d', tg', td', tl, rfl, so', an, nc, ab, fr, hp⟩ := o
    exact ret r g' d' tg' td' tl h' tk' F' N9 so' an nc ab fr hp
end
inductive Split (c : Addr) (N : Led) : Led → Led → Prop where
  | nil : Split c N N []
  | cons {p : Addr × Obj} {l t : Led} : notSrc p.2 = true → isCell p.2 = false → @LT.lt Nat _ c p.1 → Split c N l t → Split c N (p :: l) (p :: t)
  | skip {p : Addr × Obj} {l t : Led} : Split c N l t → Split c N (p :: l) t
  | app {M l t : Led} : AllNot M → NoCell M → Abv c M → Split c N l t → Split c N (M ++ l) (M ++ t)
theorem Split.sub {c : Addr} {N l t : Led} (h : Split c N l t) : ∀ p ∈ t ++ N, p ∈ l := by
  induction h with
  | nil => exact fun p hp => hp
  | cons _ _ _ _ ih =>
    intro p hp
    rcases List.mem_cons.mp hp with rfl | hp
    · exact .head _
    · exact .tail _ (ih p hp)
  | skip _ ih => exact fun p hp => .tail _ (ih p hp)
  | app _ _ _ _ ih =>
    intro p hp
    rw [List.append_assoc] at hp
    rcases List.mem_append.mp hp with hp | hp
    · exact List.mem_append.mpr (.inl hp)
    · exact List.mem_append.mpr (.inr (ih p hp))
theorem Split.ns {c : Addr} {N l t : Led} (h : Split c N l t) : AllNot t := by
  induction h with
  | nil => exact fun _ h => nomatch h
  | cons a _ _ _ ih => exact ns_cons a ih
  | skip _ ih => exact ih
  | app a _ _ _ ih => exact ns_app a ih
theorem Split.nc {c : Addr} {N l t : Led} (h : Split c N l t) : NoCell t := by
  induction h with
  | nil => exact fun _ h => nomatch h
  | cons _ b _ _ ih =>
    intro p hp
    rcases List.mem_cons.mp hp with rfl | hp
    · exact b
    · exact ih p hp
  | skip _ ih => exact ih
  | app _ b _ _ ih => exact fun p hp => (List.mem_append.mp hp).elim (b p) (ih p)
theorem Split.ab {c : Addr} {N l t : Led} (h : Split c N l t) : Abv c t := by
  induction h with
  | nil => exact fun _ h => nomatch h
  | cons _ _ b _ ih =>
    intro p hp
    rcases List.mem_cons.mp hp with rfl | hp
    · exact b
    · exact ih p hp
  | skip _ ih => exact ih
  | app _ _ b _ ih => exact fun p hp => (List.mem_append.mp hp).elim (b p) (ih p)
section
variable {h₀ h' : Heap} {L L' src : Addr} {m : Str → Option Value} {N M R t : Led} {P : Led → Value → Prop} {g d : Int} {tg td : Tok} {r : Value} {s : Shared} {tk' : Nat} {Q : Value → Shared → Prop}
theorem gfin {o₀ : Obj} (hret : ∀ r N' h' tk', Fr h₀ L h' m → News h₀ L h' N' → GOut src N P L N' r → Q r { s with heap := h', toks := tk' })
    (F : Fr h₀ L h' m) (NM : News h₀ L h' M) (pl : Pull src (srcO g d tg td) M R) (sp : Split L' N R t) (hl : @LT.lt Nat _ L L') (hb : ∀ p ∈ (src, o₀) :: N, p.1 < L') (so : SrcOk g d) (hp : P t r) : Q r { s with heap := h', toks := tk' } := by
  have sb : ∀ p ∈ (src, srcO g d tg td) :: (t ++ N), p ∈ M := fun p hp => pl.sub p (by
    rcases List.mem_cons.mp hp with rfl | hp
    · exact .head _
    · exact .tail _ (sp.sub p hp))
  exact hret _ _ _ _ F (news_sub sb NM) ⟨_, _, _, _, t, rfl, so, sp.ns, sp.nc, fun p hp => Nat.lt_trans hl (sp.ab p hp), fun q hq p hp => Nat.lt_trans (hb q (.tail _ hq)) (sp.ab p hp), hp⟩
/-- a def that makes and draws not -/
def POut (N : Led) (P : Led → Value → Prop) (L : Addr) (N' : Led) (r : Value) : Prop := ∃ tl, N' = tl ++ N ∧ AllNot tl ∧ NoCell tl ∧ Abv L tl ∧ Fresh N tl ∧ P tl r
theorem pfin (hret : ∀ r N' h' tk', Fr h₀ L h' m → News h₀ L h' N' → POut N P L N' r → Q r { s with heap := h', toks := tk' })
    (F : Fr h₀ L h' m) (NM : News h₀ L h' R) (sp : Split L' N R t) (hl : @LT.lt Nat _ L L') (hb : ∀ p ∈ N, p.1 < L') (hp : P t r) : Q r { s with heap := h', toks := tk' } :=
  hret _ _ _ _ F (news_sub sp.sub NM) ⟨t, rfl, sp.ns, sp.nc, fun p hp => Nat.lt_trans hl (sp.ab p hp), fun q hq p hp => Nat.lt_trans (hb q hq) (sp.ab p hp), hp⟩
theorem wfin {x y : Str} {tx : Tok} (hret : ∀ r N' h' tk', Fr h₀ L h' m → News h₀ L h' N' → WOut N x L N' r → Q r { s with heap := h', toks := tk' })
    (F : Fr h₀ L h' m) (NM : News h₀ L h' M) (sb : ∀ p ∈ N, p ∈ M) (e : y = x) : Q (.str y tx) { s with heap := h', toks := tk' } := by
  subst e
  exact hret _ _ _ _ F (news_sub sb NM) ⟨rfl, _, rfl⟩
end
section
variable {w : World} {f : Addr} {vs : List Value} {nd nu : Nat} {N : Led} {mean : ExcName → Option Value} {mg mb : Str → Option Value} {dp un : Nat} {gd : Option (List Code)} {cn : Str} {cs : Scope} {a : Addr} {ccd : Value} {cl : List (Str × Addr)} {outer : List Env} {A₀ : Around} {base h₀ : Heap} {L : Addr} {m : Str → Option Value} {s : Shared}
    {Q E : Value → Shared → Prop}
theorem Does.useP {P : Led → Value → Prop} (D : Does w f vs nd nu N (POut N P)) (B : Below A₀ base outer h₀) (F : Fr h₀ L s.heap m) (X : (pre.heap_1_39 w.params).In h₀) (NN : News h₀ L s.heap N) (T : Top pre.view_1_40 LL mean mg mb h₀) (hk : cs.kind = .function) (hdp : dp + nd < recursionLimit) (hun : un + nu < cLine)
    (ret : ∀ r tl h' tk', Fr h₀ L h' m → News h₀ L h' (tl ++ N) → AllNot tl → NoCell tl → Abv L tl → Fresh N tl → P tl r → Q r { s with heap := h', toks := tk' }) :
    wpAny (model PySem.Challenge.rw_sy0034_01.row.prog w) (ktrTop dp un gd cn cs L a ccd cl outer) (call (.ref f) vs) Q E s :=
  D _ _ _ _ _ _ _ _ _ _ _ _ _ _ _ _ _ _ _ _ B F X NN T hk hdp hun fun r N' h' tk' F' N9 o => by
    obtain ⟨tl, rfl, ns, nc, ab, fr, hp⟩ := o
    exact ret r tl h' tk' F' N9 ns nc ab fr hp
end
section
variable {prog : Program} {w : World} {A : Around} {E' : Value → Shared → Prop} {s : Shared} {h₀ : Heap} {L a : Addr} {m : Str → Option Value} {M : Led} {u : Tok}
theorem tup_item {lo : Obj} {n : Nat} {vs : List Value} {k : Int} {j : Nat} {x : Value} {value slice : PySem.Expr} {Q : Value → Shared → Prop} (NN : News h₀ L s.heap M) (hm : (a, lo) ∈ M) (hc : lo.cls = .type "tuple") (hd : lo.data = .seq vs.toArray n) (h0 : -(2 ^ 63) ≤ k) (h1 : k < 2 ^ 63) (hj : seqIndex? k vs.length = some j) (hx : vs[j]? = some x) (h : Q x s)
    (hs : subscripted slice false (.ref a) (.int k u) = operate [.ref a, .int k u] (getItem (.ref a) (.int k u)) := by with_unfolding_all rfl) :
    wpAny (model prog w) A (subscriptTail value slice (.ref a) (.int k u)) Q E' s :=
  item_tupleT (j := j) ⟨_, (NN _ hm).1, hc, n, hd⟩ h0 h1 hj hx h hs
theorem tup_new {vs : List Value} {Q : Value → Shared → Prop} (F : Fr h₀ L s.heap m) (N : News h₀ L s.heap M)
    (h : ∀ D h', Fr h₀ L h' m → News h₀ L h' ((D, tup vs) :: M) → @LT.lt Nat _ L D → Q (.ref D) { s with heap := h' }) (hsz : vs.length ≤ sizeLine) :
    wpAny (model prog w) A (newTuple vs) Q E' s := newTuple_N F N (fun h' F' N' => h _ h' F' N' F.ns.lt) hsz
theorem lst_new {vs : List Value} {Q : Value → Shared → Prop} (F : Fr h₀ L s.heap m) (N : News h₀ L s.heap M)
    (h : ∀ D h', Fr h₀ L h' m → News h₀ L h' ((D, lst vs) :: M) → @LT.lt Nat _ L D → Q (.ref D) { s with heap := h' }) (hsz : vs.length ≤ sizeLine) :
    wpAny (model prog w) A (newList vs) Q E' s := newList_N F N (fun h' F' N' => h _ h' F' N' F.ns.lt) hsz
end
theorem Pc.mk' {N : Led} {e : E} {p v : Addr} {x y : Str} {k : Int} {t1 t2 t3 : Tok} (hm : (p, tup [.ref v, .str x t1, .str y t2, .int k t3]) ∈ N) (T : Tr N e (.ref v)) (hx : x = txt e false) (hy : y = txt e true) (hk : k = lvl e) : Pc N e (.ref p) := by
  subst hx hy hk
  exact .mk hm T
theorem Sd_small {e : E} (h : hgt e ≤ 6) (n : Int) (b : Bool) : (Sd e n b).length ≤ 500002 := W_small h _ b
theorem sl_app {x y : Str} {a b : Nat} (hx : x.length ≤ a) (hy : y.length ≤ b) : (x ++ y).length ≤ a + b := by
  rw [len_app]
  omega
theorem sl_par {x : Str} {a : Nat} (hx : x.length ≤ a) : (par x).length ≤ a + 2 := by
  rw [par_len]
  omega
section
variable {prog : Program} {w : World} {A : Around} {E' : Value → Shared → Prop} {s : Shared} {h₀ : Heap} {L a : Addr} {m : Str → Option Value} {M : Led} {u : Tok}
theorem lst_item {lo : Obj} {n : Nat} {vs : List Value} {k : Int} {x : Value} {value slice : PySem.Expr} {Q : Value → Shared → Prop} (NN : News h₀ L s.heap M) (hm : (a, lo) ∈ M) (hc : lo.cls = .type "list") (hd : lo.data = .seq vs.toArray n) (h0 : 0 ≤ k) (h1 : k < 2 ^ 63) (hx : vs[k.toNat]? = some x) (h : Q x s)
    (hs : subscripted slice false (.ref a) (.int k u) = operate [.ref a, .int k u] (getItem (.ref a) (.int k u)) := by with_unfolding_all rfl) :
    wpAny (model prog w) A (subscriptTail value slice (.ref a) (.int k u)) Q E' s :=
  have hl : s.heap.IsList a vs.toArray := ⟨lo, (NN _ hm).1, hc, n, hd⟩
  tail_any hl.typeIs slot_list_getitem.lookup (wpAny_getItem_list hl h0 h1 (by simpa using hx) h) hs
end
section
variable {M : Model} {A : Around} {E : Value → Shared → Prop} {s : Shared} {h₀ : Heap} {L a : Addr} {m : Str → Option Value} {cn : Str} {cs : Scope} {ccd : Value} {cl : List (Str × Addr)}
  {x : Str} {v : Value} {Q : Unit → Shared → Prop} {N R : Led} {c : Addr} {o : Obj} {v₀ : Option Value}
end
theorem frames_lt {h₀ g h' : Heap} {L L' : Addr} {m m' : Str → Option Value} (F : Fr h₀ L g m) (F' : Fr g L' h' m') : @LT.lt Nat _ L L' := Nat.lt_of_lt_of_le F.ns.lt F'.above
section
variable {prog : Program} {w : World} {A A₀ : Around} {s : Shared} {K : Frag} {L : Addr} {h₀ base : Heap} {m mg mb : Str → Option Value} {news : Led} {p : Program} {loose : List Str} {mean : ExcName → Option Value}
theorem enter_plain {env : Env} {outer : List Env} {R : Result → Shared → Prop} {name qual : Str} {params : Arguments} {body : List Stmt} {scope : Scope} {dV kV doc pm cdv ct oc : Value} {an od : Option Addr} {osl : Array (Option Value)} {f : Addr} {args : Args} {binds : List (Str × Value)}
    (B : Below A₀ base outer h₀) (F : Fr h₀ L s.heap m) (X₀ : K.In h₀) (N : News h₀ L s.heap news) (T : Top p loose mean mg mb h₀) (hA : A.frames = some (env :: outer)) (hf : env.frame = some L) (hke : env.scope.kind = .function)
    (ho : K.lookup f = some ⟨oc, od, .func (fnOf name qual params body scope dV kV doc pm an cdv ct), osl⟩) (hcd : codeIn K cdv qual = true) (hroom : A.depth < recursionLimit)
    (hbind : BindsTo s (fnOf name qual params body scope dV kV doc pm an cdv ct) args binds) (hloc : ∀ y ∈ binds, scope.names.lookup y.1 = some .local)
    (h : ∀ g L' h₁, Fr h₀ L g m → Fr g L' h₁ (fun y => binds.reverse.lookup y) → News g L' h₁ news → Below A base (env :: outer) g → K.In g → Top p loose mean mg mb g → (∀ p ∈ news, p.1 < L') → @LT.lt Nat _ L L' →
      wpAny (model prog w) (A.deeper (envOf qual scope L' f cdv)) (execs body (envOf qual scope L' f cdv))
        (fun fl s' => LeaveK h₀ L m g R (match fl with | .ret v => v | _ => .none) s')
        (fun e s' => wpAny (model prog w) (A.deeper (envOf qual scope L' f cdv)) (leaving (envOf qual scope L' f cdv) e) (fun _ s'' => R (.error e) s'') (fun e' s'' => R (.error e') s'') s')
        { s with heap := h₁, toks := s.toks + binds.length })
    (hco : scope.isCoroutine = false) (hgen : scope.isGenerator = false) (hk : scope.kind = .function)
    (hcell : ∀ x ∈ scope.names, x.2 ≠ .cell) : codeAny (model prog w) A (.call (.ref f) args) R s :=
  callX_plain (cl := []) B F N T.nolimit hA hf hke ((X₀.keeps F.keep) _ _ ho) rfl (codeRec_of (X₀.keeps F.keep) hcd) hroom hbind hloc (fun g L' h₁ FG F' N' B' st l => h g L' h₁ FG F' N' B' (X₀.keeps st) (T.keeps st) l (frames_lt FG F')) hcell hco hgen hk
theorem enter_cells {env : Env} {outer : List Env} {R : Result → Shared → Prop} {name qual : Str} {params : Arguments} {body : List Stmt} {scope : Scope} {dV kV doc pm cdv ct oc : Value} {an od : Option Addr} {osl : Array (Option Value)} {f : Addr} {args : Args} {binds : List (Str × Value)}
    (B : Below A₀ base outer h₀) (F : Fr h₀ L s.heap m) (X₀ : K.In h₀) (N : News h₀ L s.heap news) (T : Top p loose mean mg mb h₀) (hA : A.frames = some (env :: outer)) (hf : env.frame = some L) (hke : env.scope.kind = .function)
    (ho : K.lookup f = some ⟨oc, od, .func (fnOf name qual params body scope dV kV doc pm an cdv ct), osl⟩) (hcd : codeIn K cdv qual = true) (hroom : A.depth < recursionLimit)
    (hbind : BindsTo s (fnOf name qual params body scope dV kV doc pm an cdv ct) args binds) (hkind : (binds.all fun y => scope.names.lookup y.1 == some .local || scope.names.lookup y.1 == some .cell) = true)
    (hnd : ((cellsFrom 0 scope.names []).map (·.1)).Nodup)
    (h : ∀ g L' h₁ tk cells, Fr h₀ L g m → Fr g L' h₁ (bindL (envOfC qual scope L' f cdv).kindOf binds fun _ => none) → News g L' h₁ (cells ++ news) →
      CellsAre (bindC (envOfC qual scope L' f cdv).kindOf binds fun _ => none) (cellsFrom (L' + 1) scope.names []) cells → Below A base (env :: outer) g → K.In g → Top p loose mean mg mb g → (∀ p ∈ news, p.1 < L') → @LT.lt Nat _ L L' →
      wpAny (model prog w) (A.deeper (envOfC qual scope L' f cdv)) (execs body (envOfC qual scope L' f cdv))
        (fun fl s' => LeaveK h₀ L m g R (match fl with | .ret v => v | _ => .none) s')
        (fun e s' => wpAny (model prog w) (A.deeper (envOfC qual scope L' f cdv)) (leaving (envOfC qual scope L' f cdv) e) (fun _ s'' => R (.error e) s'') (fun e' s'' => R (.error e') s'') s')
        { s with heap := h₁, toks := tk })
    (hco : scope.isCoroutine = false) (hgen : scope.isGenerator = false) (hk : scope.kind = .function) : codeAny (model prog w) A (.call (.ref f) args) R s :=
  code_defC B F X₀ N T hA hf hke ho hcd hroom hbind hkind hnd (fun g L' h₁ tk cells FG F' N' Y B' X' T' l => h g L' h₁ tk cells FG F' N' Y B' X' T' l (frames_lt FG F')) hco hgen hk
end
theorem ce_same {h₀ : Heap} {L I C D : Addr} {m : Str → Option Value} {s₁ : Shared} {oI oC oD : Obj} {S : Led → Prop} {rest : Value → Led → Prop} {y : Value} {h' : Heap} {tk : Nat} {news : Led}
    (F : Fr h₀ L h' m) (N : News h₀ L h' ((I, oI) :: (C, oC) :: (D, oD) :: news)) (off : LCg.Off3 I C D news) (hS : S news) (r : rest y news) : LCg.CompEnd h₀ L m s₁ I oI C oC D oD S rest y { s₁ with heap := h', toks := tk } :=
  LCg.CompEnd.intro F N news (fun _ h => h) off hS r
theorem pc_fin {N : Led} {e : E} {n : Nat} {p v : Addr} {x y : Str} {k : Int} {t1 t2 t3 : Tok} (hm : (p, tup [.ref v, .str x t1, .str y t2, .int k t3]) ∈ N) (T : Tr N e (.ref v)) (hx : x = txt e false) (hy : y = txt e true) (hk : k = lvl e) (h1 : hgt e ≤ n) (h2 : hgt e ≤ 6) :
    ∃ e, hgt e ≤ n ∧ hgt e ≤ 6 ∧ Pc N e (.ref p) := ⟨e, h1, h2, Pc.mk' hm T hx hy hk⟩
theorem bin_txt {j : Fin 18} {l r : E} {k : Int} {b : Bool} (hb : blv j = k + 1) : Sd l (k + 1 + if (k == 2) = true then 1 else 0) b ++ Str.ofString " " ++ sgn j ++ Str.ofString " " ++ Sd r (k + 2) b = txt (.bin j l r) b := by
  show _ = Sd l (blv j + if blv j = 3 then 1 else 0) b ++ Str.ofString " " ++ sgn j ++ Str.ofString " " ++ Sd r (blv j + 1) b
  rw [hb]
  have e1 : (if (k == 2) = true then (1 : Int) else 0) = if k + 1 = 3 then 1 else 0 := by
    by_cases h : k = 2
    · subst h; rfl
    · rw [if_neg (by simpa using h), if_neg (by omega)]
  have e2 : k + 2 = k + 1 + 1 := by omega
  rw [e1, e2]
-- PRE
local macro_rules | `(tactic| k_room) => `(tactic| ((try simp only [depth_under_make, depth_under_kw, depth_in1, depth_deeper, depth_caller]); (try dsimp only [ktrTop]); omega))
local macro_rules | `(tactic| k_units) => `(tactic| ((try simp only [units_in1, units_deeper, Around.mark_units, units_caller]); (try dsimp only [ktrTop]); omega))
local macro_rules | `(tactic| ktr_room) => `(tactic| ((try simp only [depth_under_make, depth_under_kw, depth_in1, depth_deeper, depth_caller]); (try dsimp only [ktrTop]); omega))
theorem lay_PRE_1 : True := by
  k_with "mine room" => (((try simp only [depth_under_make, depth_under_kw, depth_in1, depth_deeper, depth_caller, units_in1, units_deeper, Around.mark_units, units_caller]); (try dsimp only [ktrTop]); omega))
  k_with "mine sub" => (first | with_reducible exact sub_refl | with_reducible exact sub_inl | with_reducible assumption | (with_reducible refine sub_cons ?_; walk_at "mine sub") | (with_reducible refine sub_app ?_; walk_at "mine sub"))
  k_with "mine ns" => (first | assumption | exact an_nil | (refine an_cons rfl ?_; walk_at "mine ns") | (refine an_cons (notSrc_cell (by assumption)) ?_; walk_at "mine ns") | (refine an_app ?_ ?_; assumption; walk_at "mine ns") | (refine' an_ne ?zanA ?zanB; (case zanA => walk_at "mine nesrc"); (case zanB => walk_at "mine ns")))
  k_with "mine nesrc" => (fail)
  k_with "mine pull" => (first | exact Pull.head | (refine' Pull.tail ?zmsA; (case zmsA => walk_at "mine pull")) | (refine' Pull.app ?zmsA; (case zmsA => walk_at "mine pull")))
  k_with "mine split" => (first | exact Split.nil | (refine' Split.cons ?zmsB ?zmsC ?zmsD ?zmsA; (case zmsB => exact rfl); (case zmsC => exact rfl); (case zmsD => assumption); (case zmsA => walk_at "mine split")) | (refine' Split.skip ?zmsA; (case zmsA => walk_at "mine split")) | (refine' Split.app ?zmsB ?zmsC ?zmsD ?zmsA; (case zmsB => assumption); (case zmsC => assumption); (case zmsD => assumption); (case zmsA => walk_at "mine split")))
  k_with "mine tr" => (first | assumption | (refine' Tr.mono ?zmtS ?zmtH; (case zmtH => assumption); (case zmtS => walk_at "mine sub")))
  k_with "mine pc" => (first | assumption | (refine' Pc.mono ?zmtS ?zmtH; (case zmtH => assumption); (case zmtS => walk_at "mine sub")))
  k_with "mine path" => (first | assumption | (refine' PathV.mono ?zmtS ?zmtH; (case zmtH => assumption); (case zmtS => walk_at "mine sub")))
  k_with "mine fn" => ((case zhk => first | exact rfl | assumption))
  k_with "mine mem" => (first | with_reducible exact List.mem_cons_self | with_reducible exact List.Mem.head _ | (with_reducible refine List.mem_cons_of_mem _ ?_; walk_at "mine mem") | (with_reducible refine List.mem_append.mpr (Or.inl ?_); with_reducible assumption) | (with_reducible refine List.mem_append.mpr (Or.inr ?_); walk_at "mine mem") | (with_reducible refine List.mem_append.mpr (Or.inl ?_); walk_at "mine mem") | with_reducible assumption)
  trivial
local macro_rules | `(tactic| k_mem) => `(tactic| walk_at "mine mem")
theorem lay_PRE_2 : True := by
  k_with "mine gfin" => ((refine' gfin ?zgH ?zgF ?zgN ?zgpl ?zgsp ?zghl ?zghb ?zgso ?_; (case zgH => assumption); (case zgF => k_asm); (case zgN => k_asm); (case zgpl => walk_at "mine pull"); (case zghl => assumption); (case zghb => assumption); (case zgsp => walk_at "mine split"); (case zgso => assumption)))
  k_with "mine pfin" => ((refine' pfin ?zgH ?zgF ?zgN ?zgsp ?zghl ?zghb ?_; (case zgH => assumption); (case zgF => k_asm); (case zgN => k_asm); (case zghl => assumption); (case zghb => assumption); (case zgsp => walk_at "mine split")))
  k_with "mine wfin" => ((refine' wfin ?zgH ?zgF ?zgN ?zgsb ?_; (case zgH => assumption); (case zgF => k_asm); (case zgN => k_asm); (case zgsb => walk_at "mine sub")))
  k_with "mine pathv" => ((refine' PathV.mk ?zmpA (PathQ.mk ?zmpB ?zmpC ?zmpD ?zmpE); (case zmpA => walk_at "mine mem"); (case zmpB => walk_at "mine mem"); (case zmpC => walk_at "mine mem"); (case zmpD => walk_at "mine mem"); (case zmpE => walk_at "mine mem")))
  k_with "my newTuple" => ((k_here; k_dflt (refine' tup_new ?zF ?zN ?_ ?zz; (case zF => k_asm); (case zN => k_asm); (case zz => exact Nat.le_of_ble_eq_true rfl); k_whole); intro D' h' F' N' l3; (try k_sweep)))
  k_with "my newList" => ((k_here; k_dflt (refine' lst_new ?zF ?zN ?_ ?zz; (case zF => k_asm); (case zN => k_asm); (case zz => exact Nat.le_of_ble_eq_true rfl); k_whole); intro D' h' F' N' l3; (try k_sweep)))
  k_with "mine enter" => ((refine wpAny_call ?_; first
      | k_dflt (refine' enter_plain ?zk1 ?zk2 ?zk3 ?zk4 ?zk5 ?zkA ?zkF ?zkK ?zk6 ?zk7 ?zk8 ?zk9 ?zkB ?_ ?zc2 ?zc3 ?zc4 ?zc5; (case zkA => exact rfl); (case zkF => exact rfl); (case zkK => assumption); (case zk1 => k_asm); (case zk2 => k_asm); (case zk3 => k_asm); (case zk4 => k_asm); (case zk5 => k_asm); (case zk6 => k_is); (case zk7 => k_is); (case zk8 => ktr_room); (case zk9 => first | exact BindsTo.of_eq rfl | exact binds_K (by k_in) rfl (by k_is) rfl rfl rfl); (case zc5 => decide); (case zkB => exact locs rfl); (case zc2 => exact rfl); (case zc3 => exact rfl); (case zc4 => exact rfl); k_whole; intro g' L' h' FG' F' N' B' X' T' l1 l2; (try dsimp only); (try k_fold))
      | k_dflt (refine' enter_cells ?zk1 ?zk2 ?zk3 ?zk4 ?zk5 ?zkA ?zkF ?zkK ?zk6 ?zk7 ?zk8 ?zk9 ?zkB ?zkD ?_ ?zc2 ?zc3 ?zc4; (case zkA => exact rfl); (case zkF => exact rfl); (case zkK => assumption); (case zk1 => k_asm); (case zk2 => k_asm); (case zk3 => k_asm); (case zk4 => k_asm); (case zk5 => k_asm); (case zk6 => k_is); (case zk7 => k_is); (case zk8 => ktr_room); (case zk9 => exact BindsTo.of_eq rfl); (case zkB => exact rfl); (case zkD => decide +kernel); (case zc2 => exact rfl); (case zc3 => exact rfl); (case zc4 => exact rfl); k_whole; intro g' L' h' tk' cells' FG' F' N' Y' B' X' T' l1 l2; (walk_at "mine cells"); (try simp only [List.cons_append, List.nil_append] at N'); (try dsimp only); (try k_fold))))
  k_with "mine cells" => (((rename CellsAre _ _ _ => hY); first
      | (have hZ := PyProof.Rows.CellsAre.three hY; obtain ⟨o1, o2, o3, hE', d1, d2, d3⟩ := hZ; subst hE'; clear hY)
      | (have hZ := kc_five hY; obtain ⟨o1, o2, o3, o4, o5, hE', d1, d2, d3, d4, d5⟩ := hZ; subst hE'; clear hY)))
  k_with "mine ne" => (first | exact ne_nil | (refine ne_cons (.inl rfl) ?_; walk_at "mine ne") | (refine ne_app (by with_reducible assumption) ?_; walk_at "mine ne") | (refine ne_cons (.inr (PySem.W.neN (by omega))) ?_; walk_at "mine ne") | exact ne_base (by assumption) (by omega))
  k_with "my storeName" => ((k_here; k_dflt (refine' storeX_P ?zF ?zN ?zc ?zpl ?zd ?zne ?_ ?za ?zb; (case za => rfl); (case zb => rfl); (case zF => k_asm); (case zN => k_asm); (case zc => rfl); (case zpl => walk_at "mine pull"); (case zd => assumption); (case zne => walk_at "mine ne"); k_whole); intro h' o' F' N' d'; (try k_sweep)))
  k_with "my LeaveK" => ((k_dflt (refine' leaveK_ ?zk1 ?zk2 ?_; (case zk1 => k_asm); (case zk2 => k_asm); k_whole); intro kF kN; (try dsimp only at kF kN); ground_anew kF; (have kX := kFor kF (by k_asm)); (try dsimp only); (try (refine handed_on rfl ?_; try dsimp only))))
  k_with "mine pcmk" => ((refine' Pc.mk' ?zmkA ?_ ?zmkC ?zmkD ?zmkE; (case zmkA => walk_at "mine mem"); (case zmkC => exact rfl); (case zmkD => exact rfl); (case zmkE => exact rfl)))
  trivial
local macro_rules | `(tactic| walk_at "mine len") => `(tactic| first | with_reducible assumption | with_reducible exact sgn_len _ | with_reducible exact usg_len _ | with_reducible exact usn_len _ | with_reducible exact lbA_len _ | with_reducible exact lbB_len _ | with_reducible exact ang_len _ | with_reducible exact nm_len _ | (with_reducible refine' txt_small ?mlA _; (case mlA => assumption)) | (with_reducible refine' W_small ?mlA _ _; (case mlA => assumption)) | (with_reducible refine' Sd_small ?mlA _ _; (case mlA => assumption)) | (with_reducible refine' sl_par ?mlA; (case mlA => walk_at "mine len")) | (with_reducible refine' sl_app ?mlA ?mlB; (case mlA => walk_at "mine len"); (case mlB => walk_at "mine len")) | exact Nat.le_refl _)
theorem lay_PRE_3 : True := by
  k_with "my binaryOp Add str str" => ((k_here; (refine' PyProof.Rows.add_str ?_ ?zz; (case zz => (refine' Nat.le_trans (Nat.add_le_add ?zmlP ?zmlQ) ?zmlR; (case zmlP => walk_at "mine len"); (case zmlQ => walk_at "mine len"); (case zmlR => exact Nat.le_of_ble_eq_true rfl))); intro t8 tk8)))
  k_with "mine pcmk2" => ((refine' Pc.mk' ?zmkA ?_ ?_ ?_ ?_; (case zmkA => walk_at "mine mem")))
  k_with "my exec Assign cons ListComp" => ((k_here; k_dflt (refine LCg.Assign_ListComp_U (F₀ := by k_asm) (by rfl) (by with_unfolding_all rfl) (by with_unfolding_all rfl) (by decide) (by rfl) (by decide) (by rfl) (by rfl) (by rfl) ?_)))
  k_with "my eval ListComp" => ((k_here; k_dflt (refine LCg.ListComp_U (F₀ := by k_asm) (by with_unfolding_all rfl) (by decide) (by rfl) (by decide) (by rfl) ?_)))
  k_with "my CompSrc" => ((k_here; k_dflt (first
      | (refine LCg.CompSrc.range (by rfl) (by k_asm) (by k_asm) (by assumption) (by first | decide | rfl) (by first | rfl | decide) (by first | size_fits | exact Nat.le_of_ble_eq_true rfl) ?_; intro g'; lcg_lit)
      | (refine' LCg.CompSrc.ledger ?zhh ?zF ?zN ?zhm ?zz ?_; (case zhh => rfl); (case zF => k_asm); (case zN => k_asm); (case zhm => walk_at "mine mem"); (case zz => exact Nat.le_of_ble_eq_true rfl); intro g'; lcg_lit))))
  k_with "my CompRest" => ((with_unfolding_all first
      | (refine LCg.CompRest.succ ?_; intro v' I' oI' C' oC' D' m' h' tk' E' hv' hC' hx' F' N' off' ne'; (first | lcg_open hv' | (obtain ⟨t9', hv9'⟩ := hv'; subst hv9')))
      | refine LCg.CompRest.zero ?_))
  k_with "my CompEnd" => ((refine' ce_same ?zF ?zN ?zoff ?zhS ?_; (case zF => k_asm); (case zN => k_asm); (case zoff => assumption); (case zhS => first | exact trivial | exact Or.inr ⟨_, by walk_at "mine mem", rfl, _, rfl⟩)))
  k_with "my FinE" => (((unfold LCg.FinE); intro D' h' tk' F' N' o1'; (try simp only [List.nil_append, List.cons_append] at N'); (try dsimp only)))
  k_with "my FinA" => (((unfold LCg.FinA); intro D' h' tk' F' N' o1'; (try simp only [List.nil_append, List.cons_append] at N'); (try dsimp only)))
  k_with "mine tup" => ((k_dflt (refine' tup_item ?zN ?zhm ?zhc ?zhd ?zh0 ?zh1 ?zhj ?zhx ?_ ?zhs; (case zN => k_asm); (case zhm => walk_at "mine mem"); (case zhc => exact rfl); (case zhd => exact rfl); (case zh0 => decide); (case zh1 => decide); (case zhj => exact rfl); (case zhx => exact rfl); (case zhs => with_unfolding_all rfl); k_whole)))
  k_with "mine lst" => ((k_dflt (refine' lst_item ?zN ?zhm ?zhc ?zhd ?zh0 ?zh1 ?zhx ?_ ?zhs; (case zN => k_asm); (case zhm => walk_at "mine mem"); (case zhc => exact rfl); (case zhd => exact rfl); (case zh0 => decide); (case zh1 => decide); (case zhx => exact rfl); (case zhs => with_unfolding_all rfl); k_whole)))
  k_with "mine item" => ((k_here; (with_reducible show wpAny _ _ (subscriptTail _ _ (Value.ref _) (Value.int _ _)) _ _ _); first | walk_at "mine tup" | walk_at "mine lst" | walk_at "mine item2"))
  k_with "my subscriptTail" => (walk_at "mine item")
  k_with "my subscriptTail Name" => (walk_at "mine item")
  k_with "my subscriptTail Call" => (walk_at "mine item")
  k_with "my subscriptTail Subscript" => (walk_at "mine item")
  k_with "my subscriptTail Name Constant ref int" => (walk_at "mine item")
  k_with "my subscriptTail Name Name ref int" => (walk_at "mine item")
  k_with "my eval Name" => ((k_here; k_dflt (first
      | (refine' nameX_L ?zF ?zv ?_ ?za ?zb; (case zF => k_asm); (case za => rfl); (case zb => rfl); (case zv => rfl); k_whole)
      | (refine' nameX_K ?zF ?zX ?zT ?ze ?_ ?za ?zb; (case zF => k_asm); (case zX => k_asm); (case zT => k_asm); (case za => rfl); (case zb => rfl); (case ze => k_is); k_whole))))
  trivial
-- GA
section
variable {prog : Program} {w : World} {A : Around} {E : Value → Shared → Prop} {s : Shared} {h₀ : Heap} {L l : Addr} {m : Str → Option Value} {N M : Led} {u : Tok}
theorem len_made {vs : List Value} {Q : Value → Shared → Prop} (NN : News h₀ L s.heap M) (hm : (l, lst vs) ∈ M) (hv : vs.length ≤ 1000)
    (h : Q (.int vs.length (s.toks + 1)) { s with toks := s.toks + 1 + 1 }) : wpAny (model prog w) A (call (.builtin "len") [.ref l]) Q E s :=
  PyProof.Rows.len_list (items := vs.toArray) (PySem.IsL.isList (n := 0) (NN _ hm).1) (by rw [List.size_toArray]; omega) (by rw [List.size_toArray]; exact h)
theorem idx_made {value slice : PySem.Expr} {vs : List Value} {k : Int} {Q : Value → Shared → Prop} (NN : News h₀ L s.heap M) (hm : (l, lst vs) ∈ M) (hv : vs.length ≤ 1000) (h0 : 0 ≤ k) (h1 : k < vs.length)
    (h : ∀ i x, i < vs.length → vs[i]? = some x → k = (i : Int) → Q x s)
    (hs : subscripted slice false (.ref l) (.int k u) = operate [.ref l, .int k u] (getItem (.ref l) (.int k u)) := by with_unfolding_all rfl) :
    wpAny (model prog w) A (subscriptTail value slice (.ref l) (.int k u)) Q E s := by
  have hk : k.toNat < vs.length := by omega
  exact lst_item NN hm rfl rfl h0 (by omega) (List.getElem?_eq_getElem hk) (h _ _ hk (List.getElem?_eq_getElem hk) (by omega)) hs
theorem mul2_made {v : Value} {Q : Value → Shared → Prop} (hL : @LT.lt Nat _ L l) (F : Fr h₀ L s.heap m) (NN : News h₀ L s.heap M) (hm : (l, lst [v]) ∈ M)
    (h : ∀ D h', Fr h₀ L h' m → News h₀ L h' ((D, lst [v, v]) :: M) → @LT.lt Nat _ L D → Q (.ref D) { s with heap := h' }) : wpAny (model prog w) A (binaryOp .Mult (.ref l) (.int 2 u)) Q E s :=
  KMa.mul (vs := [v]) F NN (PySem.IsL.isList (n := 0) (NN _ hm).1) (by decide) (by decide) (by simp) rfl fun D h' F' N' hD => h D h' F' N' (Nat.lt_trans hL (hD _ hm))
end
section
theorem lay_GA_4 : True := by
  k_with "mine item2" => ((fail_if_success (have zoff := off_GA_2)); ((first
      | ((with_reducible show wpAny _ _ (subscriptTail _ _ _ (Value.int 0 _)) _ _ _); k_dflt (refine' src_get0 ?zN ?_; (case zN => k_asm); k_whole))
      | ((with_reducible show wpAny _ _ (subscriptTail _ _ _ (Value.int 1 _)) _ _ _); k_dflt (refine' src_get1 ?zN ?_; (case zN => k_asm); k_whole)))))
  k_with "my setItem ref int int" => ((fail_if_success (have zoff := off_GA_2)); ((k_here; (first
      | ((with_reducible show wpAny _ _ (PySem.setItem _ (Value.int 0 _) _) _ _ _); k_dflt (refine' src_set0 ?zF ?zN ?zH ?_; (case zF => k_asm); (case zN => k_asm); (case zH => assumption); k_whole))
      | ((with_reducible show wpAny _ _ (PySem.setItem _ (Value.int 1 _) _) _ _ _); k_dflt (refine' src_set1 ?zF ?zN ?zH ?_; (case zF => k_asm); (case zN => k_asm); (case zH => assumption); k_whole))); intro h' F' N'; (try k_sweep); (try dsimp only))))
  trivial
theorem take_gen (w : World) (top : Int) (tt : Tok) (N : Led) (ht : 0 < top) (ht2 : top ≤ 100) :
    Gen w 235 [.int top tt] 1 8 N (fun _ r => ∃ k t, r = .int k t ∧ 0 ≤ k ∧ k < top) := by
  intro src g d tg td so ns
  have hg := so.g0
  have hd0 := so.d0
  have hd1 := so.d1
  w_on
  unfold Does
  k_fill
  intro mean mg mb dp un gd cn cs a ccd cl outer A₀ base h₀ L m s Q E B F X NN T hk hdp hun hret
  have hs := sep_of NN ns
  walk_at "mine enter"
  k_steps
  all_goals (refine gfin hret (by k_asm) (by k_asm) .head .nil (by assumption) (by assumption) ⟨?_, ?_, ?_⟩ ⟨_, _, rfl, ?_, ?_⟩)
  all_goals first
    | assumption
    | exact Int.fmod_nonneg_of_pos _ (by omega)
    | exact Int.fmod_lt_of_pos _ (by omega)
    | exact Int.fdiv_nonneg (by omega) (by omega)
end
theorem off_GA_2 : True := trivial
section
theorem lay_GA_5 : True := by
  k_with "my call ref" => ((fail_if_success (have zoff := off_GA_3)); ((k_here; (with_reducible show wpAny _ _ (call (Value.ref 235) _) _ _ _); k_dflt (
      refine' Gen.use (take_gen _ _ _ _ ?zh1 ?zh2) ?zB ?zF ?zX ?zNN ?zpl ?zso ?zns ?zT ?zhk ?zhdp ?zhun ?_; (case zB => k_asm); (case zF => k_asm); (case zX => k_asm); (case zT => k_asm); (case zNN => k_asm); (case zpl => walk_at "mine pull"); (case zso => assumption); (case zns => walk_at "mine ns"); (walk_at "mine fn"); (case zhdp => walk_at "mine room"); (case zhun => walk_at "mine room"); (case zh1 => omega); (case zh2 => omega)); intro r9 g9 d9 tg9 td9 tl9 h9 tk9 F9 N9 so9 ns9 nc9 ab9 fr9 hp9; obtain ⟨k9, t9, e9, l9, u9⟩ := hp9; subst e9; (try dsimp only); (try k_sweep); (try k_fold))))
  k_with "my call builtin:len" => ((fail_if_success (have zoff := off_GA_3)); ((k_here; k_dflt (refine' len_made ?zN ?zhm ?zhv ?_; (case zN => k_asm); (case zhm => k_mem); (case zhv => omega); k_whole))))
  k_with "mine item2" => ((fail_if_success (have zoff := off_GA_3)); ((k_dflt (refine' idx_made ?zN ?zhm ?zhv ?zh0 ?zh1 ?_ ?zhs; (case zN => k_asm); (case zhm => walk_at "mine mem"); (case zhv => omega); (case zh0 => assumption); (case zh1 => assumption); (case zhs => with_unfolding_all rfl); k_whole); intro i8 x8 hi8 hx8 he8)))
  trivial
theorem one_gen (w : World) (th : Addr) (vs : List Value) (N : Led) (hm : (th, lst vs) ∈ N) (h0 : 0 < vs.length) (h1 : vs.length ≤ 20) :
    Gen w 242 [.ref th] 4 16 N (fun _ r => ∃ i, i < vs.length ∧ vs[i]? = some r) := by
  intro src g d tg td so ns
  w_on
  unfold Does
  k_fill
  intro mean mg mb dp un gd cn cs a ccd cl outer A₀ base h₀ L m s Q E B F X NN T hk hdp hun hret
  walk_at "mine enter"
  k_steps
  all_goals ((walk_at "mine gfin"); exact ⟨_, by assumption, by assumption⟩)
end
theorem off_GA_3 : True := trivial
section
theorem lay_GA_6 : True := by
  k_with "my binaryOp Mult ref int" => ((fail_if_success (have zoff := off_GA_4)); ((k_here; k_dflt (refine' mul2_made ?zhL ?zF ?zN ?zhm ?_; (case zhL => assumption); (case zF => k_asm); (case zN => k_asm); (case zhm => k_mem); k_whole); intro D8 h8 F8 N8 l8; (try k_sweep))))
  trivial
theorem both_pure (w : World) (p : Addr) (v : Value) (e : E) (tx ty tk tw : Tok) (n : Int) (N : Led) (hm : (p, tup [v, .str (txt e false) tx, .str (txt e true) ty, .int (lvl e) tk]) ∈ N) (hx : hgt e ≤ 6):
    Does w 271 [.ref p, .int n tw] 4 16 N (POut N (fun N' r => ∃ l t t', r = .ref l ∧ (l, lst [.str (W e n false) t, .str (W e n true) t']) ∈ N')) := by
  have hx1 := txt_small hx false
  w_on
  unfold Does
  k_fill
  intro mean mg mb dp un gd cn cs a ccd cl outer A₀ base h₀ L m s Q E B F X NN T hk hdp hun hret
  walk_at "mine enter"
  k_steps
  all_goals (walk_at "mine pfin")
  · have e1 : W e n false = par (txt e false) := if_pos (by assumption)
    have e2 : W e n true = par (txt e false) := if_pos (by assumption)
    rw [e1, e2]
    exact ⟨_, _, _, rfl, .head _⟩
  · have e1 : W e n false = txt e false := if_neg (by assumption)
    have e2 : W e n true = txt e true := if_neg (by assumption)
    rw [e1, e2]
    exact ⟨_, _, _, rfl, .head _⟩
end
theorem off_GA_4 : True := trivial
-- GB
theorem kind_cast (e : E) : (kind e == Str.ofString "cast") = isCast e := by cases e <;> exact rfl
theorem kind_strct (e : E) : (kind e == Str.ofString "struct") = isStr e := by cases e <;> exact rfl
theorem tupAt {h₀ h : Heap} {L a : Addr} {vs : List Value} {N : Led} (NN : News h₀ L h N) (hm : (a, tup vs) ∈ N) : IsTup h a vs.toArray := ⟨_, (NN _ hm).1, rfl, 0, rfl⟩
theorem tr_head {w : World} {h₀ h : Heap} {L : Addr} {e : E} {v : Value} {N : Led} (NN : News h₀ L h N) (X : (pre.heap_1_39 w.params).In h) (T : Tr N e v) : ∃ a t r, v = .ref a ∧ IsTup h a (Value.str (kind e) t :: r).toArray := by
  cases T with
  | name p => cases p with | mk p q => exact ⟨_, _, _, rfl, tupAt NN p⟩
  | strct => exact ⟨_, _, _, rfl, tupK (l := [_, _, _, _]) X (by with_unfolding_all rfl)⟩
  | block => exact ⟨_, _, _, rfl, tupK (l := [_, _, _, _]) X (by with_unfolding_all rfl)⟩
  | _ => exact ⟨_, _, _, rfl, tupAt NN (by assumption)⟩
section
variable {prog : Program} {w : World} {A : Around} {E' : Value → Shared → Prop} {s : Shared} {h₀ : Heap} {L a : Addr} {m : Str → Option Value} {M : Led} {u : Tok}
theorem head_get {e : E} {value slice : PySem.Expr} {Q : Value → Shared → Prop} (NN : News h₀ L s.heap M) (F : Fr h₀ L s.heap m) (X : (pre.heap_1_39 w.params).In h₀) (T : Tr M e (.ref a)) (h : ∀ t, Q (.str (kind e) t) s)
    (hs : subscripted slice false (.ref a) (.int 0 u) = operate [.ref a, .int 0 u] (getItem (.ref a) (.int 0 u)) := by with_unfolding_all rfl) :
    wpAny (model prog w) A (subscriptTail value slice (.ref a) (.int 0 u)) Q E' s := by
  obtain ⟨a', t, r, e', ht⟩ := tr_head NN (X.keeps F.keep) T
  cases e'
  exact item_tupleT (j := 0) ht (by decide) (by decide) (by simp [seqIndex?]) rfl (h t) hs
end
theorem Sd_cast {e : E} {n : Int} {b : Bool} (h : isCast e = true) : Sd e n b = par (txt e false) := by
  unfold Sd W wst
  rw [if_pos h, if_pos]
  cases e <;> first | (simp only [isCast, Bool.false_eq_true] at h; done) | (simp only [lvl]; omega)
theorem Sd_not {e : E} {n : Int} {b : Bool} (h : isCast e = false) : Sd e n b = W e n b := by
  unfold Sd
  rw [h]
  rfl
section
theorem lay_GB_7 : True := by
  k_with "my binaryOp Mult ref int" => ((fail_if_success (have zoff := off_GB_6)); ((k_here; k_dflt (refine' mul2_made ?zhL ?zF ?zN ?zhm ?_; (case zhL => assumption); (case zF => k_asm); (case zN => k_asm); (case zhm => k_mem); k_whole); intro D8 h8 F8 N8 l8; (try k_sweep))))
  k_with "mine item2" => ((fail_if_success (have zoff := off_GB_6)); (((with_reducible show wpAny _ _ (subscriptTail _ _ (Value.ref _) (Value.int 0 _)) _ _ _); k_dflt (refine' head_get ?zN ?zF ?zX ?zT ?_ ?zhs; (case zN => k_asm); (case zF => k_asm); (case zX => k_asm); (case zT => walk_at "mine tr"); (case zhs => with_unfolding_all rfl); k_whole); intro t8)))
  k_with "my call ref" => ((fail_if_success (have zoff := off_GB_6)); ((k_here; (with_reducible show wpAny _ _ (call (Value.ref 271) _) _ _ _); k_dflt (refine' Does.useP (both_pure _ _ _ _ _ _ _ _ _ _ ?zh1 ?zh2) ?zB ?zF ?zX ?zNN ?zT ?zhk ?zhdp ?zhun ?_; (case zB => k_asm); (case zF => k_asm); (case zX => k_asm); (case zT => k_asm); (case zNN => k_asm); (walk_at "mine fn"); (case zhdp => walk_at "mine room"); (case zhun => walk_at "mine room"); (case zh1 => k_mem); (case zh2 => assumption)); intro r9 tl9 h9 tk9 F9 N9 ns9 nc9 ab9 fr9 hp9; obtain ⟨l9, t9, t9', e9, m9⟩ := hp9; subst e9; (try dsimp only); (try k_sweep); (try k_fold))))
  trivial
theorem beside_pure (w : World) (p v : Addr) (e : E) (tx ty tk tw : Tok) (n : Int) (N : Led) (hm : (p, tup [.ref v, .str (txt e false) tx, .str (txt e true) ty, .int (lvl e) tk]) ∈ N) (hT : Tr N e (.ref v)) (hx : hgt e ≤ 6):
    Does w 278 [.ref p, .int n tw] 8 32 N (POut N (fun N' r => ∃ l t t', r = .ref l ∧ (l, lst [.str (Sd e n false) t, .str (Sd e n true) t']) ∈ N')) := by
  have hx1 := txt_small hx false
  w_on
  unfold Does
  k_fill
  intro mean mg mb dp un gd cn cs a ccd cl outer A₀ base h₀ L m s Q E B F X NN T hk hdp hun hret
  walk_at "mine enter"
  k_steps
  all_goals walk_at "mine pfin"
  · (rename (kind _ == _) = _ => hc)
    rw [kind_cast] at hc
    rw [Sd_cast hc, Sd_cast hc]
    exact ⟨_, _, _, rfl, .head _⟩
  · (rename (kind _ == _) = _ => hc)
    rw [kind_cast] at hc
    rw [Sd_not hc, Sd_not hc]
    exact ⟨_, _, _, rfl, by walk_at "mine mem"⟩
end
theorem off_GB_6 : True := trivial
-- GC
theorem eight {r : Value} {a b c d e f g h : Value} {i : Nat} (hi : i < 8) (hx : [a, b, c, d, e, f, g, h][i]? = some r) : r = a ∨ r = b ∨ r = c ∨ r = d ∨ r = e ∨ r = f ∨ r = g ∨ r = h := by
  have : i = 0 ∨ i = 1 ∨ i = 2 ∨ i = 3 ∨ i = 4 ∨ i = 5 ∨ i = 6 ∨ i = 7 := by omega
  rcases this with rfl | rfl | rfl | rfl | rfl | rfl | rfl | rfl <;> (simp at hx; subst hx; simp)
theorem path_pure (w : World) (x : Str) (tx : Tok) (N : Led) : Does w 249 [.str x tx] 2 8 N (POut N (fun N' r => ∃ a, r = .ref a ∧ PathV N' x r)) := by
  w_on
  unfold Does
  k_fill
  intro mean mg mb dp un gd cn cs a ccd cl outer A₀ base h₀ L m s Q E B F X NN T hk hdp hun hret
  walk_at "mine enter"
  k_steps
  all_goals walk_at "mine pfin"
  exact ⟨_, rfl, by walk_at "mine pathv"⟩
theorem closed_pure (w : World) (v : Addr) (x : Str) (tx : Tok) (N : Led) : Does w 264 [.ref v, .str x tx] 2 8 N (POut N (fun N' r => ∃ p t1 t2 t3, r = .ref p ∧ (p, tup [.ref v, .str x t1, .str x t2, .int 12 t3]) ∈ N')) := by
  w_on
  unfold Does
  k_fill
  intro mean mg mb dp un gd cn cs a ccd cl outer A₀ base h₀ L m s Q E B F X NN T hk hdp hun hret
  walk_at "mine enter"
  k_steps
  all_goals walk_at "mine pfin"
  exact ⟨_, _, _, _, rfl, .head _⟩
theorem open3_pure (w : World) (v : Addr) (x : Str) (tx tk : Tok) (k : Int) (N : Led) (hx : x.length ≤ 2000000) : Does w 257 [.ref v, .str x tx, .int k tk] 2 8 N (POut N (fun N' r => ∃ p t1 t2 t3, r = .ref p ∧ (p, tup [.ref v, .str x t1, .str (par x) t2, .int k t3]) ∈ N')) := by
  w_on
  unfold Does
  k_fill
  intro mean mg mb dp un gd cn cs a ccd cl outer A₀ base h₀ L m s Q E B F X NN T hk hdp hun hret
  walk_at "mine enter"
  k_steps
  all_goals walk_at "mine pfin"
  exact ⟨_, _, _, _, rfl, .head _⟩
theorem open2_pure (w : World) (v : Addr) (x : Str) (tx : Tok) (N : Led) (hx : x.length ≤ 2000000) : Does w 257 [.ref v, .str x tx] 2 8 N (POut N (fun N' r => ∃ p t1 t2 t3, r = .ref p ∧ (p, tup [.ref v, .str x t1, .str (par x) t2, .int 0 t3]) ∈ N')) := by
  w_on
  unfold Does
  k_fill
  intro mean mg mb dp un gd cn cs a ccd cl outer A₀ base h₀ L m s Q E B F X NN T hk hdp hun hret
  walk_at "mine enter"
  k_steps
  all_goals walk_at "mine pfin"
  exact ⟨_, _, _, _, rfl, .head _⟩
-- GD
/-- what _law_expr draws at depth n -/
def XG (w : World) (n : Nat) : Prop := ∀ (N : Led) (k : Int) (tk : Tok), k = (n : Int) → Gen w 328 [.int k tk] (20 * n + 20) (200 * n + 200) N (fun N' r => ∃ e, hgt e ≤ n + 1 ∧ hgt e ≤ 6 ∧ Pc N' e r)
theorem XG.at {w : World} {n : Nat} (h : XG w n) {k : Int} (N : Led) (tk : Tok) (hk : k = (n : Int)) : Gen w 328 [.int k tk] (20 * n + 20) (200 * n + 200) N (fun N' r => ∃ e, hgt e ≤ n + 1 ∧ hgt e ≤ 6 ∧ Pc N' e r) := h N k tk hk
/-- signs of one strength -/
def SgnOf (k : Int) (vs : List Value) : Prop := ∀ (i : Nat) (y : Value), vs[i]? = some y → ∃ (j : Fin 18) (t : Tok), y = Value.str (sgn j) t ∧ blv j = k + 1
def StrOf (tl : Led) (l : Addr) : Prop := ∃ ls : List Value, (l, lst ls) ∈ tl ∧ ls.length = 9 ∧ ∀ (i : Nat) y, ls[i]? = some y → ∃ a vs, y = .ref a ∧ (a, lst vs) ∈ tl ∧ 0 < vs.length ∧ vs.length ≤ 20 ∧ SgnOf i vs
theorem SgnOf.at {k : Int} {vs : List Value} {i : Nat} {y : Value} (h : SgnOf k vs) (hy : vs[i]? = some y) : ∃ (j : Fin 18) (t : Tok), y = Value.str (sgn j) t ∧ blv j = k + 1 := h i y hy
theorem SgnOf.cons {k : Int} {t : Tok} {vs : List Value} (j : Fin 18) {x : Str} (hx : x = sgn j) (e : blv j = k + 1) (h : SgnOf k vs) : SgnOf k (Value.str x t :: vs) := fun i y hy => by
  match i, hy with
  | 0, hy => exact ⟨j, t, by rw [← hx]; exact (Option.some.inj hy).symm, e⟩
  | i + 1, hy => exact h i y hy
theorem SgnOf.nil {k : Int} : SgnOf k [] := fun i y hy => by simp at hy
theorem strengths_pure (w : World) (N : Led) : Does w 213 [] 2 8 N (POut N (fun tl r => ∃ l, r = .ref l ∧ StrOf tl l)) := by
  w_on
  unfold Does
  k_fill
  intro mean mg mb dp un gd cn cs a ccd cl outer A₀ base h₀ L m s Q E B F X NN T hk hdp hun hret
  walk_at "mine enter"
  k_steps
  all_goals walk_at "mine pfin"
  refine ⟨_, rfl, _, .head _, rfl, fun i y hy => ?_⟩
  have hi : i < 9 := (List.getElem?_eq_some_iff.mp hy).1
  have : i = 0 ∨ i = 1 ∨ i = 2 ∨ i = 3 ∨ i = 4 ∨ i = 5 ∨ i = 6 ∨ i = 7 ∨ i = 8 := by omega
  rcases this with rfl | rfl | rfl | rfl | rfl | rfl | rfl | rfl | rfl <;> cases Option.some.inj hy
  · exact ⟨_, _, rfl, .tail _ (.tail _ (.tail _ (.tail _ (.tail _ (.tail _ (.tail _ (.tail _ (.tail _ (.head _))))))))), Nat.le_of_ble_eq_true rfl, Nat.le_of_ble_eq_true rfl, (.cons 0 rfl rfl .nil)⟩
  · exact ⟨_, _, rfl, .tail _ (.tail _ (.tail _ (.tail _ (.tail _ (.tail _ (.tail _ (.tail _ (.head _)))))))), Nat.le_of_ble_eq_true rfl, Nat.le_of_ble_eq_true rfl, (.cons 1 rfl rfl .nil)⟩
  · exact ⟨_, _, rfl, .tail _ (.tail _ (.tail _ (.tail _ (.tail _ (.tail _ (.tail _ (.head _))))))), Nat.le_of_ble_eq_true rfl, Nat.le_of_ble_eq_true rfl, (.cons 2 rfl rfl (.cons 3 rfl rfl (.cons 4 rfl rfl (.cons 5 rfl rfl (.cons 6 rfl rfl (.cons 7 rfl rfl .nil))))))⟩
  · exact ⟨_, _, rfl, .tail _ (.tail _ (.tail _ (.tail _ (.tail _ (.tail _ (.head _)))))), Nat.le_of_ble_eq_true rfl, Nat.le_of_ble_eq_true rfl, (.cons 8 rfl rfl .nil)⟩
  · exact ⟨_, _, rfl, .tail _ (.tail _ (.tail _ (.tail _ (.tail _ (.head _))))), Nat.le_of_ble_eq_true rfl, Nat.le_of_ble_eq_true rfl, (.cons 9 rfl rfl .nil)⟩
  · exact ⟨_, _, rfl, .tail _ (.tail _ (.tail _ (.tail _ (.head _)))), Nat.le_of_ble_eq_true rfl, Nat.le_of_ble_eq_true rfl, (.cons 10 rfl rfl .nil)⟩
  · exact ⟨_, _, rfl, .tail _ (.tail _ (.tail _ (.head _))), Nat.le_of_ble_eq_true rfl, Nat.le_of_ble_eq_true rfl, (.cons 11 rfl rfl (.cons 12 rfl rfl .nil))⟩
  · exact ⟨_, _, rfl, .tail _ (.tail _ (.head _)), Nat.le_of_ble_eq_true rfl, Nat.le_of_ble_eq_true rfl, (.cons 13 rfl rfl (.cons 14 rfl rfl .nil))⟩
  · exact ⟨_, _, rfl, .tail _ (.head _), Nat.le_of_ble_eq_true rfl, Nat.le_of_ble_eq_true rfl, (.cons 15 rfl rfl (.cons 16 rfl rfl (.cons 17 rfl rfl .nil)))⟩
-- EQ
abbrev lstn (n : Nat) (vs : List Value) : Obj := { cls := .type "list", data := .seq vs.toArray n }
section
theorem strs_lay : ∀ xs : List Str, xs.all PyData.strOk = true → PyData.canLayAll0 (xs.map PyData.str) = true
  | [], _ => rfl
  | x :: r, h => by
    rw [List.all_cons, Bool.and_eq_true] at h
    simp [PyData.canLayAll0, PyData.canLay0, h.1, strs_lay r h.2]
theorem strs_depth : ∀ xs : List Str, PyData.depthAll (xs.map PyData.str) = 0
  | [] => rfl
  | _ :: r => by simp [PyData.depthAll, PyData.depth, strs_depth r]
theorem strs_shaped (xs : List Str) (h : xs.all PyData.strOk = true) : SeqAt.shaped (.list (xs.map PyData.str)) = true := by
  simp [SeqAt.shaped, PyData.canLay0, PyData.depth, strs_lay xs h, strs_depth]
theorem strs_same : ∀ xs ys : List Str, PySem.Spec.sameAll (xs.map PyData.str) (ys.map PyData.str) = decide (xs = ys)
  | [], [] => by simp [PySem.Spec.sameAll]
  | [], _ :: _ => by simp [PySem.Spec.sameAll]
  | _ :: _, [] => by simp [PySem.Spec.sameAll]
  | a :: r, b :: t => by
    simp only [List.map_cons, PySem.Spec.sameAll, PySem.Spec.same, strs_same r t]
    by_cases h : a = b <;> by_cases h' : r = t <;> simp [h, h']
theorem strs_carried : ∀ {vs : List Value} {xs : List Str}, StrsAre vs xs → CarriedAll vs (xs.map PyData.str)
  | _, _, .nil => .nil
  | _, _, .cons _ t r => .cons (.str _ t) (strs_carried r)
variable {prog : Program} {w : World} {A : Around} {E' : Value → Shared → Prop} {s : Shared} {h₀ : Heap} {L a b : Addr} {m : Str → Option Value} {M : Led}
theorem eq_strs {vs ws : List Value} {xs ys : List Str} {n n' : Nat} {Q : Value → Shared → Prop} (NN : News h₀ L s.heap M) (ha : (a, lstn n vs) ∈ M) (hb : (b, lstn n' ws) ∈ M) (hv : StrsAre vs xs) (hw : StrsAre ws ys) (ok : xs.all PyData.strOk = true) (ok' : ys.all PyData.strOk = true) (hu : A.units + 64 < cLine)
    (h : Q (.bool (decide (xs = ys))) s) : wpAny (model prog w) A (compareOp .Eq (.ref a) (.ref b)) Q E' s :=
  eq_dataH_same (reads_newData (PySem.IsL.isList (n := n) (NN _ ha).1) (strs_carried hv)) (reads_newData (PySem.IsL.isList (n := n') (NN _ hb).1) (strs_carried hw)) (strs_shaped _ ok) (strs_shaped _ ok') hu
    (SeqAt.noMix_of_shape (.list .str) rfl _ _ (list_map_has fun _ => rfl) (list_map_has fun _ => rfl)) (by simp only [PySem.Spec.same]; rw [strs_same]; exact h)
theorem eq_strs_t {vs ws : List Value} {xs ys : List Str} {n n' : Nat} {Q : Value → Shared → Prop} (NN : News h₀ L s.heap M) (ha : (a, lstn n vs) ∈ M) (hb : (b, lstn n' ws) ∈ M) (hv : StrsAre vs xs) (hw : StrsAre ws ys) (ok : xs.all PyData.strOk = true) (ok' : ys.all PyData.strOk = true) (hu : A.units + 64 < cLine) (e : xs = ys)
    (h : Q (.bool true) s) : wpAny (model prog w) A (compareOp .Eq (.ref a) (.ref b)) Q E' s := eq_strs NN ha hb hv hw ok ok' hu (by rw [decide_eq_true e]; exact h)
theorem join0 {n : Nat} {sep : Str} {t : Tok} {Q : Value → Shared → Prop} (NN : News h₀ L s.heap M) (ha : (a, lstn n []) ∈ M) (hs : sep.length ≤ 16) (h : ∀ t' k, Q (.str (Str.ofString "") t') { s with toks := k }) : wpAny (model prog w) A (call (.builtin "str.join") [.str sep t, .ref a]) Q E' s :=
  join_listC (ys := []) (PySem.IsL.isList (n := n) (NN _ ha).1) .nil (by omega) (by decide) h
theorem join1 {n : Nat} {sep x : Str} {t u : Tok} {Q : Value → Shared → Prop} (NN : News h₀ L s.heap M) (ha : (a, lstn n [.str x u]) ∈ M) (hs : sep.length ≤ 16) (hx : x.length ≤ 8000000) (h : ∀ t' k, Q (.str x t') { s with toks := k }) : wpAny (model prog w) A (call (.builtin "str.join") [.str sep t, .ref a]) Q E' s :=
  join_listC (ys := [x]) (PySem.IsL.isList (n := n) (NN _ ha).1) (.cons _ _ .nil) (by omega) (by simp only [List.map_cons, List.map_nil, List.sum_cons, List.sum_nil, List.length_cons, List.length_nil]; omega) h
theorem join2 {n : Nat} {sep x y : Str} {t u u' : Tok} {Q : Value → Shared → Prop} (NN : News h₀ L s.heap M) (ha : (a, lstn n [.str x u, .str y u']) ∈ M) (hs : sep.length ≤ 16) (hx : x.length ≤ 8000000) (hy : y.length ≤ 8000000) (h : ∀ t' k, Q (.str (x ++ sep ++ y) t') { s with toks := k }) : wpAny (model prog w) A (call (.builtin "str.join") [.str sep t, .ref a]) Q E' s :=
  join_listC (ys := [x, y]) (PySem.IsL.isList (n := n) (NN _ ha).1) (.cons _ _ (.cons _ _ .nil)) (by omega) (by simp only [List.map_cons, List.map_nil, List.sum_cons, List.sum_nil, List.length_cons, List.length_nil]; omega) h
theorem tuple_eq_first {x y : Str} {u u' : Tok} {r r' : List Value} {P : Fin → Shared → Prop} {E : Value → Shared → Prop} (ha : IsTup s.heap a (Value.str x u :: r).toArray) (hb : IsTup s.heap b (Value.str y u' :: r').toArray) (hxy : x ≠ y) (h : P (.done (.ret (.bool false))) s) :
    wpAny (model prog w) A (Builtin.«tuple.__eq__» ⟨[.ref a, .ref b], []⟩) P E s := by
  have hTb := hb.typeIs
  obtain ⟨oa, hoa, _, na, hda⟩ := ha
  obtain ⟨ob, hob, _, nb, hdb⟩ := hb
  show wpAny _ _ (isInstance (.ref b) (.type "tuple") >>= _) _ _ s
  refine wpAny_bind (wpAny_isInstance hTb isSubtype_tuple_tuple ?_)
  simp only [Bool.not_true, Bool.false_eq_true, if_false]
  refine wpAny_bind (wpAny_tupleItemsOf hoa hda ?_)
  refine wpAny_bind (wpAny_tupleItemsOf hob hdb ?_)
  refine wpAny_bind ?_
  refine wpAny_forIn_list _ (fun rest r s' => r.1 = none ∧ s' = s ∧ ∃ l, rest = (Value.str x u, Value.str y u') :: l) _ ?_ ?_ _ _ ⟨rfl, rfl, _, rfl⟩
  · rintro p rest q s' ⟨hr, rfl, l, hz⟩
    cases hz
    refine wpAny_bind ((strKind prog w).eqBool (a := x) (b := y) (strKind_is _ _ _ _) (strKind_is _ _ _ _) ?_)
    rw [decide_eq_false hxy]
    simp only [Bool.not_false, if_true]
    exact wpAny_bind (wpAny_pure (wpAny_pure (wpAny_pure h)))
  · rintro q s' ⟨_, _, l, hz⟩
    cases hz
theorem tup_eq_first {x y : Str} {u u' : Tok} {r r' : List Value} {Q : Value → Shared → Prop} (ha : IsTup s.heap a (Value.str x u :: r).toArray) (hb : IsTup s.heap b (Value.str y u' :: r').toArray) (hxy : x ≠ y) (hu : A.units + 64 < cLine) (h : Q (.bool false) s) :
    wpAny (model prog w) A (compareOp .Eq (.ref a) (.ref b)) Q E' s :=
  wpAny_richCompare_same_room (op := .Eq) ha.typeIs hb.typeIs F.slot_tuple_eq (wpAny_call_entry F.slot_tuple_eq ha.typeIs F.entry_tuple_eq (tuple_eq_first ha hb hxy ⟨_, rfl, (fun e => nomatch e), h⟩) (F.args_tuple_eq_2 _ _)) (by omega)
theorem reads_tup {h : Heap} {vs : Array Value} {xs : List PyData} {as : List Addr} (ht : IsTup h a vs) (hi : ReadsAll h vs.toList xs as) : Reads h (.ref a) (.tuple xs) as := by
  obtain ⟨o, ho, hc, n, hd⟩ := ht
  exact .tuple ho hc hd hi
theorem kind_ne {e : E} (h : isStr e = false) : kind e ≠ Str.ofString "struct" := fun q => by
  have := kind_strct e
  rw [q, h] at this
  exact absurd this (by decide)
theorem struct_eq {e : E} {v : Addr} {Q : Value → Shared → Prop} (NN : News h₀ L s.heap M) (F' : Fr h₀ L s.heap m) (X : (pre.heap_1_39 w.params).In h₀) (T : Tr M e (.ref v)) (hu : A.units + 64 < cLine) (h : Q (.bool (isStr e)) s) :
    wpAny (model prog w) A (compareOp .Eq (.ref v) (.ref 221)) Q E' s := by
  have X' := X.keeps F'.keep
  cases he : isStr e with
  | false =>
    rw [he] at h
    obtain ⟨a', t, r, e', ht⟩ := tr_head NN X' T
    cases e'
    exact tup_eq_first ht (tupK (l := [_, _, _, _]) X' (by with_unfolding_all rfl)) (kind_ne he) hu h
  | true =>
    rw [he] at h
    cases isStr_eq he
    cases T
    have e0 : IsTup s.heap 221 #[_, _, _, _] := tupK (l := [_, _, _, _]) X' (by with_unfolding_all rfl)
    have e1 : IsTup s.heap 219 #[_] := tupK (l := [_]) X' (by with_unfolding_all rfl)
    have e2 : IsTup s.heap 220 #[] := tupK (l := []) X' (by with_unfolding_all rfl)
    have e3 : IsTup s.heap 218 #[_, _, _] := tupK (l := [_, _, _]) X' (by with_unfolding_all rfl)
    have e4 : IsTup s.heap 216 #[] := tupK (l := []) X' (by with_unfolding_all rfl)
    have e5 : IsTup s.heap 217 #[] := tupK (l := []) X' (by with_unfolding_all rfl)
    have rd : Reads s.heap (.ref 221) (.tuple [.str (Str.ofString "struct"), .int 0, .tuple [.tuple [.str (Str.ofString "P"), .tuple [], .tuple []]], .tuple []]) _ :=
      reads_tup e0 (.cons (.str _ _) (.cons (.int _ _) (.cons (reads_tup e1 (.cons (reads_tup e3 (.cons (.str _ _) (.cons (reads_tup e4 .nil) (.cons (reads_tup e5 .nil) .nil)))) .nil)) (.cons (reads_tup e2 .nil) .nil))))
    refine eq_dataH rd rd (by decide +kernel) (by decide +kernel) hu ?_
    have ev : PyData.eqv (.tuple [.str (Str.ofString "struct"), .int 0, .tuple [.tuple [.str (Str.ofString "P"), .tuple [], .tuple []]], .tuple []]) (.tuple [.str (Str.ofString "struct"), .int 0, .tuple [.tuple [.str (Str.ofString "P"), .tuple [], .tuple []]], .tuple []]) = true := by decide +kernel
    rw [ev]
    exact h
end
-- Ev
abbrev Mp := List (Str × Value)
abbrev PG : Program := PySem.Challenge.rw_sy0034_01.row.prog
/-- the place of a running def: its caller's, its frame, the source that it draws from, the ledger as it stood -/
structure Cx (w : World) (cs : Scope) where
  mean : ExcName → Option Value
  mg : Str → Option Value
  mb : Str → Option Value
  dp : Nat
  un : Nat
  gd : Option (List Code)
  cn : Str
  a : Addr
  ccd : Value
  cl : List (Str × Addr)
  outer : List Env
  A₀ : Around
  base : Heap
  h₀ : Heap
  L : Addr
  src : Option Addr
  N : Led
  ex : Led
  below : Below A₀ base outer h₀
  inn : (pre.heap_1_39 w.params).In h₀
  top : Top pre.view_1_40 LL mean mg mb h₀
  fn : cs.kind = .function
  lo : ∀ p ∈ N, @LT.lt Nat _ p.1 L
  sLo : ∀ x, src = some x → @LT.lt Nat _ x L
  sNot : ∀ x, src = some x → ANot x N
  cLo : ∀ p ∈ cl, @LT.lt Nat _ L p.2
  cNd : (cl.map (·.2)).Nodup
  cOk : ∀ x, cs.names.lookup x = some .cell → ∃ a, cl.lookup x = some a ∧ a ∈ cl.map (·.2)
section
variable {w : World} {cs : Scope}
abbrev Cx.A (c : Cx w cs) : Around := ktrTop c.dp c.un c.gd c.cn cs c.L c.a c.ccd c.cl c.outer
abbrev Cx.env (c : Cx w cs) : Env := envX c.cn cs c.L c.a c.ccd c.cl
def SrcPart : Option Addr → Led → Prop
  | none, S => S = []
  | some a, S => ∃ g d tg td, SrcOk g d ∧ S = [(a, srcO g d tg td)]
structure CellPart (cs : Scope) (cl : List (Str × Addr)) (ml : Mp) (CL : Led) : Prop where
  adr : CL.map (·.1) = cl.map (·.2)
  dat : ∀ p ∈ CL, ∃ v, p.2.data = .cell v
  val : ∀ x v, ml.lookup x = some v → cs.names.lookup x = some .cell → ∃ a o, cl.lookup x = some a ∧ (a, o) ∈ CL ∧ o.data = .cell (some v)
abbrev Lk (cs : Scope) (ml : Mp) (mm : Str → Option Value) : Prop := ∀ x v, ml.lookup x = some v → cs.names.lookup x = some .local → mm x = some v
/-- the state: the names' values ml, the new unchanging part T of the ledger; ex: what a comprehension keeps of its own -/
structure Sta (c : Cx w cs) (h : Heap) (mm : Str → Option Value) (ml : Mp) (T : Led) : Prop where
  ex : ∃ S CL, Fr c.h₀ c.L h mm ∧ News c.h₀ c.L h (c.ex ++ (S ++ (CL ++ (T ++ c.N)))) ∧ SrcPart c.src S ∧ CellPart cs c.cl ml CL ∧ Lk cs ml mm ∧ ∀ q ∈ c.ex, ∀ p ∈ S ++ (CL ++ (T ++ c.N)), @Ne Nat p.1 q.1
  ns : AllNot T
  nc : NoCell T
  ab : ∀ p ∈ T, p.2.cls = .type "list" ∨ @LT.lt Nat _ c.L p.1
abbrev Ext (T T' : Led) : Prop := ∀ p ∈ T, p ∈ T'
structure Ends (c : Cx w cs) {α : Type} (t : Sem α) (ml : Mp) (T : Led) (K : α → Led → Prop) : Prop where
  run : ∀ (s : Shared) (mm : Str → Option Value) (Q : α → Shared → Prop) (E : Value → Shared → Prop), Sta c s.heap mm ml T →
    (∀ v T' h' tk', Sta c h' mm ml T' → K v T' → Q v { s with heap := h', toks := tk' }) → wpAny (model PG w) c.A t Q E s
structure EndsS (c : Cx w cs) (t : Sem Flow) (ml : Mp) (T : Led) (Kn : Mp → Led → Prop) (Kr : Value → Led → Prop) : Prop where
  run : ∀ (s : Shared) (mm : Str → Option Value) (Q : Flow → Shared → Prop) (E : Value → Shared → Prop), Sta c s.heap mm ml T →
    (∀ mm' ml' T' h' tk', Sta c h' mm' ml' T' → Kn ml' T' → Q .next { s with heap := h', toks := tk' }) →
    (∀ v mm' ml' T' h' tk', Sta c h' mm' ml' T' → Kr v T' → Q (.ret v) { s with heap := h', toks := tk' }) → wpAny (model PG w) c.A t Q E s
structure EndsU (c : Cx w cs) (t : Sem Unit) (ml : Mp) (T : Led) (K : Mp → Led → Prop) : Prop where
  run : ∀ (s : Shared) (mm : Str → Option Value) (Q : Unit → Shared → Prop) (E : Value → Shared → Prop), Sta c s.heap mm ml T →
    (∀ mm' ml' T' h' tk', Sta c h' mm' ml' T' → K ml' T' → Q () { s with heap := h', toks := tk' }) → wpAny (model PG w) c.A t Q E s
def bcase (b : Bool) (P Q : Prop) : Prop := (b = true → P) ∧ (b = false → Q)
theorem bcase_t {b : Bool} {P Q : Prop} (h : b = true) (p : P) : bcase b P Q := ⟨fun _ => p, fun e => absurd (h.symm.trans e) (by decide)⟩
theorem bcase_f {b : Bool} {P Q : Prop} (h : b = false) (q : Q) : bcase b P Q := ⟨fun e => absurd (h.symm.trans e) (by decide), fun _ => q⟩
theorem bcase_b {b : Bool} {P Q : Prop} (p : b = true → P) (q : b = false → Q) : bcase b P Q := ⟨p, q⟩
variable {c : Cx w cs} {ml : Mp} {T : Led}
theorem sub4 {S CL T T' N : Led} (e : Ext T' T) : Ext (S ++ (CL ++ (T' ++ N))) (S ++ (CL ++ (T ++ N))) := fun p hp => by
  simp only [List.mem_append] at hp ⊢
  rcases hp with h | h | h | h
  · exact .inl h
  · exact .inr (.inl h)
  · exact .inr (.inr (.inl (e p h)))
  · exact .inr (.inr (.inr h))
theorem sub_l {A B B' : Led} (e : Ext B' B) : Ext (A ++ B') (A ++ B) := fun p hp => List.mem_append.mpr ((List.mem_append.mp hp).imp id (e p))
theorem Sta.sub {h : Heap} {mm : Str → Option Value} {T' : Led} (S : Sta c h mm ml T) (e : Ext T' T) : Sta c h mm ml T' := by
  obtain ⟨⟨S', CL, F, N, sp, cp, lk, of⟩, a, b, d⟩ := S
  exact ⟨⟨S', CL, F, news_sub (sub_l (sub4 e)) N, sp, cp, lk, fun q hq p hp => of q hq p (sub4 e p hp)⟩, fun p hp => a p (e p hp), fun p hp => b p (e p hp), fun p hp => d p (e p hp)⟩
theorem Ends.mono {α : Type} {t : Sem α} {K K' : α → Led → Prop} (h : Ends c t ml T K) (k : ∀ v T', K v T' → K' v T') : Ends c t ml T K' :=
  ⟨fun s mm Q E S q => h.run s mm Q E S fun v T' h' tk' S' p => q v T' h' tk' S' (k v T' p)⟩

-- expressions
variable {K : Value → Led → Prop} {V : Env}
theorem Ends.str {x : Str} {k : Nat} {pos : Pos} (h : ∀ t, K (.str x t) T) : Ends c (eval (.Constant (.str x) k pos) V) ml T K :=
  ⟨fun s mm _ _ S q => Calls.Constant_str (q _ T s.heap _ S (h _))⟩
theorem Ends.int {x : Int} {k : Nat} {pos : Pos} (h : ∀ t, K (.int x t) T) : Ends c (eval (.Constant (.int x) k pos) V) ml T K :=
  ⟨fun s mm _ _ S q => wpAny_Constant_int (q _ T s.heap _ S (h _))⟩
theorem Ends.bool {x : Bool} {k : Nat} {pos : Pos} (h : K (.bool x) T) : Ends c (eval (.Constant (.bool x) k pos) V) ml T K :=
  ⟨fun s mm _ _ S q => Constant_bool (q _ T s.heap s.toks S h)⟩
theorem Ends.none {k : Nat} {pos : Pos} (h : K .none T) : Ends c (eval (.Constant .none k pos) V) ml T K :=
  ⟨fun s mm _ _ S q => Constant_none (q _ T s.heap s.toks S h)⟩
theorem Ends.binOp {l r : PySem.Expr} {op : Operator} {pos : Pos} (h : Ends c (eval l V) ml T fun a T1 => Ends c (eval r V) ml T1 fun b T2 => Ends c (binaryOp op a b) ml T2 K) : Ends c (eval (.BinOp l op r pos) V) ml T K :=
  ⟨fun s mm _ E S q => wpAny_BinOp (h.run s mm _ E S fun _ _ _ _ S1 h => h.run _ _ _ E S1 fun _ _ _ _ S2 h => h.run _ _ _ E S2 fun v T' h' tk' S' k => q v T' h' tk' S' k)⟩
theorem Ends.unOp {l : PySem.Expr} {op : UnaryOp} {pos : Pos} (h : Ends c (eval l V) ml T fun a T1 => Ends c (unaryOp op a) ml T1 K) : Ends c (eval (.UnaryOp op l pos) V) ml T K :=
  ⟨fun s mm _ E S q => UnaryOp_ (h.run s mm _ E S fun _ _ _ _ S1 h => h.run _ _ _ E S1 fun v T' h' tk' S' k => q v T' h' tk' S' k)⟩
theorem Ends.sub {l r : PySem.Expr} {pos : Pos} (h : Ends c (eval l V) ml T fun a T1 => Ends c (eval r V) ml T1 fun b T2 => Ends c (subscriptTail l r a b) ml T2 K) : Ends c (eval (.Subscript l r pos) V) ml T K :=
  ⟨fun s mm _ E S q => Subscript_ (h.run s mm _ E S fun _ _ _ _ S1 h => h.run _ _ _ E S1 fun _ _ _ _ S2 h => h.run _ _ _ E S2 fun v T' h' tk' S' k => q v T' h' tk' S' k)⟩
theorem Ends.cmp {l r : PySem.Expr} {op : CmpOp} {pos : Pos} (hb : behindInMarks op r = false) (h : Ends c (eval l V) ml T fun a T1 => Ends c (eval r V) ml T1 fun b T2 => Ends c (compareOp op a b) ml T2 K) : Ends c (eval (.Compare l [op] [r] pos) V) ml T K :=
  ⟨fun s mm _ E S q => wpAny_Compare1 (h.run s mm _ E S fun _ _ _ _ S1 h => h.run _ _ _ E S1 fun _ _ _ _ S2 h => h.run _ _ _ E S2 fun v T' h' tk' S' k => q v T' h' tk' S' k) hb⟩
theorem Ends.testCmp {l r : PySem.Expr} {op : CmpOp} {pos : Pos} {whole : Sem Value} {K : Bool → Led → Prop} (hb : behindInMarks op r = false) (h : Ends c (eval l V) ml T fun a T1 => Ends c (eval r V) ml T1 fun b T2 => Ends c (compareOp op a b) ml T2 fun v T3 => Ends c (truthy v) ml T3 K) : Ends c (PySem.isTrue (.Compare l [op] [r] pos) V whole) ml T K :=
  ⟨fun s mm _ E S q => wpAny_isTrue_Compare1 (h.run s mm _ E S fun _ _ _ _ S1 h => h.run _ _ _ E S1 fun _ _ _ _ S2 h => h.run _ _ _ E S2 fun _ _ _ _ S3 h => h.run _ _ _ E S3 fun v T' h' tk' S' k => q v T' h' tk' S' k) hb⟩
theorem Ends.test {e : PySem.Expr} {whole : Sem Value} {K : Bool → Led → Prop} (he : PySem.isTrue e V whole = (do let v ← whole; standAt e.pos; holding [v] (truthy v))) (h : Ends c whole ml T fun v T1 => Ends c (truthy v) ml T1 K) : Ends c (PySem.isTrue e V whole) ml T K :=
  ⟨fun s mm _ E S q => isTrue_plain (h.run s mm _ E S fun _ _ _ _ S1 h => h.run _ _ _ E S1 fun v T' h' tk' S' k => q v T' h' tk' S' k) he⟩
theorem Ends.truthB {b : Bool} {K : Bool → Led → Prop} (h : K b T) : Ends c (truthy (.bool b)) ml T K := ⟨fun s mm _ _ S q => wpAny_truthy_bool (q b T s.heap s.toks S h)⟩
theorem Ends.ifExp {t a b : PySem.Expr} {pos : Pos} (h : Ends c (PySem.isTrue t V (eval t V)) ml T fun b' T1 => bcase b' (Ends c (eval a V) ml T1 K) (Ends c (eval b V) ml T1 K)) : Ends c (eval (.IfExp t a b pos) V) ml T K :=
  ⟨fun s mm Q E S q => IfExp_ (h.run s mm _ E S fun b' _ _ _ S1 h => by
    cases b' with
    | true => rw [if_pos rfl]; exact (h.1 rfl).run _ _ _ E S1 fun v T' h' tk' S' k => q v T' h' tk' S' k
    | false => rw [if_neg (by decide)]; exact (h.2 rfl).run _ _ _ E S1 fun v T' h' tk' S' k => q v T' h' tk' S' k)⟩
-- rows of expressions
def plain : PySem.Expr → Bool
  | .Starred _ _ => false
  | _ => true
theorem star_plain {e : PySem.Expr} {rest : List PySem.Expr} {env : Env} (h : plain e = true) : starEach (e :: rest) env = (false, eval e env) :: starEach rest env := by
  cases e <;> first | rfl | exact Bool.noConfusion h
theorem any_plain {es : List PySem.Expr} {env : Env} {pos : Pos} (h : es.all plain = true) : ((backTo pos (starEach es env)).any fun x => x.1) = false := by
  induction es with
  | nil => rfl
  | cons e es ih =>
    rw [List.all_cons, Bool.and_eq_true] at h
    rw [star_plain h.1]
    show (false || _) = false
    rw [Bool.false_or]
    exact ih h.2
theorem Ends.none' {pos : Pos} {K : List Value → Led → Prop} (h : K [] T) : Ends c (spliced (backTo pos (starEach [] V))) ml T K :=
  ⟨fun s mm _ _ S q => spliced_none (q _ T s.heap s.toks S h)⟩
theorem Ends.more {e : PySem.Expr} {rest : List PySem.Expr} {pos : Pos} {K : List Value → Led → Prop} (hp : plain e = true) (h : Ends c (eval e V) ml T fun v T1 => Ends c (spliced (backTo pos (starEach rest V))) ml T1 fun vs T2 => K (v :: vs) T2) : Ends c (spliced (backTo pos (starEach (e :: rest) V))) ml T K :=
  ⟨fun s mm _ E S q => spliced_more (h.run s mm _ E S fun _ _ _ _ S1 h => h.run _ _ _ E S1 fun vs T' h' tk' S' k => q _ T' h' tk' S' k) (star_plain hp)⟩
theorem Ends.newTup {vs : List Value} (hz : vs.length ≤ 1000) (hn : notSrc (tup vs) = true) (h : ∀ D T', Ext T T' → (D, tup vs) ∈ T' → K (.ref D) T') : Ends c (newTuple vs) ml T K :=
  ⟨fun s mm Q _ S q => by
    obtain ⟨S', CL, F, N, sp, cp, lk, of⟩ := S.ex
    refine newTuple_N F N (fun h' F' N' => q (.ref s.heap.objs.size) ((s.heap.objs.size, tup vs) :: T) h' s.toks ?_ (h _ _ (fun p hp => .tail _ hp) (.head _))) (by rw [sizeLine_eq]; omega)
    refine ⟨⟨S', CL, F', news_sub (fun p hp => ?_) N', sp, cp, lk, fun q hq p hp => ?_⟩, ns_cons hn S.ns, fun p hp => ?_, fun p hp => ?_⟩
    · simp only [List.mem_append, List.mem_cons] at hp ⊢
      rcases hp with h | h | h | (h | h) | h <;> simp [h]
    · simp only [List.mem_append, List.mem_cons] at hp
      have hq' : @LT.lt Nat _ q.1 s.heap.objs.size := Heap.lt_size (N q (List.mem_append.mpr (.inl hq))).1
      rcases hp with h | h | (h | h) | h
      · exact of q hq p (by simp [h])
      · exact of q hq p (by simp [h])
      · subst h; exact Nat.ne_of_gt hq'
      · exact of q hq p (by simp [h])
      · exact of q hq p (by simp [h])
    · rcases List.mem_cons.mp hp with rfl | hp
      · rfl
      · exact S.nc p hp
    · rcases List.mem_cons.mp hp with rfl | hp
      · exact .inr F.ns.lt
      · exact S.ab p hp⟩
theorem Ends.newLst {vs : List Value} (hz : vs.length ≤ 1000) (hn : notSrc (lst vs) = true) (h : ∀ D T', Ext T T' → (D, lst vs) ∈ T' → K (.ref D) T') : Ends c (newList vs) ml T K :=
  ⟨fun s mm Q _ S q => by
    obtain ⟨S', CL, F, N, sp, cp, lk, of⟩ := S.ex
    refine newList_N F N (fun h' F' N' => q (.ref s.heap.objs.size) ((s.heap.objs.size, lst vs) :: T) h' s.toks ?_ (h _ _ (fun p hp => .tail _ hp) (.head _))) (by rw [sizeLine_eq]; omega)
    refine ⟨⟨S', CL, F', news_sub (fun p hp => ?_) N', sp, cp, lk, fun q hq p hp => ?_⟩, ns_cons hn S.ns, fun p hp => ?_, fun p hp => ?_⟩
    · simp only [List.mem_append, List.mem_cons] at hp ⊢
      rcases hp with h | h | h | (h | h) | h <;> simp [h]
    · simp only [List.mem_append, List.mem_cons] at hp
      have hq' : @LT.lt Nat _ q.1 s.heap.objs.size := Heap.lt_size (N q (List.mem_append.mpr (.inl hq))).1
      rcases hp with h | h | (h | h) | h
      · exact of q hq p (by simp [h])
      · exact of q hq p (by simp [h])
      · subst h; exact Nat.ne_of_gt hq'
      · exact of q hq p (by simp [h])
      · exact of q hq p (by simp [h])
    · rcases List.mem_cons.mp hp with rfl | hp
      · rfl
      · exact S.nc p hp
    · rcases List.mem_cons.mp hp with rfl | hp
      · exact .inl rfl
      · exact S.ab p hp⟩
theorem Ends.tuple {es : List PySem.Expr} {k : Nat} {pos : Pos} (h : Ends c (spliced (backTo pos (starEach es V))) ml T fun vs T1 => Ends c (newTuple vs) ml T1 K) : Ends c (eval (.Tuple es k pos) V) ml T K :=
  ⟨fun s mm _ E S q => Tuple_ (h.run s mm _ E S fun _ _ _ _ S1 h => h.run _ _ _ E S1 fun v T' h' tk' S' k => q v T' h' tk' S' k)⟩
theorem Ends.list {es : List PySem.Expr} {pos : Pos} (h : Ends c (spliced (backTo pos (starEach es V))) ml T fun vs T1 => Ends c (newList vs) ml T1 K) : Ends c (eval (.List es pos) V) ml T K :=
  ⟨fun s mm _ E S q => List_ (h.run s mm _ E S fun _ _ _ _ S1 h => h.run _ _ _ E S1 fun v T' h' tk' S' k => q v T' h' tk' S' k)⟩
/-- what may be called -/
def adrs : List Nat := [235, 242, 249, 257, 264, 271, 278, 285, 290, 295, 302, 309, 314, 321, 328, 335, 340, 213, 99, 120, 36, 31, 25, 43, 48, 53, 67, 91, 106, 113, 127, 132, 137, 142, 149, 156, 163, 170, 177, 189, 199]
def callOk : Value → Bool
  | .ref a => adrs.elem a
  | .builtin _ => true
  | .type _ => true
  | _ => false
theorem frag_lay (w : World) : Does w 0 [] 0 0 [] (fun _ _ _ => True) → True := by
  unfold Does
  k_fill
  intro _
  trivial
theorem adrs_ok : ∀ a ∈ adrs, keepIn (pre.heap_1_39 w.params) (.ref a) = true := by
  w_on
  intro a h
  simp only [adrs, List.mem_cons, List.mem_nil_iff, or_false] at h
  rcases h with rfl | rfl | rfl | rfl | rfl | rfl | rfl | rfl | rfl | rfl | rfl | rfl | rfl | rfl | rfl | rfl | rfl | rfl | rfl | rfl | rfl | rfl | rfl | rfl | rfl | rfl | rfl | rfl | rfl | rfl | rfl | rfl | rfl | rfl | rfl | rfl | rfl | rfl | rfl | rfl | rfl <;> k_is
def callOk0 : Value → Bool
  | .ref a => adrs.elem a
  | _ => false
theorem keep_ok {a : Addr} (h : callOk (.ref a) = true) : keepIn (pre.heap_1_39 w.params) (.ref a) = true := adrs_ok a (by simpa [callOk] using h)
theorem Ends.call {f e : PySem.Expr} {es : List PySem.Expr} {pos : Pos} (he : eval (.Call f (e :: es) [] pos) V = (do let g ← eval f V; callWith pos g [] (backTo pos (starEach (e :: es) V)) (backToKw pos (keywordEach [] V)))) (hp : (e :: es).all plain = true)
    (h : Ends c (eval f V) ml T fun fv T0 => callOk fv = true ∧ Ends c (spliced (backTo pos (starEach (e :: es) V))) ml T0 fun vs T1 => Ends c (PySem.call fv vs) ml T1 K) : Ends c (eval (.Call f (e :: es) [] pos) V) ml T K :=
  ⟨fun s mm Q E S q => by
    have hp' := hp
    rw [List.all_cons, Bool.and_eq_true] at hp
    refine Call_ (h.run s mm _ E S fun fv T0 h0 tk0 S0 h => ?_) he
    have hr : wpAny (model PG w) c.A (spliced (backTo pos (starEach (e :: es) V))) (fun vs s₁ => (pre.heap_1_39 w.params).In s₁.heap ∧ wpAny (model PG w) c.A (PySem.call fv ([] ++ vs)) Q E s₁) E { s with heap := h0, toks := tk0 } :=
      h.2.run _ _ _ E S0 fun vs T1 h1 tk1 S1 h => ⟨by obtain ⟨S', CL, F, _⟩ := S1.ex; exact c.inn.keeps F.keep, h.run _ _ _ E S1 fun v T' h' tk' S' k => q v T' h' tk' S' k⟩
    have hr' := hr
    cases fv with
    | ref a => exact callWith_K c.inn (keep_ok h.1) hr (star_plain hp.1) (any_plain hp.2)
    | builtin i => exact PyProof.Rows.callWith_builtin1 (wpAny_mono hr (fun _ _ h => h.2) fun _ _ h => h) (star_plain hp.1) (any_plain hp.2)
    | type i => exact PyProof.Rows.callWith_type1 (wpAny_mono hr (fun _ _ h => h.2) fun _ _ h => h) (star_plain hp.1) (any_plain hp.2)
    | _ => exact Bool.noConfusion h.1⟩

theorem keep_ok0 {fv : Value} (h : callOk0 fv = true) : keepIn (pre.heap_1_39 w.params) fv = true := by
  cases fv with
  | ref a => exact keep_ok h
  | _ => exact Bool.noConfusion h
theorem Ends.call0 {f : PySem.Expr} {pos : Pos} (he : eval (.Call f [] [] pos) V = (do let g ← eval f V; callWith pos g [] (backTo pos (starEach [] V)) (backToKw pos (keywordEach [] V))))
    (h : Ends c (eval f V) ml T fun fv T0 => callOk0 fv = true ∧ Ends c (PySem.call fv []) ml T0 K) : Ends c (eval (.Call f [] [] pos) V) ml T K :=
  ⟨fun s mm Q E S q => Call_ (h.run s mm _ E S fun fv T0 h0 tk0 S0 h => callWith_K0 (by obtain ⟨S', CL, F, _⟩ := S0.ex; exact c.inn.keeps F.keep) (keep_ok0 h.1) (h.2.run _ mm _ E S0 fun v T' h' tk' S' k => q v T' h' tk' S' k)) he⟩
-- statements
def kept (cs : Scope) (x : Str) : Bool := match cs.names.lookup x with
  | some .local => true
  | some .cell => true
  | _ => false
theorem lk_cons {x y : Str} {v : Value} {ml : Mp} : ((x, v) :: ml).lookup y = if y = x then some v else ml.lookup y := by
  rw [List.lookup_cons]
  by_cases h : y = x
  · subst h; simp
  · rw [if_neg h]
    have : (y == x) = false := by simpa using h
    rw [this]
theorem lk_mem {α : Type} {x : Str} {v : α} {l : List (Str × α)} (h : l.lookup x = some v) : (x, v) ∈ l := by
  induction l with
  | nil => cases h
  | cons p l ih =>
    obtain ⟨y, u⟩ := p
    rw [List.lookup_cons] at h
    by_cases e : x = y
    · subst e
      rw [beq_self_eq_true] at h
      cases h
      exact .head _
    · have : (x == y) = false := by simpa using e
      rw [this] at h
      exact .tail _ (ih h)
theorem lk_inj {cl : List (Str × Addr)} (nd : (cl.map (·.2)).Nodup) {x y : Str} {a : Addr} (hx : cl.lookup x = some a) (hy : cl.lookup y = some a) : x = y := by
  have h1 := lk_mem hx
  have h2 := lk_mem hy
  clear hx hy
  induction cl with
  | nil => cases h1
  | cons p l ih =>
    rw [List.map_cons, List.nodup_cons] at nd
    rcases List.mem_cons.mp h1 with k1 | k1 <;> rcases List.mem_cons.mp h2 with k2 | k2
    · rw [← k1] at k2; exact (Prod.mk.inj k2).1.symm
    · exact (nd.1 (List.mem_map.mpr ⟨_, k2, by rw [← k1]⟩)).elim
    · exact (nd.1 (List.mem_map.mpr ⟨_, k1, by rw [← k2]⟩)).elim
    · exact ih nd.2 k1 k2
theorem cell_split {CL : Led} {l : List Addr} {a : Addr} {o : Obj} (he : CL.map (·.1) = l) (nd : l.Nodup) (hm : (a, o) ∈ CL) : ∃ A B, CL = A ++ (a, o) :: B ∧ (∀ p ∈ A ++ B, @Ne Nat p.1 a) := by
  subst he
  obtain ⟨A, B, rfl⟩ := List.append_of_mem hm
  refine ⟨A, B, rfl, fun p hp => ?_⟩
  simp only [List.map_append, List.map_cons] at nd
  have h2 := List.nodup_append.mp nd
  rcases List.mem_append.mp hp with hp | hp
  · exact h2.2.2 _ (List.mem_map_of_mem hp) _ (.head _)
  · intro e
    have := (List.nodup_cons.mp h2.2.1).1
    exact this (List.mem_map.mpr ⟨p, hp, e⟩)
theorem EndsU.store {x : Str} {v : Value} {K : Mp → Led → Prop} (hk : kept cs x = true) (h : K ((x, v) :: ml) T) : EndsU c (storeName c.env x v) ml T K :=
  ⟨fun s mm Q E S q => by
    obtain ⟨⟨S', CL, F, N, sp, cp, lk, of⟩, ns, nc, ab⟩ := S
    unfold kept at hk
    rcases hx : cs.names.lookup x with _ | k
    · rw [hx] at hk; cases hk
    · rw [hx] at hk
      cases k with
      | «local» =>
        refine storeX_L F N (fun h' F' N' => q _ _ T h' _ ⟨⟨S', CL, F', N', sp, ⟨cp.adr, cp.dat, fun y u hy ky => cp.val y u ?_ ky⟩, fun y u hy ky => ?_, of⟩, ns, nc, ab⟩ h) c.fn hx
        · rw [lk_cons] at hy
          rw [if_neg (fun e => by subst e; rw [hx] at ky; cases ky)] at hy
          exact hy
        · rw [lk_cons] at hy
          show (if y = x then some v else mm y) = some u
          by_cases e : y = x
          · rw [if_pos e] at hy ⊢; exact hy
          · rw [if_neg e] at hy ⊢; exact lk y u hy ky
      | cell =>
        obtain ⟨a, ha, hm⟩ := c.cOk x hx
        rw [← cp.adr] at hm
        obtain ⟨⟨a', o⟩, hp, rfl⟩ := List.mem_map.mp hm
        obtain ⟨v₀, hv₀⟩ := cp.dat _ hp
        obtain ⟨A, B, hAB, hne⟩ := cell_split cp.adr c.cNd hp
        have hLa : @LT.lt Nat _ c.L a' := by
          have : a' ∈ c.cl.map (·.2) := cp.adr ▸ List.mem_map_of_mem (f := (·.1)) hp
          obtain ⟨q', hq', e⟩ := List.mem_map.mp this
          have := c.cLo q' hq'
          rw [e] at this
          exact this
        subst hAB
        have sub1 : ∀ p ∈ (a', o) :: (c.ex ++ (S' ++ (A ++ B ++ (T ++ c.N)))), p ∈ c.ex ++ (S' ++ (A ++ (a', o) :: B ++ (T ++ c.N))) := fun p hp => by
          simp only [List.mem_cons, List.mem_append] at hp ⊢
          rcases hp with h | h | h | (h | h) | h | h <;> simp [h]
        have neR : ∀ p ∈ c.ex ++ (S' ++ (A ++ B ++ (T ++ c.N))), p.1 ≠ a' := ne_of (news_sub sub1 N) hv₀ fun p hp => by
          rcases List.mem_append.mp hp with hp | hp
          · exact .inr (Ne.symm (of p hp (a', o) (by simp)))
          rcases List.mem_append.mp hp with hp | hp
          · revert sp
            cases c.src with
            | none => intro sp; rw [show S' = [] from sp] at hp; cases hp
            | some z =>
              rintro ⟨g, d, tg, td, _, rfl⟩
              rcases List.mem_cons.mp hp with rfl | hp
              · exact .inl rfl
              · cases hp
          · rcases List.mem_append.mp hp with hp | hp
            · exact .inr (hne p hp)
            · rcases List.mem_append.mp hp with hp | hp
              · exact .inl (nc p hp)
              · exact .inr (Nat.ne_of_lt (Nat.lt_trans (c.lo p hp) hLa))
        refine storeX_C F (news_sub sub1 N) ha (UpdF.head neR) hv₀ (fun h' o' F' N' d' => q _ _ T h' s.toks ⟨⟨S', A ++ (a', o') :: B, F', by refine news_sub (fun p hp => ?_) N'; simp only [List.mem_cons, List.mem_append] at hp ⊢; (rcases hp with h | h | (h | h | h) | h | h <;> simp [h]), sp, ⟨?_, fun p hp => ?_, fun y u hy ky => ?_⟩, fun y u hy ky => lk y u ?_ ky, fun q hq p hp => ?_⟩, ns, nc, ab⟩ h) c.fn hx
        · have := cp.adr
          simp only [List.map_append, List.map_cons] at this ⊢
          exact this
        · simp only [List.mem_cons, List.mem_append] at hp
          rcases hp with h | h | h
          · exact cp.dat p (List.mem_append.mpr (.inl h))
          · subst h; exact ⟨_, d'⟩
          · exact cp.dat p (List.mem_append.mpr (.inr (.tail _ h)))
        · rw [lk_cons] at hy
          by_cases e : y = x
          · rw [if_pos e] at hy
            subst e
            cases hy
            exact ⟨a', o', ha, List.mem_append.mpr (.inr (.head _)), d'⟩
          · rw [if_neg e] at hy
            obtain ⟨b, ob, hb, hm', hd'⟩ := cp.val y u hy ky
            rcases List.mem_append.mp hm' with hm' | hm'
            · exact ⟨b, ob, hb, List.mem_append.mpr (.inl hm'), hd'⟩
            · rcases List.mem_cons.mp hm' with hm' | hm'
              · cases hm'
                exact absurd (lk_inj c.cNd hb ha) e
              · exact ⟨b, ob, hb, List.mem_append.mpr (.inr (.tail _ hm')), hd'⟩
        · rw [lk_cons] at hy
          rw [if_neg (fun e => by subst e; rw [hx] at ky; cases ky)] at hy
          exact hy
        · simp only [List.mem_cons, List.mem_append] at hp
          rcases hp with h | (h | h | h) | h | h
          · exact of q hq p (by simp [h])
          · exact of q hq p (by simp [h])
          · subst h; exact of q hq (a', o) (by simp)
          · exact of q hq p (by simp [h])
          · exact of q hq p (by simp [h])
          · exact of q hq p (by simp [h])
      | _ => cases hk⟩

theorem EndsS.nil {Kn : Mp → Led → Prop} {Kr : Value → Led → Prop} (h : Kn ml T) : EndsS c (execs [] c.env) ml T Kn Kr := ⟨fun s mm _ _ S qn _ => wpAny_execs_nil (qn mm ml T s.heap s.toks S h)⟩
theorem EndsS.cons {st : Stmt} {rest : List Stmt} {Kn : Mp → Led → Prop} {Kr : Value → Led → Prop} (h : EndsS c (exec st c.env) ml T (fun ml' T' => EndsS c (execs rest c.env) ml' T' Kn Kr) Kr) : EndsS c (execs (st :: rest) c.env) ml T Kn Kr :=
  ⟨fun s mm Q E S qn qr => wpAny_execs_cons (h.run s mm _ E S (fun _ _ _ _ _ S' h => h.run _ _ Q E S' qn qr) fun v mm' ml' T' h' tk' S' k => qr v mm' ml' T' h' tk' S' k)⟩
theorem EndsS.ret {e : PySem.Expr} {pos : Pos} {Kn : Mp → Led → Prop} {Kr : Value → Led → Prop} (h : Ends c (eval e c.env) ml T Kr) : EndsS c (exec (.Return (some e) pos) c.env) ml T Kn Kr :=
  ⟨fun s mm Q E S _ qr => wpAny_Return_some (h.run s mm _ E S fun v T' h' tk' S' k => qr v mm ml T' h' tk' S' k)⟩
theorem EndsS.assign {x : Str} {p pos : Pos} {e : PySem.Expr} {Kn : Mp → Led → Prop} {Kr : Value → Led → Prop} (hs : swapsWith e (some (.Name x p)) pos.line c.env = pure false) (hk : kept cs x = true)
    (h : Ends c (eval e c.env) ml T fun v T' => Kn ((x, v) :: ml) T') : EndsS c (exec (.Assign [.Name x p] e pos) c.env) ml T Kn Kr :=
  ⟨fun s mm Q E S qn _ => wpAny_Assign_Name (h.run s mm _ E S fun v T' h' tk' S' k => (EndsU.store (K := fun ml' T' => Kn ml' T') hk k).run _ _ _ E S' fun mm' ml' T' h' tk' S' k => qn mm' ml' T' h' tk' S' k) hs⟩
theorem EndsS.if_ {t : PySem.Expr} {a b : List Stmt} {pos : Pos} {Kn : Mp → Led → Prop} {Kr : Value → Led → Prop} (h : Ends c (PySem.isTrue t c.env (eval t c.env)) ml T fun b' T1 => bcase b' (EndsS c (execs a c.env) ml T1 Kn Kr) (EndsS c (execs b c.env) ml T1 Kn Kr)) : EndsS c (exec (.If t a b pos) c.env) ml T Kn Kr :=
  ⟨fun s mm Q E S qn qr => wpAny_If (h.run s mm _ E S fun b' _ _ _ S1 h => by
    cases b' with
    | true => rw [if_pos rfl]; exact (h.1 rfl).run _ _ _ E S1 qn qr
    | false => rw [if_neg (by decide)]; exact (h.2 rfl).run _ _ _ E S1 qn qr)⟩
/-- several names at once -/
def nameOf : PySem.Expr → Option Str
  | .Name x _ => some x
  | _ => none
theorem nameOf_eq {e : PySem.Expr} {x : Str} (h : nameOf e = some x) : ∃ p, e = .Name x p := by
  cases e <;> first | exact ⟨_, congrArg (fun y => PySem.Expr.Name y _) (Option.some.inj h)⟩ | exact (nomatch (show (Option.none : Option Str) = some x from h))
def bindAll (cs : Scope) : List PySem.Expr → List Value → Mp → Option Mp
  | [], [], ml => some ml
  | e :: es, v :: vs, ml => match nameOf e with
    | some x => (match kept cs x with
      | true => bindAll cs es vs ((x, v) :: ml)
      | false => none)
    | none => none
  | _, _, _ => none
theorem EndsU.inOrder (es : List PySem.Expr) : ∀ (vs : List Value) (ml ml' : Mp) (T : Led) (K : Mp → Led → Prop), bindAll cs es vs ml = some ml' → K ml' T →
    EndsU c (assignInOrder (List.map (fun x => x.2) (assignEach es c.env)) vs) ml T K ∧ (assignEach es c.env).length = vs.length ∧ List.findIdx? (fun x => x.1) (assignEach es c.env) = none := by
  induction es with
  | nil =>
    intro vs ml ml' T K hb h
    cases vs with
    | nil =>
      cases hb
      exact ⟨⟨fun s mm _ _ S q => assignInOrder_nil (q _ _ _ s.heap s.toks S h)⟩, rfl, rfl⟩
    | cons v vs => exact (nomatch (show (Option.none : Option Mp) = some ml' from hb))
  | cons e es ih =>
    intro vs ml ml' T K hb h
    cases vs with
    | nil => exact (nomatch (show (Option.none : Option Mp) = some ml' from hb))
    | cons v vs =>
      replace hb : (match nameOf e with
        | some x => (match kept cs x with
          | true => bindAll cs es vs ((x, v) :: ml)
          | false => none)
        | none => none) = some ml' := hb
      rcases hn : nameOf e with _ | x
      · rw [hn] at hb; cases hb
      · rw [hn] at hb
        obtain ⟨p, rfl⟩ := nameOf_eq hn
        cases hk : kept cs x with
        | false => simp only [hk] at hb; cases hb
        | true =>
          simp only [hk] at hb
          obtain ⟨h1, h2, h3⟩ := ih vs _ ml' T K hb h
          refine ⟨⟨fun s mm Q E S q => assignInOrder_cons (PyProof.Rows.assign_Name ((EndsU.store (K := fun m T' => m = (x, v) :: ml ∧ T' = T) hk ⟨rfl, rfl⟩).run s mm _ E S fun _ _ _ _ _ S' k => ?_))⟩, ?_, ?_⟩
          · obtain ⟨rfl, rfl⟩ := k
            exact h1.run _ _ _ E S' q
          · show (assignEach es c.env).length + 1 = vs.length + 1
            rw [h2]
          · show List.findIdx? _ ((false, _) :: assignEach es c.env) = none
            rw [List.findIdx?_cons, h3]
            rfl
/-- several names, the last one first -/
def bindNames (cs : Scope) : List Str → List Value → Mp → Option Mp
  | [], [], ml => some ml
  | x :: xs, v :: vs, ml => match kept cs x with
    | true => bindNames cs xs vs ((x, v) :: ml)
    | false => none
  | _, _, _ => none
theorem EndsU.inOrderN : ∀ (xs : List Str) (vs : List Value) (ml ml' : Mp) (T : Led) (K : Mp → Led → Prop), bindNames cs xs vs ml = some ml' → K ml' T →
    EndsU c (assignInOrder (xs.map fun n => bindName c.env n) vs) ml T K ∧ xs.length = vs.length
  | [], [], ml, ml', T, K, hb, h => by
    cases hb
    exact ⟨⟨fun s mm _ _ S q => assignInOrder_nil (q _ _ _ s.heap s.toks S h)⟩, rfl⟩
  | x :: xs, v :: vs, ml, ml', T, K, hb, h => by
    unfold bindNames at hb
    cases hk : kept cs x with
    | false => rw [hk] at hb; cases hb
    | true =>
      rw [hk] at hb
      obtain ⟨h1, h2⟩ := EndsU.inOrderN xs vs _ ml' T K hb h
      refine ⟨⟨fun s mm Q E S q => assignInOrder_cons (bindName_ ((EndsU.store (K := fun m T' => m = (x, v) :: ml ∧ T' = T) hk ⟨rfl, rfl⟩).run s mm _ E S fun _ _ _ _ _ S' k => ?_))⟩, ?_⟩
      · obtain ⟨rfl, rfl⟩ := k
        exact h1.run _ _ _ E S' q
      · rw [List.length_cons, List.length_cons, h2]
  | [], _ :: _, _, _, _, _, hb, _ => by simp [bindNames] at hb
  | _ :: _, [], _, _, _, _, hb, _ => by simp [bindNames] at hb
/-- an item of the new part or of the ledger as it stood -/
def Has (c : Cx w cs) (T : Led) (a : Addr) (o : Obj) : Prop := (a, o) ∈ T ∨ (a, o) ∈ c.N
theorem Has.new {a : Addr} {o : Obj} (h : (a, o) ∈ T) : Has c T a o := .inl h
theorem Has.old {a : Addr} {o : Obj} (h : (a, o) ∈ c.N) : Has c T a o := .inr h
theorem Has.mem {a : Addr} {o : Obj} (h : Has c T a o) {X S CL : Led} : (a, o) ∈ X ++ (S ++ (CL ++ (T ++ c.N))) :=
  List.mem_append.mpr (.inr (List.mem_append.mpr (.inr (List.mem_append.mpr (.inr (List.mem_append.mpr h))))))
def bindO (cs : Scope) (o : Option (List Str)) (es : List PySem.Expr) (vs : List Value) (ml : Mp) : Option Mp := match o with
  | none => bindAll cs es vs ml
  | some xs => bindNames cs xs.reverse vs.reverse ml
/-- a tuple taken apart -/
def Unp (c : Cx w cs) (o : Option (List Str)) (es : List PySem.Expr) (v : Value) (ml : Mp) (T : Led) (K : Mp → Led → Prop) : Prop := ∃ a vs ml', v = .ref a ∧ Has c T a (tup vs) ∧ bindO cs o es vs ml = some ml' ∧ K ml' T
theorem Unp.mk {o : Option (List Str)} {es : List PySem.Expr} {a : Addr} {vs : List Value} {ml' : Mp} {K : Mp → Led → Prop} (hm : Has c T a (tup vs)) (hb : bindO cs o es vs ml = some ml') (k : K ml' T) : Unp c o es (.ref a) ml T K := ⟨a, vs, ml', rfl, hm, hb, k⟩
theorem EndsS.assignTup {es : List PySem.Expr} {k : Nat} {tp pos : Pos} {e : PySem.Expr} {Kn : Mp → Led → Prop} {Kr : Value → Led → Prop} (hs : swapsWithSole [.Tuple es k tp] e pos.line c.env = pure false) (o : Option (List Str)) (hw : swappedStores [.Tuple es k tp] e c.env = pure o)
    (h : Ends c (eval e c.env) ml T fun v T' => Unp c o es v ml T' Kn) : EndsS c (exec (.Assign [.Tuple es k tp] e pos) c.env) ml T Kn Kr :=
  ⟨fun s mm Q E S qn _ => by
    cases o with
    | none =>
      exact Assign_Tuple (h.run s mm _ E S fun v T' h' tk' S' k => by
        obtain ⟨a, vs, ml', rfl, hm, hb, hk⟩ := k
        obtain ⟨h1, h2, h3⟩ := EndsU.inOrder es vs ml ml' T' (fun m T => Kn m T) hb hk
        obtain ⟨S'', CL, F, N, sp, cp, lk, of⟩ := S'.ex
        refine unpackN_ F N (News.isTup N hm.mem) rfl (by rw [h2]; rfl) h3 fun h'' F' N' => ?_
        exact h1.run _ _ _ E ⟨⟨S'', CL, F', N', sp, cp, lk, of⟩, S'.ns, S'.nc, S'.ab⟩ fun mm' ml' T' h' tk' S' k => qn mm' ml' T' h' tk' S' k) hs hw
    | some xs =>
      refine Assign_Tuple_swapped (h.run s mm _ E S fun v T' h' tk' S' k => ?_) hs hw
      obtain ⟨a, vs, ml', rfl, hm, hb, hk⟩ := k
      obtain ⟨h1, h2⟩ := EndsU.inOrderN xs.reverse vs.reverse ml ml' T' (fun m T => Kn m T) hb hk
      rw [List.length_reverse, List.length_reverse] at h2
      obtain ⟨S'', CL, F, N, sp, cp, lk, of⟩ := S'.ex
      refine unpackItemsN_ F N (News.isTup N hm.mem) rfl (by rw [h2]; rfl) fun h'' F' N' => ?_
      exact h1.run _ _ _ E ⟨⟨S'', CL, F', N', sp, cp, lk, of⟩, S'.ns, S'.nc, S'.ab⟩ fun mm' ml' T' h' tk' S' k => qn mm' ml' T' h' tk' S' k⟩
-- the leaves
theorem Ends.addStr {x y : Str} {t u : Tok} (hz : x.length + y.length ≤ sizeLine) (h : ∀ t, K (.str (x ++ y) t) T) : Ends c (binaryOp .Add (.str x t) (.str y u)) ml T K :=
  ⟨fun s mm _ _ S q => PyProof.Rows.add_str (fun t' tk => q _ T s.heap tk S (h t')) hz⟩
theorem Ends.addInt {x y : Int} {t u : Tok} (h : ∀ t, K (.int (x + y) t) T) : Ends c (binaryOp .Add (.int x t) (.int y u)) ml T K :=
  ⟨fun s mm _ _ S q => add_int (q _ T s.heap _ S (h _))⟩
theorem Ends.subInt {x y : Int} {t u : Tok} (h : ∀ t, K (.int (x - y) t) T) : Ends c (binaryOp .Sub (.int x t) (.int y u)) ml T K :=
  ⟨fun s mm _ _ S q => sub_int (q _ T s.heap _ S (h _))⟩
theorem Ends.eqInt {x y : Int} {t u : Tok} (h : K (.bool (x == y)) T) : Ends c (compareOp .Eq (.int x t) (.int y u)) ml T K :=
  ⟨fun s mm _ _ S q => eq_int (q _ T s.heap s.toks S h)⟩
theorem Ends.ltInt {x y : Int} {t u : Tok} (h : K (.bool (decide (x < y))) T) : Ends c (compareOp .Lt (.int x t) (.int y u)) ml T K :=
  ⟨fun s mm _ _ S q => lt_int (q _ T s.heap s.toks S h)⟩
theorem Ends.eqStr {x y : Str} {t u : Tok} (h : K (.bool (x == y)) T) : Ends c (compareOp .Eq (.str x t) (.str y u)) ml T K :=
  ⟨fun s mm _ _ S q => eq_str (q _ T s.heap s.toks S h)⟩
theorem Ends.isStr {x : Str} {t : Tok} (h : K (.bool false) T) : Ends c (compareOp .Is (.str x t) .none) ml T K :=
  ⟨fun s mm _ _ S q => is_str_none (q _ T s.heap s.toks S h)⟩
theorem Ends.isNone (h : K (.bool true) T) : Ends c (compareOp .Is .none .none) ml T K :=
  ⟨fun s mm _ _ S q => is_none_none (q _ T s.heap s.toks S h)⟩
theorem Ends.item {a : Addr} {vs : List Value} {k : Int} {u : Tok} {j : Nat} {x : Value} {value slice : PySem.Expr} (hm : Has c T a (tup vs)) (h0 : -(2 ^ 63) ≤ k) (h1 : k < 2 ^ 63) (hj : seqIndex? k vs.length = some j) (hx : vs[j]? = some x)
    (hs : subscripted slice false (.ref a) (.int k u) = operate [.ref a, .int k u] (getItem (.ref a) (.int k u))) (h : K x T) : Ends c (subscriptTail value slice (.ref a) (.int k u)) ml T K :=
  ⟨fun s mm Q E S q => by
    obtain ⟨S', CL, F, N, sp, cp, lk, of⟩ := S.ex
    exact tup_item (lo := tup vs) (n := 0) N hm.mem rfl rfl h0 h1 hj hx (q x T s.heap s.toks S h) hs⟩
theorem Ends.itemL {a : Addr} {vs : List Value} {n : Nat} {k : Int} {u : Tok} {x : Value} {value slice : PySem.Expr} (hm : Has c T a { cls := .type "list", data := .seq vs.toArray n }) (h0 : 0 ≤ k) (h1 : k < 2 ^ 63) (hx : vs[k.toNat]? = some x)
    (hs : subscripted slice false (.ref a) (.int k u) = operate [.ref a, .int k u] (getItem (.ref a) (.int k u))) (h : K x T) : Ends c (subscriptTail value slice (.ref a) (.int k u)) ml T K :=
  ⟨fun s mm Q E S q => by
    obtain ⟨S', CL, F, N, sp, cp, lk, of⟩ := S.ex
    exact lst_item (lo := { cls := .type "list", data := .seq vs.toArray n }) (n := n) N hm.mem rfl rfl h0 h1 hx (q x T s.heap s.toks S h) hs⟩
-- contracts
theorem Sta.grow {h' : Heap} {mm : Str → Option Value} {S CL R tl : Led} (F : Fr c.h₀ c.L h' mm) (sp : SrcPart c.src S) (cp : CellPart cs c.cl ml CL) (lk : Lk cs ml mm)
    (of : ∀ q ∈ c.ex, ∀ p, p ∈ S ∨ p ∈ CL ∨ p ∈ tl ∨ p ∈ T ∨ p ∈ c.N → @Ne Nat p.1 q.1)
    (N : News c.h₀ c.L h' R) (hR : ∀ p, p ∈ c.ex ∨ p ∈ S ∨ p ∈ CL ∨ p ∈ tl ∨ p ∈ T ∨ p ∈ c.N → p ∈ R) (S0 : AllNot T ∧ NoCell T ∧ ∀ p ∈ T, p.2.cls = .type "list" ∨ @LT.lt Nat _ c.L p.1) (ns' : AllNot tl) (nc' : NoCell tl) (ab' : Abv c.L tl) : Sta c h' mm ml (tl ++ T) := by
  refine ⟨⟨S, CL, F, news_sub (fun p hp => hR p ?_) N, sp, cp, lk, fun q hq p hp => of q hq p ?_⟩, ns_app ns' S0.1, fun p hp => ?_, fun p hp => ?_⟩
  · simp only [List.mem_append] at hp
    rcases hp with h | h | h | (h | h) | h <;> simp [h]
  · simp only [List.mem_append] at hp
    rcases hp with h | h | (h | h) | h <;> simp [h]
  · exact (List.mem_append.mp hp).elim (nc' p) (S0.2.1 p)
  · exact (List.mem_append.mp hp).elim (fun h => .inr (ab' p h)) (S0.2.2 p)
theorem Ends.gen {f src : Addr} {vs : List Value} {nd nu : Nat} {P : Led → Value → Prop} (hs : c.src = some src) (D : ∀ R, Ext T R → Ext c.N R → Gen w f vs nd nu R P) (hdp : c.dp + nd < recursionLimit) (hun : c.un + nu < cLine)
    (k : ∀ r T' tl, Ext T T' → Ext tl T' → P tl r → K r T') : Ends c (PySem.call (.ref f) (.ref src :: vs)) ml T K :=
  ⟨fun s mm Q E S q => by
    obtain ⟨⟨S', CL, F, N, sp, cp, lk, of⟩, S1, S2, S3⟩ := S
    rw [hs] at sp
    obtain ⟨g, d, tg, td, so, rfl⟩ := sp
    have N1 : News c.h₀ c.L s.heap ((src, srcO g d tg td) :: (c.ex ++ (CL ++ (T ++ c.N)))) := news_sub (fun p hp => by
      simp only [List.mem_cons, List.mem_append, List.mem_nil_iff, or_false] at hp ⊢
      rcases hp with h | h | h | h | h <;> simp [h]) N
    refine Gen.use (D (c.ex ++ (CL ++ (T ++ c.N))) (fun p hp => by simp [hp]) (fun p hp => by simp [hp])) c.below F c.inn N1 .head so (fun p hp => ?_) c.top c.fn hdp hun fun r g' d' tg' td' tl h' tk' F' N' so' an' nc' ab' fr' hp' => ?_
    · rcases List.mem_append.mp hp with hp | hp
      · exact .inr (Ne.symm (of p hp _ (.head _)))
      · rcases List.mem_append.mp hp with hp | hp
        · obtain ⟨v, hv⟩ := cp.dat p hp
          exact .inl (notSrc_cell hv)
        · rcases List.mem_append.mp hp with hp | hp
          · exact .inl (S1 p hp)
          · exact c.sNot src hs p hp
    · refine q r (tl ++ T) h' tk' (Sta.grow F' (S := [(src, srcO g' d' tg' td')]) (by rw [hs]; exact ⟨g', d', tg', td', so', rfl⟩) cp lk (fun q hq p hp => ?_) N' (fun p hp => ?_) ⟨S1, S2, S3⟩ an' nc' ab') (k r _ tl (fun p hp => by simp [hp]) (fun p hp => by simp [hp]) hp')
      · rcases hp with h | h | h | h | h
        · rcases List.mem_cons.mp h with rfl | h
          · exact of q hq (src, srcO g d tg td) (.head _)
          · cases h
        · exact of q hq p (by simp [h])
        · exact Nat.ne_of_gt (fr' q (by simp [hq]) p h)
        · exact of q hq p (by simp [h])
        · exact of q hq p (by simp [h])
      · simp only [List.mem_cons, List.mem_append, List.mem_nil_iff, or_false] at hp ⊢
        rcases hp with h | h | h | h | h | h <;> simp [h]⟩
theorem Ends.pure {f : Addr} {vs : List Value} {nd nu : Nat} {P : Led → Value → Prop} (D : ∀ R, Ext T R → Ext c.N R → Does w f vs nd nu R (POut R P)) (hdp : c.dp + nd < recursionLimit) (hun : c.un + nu < cLine)
    (k : ∀ r T' tl, Ext T T' → Ext tl T' → P tl r → K r T') : Ends c (PySem.call (.ref f) vs) ml T K :=
  ⟨fun s mm Q E S q => by
    obtain ⟨⟨S', CL, F, N, sp, cp, lk, of⟩, S1, S2, S3⟩ := S
    refine Does.useP (D (c.ex ++ (S' ++ (CL ++ (T ++ c.N)))) (fun p hp => by simp [hp]) (fun p hp => by simp [hp])) c.below F c.inn N c.top c.fn hdp hun fun r tl h' tk' F' N' an' nc' ab' fr' hp' => ?_
    refine q r (tl ++ T) h' tk' (Sta.grow F' sp cp lk (fun q hq p hp => ?_) N' (fun p hp => ?_) ⟨S1, S2, S3⟩ an' nc' ab') (k r _ tl (fun p hp => by simp [hp]) (fun p hp => by simp [hp]) hp')
    · rcases hp with h | h | h | h | h
      · exact of q hq p (by simp [h])
      · exact of q hq p (by simp [h])
      · exact Nat.ne_of_gt (fr' q (by simp [hq]) p h)
      · exact of q hq p (by simp [h])
      · exact of q hq p (by simp [h])
    · simp only [List.mem_append] at hp ⊢
      rcases hp with h | h | h | h | h | h <;> simp [h]⟩
theorem Ends.text {f : Addr} {vs : List Value} {nd nu : Nat} {x : Str} (D : ∀ R, Ext T R → Ext c.N R → Does w f vs nd nu R (WOut R x)) (hdp : c.dp + nd < recursionLimit) (hun : c.un + nu < cLine)
    (k : ∀ t, K (.str x t) T) : Ends c (PySem.call (.ref f) vs) ml T K :=
  ⟨fun s mm Q E S q => by
    obtain ⟨⟨S', CL, F, N, sp, cp, lk, of⟩, S1, S2, S3⟩ := S
    exact Does.use (D (c.ex ++ (S' ++ (CL ++ (T ++ c.N)))) (fun p hp => by simp [hp]) (fun p hp => by simp [hp])) c.below F c.inn N c.top c.fn hdp hun fun t h' tk' F' N' => q _ T h' tk' ⟨⟨S', CL, F', N', sp, cp, lk, of⟩, S1, S2, S3⟩ (k t)⟩
-- a def's body
noncomputable def tupB (p : Addr × Obj) : Bool := @decide (p.2.cls = .type "tuple") (Classical.propDecidable _)
theorem tupB_not {p : Addr × Obj} (h : tupB p = true) : ¬p.2.cls = .type "list" := fun e => by
  have := @of_decide_eq_true _ (Classical.propDecidable _) h
  rw [e] at this
  exact absurd (Value.type.inj this) (by decide)
theorem tup_filt {T : Led} {a : Addr} {vs : List Value} (h : (a, tup vs) ∈ T) : (a, tup vs) ∈ T.filter tupB := List.mem_filter.mpr ⟨h, @decide_eq_true _ (Classical.propDecidable _) rfl⟩
/-- what a def's end must show -/
structure EndK (P : Led → Value → Prop) (Kr : Value → Led → Prop) : Prop where
  h : ∀ r T, P T r → Kr r T
theorem callX_plainG {w : World} {f : Addr} {name qual : Str} {params : Arguments} {body : List Stmt} {scope : Scope} {dV kV doc pm cdv ct oc : Value} {an od : Option Addr} {osl : Array (Option Value)} {args : List Value} {nd nu : Nat} {N : Led} {P : Led → Value → Prop} {ml0 : Addr → Mp}
    (ho : (pre.heap_1_39 w.params).lookup f = some ⟨oc, od, .func (fnOf name qual params body scope dV kV doc pm an cdv ct), osl⟩) (hcd : codeIn (pre.heap_1_39 w.params) cdv qual = true)
    (hbind : ∀ src, bindArgs (fnOf name qual params body scope dV kV doc pm an cdv ct) { pos := .ref src :: args } = Pure.pure (ml0 src)) (hloc : ∀ src, ((ml0 src).all fun x => decide (scope.names.lookup x.1 = some .local)) = true)
    (hcell : (scope.names.all fun x => decide (x.2 ≠ .cell)) = true) (hco : scope.isCoroutine = false) (hgen : scope.isGenerator = false) (hk : scope.kind = .function) (hnd : 1 ≤ nd) (hP : ∀ T r, P T r → P (T.filter tupB) r)
    (h : ∀ (c : Cx w scope) (src : Addr), c.src = some src → c.N = N → c.ex = [] → c.dp + nd < recursionLimit + 1 → c.un + nu < cLine + 3 → ∀ Kr : Value → Led → Prop, EndK P Kr → EndsS c (execs body c.env) (ml0 src).reverse [] (fun _ _ => False) Kr) : Gen w f args nd nu N P := by
  intro src g d tg td so ns mean mg mb dp un gd cn cs a ccd cl outer A₀ base h₀ L m s Q E B F X NN T hk' hdp hun hret
  have hcell' : ∀ x ∈ scope.names, x.2 ≠ .cell := fun x hx => by simpa using List.all_eq_true.mp hcell x hx
  refine wpAny_call ?_
  refine enter_plain B F X NN T rfl rfl hk' ho hcd (by show dp < recursionLimit; omega) (BindsTo.of_eq (hbind src)) (locs (hloc src)) (fun g' L' h' FG' F' N' B' X' T' l1 l2 => ?_) hco hgen hk hcell'
  let c : Cx w scope := { mean := mean, mg := mg, mb := mb, dp := dp + 1, un := un + 3, gd := gd, cn := qual, a := f, ccd := cdv, cl := [], outer := envX cn cs L a ccd cl :: outer, A₀ := _, base := base, h₀ := g', L := L', src := some src, N := N, ex := [], below := B', inn := X', top := T', fn := hk, lo := fun p hp => l1 p (.tail _ hp), sLo := fun x hx => by cases hx; exact l1 _ (.head _), sNot := fun x hx => by cases hx; exact ns, cLo := fun _ hp => (nomatch hp), cNd := List.nodup_nil, cOk := fun x hx => absurd rfl (hcell' _ (lk_mem hx)) }
  have S0 : Sta c h' _ (ml0 src).reverse [] := ⟨⟨[(src, srcO g d tg td)], [], F', N', ⟨g, d, tg, td, so, rfl⟩, ⟨rfl, fun _ hp => (nomatch hp), fun x v _ hx => absurd rfl (hcell' _ (lk_mem hx))⟩, fun x v hx _ => hx, fun _ hp => (nomatch hp)⟩, ns_nil, fun _ hp => (nomatch hp), fun _ hp => (nomatch hp)⟩
  refine (h c src rfl rfl rfl (by show dp + 1 + nd < _; omega) (by show un + 3 + nu < _; omega) (fun r T => P T r) ⟨fun _ _ h => h⟩).run _ _ _ _ S0 (fun _ _ _ _ _ _ h => h.elim) fun v mm1 ml' T1 h1 tk1 S1 k => ?_
  obtain ⟨⟨S', CL, F1, N1, sp, cp, lk, of⟩, ns1, nc1, ab1⟩ := S1
  obtain ⟨g1, d1, tg1, td1, so1, rfl⟩ := sp
  have hCL : CL = [] := List.map_eq_nil_iff.mp cp.adr
  subst hCL
  have hf : ∀ p, p ∈ T1.filter tupB → p ∈ T1 ∧ @LT.lt Nat _ L' p.1 := fun p hp => by
    obtain ⟨a, b⟩ := List.mem_filter.mp hp
    exact ⟨a, (ab1 p a).resolve_left (tupB_not b)⟩
  refine leaveK_ F1 N1 fun FG NG => hret v _ h1 tk1 FG (news_sub (fun p hp => ?_) NG) ⟨g1, d1, tg1, td1, T1.filter tupB, rfl, so1, fun p hp => ns1 p (hf p hp).1, fun p hp => nc1 p (hf p hp).1, fun p hp => Nat.lt_trans l2 (hf p hp).2, fun q hq p hp => Nat.lt_trans (l1 q (.tail _ hq)) (hf p hp).2, hP _ _ k⟩
  simp only [List.mem_cons, List.mem_append] at hp
  rcases hp with h | h | h
  · simp [h]
  · have := (hf p h).1; simp [this]
  · simp only [List.mem_append]; exact .inr (.inr (.inr (.inr h)))
end
-- Ev2
/-- the names of the top that the defs read -/
def globs : List (Str × Value) := [
  (Str.ofString "_law_expr", .ref 328), (Str.ofString "_law_take", .ref 235), (Str.ofString "_law_one", .ref 242), (Str.ofString "_law_open", .ref 257), (Str.ofString "_law_beside", .ref 278), (Str.ofString "_law_both", .ref 271), (Str.ofString "_law_block", .ref 215), (Str.ofString "_law_struct", .ref 221),
  (Str.ofString "_law_path", .ref 249), (Str.ofString "_law_closed", .ref 264), (Str.ofString "_law_leaf", .ref 285), (Str.ofString "_law_operated", .ref 290), (Str.ofString "_law_assigned", .ref 295), (Str.ofString "_law_looped", .ref 302), (Str.ofString "_law_jump", .ref 309), (Str.ofString "_law_called", .ref 314), (Str.ofString "_law_ahead", .ref 321),
  (Str.ofString "_law_strengths", .ref 213), (Str.ofString "write_expr", .ref 99), (Str.ofString "write_side", .ref 120), (Str.ofString "write_type", .ref 36), (Str.ofString "write_path", .ref 31),
  (Str.ofString "write_angles", .ref 25), (Str.ofString "write_row", .ref 43), (Str.ofString "write_pattern", .ref 48), (Str.ofString "write_part", .ref 53), (Str.ofString "write_literal", .ref 67), (Str.ofString "level_of", .ref 91), (Str.ofString "written", .ref 106), (Str.ofString "write_ahead", .ref 113), (Str.ofString "write_operated", .ref 127), (Str.ofString "write_list", .ref 132), (Str.ofString "write_behind", .ref 137), (Str.ofString "write_gathered", .ref 142), (Str.ofString "write_jump", .ref 149), (Str.ofString "write_condition", .ref 156), (Str.ofString "write_block_like", .ref 163), (Str.ofString "write_bound", .ref 170), (Str.ofString "write_if", .ref 177), (Str.ofString "write_rows", .ref 189), (Str.ofString "write_block", .ref 199), (Str.ofString "LEVELS", .ref 15), (Str.ofString "BLOCKS", .ref 17), (Str.ofString "JUMPS", .ref 18), (Str.ofString "WHOLE", .int 0 244), (Str.ofString "UNARY", .int 11 248), (Str.ofString "POSTFIX", .int 12 250), (Str.ofString "COMPARED", .int 3 252), (Str.ofString "CAST", .int 10 246)]
def blts : List (Str × Value) := [(Str.ofString "range", .type "range"), (Str.ofString "int", .type "int"), (Str.ofString "tuple", .type "tuple"), (Str.ofString "str", .type "str"), (Str.ofString "len", .builtin "len"), (Str.ofString "list", .type "list")]
def GlobV (w : World) (x : Str) (v : Value) : Prop := nsIn (pre.heap_1_39 w.params) mainGlobals x = some (some v) ∨ (nsIn (pre.heap_1_39 w.params) mainGlobals x = some none ∧ bootBuiltins x = some v ∧ x ≠ "__name__")
theorem globs_ok (w : World) : ∀ p ∈ globs, nsIn (pre.heap_1_39 w.params) mainGlobals p.1 = some (some p.2) := by
  intro p hp
  simp only [globs, List.mem_cons, List.mem_nil_iff, or_false] at hp
  rcases hp with rfl | rfl | rfl | rfl | rfl | rfl | rfl | rfl | rfl | rfl | rfl | rfl | rfl | rfl | rfl | rfl | rfl | rfl | rfl | rfl | rfl | rfl | rfl | rfl | rfl | rfl | rfl | rfl | rfl | rfl | rfl | rfl | rfl | rfl | rfl | rfl | rfl | rfl | rfl | rfl | rfl | rfl | rfl | rfl | rfl | rfl | rfl | rfl | rfl <;> kernel_rfl
theorem blts_ok (w : World) : ∀ p ∈ blts, nsIn (pre.heap_1_39 w.params) mainGlobals p.1 = some none ∧ bootBuiltins p.1 = some p.2 ∧ p.1 ≠ "__name__" := by
  intro p hp
  simp only [blts, List.mem_cons, List.mem_nil_iff, or_false] at hp
  rcases hp with rfl | rfl | rfl | rfl | rfl | rfl
  · exact ⟨by kernel_rfl, (show bootBuiltins (Str.ofString "range") = some (.type "range") from by boot_by_name), by decide⟩
  · exact ⟨by kernel_rfl, (show bootBuiltins (Str.ofString "int") = some (.type "int") from by boot_by_name), by decide⟩
  · exact ⟨by kernel_rfl, (show bootBuiltins (Str.ofString "tuple") = some (.type "tuple") from by boot_by_name), by decide⟩
  · exact ⟨by kernel_rfl, (show bootBuiltins (Str.ofString "str") = some (.type "str") from by boot_by_name), by decide⟩
  · exact ⟨by kernel_rfl, (show bootBuiltins (Str.ofString "len") = some (.builtin "len") from by boot_by_name), by decide⟩
  · exact ⟨by kernel_rfl, (show bootBuiltins (Str.ofString "list") = some (.type "list") from by boot_by_name), by decide⟩
def glob (x : Str) : Option Value := match globs.lookup x with
  | some v => some v
  | none => blts.lookup x
section
variable {w : World} {cs : Scope}
/-- reading a name in a def -/
def rdF (cs : Scope) (ml : Mp) (x : Str) : Option Value := match x == Str.ofString "__debug__" with
  | true => none
  | false => match cs.names.lookup x with
    | some .local => ml.lookup x
    | some .cell => ml.lookup x
    | some .globalImplicit => glob x
    | _ => none
def rlb (cs scope : Scope) : List (Str × NameKind) := scope.names.map fun (n, k) => if (k == .free && cs.kind == .function && cs.names.lookup n == some .cell) then (n, .cell) else (n, k)
/-- reading a name in a comprehension's element: y is its variable -/
def rdC (cs scope : Scope) (y : Str) (v : Value) (ml : Mp) (x : Str) : Option Value := match x == Str.ofString "__debug__" with
  | true => none
  | false => match x == y with
    | true => some v
    | false => match (rlb cs scope).lookup x with
      | some .cell => (match cs.names.lookup x with | some .cell => ml.lookup x | _ => none)
      | some .globalImplicit => glob x
      | _ => none
structure View (c : Cx w cs) (rd : Mp → Str → Option Value) where
  env : Env
  read : ∀ {mm : Str → Option Value} {ml : Mp} {T : Led} {x : Str} {v : Value} {pos : Pos} {s : Shared} {Q : Value → Shared → Prop} {E : Value → Shared → Prop}, Sta c s.heap mm ml T → rd ml x = some v → Q v s → wpAny (model PG w) c.A (eval (.Name x pos) env) Q E s
noncomputable def wpN (rd : Mp → Str → Option Value) (x : Str) (ml : Mp) (T : Led) (K : Value → Led → Prop) : Prop :=
  match rd ml x with
  | some v => K v T
  | none => False
noncomputable def wpEs (g : PySem.Expr → Led → (Value → Led → Prop) → Prop) : List PySem.Expr → Led → (List Value → Led → Prop) → Prop
  | [], T, K => K [] T
  | e :: es, T, K => match plain e with
    | true => g e T fun v T1 => wpEs g es T1 fun vs T2 => K (v :: vs) T2
    | false => False
noncomputable def truth (c : Cx w cs) (ml : Mp) (v : Value) (T : Led) (P : Bool → Led → Prop) : Prop := match v with
  | .bool b => P b T
  | v => Ends c (truthy v) ml T P
noncomputable def wpT (c : Cx w cs) (V : Env) (ml : Mp) (g : PySem.Expr → Led → (Value → Led → Prop) → Prop) (t : PySem.Expr) (T : Led) (P : Bool → Led → Prop) : Prop := match t with
  | .Compare l ops rs p => match ops, rs with
    | [op], [r] => (match behindInMarks op r with
      | false => g l T fun a T1 => g r T1 fun b T2 => Ends c (compareOp op a b) ml T2 fun v T3 => truth c ml v T3 P
      | true => False)
    | ops, rs => Ends c (PySem.isTrue (.Compare l ops rs p) V (eval (.Compare l ops rs p) V)) ml T P
  | .Name x p => g (.Name x p) T fun v T1 => truth c ml v T1 P
  | t => Ends c (PySem.isTrue t V (eval t V)) ml T P
/-- the callee is a name or an item -/
def callee : PySem.Expr → Bool
  | .Name .. => true
  | .Subscript .. => true
  | _ => false
noncomputable def wpK (c : Cx w cs) (x : Const) (k : Nat) (p : Pos) (V : Env) (ml : Mp) (T : Led) (K : Value → Led → Prop) : Prop := match x with
  | .str x => ∀ t, K (.str x t) T
  | .int x => ∀ t, K (.int x t) T
  | .bool x => K (.bool x) T
  | .none => K .none T
  | x => Ends c (eval (.Constant x k p) V) ml T K
noncomputable def wpE {c : Cx w cs} {rd : Mp → Str → Option Value} (V : View c rd) (ml : Mp) : Nat → PySem.Expr → Led → (Value → Led → Prop) → Prop
  | 0, e, T, K => Ends c (eval e V.env) ml T K
  | n + 1, e, T, K => match e with
    | .Constant x k p => wpK c x k p V.env ml T K
    | .Name x _ => wpN rd x ml T K
    | .BinOp l op r _ => wpE V ml n l T fun a T1 => wpE V ml n r T1 fun b T2 => Ends c (binaryOp op a b) ml T2 K
    | .UnaryOp op l _ => wpE V ml n l T fun a T1 => Ends c (unaryOp op a) ml T1 K
    | .Subscript v i _ => wpE V ml n v T fun a T1 => wpE V ml n i T1 fun b T2 => Ends c (subscriptTail v i a b) ml T2 K
    | .Tuple es _ _ => wpEs (wpE V ml n) es T fun vs T1 => Ends c (newTuple vs) ml T1 K
    | .List es _ => wpEs (wpE V ml n) es T fun vs T1 => Ends c (newList vs) ml T1 K
    | .IfExp t a b _ => wpT c V.env ml (wpE V ml n) t T fun q T1 => bcase q (wpE V ml n a T1 K) (wpE V ml n b T1 K)
    | .Compare l ops rs p => (match ops, rs with
      | [op], [r] => (match behindInMarks op r with
        | false => wpE V ml n l T fun a T1 => wpE V ml n r T1 fun b T2 => Ends c (compareOp op a b) ml T2 K
        | true => False)
      | ops, rs => Ends c (eval (.Compare l ops rs p) V.env) ml T K)
    | .Call f as ks p => (match as, ks with
      | e :: es, [] => (match callee f && (e :: es).all plain with
        | true => wpE V ml n f T fun fv T0 => (match callOk fv with
          | true => wpEs (wpE V ml n) (e :: es) T0 fun vs T1 => Ends c (PySem.call fv vs) ml T1 K
          | false => False)
        | false => Ends c (eval (.Call f (e :: es) [] p) V.env) ml T K)
      | [], [] => (match callee f with
        | true => wpE V ml n f T fun fv T0 => (match callOk0 fv with
          | true => Ends c (PySem.call fv []) ml T0 K
          | false => False)
        | false => Ends c (eval (.Call f [] [] p) V.env) ml T K)
      | as, ks => Ends c (eval (.Call f as ks p) V.env) ml T K)
    | e => Ends c (eval e V.env) ml T K
section
variable {c : Cx w cs}
theorem glob_ok {x : Str} {v : Value} (h : glob x = some v) : GlobV w x v := by
  unfold glob at h
  rcases hv : globs.lookup x with _ | u
  · rw [hv] at h
    exact .inr (blts_ok w _ (lk_mem h))
  · rw [hv] at h
    cases h
    exact .inl (globs_ok w _ (lk_mem hv))
@[reducible] noncomputable def Cx.view (c : Cx w cs) : View c (rdF cs) := ⟨c.env, by
  intro mm ml T x v pos s Q E S h q
  unfold rdF at h
  cases hd : x == Str.ofString "__debug__" with
  | true => rw [hd] at h; cases h
  | false =>
    rw [hd] at h
    simp only at h
    rcases hk : cs.names.lookup x with _ | k
    · rw [hk] at h; cases h
    · rw [hk] at h
      obtain ⟨S', CL, F, N, sp, cp, lk, of⟩ := S.ex
      cases k with
      | «local» => exact nameX_L F (lk x v h hk) q c.fn hk hd
      | cell =>
        obtain ⟨a, o, ha, hm, ho⟩ := cp.val x v h hk
        exact nameX_C (news_sub (fun p hp => List.mem_append.mpr (.inr (List.mem_append.mpr (.inr (List.mem_append.mpr (.inl hp)))))) N) ha hm ho q c.fn hk hd
      | globalImplicit =>
        rcases glob_ok (w := w) h with g | ⟨g1, g2, g3⟩
        · exact nameX_K F c.inn ⟨c.top.g, c.top.b, c.top.nolimit, c.top.builtins, c.top.free⟩ g q c.fn hk hd
        · exact nameX_B F c.inn ⟨c.top.g, c.top.b, c.top.nolimit, c.top.builtins, c.top.free⟩ g1 g2 g3 q c.fn hk hd
      | _ => cases h⟩
end
def isComp : PySem.Expr → Bool
  | .ListComp .. => true
  | .SetComp .. => true
  | .DictComp .. => true
  | _ => false
/-- the names of a swap, or none -/
def Swp (c : Cx w cs) (es : List PySem.Expr) (k : Nat) (tp : Pos) (e : PySem.Expr) (P : Option (List Str) → Prop) : Prop := ∃ o, swappedStores [.Tuple es k tp] e c.env = Pure.pure o ∧ P o
theorem Swp.mk {c : Cx w cs} {es : List PySem.Expr} {k : Nat} {tp : Pos} {e : PySem.Expr} {P : Option (List Str) → Prop} (o : Option (List Str)) (h : swappedStores [.Tuple es k tp] e c.env = Pure.pure o) (p : P o) : Swp c es k tp e P := ⟨o, h, p⟩
/-- the names' values, bound by a letter -/
structure MlK (P : Mp → Prop) (m : Mp) : Prop where
  h : P m
theorem MlK.of {P : Mp → Prop} {m : Mp} (h : let m' := m; P m') : MlK P m := ⟨h⟩
theorem Ends.letK {w : World} {cs : Scope} {c : Cx w cs} {α : Type} {t : Sem α} {ml : Mp} {T : Led} {K : α → Led → Prop} (h : let K' := K; Ends c t ml T K') : Ends c t ml T K := h
/-- one statement; g: what a block of an if shows -/
noncomputable def wpSt (c : Cx w cs) (g : List Stmt → Mp → Led → (Mp → Led → Prop) → Prop) (st : Stmt) (ml : Mp) (T : Led) (Kn : Mp → Led → Prop) (Kr : Value → Led → Prop) : Prop := match st with
  | .Return v p => (match v with
    | some e => wpE c.view ml 30 e T Kr
    | none => EndsS c (exec (.Return none p) c.env) ml T Kn Kr)
  | .Assign ts e pos => (match ts with
    | [t] => (match t with
      | .Name x p => (match isComp e, kept cs x with
        | false, true => wpE c.view ml 30 e T fun v T1 => MlK (fun ml' => Kn ml' T1) ((x, v) :: ml)
        | _, _ => EndsS c (exec (.Assign [.Name x p] e pos) c.env) ml T (fun ml' T' => MlK (fun ml' => Kn ml' T') ml') Kr)
      | .Tuple es k tp => (match isComp e with
        | false => Swp c es k tp e fun o => wpE c.view ml 30 e T fun v T' => Unp c o es v ml T' fun ml' T' => MlK (fun ml' => Kn ml' T') ml'
        | true => False)
      | _ => EndsS c (exec (.Assign ts e pos) c.env) ml T Kn Kr)
    | ts => EndsS c (exec (.Assign ts e pos) c.env) ml T Kn Kr)
  | .If t a b _ => wpT c c.env ml (wpE c.view ml 30) t T fun q T1 => bcase q (g a ml T1 Kn) (g b ml T1 Kn)
  | st => EndsS c (exec st c.env) ml T Kn Kr
noncomputable def wpS (c : Cx w cs) : Nat → List Stmt → Mp → Led → (Mp → Led → Prop) → (Value → Led → Prop) → Prop
  | 0, b, ml, T, Kn, Kr => EndsS c (execs b c.env) ml T Kn Kr
  | _ + 1, [], ml, T, Kn, _ => Kn ml T
  | n + 1, st :: rest, ml, T, Kn, Kr => wpSt c (fun b ml T Kn => wpS c n b ml T Kn Kr) st ml T (fun ml' T' => wpS c n rest ml' T' Kn Kr) Kr
variable {c : Cx w cs} {ml : Mp}
variable {rd : Mp → Str → Option Value} {V : View c rd}
theorem wpN_ok {x : Str} {pos : Pos} {T : Led} {K : Value → Led → Prop} (h : wpN rd x ml T K) : Ends c (eval (.Name x pos) V.env) ml T K := by
  unfold wpN at h
  rcases hv : rd ml x with _ | v
  · rw [hv] at h; exact h.elim
  · rw [hv] at h
    exact ⟨fun s mm Q E S q => V.read S hv (q v T s.heap s.toks S h)⟩
theorem truth_ok {v : Value} {T : Led} {P : Bool → Led → Prop} (h : truth c ml v T P) : Ends c (truthy v) ml T P := by
  cases v <;> first | exact Ends.truthB h | exact h
theorem wpEs_ok {g : PySem.Expr → Led → (Value → Led → Prop) → Prop} {pos : Pos} (hg : ∀ e T K, g e T K → Ends c (eval e V.env) ml T K) : ∀ (es : List PySem.Expr) (T : Led) (K : List Value → Led → Prop), wpEs g es T K → Ends c (spliced (backTo pos (starEach es V.env))) ml T K
  | [], T, K, h => Ends.none' h
  | e :: es, T, K, h => by
    unfold wpEs at h
    cases hp : plain e with
    | false => rw [hp] at h; exact h.elim
    | true =>
      rw [hp] at h
      exact Ends.more hp ((hg _ _ _ h).mono fun v T1 h1 => wpEs_ok hg es T1 _ h1)
theorem wpT_ok {g : PySem.Expr → Led → (Value → Led → Prop) → Prop} (hg : ∀ e T K, g e T K → Ends c (eval e V.env) ml T K) {t : PySem.Expr} {T : Led} {P : Bool → Led → Prop} (h : wpT c V.env ml g t T P) : Ends c (PySem.isTrue t V.env (eval t V.env)) ml T P := by
  cases t with
  | Compare l ops rs p =>
    cases ops with
    | nil => exact h
    | cons op ops =>
      cases ops with
      | cons _ _ => exact h
      | nil =>
        cases rs with
        | nil => exact h
        | cons r rs =>
          cases rs with
          | cons _ _ => exact h
          | nil =>
            replace h : (match behindInMarks op r with
              | false => g l T fun a T1 => g r T1 fun b T2 => Ends c (compareOp op a b) ml T2 fun v T3 => truth c ml v T3 P
              | true => False) := h
            cases hb : behindInMarks op r with
            | true => rw [hb] at h; exact h.elim
            | false =>
              rw [hb] at h
              exact Ends.testCmp hb ((hg _ _ _ h).mono fun _ _ h => (hg _ _ _ h).mono fun _ _ h => h.mono fun _ _ h => truth_ok h)
  | Name x p => exact Ends.test rfl ((hg _ _ _ (show g (.Name x p) T _ from h)).mono fun _ _ h => truth_ok h)
  | _ => exact h
theorem wpE_ok : ∀ (n : Nat) (e : PySem.Expr) (T : Led) (K : Value → Led → Prop), wpE V ml n e T K → Ends c (eval e V.env) ml T K := by
  intro n
  induction n with
  | zero => exact fun _ _ _ h => h
  | succ n ih =>
    intro e T K h
    have ihs := fun es pos (T : Led) (K : List Value → Led → Prop) (h : wpEs (wpE V ml n) es T K) => wpEs_ok (V := V) (pos := pos) ih es T K h
    cases e with
    | Constant x k p => cases x <;> first | exact Ends.str h | exact Ends.int h | exact Ends.bool h | exact Ends.none h | exact h
    | Name x p => exact wpN_ok h
    | BinOp l op r p => exact Ends.binOp ((ih l T _ h).mono fun _ _ h => ih _ _ _ h)
    | UnaryOp op l p => exact Ends.unOp (ih l T _ h)
    | Subscript v i p => exact Ends.sub ((ih v T _ h).mono fun _ _ h => ih _ _ _ h)
    | Tuple es k p => exact Ends.tuple (ihs es _ T _ h)
    | List es p => exact Ends.list (ihs es _ T _ h)
    | IfExp t a b p => exact Ends.ifExp ((wpT_ok ih (show wpT c V.env ml (wpE V ml n) t T _ from h)).mono fun _ _ h => ⟨fun e => ih _ _ _ (h.1 e), fun e => ih _ _ _ (h.2 e)⟩)
    | Compare l ops rs p =>
      cases ops with
      | nil => exact h
      | cons op ops =>
        cases ops with
        | cons _ _ => exact h
        | nil =>
          cases rs with
          | nil => exact h
          | cons r rs =>
            cases rs with
            | cons _ _ => exact h
            | nil =>
              replace h : (match behindInMarks op r with
                | false => wpE V ml n l T fun a T1 => wpE V ml n r T1 fun b T2 => Ends c (compareOp op a b) ml T2 K
                | true => False) := h
              cases hb : behindInMarks op r with
              | true => rw [hb] at h; exact h.elim
              | false =>
                rw [hb] at h
                exact Ends.cmp hb ((ih _ _ _ h).mono fun _ _ h => ih _ _ _ h)
    | Call f as ks p =>
      cases ks with
      | cons _ _ => cases as <;> exact h
      | nil =>
        cases as with
        | nil =>
          replace h : (match callee f with
            | true => wpE V ml n f T fun fv T0 => (match callOk0 fv with
              | true => Ends c (PySem.call fv []) ml T0 K
              | false => False)
            | false => Ends c (eval (.Call f [] [] p) V.env) ml T K) := h
          cases hc : callee f with
          | false => rw [hc] at h; exact h
          | true =>
            rw [hc] at h
            refine Ends.call0 ?_ ((ih _ _ _ h).mono fun fv T0 h => ?_)
            · cases f <;> first | rfl | exact Bool.noConfusion hc
            · cases hv : callOk0 fv with
              | false => rw [hv] at h; exact h.elim
              | true => rw [hv] at h; exact ⟨rfl, h⟩
        | cons e es =>
          replace h : (match callee f && (e :: es).all plain with
            | true => wpE V ml n f T fun fv T0 => (match callOk fv with
              | true => wpEs (wpE V ml n) (e :: es) T0 fun vs T1 => Ends c (PySem.call fv vs) ml T1 K
              | false => False)
            | false => Ends c (eval (.Call f (e :: es) [] p) V.env) ml T K) := h
          cases hc : callee f && (e :: es).all plain with
          | false => rw [hc] at h; exact h
          | true =>
            rw [hc] at h
            rw [Bool.and_eq_true] at hc
            refine Ends.call ?_ hc.2 ((ih _ _ _ h).mono fun fv T0 h => ?_)
            · have hc := hc.1
              cases f <;> first | rfl | exact Bool.noConfusion hc
            · cases hv : callOk fv with
              | false => rw [hv] at h; exact h.elim
              | true => rw [hv] at h; exact ⟨rfl, ihs _ _ _ _ h⟩
    | _ => exact h
theorem swaps_plain {e : PySem.Expr} {t : Option PySem.Expr} {k : Nat} {env : Env} (h : isComp e = false) : swapsWith e t k env = Pure.pure false := by
  cases e <;> first | rfl | exact Bool.noConfusion h
theorem EndsS.mono {t : Sem Flow} {T : Led} {Kn Kn' : Mp → Led → Prop} {Kr : Value → Led → Prop} (h : EndsS c t ml T Kn Kr) (k : ∀ ml T, Kn ml T → Kn' ml T) : EndsS c t ml T Kn' Kr :=
  ⟨fun s mm Q E S qn qr => h.run s mm Q E S (fun mm' ml' T' h' tk' S' p => qn mm' ml' T' h' tk' S' (k _ _ p)) qr⟩
theorem wpSt_ok {g : List Stmt → Mp → Led → (Mp → Led → Prop) → Prop} {st : Stmt} {T : Led} {Kn : Mp → Led → Prop} {Kr : Value → Led → Prop} (hg : ∀ b ml T Kn, g b ml T Kn → EndsS c (execs b c.env) ml T Kn Kr) (h : wpSt c g st ml T Kn Kr) : EndsS c (exec st c.env) ml T Kn Kr := by
  cases st with
  | Return v p =>
    cases v with
    | some e => exact EndsS.ret (wpE_ok _ _ _ _ h)
    | none => exact h
  | Assign ts e pos =>
    cases ts with
    | nil => exact h
    | cons t ts =>
      cases ts with
      | cons _ _ => exact h
      | nil =>
        cases t with
        | Name x p =>
          replace h : (match isComp e, kept cs x with
            | false, true => wpE c.view ml 30 e T fun v T1 => MlK (fun ml' => Kn ml' T1) ((x, v) :: ml)
            | _, _ => EndsS c (exec (.Assign [.Name x p] e pos) c.env) ml T (fun ml' T' => MlK (fun ml' => Kn ml' T') ml') Kr) := h
          cases h1 : isComp e with
          | true => rw [h1] at h; exact EndsS.mono h fun _ _ k => k.h
          | false =>
            cases h2 : kept cs x with
            | false => rw [h1, h2] at h; exact EndsS.mono h fun _ _ k => k.h
            | true =>
              rw [h1, h2] at h
              exact EndsS.assign (swaps_plain h1) h2 ((wpE_ok _ _ _ _ h).mono fun _ _ h => h.h)
        | Tuple es k tp =>
          replace h : (match isComp e with
            | false => Swp c es k tp e fun o => wpE c.view ml 30 e T fun v T' => Unp c o es v ml T' fun ml' T' => MlK (fun ml' => Kn ml' T') ml'
            | true => False) := h
          cases h1 : isComp e with
          | true => rw [h1] at h; exact h.elim
          | false =>
            rw [h1] at h
            obtain ⟨o, hw, h⟩ := h
            exact EndsS.assignTup (by unfold swapsWithSole; exact swaps_plain h1) o hw ((wpE_ok _ _ _ _ h).mono fun v T' h => by
              obtain ⟨a, vs, ml', e, hm, hb, k⟩ := h
              exact ⟨a, vs, ml', e, hm, hb, k.h⟩)
        | _ => exact h
  | If t a b p => exact EndsS.if_ ((wpT_ok (wpE_ok _) (show wpT c c.env ml (wpE c.view ml 30) t T _ from h)).mono fun q T1 h => ⟨fun e => hg _ _ _ _ (h.1 e), fun e => hg _ _ _ _ (h.2 e)⟩)
  | _ => exact h
theorem wpS_ok0 : ∀ (n : Nat) (b : List Stmt) (ml : Mp) (T : Led) (Kn : Mp → Led → Prop) (Kr : Value → Led → Prop), wpS c n b ml T Kn Kr → EndsS c (execs b c.env) ml T Kn Kr := by
  intro n
  induction n with
  | zero => exact fun _ _ _ _ _ h => h
  | succ n ih =>
    intro b ml T Kn Kr h
    cases b with
    | nil => exact EndsS.nil h
    | cons st rest => exact EndsS.cons (EndsS.mono (wpSt_ok (fun b ml T Kn h => ih b ml T Kn Kr h) h) fun _ _ k => ih _ _ _ _ _ k)
/-- one statement, what is behind it left for later -/
theorem EndsS.step {st : Stmt} {rest : List Stmt} {T : Led} {Kn : Mp → Led → Prop} {Kr : Value → Led → Prop} (h : wpSt c (fun b ml T Kn => wpS c 20 b ml T Kn Kr) st ml T (fun ml' T' => EndsS c (execs rest c.env) ml' T' Kn Kr) Kr) : EndsS c (execs (st :: rest) c.env) ml T Kn Kr :=
  EndsS.cons (wpSt_ok (fun b ml T Kn h => wpS_ok0 20 b ml T Kn Kr h) h)
/-- one statement, its ends brought together -/
theorem EndsS.cut (P : Mp → Led → Prop) {st : Stmt} {rest : List Stmt} {T : Led} {Kn : Mp → Led → Prop} {Kr : Value → Led → Prop} (h : wpSt c (fun b ml T Kn => wpS c 20 b ml T Kn Kr) st ml T P Kr) (k : ∀ ml' T', P ml' T' → EndsS c (execs rest c.env) ml' T' Kn Kr) : EndsS c (execs (st :: rest) c.env) ml T Kn Kr :=
  EndsS.cons (EndsS.mono (wpSt_ok (fun b ml T Kn h => wpS_ok0 20 b ml T Kn Kr h) h) k)
theorem EndsS.cutAt (P : Mp → Led → Mp → Led → Prop) {st : Stmt} {rest : List Stmt} {T : Led} {Kn : Mp → Led → Prop} {Kr : Value → Led → Prop} (h : wpSt c (fun b ml T Kn => wpS c 20 b ml T Kn Kr) st ml T (P ml T) Kr) (k : ∀ ml' T', P ml T ml' T' → EndsS c (execs rest c.env) ml' T' Kn Kr) : EndsS c (execs (st :: rest) c.env) ml T Kn Kr := EndsS.cut (P ml T) h k
end
-- Ev4
def clo (cl : List (Str × Addr)) : List (Str × NameKind) → List (Str × Addr) → List (Str × Addr)
  | [], acc => acc
  | (n, k) :: r, acc => if (k == .free) = true then (match cl.lookup n with | some a => clo cl r ((n, a) :: acc) | none => clo cl r acc) else clo cl r acc
theorem clo_keep {cl : List (Str × Addr)} {n : Str} {a : Addr} (ha : cl.lookup n = some a) : ∀ (names : List (Str × NameKind)) (acc : List (Str × Addr)), (acc.lookup n = some a ∨ (n, NameKind.free) ∈ names ∧ (acc.lookup n = none ∨ acc.lookup n = some a)) → (clo cl names acc).lookup n = some a
  | [], acc, h => by
    rcases h with h | ⟨h, _⟩
    · exact h
    · cases h
  | (m, k) :: r, acc, h => by
    unfold clo
    split
    · rename_i hk
      have hk' : k = .free := by simpa using hk
      rcases hm : cl.lookup m with _ | b
      · simp only
        refine clo_keep ha r acc ?_
        rcases h with h | ⟨h, h'⟩
        · exact .inl h
        · rcases List.mem_cons.mp h with e | e
          · cases e; rw [ha] at hm; cases hm
          · exact .inr ⟨e, h'⟩
      · simp only
        refine clo_keep ha r _ ?_
        by_cases e : n = m
        · subst e
          rw [ha] at hm
          cases hm
          exact .inl (by rw [List.lookup_cons, beq_self_eq_true])
        · have e' : (n == m) = false := by simpa using e
          rw [List.lookup_cons, e']
          rcases h with h | ⟨h, h'⟩
          · exact .inl h
          · rcases List.mem_cons.mp h with q | q
            · cases q; exact absurd rfl e
            · exact .inr ⟨q, h'⟩
    · rename_i hk
      refine clo_keep ha r acc ?_
      rcases h with h | ⟨h, h'⟩
      · exact .inl h
      · rcases List.mem_cons.mp h with q | q
        · cases q; exact absurd rfl hk
        · exact .inr ⟨q, h'⟩
theorem closure_ok {env : Env} {scope : Scope} (h : ∀ n, (n, NameKind.free) ∈ scope.names → ∃ a, env.cells.lookup n = some a) : closureFor scope env = Pure.pure (clo env.cells scope.names []) := by
  have key : ∀ (names : List (Str × NameKind)) (acc : List (Str × Addr)), (∀ n, (n, NameKind.free) ∈ names → ∃ a, env.cells.lookup n = some a) →
      (forIn names acc fun (x : Str × NameKind) (r : List (Str × Addr)) => (match x with
        | (name, kind) => if (kind == NameKind.free) = true then (do
            let a ← cellOf env name
            pure (ForInStep.yield ((name, a) :: r)) : Sem _)
          else pure (ForInStep.yield r))) = (Pure.pure (clo env.cells names acc) : Sem (List (Str × Addr))) := by
    intro names
    induction names with
    | nil => intro acc _; rfl
    | cons p r ih =>
      intro acc h
      obtain ⟨n, k⟩ := p
      have h' : ∀ n, (n, NameKind.free) ∈ r → ∃ a, env.cells.lookup n = some a := fun n hn => h n (.tail _ hn)
      rw [List.forIn_cons]
      unfold clo
      by_cases hk : (k == NameKind.free) = true
      · have hk' : k = .free := by simpa using hk
        subst hk'
        obtain ⟨a, ha⟩ := h n (.head _)
        simp only [hk, if_true]
        rw [ha]
        unfold cellOf
        rw [ha]
        exact ih _ h'
      · simp only [hk, if_false]
        exact ih _ h'
  unfold closureFor
  have := key scope.names [] h
  show (do let s ← forIn scope.names ([] : List (Str × Addr)) _; pure s) = _
  exact (congrArg (fun t : Sem (List (Str × Addr)) => t >>= fun s => Pure.pure s) this)
section
variable {w : World} {cs : Scope}
abbrev rngO (n : Int) (t u v : Tok) : Obj := { cls := .type "range", data := .fields #[.int 0 t, .int n u, .int 1 v] }
abbrev seqO (its : List Value) (n : Nat) : Obj := { cls := .type "list", data := .seq its.toArray n }
/-- the turns of a comprehension: k are left -/
noncomputable def wpC (c : Cx w cs) (ml : Mp) (scope : Scope) (x : Str) (elt : PySem.Expr) (Sp : Led → Prop) (P : Nat → Value → Prop) (K : List Value → Led → Prop) : Nat → Nat → List Value → Led → Prop
  | 0, _, ys, T => K ys T
  | k + 1, i, ys, T => ∀ v, P i v → ∀ (c' : Cx w cs) (V : View c' (rdC cs scope x v)), c'.src = c.src → c'.N = c.N → c'.dp = c.dp → c'.un = c.un → wpE V ml 30 elt T fun y T' => Sp T' ∧ wpC c ml scope x elt Sp P K k (i + 1) (ys ++ [y]) T'
variable {c : Cx w cs} {ml : Mp} {T : Led}
theorem rlb_cell {scope : Scope} (h1 : ∀ y ∈ scope.names, y.2 ≠ .cell) {x : Str} (h : (rlb cs scope).lookup x = some .cell) : (x, NameKind.free) ∈ scope.names := by
  have hm := lk_mem h
  unfold rlb at hm
  obtain ⟨⟨n, k⟩, hp, e⟩ := List.mem_map.mp hm
  simp only at e
  split at e
  · rename_i hc
    cases e
    have : k = .free := by
      simp only [Bool.and_eq_true] at hc
      simpa using hc.1.1
    exact this ▸ hp
  · cases e
    exact absurd rfl (h1 _ hp)
noncomputable def compView (c : Cx w cs) (c' : Cx w cs) {scope : Scope} {x : Str} {v : Value} {cl' : List (Str × Addr)} {C : Addr} {oC : Obj} {m₂ : Str → Option Value} (h1 : ∀ y ∈ scope.names, y.2 ≠ .cell) (h2 : scope.kind = .function) (h4 : scope.names.lookup x = some .local) (hfo : ∀ n, (n, NameKind.free) ∈ scope.names → cl'.lookup n = c.cl.lookup n)
    (hC : (C, oC) ∈ c'.ex) (hN : LCg.NsObj oC m₂) (hx : m₂ x = some v) (e1 : c'.cl = c.cl) (e2 : c'.h₀ = c.h₀) (e3 : c'.L = c.L) : View c' (rdC cs scope x v) := ⟨compEnvC scope cl' C c.env, by
  intro mm ml T y u pos s Q E S h q
  unfold rdC at h
  obtain ⟨S', CL, F, N, sp, cp, lk, of⟩ := S.ex
  cases hd : y == Str.ofString "__debug__" with
  | true => rw [hd] at h; cases h
  | false =>
    rw [hd] at h
    simp only at h
    cases hy : y == x with
    | true =>
      rw [hy] at h
      cases h
      have : y = x := by simpa using hy
      subst this
      exact LCgL.ld_own N (List.mem_append.mpr (.inl hC)) hN hx q h2 (lookup_relabel_local h4) hd
    | false =>
      rw [hy] at h
      simp only at h
      rcases hk : (rlb cs scope).lookup y with _ | k
      · rw [hk] at h; cases h
      · rw [hk] at h
        cases k with
        | cell =>
          simp only at h
          rcases hk2 : cs.names.lookup y with _ | k2
          · rw [hk2] at h; cases h
          · rw [hk2] at h
            cases k2 with
            | cell =>
              obtain ⟨a, o, ha, hm, ho⟩ := cp.val y u h hk2
              rw [e1, ← hfo y (rlb_cell h1 hk)] at ha
              exact lcf_cell N ha (List.mem_append.mpr (.inr (List.mem_append.mpr (.inr (List.mem_append.mpr (.inl hm)))))) ho q h2 hk hd
            | _ => cases h
        | globalImplicit =>
          rcases glob_ok (w := w) h with g | ⟨g1, g2, g3⟩
          · exact LCgL.ld_global F c'.inn c'.top g q rfl h2 hk hd
          · exact LCgL.ld_built F c'.inn c'.top g1 g2 g3 q rfl rfl h2 hk hd
        | _ => cases h⟩
theorem comp_rest {scope : Scope} {x : Str} {elt : PySem.Expr} {cl' : List (Str × Addr)} (h1 : ∀ y ∈ scope.names, y.2 ≠ .cell) (h2 : scope.kind = .function) (h4 : scope.names.lookup x = some .local) (hfo : ∀ n, (n, NameKind.free) ∈ scope.names → cl'.lookup n = c.cl.lookup n)
    {Sp : Led → Prop} {SpL : Led → Prop} (hSp : ∀ S CL T, Sp T → SpL (S ++ (CL ++ (T ++ c.N)))) {P : Nat → Value → Prop} {K : List Value → Led → Prop} {Fin : List Value → Led → Prop} {mm : Str → Option Value} {s0 : Shared} (lk : Lk cs ml mm)
    (hFin : ∀ ys T S CL, SrcPart c.src S → CellPart cs c.cl ml CL → AllNot T → NoCell T → (∀ p ∈ T, p.2.cls = .type "list" ∨ @LT.lt Nat _ c.L p.1) → K ys T → Fin ys (S ++ (CL ++ (T ++ c.N)))) :
    ∀ k i ys T S CL, wpC c ml scope x elt Sp P K k i ys T → SrcPart c.src S → CellPart cs c.cl ml CL → AllNot T → NoCell T → (∀ p ∈ T, p.2.cls = .type "list" ∨ @LT.lt Nat _ c.L p.1) →
      LCg.CompRest PG w c.A c.h₀ c.L mm c.env elt x scope cl' s0 SpL P Fin k i ys (S ++ (CL ++ (T ++ c.N)))
  | 0, i, ys, T, S, CL, h, sp, cp, a, b, d => LCg.CompRest.zero (hFin ys T S CL sp cp a b d h)
  | k + 1, i, ys, T, S, CL, h, sp, cp, a, b, d => LCg.CompRest.succ fun v I oI C oC D m₂ hp tk E' hP hNs hm₂ F N off ne => by
    let c' : Cx w cs := { c with ex := [(I, oI), (C, oC), (D, LCg.lst ys)] }
    have S0 : Sta c' hp mm ml T := ⟨⟨S, CL, F, N, sp, cp, lk, fun q hq p hp => by
      have := LCg.Off3.mem off p hp
      rcases List.mem_cons.mp hq with rfl | hq
      · exact this.1
      · rcases List.mem_cons.mp hq with rfl | hq
        · exact this.2.1
        · rcases List.mem_cons.mp hq with rfl | hq
          · exact this.2.2
          · cases hq⟩, a, b, d⟩
    refine (wpE_ok 30 elt T _ (h v hP c' (compView c c' (cl' := cl') h1 h2 h4 hfo (.tail _ (.head _)) hNs hm₂ rfl rfl rfl) rfl rfl rfl rfl)).run _ _ _ E' S0 fun y T' h' tk' S1 k1 => ?_
    obtain ⟨⟨S', CL', F', N', sp', cp', lk', of'⟩, a', b', d'⟩ := S1
    refine LCg.CompEnd.intro F' N' (S' ++ (CL' ++ (T' ++ c.N))) (fun _ h => h) (LCg.Off3.of fun p hp => ⟨of' _ (.head _) p hp, of' _ (.tail _ (.head _)) p hp, of' _ (.tail _ (.tail _ (.head _))) p hp⟩) (hSp S' CL' T' k1.1) ?_
    exact comp_rest h1 h2 h4 hfo hSp lk hFin k (i + 1) (ys ++ [y]) T' S' CL' k1.2 sp' cp' a' b' d'
theorem range_small {n : Nat} (h : n ≤ 1000) : Builtin.Range.small 0 n 1 = true := by
  have f : ∀ i : Int, 0 ≤ i → i ≤ 1000 → Builtin.Range.rangeFitsLong i = true := fun i h0 h1 => by
    unfold Builtin.Range.rangeFitsLong
    rw [Bool.and_eq_true, decide_eq_true_eq, decide_eq_true_eq]
    constructor <;> omega
  unfold Builtin.Range.small
  rw [rangeSize_one]
  rw [f 0 (by decide) (by decide), f n (by omega) (by omega), f 1 (by decide) (by decide)]
  split
  · rw [f _ (by omega) (by omega)]; simp; exact .inr (f n (by omega) (by omega))
  · rw [f _ (by omega) (by omega)]; simp
/-- what is behind a comprehension: a new list -/
structure CompK (K : Value → Led → Prop) (ys : List Value) (T : Led) : Prop where
  hn : notSrc (seqO ys ys.length) = true
  h : ∀ D T', Ext T T' → (D, seqO ys ys.length) ∈ T' → K (.ref D) T'
/-- what a comprehension goes over: a list or a range -/
def CompS (c : Cx w cs) (ml : Mp) (scope : Scope) (x : Str) (elt : PySem.Expr) (K : List Value → Led → Prop) (xv : Value) (T : Led) : Prop :=
  (∃ a its n, xv = .ref a ∧ Has c T a (seqO its n) ∧ its.length ≤ 1000 ∧ wpC c ml scope x elt (fun T => Has c T a (seqO its n)) (fun i v => its[i]? = some v) K its.length 0 [] T) ∨
  (∃ a n t u v, xv = .ref a ∧ Has c T a (rngO (n : Nat) t u v) ∧ n ≤ 1000 ∧ wpC c ml scope x elt (fun _ => True) (fun i v => ∃ t, v = .int (0 + (i : Int)) t) K n 0 [] T)
theorem CompS.src {scope : Scope} {x : Str} {elt : PySem.Expr} {cl' : List (Str × Addr)} {K : List Value → Led → Prop} (h1 : ∀ y ∈ scope.names, y.2 ≠ .cell) (h2 : scope.kind = .function) (h4 : scope.names.lookup x = some .local) (hfo : ∀ n, (n, NameKind.free) ∈ scope.names → cl'.lookup n = c.cl.lookup n)
    (hx0 : c.ex = []) {xv : Value} {s : Shared} {Fin : Shared → List Value → Led → Prop} {mm : Str → Option Value} {S CL : Led} (F : Fr c.h₀ c.L s.heap mm) (N : News c.h₀ c.L s.heap (c.ex ++ (S ++ (CL ++ (T ++ c.N))))) (sp : SrcPart c.src S) (cp : CellPart cs c.cl ml CL) (lk : Lk cs ml mm) (a : AllNot T) (b : NoCell T) (d : ∀ p ∈ T, p.2.cls = .type "list" ∨ @LT.lt Nat _ c.L p.1)
    (hFin : ∀ h ys T S CL, SrcPart c.src S → CellPart cs c.cl ml CL → AllNot T → NoCell T → (∀ p ∈ T, p.2.cls = .type "list" ∨ @LT.lt Nat _ c.L p.1) → K ys T → Fin { s with heap := h } ys (S ++ (CL ++ (T ++ c.N))))
    (h : CompS c ml scope x elt K xv T) : LCg.CompSrc PG w c.A c.h₀ c.L mm c.env elt x scope cl' Fin xv s := by
  rw [hx0, List.nil_append] at N
  rcases h with ⟨ad, its, n, rfl, hm, hz, hw⟩ | ⟨ad, n, t, u, v, rfl, hm, hz, hw⟩
  · have hm' := hm.mem (X := []) (S := S) (CL := CL)
    exact LCg.CompSrc.ledger (its := its.toArray) (k := n) rfl F N hm' (by rw [List.size_toArray, sizeLine_eq]; omega) fun g => comp_rest h1 h2 h4 hfo (Sp := fun T => Has c T ad (seqO its n)) (fun S CL T h => .inr ⟨seqO its n, (Has.mem h (X := []) (S := S) (CL := CL)), rfl, n, rfl⟩) lk (fun ys T S CL x1 x2 x3 x4 x5 x6 => hFin g ys T S CL x1 x2 x3 x4 x5 x6) _ _ _ _ _ _ (by simpa using hw) sp cp a b d
  · have hm' := hm.mem (X := []) (S := S) (CL := CL)
    exact LCg.CompSrc.range (a := 0) (b := (n : Int)) (n := n) rfl F N (N _ hm').1 (range_small hz) (by rw [rangeSize_one]; split <;> omega) (by rw [sizeLine_eq]; omega) fun g => comp_rest h1 h2 h4 hfo (fun _ _ _ _ => trivial) lk (fun ys T S CL x1 x2 x3 x4 x5 x6 => hFin g ys T S CL x1 x2 x3 x4 x5 x6) _ _ _ _ _ _ hw sp cp a b d
theorem Sta.comp {h : Heap} {mm : Str → Option Value} {S CL : Led} {D : Addr} {ys : List Value} {ml' : Mp} (hx0 : c.ex = []) (F : Fr c.h₀ c.L h mm) (N : News c.h₀ c.L h ((D, LCg.lst ys) :: (S ++ (CL ++ (T ++ c.N))))) (sp : SrcPart c.src S) (cp : CellPart cs c.cl ml' CL) (lk : Lk cs ml' mm)
    (a : AllNot T) (b : NoCell T) (d : ∀ p ∈ T, p.2.cls = .type "list" ∨ @LT.lt Nat _ c.L p.1) (hn : notSrc (seqO ys ys.length) = true) : Sta c h mm ml' ((D, seqO ys ys.length) :: T) :=
  ⟨⟨S, CL, F, by
    rw [hx0, List.nil_append]
    refine news_sub (fun p hp => ?_) N
    simp only [List.mem_cons, List.mem_append] at hp ⊢
    rcases hp with h | h | (h | h) | h <;> simp [h], sp, cp, lk, by rw [hx0]; exact fun _ hq => (nomatch hq)⟩, ns_cons hn a, fun p hp => by
      rcases List.mem_cons.mp hp with rfl | hp
      · rfl
      · exact b p hp, fun p hp => by
      rcases List.mem_cons.mp hp with rfl | hp
      · exact .inl rfl
      · exact d p hp⟩
/-- what the compiler said of a comprehension's block -/
structure CompOk (c : Cx w cs) (scope : Scope) (x : Str) (iter : PySem.Expr) (cl' : List (Str × Addr)) : Prop where
  hcl : closureFor scope c.env = Pure.pure cl'
  h1 : ∀ y ∈ scope.names, y.2 ≠ .cell
  h2 : scope.kind = .function
  h3 : ∀ y ∈ scope.names, y.2 = .local → scope.names.lookup y.1 = some .local
  h4 : scope.names.lookup x = some .local
  hfo : ∀ n, (n, NameKind.free) ∈ scope.names → cl'.lookup n = c.cl.lookup n
  hf : ∀ v, foldedSetIterable iter c.env v = Pure.pure v
theorem Ends.comp {K : Value → Led → Prop} (hx0 : c.ex = []) {scope : Scope} {x : Str} {px : Pos} {elt iter : PySem.Expr} {pos : Pos} {cl' : List (Str × Addr)} (ok : CompOk c scope x iter cl')
    (h : Ends c (eval iter c.env) ml T fun xv T1 => CompS c ml scope x elt (CompK K) xv T1) : Ends c (eval (.ListComp elt [PySem.Comprehension.mk (.Name x px) iter [] 0] scope pos) c.env) ml T K :=
  ⟨fun s mm Q E S q => by
    obtain ⟨S', CL, F, _⟩ := S.ex
    refine LCg.ListComp_U (m := mm) F ok.hcl ok.h1 ok.h2 ok.h3 ok.h4 (h.run s mm _ E S fun xv T1 hp1 tk1 S1 k1 => ?_) ok.hf
    obtain ⟨⟨S2, CL2, F2, N2, sp2, cp2, lk2, of2⟩, a, b, d⟩ := S1
    refine CompS.src ok.h1 ok.h2 ok.h4 ok.hfo hx0 F2 N2 sp2 cp2 lk2 a b d (fun g ys T S CL sp cp a b d k => ?_) k1
    unfold LCg.FinE
    intro D h tk F' N' _
    exact q _ ((D, seqO ys ys.length) :: T) h tk (Sta.comp hx0 F' N' sp cp lk2 a b d k.1) (k.2 D _ (fun p hp => .tail _ hp) (.head _))⟩
theorem EndsS.assignComp (hx0 : c.ex = []) {scope : Scope} {x y : Str} {px py : Pos} {elt iter : PySem.Expr} {pos spos : Pos} {Kn : Mp → Led → Prop} {Kr : Value → Led → Prop} {cl' : List (Str × Addr)} (ok : CompOk c scope x iter cl') (hs : swapsWith (.ListComp elt [PySem.Comprehension.mk (.Name x px) iter [] 0] scope pos) (some (.Name y py)) spos.line c.env = Pure.pure true) (hy : cs.names.lookup y = some .local)
    (h : Ends c (eval iter c.env) ml T fun xv T1 => CompS c ml scope x elt (CompK fun v T' => Kn ((y, v) :: ml) T') xv T1) : EndsS c (exec (.Assign [.Name y py] (.ListComp elt [PySem.Comprehension.mk (.Name x px) iter [] 0] scope pos) spos) c.env) ml T Kn Kr :=
  ⟨fun s mm Q E S qn _ => by
    obtain ⟨S', CL, F, _⟩ := S.ex
    refine LCg.Assign_ListComp_U (m := mm) F rfl hs ok.hcl ok.h1 ok.h2 ok.h3 ok.h4 hy (by show (cs.kind == .class || (cs.kind == .module && c.L != mainGlobals)) = false; rw [c.fn]; rfl) (h.run s mm _ E S fun xv T1 hp1 tk1 S1 k1 => ?_) ok.hf
    obtain ⟨⟨S2, CL2, F2, N2, sp2, cp2, lk2, of2⟩, a, b, d⟩ := S1
    refine CompS.src ok.h1 ok.h2 ok.h4 ok.hfo hx0 F2 N2 sp2 cp2 lk2 a b d (fun g ys T S CL sp cp a b d k => ?_) k1
    unfold LCg.FinA
    intro D h tk F' N' _
    refine qn _ _ ((D, seqO ys ys.length) :: T) h tk (Sta.comp hx0 F' N' sp ⟨cp.adr, cp.dat, fun z u hz kz => ?_⟩ (fun z u hz kz => ?_) a b d k.1) (k.2 D _ (fun p hp => .tail _ hp) (.head _))
    · rw [lk_cons, if_neg (fun e => by subst e; rw [hy] at kz; cases kz)] at hz
      exact cp.val z u hz kz
    · rw [lk_cons] at hz
      show (if z = y then some (Value.ref D) else mm z) = some u
      by_cases e : z = y
      · rw [if_pos e] at hz ⊢; exact hz
      · rw [if_neg e] at hz ⊢; exact lk2 z u hz kz⟩
theorem Ends.range {K : Value → Led → Prop} {k : Int} {t : Tok} (n : Nat) (hk : k = n) (h : ∀ D T' u v, Ext T T' → (D, rngO (n : Int) u t v) ∈ T' → K (.ref D) T') : Ends c (PySem.call (.type "range") [.int k t]) ml T K :=
  hk ▸   ⟨fun s mm Q E S q => by
    obtain ⟨S', CL, F, N, sp, cp, lk, of⟩ := S.ex
    refine call_range_1 (q _ ((s.heap.objs.size, rngO (n : Int) s.toks t (s.toks + 1)) :: T) _ _ ⟨⟨S', CL, F.push _, news_sub (fun p hp => ?_) (N.push F _), sp, cp, lk, fun q hq p hp => ?_⟩, ns_cons rfl S.ns, fun p hp => ?_, fun p hp => ?_⟩ (h _ _ _ _ (fun p hp => .tail _ hp) (.head _)))
    · simp only [List.mem_append, List.mem_cons] at hp ⊢
      rcases hp with h | h | h | (h | h) | h <;> simp [h]
    · simp only [List.mem_append, List.mem_cons] at hp
      have hq' : @LT.lt Nat _ q.1 s.heap.objs.size := Heap.lt_size (N q (List.mem_append.mpr (.inl hq))).1
      rcases hp with h | h | (h | h) | h
      · exact of q hq p (by simp [h])
      · exact of q hq p (by simp [h])
      · subst h; exact Nat.ne_of_gt hq'
      · exact of q hq p (by simp [h])
      · exact of q hq p (by simp [h])
    · rcases List.mem_cons.mp hp with rfl | hp
      · rfl
      · exact S.nc p hp
    · rcases List.mem_cons.mp hp with rfl | hp
      · exact .inr F.ns.lt
      · exact S.ab p hp⟩
theorem lk_some {α : Type} {x : Str} : ∀ {l : List (Str × α)} {a : α}, (x, a) ∈ l → ∃ b, l.lookup x = some b
  | (y, u) :: l, a, h => by
    rw [List.lookup_cons]
    by_cases e : x = y
    · subst e
      rw [beq_self_eq_true]
      exact ⟨u, rfl⟩
    · have : (x == y) = false := by simpa using e
      rw [this]
      rcases List.mem_cons.mp h with h | h
      · cases h; exact absurd rfl e
      · exact lk_some h
/-- a comprehension whose block the compiler laid plainly -/
def notSet : PySem.Expr → Bool
  | .Set .. => false
  | _ => true
def compChk (cs scope : Scope) (x : Str) (iter : PySem.Expr) : Bool := scope.names.all (fun p => decide (p.2 ≠ .cell)) && (decide (scope.kind = .function) && (scope.names.all (fun p => decide (p.2 = .local → scope.names.lookup p.1 = some .local)) && (decide (scope.names.lookup x = some .local) && (scope.names.all (fun p => decide (p.2 = .free → cs.names.lookup p.1 = some .cell)) && notSet iter))))
theorem CompOk.of {scope : Scope} {x : Str} {iter : PySem.Expr} (h : compChk cs scope x iter = true) : CompOk c scope x iter (clo c.cl scope.names []) := by
  unfold compChk at h
  simp only [Bool.and_eq_true, decide_eq_true_eq, List.all_eq_true] at h
  obtain ⟨h1, h2, h3, h4, h5, h6⟩ := h
  have hc : ∀ n, (n, NameKind.free) ∈ scope.names → ∃ a, c.cl.lookup n = some a := fun n hn => by
    obtain ⟨a, ha, _⟩ := c.cOk n (h5 _ hn rfl)
    exact ⟨a, ha⟩
  exact ⟨closure_ok hc, h1, h2, h3, h4, fun n hn => by
    obtain ⟨a, ha⟩ := hc n hn
    rw [ha]
    exact clo_keep ha _ _ (.inr ⟨hn, .inl rfl⟩), fun v => by cases iter <;> first | rfl | exact Bool.noConfusion h6⟩
theorem Ends.compE {K : Value → Led → Prop} (hx0 : c.ex = []) {scope : Scope} {x : Str} {px : Pos} {elt iter : PySem.Expr} {pos : Pos} (ok : compChk cs scope x iter = true)
    (h : wpE c.view ml 30 iter T fun xv T1 => CompS c ml scope x elt (CompK K) xv T1) : Ends c (eval (.ListComp elt [PySem.Comprehension.mk (.Name x px) iter [] 0] scope pos) c.env) ml T K := Ends.comp hx0 (CompOk.of ok) (wpE_ok _ _ _ _ h)
theorem EndsS.compE (hx0 : c.ex = []) {scope : Scope} {x y : Str} {px py : Pos} {elt iter : PySem.Expr} {pos spos : Pos} {Kn : Mp → Led → Prop} {Kr : Value → Led → Prop} (ok : compChk cs scope x iter = true) (hy : cs.names.lookup y = some .local) (hs : swapsWith (.ListComp elt [PySem.Comprehension.mk (.Name x px) iter [] 0] scope pos) (some (.Name y py)) spos.line c.env = Pure.pure true)
    (h : wpE c.view ml 30 iter T fun xv T1 => CompS c ml scope x elt (CompK fun v T' => Kn ((y, v) :: ml) T') xv T1) : EndsS c (exec (.Assign [.Name y py] (.ListComp elt [PySem.Comprehension.mk (.Name x px) iter [] 0] scope pos) spos) c.env) ml T Kn Kr := EndsS.assignComp hx0 (CompOk.of ok) hs hy (wpE_ok _ _ _ _ h)
theorem CompS.lst {scope : Scope} {x : Str} {elt : PySem.Expr} {K : List Value → Led → Prop} {a : Addr} {its : List Value} {n : Nat} (hm : Has c T a (seqO its n)) (hz : its.length ≤ 1000) (h : wpC c ml scope x elt (fun T => Has c T a (seqO its n)) (fun i v => its[i]? = some v) K its.length 0 [] T) : CompS c ml scope x elt K (.ref a) T := .inl ⟨a, its, n, rfl, hm, hz, h⟩
theorem CompS.rng {scope : Scope} {x : Str} {elt : PySem.Expr} {K : List Value → Led → Prop} {a : Addr} {n : Nat} {t u v : Tok} (hm : Has c T a (rngO (n : Int) t u v)) (hz : n ≤ 1000) (h : wpC c ml scope x elt (fun _ => True) (fun i v => ∃ t, v = .int (0 + (i : Int)) t) K n 0 [] T) : CompS c ml scope x elt K (.ref a) T := .inr ⟨a, n, t, u, v, rfl, hm, hz, h⟩
theorem wpC_rng {scope : Scope} {x : Str} {elt : PySem.Expr} {K : List Value → Led → Prop} {Sp : Led → Prop} {k i : Nat} {ys : List Value} (h : ∀ t (c' : Cx w cs) (V : View c' (rdC cs scope x (.int (0 + (i : Int)) t))), c'.src = c.src → c'.N = c.N → c'.dp = c.dp → c'.un = c.un → wpE V ml 30 elt T fun y T' => Sp T' ∧ wpC c ml scope x elt Sp (fun i v => ∃ t, v = .int (0 + (i : Int)) t) K k (i + 1) (ys ++ [y]) T') :
    wpC c ml scope x elt Sp (fun i v => ∃ t, v = .int (0 + (i : Int)) t) K (k + 1) i ys T := fun v hv c' V e1 e2 e3 e4 => by
  obtain ⟨t, rfl⟩ := hv
  exact h t c' V e1 e2 e3 e4
theorem wpC_lst {scope : Scope} {x : Str} {elt : PySem.Expr} {K : List Value → Led → Prop} {Sp : Led → Prop} {k i : Nat} {ys its : List Value} {v : Value} (hv : its[i]? = some v) (h : ∀ (c' : Cx w cs) (V : View c' (rdC cs scope x v)), c'.src = c.src → c'.N = c.N → c'.dp = c.dp → c'.un = c.un → wpE V ml 30 elt T fun y T' => Sp T' ∧ wpC c ml scope x elt Sp (fun i v => its[i]? = some v) K k (i + 1) (ys ++ [y]) T') :
    wpC c ml scope x elt Sp (fun i v => its[i]? = some v) K (k + 1) i ys T := fun u hu c' V e1 e2 e3 e4 => by
  have hu' : its[i]? = some u := hu
  rw [hv] at hu'
  cases hu'
  exact h c' V e1 e2 e3 e4
-- a def whose names a comprehension closes over
theorem cf_ok : ∀ (names : List (Str × NameKind)) (n lo : Nat) (acc : List (Str × Addr)), (∀ p ∈ acc, lo ≤ p.2 ∧ p.2 < n) → (acc.map (·.2)).Nodup → lo ≤ n → (∀ p ∈ cellsFrom n names acc, lo ≤ p.2) ∧ ((cellsFrom n names acc).map (·.2)).Nodup
  | [], n, lo, acc, h, nd, _ => ⟨fun p hp => (h p hp).1, nd⟩
  | (x, k) :: r, n, lo, acc, h, nd, hl => by
    unfold cellsFrom
    split
    · refine cf_ok r (n + 1) lo _ (fun p hp => ?_) ?_ (by omega)
      · rcases List.mem_cons.mp hp with rfl | hp
        · exact ⟨hl, Nat.lt_succ_self _⟩
        · exact ⟨(h p hp).1, Nat.lt_succ_of_lt (h p hp).2⟩
      · rw [List.map_cons, List.nodup_cons]
        refine ⟨fun hm => ?_, nd⟩
        obtain ⟨p, hp, e⟩ := List.mem_map.mp hm
        have := (h p hp).2
        rw [e] at this
        exact Nat.lt_irrefl _ this
    · exact cf_ok r n lo acc h nd hl
theorem cf_has {x : Str} : ∀ (names : List (Str × NameKind)) (n : Nat) (acc : List (Str × Addr)), ((x, NameKind.cell) ∈ names ∨ ∃ a, (x, a) ∈ acc) → ∃ a, (x, a) ∈ cellsFrom n names acc
  | [], _, _, h => h.elim (fun h => nomatch h) id
  | (y, k) :: r, n, acc, h => by
    unfold cellsFrom
    rcases h with h | ⟨a, h⟩
    · rcases List.mem_cons.mp h with h | h
      · cases h
        rw [if_pos (show (NameKind.cell == NameKind.cell) = true from rfl)]
        exact cf_has r _ _ (.inr ⟨n, .head _⟩)
      · split
        · exact cf_has r _ _ (.inl h)
        · exact cf_has r _ _ (.inl h)
    · split
      · exact cf_has r _ _ (.inr ⟨a, .tail _ h⟩)
      · exact cf_has r _ _ (.inr ⟨a, h⟩)
theorem bindL_at {kd : Str → Option NameKind} {x : Str} (hk : kd x = some .local) : ∀ (b : List (Str × Value)) (m : Str → Option Value), bindL kd b m x = match b.reverse.lookup x with | some v => some v | none => m x
  | [], m => rfl
  | (y, u) :: b, m => by
    unfold bindL
    rw [bindL_at hk b, List.reverse_cons, List.lookup_append]
    rcases hb : b.reverse.lookup x with _ | v
    · simp only [Option.none_or]
      rw [List.lookup_cons, List.lookup_nil]
      by_cases e : x = y
      · subst e; rw [if_pos hk, beq_self_eq_true]; simp
      · have : (x == y) = false := by simpa using e
        rw [this]
        split
        · simp [e]
        · rfl
    · rfl
theorem bindC_at {kd : Str → Option NameKind} {x : Str} (hk : kd x = some .cell) : ∀ (b : List (Str × Value)) (m : Str → Option Value), bindC kd b m x = match b.reverse.lookup x with | some v => some v | none => m x
  | [], m => rfl
  | (y, u) :: b, m => by
    unfold bindC
    rw [bindC_at hk b, List.reverse_cons, List.lookup_append]
    rcases hb : b.reverse.lookup x with _ | v
    · simp only [Option.none_or]
      rw [List.lookup_cons, List.lookup_nil]
      by_cases e : x = y
      · subst e
        rw [if_neg (by rw [hk]; intro h; cases h), beq_self_eq_true]; simp
      · have : (x == y) = false := by simpa using e
        rw [this]
        split
        · rfl
        · simp [e]
    · rfl
theorem cells_adr {cm : Str → Option Value} : ∀ {cl : List (Str × Addr)} {cells : Led}, CellsAre cm cl cells → cells.map (·.1) = cl.map (·.2) ∧ (∀ p ∈ cells, ∃ v, p.2.data = .cell v) ∧ ∀ x a, (x, a) ∈ cl → ∃ o, (a, o) ∈ cells ∧ o.data = .cell (cm x)
  | _, _, .nil => ⟨rfl, fun _ h => (nomatch h), fun _ _ h => (nomatch h)⟩
  | _, _, .cons h t => by
    obtain ⟨a, b, d⟩ := cells_adr t
    refine ⟨by rw [List.map_cons, List.map_cons, a], fun p hp => ?_, fun x y hp => ?_⟩
    · rcases List.mem_cons.mp hp with rfl | hp
      · exact ⟨_, h⟩
      · exact b p hp
    · rcases List.mem_cons.mp hp with hp | hp
      · cases hp
        exact ⟨_, .head _, h⟩
      · obtain ⟨o, h1, h2⟩ := d x y hp
        exact ⟨o, .tail _ h1, h2⟩
theorem callX_cellsG {w : World} {f : Addr} {name qual : Str} {params : Arguments} {body : List Stmt} {scope : Scope} {dV kV doc pm cdv ct oc : Value} {an od : Option Addr} {osl : Array (Option Value)} {args : List Value} {nd nu : Nat} {N : Led} {P : Led → Value → Prop} {ml0 : Addr → Mp}
    (ho : (pre.heap_1_39 w.params).lookup f = some ⟨oc, od, .func (fnOf name qual params body scope dV kV doc pm an cdv ct), osl⟩) (hcd : codeIn (pre.heap_1_39 w.params) cdv qual = true)
    (hbind : ∀ src, bindArgs (fnOf name qual params body scope dV kV doc pm an cdv ct) { pos := .ref src :: args } = Pure.pure (ml0 src)) (hloc : ∀ src, ((ml0 src).all fun y => scope.names.lookup y.1 == some .local || scope.names.lookup y.1 == some .cell) = true)
    (hcn : ((cellsFrom 0 scope.names []).map (·.1)).Nodup) (hco : scope.isCoroutine = false) (hgen : scope.isGenerator = false) (hk : scope.kind = .function) (hnd : 1 ≤ nd) (hP : ∀ T r, P T r → P (T.filter tupB) r)
    (h : ∀ (c : Cx w scope) (src : Addr), c.src = some src → c.N = N → c.ex = [] → c.cl = cellsFrom (c.L + 1) scope.names [] → c.dp + nd < recursionLimit + 1 → c.un + nu < cLine + 3 → ∀ Kr : Value → Led → Prop, EndK P Kr → EndsS c (execs body c.env) (ml0 src).reverse [] (fun _ _ => False) Kr) : Gen w f args nd nu N P := by
  intro src g d tg td so ns mean mg mb dp un gd cn cs a ccd cl outer A₀ base h₀ L m s Q E B F X NN T hk' hdp hun hret
  refine wpAny_call ?_
  refine enter_cells B F X NN T rfl rfl hk' ho hcd (by show dp < recursionLimit; omega) (BindsTo.of_eq (hbind src)) (hloc src) hcn (fun g' L' h' tk' cells FG' F' N' Y' B' X' T' l1 l2 => ?_) hco hgen hk
  obtain ⟨ya, yb, yc⟩ := cells_adr Y'
  have ck := cf_ok scope.names (L' + 1) (L' + 1) [] (fun _ hp => (nomatch hp)) List.nodup_nil (Nat.le_refl _)
  have cok : ∀ x, scope.names.lookup x = some .cell → ∃ a, (cellsFrom (L' + 1) scope.names []).lookup x = some a ∧ a ∈ (cellsFrom (L' + 1) scope.names []).map (·.2) := fun x hx => by
    obtain ⟨a, ha⟩ := cf_has scope.names (L' + 1) [] (.inl (lk_mem hx))
    obtain ⟨b, hb⟩ := lk_some ha
    exact ⟨b, hb, List.mem_map.mpr ⟨_, lk_mem hb, rfl⟩⟩
  let c : Cx w scope := { mean := mean, mg := mg, mb := mb, dp := dp + 1, un := un + 3, gd := gd, cn := qual, a := f, ccd := cdv, cl := cellsFrom (L' + 1) scope.names [], outer := envX cn cs L a ccd cl :: outer, A₀ := _, base := base, h₀ := g', L := L', src := some src, N := N, ex := [], below := B', inn := X', top := T', fn := hk, lo := fun p hp => l1 p (.tail _ hp), sLo := fun x hx => by cases hx; exact l1 _ (.head _), sNot := fun x hx => by cases hx; exact ns, cLo := fun p hp => ck.1 p hp, cNd := ck.2, cOk := cok }
  have S0 : Sta c h' _ (ml0 src).reverse [] := ⟨⟨[(src, srcO g d tg td)], cells, F', news_sub (fun p hp => by
      simp only [List.mem_cons, List.mem_append, List.mem_nil_iff, or_false, false_or] at hp ⊢
      rcases hp with h | h | h | h
      · cases h
      · simp [h]
      · simp [h]
      · exact .inr (.inr h)) N', ⟨g, d, tg, td, so, rfl⟩, ⟨ya, yb, fun x v hv hx => by
      obtain ⟨a, ha⟩ := cf_has scope.names (L' + 1) [] (.inl (lk_mem hx))
      obtain ⟨b, hb⟩ := lk_some ha
      obtain ⟨o, h1, h2⟩ := yc x b (lk_mem hb)
      refine ⟨b, o, hb, h1, ?_⟩
      rw [h2, bindC_at hx, hv]⟩, fun x v hv hx => by rw [bindL_at hx, hv], fun _ hp => (nomatch hp)⟩, ns_nil, fun _ hp => (nomatch hp), fun _ hp => (nomatch hp)⟩
  refine (h c src rfl rfl rfl rfl (by show dp + 1 + nd < _; omega) (by show un + 3 + nu < _; omega) (fun r T => P T r) ⟨fun _ _ h => h⟩).run _ _ _ _ S0 (fun _ _ _ _ _ _ h => h.elim) fun v mm1 ml' T1 h1 tk1 S1 k => ?_
  obtain ⟨⟨S', CL, F1, N1, sp, cp, lk, of⟩, ns1, nc1, ab1⟩ := S1
  obtain ⟨g1, d1, tg1, td1, so1, rfl⟩ := sp
  have hf : ∀ p, p ∈ T1.filter tupB → p ∈ T1 ∧ @LT.lt Nat _ L' p.1 := fun p hp => by
    obtain ⟨a, b⟩ := List.mem_filter.mp hp
    exact ⟨a, (ab1 p a).resolve_left (tupB_not b)⟩
  refine leaveK_ F1 N1 fun FG NG => hret v _ h1 tk1 FG (news_sub (fun p hp => ?_) NG) ⟨g1, d1, tg1, td1, T1.filter tupB, rfl, so1, fun p hp => ns1 p (hf p hp).1, fun p hp => nc1 p (hf p hp).1, fun p hp => Nat.lt_trans l2 (hf p hp).2, fun q hq p hp => Nat.lt_trans (l1 q (.tail _ hq)) (hf p hp).2, hP _ _ k⟩
  simp only [List.mem_cons, List.mem_append] at hp
  rcases hp with h | h | h
  · simp [h]
  · have := (hf p h).1; simp [this]
  · simp only [List.mem_append]; exact .inr (.inr (.inr (.inr h)))
end
-- Ev3
section
variable {w : World} {cs : Scope} {c : Cx w cs} {ml : Mp} {T : Led} {K : Value → Led → Prop}
theorem up {T T' : Led} (e : Ext T T') {p : Addr × Obj} (h : p ∈ T) : p ∈ T' := e p h
/-- a call that draws, its new objects let go -/
theorem Ends.gen0 {f src : Addr} {vs : List Value} {nd nu : Nat} {P : Led → Value → Prop} (hs : c.src = some src) (D : ∀ R, Ext T R → Ext c.N R → Gen w f vs nd nu R P) (hdp : c.dp + nd < recursionLimit) (hun : c.un + nu < cLine)
    (k : ∀ r tl, P tl r → K r T) : Ends c (PySem.call (.ref f) (.ref src :: vs)) ml T K :=
  ⟨fun s mm Q E S q => (Ends.gen (K := fun r T' => Ext T T' ∧ K r T) hs D hdp hun fun r _ tl e _ p => ⟨e, k r tl p⟩).run s mm Q E S fun v T' h' tk' S' k => q v T h' tk' (S'.sub k.1) k.2⟩
theorem Ends.take {src : Addr} {top : Int} {tt : Tok} (hs : c.src = some src) (h1 : 0 < top) (h2 : top ≤ 100) (hdp : c.dp + 1 < recursionLimit) (hun : c.un + 8 < cLine) (k : ∀ j t, 0 ≤ j → j < top → K (.int j t) T) :
    Ends c (PySem.call (.ref 235) [.ref src, .int top tt]) ml T K :=
  Ends.gen0 hs (fun R _ _ => take_gen w top tt R h1 h2) hdp hun fun r _ p => by
    obtain ⟨j, t, rfl, a, b⟩ := p
    exact k j t a b
theorem Ends.one {src th : Addr} {vs : List Value} (hs : c.src = some src) (hm : (th, lst vs) ∈ T) (h0 : 0 < vs.length) (h1 : vs.length ≤ 20) (hdp : c.dp + 4 < recursionLimit) (hun : c.un + 16 < cLine) (k : ∀ r i, vs[i]? = some r → i < vs.length → K r T) :
    Ends c (PySem.call (.ref 242) [.ref src, .ref th]) ml T K :=
  Ends.gen0 hs (fun R e _ => one_gen w th vs R (e _ hm) h0 h1) hdp hun fun r _ p => by
    obtain ⟨i, a, b⟩ := p
    exact k r i b a
theorem Ends.lab {src th : Addr} {t1 t2 : Tok} (hs : c.src = some src) (hm : (th, lst [.none, .str (Str.ofString "'a") t1, .str (Str.ofString "'bc") t2]) ∈ T) (hdp : c.dp + 4 < recursionLimit) (hun : c.un + 16 < cLine)
    (k1 : ∀ (n : _root_.Fin 4) x t, lbl n = some x → x.length ≤ 5 → K (.str x t) T) (k0 : K .none T) : Ends c (PySem.call (.ref 242) [.ref src, .ref th]) ml T K :=
  Ends.one hs hm (Nat.le_of_ble_eq_true rfl) (Nat.le_of_ble_eq_true rfl) hdp hun fun r i hx hi => by
    have hi : i < 3 := hi
    have : i = 0 ∨ i = 1 ∨ i = 2 := by omega
    rcases this with rfl | rfl | rfl <;> cases Option.some.inj hx
    · exact k0
    · exact k1 1 _ _ rfl (by decide)
    · exact k1 2 _ _ rfl (by decide)
def AllK : List Value → (Value → Prop) → Prop
  | [], _ => True
  | x :: xs, P => P x ∧ AllK xs P
theorem AllK.at {P : Value → Prop} : ∀ {vs : List Value} {i : Nat} {r : Value}, AllK vs P → vs[i]? = some r → P r
  | [], _, _, _, h => by simp at h
  | x :: xs, 0, r, a, h => by
    simp only [List.getElem?_cons_zero, Option.some.injEq] at h
    exact h ▸ a.1
  | x :: xs, i + 1, r, a, h => by
    simp only [List.getElem?_cons_succ] at h
    exact AllK.at a.2 h
theorem Ends.oneA {src th : Addr} {vs : List Value} (hs : c.src = some src) (hm : (th, lst vs) ∈ T) (h0 : 0 < vs.length) (h1 : vs.length ≤ 20) (hdp : c.dp + 4 < recursionLimit) (hun : c.un + 16 < cLine) (k : AllK vs fun r => K r T) :
    Ends c (PySem.call (.ref 242) [.ref src, .ref th]) ml T K := Ends.one hs hm h0 h1 hdp hun fun _ _ hx _ => k.at hx
theorem Ends.expr {src : Addr} {n : Nat} {k : Int} {tk : Tok} (hs : c.src = some src) (hX : XG w n) (hk : k = (n : Int)) (hdp : c.dp + (20 * n + 20) < recursionLimit) (hun : c.un + (200 * n + 200) < cLine)
    (h : ∀ T' e p v t1 t2 t3, Ext T T' → hgt e ≤ n + 1 → hgt e ≤ 6 → (p, tup [.ref v, .str (txt e false) t1, .str (txt e true) t2, .int (lvl e) t3]) ∈ T' → Tr T' e (.ref v) → K (.ref p) T') :
    Ends c (PySem.call (.ref 328) [.ref src, .int k tk]) ml T K :=
  Ends.gen hs (fun R _ _ => hX.at R tk hk) hdp hun fun r T' tl e el p => by
    obtain ⟨e', a, b, pc⟩ := p
    obtain ⟨hm, hT⟩ := pc
    exact h T' e' _ _ _ _ _ e a b (el _ hm) (hT.mono el)
theorem Ends.both {p : Addr} {v : Value} {e : Mine.E} {tx ty tk tw : Tok} {n : Int} (hm : (p, tup [v, .str (txt e false) tx, .str (txt e true) ty, .int (lvl e) tk]) ∈ T) (h6 : hgt e ≤ 6) (hdp : c.dp + 4 < recursionLimit) (hun : c.un + 16 < cLine)
    (h : ∀ T' l t t', Ext T T' → (l, lst [.str (W e n false) t, .str (W e n true) t']) ∈ T' → K (.ref l) T') : Ends c (PySem.call (.ref 271) [.ref p, .int n tw]) ml T K :=
  Ends.pure (fun R e' _ => both_pure w p v e tx ty tk tw n R (e' _ hm) h6) hdp hun fun r T' tl e' el q => by
    obtain ⟨l, t, t', rfl, m⟩ := q
    exact h T' l t t' e' (el _ m)
theorem Ends.beside {p v : Addr} {e : Mine.E} {tx ty tk tw : Tok} {n : Int} (hm : (p, tup [.ref v, .str (txt e false) tx, .str (txt e true) ty, .int (lvl e) tk]) ∈ T) (hT : Tr T e (.ref v)) (h6 : hgt e ≤ 6) (hdp : c.dp + 8 < recursionLimit) (hun : c.un + 32 < cLine)
    (h : ∀ T' l t t', Ext T T' → (l, lst [.str (Sd e n false) t, .str (Sd e n true) t']) ∈ T' → K (.ref l) T') : Ends c (PySem.call (.ref 278) [.ref p, .int n tw]) ml T K :=
  Ends.pure (fun R e' _ => beside_pure w p v e tx ty tk tw n R (e' _ hm) (hT.mono e') h6) hdp hun fun r T' tl e' el q => by
    obtain ⟨l, t, t', rfl, m⟩ := q
    exact h T' l t t' e' (el _ m)
theorem Ends.path {x : Str} {tx : Tok} (hdp : c.dp + 2 < recursionLimit) (hun : c.un + 8 < cLine) (h : ∀ T' a, Ext T T' → PathV T' x (.ref a) → K (.ref a) T') : Ends c (PySem.call (.ref 249) [.str x tx]) ml T K :=
  Ends.pure (fun R _ _ => path_pure w x tx R) hdp hun fun r T' tl e' el q => by
    obtain ⟨a, rfl, m⟩ := q
    exact h T' a e' (m.mono el)
theorem Ends.closed {v : Addr} {x : Str} {tx : Tok} (hdp : c.dp + 2 < recursionLimit) (hun : c.un + 8 < cLine) (h : ∀ T' p t1 t2 t3, Ext T T' → (p, tup [.ref v, .str x t1, .str x t2, .int 12 t3]) ∈ T' → K (.ref p) T') : Ends c (PySem.call (.ref 264) [.ref v, .str x tx]) ml T K :=
  Ends.pure (fun R _ _ => closed_pure w v x tx R) hdp hun fun r T' tl e' el q => by
    obtain ⟨p, t1, t2, t3, rfl, m⟩ := q
    exact h T' p t1 t2 t3 e' (el _ m)
theorem Ends.open2 {v : Addr} {x : Str} {tx : Tok} (hx : x.length ≤ 2000000) (hdp : c.dp + 2 < recursionLimit) (hun : c.un + 8 < cLine) (h : ∀ T' p t1 t2 t3, Ext T T' → (p, tup [.ref v, .str x t1, .str (par x) t2, .int 0 t3]) ∈ T' → K (.ref p) T') : Ends c (PySem.call (.ref 257) [.ref v, .str x tx]) ml T K :=
  Ends.pure (fun R _ _ => open2_pure w v x tx R hx) hdp hun fun r T' tl e' el q => by
    obtain ⟨p, t1, t2, t3, rfl, m⟩ := q
    exact h T' p t1 t2 t3 e' (el _ m)
theorem Ends.open3 {v : Addr} {x : Str} {tx tk : Tok} {k : Int} (hx : x.length ≤ 2000000) (hdp : c.dp + 2 < recursionLimit) (hun : c.un + 8 < cLine) (h : ∀ T' p t1 t2 t3, Ext T T' → (p, tup [.ref v, .str x t1, .str (par x) t2, .int k t3]) ∈ T' → K (.ref p) T') : Ends c (PySem.call (.ref 257) [.ref v, .str x tx, .int k tk]) ml T K :=
  Ends.pure (fun R _ _ => open3_pure w v x tx tk k R hx) hdp hun fun r T' tl e' el q => by
    obtain ⟨p, t1, t2, t3, rfl, m⟩ := q
    exact h T' p t1 t2 t3 e' (el _ m)
theorem Ends.head {a : Addr} {e : Mine.E} {u : Tok} {value slice : PySem.Expr} (hT : Tr T e (.ref a)) (hs : subscripted slice false (.ref a) (.int 0 u) = operate [.ref a, .int 0 u] (getItem (.ref a) (.int 0 u))) (h : ∀ t, K (.str (kind e) t) T) : Ends c (subscriptTail value slice (.ref a) (.int 0 u)) ml T K :=
  ⟨fun s mm Q E S q => by
    obtain ⟨S', CL, F, N, sp, cp, lk, of⟩ := S.ex
    exact head_get N F c.inn (hT.mono fun p hp => by simp [hp]) (fun t => q _ T s.heap s.toks S (h t)) hs⟩
theorem Ends.inLst {a : Addr} {vs : List Value} {ys : List Str} {n : Nat} {x : Str} {t : Tok} (hm : (a, seqO vs n) ∈ T) (hv : StrsAre vs ys) (h : K (.bool (ys.any fun y => y == x)) T) : Ends c (compareOp .In (.str x t) (.ref a)) ml T K :=
  ⟨fun s mm Q E S q => by
    obtain ⟨S', CL, F, N, sp, cp, lk, of⟩ := S.ex
    exact in_list_strs (PySem.IsL.isList (n := n) (N (a, seqO vs n) (by simp [hm])).1) hv (q _ T s.heap s.toks S h)⟩
theorem Ends.intB {b : Bool} (h : ∀ t, K (.int (if b = true then 1 else 0) t) T) : Ends c (PySem.call (.type "int") [.bool b]) ml T K :=
  ⟨fun s mm Q E S q => call_int_bool (q _ T s.heap _ S (h _))⟩
theorem Ends.idx {l : Addr} {vs : List Value} {k : Int} {u : Tok} {value slice : PySem.Expr} (hm : (l, lst vs) ∈ T) (hz : vs.length ≤ 1000) (h0 : 0 ≤ k) (h1 : k < vs.length) (hs : subscripted slice false (.ref l) (.int k u) = operate [.ref l, .int k u] (getItem (.ref l) (.int k u))) (h : ∀ (i : Nat) x, i < vs.length → vs[i]? = some x → k = i → K x T) : Ends c (subscriptTail value slice (.ref l) (.int k u)) ml T K :=
  ⟨fun s mm Q E S q => by
    obtain ⟨S', CL, F, N, sp, cp, lk, of⟩ := S.ex
    exact idx_made N (by simp [hm]) hz h0 h1 (fun i x hi hx hk => q _ T s.heap s.toks S (h i x hi hx hk)) hs⟩
theorem Ends.pushA {t : Sem Value} {o : Obj} (hn : notSrc o = true) (hc : isCell o = false)
    (ht : ∀ (s : Shared) (mm : Str → Option Value) (Q E : Value → Shared → Prop) (M : Led), Fr c.h₀ c.L s.heap mm → News c.h₀ c.L s.heap M → Ext T M → (∀ h' tk', Fr c.h₀ c.L h' mm → News c.h₀ c.L h' ((s.heap.objs.size, o) :: M) → Q (.ref s.heap.objs.size) { s with heap := h', toks := tk' }) → wpAny (model PG w) c.A t Q E s)
    (h : ∀ D T', Ext T T' → (D, o) ∈ T' → @LT.lt Nat _ c.L D → K (.ref D) T') : Ends c t ml T K :=
  ⟨fun s mm Q E S q => by
    obtain ⟨S', CL, F, N, sp, cp, lk, of⟩ := S.ex
    refine ht s mm Q E _ F N (fun p hp => by simp [hp]) fun h' tk' F' N' => q _ ((s.heap.objs.size, o) :: T) h' tk' ⟨⟨S', CL, F', news_sub (fun p hp => ?_) N', sp, cp, lk, fun q hq p hp => ?_⟩, ns_cons hn S.ns, fun p hp => ?_, fun p hp => ?_⟩ (h _ _ (fun p hp => .tail _ hp) (.head _) F.ns.lt)
    · simp only [List.mem_append, List.mem_cons] at hp ⊢
      rcases hp with h | h | h | (h | h) | h <;> simp [h]
    · simp only [List.mem_append, List.mem_cons] at hp
      have hq' : @LT.lt Nat _ q.1 s.heap.objs.size := Heap.lt_size (N q (List.mem_append.mpr (.inl hq))).1
      rcases hp with h | h | (h | h) | h
      · exact of q hq p (by simp [h])
      · exact of q hq p (by simp [h])
      · subst h; exact Nat.ne_of_gt hq'
      · exact of q hq p (by simp [h])
      · exact of q hq p (by simp [h])
    · rcases List.mem_cons.mp hp with rfl | hp
      · exact hc
      · exact S.nc p hp
    · rcases List.mem_cons.mp hp with rfl | hp
      · exact .inr F.ns.lt
      · exact S.ab p hp⟩
theorem Ends.push {t : Sem Value} {o : Obj} (hn : notSrc o = true) (hc : isCell o = false)
    (ht : ∀ (s : Shared) (mm : Str → Option Value) (Q E : Value → Shared → Prop) (M : Led), Fr c.h₀ c.L s.heap mm → News c.h₀ c.L s.heap M → Ext T M → (∀ h' tk', Fr c.h₀ c.L h' mm → News c.h₀ c.L h' ((s.heap.objs.size, o) :: M) → Q (.ref s.heap.objs.size) { s with heap := h', toks := tk' }) → wpAny (model PG w) c.A t Q E s)
    (h : ∀ D T', Ext T T' → (D, o) ∈ T' → K (.ref D) T') : Ends c t ml T K :=
  Ends.pushA hn hc ht fun D T' e m _ => h D T' e m
theorem Ends.addTup {a b : Addr} {vs ws : List Value} (ha : (a, tup vs) ∈ T) (hb : (b, tup ws) ∈ T) (hv : vs ≠ []) (hw : ws ≠ []) (hz : vs.length + ws.length ≤ 1000) (hn : notSrc (tup (vs ++ ws)) = true) (h : ∀ D T', Ext T T' → (D, tup (vs ++ ws)) ∈ T' → K (.ref D) T') : Ends c (binaryOp .Add (.ref a) (.ref b)) ml T K :=
  Ends.push hn rfl (fun s mm Q E M F N e k => add_tuples F N (tupAt N (e _ ha)) (tupAt N (e _ hb)) (fun q => absurd q hv) (fun _ q => absurd q hw) (fun _ _ h' F' N' => k h' s.toks F' N') (by rw [sizeLine_eq]; omega)) h
theorem Ends.pushD {t : Sem Value} {o : Obj} (hn : notSrc o = true) (hc : isCell o = false)
    (ht : ∀ (s : Shared) (mm : Str → Option Value) (Q E : Value → Shared → Prop) (M : Led), Fr c.h₀ c.L s.heap mm → News c.h₀ c.L s.heap M → Ext T M → (∀ D h' tk', Fr c.h₀ c.L h' mm → News c.h₀ c.L h' ((D, o) :: M) → (∀ p ∈ M, @LT.lt Nat _ p.1 D) → (o.cls = .type "list" ∨ @LT.lt Nat _ c.L D) → Q (.ref D) { s with heap := h', toks := tk' }) → wpAny (model PG w) c.A t Q E s)
    (h : ∀ D T', Ext T T' → (D, o) ∈ T' → K (.ref D) T') : Ends c t ml T K :=
  ⟨fun s mm Q E S q => by
    obtain ⟨S', CL, F, N, sp, cp, lk, of⟩ := S.ex
    refine ht s mm Q E _ F N (fun p hp => by simp [hp]) fun D h' tk' F' N' hD hl => q _ ((D, o) :: T) h' tk' ⟨⟨S', CL, F', news_sub (fun p hp => ?_) N', sp, cp, lk, fun q hq p hp => ?_⟩, ns_cons hn S.ns, fun p hp => ?_, fun p hp => ?_⟩ (h _ _ (fun p hp => .tail _ hp) (.head _))
    · simp only [List.mem_append, List.mem_cons] at hp ⊢
      rcases hp with h | h | h | (h | h) | h <;> simp [h]
    · simp only [List.mem_append, List.mem_cons] at hp
      rcases hp with h | h | (h | h) | h
      · exact of q hq p (by simp [h])
      · exact of q hq p (by simp [h])
      · subst h; exact Nat.ne_of_gt (hD q (List.mem_append.mpr (.inl hq)))
      · exact of q hq p (by simp [h])
      · exact of q hq p (by simp [h])
    · rcases List.mem_cons.mp hp with rfl | hp
      · exact hc
      · exact S.nc p hp
    · rcases List.mem_cons.mp hp with rfl | hp
      · exact hl
      · exact S.ab p hp⟩
theorem Ends.mul2 {l : Addr} {v : Value} {u : Tok} (hm : (l, lst [v]) ∈ T) (hn : notSrc (lst [v, v]) = true) (h : ∀ D T', Ext T T' → (D, lst [v, v]) ∈ T' → K (.ref D) T') : Ends c (binaryOp .Mult (.ref l) (.int 2 u)) ml T K :=
  Ends.pushD hn rfl (fun s mm Q E M F N e k => KMa.mul (vs := [v]) F N (PySem.IsL.isList (n := 0) (N _ (e _ hm)).1) (by decide) (by decide) (by simp) rfl fun D h' F' N' hD => k D h' s.toks F' N' hD (.inl rfl)) h
theorem StrOf.mono {T T' : Led} {l : Addr} (e : Ext T T') (h : StrOf T l) : StrOf T' l := by
  obtain ⟨ls, a, b, d⟩ := h
  refine ⟨ls, e _ a, b, fun i y hy => ?_⟩
  obtain ⟨x, vs, h1, h2, h3⟩ := d i y hy
  exact ⟨x, vs, h1, e _ h2, h3⟩
theorem Ends.strs (hdp : c.dp + 2 < recursionLimit) (hun : c.un + 8 < cLine) (h : ∀ T' l, Ext T T' → StrOf T' l → K (.ref l) T') : Ends c (PySem.call (.ref 213) []) ml T K :=
  Ends.pure (fun R _ _ => strengths_pure w R) hdp hun fun r T' tl e' el q => by
    obtain ⟨l, rfl, m⟩ := q
    exact h T' l e' (m.mono el)
theorem Ends.strIdx {l : Addr} {k : Int} {u : Tok} {value slice : PySem.Expr} (H : StrOf T l) (h0 : 0 ≤ k) (h1 : k < 9) (hs : subscripted slice false (.ref l) (.int k u) = operate [.ref l, .int k u] (getItem (.ref l) (.int k u))) (h : ∀ a vs, (a, lst vs) ∈ T → 0 < vs.length → vs.length ≤ 20 → SgnOf k vs → K (.ref a) T) : Ends c (subscriptTail value slice (.ref l) (.int k u)) ml T K := by
  obtain ⟨ls, hl, hn, H⟩ := H
  refine Ends.idx hl (by omega) h0 (by omega) hs fun i x hi hx hk => ?_
  obtain ⟨a, vs, e, hm, p1, p2, p3⟩ := H i x hx
  subst e hk
  exact h a vs hm p1 p2 p3
theorem Ends.oneS {src th : Addr} {vs : List Value} {k : Int} (hs : c.src = some src) (hm : (th, lst vs) ∈ T) (h0 : 0 < vs.length) (h1 : vs.length ≤ 20) (H : SgnOf k vs) (hdp : c.dp + 4 < recursionLimit) (hun : c.un + 16 < cLine) (h : ∀ (j : _root_.Fin 18) t, blv j = k + 1 → K (.str (sgn j) t) T) :
    Ends c (PySem.call (.ref 242) [.ref src, .ref th]) ml T K := Ends.one hs hm h0 h1 hdp hun fun r i hx _ => by
  obtain ⟨j, t, rfl, e⟩ := SgnOf.at H hx
  exact h j t e
theorem Ends.joinE {V : Env} {sep : Str} {k : Nat} {p ap pos : Pos} {e : PySem.Expr} {pl : Sem Bool} (he : eval (.Call (.Attribute (.Constant (.str sep) k p) (Str.ofString "join") ap) [e] [] pos) V = (do
      let ov ← eval (.Constant (.str sep) k p) V
      standAt ap.atName
      let (f, first) ← holding [ov] (getMethod ov (Str.ofString "join") pl)
      callWith pos f first (backTo pos (starEach [e] V)) [])) (hp : plain e = true) (h : Ends c (eval e V) ml T fun v T1 => ∀ t, Ends c (PySem.call (.builtin "str.join") [.str sep t, v]) ml T1 K) :
    Ends c (eval (.Call (.Attribute (.Constant (.str sep) k p) (Str.ofString "join") ap) [e] [] pos) V) ml T K :=
  ⟨fun s mm Q E S q => by
    refine MethodCall_ ?_ he
    refine Calls.Constant_str ?_
    refine GM.join ?_
    refine PyProof.Rows.callWith_method1 ?_ (star_plain hp) rfl
    refine spliced_more (h.run _ mm _ E S fun v T1 h1 tk1 S1 h => ?_) (star_plain hp)
    exact spliced_none ((h _).run _ mm _ E S1 fun v T' h' tk' S' k => q v T' h' tk' S' k)⟩
theorem Ends.join0 {a : Addr} {n : Nat} {sep : Str} {t : Tok} (ha : (a, seqO [] n) ∈ T) (hs : sep.length ≤ 16) (h : ∀ t', K (.str (Str.ofString "") t') T) : Ends c (PySem.call (.builtin "str.join") [.str sep t, .ref a]) ml T K :=
  ⟨fun s mm Q E S q => by
    obtain ⟨S', CL, F, N, sp, cp, lk, of⟩ := S.ex
    exact Mine.join0 (n := n) N (Has.new (c := c) ha).mem hs fun t' k => q _ T s.heap k S (h t')⟩
theorem Ends.join1 {a : Addr} {n : Nat} {sep x : Str} {t u : Tok} (ha : (a, seqO [.str x u] n) ∈ T) (hs : sep.length ≤ 16) (hx : x.length ≤ 8000000) (h : ∀ t', K (.str x t') T) : Ends c (PySem.call (.builtin "str.join") [.str sep t, .ref a]) ml T K :=
  ⟨fun s mm Q E S q => by
    obtain ⟨S', CL, F, N, sp, cp, lk, of⟩ := S.ex
    exact Mine.join1 (n := n) N (Has.new (c := c) ha).mem hs hx fun t' k => q _ T s.heap k S (h t')⟩
theorem Ends.join2 {a : Addr} {n : Nat} {sep x y : Str} {t u u' : Tok} (ha : (a, seqO [.str x u, .str y u'] n) ∈ T) (hs : sep.length ≤ 16) (hx : x.length ≤ 8000000) (hy : y.length ≤ 8000000) (h : ∀ t', K (.str (x ++ sep ++ y) t') T) : Ends c (PySem.call (.builtin "str.join") [.str sep t, .ref a]) ml T K :=
  ⟨fun s mm Q E S q => by
    obtain ⟨S', CL, F, N, sp, cp, lk, of⟩ := S.ex
    exact Mine.join2 (n := n) N (Has.new (c := c) ha).mem hs hx hy fun t' k => q _ T s.heap k S (h t')⟩
theorem Ends.isStruct {v : Addr} {e : Mine.E} (hT : Tr T e (.ref v)) (hu : c.un + 64 < cLine) (h : K (.bool (Mine.isStr e)) T) : Ends c (compareOp .Eq (.ref v) (.ref 221)) ml T K :=
  ⟨fun s mm Q E S q => by
    obtain ⟨S', CL, F, N, sp, cp, lk, of⟩ := S.ex
    exact struct_eq N F c.inn (hT.mono fun p hp => by simp [hp]) hu (q _ T s.heap s.toks S h)⟩
theorem Ends.tupOf {a : Addr} {vs : List Value} {n : Nat} (ha : (a, seqO vs n) ∈ T) (hz : vs.length ≤ 1000) (hn : notSrc (tup vs) = true) (h : ∀ D T', Ext T T' → (D, tup vs) ∈ T' → K (.ref D) T') : Ends c (PySem.call (.type "tuple") [.ref a]) ml T K :=
  Ends.pushD hn rfl (fun s mm Q E M F N e k => by
    refine call_tuple_list (PySem.IsL.isList (n := n) (N _ (e _ ha)).1) (fun h' hk => ?_) (by rw [List.size_toArray, sizeLine_eq]; omega)
    have F' : Fr c.h₀ c.L h' mm := F.keeps hk
    have N' : News c.h₀ c.L h' M := fun p hp => ⟨hk _ _ (N p hp).1, (N p hp).2⟩
    exact k _ _ s.toks (F'.push _) (N'.push F' _) (fun p hp => Heap.lt_size (N' p hp).1) (.inr F'.ns.lt)) h
theorem Ends.range3 {j : Int} {t : Tok} (h0 : 0 ≤ j) (h1 : j < 3) (k0 : ∀ D T' u v, Ext T T' → (D, rngO ((0 : Nat) : Int) u t v) ∈ T' → K (.ref D) T') (k1 : ∀ D T' u v, Ext T T' → (D, rngO ((1 : Nat) : Int) u t v) ∈ T' → K (.ref D) T') (k2 : ∀ D T' u v, Ext T T' → (D, rngO ((2 : Nat) : Int) u t v) ∈ T' → K (.ref D) T') : Ends c (PySem.call (.type "range") [.int j t]) ml T K := by
  have : j = 0 ∨ j = 1 ∨ j = 2 := by omega
  rcases this with rfl | rfl | rfl
  · exact Ends.range 0 rfl k0
  · exact Ends.range 1 rfl k1
  · exact Ends.range 2 rfl k2
theorem Ends.eleven {src th : Addr} {t0 t1 t2 t3 t4 t5 t6 t7 t8 t9 t10 : Tok} (hs : c.src = some src) (hm : (th, lst [Value.str (Str.ofString "") t0, .str (Str.ofString "+") t1, .str (Str.ofString "-") t2, .str (Str.ofString "*") t3, .str (Str.ofString "/") t4, .str (Str.ofString "%") t5, .str (Str.ofString "&") t6, .str (Str.ofString "|") t7, .str (Str.ofString "^") t8, .str (Str.ofString "<<") t9, .str (Str.ofString ">>") t10]) ∈ T) (hdp : c.dp + 4 < recursionLimit) (hun : c.un + 16 < cLine)
    (k0 : ∀ t, K (.str (Str.ofString "") t) T) (k1 : ∀ (j : _root_.Fin 10) t, K (.str (usg j) t) T) : Ends c (PySem.call (.ref 242) [.ref src, .ref th]) ml T K :=
  Ends.one hs hm (Nat.le_of_ble_eq_true rfl) (Nat.le_of_ble_eq_true rfl) hdp hun fun r i hx hi => by
    have hi : i < 11 := hi
    have : i = 0 ∨ i = 1 ∨ i = 2 ∨ i = 3 ∨ i = 4 ∨ i = 5 ∨ i = 6 ∨ i = 7 ∨ i = 8 ∨ i = 9 ∨ i = 10 := by omega
    rcases this with rfl | rfl | rfl | rfl | rfl | rfl | rfl | rfl | rfl | rfl | rfl <;> cases Option.some.inj hx
    · exact k0 _
    · exact k1 0 _
    · exact k1 1 _
    · exact k1 2 _
    · exact k1 3 _
    · exact k1 4 _
    · exact k1 5 _
    · exact k1 6 _
    · exact k1 7 _
    · exact k1 8 _
    · exact k1 9 _
/-- an item of a tuple or a list at a written place -/
inductive ItemOf : Obj → Int → Value → Prop where
  | tup {vs : List Value} {k : Int} {j : Nat} {x : Value} : -(2 ^ 63) ≤ k → k < 2 ^ 63 → seqIndex? k vs.length = some j → vs[j]? = some x → ItemOf (Mine.tup vs) k x
  | lst {vs : List Value} {n : Nat} {k : Int} {x : Value} : 0 ≤ k → k < 2 ^ 63 → vs[k.toNat]? = some x → ItemOf (seqO vs n) k x
theorem Ends.itm {a : Addr} {o : Obj} {k : Int} {u : Tok} {x : Value} {value slice : PySem.Expr} (hm : Has c T a o) (hI : ItemOf o k x) (hs : subscripted slice false (.ref a) (.int k u) = operate [.ref a, .int k u] (getItem (.ref a) (.int k u))) (h : K x T) : Ends c (subscriptTail value slice (.ref a) (.int k u)) ml T K := by
  cases hI with
  | tup a b d e => exact Ends.item hm a b d e hs h
  | lst a b d => exact Ends.itemL hm a b d hs h
-- what a drawn piece hands on is of tuples alone
theorem Tr.filt {N : Led} {e : Mine.E} {v : Value} (h : Tr N e v) : Tr (N.filter tupB) e v := by
  have s := fun (a : Addr) (vs : List Value) (h : (a, tup vs) ∈ N) => tup_filt h
  have q : ∀ {x : Str} {a : Addr}, PathQ N x a → PathQ (N.filter tupB) x a := fun h => by cases h with | mk a b c d => exact .mk (s _ _ a) (s _ _ b) (s _ _ c) (s _ _ d)
  have pv : ∀ {x : Str} {v : Value}, PathV N x v → PathV (N.filter tupB) x v := fun h => by cases h with | mk a b => exact .mk (s _ _ a) (q b)
  have bx : ∀ {v : Value}, BoxV N v → BoxV (N.filter tupB) v := fun h => by cases h with | mk a b c d e f => exact .mk (s _ _ a) (s _ _ b) (s _ _ c) (s _ _ d) (s _ _ e) (pv f)
  have ty : ∀ {k : _root_.Fin 3} {v : Value}, TysV N k v → TysV (N.filter tupB) k v := fun h => by
    cases h with
    | zero a => exact .zero (s _ _ a)
    | one a b => exact .one (s _ _ a) (pv b)
    | two a b c => exact .two (s _ _ a) (bx b) (pv c)
  induction h with
  | name a => exact .name (pv a)
  | seven a => exact .seven (s _ _ a)
  | zero a => exact .zero (s _ _ a)
  | tru a => exact .tru (s _ _ a)
  | strct => exact .strct
  | block => exact .block
  | ifa a _ ih => exact .ifa (s _ _ a) ih
  | bin a _ _ i j => exact .bin (s _ _ a) i j
  | asg a _ _ i j => exact .asg (s _ _ a) i j
  | upd a _ _ i j => exact .upd (s _ _ a) i j
  | loop a b => exact .loop (s _ _ a) b
  | whl a b _ i => exact .whl (s _ _ a) b i
  | for_ a b c _ _ i j => exact .for_ (s _ _ a) b (s _ _ c) i j
  | cont a b => exact .cont (s _ _ a) b
  | brk0 a b => exact .brk0 (s _ _ a) b
  | brk a b _ i => exact .brk (s _ _ a) b i
  | ret a _ i => exact .ret (s _ _ a) i
  | arr a b _ i => exact .arr (s _ _ a) (s _ _ b) i
  | tpl a b _ i => exact .tpl (s _ _ a) (s _ _ b) i
  | rep a _ i => exact .rep (s _ _ a) i
  | call0 a b _ i => exact .call0 (s _ _ a) (s _ _ b) i
  | call1 a b _ _ i j => exact .call1 (s _ _ a) (s _ _ b) i j
  | call2 a b _ _ _ i j k => exact .call2 (s _ _ a) (s _ _ b) i j k
  | meth0 a b c _ i => exact .meth0 (s _ _ a) (ty b) (s _ _ c) i
  | meth1 a b c _ _ i j => exact .meth1 (s _ _ a) (ty b) (s _ _ c) i j
  | meth2 a b c _ _ _ i j k => exact .meth2 (s _ _ a) (ty b) (s _ _ c) i j k
  | cast a _ b i => exact .cast (s _ _ a) i (pv b)
  | un a _ i => exact .un (s _ _ a) i
  | bor a _ i => exact .bor (s _ _ a) i
theorem Pc.filt {N : Led} {e : Mine.E} {v : Value} (h : Pc N e v) : Pc (N.filter tupB) e v := by
  cases h with | mk a b => exact .mk (tup_filt a) b.filt
theorem room_eq {a b k R : Nat} (e : a = b) (h : b + k < R) : a + k < R := e ▸ h
theorem rmA {a n k m R : Nat} (h : a + (20 * n + k) < R + 1) (hm : m + 1 ≤ k) : a + (20 * n + m) < R := Nat.lt_of_succ_lt_succ (Nat.lt_of_le_of_lt (Nat.add_le_add_left (Nat.add_le_add_left hm _) a) h)
theorem rmB {a n k m R : Nat} (h : a + (20 * n + k) < R + 1) (hm : m + 1 ≤ k) : a + m < R := Nat.lt_of_succ_lt_succ (Nat.lt_of_le_of_lt (Nat.add_le_add_left (Nat.le_trans hm (Nat.le_add_left _ _)) a) h)
theorem rmC {a n k m R : Nat} (h : a + (200 * n + k) < R + 3) (hm : m + 3 ≤ k) : a + (200 * n + m) < R := Nat.lt_of_add_lt_add_right (n := 3) (Nat.lt_of_le_of_lt (Nat.add_le_add_left (Nat.add_le_add_left hm _) a) h)
theorem rmD {a n k m R : Nat} (h : a + (200 * n + k) < R + 3) (hm : m + 3 ≤ k) : a + m < R := Nat.lt_of_add_lt_add_right (n := 3) (Nat.lt_of_le_of_lt (Nat.add_le_add_left (Nat.le_trans hm (Nat.le_add_left _ _)) a) h)
theorem rmE {a k m R : Nat} (h : a + k < R + 1) (hm : m + 1 ≤ k) : a + m < R := Nat.lt_of_succ_lt_succ (Nat.lt_of_le_of_lt (Nat.add_le_add_left hm a) h)
theorem rmF {a k m R : Nat} (h : a + k < R + 3) (hm : m + 3 ≤ k) : a + m < R := Nat.lt_of_add_lt_add_right (n := 3) (Nat.lt_of_le_of_lt (Nat.add_le_add_left hm a) h)
theorem rooms {a b n : Nat} (h : a + (20 * n + 24) < recursionLimit + 1) (h' : b + (200 * n + 250) < cLine + 3) : (a + 1 < recursionLimit ∧ a + 2 < recursionLimit ∧ a + 4 < recursionLimit ∧ a + 8 < recursionLimit ∧ a + (20 * n + 20) < recursionLimit) ∧ b + 8 < cLine ∧ b + 16 < cLine ∧ b + 32 < cLine ∧ b + 64 < cLine ∧ b + (200 * n + 200) < cLine :=
  ⟨⟨rmB h (by decide), rmB h (by decide), rmB h (by decide), rmB h (by decide), rmA h (by decide)⟩, rmD h' (by decide), rmD h' (by decide), rmD h' (by decide), rmD h' (by decide), rmC h' (by decide)⟩
/-- what a drawing def hands on -/
def Piece (n : Nat) (T : Led) (r : Value) : Prop := ∃ e, hgt e ≤ n ∧ hgt e ≤ 6 ∧ Pc T e r
theorem Piece.filt {n : Nat} (T : Led) (r : Value) (h : Piece n T r) : Piece n (T.filter tupB) r := by
  obtain ⟨e, a, b, p⟩ := h
  exact ⟨e, a, b, p.filt⟩
/-- all but one object stands as it stood -/
abbrev ExtX (o : Obj) (T T' : Led) : Prop := ∀ p ∈ T, p.2 ≠ o → p ∈ T'
theorem tup_ne_lst {ws vs : List Value} {n : Nat} : tup ws ≠ seqO vs n := fun e => absurd (Value.type.inj (congrArg Obj.cls e)) (by decide)
theorem upX {T T' : Led} {vs : List Value} {n : Nat} (k : ExtX (seqO vs n) T T') {a : Addr} {ws : List Value} (h : (a, tup ws) ∈ T) : (a, tup ws) ∈ T' := k _ h tup_ne_lst
/-- lists told apart by their lengths or by what their first items are -/
def difV (a b : List Value) : Bool := (a.length != b.length) || (match a, b with
  | .ref _ :: _, .str _ _ :: _ => true
  | .str _ _ :: _, .ref _ :: _ => true
  | _, _ => false)
theorem difV_ne {a b : List Value} (h : difV a b = true) : a ≠ b := by
  rintro rfl
  unfold difV at h
  cases a with
  | nil => simp at h
  | cons x xs => cases x <;> simp at h
theorem upL {T T' : Led} {vs ws : List Value} {n m : Nat} (k : ExtX (seqO vs n) T T') {a : Addr} (h : (a, seqO ws m) ∈ T) (hne : difV ws vs = true) : (a, seqO ws m) ∈ T' := k _ h fun e => difV_ne hne (by
  have h1 := congrArg (fun o : Obj => match o.data with | .seq xs _ => xs.toList | _ => []) e
  simpa using h1)
theorem lt_of {a b d : Addr} (e : a = b) (h : @LT.lt Nat _ b d) : @LT.lt Nat _ a d := e ▸ h
theorem extF {T T' : Led} {vs : List Value} {n : Nat} (k : ExtX (seqO vs n) T T') : Ext (T.filter tupB) T' := fun p hp => by
  obtain ⟨h1, h2⟩ := List.mem_filter.mp hp
  refine k p h1 fun e => ?_
  exact tupB_not h2 (by rw [e])
theorem PathV.filt {N : Led} {x : Str} {v : Value} (h : PathV N x v) : PathV (N.filter tupB) x v := by
  cases h with
  | mk a b => exact .mk (tup_filt a) (by cases b with | mk a b c d => exact .mk (tup_filt a) (tup_filt b) (tup_filt c) (tup_filt d))
theorem PathV.app {T T' : Led} {vs : List Value} {n : Nat} (k : ExtX (seqO vs n) T T') {x : Str} {v : Value} (h : PathV T x v) : PathV T' x v := h.filt.mono (extF k)
theorem tr_of {N : Led} {e : Mine.E} {a : Addr} {vs : List Value} (hm : (a, tup vs) ∈ N) (h : (a, tup vs) ∈ N → Tr N e (.ref a)) : Tr N e (.ref a) := h hm
theorem Tr.forS {N : Led} {n : _root_.Fin 4} {l r : Mine.E} {a x : Addr} {lv v v' : Value} {t1 t2 t3 t4 t5 : Tok} (h : (a, tup [.str (Str.ofString "for") t1, .int 0 t2, lv, .ref x, v, v', .bool true, .ref 215]) ∈ N) (hl : LabV (lbl n) lv) (hx : (x, tup [.str (Str.ofString "name") t3, .int 0 t4, .str (Str.ofString "x") t5, .bool false, .bool false, .none]) ∈ N) (a1 : Tr N l v) (a2 : Tr N r v') : Tr N (.for_ n true l r) (.ref a) := .for_ h hl hx a1 a2
theorem Tr.updS {N : Led} {j : _root_.Fin 10} {l r : Mine.E} {a : Addr} {v v' : Value} {x : Str} {t1 t2 t3 : Tok} (h : (a, tup [.str (Str.ofString "update") t1, .int 0 t2, .str x t3, v, v']) ∈ N) (hl : Tr N l v) (hr : Tr N r v') (hx : x = usg j) : Tr N (.upd j l r) (.ref a) := by
  subst hx; exact .upd h hl hr
end
-- ME
local macro_rules | `(tactic| walk_at "up") => `(tactic| first | with_reducible assumption | (refine' up ?ue ?uh; (case ue => with_reducible assumption); (case uh => walk_at "up")) | (refine' upX ?ue ?uh; (case ue => with_reducible assumption); (case uh => walk_at "up")) | (refine' upL ?ue ?uh ?un; (case ue => with_reducible assumption); (case uh => walk_at "up"); (case un => exact rfl)))
theorem lay_ME_8 : True := by
  k_with "upT" => (first | with_reducible assumption | (refine' Tr.mono ?zue ?zuh; (case zue => with_reducible assumption); (case zuh => walk_at "upT")) | (refine' Tr.app ?zue ?zuh; (case zue => with_reducible assumption); (case zuh => walk_at "upT")))
  k_with "upP" => (first | with_reducible assumption | (refine' PathV.mono ?zue ?zuh; (case zue => with_reducible assumption); (case zuh => walk_at "upP")) | (refine' PathV.app ?zue ?zuh; (case zue => with_reducible assumption); (case zuh => walk_at "upP")))
  k_with "strs" => (first | exact StrsAre.nil | (refine' StrsAre.cons _ _ ?zss; (case zss => walk_at "strs")))
  trivial
local macro_rules | `(tactic| walk_at "lenx") => `(tactic| first | with_reducible assumption | with_reducible exact sgn_len _ | with_reducible exact usg_len _ | with_reducible exact usn_len _ | with_reducible exact lbA_len _ | with_reducible exact lbB_len _ | with_reducible exact ang_len _ | with_reducible exact nm_len _ | (with_reducible refine' txt_small ?mlA _; (case mlA => assumption)) | (with_reducible refine' W_small ?mlA _ _; (case mlA => assumption)) | (with_reducible refine' Sd_small ?mlA _ _; (case mlA => assumption)) | (with_reducible refine' sl_par ?mlA; (case mlA => walk_at "lenx")) | (with_reducible refine' sl_app ?mlA ?mlB; (case mlA => walk_at "lenx"); (case mlB => walk_at "lenx")) | exact Nat.le_refl _)
theorem lay_ME_9 : True := by
  k_with "sz" => ((refine' Nat.le_trans (Nat.add_le_add ?zmlP ?zmlQ) ?zmlR; (case zmlP => walk_at "lenx"); (case zmlQ => walk_at "lenx"); (case zmlR => exact Nat.le_of_ble_eq_true rfl)))
  k_with "sz1" => ((refine' Nat.le_trans ?zmlP ?zmlR; (case zmlP => walk_at "lenx"); (case zmlR => exact Nat.le_of_ble_eq_true rfl)))
  k_with "room" => (first | assumption | (refine' room_eq ?zrme ?zrmh; (case zrme => assumption); (case zrmh => assumption)))
  k_with "ev" => (first
      | (with_reducible intro t9)
      | ((refine (?_ : Ends _ _ _ _ _)); (refine Ends.letK ?_); intro K9; walk_at "evl")
      | ((refine (?_ : EndsS _ _ _ _ _ _)); walk_at "evs")
      | ((refine (?_ : wpC _ _ _ _ _ _ _ _ _ _ _ _)); walk_at "evt")
      | intro t9
      | ((fail_if_success (show Ends _ _ _ _ _)); walk_at "evn"))
  k_with "evt" => (first
      | (refine wpC_rng ?_; intro t9 c9 V9 ea9 eb9 ec9 ed9; (try (have hs9 := Eq.trans ea9 (by assumption))))
      | (refine wpC_lst rfl ?_; intro c9 V9 ea9 eb9 ec9 ed9; (try (have hs9 := Eq.trans ea9 (by assumption)))))
  k_with "evs" => (first
      | (refine EndsS.compE ?_ ?_ ?_ ?_ ?_; assumption; exact rfl; exact rfl; with_unfolding_all rfl)
      | (refine EndsS.compF ?_ ?_ ?_ ?_ ?_; assumption; exact rfl; exact rfl; with_unfolding_all rfl))
  k_with "evn" => (first
      | refine Swp.mk _ rfl ?_
      | (refine MlK.of ?_; intro m9)
      | (refine And.intro ?_ ?_; first | exact trivial | (refine Has.new ?_; walk_at "up"))
      | (refine' Unp.mk (Has.new ?zhm) ?zhb ?_; (case zhm => walk_at "up"); (case zhb => exact rfl))
      | (refine' CompS.rng (Has.new ?zhm) ?zhz ?_; (case zhm => walk_at "up"); (case zhz => exact Nat.le_of_ble_eq_true rfl))
      | (refine' CompS.lst (Has.new ?zhm) ?zhz ?_; (case zhm => walk_at "up"); (case zhz => exact Nat.le_of_ble_eq_true rfl))
      | (refine CompK.mk rfl ?_; intro D9 T9 e9 m9; (try dsimp only [List.nil_append, List.cons_append, List.length_cons, List.length_nil] at m9))
      | walk_at "evb")
  k_with "evb" => (first
      | (refine bcase_t ?_ ?_; with_reducible rfl)
      | (refine bcase_f ?_ ?_; with_reducible rfl)
      | (refine bcase_b ?_ ?_ <;> intro h9))
  k_with "evl" => (first
      | ((with_reducible refine' Ends.addStr ?zhz ?_); (case zhz => walk_at "sz"))
      | (with_reducible refine Ends.addInt ?_)
      | (with_reducible refine Ends.subInt ?_)
      | (with_reducible refine Ends.eqInt ?_)
      | (with_reducible refine Ends.eqStr ?_)
      | (with_reducible refine Ends.isStr ?_)
      | (with_reducible refine Ends.isNone ?_)
      | ((with_reducible refine' Ends.itm (Has.new ?zhm) ?zhI ?zhs ?_); (case zhm => walk_at "up"); (case zhI => first | exact ItemOf.tup (by decide) (by decide) rfl rfl | exact ItemOf.lst (by decide) (by decide) rfl); (case zhs => with_unfolding_all rfl))
      | (with_reducible refine Ends.ltInt ?_)
      | (with_reducible refine Ends.gtInt ?_)
      | (with_reducible refine Ends.intB ?_)
      | ((with_reducible refine' Ends.joinE ?zhe ?zhp ?_); (case zhe => with_unfolding_all rfl); (case zhp => exact rfl))
      | ((with_reducible refine' Ends.join0 ?zha ?zhz ?_); (case zha => walk_at "up"); (case zhz => decide))
      | ((with_reducible refine' Ends.join1 ?zha ?zhz ?zhx ?_); (case zha => walk_at "up"); (case zhz => decide); (case zhx => walk_at "sz1"))
      | ((with_reducible refine' Ends.join2 ?zha ?zhz ?zhx ?zhy ?_); (case zha => walk_at "up"); (case zhz => decide); (case zhx => walk_at "sz1"); (case zhy => walk_at "sz1"))
      | ((with_reducible refine' Ends.isStruct ?zhT ?zhu ?_); (case zhT => walk_at "upT"); (case zhu => walk_at "room"))
      | ((with_reducible refine' Ends.tupOf ?zha ?zhz ?zhn ?_); (case zha => walk_at "up"); (case zhz => exact Nat.le_of_ble_eq_true rfl); (case zhn => exact rfl); intro D9 T9 e9 m9)
      | ((with_reducible refine' Ends.mul2 ?zhm ?zhn ?_); (case zhm => walk_at "up"); (case zhn => exact rfl); intro D9 T9 e9 m9)
      | ((with_reducible refine Ends.range 2 rfl ?_); intro D9 T9 t91 t92 e9 m9)
      | ((with_reducible refine Ends.compE ?_ ?_ ?_); assumption; exact rfl)
      | ((with_reducible refine' Ends.head ?zhT ?zhs ?_); (case zhT => walk_at "upT"); (case zhs => with_unfolding_all rfl))
      | ((with_reducible refine' Ends.inLst ?zhm ?zhv ?_); (case zhm => walk_at "up"); (case zhv => walk_at "strs"))
      | ((with_reducible refine Ends.newTup ?_ ?_ ?_); exact Nat.le_of_ble_eq_true rfl; exact rfl; intro D9 T9 e9 m9)
      | ((with_reducible refine Ends.newLst ?_ ?_ ?_); exact Nat.le_of_ble_eq_true rfl; exact rfl; intro D9 T9 e9 m9)
      | ((with_reducible refine Ends.take ?_ ?_ ?_ ?_ ?_ ?_); assumption; decide; decide; assumption; assumption; intro j9 t9 l9 u9)
      | ((with_reducible refine' Ends.expr ?zhs ?zhX ?zhk ?zhd ?zhu ?_); (case zhs => assumption); (case zhX => assumption); (case zhk => assumption); (case zhd => walk_at "room"); (case zhu => walk_at "room"); intro T9 x9 p9 v9 t91 t92 t93 e9 a9 b9 m9 r9)
      | ((with_reducible refine' Ends.beside ?zhm ?zhT ?zh6 ?zhd ?zhu ?_); (case zhm => walk_at "up"); (case zhT => walk_at "upT"); (case zh6 => assumption); (case zhd => walk_at "room"); (case zhu => walk_at "room"); intro T9 l9 t91 t92 e9 m9)
      | ((with_reducible refine' Ends.both ?zhm ?zh6 ?zhd ?zhu ?_); (case zhm => walk_at "up"); (case zh6 => assumption); (case zhd => walk_at "room"); (case zhu => walk_at "room"); intro T9 l9 t91 t92 e9 m9)
      | ((with_reducible refine Ends.path ?_ ?_ ?_); assumption; assumption; intro T9 a9 e9 m9)
      | ((with_reducible refine Ends.closed ?_ ?_ ?_); assumption; assumption; intro T9 p9 t91 t92 t93 e9 m9)
      | ((with_reducible refine' Ends.open2 ?zhx ?zhd ?zhu ?_); (case zhx => walk_at "sz1"); (case zhd => walk_at "room"); (case zhu => walk_at "room"); intro T9 p9 t91 t92 t93 e9 m9)
      | ((with_reducible refine' Ends.open3 ?zhx ?zhd ?zhu ?_); (case zhx => walk_at "sz1"); (case zhd => walk_at "room"); (case zhu => walk_at "room"); intro T9 p9 t91 t92 t93 e9 m9)
      | walk_at "evo")
  k_with "evo" => (fail)
  k_with "pcf" => (((refine' EndK.h ?zkk _ _ ?_; (case zkk => assumption)); refine' pc_fin ?zhm ?T ?hx ?hy ?hk ?h1 ?h2; (case zhm => walk_at "up")))
  k_with "pcz" => (((case hk => exact rfl); (case h1 => simp only [hgt]; omega); (case h2 => simp only [hgt]; omega)))
  k_with "rooms" => (((rename _ < recursionLimit + 1 => hdp); (rename _ < cLine + 3 => hun); obtain ⟨⟨hr1, hr2, hr3, hr4, hr5⟩, hr6, hr7, hr8, hr9, hr10⟩ := rooms hdp hun))
  k_with "body" => (((case ho => k_is); (case hcd => k_is); (case hb => exact fun _ => rfl); (case hl => exact fun _ => rfl); (case hc => first | exact rfl | decide +kernel); (case h1 => exact rfl); (case h2 => exact rfl); (case h3 => exact rfl); (case h4 => omega); (case hP => exact Piece.filt)))
  trivial
-- HP
theorem Tr.nmA {N : Led} {v : Value} (h : PathV N (Str.ofString "a") v) : Tr N (.name false) v := .name h
theorem Tr.nmB {N : Led} {v : Value} (h : PathV N (Str.ofString "bc") v) : Tr N (.name true) v := .name h
section
variable {w : World} {cs : Scope} {c : Cx w cs} {ml : Mp} {T : Led} {K : Value → Led → Prop}
theorem Ends.oneP {P : Value → Prop} {src th : Addr} {vs : List Value} (hs : c.src = some src) (hm : (th, lst vs) ∈ T) (h0 : 0 < vs.length) (h1 : vs.length ≤ 20) (hdp : c.dp + 4 < recursionLimit) (hun : c.un + 16 < cLine) (hP : AllK vs P) (k : ∀ r, P r → K r T) :
    Ends c (PySem.call (.ref 242) [.ref src, .ref th]) ml T K := Ends.one hs hm h0 h1 hdp hun fun _ _ hx _ => k _ (hP.at hx)
end
abbrev LeafP (T : Led) (r : Value) : Prop := ∃ e, hgt e ≤ 1 ∧ Pc T e r
theorem LeafP.filt (T : Led) (r : Value) (h : LeafP T r) : LeafP (T.filter tupB) r := by
  obtain ⟨e, a, p⟩ := h
  exact ⟨e, a, p.filt⟩
theorem LeafP.mk {T : Led} {e : Mine.E} {p v : Addr} {x y : Str} {k : Int} {t1 t2 t3 : Tok} (hm : (p, tup [.ref v, .str x t1, .str y t2, .int k t3]) ∈ T) (hT : Tr T e (.ref v)) (h : hgt e ≤ 1) (hx : x = txt e false) (hy : y = txt e true) (hk : k = lvl e) : LeafP T (.ref p) := ⟨e, h, .mk' hm hT hx hy hk⟩
theorem roomsL {a b : Nat} (h : a + 8 < recursionLimit + 1) (h' : b + 32 < cLine + 3) : (a + 2 < recursionLimit ∧ a + 4 < recursionLimit) ∧ b + 8 < cLine ∧ b + 16 < cLine := by omega
section
theorem lay_HP_10 : True := by
  k_with "lfm" => ((fail_if_success (have zoff := off_HP_9)); ((refine' LeafP.mk ?zhm ?zhT ?zhh rfl rfl rfl; (case zhm => walk_at "up"))))
  trivial
theorem leaf_gen (w : World) (N : Led) : Gen w 285 [] 8 32 N (fun N' r => ∃ e, hgt e ≤ 1 ∧ Pc N' e r) := by
  w_on
  refine' callX_plainG (P := LeafP) (ml0 := fun src => [(Str.ofString "source", .ref src)]) ?ho ?hcd ?hb ?hl ?hc ?h1 ?h2 ?h3 ?h4 LeafP.filt ?_
  case ho => k_is
  case hcd => k_is
  case hb => exact fun _ => rfl
  case hl => exact fun _ => rfl
  case hc => exact rfl
  case h1 => exact rfl
  case h2 => exact rfl
  case h3 => exact rfl
  case h4 => omega
  intro c src hs hN hx0 hdp hun Kr hKr
  obtain ⟨⟨hr1, hr2⟩, hr3, hr4⟩ := roomsL hdp hun
  refine wpS_ok0 20 _ _ _ _ _ ?_
  repeat' (walk_at "ev")
  refine' Ends.oneP (P := LeafP _) hs ?zhm ?zh0 ?zh1 hr2 hr4 ?zhP (fun r h => hKr.h r _ h)
  case zhm => walk_at "up"
  case zh0 => exact Nat.le_of_ble_eq_true rfl
  case zh1 => exact Nat.le_of_ble_eq_true rfl
  case zhP =>
    refine ⟨?_, ?_, ?_, ?_, ?_, ?_, ?_, ?_, True.intro⟩
    · refine' LeafP.mk (e := .name false) ?zm ?zT (Nat.zero_le _) ?zx ?zy ?zk
      case zm => walk_at "up"
      case zT => (refine' Tr.nmA ?zp; (case zp => walk_at "upP"))
      case zx => exact rfl
      case zy => exact rfl
      case zk => exact rfl
    · refine' LeafP.mk (e := .name true) ?zm ?zT (Nat.zero_le _) ?zx ?zy ?zk
      case zm => walk_at "up"
      case zT => (refine' Tr.nmB ?zp; (case zp => walk_at "upP"))
      case zx => exact rfl
      case zy => exact rfl
      case zk => exact rfl
    · refine' LeafP.mk (e := .seven) ?zm ?zT (Nat.zero_le _) ?zx ?zy ?zk
      case zm => walk_at "up"
      case zT => (refine' Tr.seven ?zn; (case zn => walk_at "up"))
      case zx => exact rfl
      case zy => exact rfl
      case zk => exact rfl
    · refine' LeafP.mk (e := .zero) ?zm ?zT (Nat.zero_le _) ?zx ?zy ?zk
      case zm => walk_at "up"
      case zT => (refine' Tr.zero ?zn; (case zn => walk_at "up"))
      case zx => exact rfl
      case zy => exact rfl
      case zk => exact rfl
    · refine' LeafP.mk (e := .tru) ?zm ?zT (Nat.zero_le _) ?zx ?zy ?zk
      case zm => walk_at "up"
      case zT => (refine' Tr.tru ?zn; (case zn => walk_at "up"))
      case zx => exact rfl
      case zy => exact rfl
      case zk => exact rfl
    · refine' LeafP.mk (e := .strct) ?zm ?zT (Nat.zero_le _) ?zx ?zy ?zk
      case zm => walk_at "up"
      case zT => (refine' Tr.strct)
      case zx => exact rfl
      case zy => exact rfl
      case zk => exact rfl
    · refine' LeafP.mk (e := .block) ?zm ?zT (Nat.zero_le _) ?zx ?zy ?zk
      case zm => walk_at "up"
      case zT => (refine' Tr.block)
      case zx => exact rfl
      case zy => exact rfl
      case zk => exact rfl
    · refine' LeafP.mk (e := .ifa) ?zm ?zT (Nat.le_refl _) ?zx ?zy ?zk
      case zm => walk_at "up"
      case zT => (refine' Tr.ifa ?zn (Tr.nmA ?zp); (case zn => walk_at "up"); (case zp => walk_at "upP"))
      case zx => exact rfl
      case zy => exact rfl
      case zk => exact rfl
end
theorem off_HP_9 : True := trivial
-- HE
section
theorem lay_HE_11 : True := by
  k_with "evo" => ((fail_if_success (have zoff := off_HE_10)); (first
      | ((with_reducible refine Ends.strs ?_ ?_ ?_); assumption; assumption; intro T9 l9 e9 m9)
      | ((with_reducible refine' Ends.strIdx ?zH ?zh0 ?zh1 ?zhs ?_); (case zH => assumption); (case zh0 => assumption); (case zh1 => assumption); (case zhs => with_unfolding_all rfl); intro a9 vs9 m9 p9 q9 s9)
      | ((with_reducible refine' Ends.oneS ?zhs ?zhm ?zh0 ?zh1 ?zH ?zhd ?zhu ?_); (case zhs => assumption); (case zhm => walk_at "up"); (case zh0 => assumption); (case zh1 => assumption); (case zH => assumption); (case zhd => walk_at "room"); (case zhu => walk_at "room"); intro j9 t9 b9)))
  trivial
theorem operated_gen (w : World) (n : Nat) (hX : XG w n) (k : Int) (tk : Tok) (N : Led) (hk0 : k = (n : Int) + 1) (hn : n ≤ 4) :
    Gen w 290 [.int k tk] (20 * n + 24) (200 * n + 250) N (fun N' r => ∃ e, hgt e ≤ n + 2 ∧ hgt e ≤ 6 ∧ Pc N' e r) := by
  w_on
  refine' callX_cellsG (ml0 := fun src => [(Str.ofString "source", .ref src), (Str.ofString "deep", .int k tk)]) ?ho ?hcd ?hb ?hl ?hc ?h1 ?h2 ?h3 ?h4 ?hP ?_
  walk_at "body"
  intro c src hs hN hx0 hcl hdp hun Kr hKr
  walk_at "rooms"
  have hk1 : k - 1 = (n : Int) := by omega
  refine wpS_ok0 20 _ _ _ _ _ ?_
  repeat' (walk_at "ev")
  (rename blv _ = _ => hb)
  walk_at "pcf"
  case T => (refine' Tr.bin ?a ?b ?c; (case a => walk_at "up"); (case b => walk_at "upT"); (case c => walk_at "upT"))
  case hx => exact bin_txt hb
  case hy => exact bin_txt hb
  case hk => exact hb.symm
  case h1 => simp only [hgt]; omega
  case h2 => simp only [hgt]; omega
end
theorem off_HE_10 : True := trivial
-- HF
theorem usg_ne (j : Fin 10) : (usg j == Str.ofString "") = false := by revert j; decide
theorem asg_txt {l r : E} {b : Bool} : Sd l 1 b ++ Str.ofString " " ++ Str.ofString "" ++ Str.ofString "= " ++ txt r b = txt (.asg l r) b := by
  show _ = Sd l 1 b ++ Str.ofString " = " ++ txt r b
  rw [Str.append_assoc (Sd l 1 b), Str.append_assoc (Sd l 1 b)]
  congr 2
theorem upd_txt {j : Fin 10} {l r : E} {b : Bool} : Sd l 1 b ++ Str.ofString " " ++ usg j ++ Str.ofString "= " ++ txt r b = txt (.upd j l r) b := rfl
section
theorem lay_HF_12 : True := by
  k_with "evb" => ((fail_if_success (have zoff := off_HF_11)); (first
      | (refine bcase_t ?_ ?_; with_reducible exact beq_self_eq_true _)
      | (refine bcase_f ?_ ?_; with_reducible exact usg_ne _)))
  k_with "evo" => ((fail_if_success (have zoff := off_HF_11)); (((with_reducible refine' Ends.eleven ?zhs ?zhm ?zhd ?zhu ?_ ?_); (case zhs => assumption); (case zhm => walk_at "up"); (case zhd => walk_at "room"); (case zhu => walk_at "room"))))
  trivial
theorem assigned_gen (w : World) (n : Nat) (hX : XG w n) (k : Int) (tk : Tok) (N : Led) (hk0 : k = (n : Int) + 1) (hn : n ≤ 4) :
    Gen w 295 [.int k tk] (20 * n + 24) (200 * n + 250) N (fun N' r => ∃ e, hgt e ≤ n + 2 ∧ hgt e ≤ 6 ∧ Pc N' e r) := by
  w_on
  refine' callX_cellsG (ml0 := fun src => [(Str.ofString "source", .ref src), (Str.ofString "deep", .int k tk)]) ?ho ?hcd ?hb ?hl ?hc ?h1 ?h2 ?h3 ?h4 ?hP ?_
  walk_at "body"
  intro c src hs hN hx0 hcl hdp hun Kr hKr
  walk_at "rooms"
  have hk1 : k - 1 = (n : Int) := by omega
  refine wpS_ok0 20 _ _ _ _ _ ?_
  repeat' (walk_at "ev")
  · walk_at "pcf"
    case T => (refine' Tr.asg ?a ?b ?c; (case a => walk_at "up"); (case b => walk_at "upT"); (case c => walk_at "upT"))
    case hx => exact asg_txt
    case hy => exact asg_txt
    walk_at "pcz"
  · walk_at "pcf"
    case T => (refine' Tr.upd ?a ?b ?c; (case a => walk_at "up"); (case b => walk_at "upT"); (case c => walk_at "upT"))
    case hx => exact upd_txt
    case hy => exact upd_txt
    walk_at "pcz"
end
theorem off_HF_11 : True := trivial
-- HG
theorem lab_none : LabV (lbl 0) .none := LabV.none
theorem lab_some {n : Fin 4} {x : Str} {t : Tok} (h : lbl n = some x) : LabV (lbl n) (.str x t) := by rw [h]; exact .some
theorem lbA_some {n : Fin 4} {x : Str} (h : lbl n = some x) : lbA n = x ++ Str.ofString ": " := by unfold lbA; rw [h]
theorem lbB_some {n : Fin 4} {x : Str} (h : lbl n = some x) : lbB n = Str.ofString " " ++ x := by unfold lbB; rw [h]
theorem loop_txt {n : Fin 4} {y : Str} (h : lbA n = y) : y ++ Str.ofString "loop {}" = txt (.loop n) false ∧ par (y ++ Str.ofString "loop {}") = txt (.loop n) true := by subst h; exact ⟨rfl, rfl⟩
theorem whl_txt {n : Fin 4} {y : Str} {c : Mine.E} (h : lbA n = y) : y ++ Str.ofString "while " ++ txt c true ++ Str.ofString " {}" = txt (.whl n c) false ∧ par (y ++ Str.ofString "while " ++ txt c true ++ Str.ofString " {}") = txt (.whl n c) true := by subst h; exact ⟨rfl, rfl⟩
theorem for_txt1 {n : Fin 4} {y : Str} {z : Bool} {l r : Mine.E} (hz : z = true) (h : lbA n = y) : y ++ Str.ofString "for x in " ++ (Sd l 1 true ++ Str.ofString " ..= " ++ Sd r 1 true) ++ Str.ofString " {}" = txt (.for_ n z l r) false ∧ par (y ++ Str.ofString "for x in " ++ (Sd l 1 true ++ Str.ofString " ..= " ++ Sd r 1 true) ++ Str.ofString " {}") = txt (.for_ n z l r) true := by subst h hz; exact ⟨rfl, rfl⟩
theorem for_txt0 {n : Fin 4} {y : Str} {z : Bool} {l r : Mine.E} (hz : z = false) (h : lbA n = y) : y ++ Str.ofString "for x in " ++ (Sd l 1 true ++ Str.ofString " .. " ++ Sd r 1 true) ++ Str.ofString " {}" = txt (.for_ n z l r) false ∧ par (y ++ Str.ofString "for x in " ++ (Sd l 1 true ++ Str.ofString " .. " ++ Sd r 1 true) ++ Str.ofString " {}") = txt (.for_ n z l r) true := by subst h hz; exact ⟨rfl, rfl⟩
section
theorem lay_HG_13 : True := by
  k_with "lab" => ((fail_if_success (have zoff := off_HG_12)); (first | exact lab_none | exact lab_some (by assumption)))
  k_with "lba" => ((fail_if_success (have zoff := off_HG_12)); (first | exact rfl | exact lbA_some (by assumption)))
  k_with "evo" => ((fail_if_success (have zoff := off_HG_12)); (((with_reducible refine' Ends.lab ?zhs ?zhm ?zhd ?zhu ?_ ?_); (case zhs => assumption); (case zhm => walk_at "up"); (case zhd => walk_at "room"); (case zhu => walk_at "room"); (intro n9 x9 t9 b9 q9))))
  trivial
theorem looped_gen (w : World) (n : Nat) (hX : XG w n) (k : Int) (tk : Tok) (N : Led) (hk0 : k = (n : Int) + 1) (hn : n ≤ 4) :
    Gen w 302 [.int k tk] (20 * n + 24) (200 * n + 250) N (fun N' r => ∃ e, hgt e ≤ n + 2 ∧ hgt e ≤ 6 ∧ Pc N' e r) := by
  w_on
  refine' callX_plainG (ml0 := fun src => [(Str.ofString "source", .ref src), (Str.ofString "deep", .int k tk)]) ?ho ?hcd ?hb ?hl ?hc ?h1 ?h2 ?h3 ?h4 ?hP ?_
  walk_at "body"
  intro c src hs hN hx0 hdp hun Kr hKr
  walk_at "rooms"
  have hk1 : k - 1 = (n : Int) := by omega
  refine wpS_ok0 20 _ _ _ _ _ ?_
  repeat' (walk_at "ev")
  · walk_at "pcf"
    case T => (refine' Tr.loop ?a ?b; (case a => walk_at "up"); (case b => walk_at "lab"))
    case hx => (refine (loop_txt ?_).1; walk_at "lba")
    case hy => (refine (loop_txt ?_).2; walk_at "lba")
    walk_at "pcz"
  · walk_at "pcf"
    case T => (refine' Tr.whl ?a ?b ?c; (case a => walk_at "up"); (case b => walk_at "lab"); (case c => walk_at "upT"))
    case hx => (refine (whl_txt ?_).1; walk_at "lba")
    case hy => (refine (whl_txt ?_).2; walk_at "lba")
    walk_at "pcz"
  · walk_at "pcf"
    case T => (refine' Tr.for_ ?a ?b ?c ?d ?e; (case a => walk_at "up"); (case b => walk_at "lab"); (case c => walk_at "up"); (case d => walk_at "upT"); (case e => walk_at "upT"))
    case hx => (refine (for_txt1 ?_ ?_).1; assumption; walk_at "lba")
    case hy => (refine (for_txt1 ?_ ?_).2; assumption; walk_at "lba")
    walk_at "pcz"
  · walk_at "pcf"
    case T => (refine' Tr.for_ ?a ?b ?c ?d ?e; (case a => walk_at "up"); (case b => walk_at "lab"); (case c => walk_at "up"); (case d => walk_at "upT"); (case e => walk_at "upT"))
    case hx => (refine (for_txt0 ?_ ?_).1; assumption; walk_at "lba")
    case hy => (refine (for_txt0 ?_ ?_).2; assumption; walk_at "lba")
    walk_at "pcz"
  · walk_at "pcf"
    case T => (refine' Tr.loop ?a ?b; (case a => walk_at "up"); (case b => walk_at "lab"))
    case hx => (refine (loop_txt ?_).1; walk_at "lba")
    case hy => (refine (loop_txt ?_).2; walk_at "lba")
    walk_at "pcz"
  · walk_at "pcf"
    case T => (refine' Tr.whl ?a ?b ?c; (case a => walk_at "up"); (case b => walk_at "lab"); (case c => walk_at "upT"))
    case hx => (refine (whl_txt ?_).1; walk_at "lba")
    case hy => (refine (whl_txt ?_).2; walk_at "lba")
    walk_at "pcz"
  · walk_at "pcf"
    case T => (refine' Tr.for_ ?a ?b ?c ?d ?e; (case a => walk_at "up"); (case b => walk_at "lab"); (case c => walk_at "up"); (case d => walk_at "upT"); (case e => walk_at "upT"))
    case hx => (refine (for_txt1 ?_ ?_).1; assumption; walk_at "lba")
    case hy => (refine (for_txt1 ?_ ?_).2; assumption; walk_at "lba")
    walk_at "pcz"
  · walk_at "pcf"
    case T => (refine' Tr.for_ ?a ?b ?c ?d ?e; (case a => walk_at "up"); (case b => walk_at "lab"); (case c => walk_at "up"); (case d => walk_at "upT"); (case e => walk_at "upT"))
    case hx => (refine (for_txt0 ?_ ?_).1; assumption; walk_at "lba")
    case hy => (refine (for_txt0 ?_ ?_).2; assumption; walk_at "lba")
    walk_at "pcz"
end
theorem off_HG_12 : True := trivial
-- HH
theorem blk_any (e : Mine.E) : ([Str.ofString "block", Str.ofString "if", Str.ofString "loop", Str.ofString "while", Str.ofString "for"].any fun x => x == kind e) = isBlk e := by cases e <;> exact rfl
theorem blk_of {e : Mine.E} {b : Bool} (h : ([Str.ofString "block", Str.ofString "if", Str.ofString "loop", Str.ofString "while", Str.ofString "for"].any fun x => x == kind e) = b) : isBlk e = b := (blk_any e).symm.trans h
theorem cont_txt {n : Fin 4} {y : Str} (h : lbB n = y) : Str.ofString "continue" ++ y = txt (.cont n) false ∧ par (Str.ofString "continue" ++ y) = txt (.cont n) true := by subst h; exact ⟨rfl, rfl⟩
theorem brk0_txt {n : Fin 4} {y : Str} (h : lbB n = y) : Str.ofString "break" ++ y = txt (.brk0 n) false ∧ par (Str.ofString "break" ++ y) = txt (.brk0 n) true := by subst h; exact ⟨rfl, rfl⟩
theorem brk_txt1 {n : Fin 4} {y : Str} {c : Mine.E} (hz : isBlk c = true) (h : lbB n = y) : Str.ofString "break" ++ y ++ Str.ofString " " ++ (Str.ofString "(" ++ txt c false ++ Str.ofString ")") = txt (.brk n c) false ∧ par (Str.ofString "break" ++ y ++ Str.ofString " " ++ (Str.ofString "(" ++ txt c false ++ Str.ofString ")")) = txt (.brk n c) true := by subst h; simp only [txt, opb, hz, if_true, par, Bool.false_eq_true, if_false, and_self]
theorem brk_txt0 {n : Fin 4} {y : Str} {c : Mine.E} (hz : isBlk c = false) (h : lbB n = y) : Str.ofString "break" ++ y ++ Str.ofString " " ++ txt c false = txt (.brk n c) false ∧ par (Str.ofString "break" ++ y ++ Str.ofString " " ++ txt c false) = txt (.brk n c) true := by subst h; simp only [txt, opb, hz, if_true, par, Bool.false_eq_true, if_false, and_self]
theorem ret_txt1 {c : Mine.E} (hz : isBlk c = true) : Str.ofString "return " ++ (Str.ofString "(" ++ txt c false ++ Str.ofString ")") = txt (.ret c) false ∧ par (Str.ofString "return " ++ (Str.ofString "(" ++ txt c false ++ Str.ofString ")")) = txt (.ret c) true := by simp only [txt, opb, hz, if_true, par, Bool.false_eq_true, if_false, and_self]
theorem ret_txt0 {c : Mine.E} (hz : isBlk c = false) : Str.ofString "return " ++ txt c false = txt (.ret c) false ∧ par (Str.ofString "return " ++ txt c false) = txt (.ret c) true := by simp only [txt, opb, hz, if_true, par, Bool.false_eq_true, if_false, and_self]
section
theorem lay_HH_14 : True := by
  k_with "evo" => ((fail_if_success (have zoff := off_HH_13)); (((with_reducible refine' Ends.lab ?zhs ?zhm ?zhd ?zhu ?_ ?_); (case zhs => assumption); (case zhm => walk_at "up"); (case zhd => walk_at "room"); (case zhu => walk_at "room"); (intro n9 x9 t9 b9 q9))))
  k_with "lab" => ((fail_if_success (have zoff := off_HH_13)); (first | exact lab_none | exact lab_some (by assumption)))
  k_with "lbb" => ((fail_if_success (have zoff := off_HH_13)); (first | exact rfl | exact lbB_some (by assumption)))
  trivial
theorem jump_gen (w : World) (n : Nat) (hX : XG w n) (k : Int) (tk : Tok) (N : Led) (hk0 : k = (n : Int) + 1) (hn : n ≤ 4) :
    Gen w 309 [.int k tk] (20 * n + 24) (200 * n + 250) N (fun N' r => ∃ e, hgt e ≤ n + 2 ∧ hgt e ≤ 6 ∧ Pc N' e r) := by
  w_on
  refine' callX_plainG (ml0 := fun src => [(Str.ofString "source", .ref src), (Str.ofString "deep", .int k tk)]) ?ho ?hcd ?hb ?hl ?hc ?h1 ?h2 ?h3 ?h4 ?hP ?_
  walk_at "body"
  intro c src hs hN hx0 hdp hun Kr hKr
  walk_at "rooms"
  have hk1 : k - 1 = (n : Int) := by omega
  refine wpS_ok0 20 _ _ _ _ _ ?_
  repeat' (walk_at "ev")
  · walk_at "pcf"
    case T => (refine' Tr.cont ?a ?b; (case a => walk_at "up"); (case b => walk_at "lab"))
    case hx => (refine (cont_txt ?_).1; walk_at "lbb")
    case hy => (refine (cont_txt ?_).2; walk_at "lbb")
    walk_at "pcz"
  · walk_at "pcf"
    case T => (refine' Tr.brk0 ?a ?b; (case a => walk_at "up"); (case b => walk_at "lab"))
    case hx => (refine (brk0_txt ?_).1; walk_at "lbb")
    case hy => (refine (brk0_txt ?_).2; walk_at "lbb")
    walk_at "pcz"
  · walk_at "pcf"
    case T => (refine' Tr.brk ?a ?b ?c; (case a => walk_at "up"); (case b => walk_at "lab"); (case c => walk_at "upT"))
    case hx => (refine (brk_txt1 (blk_of (by assumption)) ?_).1; walk_at "lbb")
    case hy => (refine (brk_txt1 (blk_of (by assumption)) ?_).2; walk_at "lbb")
    walk_at "pcz"
  · walk_at "pcf"
    case T => (refine' Tr.ret ?a ?c; (case a => walk_at "up"); (case c => walk_at "upT"))
    case hx => exact (ret_txt1 (blk_of (by assumption))).1
    case hy => exact (ret_txt1 (blk_of (by assumption))).2
    walk_at "pcz"
  · walk_at "pcf"
    case T => (refine' Tr.brk ?a ?b ?c; (case a => walk_at "up"); (case b => walk_at "lab"); (case c => walk_at "upT"))
    case hx => (refine (brk_txt0 (blk_of (by assumption)) ?_).1; walk_at "lbb")
    case hy => (refine (brk_txt0 (blk_of (by assumption)) ?_).2; walk_at "lbb")
    walk_at "pcz"
  · walk_at "pcf"
    case T => (refine' Tr.ret ?a ?c; (case a => walk_at "up"); (case c => walk_at "upT"))
    case hx => exact (ret_txt0 (blk_of (by assumption))).1
    case hy => exact (ret_txt0 (blk_of (by assumption))).2
    walk_at "pcz"
  · walk_at "pcf"
    case T => (refine' Tr.cont ?a ?b; (case a => walk_at "up"); (case b => walk_at "lab"))
    case hx => (refine (cont_txt ?_).1; walk_at "lbb")
    case hy => (refine (cont_txt ?_).2; walk_at "lbb")
    walk_at "pcz"
  · walk_at "pcf"
    case T => (refine' Tr.brk0 ?a ?b; (case a => walk_at "up"); (case b => walk_at "lab"))
    case hx => (refine (brk0_txt ?_).1; walk_at "lbb")
    case hy => (refine (brk0_txt ?_).2; walk_at "lbb")
    walk_at "pcz"
  · walk_at "pcf"
    case T => (refine' Tr.brk ?a ?b ?c; (case a => walk_at "up"); (case b => walk_at "lab"); (case c => walk_at "upT"))
    case hx => (refine (brk_txt1 (blk_of (by assumption)) ?_).1; walk_at "lbb")
    case hy => (refine (brk_txt1 (blk_of (by assumption)) ?_).2; walk_at "lbb")
    walk_at "pcz"
  · walk_at "pcf"
    case T => (refine' Tr.ret ?a ?c; (case a => walk_at "up"); (case c => walk_at "upT"))
    case hx => exact (ret_txt1 (blk_of (by assumption))).1
    case hy => exact (ret_txt1 (blk_of (by assumption))).2
    walk_at "pcz"
  · walk_at "pcf"
    case T => (refine' Tr.brk ?a ?b ?c; (case a => walk_at "up"); (case b => walk_at "lab"); (case c => walk_at "upT"))
    case hx => (refine (brk_txt0 (blk_of (by assumption)) ?_).1; walk_at "lbb")
    case hy => (refine (brk_txt0 (blk_of (by assumption)) ?_).2; walk_at "lbb")
    walk_at "pcz"
  · walk_at "pcf"
    case T => (refine' Tr.ret ?a ?c; (case a => walk_at "up"); (case c => walk_at "upT"))
    case hx => exact (ret_txt0 (blk_of (by assumption))).1
    case hy => exact (ret_txt0 (blk_of (by assumption))).2
    walk_at "pcz"
end
theorem off_HH_13 : True := trivial
-- HI
theorem four {r a b c d : Value} {i : Nat} (hi : i < 4) (hx : [a, b, c, d][i]? = some r) : r = a ∨ r = b ∨ r = c ∨ r = d := by
  have : i = 0 ∨ i = 1 ∨ i = 2 ∨ i = 3 := by omega
  rcases this with rfl | rfl | rfl | rfl <;> (simp at hx; subst hx; simp)
/-- what stands ahead: the sign's text, the kind, what follows it -/
inductive Ahd : Str → Str → List Value → Prop where
  | un (j : Fin 3) (t2 t3 : Tok) {sg : Str} : sg = usn j → Ahd sg (Str.ofString "unary") [.int 0 t2, .str sg t3]
  | bor (t2 : Tok) : Ahd (Str.ofString "&mut ") (Str.ofString "borrow") [.int 0 t2, .bool true]
theorem Ahd.len {sg kd : Str} {ws : List Value} (h : Ahd sg kd ws) : sg.length ≤ 10 := by
  cases h with
  | un j _ _ e => subst e; exact usn_len j
  | bor => decide
theorem Ahd.ws {sg kd : Str} {ws : List Value} (h : Ahd sg kd ws) : ws.length = 2 := by cases h <;> rfl
abbrev AhdV (M : Led) (r : Value) : Prop := ∃ a q sg kd ws t t', r = .ref a ∧ (a, tup [.str sg t, .ref q]) ∈ M ∧ (q, tup (.str kd t' :: ws)) ∈ M ∧ Ahd sg kd ws ∧ sg.length ≤ 10 ∧ ws.length = 2
theorem AhdV.mk {M : Led} {a q : Addr} {sg kd : Str} {ws : List Value} {t t' : Tok} (h1 : (a, tup [.str sg t, .ref q]) ∈ M) (h2 : (q, tup (.str kd t' :: ws)) ∈ M) (h : Ahd sg kd ws) : AhdV M (.ref a) := ⟨a, q, sg, kd, ws, t, t', rfl, h1, h2, h, h.len, h.ws⟩
theorem ahd_fin {N : Led} {c : E} {n : Nat} {a p : Addr} {v : Value} {sg kd x y : Str} {ws : List Value} {t t1 t2 t3 : Tok} (ah : Ahd sg kd ws) (hm : (p, tup [.ref a, .str x t1, .str y t2, .int 11 t3]) ∈ N) (ht : (a, tup (.str kd t :: ws ++ [v])) ∈ N) (T : Tr N c v)
    (hx : x = sg ++ W c 11 false) (hy : y = sg ++ W c 11 true) (h1 : hgt c + 1 ≤ n) (h2 : hgt c + 1 ≤ 6) : ∃ e, hgt e ≤ n ∧ hgt e ≤ 6 ∧ Pc N e (.ref p) := by
  cases ah with
  | un j _ _ e => subst e; exact ⟨.un j c, h1, h2, .mk' hm (.un ht T) hx hy rfl⟩
  | bor => exact ⟨.bor c, h1, h2, .mk' hm (.bor ht T) hx hy rfl⟩
section
variable {w : World} {cs : Scope} {c : Cx w cs} {ml : Mp} {T : Led} {K : Value → Led → Prop}
theorem Ends.ahd {src th : Addr} {a b d e : Value} (hs : c.src = some src) (hm : (th, lst [a, b, d, e]) ∈ T) (h1 : AhdV T a) (h2 : AhdV T b) (h3 : AhdV T d) (h4 : AhdV T e) (hdp : c.dp + 4 < recursionLimit) (hun : c.un + 16 < cLine)
    (k : ∀ a q sg kd ws t t', (a, tup [.str sg t, .ref q]) ∈ T → (q, tup (.str kd t' :: ws)) ∈ T → Ahd sg kd ws → sg.length ≤ 10 → ws.length = 2 → K (.ref a) T) : Ends c (PySem.call (.ref 242) [.ref src, .ref th]) ml T K :=
  Ends.one hs hm (Nat.le_of_ble_eq_true rfl) (Nat.le_of_ble_eq_true rfl) hdp hun fun r i hx hi => by
    have : AhdV T r := by rcases four hi hx with rfl | rfl | rfl | rfl <;> assumption
    obtain ⟨a, q, sg, kd, ws, t, t', rfl, x1, x2, x3, x4, x5⟩ := this
    exact k a q sg kd ws t t' x1 x2 x3 x4 x5
end
section
theorem lay_HI_15 : True := by
  k_with "ahd" => ((fail_if_success (have zoff := off_HI_15)); ((refine' AhdV.mk ?za ?zb ?zc; (case za => walk_at "up"); (case zb => walk_at "up"); (case zc => first | exact .un 0 _ _ rfl | exact .un 1 _ _ rfl | exact .un 2 _ _ rfl | exact .bor _))))
  k_with "evo" => ((fail_if_success (have zoff := off_HI_15)); (first
      | ((with_reducible refine' Ends.ahd ?zhs ?zhm ?zx1 ?zx2 ?zx3 ?zx4 ?zhd ?zhu ?_); (case zhs => assumption); (case zhm => walk_at "up"); (case zx1 => walk_at "ahd"); (case zx2 => walk_at "ahd"); (case zx3 => walk_at "ahd"); (case zx4 => walk_at "ahd"); (case zhd => walk_at "room"); (case zhu => walk_at "room"); (intro a9 q9 sg9 kd9 ws9 t9 t9' m9 m9' ah9 ln9 lw9))
      | ((with_reducible refine' Ends.addTup ?zha ?zhb ?zhv ?zhw ?zhz ?zhn ?_); (case zha => walk_at "up"); (case zhb => walk_at "up"); (case zhv => exact List.cons_ne_nil _ _); (case zhw => exact List.cons_ne_nil _ _); (case zhz => simp only [List.length_cons, List.length_nil]; omega); (case zhn => exact rfl); intro D9 T9 e9 m9)))
  trivial
theorem ahead_gen (w : World) (n : Nat) (hX : XG w n) (k : Int) (tk : Tok) (N : Led) (hk0 : k = (n : Int) + 1) (hn : n ≤ 4) :
    Gen w 321 [.int k tk] (20 * n + 24) (200 * n + 250) N (fun N' r => ∃ e, hgt e ≤ n + 2 ∧ hgt e ≤ 6 ∧ Pc N' e r) := by
  w_on
  refine' callX_plainG (ml0 := fun src => [(Str.ofString "source", .ref src), (Str.ofString "deep", .int k tk)]) ?ho ?hcd ?hb ?hl ?hc ?h1 ?h2 ?h3 ?h4 ?hP ?_
  walk_at "body"
  intro c src hs hN hx0 hdp hun Kr hKr
  walk_at "rooms"
  have hk1 : k - 1 = (n : Int) := by omega
  refine wpS_ok0 20 _ _ _ _ _ ?_
  repeat' (walk_at "ev")
  · walk_at "pcf"
    case T => (refine' Tr.cast ?a ?b ?c; (case a => walk_at "up"); (case b => walk_at "upT"); (case c => walk_at "upP"))
    case hx => exact rfl
    case hy => exact rfl
    walk_at "pcz"
  · refine' EndK.h ?kk _ _ ?_
    case kk => assumption
    refine' ahd_fin ?ah ?hm ?ht ?T ?hx ?hy ?h1 ?h2
    case ah => assumption
    case hm => walk_at "up"
    case ht => walk_at "up"
    case T => walk_at "upT"
    case hx => exact rfl
    case hy => exact rfl
    case h1 => omega
    case h2 => omega
end
theorem off_HI_15 : True := trivial
-- HJ
theorem three {r a b c : Value} {i : Nat} (hi : i < 3) (hx : [a, b, c][i]? = some r) : r = a ∨ r = b ∨ r = c := by
  have : i = 0 ∨ i = 1 ∨ i = 2 := by omega
  rcases this with rfl | rfl | rfl <;> (simp at hx; subst hx; simp)
def TyaV (M : Led) (r : Value) : Prop := ∃ a q k x t, r = .ref a ∧ (a, tup [.ref q, .str x t]) ∈ M ∧ TysV M k (.ref q) ∧ x = ang k ∧ x.length ≤ 13
theorem TyaV.mk {M : Led} {a q : Addr} {x : Str} {t : Tok} {k : _root_.Fin 3} (h1 : (a, tup [.ref q, .str x t]) ∈ M) (h2 : TysV M k (.ref q)) (h : x = ang k) : TyaV M (.ref a) := ⟨a, q, k, x, t, rfl, h1, h2, h, h ▸ ang_len k⟩
/-- what a call or a method is of -/
def bs (e : Mine.E) (b : Bool) : Str := if isStr e then Str.ofString "(" ++ txt e false ++ Str.ofString ")" else W e 12 b
theorem bs_s {e : Mine.E} {b : Bool} (h : isStr e = true) : Str.ofString "(" ++ txt e false ++ Str.ofString ")" = bs e b := by unfold bs; rw [if_pos h]
theorem bs_n {e : Mine.E} {b : Bool} (h : isStr e = false) : W e 12 b = bs e b := by unfold bs; rw [if_neg (by rw [h]; decide)]
theorem bs_len {e : Mine.E} (h : hgt e ≤ 6) (b : Bool) : (bs e b).length ≤ 500002 := by
  unfold bs
  split
  · exact Nat.le_trans (sl_par (txt_small h _)) (Nat.le_of_ble_eq_true rfl)
  · exact W_small h _ _
theorem call_txt {f x y : Mine.E} {k : _root_.Fin 3} {b : Bool} : bs f b ++ Str.ofString "(" ++ argT k (txt x false) (txt y false) ++ Str.ofString ")" = txt (.call k f x y) b := by
  show _ = (if isStr f then par (txt f false) else wst (lvl f) 12 (txt f false) (txt f b)) ++ Str.ofString "(" ++ argT k (txt x false) (txt y false) ++ Str.ofString ")"
  rfl
theorem meth_txt {f x y : Mine.E} {q k : _root_.Fin 3} {X : Str} {b : Bool} (hX : X = ang q) : bs f b ++ Str.ofString ".m" ++ X ++ Str.ofString "(" ++ argT k (txt x false) (txt y false) ++ Str.ofString ")" = txt (.meth q k f x y) b := by
  subst hX
  show _ = (if isStr f then par (txt f false) else wst (lvl f) 12 (txt f false) (txt f b)) ++ Str.ofString ".m" ++ ang q ++ Str.ofString "(" ++ argT k (txt x false) (txt y false) ++ Str.ofString ")"
  rfl
theorem argT_small {x y : Mine.E} (k : _root_.Fin 3) (hx : hgt x ≤ 6) (hy : hgt y ≤ 6) : (argT k (txt x false) (txt y false)).length ≤ 1000002 := argT_len k _ _ 500000 (txt_small hx _) (txt_small hy _)
/-- the pieces drawn for the arguments -/
inductive PcsV (T : Led) : _root_.Fin 3 → Mine.E → Mine.E → List Value → Prop where
  | zero {x y : Mine.E} : PcsV T 0 x y []
  | one {x y : Mine.E} {p v : Addr} {t1 t2 t3 : Tok} : (p, tup [.ref v, .str (txt x false) t1, .str (txt x true) t2, .int (lvl x) t3]) ∈ T → Tr T x (.ref v) → PcsV T 1 x y [.ref p]
  | two {x y : Mine.E} {p v p' v' : Addr} {t1 t2 t3 t4 t5 t6 : Tok} : (p, tup [.ref v, .str (txt x false) t1, .str (txt x true) t2, .int (lvl x) t3]) ∈ T → Tr T x (.ref v) → (p', tup [.ref v', .str (txt y false) t4, .str (txt y true) t5, .int (lvl y) t6]) ∈ T → Tr T y (.ref v') → PcsV T 2 x y [.ref p, .ref p']
inductive TrsV (T : Led) : _root_.Fin 3 → Mine.E → Mine.E → List Value → Prop where
  | zero {x y : Mine.E} : TrsV T 0 x y []
  | one {x y : Mine.E} {v : Value} : Tr T x v → TrsV T 1 x y [v]
  | two {x y : Mine.E} {v v' : Value} : Tr T x v → Tr T y v' → TrsV T 2 x y [v, v']
theorem TrsV.mono {T T' : Led} {k : _root_.Fin 3} {x y : Mine.E} {vs : List Value} (e : Ext T T') (h : TrsV T k x y vs) : TrsV T' k x y vs := by
  cases h with
  | zero => exact .zero
  | one a => exact .one (a.mono e)
  | two a b => exact .two (a.mono e) (b.mono e)
theorem Tr.callV {N : Led} {k : _root_.Fin 3} {f x y : E} {a fa q : Addr} {vs : List Value} {t1 t2 : Tok} (h : (a, tup [.str (Str.ofString "call") t1, .int 0 t2, .ref fa, .ref q]) ∈ N) (hq : (q, tup vs) ∈ N) (hf : Tr N f (.ref fa)) (hA : TrsV N k x y vs) : Tr N (.call k f x y) (.ref a) := by
  cases hA with
  | zero => exact .call0 h hq hf
  | one u => exact .call1 h hq hf u
  | two u v => exact .call2 h hq hf u v
theorem Tr.methV {N : Led} {k j : _root_.Fin 3} {f x y : E} {a fa q y' : Addr} {vs : List Value} {t1 t2 t3 : Tok} (h : (a, tup [.str (Str.ofString "method") t1, .int 0 t2, .ref fa, .str (Str.ofString "m") t3, .ref y', .ref q]) ∈ N) (hy : TysV N j (.ref y')) (hq : (q, tup vs) ∈ N) (hf : Tr N f (.ref fa)) (hA : TrsV N k x y vs) : Tr N (.meth j k f x y) (.ref a) := by
  cases hA with
  | zero => exact .meth0 h hy hq hf
  | one u => exact .meth1 h hy hq hf u
  | two u v => exact .meth2 h hy hq hf u v
def SomeP (n : Nat) (ml : Mp) (T : Led) (ml' : Mp) (T' : Led) : Prop := ∃ d k x y ps m, ml' = (Str.ofString "some", .ref d) :: ml ∧ Ext T T' ∧ (d, seqO ps m) ∈ T' ∧ PcsV T' k x y ps ∧ hgt x ≤ n + 1 ∧ hgt x ≤ 6 ∧ hgt y ≤ n + 1 ∧ hgt y ≤ 6
def ToldP (ml : Mp) (T : Led) (k : _root_.Fin 3) (x y : Mine.E) (ml' : Mp) (T' : Led) : Prop := ∃ q t vs, ml' = (Str.ofString "trees", .ref q) :: (Str.ofString "told", .str (argT k (txt x false) (txt y false)) t) :: ml ∧ Ext T T' ∧ (q, tup vs) ∈ T' ∧ TrsV T' k x y vs
def BaseP (e : Mine.E) (ml : Mp) (T : Led) (ml' : Mp) (T' : Led) : Prop := ∃ l t t', ml' = (Str.ofString "base", .ref l) :: ml ∧ Ext T T' ∧ (l, lst [.str (bs e false) t, .str (bs e true) t']) ∈ T'
theorem base_s {e : Mine.E} {l : Addr} {t t' : Tok} {T : Led} (h : isStr e = true) (m : (l, lst [.str (Str.ofString "(" ++ txt e false ++ Str.ofString ")") t, .str (Str.ofString "(" ++ txt e false ++ Str.ofString ")") t']) ∈ T) : (l, lst [.str (bs e false) t, .str (bs e true) t']) ∈ T := by
  rw [← bs_s (b := false) h, ← bs_s (b := true) h]; exact m
theorem base_n {e : Mine.E} {l : Addr} {t t' : Tok} {T : Led} (h : isStr e = false) (m : (l, lst [.str (W e 12 false) t, .str (W e 12 true) t']) ∈ T) : (l, lst [.str (bs e false) t, .str (bs e true) t']) ∈ T := by
  rw [← bs_n (b := false) h, ← bs_n (b := true) h]; exact m
section
variable {w : World} {cs : Scope} {c : Cx w cs} {ml : Mp} {T : Led} {K : Value → Led → Prop}
theorem Ends.tya {src th : Addr} {a b d : Value} (hs : c.src = some src) (hm : (th, lst [a, b, d]) ∈ T) (h1 : TyaV T a) (h2 : TyaV T b) (h3 : TyaV T d) (hdp : c.dp + 4 < recursionLimit) (hun : c.un + 16 < cLine)
    (k : ∀ a q k x t, (a, tup [.ref q, .str x t]) ∈ T → TysV T k (.ref q) → x = ang k → x.length ≤ 13 → K (.ref a) T) : Ends c (PySem.call (.ref 242) [.ref src, .ref th]) ml T K :=
  Ends.one hs hm (Nat.le_of_ble_eq_true rfl) (Nat.le_of_ble_eq_true rfl) hdp hun fun r i hx hi => by
    have : TyaV T r := by rcases three hi hx with rfl | rfl | rfl <;> assumption
    obtain ⟨a, q, kk, x, t, rfl, x1, x2, x3, x4⟩ := this
    exact k a q kk x t x1 x2 x3 x4
end
section
theorem lay_HJ_16 : True := by
  k_with "upY" => ((fail_if_success (have zoff := off_HJ_17)); (first | with_reducible assumption | (refine' TysV.mono ?zue ?zuh; (case zue => with_reducible assumption); (case zuh => walk_at "upY"))))
  k_with "tya0" => ((fail_if_success (have zoff := off_HJ_17)); ((refine' TyaV.mk ?za (TysV.zero ?zp) ?zc; (case za => walk_at "up"); (case zp => walk_at "up"); (case zc => exact rfl))))
  k_with "tya1" => ((fail_if_success (have zoff := off_HJ_17)); ((refine' TyaV.mk ?za (TysV.one ?zp ?zq) ?zc; (case za => walk_at "up"); (case zp => walk_at "up"); (case zq => walk_at "upP"); (case zc => exact rfl))))
  k_with "tya2" => ((fail_if_success (have zoff := off_HJ_17)); ((refine' TyaV.mk ?za (TysV.two ?zp (BoxV.mk ?zq1 ?zq2 ?zq3 ?zq4 ?zq5 ?zq6) ?zr) ?zc; (case za => walk_at "up"); (case zp => walk_at "up"); (case zq1 => walk_at "up"); (case zq2 => walk_at "up"); (case zq3 => walk_at "up"); (case zq4 => walk_at "up"); (case zq5 => walk_at "up"); (case zq6 => walk_at "upP"); (case zr => walk_at "upP"); (case zc => exact rfl))))
  k_with "evb" => ((fail_if_success (have zoff := off_HJ_17)); (first
      | (refine bcase_t ?_ ?_; with_reducible rfl)
      | (refine bcase_f ?_ ?_; with_reducible rfl)
      | (refine bcase_b ?_ ?_ <;> intro h9)
      | exact trivial
      | ((show And _ _); refine And.intro ?_ ?_)))
  k_with "evo" => ((fail_if_success (have zoff := off_HJ_17)); (first
      | ((with_reducible refine' Ends.tya ?zhs ?zhm ?zx1 ?zx2 ?zx3 ?zhd ?zhu ?_); (case zhs => assumption); (case zhm => walk_at "up"); (case zx1 => walk_at "tya0"); (case zx2 => walk_at "tya1"); (case zx3 => walk_at "tya2"); (case zhd => walk_at "room"); (case zhu => walk_at "room"); (intro a9 q9 k9 x9 t9 m9 y9 e9 l9))
      | ((with_reducible refine Ends.range3 ?_ ?_ ?_ ?_ ?_); assumption; assumption)))
  k_with "upV" => ((fail_if_success (have zoff := off_HJ_17)); (first | with_reducible assumption | (refine' TrsV.mono ?zue ?zuh; (case zue => with_reducible assumption); (case zuh => walk_at "upV"))))
  trivial
theorem called_gen (w : World) (n : Nat) (hX : XG w n) (k : Int) (tk : Tok) (N : Led) (hk0 : k = (n : Int) + 1) (hn : n ≤ 4) :
    Gen w 314 [.int k tk] (20 * n + 24) (200 * n + 250) N (fun N' r => ∃ e, hgt e ≤ n + 2 ∧ hgt e ≤ 6 ∧ Pc N' e r) := by
  w_on
  refine' callX_cellsG (ml0 := fun src => [(Str.ofString "source", .ref src), (Str.ofString "deep", .int k tk)]) ?ho ?hcd ?hb ?hl ?hc ?h1 ?h2 ?h3 ?h4 ?hP ?_
  walk_at "body"
  intro c src hs hN hx0 hcl hdp hun Kr hKr
  walk_at "rooms"
  have hk1 : k - 1 = (n : Int) := by omega
  refine EndsS.step ?_
  repeat' (walk_at "ev")
  refine EndsS.step ?_
  repeat' (walk_at "ev")
  all_goals try ((refine (?_ : Ends _ _ _ _ _)); (refine Ends.letK ?_); intro K9; (with_reducible refine' Ends.oneA ?hs ?hm ?h0 ?h1 ?hd ?hu ?_); (case hs => assumption); (case hm => walk_at "up"); (case h0 => exact Nat.le_of_ble_eq_true rfl); (case h1 => exact Nat.le_of_ble_eq_true rfl); (case hd => walk_at "room"); (case hu => walk_at "room"))
  repeat' (walk_at "ev")
  · walk_at "pcf"
    case T => (refine' Tr.arr ?a ?b ?c; (case a => walk_at "up"); (case b => walk_at "up"); (case c => walk_at "upT"))
    case hx => exact rfl
    case hy => exact rfl
    walk_at "pcz"
  · walk_at "pcf"
    case T => (refine' Tr.tpl ?a ?b ?c; (case a => walk_at "up"); (case b => walk_at "up"); (case c => walk_at "upT"))
    case hx => exact rfl
    case hy => exact rfl
    walk_at "pcz"
  · walk_at "pcf"
    case T => (refine' Tr.rep ?a ?c; (case a => walk_at "up"); (case c => walk_at "upT"))
    case hx => exact rfl
    case hy => exact rfl
    walk_at "pcz"
  refine EndsS.cutAt (SomeP n) ?_ ?_
  · repeat' (walk_at "ev")
    · refine' ⟨_, 0, .seven, .seven, _, _, rfl, ?e, ?m, ?q, Nat.zero_le _, Nat.zero_le _, Nat.zero_le _, Nat.zero_le _⟩
      case e => (intro p hp; walk_at "up")
      case m => walk_at "up"
      case q => exact .zero
    · refine' ⟨_, 1, _, .seven, _, _, rfl, ?e, ?m, ?q, ?h1, ?h2, Nat.zero_le _, Nat.zero_le _⟩
      case e => (intro p hp; walk_at "up")
      case m => walk_at "up"
      case q => (refine' .one ?a ?b; (case a => walk_at "up"); (case b => walk_at "upT"))
      case h1 => assumption
      case h2 => assumption
    · refine' ⟨_, 2, _, _, _, _, rfl, ?e, ?m, ?q, ?h1, ?h2, ?h3, ?h4⟩
      case e => (intro p hp; walk_at "up")
      case m => walk_at "up"
      case q => (refine' .two ?a ?b ?c ?d; (case a => walk_at "up"); (case b => walk_at "upT"); (case c => walk_at "up"); (case d => walk_at "upT"))
      case h1 => assumption
      case h2 => assumption
      case h3 => assumption
      case h4 => assumption
  rintro _ T1 ⟨d, k', x, y, ps, m, rfl, e1, hd, hp, hx1, hx2, hy1, hy2⟩
  have hA := argT_small k' hx2 hy2
  refine EndsS.cutAt (fun ml T => ToldP ml T k' x y) ?_ ?_
  · cases hp <;> repeat' (walk_at "ev")
    · refine' ⟨_, _, _, rfl, ?e, ?m, ?q⟩
      case e => (intro p hp; walk_at "up")
      case m => walk_at "up"
      case q => exact .zero
    · refine' ⟨_, _, _, rfl, ?e, ?m, ?q⟩
      case e => (intro p hp; walk_at "up")
      case m => walk_at "up"
      case q => (refine .one ?_; walk_at "upT")
    · refine' ⟨_, _, _, rfl, ?e, ?m, ?q⟩
      case e => (intro p hp; walk_at "up")
      case m => walk_at "up"
      case q => (refine .two ?_ ?_ <;> walk_at "upT")
  rintro _ T2 ⟨q, t, vs, rfl, e2, hq, hA2⟩
  refine EndsS.cutAt (BaseP x9) ?_ ?_
  · repeat' (walk_at "ev")
    · refine' ⟨_, _, _, rfl, ?e, base_s h9 ?m⟩
      case e => (intro p hp; walk_at "up")
      case m => walk_at "up"
    · refine' ⟨_, _, _, rfl, ?e, base_n h9 ?m⟩
      case e => (intro p hp; walk_at "up")
      case m => walk_at "up"
  rintro _ T3 ⟨l, t5, t6, rfl, e3, hl⟩
  have hb0 := bs_len b9 false
  have hb1 := bs_len b9 true
  refine EndsS.step ?_
  repeat' (walk_at "ev")
  · walk_at "pcf"
    case T => (refine' Tr.callV ?a ?b ?c ?d; (case a => walk_at "up"); (case b => walk_at "up"); (case c => walk_at "upT"); (case d => walk_at "upV"))
    case hx => exact call_txt
    case hy => exact call_txt
    walk_at "pcz"
  refine wpS_ok0 20 _ _ _ _ _ ?_
  repeat' (walk_at "ev")
  walk_at "pcf"
  case T => (refine' Tr.methV ?a ?ty ?b ?c ?d; (case a => walk_at "up"); (case ty => walk_at "upY"); (case b => walk_at "up"); (case c => walk_at "upT"); (case d => walk_at "upV"))
  case hx => (refine meth_txt ?_; assumption)
  case hy => (refine meth_txt ?_; assumption)
  walk_at "pcz"
end
theorem off_HJ_17 : True := trivial
-- M1
theorem lay_M1_17 : True := by
  k_with "my call ref" => ((k_here; (with_reducible show wpAny _ _ (call (Value.ref 235) _) _ _ _); k_dflt (
      refine' Gen.use (take_gen _ _ _ _ ?zh1 ?zh2) ?zB ?zF ?zX ?zNN ?zpl ?zso ?zns ?zT ?zhk ?zhdp ?zhun ?_; (case zB => k_asm); (case zF => k_asm); (case zX => k_asm); (case zT => k_asm); (case zNN => k_asm); (case zpl => walk_at "mine pull"); (case zso => assumption); (case zns => walk_at "mine ns"); (case zhk => exact rfl); (case zhdp => walk_at "mine room"); (case zhun => walk_at "mine room"); (case zh1 => omega); (case zh2 => omega)); intro r9 g9 d9 tg9 td9 tl9 h9 tk9 F9 N9 so9 ns9 nc9 ab9 fr9 hp9; obtain ⟨k9, t9, e9, l9, u9⟩ := hp9; subst e9; (try dsimp only); (try k_sweep); (try k_fold)))
  k_with "my call ref" => ((k_here; (with_reducible show wpAny _ _ (call (Value.ref 249) _) _ _ _); k_dflt (refine' Does.useP (path_pure _ _ _ _) ?zB ?zF ?zX ?zNN ?zT ?zhk ?zhdp ?zhun ?_; (case zB => k_asm); (case zF => k_asm); (case zX => k_asm); (case zT => k_asm); (case zNN => k_asm); (case zhk => exact rfl); (case zhdp => walk_at "mine room"); (case zhun => walk_at "mine room")); intro r9 tl9 h9 tk9 F9 N9 ns9 nc9 ab9 fr9 hp9; obtain ⟨l9, e9, m9⟩ := hp9; subst e9; (try dsimp only); (try k_sweep); (try k_fold)))
  k_with "my call ref" => ((k_here; (with_reducible show wpAny _ _ (call (Value.ref 264) _) _ _ _); k_dflt (refine' Does.useP (closed_pure _ _ _ _ _) ?zB ?zF ?zX ?zNN ?zT ?zhk ?zhdp ?zhun ?_; (case zB => k_asm); (case zF => k_asm); (case zX => k_asm); (case zT => k_asm); (case zNN => k_asm); (case zhk => exact rfl); (case zhdp => walk_at "mine room"); (case zhun => walk_at "mine room")); intro r9 tl9 h9 tk9 F9 N9 ns9 nc9 ab9 fr9 hp9; obtain ⟨l9, t91, t92, t93, e9, m9⟩ := hp9; subst e9; (try dsimp only); (try k_sweep); (try k_fold)))
  k_with "my call ref" => ((k_here; (with_reducible show wpAny _ _ (call (Value.ref 257) _) _ _ _); k_dflt ((first | refine' Does.useP (open2_pure _ _ _ _ _ ?zh1) ?zB ?zF ?zX ?zNN ?zT ?zhk ?zhdp ?zhun ?_ | refine' Does.useP (open3_pure _ _ _ _ _ _ _ ?zh1) ?zB ?zF ?zX ?zNN ?zT ?zhk ?zhdp ?zhun ?_); (case zB => k_asm); (case zF => k_asm); (case zX => k_asm); (case zT => k_asm); (case zNN => k_asm); (case zhk => exact rfl); (case zhdp => walk_at "mine room"); (case zhun => walk_at "mine room"); (case zh1 => (refine' Nat.le_trans ?zmlP ?zmlR; (case zmlP => walk_at "mine len"); (case zmlR => exact Nat.le_of_ble_eq_true rfl)))); intro r9 tl9 h9 tk9 F9 N9 ns9 nc9 ab9 fr9 hp9; obtain ⟨l9, t91, t92, t93, e9, m9⟩ := hp9; subst e9; (try dsimp only); (try k_sweep); (try k_fold)))
  k_with "my call ref" => ((k_here; (with_reducible show wpAny _ _ (call (Value.ref 242) _) _ _ _); k_dflt (
      refine' Gen.use (one_gen _ _ _ _ ?zhm ?zh1 ?zh2) ?zB ?zF ?zX ?zNN ?zpl ?zso ?zns ?zT ?zhk ?zhdp ?zhun ?_; (case zB => k_asm); (case zF => k_asm); (case zX => k_asm); (case zT => k_asm); (case zNN => k_asm); (case zpl => walk_at "mine pull"); (case zso => assumption); (case zns => walk_at "mine ns"); (case zhk => exact rfl); (case zhdp => walk_at "mine room"); (case zhun => walk_at "mine room"); (case zhm => walk_at "mine mem"); (case zh1 => first | assumption | exact Nat.le_of_ble_eq_true rfl); (case zh2 => first | assumption | exact Nat.le_of_ble_eq_true rfl)); intro r9 g9 d9 tg9 td9 tl9 h9 tk9 F9 N9 so9 ns9 nc9 ab9 fr9 hp9; obtain ⟨i9, l9, u9⟩ := hp9; (walk_at "mine one"); (try dsimp only); (try k_sweep); (try k_fold)))
  k_with "mine one" => (skip)
  k_with "my call ref" => ((k_here; (with_reducible show wpAny _ _ (call (Value.ref 278) _) _ _ _); k_dflt (refine' Does.useP (beside_pure _ _ _ _ _ _ _ _ _ _ ?zh1 ?zh3 ?zh2) ?zB ?zF ?zX ?zNN ?zT ?zhk ?zhdp ?zhun ?_; (case zB => k_asm); (case zF => k_asm); (case zX => k_asm); (case zT => k_asm); (case zNN => k_asm); (case zhk => exact rfl); (case zhdp => walk_at "mine room"); (case zhun => walk_at "mine room"); (case zh1 => walk_at "mine mem"); (case zh3 => walk_at "mine tr"); (case zh2 => assumption)); intro r9 tl9 h9 tk9 F9 N9 ns9 nc9 ab9 fr9 hp9; obtain ⟨l9, t9, t9', e9, m9⟩ := hp9; subst e9; (try dsimp only); (try k_sweep); (try k_fold)))
  k_with "my call ref" => ((k_here; (with_reducible show wpAny _ _ (call (Value.ref 271) _) _ _ _); k_dflt (refine' Does.useP (both_pure _ _ _ _ _ _ _ _ _ _ ?zh1 ?zh2) ?zB ?zF ?zX ?zNN ?zT ?zhk ?zhdp ?zhun ?_; (case zB => k_asm); (case zF => k_asm); (case zX => k_asm); (case zT => k_asm); (case zNN => k_asm); (case zhk => exact rfl); (case zhdp => walk_at "mine room"); (case zhun => walk_at "mine room"); (case zh1 => walk_at "mine mem"); (case zh2 => assumption)); intro r9 tl9 h9 tk9 F9 N9 ns9 nc9 ab9 fr9 hp9; obtain ⟨l9, t9, t9', e9, m9⟩ := hp9; subst e9; (try dsimp only); (try k_sweep); (try k_fold)))
  k_with "my call ref" => ((k_here; (with_reducible show wpAny _ _ (call (Value.ref 328) _) _ _ _); k_dflt (
      refine' Gen.use (XG.at ?zhX _ _ ?zhi) ?zB ?zF ?zX ?zNN ?zpl ?zso ?zns ?zT ?zhk ?zhdp ?zhun ?_; (case zhX => assumption); (case zhi => omega); (case zB => k_asm); (case zF => k_asm); (case zX => k_asm); (case zT => k_asm); (case zNN => k_asm); (case zpl => walk_at "mine pull"); (case zso => assumption); (case zns => walk_at "mine ns"); (case zhk => exact rfl); (case zhdp => walk_at "mine room"); (case zhun => walk_at "mine room")); intro r9 g9 d9 tg9 td9 tl9 h9 tk9 F9 N9 so9 ns9 nc9 ab9 fr9 hp9; obtain ⟨e9, l9, l9', m9⟩ := hp9; obtain ⟨m9, T9⟩ := m9; (try dsimp only); (try k_sweep); (try k_fold)))
  trivial
-- GK
section
theorem lay_GK_18 : True := by
  k_with "mine item2" => ((fail_if_success (have zoff := off_GK_18)); ((k_dflt (refine' idx_made ?zN ?zhm ?zhv ?zh0 ?zh1 ?_ ?zhs; (case zN => k_asm); (case zhm => walk_at "mine mem"); (case zhv => exact Nat.le_of_ble_eq_true rfl); (case zh0 => omega); (case zh1 => (simp only [List.length_cons, List.length_nil]; omega)); (case zhs => with_unfolding_all rfl); k_whole); intro i8 x8 hi8 hx8 he8; (rcases eight hi8 hx8 with e8 | e8 | e8 | e8 | e8 | e8 | e8 | e8 <;> subst e8 <;> clear hx8 hi8))))
  k_with "my call ref" => ((fail_if_success (have zoff := off_GK_18)); ((k_here; (with_reducible show wpAny _ _ (call (Value.ref 285) _) _ _ _); k_dflt (refine' Gen.use (leaf_gen _ _) ?zB ?zF ?zX ?zNN ?zpl ?zso ?zns ?zT ?zhk ?zhdp ?zhun ?_; (case zB => k_asm); (case zF => k_asm); (case zX => k_asm); (case zT => k_asm); (case zNN => k_asm); (case zpl => walk_at "mine pull"); (case zso => assumption); (case zns => walk_at "mine ns"); (case zhk => exact rfl); (case zhdp => walk_at "mine room"); (case zhun => walk_at "mine room")); intro r9 g9 d9 tg9 td9 tl9 h9 tk9 F9 N9 so9 ns9 nc9 ab9 fr9 hp9; obtain ⟨e9, l9, m9⟩ := hp9; (try dsimp only); (try k_sweep); (try k_fold))))
  k_with "my call ref" => ((fail_if_success (have zoff := off_GK_18)); ((k_here; (with_reducible show wpAny _ _ (call (Value.ref 290) _) _ _ _); k_dflt (refine' Gen.use (operated_gen _ _ ?zhX _ _ _ ?zh0 ?zhn) ?zB ?zF ?zX ?zNN ?zpl ?zso ?zns ?zT ?zhk ?zhdp ?zhun ?_; (case zhX => assumption); (case zh0 => first | assumption | omega); (case zhn => omega); (case zB => k_asm); (case zF => k_asm); (case zX => k_asm); (case zT => k_asm); (case zNN => k_asm); (case zpl => walk_at "mine pull"); (case zso => assumption); (case zns => walk_at "mine ns"); (case zhk => exact rfl); (case zhdp => walk_at "mine room"); (case zhun => walk_at "mine room")); intro r9 g9 d9 tg9 td9 tl9 h9 tk9 F9 N9 so9 ns9 nc9 ab9 fr9 hp9; obtain ⟨e9, l9, l9', m9⟩ := hp9; (try dsimp only); (try k_sweep); (try k_fold))))
  k_with "my call ref" => ((fail_if_success (have zoff := off_GK_18)); ((k_here; (with_reducible show wpAny _ _ (call (Value.ref 295) _) _ _ _); k_dflt (refine' Gen.use (assigned_gen _ _ ?zhX _ _ _ ?zh0 ?zhn) ?zB ?zF ?zX ?zNN ?zpl ?zso ?zns ?zT ?zhk ?zhdp ?zhun ?_; (case zhX => assumption); (case zh0 => first | assumption | omega); (case zhn => omega); (case zB => k_asm); (case zF => k_asm); (case zX => k_asm); (case zT => k_asm); (case zNN => k_asm); (case zpl => walk_at "mine pull"); (case zso => assumption); (case zns => walk_at "mine ns"); (case zhk => exact rfl); (case zhdp => walk_at "mine room"); (case zhun => walk_at "mine room")); intro r9 g9 d9 tg9 td9 tl9 h9 tk9 F9 N9 so9 ns9 nc9 ab9 fr9 hp9; obtain ⟨e9, l9, l9', m9⟩ := hp9; (try dsimp only); (try k_sweep); (try k_fold))))
  k_with "my call ref" => ((fail_if_success (have zoff := off_GK_18)); ((k_here; (with_reducible show wpAny _ _ (call (Value.ref 302) _) _ _ _); k_dflt (refine' Gen.use (looped_gen _ _ ?zhX _ _ _ ?zh0 ?zhn) ?zB ?zF ?zX ?zNN ?zpl ?zso ?zns ?zT ?zhk ?zhdp ?zhun ?_; (case zhX => assumption); (case zh0 => first | assumption | omega); (case zhn => omega); (case zB => k_asm); (case zF => k_asm); (case zX => k_asm); (case zT => k_asm); (case zNN => k_asm); (case zpl => walk_at "mine pull"); (case zso => assumption); (case zns => walk_at "mine ns"); (case zhk => exact rfl); (case zhdp => walk_at "mine room"); (case zhun => walk_at "mine room")); intro r9 g9 d9 tg9 td9 tl9 h9 tk9 F9 N9 so9 ns9 nc9 ab9 fr9 hp9; obtain ⟨e9, l9, l9', m9⟩ := hp9; (try dsimp only); (try k_sweep); (try k_fold))))
  k_with "my call ref" => ((fail_if_success (have zoff := off_GK_18)); ((k_here; (with_reducible show wpAny _ _ (call (Value.ref 309) _) _ _ _); k_dflt (refine' Gen.use (jump_gen _ _ ?zhX _ _ _ ?zh0 ?zhn) ?zB ?zF ?zX ?zNN ?zpl ?zso ?zns ?zT ?zhk ?zhdp ?zhun ?_; (case zhX => assumption); (case zh0 => first | assumption | omega); (case zhn => omega); (case zB => k_asm); (case zF => k_asm); (case zX => k_asm); (case zT => k_asm); (case zNN => k_asm); (case zpl => walk_at "mine pull"); (case zso => assumption); (case zns => walk_at "mine ns"); (case zhk => exact rfl); (case zhdp => walk_at "mine room"); (case zhun => walk_at "mine room")); intro r9 g9 d9 tg9 td9 tl9 h9 tk9 F9 N9 so9 ns9 nc9 ab9 fr9 hp9; obtain ⟨e9, l9, l9', m9⟩ := hp9; (try dsimp only); (try k_sweep); (try k_fold))))
  k_with "my call ref" => ((fail_if_success (have zoff := off_GK_18)); ((k_here; (with_reducible show wpAny _ _ (call (Value.ref 314) _) _ _ _); k_dflt (refine' Gen.use (called_gen _ _ ?zhX _ _ _ ?zh0 ?zhn) ?zB ?zF ?zX ?zNN ?zpl ?zso ?zns ?zT ?zhk ?zhdp ?zhun ?_; (case zhX => assumption); (case zh0 => first | assumption | omega); (case zhn => omega); (case zB => k_asm); (case zF => k_asm); (case zX => k_asm); (case zT => k_asm); (case zNN => k_asm); (case zpl => walk_at "mine pull"); (case zso => assumption); (case zns => walk_at "mine ns"); (case zhk => exact rfl); (case zhdp => walk_at "mine room"); (case zhun => walk_at "mine room")); intro r9 g9 d9 tg9 td9 tl9 h9 tk9 F9 N9 so9 ns9 nc9 ab9 fr9 hp9; obtain ⟨e9, l9, l9', m9⟩ := hp9; (try dsimp only); (try k_sweep); (try k_fold))))
  k_with "my call ref" => ((fail_if_success (have zoff := off_GK_18)); ((k_here; (with_reducible show wpAny _ _ (call (Value.ref 321) _) _ _ _); k_dflt (refine' Gen.use (ahead_gen _ _ ?zhX _ _ _ ?zh0 ?zhn) ?zB ?zF ?zX ?zNN ?zpl ?zso ?zns ?zT ?zhk ?zhdp ?zhun ?_; (case zhX => assumption); (case zh0 => first | assumption | omega); (case zhn => omega); (case zB => k_asm); (case zF => k_asm); (case zX => k_asm); (case zT => k_asm); (case zNN => k_asm); (case zpl => walk_at "mine pull"); (case zso => assumption); (case zns => walk_at "mine ns"); (case zhk => exact rfl); (case zhdp => walk_at "mine room"); (case zhun => walk_at "mine room")); intro r9 g9 d9 tg9 td9 tl9 h9 tk9 F9 N9 so9 ns9 nc9 ab9 fr9 hp9; obtain ⟨e9, l9, l9', m9⟩ := hp9; (try dsimp only); (try k_sweep); (try k_fold))))
  trivial
theorem expr_zero (w : World) : XG w 0 := by
  intro N k tk hk0 src g d tg td so ns
  w_on
  unfold Does
  k_fill
  intro mean mg mb dp un gd cn cs a ccd cl outer A₀ base h₀ L m s Q E B F X NN T hk hdp hun hret
  walk_at "mine enter"
  k_steps
  all_goals walk_at "mine gfin"
  all_goals (refine' ⟨_, ?a, ?b, ?c⟩; (case c => walk_at "mine pc"); (case a => omega); (case b => omega))
theorem expr_succ (w : World) (n : Nat) (hX : XG w n) (hn : n ≤ 4) : XG w (n + 1) := by
  intro N k tk hk0 src g d tg td so ns
  w_on
  unfold Does
  k_fill
  intro mean mg mb dp un gd cn cs a ccd cl outer A₀ base h₀ L m s Q E B F X NN T hk hdp hun hret
  walk_at "mine enter"
  k_steps
  all_goals walk_at "mine gfin"
  all_goals (refine' ⟨_, ?a, ?b, ?c⟩; (case c => walk_at "mine pc"); (case a => omega); (case b => omega))
end
theorem off_GK_18 : True := trivial
theorem all_expr (w : World) : ∀ n : Nat, n ≤ 4 → XG w n := by
  intro n
  induction n with
  | zero => exact fun _ => expr_zero w
  | succ k ih => exact fun h => expr_succ w k (ih (by omega)) (by omega)
-- CT
/-- what of a ledger is apart from c -/
inductive Keep (c : Addr) : Led → Led → Prop where
  | nil : Keep c [] []
  | base {l : Led} : (∀ p ∈ l, @LT.lt Nat _ p.1 c) → Keep c l l
  | cons {p : Addr × Obj} {l r : Led} : @Ne Nat p.1 c → Keep c l r → Keep c (p :: l) (p :: r)
  | skip {p : Addr × Obj} {l r : Led} : Keep c l r → Keep c (p :: l) r
  | app {M l r : Led} : (∀ p ∈ M, @Ne Nat p.1 c) → Keep c l r → Keep c (M ++ l) (M ++ r)
theorem Keep.sub {c : Addr} {l r : Led} (h : Keep c l r) : ∀ p ∈ r, p ∈ l := by
  induction h with
  | nil => exact fun _ h => h
  | base _ => exact fun _ h => h
  | cons _ _ ih => exact sub_cons2 ih
  | skip _ ih => exact sub_cons ih
  | app _ _ ih => exact sub_app2 ih
theorem Keep.ne {c : Addr} {l r : Led} (h : Keep c l r) : ∀ p ∈ r, p.1 ≠ c := by
  induction h with
  | nil => exact fun _ h => nomatch h
  | base a => exact fun p hp => Nat.ne_of_lt (a p hp)
  | cons a _ ih =>
    intro p hp
    rcases List.mem_cons.mp hp with rfl | hp
    · exact a
    · exact ih p hp
  | skip _ ih => exact ih
  | app a _ ih => exact fun p hp => (List.mem_append.mp hp).elim (a p) (ih p)
theorem ne_cls {h₀ h : Heap} {L a b : Addr} {o o' : Obj} {M : Led} (n : News h₀ L h M) (ha : (a, o) ∈ M) (hb : (b, o') ∈ M) (hc : o.cls ≠ o'.cls) : @Ne Nat a b := fun e => by
  have h1 := (n _ ha).1
  have h2 := (n _ hb).1
  dsimp only at h1 h2
  have e' : a = b := e
  rw [e', h2] at h1
  exact hc (by rw [Option.some.inj h1])
section
variable {prog : Program} {w : World} {A : Around} {E' : Value → Shared → Prop} {s : Shared} {h₀ : Heap} {L a b c : Addr} {m : Str → Option Value} {M R : Led}
theorem app_P {vs : List Value} {n : Nat} {v : Value} {Q : Value → Shared → Prop} (F : Fr h₀ L s.heap m) (NN : News h₀ L s.heap M) (hm : (c, lstn n vs) ∈ M) (kp : Keep c M R) (hz : vs.length ≤ 1000)
    (h : ∀ h', Fr h₀ L h' m → News h₀ L h' ((c, lstn (n + 1) (vs ++ [v])) :: R) → Q .none { s with heap := h' }) : wpAny (model prog w) A (call (.builtin "list.append") [.ref c, v]) Q E' s := by
  have z := NN _ hm
  refine append_at (hsz := by rw [List.size_toArray, sizeLine_eq]; omega) z.1 fun h' hs ho' => h h' (F.change hs z.2.1 z.2.2) fun p hp => ?_
  rcases List.mem_cons.mp hp with rfl | hp
  · exact ⟨by rw [List.push_toArray] at ho'; exact ho', z.2⟩
  · have y := NN p (kp.sub p hp)
    exact ⟨hs.extBut _ _ (kp.ne p hp) y.1, y.2⟩
theorem lst_cat {vs ws : List Value} {n n' : Nat} {Q : Value → Shared → Prop} (F : Fr h₀ L s.heap m) (N : News h₀ L s.heap M) (ha : (a, lstn n vs) ∈ M) (hb : (b, lstn n' ws) ∈ M) (hz : vs.length + ws.length ≤ 1000)
    (h : ∀ D h', Fr h₀ L h' m → News h₀ L h' ((D, lst (vs ++ ws)) :: M) → @LT.lt Nat _ L D → Q (.ref D) { s with heap := h' }) : wpAny (model prog w) A (binaryOp .Add (.ref a) (.ref b)) Q E' s :=
  add_lists F N (PySem.IsL.isList (n := n) (N _ ha).1) (PySem.IsL.isList (n := n') (N _ hb).1) (fun h' F' N' => h _ h' F' N' F.ns.lt) (by rw [sizeLine_eq]; omega)
theorem list_of_tup {vs : List Value} {Q : Value → Shared → Prop} (F : Fr h₀ L s.heap m) (N : News h₀ L s.heap M) (ha : (a, tup vs) ∈ M) (hz : vs.length ≤ 1000)
    (h : ∀ D n h', Fr h₀ L h' m → News h₀ L h' ((D, lstn n vs) :: M) → (∀ q ∈ M, q.1 < D) → Q (.ref D) { s with heap := h' }) : wpAny (model prog w) A (call (.type "list") [.ref a]) Q E' s :=
  kup_listOfT F N ha rfl (fun D n h' F' N' l => h D n h' F' N' l) (by rw [sizeLine_eq]; show vs.length ≤ _; omega)
def TSrc (h₀ : Heap) (ax : Addr) (vs : List Value) (news : Led) : Prop := h₀.IsTuple ax vs.toArray ∨ (ax, tup vs) ∈ news
theorem TSrc.tuple {h₀ h : Heap} {L ax : Addr} {vs : List Value} {news : Led} (x : TSrc h₀ ax vs news) (k : ∀ b o, h₀.get? b = some o → h.get? b = some o) (N : News h₀ L h news) : h.IsTuple ax vs.toArray := by
  rcases x with ⟨o, e, r⟩ | hm
  · exact ⟨o, k _ _ e, r⟩
  · exact ⟨_, (N _ hm).1, rfl, _, rfl⟩
def TupSrc (prog : Program) (w : World) (A : Around) (h₀ : Heap) (L : Addr) (m : Str → Option Value) (env : Env) (elt : PySem.Expr) (x : Str) (scope : Scope) (cl : List (Str × Addr)) (Fin : Shared → List Value → Led → Prop) (xv : Value) (s₁ : Shared) : Prop :=
  ∃ ax vs news, xv = .ref ax ∧ A.handled = none ∧ Fr h₀ L s₁.heap m ∧ News h₀ L s₁.heap news ∧ TSrc h₀ ax vs news ∧ vs.length ≤ 1000 ∧
    ∀ g, LCg.CompRest prog w A h₀ L m env elt x scope cl { s₁ with heap := g } (TSrc h₀ ax vs) (fun i v => vs.toArray[i]? = some v) (Fin { s₁ with heap := g }) vs.toArray.size 0 [] news
variable {env : Env}
theorem ListComp_tup {elt iter : PySem.Expr} {x : Str} {px : Pos} {scope : Scope} {cl : List (Str × Addr)} {pos : Pos} {Q : Value → Shared → Prop} (_F₀ : Fr h₀ L s.heap m)
    (hclos : closureFor scope env = pure cl) (hcell : ∀ y ∈ scope.names, y.2 ≠ .cell) (hkind : scope.kind = .function)
    (hnames : ∀ y ∈ scope.names, y.2 = .local → scope.names.lookup y.1 = some .local) (hx : scope.names.lookup x = some .local)
    (h : wpAny (model prog w) A (eval iter env) (TupSrc prog w A h₀ L m env elt x scope cl (fun s₂ => LCg.FinE h₀ L m s₂ Q)) E' s)
    (hs : ∀ x, foldedSetIterable iter env x = pure x := by intro _; rfl) :
    wpAny (model prog w) A (eval (.ListComp elt [⟨.Name x px, iter, [], 0⟩] scope pos) env) Q E' s := by
  rw [eval_ListComp]
  refine wpAny_comprehension_free (use := none) rfl hs hclos hkind hnames (wpAny_mono h (fun xv s₁ h₁ => ?_) fun _ _ e => e)
  obtain ⟨ax, vs, news, rfl, hh, F, N, S, hsz, R⟩ := h₁
  have hl := S.tuple F.keep N
  have hlt : ax < s₁.heap.objs.size := by obtain ⟨_, e, _⟩ := hl; exact Heap.lt_size e
  refine wpAny_pyIter_tuple hl ?_
  have up : ∀ b o, s₁.heap.get? b = some o → (s₁.heap.push { cls := .type "tuple_iterator", data := .fields #[.ref ax, .int 0 0] }).get? b = some o := fun b o e => Heap.get?_push_of_some _ e
  refine LCg.block_U (S := TSrc h₀ ax vs) (Walks.tuple hh s₁.heap.objs.size ax (Nat.ne_of_lt hlt) vs.toArray) (by rw [List.size_toArray, sizeLine_eq]; omega) (fun i h st => by obtain ⟨o, e, _⟩ := st.1; exact ⟨o, e⟩) (fun i h h' o nw st e e' k N S => ?_) hcell hkind hx ⟨⟨_, Heap.get?_push_size _ rfl, rfl, rfl⟩, hl.at fun o e => up _ _ e⟩ (fun b hb => ?_)
    (F.keeps up) (N.grown up) (Nat.ne_of_lt F.ns.lt) (next_is_new F) (fun p hp => Nat.ne_of_lt (Heap.lt_size (N p hp).1)) S (R _) ?_
  · exact ⟨by obtain ⟨o', q, r⟩ := st.1; rw [e] at q; cases q; exact ⟨o, e', r⟩, S.tuple k N⟩
  · show b < (s₁.heap.push _).objs.size
    rw [Heap.size_push]
    rcases List.mem_cons.mp hb with rfl | hb
    · exact Nat.lt_succ_self _
    · rw [List.mem_singleton.mp hb]; exact Nat.lt_succ_of_lt hlt
  · intro D C h tk m' ys news' F' N' o1 hn hC₀ hD₀ hCL hDL hCD offC fin
    refine ⟨m', hn, fun h'' hs'' => fin D h'' tk (F'.change hs'' hCL hC₀) (fun p hp => ?_) o1⟩
    refine ⟨hs''.extBut _ _ ?_ (N' p hp).1, (N' p hp).2⟩
    rcases List.mem_cons.mp hp with rfl | hp
    · exact Ne.symm hCD
    · exact offC p hp
theorem Assign_ListComp_tup {elt iter : PySem.Expr} {x y : Str} {px py : Pos} {scope : Scope} {cl : List (Str × Addr)} {pos spos : Pos} {Q : Flow → Shared → Prop} (_F₀ : Fr h₀ L s.heap m) (hLe : env.locals = L)
    (hsw : swapsWith (.ListComp elt [⟨.Name x px, iter, [], 0⟩] scope pos) (some (.Name y py)) spos.line env = pure true)
    (hclos : closureFor scope env = pure cl) (hcell : ∀ z ∈ scope.names, z.2 ≠ .cell) (hkind : scope.kind = .function)
    (hnames : ∀ z ∈ scope.names, z.2 = .local → scope.names.lookup z.1 = some .local) (hx : scope.names.lookup x = some .local)
    (hy : env.kindOf y = some .local) (hp : (env.scope.kind == .class || (env.scope.kind == .module && env.locals != env.globals)) = false)
    (h : wpAny (model prog w) A (eval iter env) (TupSrc prog w A h₀ L m env elt x scope cl (fun s₂ => LCg.FinA h₀ L m s₂ y Q)) E' s)
    (hs : ∀ x, foldedSetIterable iter env x = pure x := by intro _; rfl) :
    wpAny (model prog w) A (exec (.Assign [.Name y py] (.ListComp elt [⟨.Name x px, iter, [], 0⟩] scope pos) spos) env) Q E' s := by
  subst hLe
  rw [exec_Assign_Name_used _ _ _ _ hsw]
  refine wpAny_bind (wpAny_standAt (wpAny_bind ?_))
  show wpAny _ A (do let _ ← comprehension (.ListComp elt [⟨.Name x px, iter, [], 0⟩] scope pos) scope env _ (newList []) false (eval iter env) (some (assign (.Name y py) env))) _ _ s
  refine wpAny_bind (wpAny_mono (wpAny_comprehension_free (use := some (assign (.Name y py) env)) (Q := fun _ s' => Q .next s') rfl hs hclos hkind hnames
    (wpAny_mono h (fun xv s₁ h₁ => ?_) fun _ _ e => e)) (fun _ s' hq => wpAny_pure (wpAny_pure hq)) fun _ _ e => e)
  obtain ⟨ax, vs, news, rfl, hh, F, N, S, hsz, R⟩ := h₁
  have hl := S.tuple F.keep N
  have hlt : ax < s₁.heap.objs.size := by obtain ⟨_, e, _⟩ := hl; exact Heap.lt_size e
  refine wpAny_pyIter_tuple hl ?_
  have up : ∀ b o, s₁.heap.get? b = some o → (s₁.heap.push { cls := .type "tuple_iterator", data := .fields #[.ref ax, .int 0 0] }).get? b = some o := fun b o e => Heap.get?_push_of_some _ e
  refine LCg.block_U (S := TSrc h₀ ax vs) (Walks.tuple hh s₁.heap.objs.size ax (Nat.ne_of_lt hlt) vs.toArray) (by rw [List.size_toArray, sizeLine_eq]; omega) (fun i h st => by obtain ⟨o, e, _⟩ := st.1; exact ⟨o, e⟩) (fun i h h' o nw st e e' k N S => ?_) hcell hkind hx ⟨⟨_, Heap.get?_push_size _ rfl, rfl, rfl⟩, hl.at fun o e => up _ _ e⟩ (fun b hb => ?_)
    (F.keeps up) (N.grown up) (Nat.ne_of_lt F.ns.lt) (next_is_new F) (fun p hp => Nat.ne_of_lt (Heap.lt_size (N p hp).1)) S (R _) ?_
  · exact ⟨by obtain ⟨o', q, r⟩ := st.1; rw [e] at q; cases q; exact ⟨o, e', r⟩, S.tuple k N⟩
  · show b < (s₁.heap.push _).objs.size
    rw [Heap.size_push]
    rcases List.mem_cons.mp hb with rfl | hb
    · exact Nat.lt_succ_self _
    · rw [List.mem_singleton.mp hb]; exact Nat.lt_succ_of_lt hlt
  · intro D C h' tk m' ys news' F' N' o1 hn hC₀ hD₀ hCL hDL hCD offC fin
    show wpAny _ A (assign (.Name y py) env (.ref D)) _ _ _
    refine wpAny_assign_Name (wpAny_storeName_local hy F'.ns (fun h₂ hn₂ hs₂ => ?_) hp)
    have hL₀ : h₀.get? env.locals = none := Heap.get?_none_of_le F'.above
    have F₂ : Fr h₀ env.locals h₂ (fun z => if z = y then some (.ref D) else m z) := ⟨hn₂, fun b o e => hs₂.extBut b o (fun q => by rw [q, hL₀] at e; cases e) (F'.keep b o e), F'.above⟩
    refine ⟨m', hn.sameBut hs₂ hCL, fun h'' hs'' => fin D h'' _ (F₂.change hs'' hCL hC₀) (fun p hp => ?_) o1⟩
    have z : h₂.get? p.1 = some p.2 := hs₂.extBut _ _ (N' p hp).2.1 (N' p hp).1
    refine ⟨hs''.extBut _ _ ?_ z, (N' p hp).2⟩
    rcases List.mem_cons.mp hp with rfl | hp
    · exact Ne.symm hCD
    · exact offC p hp
theorem TupSrc.ledger {elt : PySem.Expr} {x : Str} {scope : Scope} {cl : List (Str × Addr)} {Fin : Shared → List Value → Led → Prop} {vs : List Value} (hh : A.handled = none) (F : Fr h₀ L s.heap m) (N : News h₀ L s.heap M) (hm : (a, tup vs) ∈ M) (hsz : vs.length ≤ 1000)
    (h : ∀ g, LCg.CompRest prog w A h₀ L m env elt x scope cl { s with heap := g } (TSrc h₀ a vs) (fun i v => vs.toArray[i]? = some v) (Fin { s with heap := g }) vs.toArray.size 0 [] M) : TupSrc prog w A h₀ L m env elt x scope cl Fin (.ref a) s :=
  ⟨a, vs, M, rfl, hh, F, N, .inr hm, hsz, h⟩
theorem TupSrc.top {K : Frag} {elt : PySem.Expr} {x : Str} {scope : Scope} {cl : List (Str × Addr)} {Fin : Shared → List Value → Led → Prop} {vs : List Value} {n : Nat} {dd : Option Addr} {sl : Array (Option Value)} (hh : A.handled = none) (F : Fr h₀ L s.heap m) (N : News h₀ L s.heap M) (X : K.In h₀) (hl : K.lookup a = some ⟨.type "tuple", dd, .seq vs.toArray n, sl⟩) (hsz : vs.length ≤ 1000)
    (h : ∀ g, LCg.CompRest prog w A h₀ L m env elt x scope cl { s with heap := g } (TSrc h₀ a vs) (fun i v => vs.toArray[i]? = some v) (Fin { s with heap := g }) vs.toArray.size 0 [] M) : TupSrc prog w A h₀ L m env elt x scope cl Fin (.ref a) s :=
  ⟨a, vs, M, rfl, hh, F, N, .inl (tupK X hl), hsz, h⟩
theorem unr_end {h' : Heap} {m' : Str → Option Value} {tk : Nat} {I ax : Addr} {o lo : Obj} {s₁ : Shared} {rest : (Str → Option Value) → Led → Prop} (F : Fr h₀ L h' m') (N : News h₀ L h' M) (hI : (I, o) ∈ M) (kp : Keep I M R) (hk : (ax, lo) ∈ R) (r : rest m' R) :
    UnrEndW h₀ L s₁ [(I, o)] (fun m' n' => SubL [(ax, lo)] n' ∧ rest m' n') { s₁ with heap := h', toks := tk } :=
  ⟨h', tk, m', R, rfl, F, fun p hp => by
    rcases List.mem_append.mp hp with hp | hp
    · rw [List.mem_singleton.mp hp]; exact N _ hI
    · exact N p (kp.sub p hp), fun p hp q hq => by rw [List.mem_singleton.mp hq]; exact kp.ne p hp, ⟨hk, trivial⟩, r⟩
end
theorem lt_tail {c : Addr} {q : Addr × Obj} {l : Led} (h : ∀ p ∈ q :: l, p.1 < c) : ∀ p ∈ l, p.1 < c := fun p hp => h p (.tail _ hp)
theorem lt_up {c d : Addr} {l : Led} (h : ∀ p ∈ l, p.1 < d) (hd : @LT.lt Nat _ d c) : ∀ p ∈ l, p.1 < c := fun p hp => Nat.lt_trans (h p hp) hd
section
variable {prog : Program} {w : World} {A : Around} {E' : Value → Shared → Prop} {s : Shared} {h₀ : Heap} {L a : Addr} {m : Str → Option Value} {M R : Led} {K : Frag}
theorem list_of_top {vs : List Value} {n : Nat} {dd : Option Addr} {sl : Array (Option Value)} {Q : Value → Shared → Prop} (F : Fr h₀ L s.heap m) (N : News h₀ L s.heap M) (X : K.In h₀) (hl : K.lookup a = some ⟨.type "tuple", dd, .seq vs.toArray n, sl⟩) (hz : vs.length ≤ 1000)
    (h : ∀ D n h', Fr h₀ L h' m → News h₀ L h' ((D, lstn n vs) :: M) → (∀ q ∈ M, q.1 < D) → Q (.ref D) { s with heap := h' }) : wpAny (model prog w) A (call (.type "list") [.ref a]) Q E' s :=
  list_copyKT F N (tupK (X.keeps F.keep) hl) (fun D n h' F' N' l => h D n h' F' N' l) (by rw [List.size_toArray, sizeLine_eq]; omega)
theorem unr_end0 {h' : Heap} {m' : Str → Option Value} {tk : Nat} {I : Addr} {o : Obj} {s₁ : Shared} {rest : (Str → Option Value) → Led → Prop} (F : Fr h₀ L h' m') (N : News h₀ L h' M) (hI : (I, o) ∈ M) (kp : Keep I M R) (r : rest m' R) :
    UnrEndW h₀ L s₁ [(I, o)] (fun m' n' => SubL [] n' ∧ rest m' n') { s₁ with heap := h', toks := tk } :=
  ⟨h', tk, m', R, rfl, F, fun p hp => by
    rcases List.mem_append.mp hp with hp | hp
    · rw [List.mem_singleton.mp hp]; exact N _ hI
    · exact N p (kp.sub p hp), fun p hp q hq => by rw [List.mem_singleton.mp hq]; exact kp.ne p hp, trivial, r⟩
end
-- CN
section
variable {prog : Program} {w : World} {A : Around} {E' : Value → Shared → Prop} {s : Shared} {h₀ : Heap} {L a : Addr} {m : Str → Option Value} {M : Led} {env : Env} {K : Frag}
def NilSrc (h₀ : Heap) (L : Addr) (m : Str → Option Value) (A : Around) (Fin : Shared → List Value → Led → Prop) (xv : Value) (s₁ : Shared) : Prop :=
  ∃ ax news, xv = .ref ax ∧ A.handled = none ∧ Fr h₀ L s₁.heap m ∧ News h₀ L s₁.heap news ∧ h₀.IsTuple ax #[] ∧ ∀ g, Fin { s₁ with heap := g } [] news
theorem ListComp_nil {elt iter target : PySem.Expr} {scope : Scope} {cl : List (Str × Addr)} {pos : Pos} {Q : Value → Shared → Prop} (_F₀ : Fr h₀ L s.heap m)
    (hclos : closureFor scope env = pure cl) (hcell : ∀ y ∈ scope.names, y.2 ≠ .cell) (hkind : scope.kind = .function)
    (hnames : ∀ y ∈ scope.names, y.2 = .local → scope.names.lookup y.1 = some .local)
    (h : wpAny (model prog w) A (eval iter env) (NilSrc h₀ L m A (fun s₂ => LCg.FinE h₀ L m s₂ Q)) E' s)
    (hs : ∀ x, foldedSetIterable iter env x = pure x := by intro _; rfl) :
    wpAny (model prog w) A (eval (.ListComp elt [⟨target, iter, [], 0⟩] scope pos) env) Q E' s := by
  rw [eval_ListComp]
  refine wpAny_comprehension_free (use := none) rfl hs hclos hkind hnames (wpAny_mono h (fun xv s₁ h₁ => ?_) fun _ _ e => e)
  obtain ⟨ax, news, rfl, hh, F, N, S, R⟩ := h₁
  have hl : s₁.heap.IsTuple ax #[] := by obtain ⟨o, e, r⟩ := S; exact ⟨o, F.keep _ _ e, r⟩
  have hlt : ax < s₁.heap.objs.size := by obtain ⟨_, e, _⟩ := hl; exact Heap.lt_size e
  refine wpAny_pyIter_tuple hl ?_
  generalize hIe : s₁.heap.objs.size = I
  generalize hH1 : s₁.heap.push { cls := .type "tuple_iterator", data := .fields #[.ref ax, .int 0 0] } = H1
  have W := Walks.tuple (prog := prog) (w := w) hh I ax (by rw [← hIe]; exact Nat.ne_of_lt hlt) #[]
  have up : ∀ b o, s₁.heap.get? b = some o → H1.get? b = some o := fun b o e => by rw [← hH1]; exact Heap.get?_push_of_some _ e
  have hst : H1.IsTupleIter I ax 0 ∧ H1.IsTuple ax #[] := ⟨⟨_, by rw [← hH1, ← hIe]; exact Heap.get?_push_size _ rfl, rfl, rfl⟩, hl.at fun o e => up _ _ e⟩
  have F1 : Fr h₀ L H1 m := F.keeps up
  have N1 : News h₀ L H1 news := N.grown up
  have s1 : H1.objs.size = I + 1 := by rw [← hH1, Heap.size_push, hIe]
  refine wpAny_newObj_type (wpAny_newFunctionEnv hcell (by intro y hy; simp at hy) (fun h₁ hns₁ hsb₁ => ?_) hkind)
  dsimp only at hns₁ hsb₁ ⊢
  generalize hH2 : H1.push { cls := .type "list", dict := none, data := .seq ([] : List Value).toArray } = H2 at hns₁ hsb₁ ⊢
  have s2 : H2.objs.size = I + 2 := by rw [← hH2, Heap.size_push, s1]
  have hI₀ : h₀.get? I = none := by rw [← hIe]; exact next_is_new F
  have hLI : @LT.lt Nat _ L I := by rw [← hIe]; exact F.ns.lt
  have nD : @Ne Nat H1.objs.size H2.objs.size := by rw [s1, s2]; exact Nat.ne_of_lt (Nat.lt_succ_self _)
  have nI : @Ne Nat H2.objs.size I := by rw [s2]; exact Nat.ne_of_gt (Nat.lt_trans (Nat.lt_succ_self _) (Nat.lt_succ_self _))
  have nDI : @Ne Nat H1.objs.size I := by rw [s1]; exact Nat.ne_of_gt (Nat.lt_succ_self _)
  have bel : ∀ b o, H1.get? b = some o → b ≠ H2.objs.size := fun b o e => by have := Heap.lt_size e; rw [s2]; rw [s1] at this; exact Nat.ne_of_lt (Nat.lt_succ_of_lt this)
  have old : ∀ b o, H1.get? b = some o → h₁.get? b = some o := fun b o e => hsb₁.extBut b o (bel b o e) (Heap.get?_push_of_some _ (hH2 ▸ Heap.get?_push_of_some _ e))
  have hacc : h₁.get? H1.objs.size = some (LCg.lst []) := hsb₁.extBut _ _ nD (Heap.get?_push_of_some _ (hH2 ▸ Heap.get?_push_size _ rfl))
  have hst₁ := W.frame _ _ _ hst fun b _ o e => old b o e
  have F2 : Fr h₀ L h₁ m := F1.keeps old
  have fresh₀ : ∀ b, @LE.le Nat _ I b → h₀.get? b = none := fun b hb => by
    cases e : h₀.get? b with
    | none => rfl
    | some o' => exact absurd (Heap.lt_size (F.keep b o' e)) (by rw [hIe]; exact Nat.not_lt.mpr hb)
  have hCL : H2.objs.size ≠ L := Nat.ne_of_gt (by rw [s2]; exact Nat.lt_trans hLI (Nat.lt_trans (Nat.lt_succ_self _) (Nat.lt_succ_self _)))
  have hDL : H1.objs.size ≠ L := Nat.ne_of_gt (by rw [s1]; exact Nat.lt_trans hLI (Nat.lt_succ_self _))
  have hC₀ : h₀.get? H2.objs.size = none := fresh₀ _ (by rw [s2]; exact Nat.le_trans (Nat.le_succ _) (Nat.le_succ _))
  have hD₀ : h₀.get? H1.objs.size = none := fresh₀ _ (by rw [s1]; exact Nat.le_succ _)
  have loop : ∀ (R' : Result → Shared → Prop) (env' : Env) (s₃ : Shared), s₃.heap = h₁ → (∀ h₂ tk, (∀ b o, b ∉ [I] → h₁.get? b = some o → h₂.get? b = some o) → R' (.ok .next) { s₃ with heap := h₂, toks := tk }) →
      codeAny (model prog w) A (.compLoop (.ListComp elt [⟨target, iter, [], 0⟩] scope pos) 0 (.ref I) (.ref H1.objs.size) env') R' s₃ := by
    intro R' env' s₃ e3 hR
    refine codeAny_loop rfl (fun _ s' => s' = s₃) (fun n s' hI => ?_) 1 rfl
    subst hI
    show wpAny _ A ((compTurn (.ListComp elt [⟨target, iter, [], 0⟩] scope pos) 0 (.ref I) (.ref H1.objs.size) env').onRaise (fun x => do noteFrame x env'; theTreesLotGoes x)) _ _ _
    refine wpAny_noted ?_
    rw [compTurn_list]
    refine wpAny_bind (wpAny_standAt (wpAny_bind (W.done _ _ _ (by rw [e3]; exact hst₁) fun h₂ tk hk => ?_)))
    exact wpAny_pure (hR h₂ tk (by rw [← e3]; exact hk))
  have fin : ∀ (h₂ : Heap), (∀ b o, b ∉ [I] → h₁.get? b = some o → h₂.get? b = some o) → ∀ (h'' : Heap) (tk : Nat) (s₄ : Shared), Heap.SameBut H2.objs.size h₂ h'' → s₄ = { s₁ with heap := h'', toks := tk } → Q (.ref H1.objs.size) s₄ := fun h₂ hk h'' tk s₄ hs e4 => by
    subst e4
    refine R h₁ H1.objs.size h'' tk ((LCg.fr_but F2 hk (Nat.ne_of_lt hLI) hI₀).change hs hCL hC₀) (fun p hp => ?_) ?_
    · rcases List.mem_cons.mp hp with rfl | hp
      · exact ⟨hs.extBut _ _ nD (hk _ _ (by simpa using nDI) hacc), hDL, hD₀⟩
      · have z := N1 p hp
        exact ⟨hs.extBut _ _ (bel _ _ z.1) (hk _ _ (by simpa using (Nat.ne_of_lt (hIe ▸ Heap.lt_size (N p hp).1))) (old _ _ z.1)), z.2⟩
    · have : ∀ l : Led, (∀ p ∈ l, @Ne Nat p.1 H1.objs.size) → LCg.Off1 H1.objs.size l := fun l => by
        induction l with
        | nil => exact fun _ => trivial
        | cons q r ih => exact fun h => ⟨h q (.head _), ih fun p hp => h p (.tail _ hp)⟩
      exact this _ fun p hp => Nat.ne_of_lt (Heap.lt_size (N1 p hp).1)
  refine codeAny_compStart_list (loop _ _ _ rfl fun h₂ tk hk => ?_) (W.self 0 _ _ _ hst₁ (loop _ _ _ rfl fun h₂ tk hk => ?_))
  · exact ⟨_, hns₁.at' fun o e => hk _ o (by simpa using nI) e, fun h'' hs'' => fin h₂ hk h'' tk _ hs'' rfl⟩
  · exact ⟨_, hns₁.at' fun o e => hk _ o (by simpa using nI) e, fun h'' hs'' => fin h₂ hk h'' tk _ hs'' rfl⟩
theorem NilSrc.top {Fin : Shared → List Value → Led → Prop} {n : Nat} {dd : Option Addr} {sl : Array (Option Value)} (hh : A.handled = none) (F : Fr h₀ L s.heap m) (N : News h₀ L s.heap M) (X : K.In h₀) (hl : K.lookup a = some ⟨.type "tuple", dd, .seq (([] : List Value)).toArray n, sl⟩)
    (h : ∀ g, Fin { s with heap := g } [] M) : NilSrc h₀ L m A Fin (.ref a) s := ⟨a, M, rfl, hh, F, N, tupK X hl, h⟩
end
-- WA
def IOut (N : Led) (k : Int) (_ : Addr) (N' : Led) (r : Value) : Prop := N' = N ∧ ∃ t, r = .int k t
section
variable {w : World} {f : Addr} {vs : List Value} {nd nu : Nat} {N M : Led} {mean : ExcName → Option Value} {mg mb : Str → Option Value} {dp un : Nat} {gd : Option (List Code)} {cn : Str} {cs : Scope} {a : Addr} {ccd : Value} {cl : List (Str × Addr)} {outer : List Env} {A₀ : Around} {base h₀ h' : Heap} {L : Addr} {m : Str → Option Value} {s : Shared} {tk' : Nat}
    {Q E : Value → Shared → Prop}
theorem Does.useI {x : Int} (D : Does w f vs nd nu N (IOut N x)) (B : Below A₀ base outer h₀) (F : Fr h₀ L s.heap m) (X : (pre.heap_1_39 w.params).In h₀) (NN : News h₀ L s.heap N) (T : Top pre.view_1_40 LL mean mg mb h₀) (hk : cs.kind = .function) (hdp : dp + nd < recursionLimit) (hun : un + nu < cLine)
    (ret : ∀ t h' tk', Fr h₀ L h' m → News h₀ L h' N → Q (.int x t) { s with heap := h', toks := tk' }) :
    wpAny (model PySem.Challenge.rw_sy0034_01.row.prog w) (ktrTop dp un gd cn cs L a ccd cl outer) (call (.ref f) vs) Q E s :=
  D _ _ _ _ _ _ _ _ _ _ _ _ _ _ _ _ _ _ _ _ B F X NN T hk hdp hun fun r N' h' tk' F' N9 o => by
    obtain ⟨rfl, t, rfl⟩ := o
    exact ret t h' tk' F' N9
end
def blkL : List Str := [Str.ofString "block", Str.ofString "if", Str.ofString "match", Str.ofString "loop", Str.ofString "while", Str.ofString "for"]
def jmpL : List Str := [Str.ofString "break", Str.ofString "continue", Str.ofString "return"]
def isJmp : E → Bool
  | .cont _ | .brk0 _ | .brk .. | .ret _ => true
  | _ => false
theorem blk6 (e : E) : (blkL.any fun x => x == kind e) = isBlk e := by cases e <;> exact rfl
theorem jmp3 (e : E) : (jmpL.any fun x => x == kind e) = isJmp e := by cases e <;> exact rfl
theorem opn_eq (e : E) : opn e = (isStr e || isBlk e || isJmp e) := by cases e <;> rfl
section
variable {prog : Program} {w : World} {A : Around} {E' : Value → Shared → Prop} {s : Shared} {h₀ : Heap} {L a : Addr} {m : Str → Option Value} {M : Led} {u : Tok} {x : Str} {Q : Value → Shared → Prop}
theorem in_blocks (F : Fr h₀ L s.heap m) (X : (pre.heap_1_39 w.params).In h₀) (h : Q (.bool (blkL.any fun y => y == x)) s) : wpAny (model prog w) A (compareOp .In (.str x u) (.ref 17)) Q E' s :=
  in_tuple_strs (tupK (l := [_, _, _, _, _, _]) (X.keeps F.keep) (by with_unfolding_all rfl)) (.cons _ _ (.cons _ _ (.cons _ _ (.cons _ _ (.cons _ _ (.cons _ _ .nil)))))) h
theorem in_jumps (F : Fr h₀ L s.heap m) (X : (pre.heap_1_39 w.params).In h₀) (h : Q (.bool (jmpL.any fun y => y == x)) s) : wpAny (model prog w) A (compareOp .In (.str x u) (.ref 18)) Q E' s :=
  in_tuple_strs (tupK (l := [_, _, _]) (X.keeps F.keep) (by with_unfolding_all rfl)) (.cons _ _ (.cons _ _ (.cons _ _ .nil))) h
theorem levels_get {j : Fin 18} {value slice : PySem.Expr} (F : Fr h₀ L s.heap m) (X : (pre.heap_1_39 w.params).In h₀) (h : ∀ t, Q (.int (blv j) t) { s with toks := s.toks + 1 })
    (hs : subscripted slice false (.ref 15) (.str (sgn j) u) = operate [.ref 15, .str (sgn j) u] (getItem (.ref 15) (.str (sgn j) u)) := by with_unfolding_all rfl) :
    wpAny (model prog w) A (subscriptTail value slice (.ref 15) (.str (sgn j) u)) Q E' s := by
  obtain ⟨es, n, hl, hk, hf⟩ : ∃ es n, (pre.heap_1_39 w.params).lookup 15 = some ⟨.type "dict", none, .dict es n, #[]⟩ ∧ KeysLit w.params es.toList ∧ ∀ j : Fin 18, ∃ t, nsIn (pre.heap_1_39 w.params) 15 (sgn j) = some (some (.int (blv j) t)) := by
    refine ⟨_, _, by with_unfolding_all rfl, ?_, ?_⟩
    · k_keys
    · intro j
      obtain ⟨n, hn⟩ := j
      have : n = 0 ∨ n = 1 ∨ n = 2 ∨ n = 3 ∨ n = 4 ∨ n = 5 ∨ n = 6 ∨ n = 7 ∨ n = 8 ∨ n = 9 ∨ n = 10 ∨ n = 11 ∨ n = 12 ∨ n = 13 ∨ n = 14 ∨ n = 15 ∨ n = 16 ∨ n = 17 := by omega
      rcases this with rfl | rfl | rfl | rfl | rfl | rfl | rfl | rfl | rfl | rfl | rfl | rfl | rfl | rfl | rfl | rfl | rfl | rfl <;> exact ⟨_, by with_unfolding_all rfl⟩
  obtain ⟨t, hj⟩ := hf j
  exact topItem_K F X hl hk hj (h t) hs
end

theorem lv_asg {e : E} (h : ([Str.ofString "assign", Str.ofString "update"].any fun x => x == kind e) = true) : lvl e = 0 := by
  cases e <;> first | rfl | exact Bool.noConfusion (show false = true from h)
theorem lv_blk {e : E} (h : isBlk e = true) : lvl e = 0 := by cases e <;> first | rfl | exact Bool.noConfusion (show false = true from h)
theorem lv_jmp {e : E} (h : isJmp e = true) : lvl e = 0 := by cases e <;> first | rfl | exact Bool.noConfusion (show false = true from h)
theorem lv_cast {e : E} (h : (kind e == Str.ofString "cast") = true) : lvl e = 10 := by cases e <;> first | rfl | exact Bool.noConfusion (show false = true from h)
theorem lv_un {e : E} (h : ([Str.ofString "unary", Str.ofString "borrow"].any fun x => x == kind e) = true) : lvl e = 11 := by cases e <;> first | rfl | exact Bool.noConfusion (show false = true from h)
theorem lv_else {e : E} (h1 : ([Str.ofString "assign", Str.ofString "update"].any fun x => x == kind e) = false) (h2 : isBlk e = false) (h3 : isJmp e = false) (h4 : (kind e == Str.ofString "binary") = false) (h5 : (kind e == Str.ofString "cast") = false)
    (h6 : ([Str.ofString "unary", Str.ofString "borrow"].any fun x => x == kind e) = false) : lvl e = 12 := by
  cases e <;> first | rfl | (exact Bool.noConfusion (show true = false from h1)) | (exact Bool.noConfusion (show true = false from h2)) | (exact Bool.noConfusion (show true = false from h3)) | (exact Bool.noConfusion (show true = false from h4)) | (exact Bool.noConfusion (show true = false from h5)) | (exact Bool.noConfusion (show true = false from h6))
theorem tr_bin {N : Led} {e : E} {v : Value} (T : Tr N e v) (h : (kind e == Str.ofString "binary") = true) : ∃ j l r a x y t1 t2 t3, e = .bin j l r ∧ v = .ref a ∧ (a, tup [.str (Str.ofString "binary") t1, .int 0 t2, .str (sgn j) t3, x, y]) ∈ N := by
  cases T <;> first | exact Bool.noConfusion (show false = true from h) | exact ⟨_, _, _, _, _, _, _, _, _, rfl, rfl, by assumption⟩
section
variable {prog : Program} {w : World} {A : Around} {E' : Value → Shared → Prop} {s : Shared} {h₀ : Heap} {L a : Addr} {m : Str → Option Value} {M : Led} {u : Tok} {x : Str} {Q : Value → Shared → Prop}
theorem bin2_get {e : E} {value slice : PySem.Expr} (NN : News h₀ L s.heap M) (T : Tr M e (.ref a)) (hb : (kind e == Str.ofString "binary") = true) (h : ∀ j l r t, e = .bin j l r → Q (.str (sgn j) t) s)
    (hs : subscripted slice false (.ref a) (.int 2 u) = operate [.ref a, .int 2 u] (getItem (.ref a) (.int 2 u)) := by with_unfolding_all rfl) :
    wpAny (model prog w) A (subscriptTail value slice (.ref a) (.int 2 u)) Q E' s := by
  obtain ⟨j, l, r, a', x, y, t1, t2, t3, he, hv, hm⟩ := tr_bin T hb
  cases hv
  exact tup_item (j := 2) NN hm rfl rfl (by decide) (by decide) rfl rfl (h j l r _ he) hs
end
/-- write_expr for all that is lower than n -/
def WX (w : World) (n : Nat) : Prop := ∀ (N : Led) (e : E) (v : Value), hgt e < n → Tr N e v →
  (∀ (l : Int) (tl : Tok) (b : Bool), Does w 99 [v, .int l tl, .bool b] (20 * n) (200 * n) N (WOut N (W e l b))) ∧ (∀ (l : Int) (tl : Tok), Does w 99 [v, .int l tl] (20 * n) (200 * n) N (WOut N (W e l false))) ∧ Does w 99 [v] (20 * n) (200 * n) N (WOut N (W e 0 false))
theorem WX.c3 {w : World} {n : Nat} (h : WX w n) {N : Led} {e : E} {v : Value} {l : Int} {tl : Tok} {b : Bool} (T : Tr N e v) (he : hgt e < n) : Does w 99 [v, .int l tl, .bool b] (20 * n) (200 * n) N (WOut N (W e l b)) := (h N e v he T).1 l tl b
theorem WX.c2 {w : World} {n : Nat} (h : WX w n) {N : Led} {e : E} {v : Value} {l : Int} {tl : Tok} (T : Tr N e v) (he : hgt e < n) : Does w 99 [v, .int l tl] (20 * n) (200 * n) N (WOut N (W e l false)) := (h N e v he T).2.1 l tl
theorem WX.c1 {w : World} {n : Nat} (h : WX w n) {N : Led} {e : E} {v : Value} (T : Tr N e v) (he : hgt e < n) : Does w 99 [v] (20 * n) (200 * n) N (WOut N (W e 0 false)) := (h N e v he T).2.2
def WG (w : World) (n : Nat) : Prop := ∀ (N : Led) (e : E) (v : Value) (b : Bool), hgt e ≤ n → Tr N e v → (b = true → opn e = false) → Does w 106 [v, .bool b] (20 * n + 16) (200 * n + 160) N (WOut N (txt e b))
theorem WG.at {w : World} {n : Nat} (h : WG w n) {N : Led} {e : E} {v : Value} {b : Bool} (T : Tr N e v) (he : hgt e ≤ n) (hb : b = true → opn e = false) : Does w 106 [v, .bool b] (20 * n + 16) (200 * n + 160) N (WOut N (txt e b)) := h N e v b he T hb
theorem opn_no {e : E} (h1 : (kind e == Str.ofString "struct") = false) (h2 : (jmpL.any fun x => x == kind e) = false) (h3 : (blkL.any fun x => x == kind e) = false) : opn e = false := by
  rw [opn_eq, ← kind_strct, ← blk6, ← jmp3, h1, h2, h3]; rfl
theorem opn_s {e : E} (h1 : (kind e == Str.ofString "struct") = true) : opn e = true := by rw [opn_eq, ← kind_strct, h1]; rfl
theorem opn_j {e : E} (h1 : (jmpL.any fun x => x == kind e) = true) : opn e = true := by rw [opn_eq, ← jmp3, h1]; exact Bool.or_true _
theorem opn_b {e : E} (h1 : (blkL.any fun x => x == kind e) = true) : opn e = true := by rw [opn_eq, ← blk6, h1, Bool.or_true]; rfl
theorem W_lt {e : E} {n : Int} {b : Bool} (h : lvl e < n) : par (txt e false) = W e n b := (if_pos h).symm
theorem W_ge {e : E} {n : Int} {b : Bool} (h : ¬ lvl e < n) : txt e b = W e n b := (if_neg h).symm
theorem W_opn {e : E} {n : Int} (h : opn e = true) : par (txt e false) = W e n true := by
  unfold W wst
  split
  · rfl
  · exact (opn_txt h).symm
theorem tr_ref {N : Led} {e : E} {v : Value} (T : Tr N e v) : ∃ a, v = .ref a := by
  cases T with
  | name p => cases p with | mk p q => exact ⟨_, rfl⟩
  | _ => exact ⟨_, rfl⟩
-- Ev5
/-- a def that makes nothing that is kept -/
theorem callX_plainV {w : World} {f : Addr} {name qual : Str} {params : Arguments} {body : List Stmt} {scope : Scope} {dV kV doc pm cdv ct oc : Value} {an od : Option Addr} {osl : Array (Option Value)} {args : List Value} {nd nu : Nat} {N : Led} {R : Value → Prop} {ml0 : Mp}
    (ho : (pre.heap_1_39 w.params).lookup f = some ⟨oc, od, .func (fnOf name qual params body scope dV kV doc pm an cdv ct), osl⟩) (hcd : codeIn (pre.heap_1_39 w.params) cdv qual = true)
    (hbind : ∀ s : Shared, (pre.heap_1_39 w.params).In s.heap → BindsTo s (fnOf name qual params body scope dV kV doc pm an cdv ct) { pos := args } ml0) (hloc : (ml0.all fun x => decide (scope.names.lookup x.1 = some .local)) = true)
    (hcell : (scope.names.all fun x => decide (x.2 ≠ .cell)) = true) (hco : scope.isCoroutine = false) (hgen : scope.isGenerator = false) (hk : scope.kind = .function) (hnd : 1 ≤ nd)
    (h : ∀ (c : Cx w scope), c.src = Option.none → c.N = N → c.ex = [] → c.dp + nd < recursionLimit + 1 → c.un + nu < cLine + 3 → ∀ Kr : Value → Led → Prop, EndK (fun _ r => R r) Kr → EndsS c (execs body c.env) ml0.reverse [] (fun _ _ => False) Kr) : Does w f args nd nu N (fun _ N' r => N' = N ∧ R r) := by
  intro mean mg mb dp un gd cn cs a ccd cl outer A₀ base h₀ L m s Q E B F X NN T hk' hdp hun hret
  have hcell' : ∀ x ∈ scope.names, x.2 ≠ .cell := fun x hx => by simpa using List.all_eq_true.mp hcell x hx
  refine wpAny_call ?_
  refine enter_plain B F X NN T rfl rfl hk' ho hcd (by show dp < recursionLimit; omega) (hbind s (X.keeps F.keep)) (locs hloc) (fun g' L' h' FG' F' N' B' X' T' l1 l2 => ?_) hco hgen hk hcell'
  let c : Cx w scope := { mean := mean, mg := mg, mb := mb, dp := dp + 1, un := un + 3, gd := gd, cn := qual, a := f, ccd := cdv, cl := [], outer := envX cn cs L a ccd cl :: outer, A₀ := _, base := base, h₀ := g', L := L', src := none, N := N, ex := [], below := B', inn := X', top := T', fn := hk, lo := fun p hp => l1 p hp, sLo := fun x hx => (nomatch hx), sNot := fun x hx => (nomatch hx), cLo := fun _ hp => (nomatch hp), cNd := List.nodup_nil, cOk := fun x hx => absurd rfl (hcell' _ (lk_mem hx)) }
  have S0 : Sta c h' _ ml0.reverse [] := ⟨⟨[], [], F', N', rfl, ⟨rfl, fun _ hp => (nomatch hp), fun x v _ hx => absurd rfl (hcell' _ (lk_mem hx))⟩, fun x v hx _ => hx, fun _ hp => (nomatch hp)⟩, ns_nil, fun _ hp => (nomatch hp), fun _ hp => (nomatch hp)⟩
  refine (h c rfl rfl rfl (by show dp + 1 + nd < _; omega) (by show un + 3 + nu < _; omega) (fun r _ => R r) ⟨fun _ _ h => h⟩).run _ _ _ _ S0 (fun _ _ _ _ _ _ h => h.elim) fun v mm1 ml' T1 h1 tk1 S1 k => ?_
  obtain ⟨⟨S', CL, F1, N1, sp, cp, lk, of⟩, ns1, nc1, ab1⟩ := S1
  exact leaveK_ F1 N1 fun FG NG => hret v _ h1 tk1 FG (news_sub (fun p hp => List.mem_append.mpr (.inr (List.mem_append.mpr (.inr (List.mem_append.mpr (.inr (List.mem_append.mpr (.inr hp)))))))) NG) ⟨rfl, k⟩
section
variable {w : World} {cs : Scope} {c : Cx w cs} {ml : Mp} {T : Led} {K : Value → Led → Prop}
theorem EndsS.exprE {e : PySem.Expr} {pos : Pos} {Kn : Mp → Led → Prop} {Kr : Value → Led → Prop} (hi : interactive c.env = false) (hs : swapsWith e none pos.line c.env = Pure.pure false) (h : Ends c (eval e c.env) ml T fun _ T' => Kn ml T') : EndsS c (exec (.Expr e pos) c.env) ml T Kn Kr :=
  ⟨fun s mm Q E S qn _ => wpAny_Expr_any (h.run s mm _ E S fun _ T' h' tk' S' k => qn mm ml T' h' tk' S' k) hi hs⟩
theorem app_R {prog : Program} {A : Around} {E' : Value → Shared → Prop} {s : Shared} {h₀ : Heap} {L a : Addr} {m : Str → Option Value} {M R : Led} {vs : List Value} {n : Nat} {v : Value} {Q : Value → Shared → Prop} (F : Fr h₀ L s.heap m) (N : News h₀ L s.heap M) (hm : (a, seqO vs n) ∈ M) (kp : ∀ p ∈ R, p ∈ M ∧ @Ne Nat p.1 a) (hz : vs.length ≤ 1000)
    (h : ∀ h', Fr h₀ L h' m → News h₀ L h' ((a, seqO (vs ++ [v]) (n + 1)) :: R) → Q .none { s with heap := h' }) : wpAny (model prog w) A (PySem.call (.builtin "list.append") [.ref a, v]) Q E' s := by
  have z := N _ hm
  refine append_at (hsz := by rw [List.size_toArray, sizeLine_eq]; omega) z.1 fun h' hs ho' => h h' (F.change hs z.2.1 z.2.2) fun p hp => ?_
  rcases List.mem_cons.mp hp with rfl | hp
  · exact ⟨by rw [List.push_toArray] at ho'; exact ho', z.2⟩
  · have y := N p (kp p hp).1
    exact ⟨hs.extBut _ _ (kp p hp).2 y.1, y.2⟩
structure AppK (c : Cx w cs) (a : Addr) (v : Value) (T : Led) (K : Led → Prop) : Prop where
  ex : ∃ vs n, (a, seqO vs n) ∈ T ∧ vs.length ≤ 1000 ∧ @LT.lt Nat _ c.L a ∧ notSrc (seqO (vs ++ [v]) (n + 1)) = true ∧ ∀ T', ExtX (seqO vs n) T T' → (a, seqO (vs ++ [v]) (n + 1)) ∈ T' → K T'
theorem Ends.app {a : Addr} {v : Value} (hs : c.src = Option.none) (h : AppK c a v T (K .none)) : Ends c (PySem.call (.builtin "list.append") [.ref a, v]) ml T K :=
  ⟨fun s mm Q E S q => by
    obtain ⟨vs, n, hm, hz, hl, hn, k⟩ := h
    obtain ⟨⟨S', CL, F, N, sp, cp, lk, of⟩, ns, nc, ab⟩ := S
    rw [hs] at sp
    have sp' : S' = [] := sp
    subst sp'
    have hm' : (a, seqO vs n) ∈ c.ex ++ ([] ++ (CL ++ (T ++ c.N))) := by simp [hm]
    have inj : ∀ p ∈ c.ex ++ ([] ++ (CL ++ (T ++ c.N))), p.2 ≠ seqO vs n → @Ne Nat p.1 a := fun p hp hne e => by
      have h1 := (N p hp).1
      have h2 := (N _ hm').1
      have e' : p.1 = a := e
      rw [e'] at h1
      exact hne (Option.some.inj (h1.symm.trans h2))
    classical
    let R : Led := c.ex ++ ([] ++ (CL ++ (T.filter (fun p => decide (p.2 ≠ seqO vs n)) ++ c.N)))
    have kT : ∀ p ∈ T.filter (fun p => decide (p.2 ≠ seqO vs n)), p ∈ T ∧ p.2 ≠ seqO vs n := fun p hp => by
      obtain ⟨h1, h2⟩ := List.mem_filter.mp hp
      exact ⟨h1, of_decide_eq_true h2⟩
    refine app_R (R := R) F N hm' (fun p hp => ?_) hz fun h' F' N' => ?_
    · rcases List.mem_append.mp hp with hp | hp
      · exact ⟨by simp [hp], Ne.symm (of p hp (a, seqO vs n) (by simp [hm]))⟩
      · simp only [List.nil_append] at hp
        rcases List.mem_append.mp hp with hp | hp
        · obtain ⟨u, hu⟩ := cp.dat p hp
          exact ⟨by simp [hp], inj p (by simp [hp]) fun e => by rw [e] at hu; cases hu⟩
        · rcases List.mem_append.mp hp with hp | hp
          · exact ⟨by simp [(kT p hp).1], inj p (by simp [(kT p hp).1]) (kT p hp).2⟩
          · exact ⟨by simp [hp], Nat.ne_of_lt (Nat.lt_trans (c.lo p hp) hl)⟩
    · refine q _ ((a, seqO (vs ++ [v]) (n + 1)) :: T.filter (fun p => decide (p.2 ≠ seqO vs n))) h' s.toks ⟨⟨[], CL, F', news_sub (fun p hp => ?_) N', by rw [hs]; rfl, cp, lk, fun q hq p hp => ?_⟩, ns_cons hn fun p hp => ns p (kT p hp).1, fun p hp => ?_, fun p hp => ?_⟩ (k _ (fun p hp hne => .tail _ (List.mem_filter.mpr ⟨hp, decide_eq_true hne⟩)) (.head _))
      · simp only [List.mem_append, List.mem_cons, List.nil_append, R] at hp ⊢
        rcases hp with h | h | (h | h) | h
        · exact .inr (.inl h)
        · exact .inr (.inr (.inl h))
        · exact .inl h
        · exact .inr (.inr (.inr (.inl h)))
        · exact .inr (.inr (.inr (.inr h)))
      · simp only [List.mem_append, List.mem_cons, List.nil_append] at hp
        rcases hp with h | (h | h) | h
        · exact of q hq p (by simp [h])
        · subst h; exact of q hq (a, seqO vs n) (by simp [hm])
        · exact of q hq p (by simp [(kT p h).1])
        · exact of q hq p (by simp [h])
      · rcases List.mem_cons.mp hp with rfl | hp
        · rfl
        · exact nc p (kT p hp).1
      · rcases List.mem_cons.mp hp with rfl | hp
        · exact .inl rfl
        · exact ab p (kT p hp).1⟩
theorem Ends.appE {V : Env} {o e : PySem.Expr} {ap pos : Pos} {pl : Sem Bool} (he : eval (.Call (.Attribute o (Str.ofString "append") ap) [e] [] pos) V = (do
      let ov ← eval o V
      standAt ap.atName
      let (f, first) ← holding [ov] (getMethod ov (Str.ofString "append") pl)
      callWith pos f first (backTo pos (starEach [e] V)) [])) (hp : plain e = true) {a : Addr} {vs : List Value} {n : Nat} (hm : (a, seqO vs n) ∈ T)
    (h : Ends c (eval o V) ml T fun ov T0 => ov = .ref a ∧ T0 = T ∧ Ends c (eval e V) ml T fun v T1 => Ends c (PySem.call (.builtin "list.append") [.ref a, v]) ml T1 K) :
    Ends c (eval (.Call (.Attribute o (Str.ofString "append") ap) [e] [] pos) V) ml T K :=
  ⟨fun s mm Q E S q => by
    refine MethodCall_ (h.run s mm _ E S fun ov T0 h0 tk0 S0 k => ?_) he
    obtain ⟨rfl, rfl, k⟩ := k
    obtain ⟨S', CL, F, N, _⟩ := S0.ex
    refine getMethod_append_N (o := seqO vs n) N (by simp [hm]) ?_ rfl rfl
    refine PyProof.Rows.callWith_method1 ?_ (star_plain hp) rfl
    refine spliced_more (k.run _ mm _ E S0 fun v T1 h1 tk1 S1 k => ?_) (star_plain hp)
    exact spliced_none (k.run _ mm _ E S1 fun v T' h' tk' S' k => q v T' h' tk' S' k)⟩
/-- a name's list grows -/
theorem EndsS.push {x : Str} {e : PySem.Expr} {p ap pos spos : Pos} {pl : Sem Bool} {Kn : Mp → Led → Prop} {Kr : Value → Led → Prop} (hs : c.src = Option.none) (he : eval (.Call (.Attribute (.Name x p) (Str.ofString "append") ap) [e] [] pos) c.env = (do
      let ov ← eval (.Name x p) c.env
      standAt ap.atName
      let (f, first) ← holding [ov] (getMethod ov (Str.ofString "append") pl)
      callWith pos f first (backTo pos (starEach [e] c.env)) [])) (hp : plain e = true) (hi : interactive c.env = false) (hw : swapsWith (.Call (.Attribute (.Name x p) (Str.ofString "append") ap) [e] [] pos) none spos.line c.env = Pure.pure false)
    {a : Addr} {vs : List Value} {n : Nat} (hx : rdF cs ml x = some (.ref a)) (hm : (a, seqO vs n) ∈ T) (h : wpE c.view ml 30 e T fun v T1 => AppK c a v T1 (Kn ml)) :
    EndsS c (exec (.Expr (.Call (.Attribute (.Name x p) (Str.ofString "append") ap) [e] [] pos) spos) c.env) ml T Kn Kr :=
  EndsS.exprE hi hw (Ends.appE he hp hm (wpN_ok (V := c.view) (by unfold wpN; rw [hx]; exact ⟨rfl, rfl, (wpE_ok _ _ _ _ h).mono fun v T1 k => Ends.app hs k⟩)))
-- a loop over a list of tuples
noncomputable def wpF (c : Cx w cs) (a : Addr) (lo : Obj) (es : List PySem.Expr) (body : List Stmt) (Kn : Mp → Led → Prop) (Kr : Value → Led → Prop) : List Value → Mp → Led → Prop
  | [], ml, T => Kn ml T
  | v :: vs, ml, T => ∃ b ws ml', v = .ref b ∧ Has c T b (tup ws) ∧ bindAll cs es ws ml = some ml' ∧ ∀ c' : Cx w cs, c'.src = c.src → c'.N = c.N → c'.dp = c.dp → c'.un = c.un → c'.L = c.L → wpS c' 20 body ml' T (fun ml'' T'' => Has c T'' a lo ∧ wpF c a lo es body Kn Kr vs ml'' T'') Kr
theorem wpF.cons {a b : Addr} {lo : Obj} {es : List PySem.Expr} {body : List Stmt} {Kn : Mp → Led → Prop} {Kr : Value → Led → Prop} {vs ws : List Value} {ml' : Mp} (hm : Has c T b (tup ws)) (hb : bindAll cs es ws ml = some ml')
    (h : ∀ c' : Cx w cs, c'.src = c.src → c'.N = c.N → c'.dp = c.dp → c'.un = c.un → c'.L = c.L → wpS c' 20 body ml' T (fun ml'' T'' => Has c T'' a lo ∧ wpF c a lo es body Kn Kr vs ml'' T'') Kr) : wpF c a lo es body Kn Kr (.ref b :: vs) ml T := ⟨b, ws, ml', rfl, hm, hb, h⟩
def ForS (c : Cx w cs) (ml : Mp) (es : List PySem.Expr) (body : List Stmt) (Kn : Mp → Led → Prop) (Kr : Value → Led → Prop) (xv : Value) (T : Led) : Prop := ∃ a its n, xv = .ref a ∧ Has c T a (seqO its n) ∧ wpF c a (seqO its n) es body Kn Kr its ml T
theorem ForS.mk {es : List PySem.Expr} {body : List Stmt} {Kn : Mp → Led → Prop} {Kr : Value → Led → Prop} {a : Addr} {its : List Value} {n : Nat} (hm : Has c T a (seqO its n)) (h : wpF c a (seqO its n) es body Kn Kr its ml T) : ForS c ml es body Kn Kr (.ref a) T := ⟨a, its, n, rfl, hm, h⟩
theorem for_rest (hx0 : c.ex = []) {es : List PySem.Expr} {k : Nat} {tp : Pos} {body : List Stmt} {Kn : Mp → Led → Prop} {Kr : Value → Led → Prop} {a I : Addr} {ic : String} {lo : Obj} {Q : Flow → Shared → Prop} {E : Value → Shared → Prop} {s : Shared}
    (qn : ∀ mm' ml' T' h' tk', Sta c h' mm' ml' T' → Kn ml' T' → Q .next { s with heap := h', toks := tk' }) (qr : ∀ v mm' ml' T' h' tk', Sta c h' mm' ml' T' → Kr v T' → Q (.ret v) { s with heap := h', toks := tk' }) :
    ∀ (its : List Value) (ml : Mp) (T : Led) (mm : Str → Option Value) (S CL : Led), wpF c a lo es body Kn Kr its ml T → Has c T a lo → SrcPart c.src S → CellPart cs c.cl ml CL → Lk cs ml mm → (∀ p ∈ S ++ (CL ++ (T ++ c.N)), @Ne Nat p.1 I) → AllNot T → NoCell T → (∀ p ∈ T, p.2.cls = .type "list" ∨ @LT.lt Nat _ c.L p.1) →
      ItemsRest PG w c.A E c.h₀ c.env (.Tuple es k tp) body Q s [(I, ic)] [(a, lo)] (its.map .val) mm (S ++ (CL ++ (T ++ c.N)))
  | [], ml, T, mm, S, CL, h, hm, sp, cp, lk, of, ns, nc, ab => fun h' tk F N => qn mm ml T h' tk ⟨⟨S, CL, F, by rw [hx0]; exact N, sp, cp, lk, by rw [hx0]; exact fun _ hq => (nomatch hq)⟩, ns, nc, ab⟩ h
  | v :: vs, ml, T, mm, S, CL, h, hm, sp, cp, lk, of, ns, nc, ab => by
    refine ItemsRest.val fun h' tk F => AllObj.cons fun o ho => AllObj.nil fun N => ?_
    obtain ⟨b, ws, ml', rfl, hb, he, hw⟩ := h
    let c' : Cx w cs := { c with ex := [(I, o)] }
    have of1 : ∀ q ∈ c'.ex, ∀ p ∈ S ++ (CL ++ (T ++ c.N)), @Ne Nat p.1 q.1 := fun q hq p hp => by
      rw [List.mem_singleton.mp hq]; exact of p hp
    obtain ⟨h1, h2, h3⟩ := EndsU.inOrder (c := c') es ws ml ml' T (fun m T' => m = ml' ∧ T' = T) he ⟨rfl, rfl⟩
    refine unpackN_ F N (News.isTup N (Has.mem (c := c) hb (X := [(I, o)]))) rfl (by rw [h2]; rfl) h3 fun h'' F' N' => ?_
    refine h1.run _ mm _ E ⟨⟨S, CL, F', N', sp, cp, lk, of1⟩, ns, nc, ab⟩ fun mm1 ml1 T1 h1' tk1 S1 e1 => ?_
    obtain ⟨rfl, rfl⟩ := e1
    refine (wpS_ok0 20 body _ _ _ _ (hw c' rfl rfl rfl rfl rfl)).run _ _ _ E S1 (fun mm2 ml2 T2 h2' tk2 S2 k2 => ?_) fun v mm2 ml2 T2 h2' tk2 S2 k2 => ?_
    · obtain ⟨⟨S', CL', F2, N2, sp2, cp2, lk2, of2⟩, ns2, nc2, ab2⟩ := S2
      have of3 : ∀ p ∈ S' ++ (CL' ++ (T2 ++ c.N)), @Ne Nat p.1 I := fun p hp => of2 (I, o) (.head _) p hp
      refine ⟨h2', tk2, mm2, S' ++ (CL' ++ (T2 ++ c.N)), rfl, F2, N2, fun p hp q hq => by rw [List.mem_singleton.mp hq]; exact of3 p hp, ⟨Has.mem (c := c) k2.1 (X := []), trivial⟩, ?_⟩
      exact for_rest hx0 qn qr vs ml2 T2 mm2 S' CL' k2.2 k2.1 sp2 cp2 lk2 of3 ns2 nc2 ab2
    · obtain ⟨⟨S', CL', F2, N2, sp2, cp2, lk2, of2⟩, ns2, nc2, ab2⟩ := S2
      exact qr v mm2 ml2 T2 h2' tk2 ⟨⟨S', CL', F2, by rw [hx0]; exact news_sub (fun p hp => List.mem_append.mpr (.inr hp)) N2, sp2, cp2, lk2, by rw [hx0]; exact fun _ hq => (nomatch hq)⟩, ns2, nc2, ab2⟩ k2
theorem EndsS.forL (hx0 : c.ex = []) {es : List PySem.Expr} {k : Nat} {tp pos : Pos} {iter : PySem.Expr} {body : List Stmt} {Kn : Mp → Led → Prop} {Kr : Value → Led → Prop} (hf : ∀ v, foldedSetIterable iter c.env v = Pure.pure v)
    (h : wpE c.view ml 30 iter T fun xv T1 => ForS c ml es body Kn Kr xv T1) : EndsS c (exec (.For (.Tuple es k tp) iter body [] pos) c.env) ml T Kn Kr :=
  ⟨fun s mm Q E S qn qr => by
    refine wpAny_noRaise ?_
    obtain ⟨S', CL, F, _⟩ := S.ex
    refine For_turns F ((wpE_ok 30 iter T _ h).run s mm _ _ S fun xv T1 h1 tk1 S1 k1 => ?_) hf PassesOwn.never
    obtain ⟨a, its, n, rfl, hm, hw⟩ := k1
    obtain ⟨⟨S2, CL2, F2, N2, sp2, cp2, lk2, of2⟩, ns, nc, ab⟩ := S1
    rw [hx0, List.nil_append] at N2
    refine iter_listTurns (n := n) rfl F2 N2 (Has.mem (c := c) hm (X := [])) rfl rfl fun I hI => ?_
    exact for_rest (s := { s with heap := h1, toks := tk1 }) hx0 (fun a b d e f g => qn a b d e f g) (fun v a b d e f g => qr v a b d e f g) its ml T1 mm S2 CL2 hw hm sp2 cp2 lk2 (fun p hp => Nat.ne_of_lt (hI p hp)) ns nc ab⟩
def ForT (c : Cx w cs) (ml : Mp) (es : List PySem.Expr) (body : List Stmt) (Kn : Mp → Led → Prop) (Kr : Value → Led → Prop) (xv : Value) (T : Led) : Prop := ∃ a its, xv = .ref a ∧ Has c T a (tup its) ∧ wpF c a (tup its) es body Kn Kr its ml T
theorem Ends.newLstA {vs : List Value} (hz : vs.length ≤ 1000) (hn : notSrc (lst vs) = true) (h : ∀ D T', Ext T T' → (D, lst vs) ∈ T' → @LT.lt Nat _ c.L D → K (.ref D) T') : Ends c (newList vs) ml T K :=
  Ends.pushA hn rfl (fun s mm Q E M F N e k => newList_N F N (fun h' F' N' => k h' s.toks F' N') (by rw [sizeLine_eq]; omega)) h
theorem Ends.addLst {a b : Addr} {vs ws : List Value} {n n' : Nat} (ha : (a, seqO vs n) ∈ T) (hb : (b, seqO ws n') ∈ T) (hz : vs.length + ws.length ≤ 1000) (hn : notSrc (lst (vs ++ ws)) = true) (h : ∀ D T', Ext T T' → (D, lst (vs ++ ws)) ∈ T' → @LT.lt Nat _ c.L D → K (.ref D) T') : Ends c (binaryOp .Add (.ref a) (.ref b)) ml T K :=
  Ends.pushA hn rfl (fun s mm Q E M F N e k => add_lists F N (PySem.IsL.isList (n := n) (N _ (e _ ha)).1) (PySem.IsL.isList (n := n') (N _ (e _ hb)).1) (fun h' F' N' => k h' s.toks F' N') (by rw [sizeLine_eq]; omega)) h
theorem AppK.mk' {a : Addr} {v : Value} {K : Led → Prop} {vs : List Value} {n : Nat} (h1 : (a, seqO vs n) ∈ T) (h2 : vs.length ≤ 1000) (h3 : @LT.lt Nat _ c.L a) (h4 : notSrc (seqO (vs ++ [v]) (n + 1)) = true) (h : ∀ T', ExtX (seqO vs n) T T' → (a, seqO (vs ++ [v]) (n + 1)) ∈ T' → K T') : AppK c a v T K := ⟨⟨vs, n, h1, h2, h3, h4, h⟩⟩
end
-- HL
def BOut (N : Led) (k : Bool) (_ : Addr) (N' : Led) (r : Value) : Prop := N' = N ∧ r = .bool k
theorem lab_s {n : _root_.Fin 4} {x : Str} {t : Tok} (h : lbl n = some x) : LabV (lbl n) (.str x t) := by rw [h]; exact .some
theorem Tr.nameA {N : Led} {v : Value} (h : PathV N (Str.ofString "a") v) : Tr N (.name false) v := .name h
theorem Tr.binS {N : Led} {j : _root_.Fin 18} {l r : Mine.E} {a : Addr} {v v' : Value} {x : Str} {t1 t2 t3 : Tok} (h : (a, tup [.str (Str.ofString "binary") t1, .int 0 t2, .str x t3, v, v']) ∈ N) (hl : Tr N l v) (hr : Tr N r v') (hx : x = sgn j) : Tr N (.bin j l r) (.ref a) := by
  subst hx; exact .bin h hl hr
section
variable {w : World} {cs : Scope} {c : Cx w cs} {ml : Mp} {T : Led} {K : Value → Led → Prop}
theorem Ends.told {n : Nat} {v : Value} {e : Mine.E} (hW : WX w n) (hT : Tr T e v) (he : hgt e < n) (hdp : c.dp + 20 * n < recursionLimit) (hun : c.un + 200 * n < cLine) (k : ∀ t, K (.str (W e 0 false) t) T) : Ends c (PySem.call (.ref 99) [v]) ml T K :=
  Ends.text (fun _ e' _ => hW.c1 (hT.mono e') he) hdp hun k
theorem Ends.eqStrs {a b : Addr} {vs ws : List Value} {xs ys : List Str} {n n' : Nat} (ha : (a, seqO vs n) ∈ T) (hb : (b, seqO ws n') ∈ T) (hv : StrsAre vs xs) (hw : StrsAre ws ys) (ok : xs.all PyData.strOk = true) (ok' : ys.all PyData.strOk = true) (hu : c.un + 64 < cLine) (e : xs = ys) (h : K (.bool true) T) :
    Ends c (compareOp .Eq (.ref a) (.ref b)) ml T K :=
  ⟨fun s mm Q E S q => by
    obtain ⟨S', CL, F, N, sp, cp, lk, of⟩ := S.ex
    exact eq_strs_t (n := n) (n' := n') N (by simp [ha]) (by simp [hb]) hv hw ok ok' hu e (q _ T s.heap s.toks S h)⟩
theorem rooms340 {a b : Nat} (h : a + 150 < recursionLimit + 1) (h' : b + 1600 < cLine + 3) : (a + 2 < recursionLimit ∧ a + 20 * 7 < recursionLimit) ∧ b + 8 < cLine ∧ b + 64 < cLine ∧ b + 200 * 7 < cLine := by omega
end
section
theorem lay_HL_19 : True := by
  k_with "mem" => ((fail_if_success (have zoff := off_HL_26)); ((walk_at "up")))
  k_with "sg" => ((fail_if_success (have zoff := off_HL_26)); (first | exact (show Str.ofString ">=" = sgn 7 from rfl) | exact (show Str.ofString "!=" = sgn 3 from rfl) | exact (show Str.ofString "/" = sgn 16 from rfl) | exact (show Str.ofString "%" = sgn 17 from rfl) | exact (show Str.ofString ">>" = sgn 12 from rfl) | exact (show Str.ofString "<<" = sgn 11 from rfl)))
  trivial
local macro_rules | `(tactic| walk_at "tr") => `(tactic| first
  | with_reducible exact Tr.block
  | with_reducible exact Tr.strct
  | (refine' tr_of ?hm ?hr; (case hm => walk_at "up"); (case hr => (intro hm9; first
    | (with_reducible refine' Tr.binS hm9 ?c ?d ?x; (case c => walk_at "tr"); (case d => walk_at "tr"); (case x => walk_at "sg"))
    | (with_reducible refine' Tr.whl (n := 1) hm9 ?l ?c; (case l => exact lab_s rfl); (case c => walk_at "tr"))
    | (with_reducible refine' Tr.forS (n := 1) hm9 ?l ?b ?c ?d; (case l => exact lab_s rfl); (case b => walk_at "up"); (case c => walk_at "tr"); (case d => walk_at "tr"))
    | (with_reducible refine' Tr.brk (n := 1) hm9 ?l ?c; (case l => exact lab_s rfl); (case c => walk_at "tr"))
    | (with_reducible refine' Tr.updS hm9 ?c ?d ?x; (case c => walk_at "tr"); (case d => walk_at "tr"); (case x => exact (show Str.ofString ">>" = usg 9 from rfl))))))
  | (refine' Tr.nameA ?a; (case a => walk_at "upP")))
theorem lay_HL_20 : True := by
  k_with "evs" => ((fail_if_success (have zoff := off_HL_26)); (first
      | (refine EndsS.forL ?_ ?_ ?_; assumption; exact fun _ => rfl)
      | (refine' EndsS.push ?zhs ?zhe ?zhp ?zhi ?zhw ?zhx ?zhm ?_; (case zhs => assumption); (case zhe => with_unfolding_all rfl); (case zhp => exact rfl); (case zhi => with_unfolding_all rfl); (case zhw => with_unfolding_all rfl); (case zhx => exact rfl); (case zhm => walk_at "up"))))
  k_with "evb" => ((fail_if_success (have zoff := off_HL_26)); (first
      | (refine' ForS.mk (Has.new ?zhm) ?_; (case zhm => walk_at "up"))
      | (refine' wpF.cons (Has.new ?zhm) ?zhb ?_; (case zhm => walk_at "up"); (case zhb => exact rfl); intro c9 ea9 eb9 ec9 ed9 ef9; (have hs9 := Eq.trans ea9 (by assumption)))
      | (refine' AppK.mk' ?zh1 ?zh2 ?zh3 ?zh4 ?_; (case zh1 => walk_at "up"); (case zh2 => exact Nat.le_of_ble_eq_true rfl); (case zh3 => first | assumption | exact lt_of (by assumption) (by assumption)); (case zh4 => exact rfl); intro T9 e9 m9; (try dsimp only [List.nil_append, List.cons_append, List.length_cons, List.length_nil] at m9))))
  k_with "evo" => ((fail_if_success (have zoff := off_HL_26)); (first
      | ((with_reducible refine' Ends.eqStrs ?zha ?zhb ?zhv ?zhw ?zok ?zok' ?zhu ?ze ?_); (case zha => walk_at "up"); (case zhb => walk_at "up"); (case zhv => walk_at "strs"); (case zhw => walk_at "strs"); (case zok => decide +kernel); (case zok' => decide +kernel); (case zhu => walk_at "room"); (case ze => decide +kernel))
      | ((with_reducible refine' Ends.told ?zhW ?zhT ?zhe ?zhd ?zhu ?_); (case zhW => assumption); (case zhT => walk_at "tr"); (case zhe => decide); (case zhd => walk_at "room"); (case zhu => walk_at "room"))))
  k_with "evl" => ((fail_if_success (have zoff := off_HL_26)); (first
      | ((with_reducible refine Ends.newLstA ?_ ?_ ?_); exact Nat.le_of_ble_eq_true rfl; exact rfl; intro D9 T9 e9 m9 l9)
      | ((with_reducible refine' Ends.addLst ?zha ?zhb ?zhz ?zhn ?_); (case zha => walk_at "up"); (case zhb => walk_at "up"); (case zhz => exact Nat.le_of_ble_eq_true rfl); (case zhn => exact rfl); (intro D9 T9 e9 m9 l9); (try dsimp only [List.nil_append, List.cons_append, List.length_cons, List.length_nil] at m9))))
  trivial
theorem fixed_does (w : World) (hW : WX w 7) (N : Led) : Does w 340 [] 150 1600 N (BOut N true) := by
  w_on
  refine' callX_plainV (R := fun r => r = Value.bool true) (ml0 := []) ?ho ?hcd ?hb ?hl ?hc ?h1 ?h2 ?h3 ?h4 ?_
  case ho => k_is
  case hcd => k_is
  case hb => exact fun _ _ => BindsTo.of_eq rfl
  case hl => exact rfl
  case hc => exact rfl
  case h1 => exact rfl
  case h2 => exact rfl
  case h3 => exact rfl
  case h4 => omega
  intro c hs hN hx0 hdp hun Kr hKr
  obtain ⟨⟨hr1, hr2⟩, hr3, hr4, hr5⟩ := rooms340 hdp hun
  refine wpS_ok0 20 _ _ _ _ _ ?_
  repeat' (walk_at "ev")
  refine' EndK.h ?kk _ _ ?_
  case kk => assumption
  exact rfl
end
theorem off_HL_26 : True := trivial
-- Ev6
theorem kind_field (e : Mine.E) : (kind e == Str.ofString "field") = false := by cases e <;> exact rfl
section
variable {w : World} {cs : Scope} {c : Cx w cs} {ml : Mp} {T : Led} {K : Value → Led → Prop} {P : Bool → Led → Prop}
theorem Ends.tOr {x : PySem.Expr} {rest : List PySem.Expr} {pos : Pos} {whole : Sem Value} (h : wpT c c.env ml (wpE c.view ml 30) x T fun q T1 => bcase q (P true T1) (Ends c (PySem.isTrue (.BoolOp .Or rest pos) c.env whole) ml T1 P)) : Ends c (PySem.isTrue (.BoolOp .Or (x :: rest) pos) c.env whole) ml T P :=
  ⟨fun s mm Q E S q => isTrue_or ((wpT_ok (wpE_ok (V := c.view) 30) h).run s mm _ E S fun b T1 h1 tk1 S1 k => by
    cases b with
    | true => rw [if_pos rfl]; exact q _ _ _ _ S1 (k.1 rfl)
    | false => rw [if_neg (by decide)]; exact (k.2 rfl).run _ mm _ E S1 q)⟩
theorem Ends.tAnd {x : PySem.Expr} {rest : List PySem.Expr} {pos : Pos} {whole : Sem Value} (h : wpT c c.env ml (wpE c.view ml 30) x T fun q T1 => bcase q (Ends c (PySem.isTrue (.BoolOp .And rest pos) c.env whole) ml T1 P) (P false T1)) : Ends c (PySem.isTrue (.BoolOp .And (x :: rest) pos) c.env whole) ml T P :=
  ⟨fun s mm Q E S q => isTrue_and ((wpT_ok (wpE_ok (V := c.view) 30) h).run s mm _ E S fun b T1 h1 tk1 S1 k => by
    cases b with
    | true => rw [if_pos rfl]; exact (k.1 rfl).run _ mm _ E S1 q
    | false => rw [if_neg (by decide)]; exact q _ _ _ _ S1 (k.2 rfl))⟩
theorem Ends.tOr0 {pos : Pos} {whole : Sem Value} (h : P false T) : Ends c (PySem.isTrue (.BoolOp .Or [] pos) c.env whole) ml T P := ⟨fun s mm _ _ S q => isTrue_or_nil (q _ T s.heap s.toks S h)⟩
theorem Ends.tAnd0 {pos : Pos} {whole : Sem Value} (h : P true T) : Ends c (PySem.isTrue (.BoolOp .And [] pos) c.env whole) ml T P := ⟨fun s mm _ _ S q => isTrue_and_nil (q _ T s.heap s.toks S h)⟩
theorem Ends.vOne {op : BoolOp} {e : PySem.Expr} {pos : Pos} (h : wpE c.view ml 30 e T K) : Ends c (eval (.BoolOp op [e] pos) c.env) ml T K :=
  ⟨fun s mm Q E S q => BoolOp_one ((wpE_ok 30 e T K h).run s mm Q E S q)⟩
theorem Ends.vOr {e e' : PySem.Expr} {rest : List PySem.Expr} {pos : Pos} (h : wpE c.view ml 30 e T fun v T1 => truth c ml v T1 fun q T2 => bcase q (K v T2) (Ends c (eval (.BoolOp .Or (e' :: rest) pos) c.env) ml T2 K)) : Ends c (eval (.BoolOp .Or (e :: e' :: rest) pos) c.env) ml T K :=
  ⟨fun s mm Q E S q => BoolOp_or ((wpE_ok 30 e T _ h).run s mm _ E S fun v T1 h1 tk1 S1 k => (truth_ok k).run _ mm _ E S1 fun b T2 h2 tk2 S2 k => by
    cases b with
    | true => rw [if_pos rfl]; exact q _ _ _ _ S2 (k.1 rfl)
    | false => rw [if_neg (by decide)]; exact (k.2 rfl).run _ mm _ E S2 q)⟩
theorem Ends.vAnd {e e' : PySem.Expr} {rest : List PySem.Expr} {pos : Pos} (h : wpE c.view ml 30 e T fun v T1 => truth c ml v T1 fun q T2 => bcase q (Ends c (eval (.BoolOp .And (e' :: rest) pos) c.env) ml T2 K) (K v T2)) : Ends c (eval (.BoolOp .And (e :: e' :: rest) pos) c.env) ml T K :=
  ⟨fun s mm Q E S q => BoolOp_and ((wpE_ok 30 e T _ h).run s mm _ E S fun v T1 h1 tk1 S1 k => (truth_ok k).run _ mm _ E S1 fun b T2 h2 tk2 S2 k => by
    cases b with
    | true => rw [if_pos rfl]; exact (k.1 rfl).run _ mm _ E S2 q
    | false => rw [if_neg (by decide)]; exact q _ _ _ _ S2 (k.2 rfl))⟩
theorem Ends.tSub {v i : PySem.Expr} {p : Pos} (h : wpE c.view ml 30 (.Subscript v i p) T fun v T1 => truth c ml v T1 P) : Ends c (PySem.isTrue (.Subscript v i p) c.env (eval (.Subscript v i p) c.env)) ml T P :=
  Ends.test rfl ((wpE_ok 30 _ T _ h).mono fun _ _ h => truth_ok h)
theorem Ends.inTup {a : Addr} {vs : List Value} {ys : List Str} {x : Str} {t : Tok} (hm : (a, tup vs) ∈ T) (hv : StrsAre vs ys) (h : K (.bool (ys.any fun y => y == x)) T) : Ends c (compareOp .In (.str x t) (.ref a)) ml T K :=
  ⟨fun s mm Q E S q => by
    obtain ⟨S', CL, F, N, sp, cp, lk, of⟩ := S.ex
    exact in_tuple_strs ⟨_, (N (a, tup vs) (by simp [hm])).1, rfl, _, rfl⟩ hv (q _ T s.heap s.toks S h)⟩
theorem Ends.inBlk {x : Str} {t : Tok} (h : K (.bool (blkL.any fun y => y == x)) T) : Ends c (compareOp .In (.str x t) (.ref 17)) ml T K :=
  ⟨fun s mm Q E S q => by
    obtain ⟨S', CL, F, N, sp, cp, lk, of⟩ := S.ex
    exact in_blocks F c.inn (q _ T s.heap s.toks S h)⟩
theorem Ends.inJmp {x : Str} {t : Tok} (h : K (.bool (jmpL.any fun y => y == x)) T) : Ends c (compareOp .In (.str x t) (.ref 18)) ml T K :=
  ⟨fun s mm Q E S q => by
    obtain ⟨S', CL, F, N, sp, cp, lk, of⟩ := S.ex
    exact in_jumps F c.inn (q _ T s.heap s.toks S h)⟩
theorem Ends.headO {a : Addr} {e : Mine.E} {u : Tok} {value slice : PySem.Expr} (hT : Tr c.N e (.ref a)) (hs : subscripted slice false (.ref a) (.int 0 u) = operate [.ref a, .int 0 u] (getItem (.ref a) (.int 0 u))) (h : ∀ t, K (.str (kind e) t) T) : Ends c (subscriptTail value slice (.ref a) (.int 0 u)) ml T K :=
  ⟨fun s mm Q E S q => by
    obtain ⟨S', CL, F, N, sp, cp, lk, of⟩ := S.ex
    exact head_get N F c.inn (hT.mono fun p hp => by simp [hp]) (fun t => q _ T s.heap s.toks S (h t)) hs⟩
-- the writers' contracts
theorem Ends.wr3 {n : Nat} {v : Value} {e : Mine.E} {l : Int} {t : Tok} {b : Bool} (hW : WX w n) (hT : Tr c.N e v) (he : hgt e < n) (hdp : c.dp + 20 * n < recursionLimit) (hun : c.un + 200 * n < cLine) (k : ∀ t, K (.str (W e l b) t) T) : Ends c (PySem.call (.ref 99) [v, .int l t, .bool b]) ml T K :=
  Ends.text (fun _ _ e' => hW.c3 (hT.mono e') he) hdp hun k
theorem Ends.wr2 {n : Nat} {v : Value} {e : Mine.E} {l : Int} {t : Tok} (hW : WX w n) (hT : Tr c.N e v) (he : hgt e < n) (hdp : c.dp + 20 * n < recursionLimit) (hun : c.un + 200 * n < cLine) (k : ∀ t, K (.str (W e l false) t) T) : Ends c (PySem.call (.ref 99) [v, .int l t]) ml T K :=
  Ends.text (fun _ _ e' => hW.c2 (hT.mono e') he) hdp hun k
theorem Ends.wr1 {n : Nat} {v : Value} {e : Mine.E} (hW : WX w n) (hT : Tr c.N e v) (he : hgt e < n) (hdp : c.dp + 20 * n < recursionLimit) (hun : c.un + 200 * n < cLine) (k : ∀ t, K (.str (W e 0 false) t) T) : Ends c (PySem.call (.ref 99) [v]) ml T K :=
  Ends.text (fun _ _ e' => hW.c1 (hT.mono e') he) hdp hun k
-- a comprehension over a tuple
def CompT (c : Cx w cs) (ml : Mp) (scope : Scope) (x : Str) (elt : PySem.Expr) (K : List Value → Led → Prop) (xv : Value) (T : Led) : Prop :=
  ∃ a its, xv = .ref a ∧ Has c T a (tup its) ∧ its.length ≤ 1000 ∧ wpC c ml scope x elt (fun T => Has c T a (tup its)) (fun i v => its[i]? = some v) K its.length 0 [] T
theorem CompT.mk {scope : Scope} {x : Str} {elt : PySem.Expr} {K : List Value → Led → Prop} {a : Addr} {its : List Value} (hm : Has c T a (tup its)) (hz : its.length ≤ 1000) (h : wpC c ml scope x elt (fun T => Has c T a (tup its)) (fun i v => its[i]? = some v) K its.length 0 [] T) : CompT c ml scope x elt K (.ref a) T := ⟨a, its, rfl, hm, hz, h⟩
theorem Ends.compT (hx0 : c.ex = []) {scope : Scope} {x : Str} {px : Pos} {elt iter : PySem.Expr} {pos : Pos} (ok' : compChk cs scope x iter = true)
    (h : wpE c.view ml 30 iter T fun xv T1 => CompT c ml scope x elt (CompK K) xv T1) : Ends c (eval (.ListComp elt [PySem.Comprehension.mk (.Name x px) iter [] 0] scope pos) c.env) ml T K :=
  ⟨fun s mm Q E S q => by
    obtain ⟨S', CL, F, _⟩ := S.ex
    have ok := CompOk.of (c := c) ok'
    refine ListComp_tup (m := mm) F ok.hcl ok.h1 ok.h2 ok.h3 ok.h4 ((wpE_ok 30 iter T _ h).run s mm _ E S fun xv T1 hp1 tk1 S1 k1 => ?_) ok.hf
    obtain ⟨⟨S2, CL2, F2, N2, sp2, cp2, lk2, of2⟩, a, b, d⟩ := S1
    obtain ⟨ad, its, rfl, hm, hz, hw⟩ := k1
    rw [hx0, List.nil_append] at N2
    refine TupSrc.ledger rfl F2 N2 (hm.mem (X := []) (S := S2) (CL := CL2)) hz fun g => comp_rest ok.h1 ok.h2 ok.h4 ok.hfo (Sp := fun T => Has c T ad (tup its)) (fun S CL T h => .inr (Has.mem h (X := []) (S := S) (CL := CL))) lk2 (fun ys T S CL sp cp a b d k => ?_) _ _ _ _ _ _ (by simpa using hw) sp2 cp2 a b d
    unfold LCg.FinE
    intro D h tk F' N' _
    exact q _ ((D, seqO ys ys.length) :: T) h tk (Sta.comp hx0 F' N' sp cp lk2 a b d k.1) (k.2 D _ (fun p hp => .tail _ hp) (.head _))⟩
theorem Ends.neStr {x y : Str} {t u : Tok} (h : K (.bool (x != y)) T) : Ends c (compareOp .NotEq (.str x t) (.str y u)) ml T K :=
  ⟨fun s mm _ _ S q => ne_str (q _ T s.heap s.toks S h)⟩
theorem Ends.levels {j : _root_.Fin 18} {u : Tok} {value slice : PySem.Expr} (hs : subscripted slice false (.ref 15) (.str (sgn j) u) = operate [.ref 15, .str (sgn j) u] (getItem (.ref 15) (.str (sgn j) u))) (h : ∀ t, K (.int (blv j) t) T) : Ends c (subscriptTail value slice (.ref 15) (.str (sgn j) u)) ml T K :=
  ⟨fun s mm Q E S q => by
    obtain ⟨S', CL, F, N, sp, cp, lk, of⟩ := S.ex
    exact levels_get F c.inn (fun t => q _ T s.heap _ S (h t)) hs⟩
theorem Ends.intC {f : Addr} {vs : List Value} {nd nu : Nat} {x : Int} (D : ∀ R, Ext T R → Ext c.N R → Does w f vs nd nu R (IOut R x)) (hdp : c.dp + nd < recursionLimit) (hun : c.un + nu < cLine)
    (k : ∀ t, K (.int x t) T) : Ends c (PySem.call (.ref f) vs) ml T K :=
  ⟨fun s mm Q E S q => by
    obtain ⟨⟨S', CL, F, N, sp, cp, lk, of⟩, S1, S2, S3⟩ := S
    exact Does.useI (D (c.ex ++ (S' ++ (CL ++ (T ++ c.N)))) (fun p hp => by simp [hp]) (fun p hp => by simp [hp])) c.below F c.inn N c.top c.fn hdp hun fun t h' tk' F' N' => q _ T h' tk' ⟨⟨S', CL, F', N', sp, cp, lk, of⟩, S1, S2, S3⟩ (k t)⟩
theorem Ends.bin2 {e : Mine.E} {a : Addr} {u : Tok} {value slice : PySem.Expr} (hT : Tr c.N e (.ref a)) (hb : (kind e == Str.ofString "binary") = true) (hs : subscripted slice false (.ref a) (.int 2 u) = operate [.ref a, .int 2 u] (getItem (.ref a) (.int 2 u))) (h : ∀ j l r t, e = .bin j l r → K (.str (sgn j) t) T) : Ends c (subscriptTail value slice (.ref a) (.int 2 u)) ml T K :=
  ⟨fun s mm Q E S q => by
    obtain ⟨S', CL, F, N, sp, cp, lk, of⟩ := S.ex
    exact bin2_get N (hT.mono fun p hp => by simp [hp]) hb (fun j l r t he => q _ T s.heap s.toks S (h j l r t he)) hs⟩
theorem Ends.lenL {vs : List Value} {l : Addr} {n : Nat} (hm : Has c T l (seqO vs n)) (hz : vs.length ≤ 1000) (h : ∀ t, K (.int vs.length t) T) : Ends c (PySem.call (.builtin "len") [.ref l]) ml T K :=
  ⟨fun s mm Q E S q => by
    obtain ⟨S', CL, F, N, sp, cp, lk, of⟩ := S.ex
    exact PyProof.Rows.len_list (items := vs.toArray) (PySem.IsL.isList (n := n) (N _ (hm.mem (X := c.ex) (S := S') (CL := CL))).1) (by rw [List.size_toArray]; omega) (by rw [List.size_toArray]; exact q _ T s.heap _ S (h _))⟩
theorem Ends.strInt {x : Int} {t : Tok} (hx : x.natAbs.log2 < 1920) (k : ∀ t, K (.str (Str.ofString (toString x)) t) T) : Ends c (PySem.call (.type "str") [.int x t]) ml T K :=
  ⟨fun s mm Q E S q => PySem.P.str_of_int hx (q _ T s.heap _ S (k _))⟩
theorem Ends.isRef {a : Addr} (h : K (.bool false) T) : Ends c (compareOp .Is (.ref a) .none) ml T K :=
  ⟨fun s mm Q E S q => is_ref_none (q _ T s.heap s.toks S h)⟩
theorem Ends.isNotStr {x : Str} {t : Tok} (h : K (.bool true) T) : Ends c (compareOp .IsNot (.str x t) .none) ml T K :=
  ⟨fun s mm Q E S q => wpAny_isNot_other rfl (fun e => nomatch e) (q _ T s.heap s.toks S h)⟩
theorem Ends.isNotNone (h : K (.bool false) T) : Ends c (compareOp .IsNot .none .none) ml T K :=
  ⟨fun s mm Q E S q => wpAny_isNot_self rfl (q _ T s.heap s.toks S h)⟩
/-- a label ahead -/
def LabA (k : _root_.Fin 4) (ml : Mp) (T : Led) (ml' : Mp) (T' : Led) : Prop := ∃ t, ml' = (Str.ofString "label", .str (lbA k) t) :: ml ∧ T' = T
end
-- MV
theorem lay_MV_21 : True := by
  k_with "room" => (first | assumption | exact rmA hdp (by decide) | exact rmB hdp (by decide) | exact rmC hun (by decide) | exact rmD hun (by decide) | exact rmE hdp (by decide) | exact rmF hun (by decide) | exact rmA (m := 0) hdp (by decide) | exact rmC (m := 0) hun (by decide) | (refine' room_eq ?zrme ?zrmh; (case zrme => assumption); (case zrmh => walk_at "room")))
  k_with "evo" => (first
      | (with_reducible refine Ends.inBlk ?_)
      | (with_reducible refine Ends.inJmp ?_)
      | ((with_reducible refine' Ends.inTup ?zhm ?zhv ?_); (case zhm => walk_at "up"); (case zhv => walk_at "strs"))
      | ((with_reducible refine' Ends.headO ?zhT ?zhs ?_); (case zhT => first | assumption | exact Tr.block | exact Tr.strct); (case zhs => with_unfolding_all rfl))
      | (with_reducible refine Ends.tSub ?_)
      | ((with_reducible refine' Ends.levels ?zhs ?_); (case zhs => with_unfolding_all rfl))
      | ((with_reducible refine' Ends.sideC ?zhW ?zhT ?zhe ?zhd ?zhu ?_); (case zhW => assumption); (case zhT => assumption); (case zhe => assumption); (case zhd => walk_at "room"); (case zhu => walk_at "room"))
      | ((with_reducible refine' Ends.typV ?zhv ?zhx ?zhd ?zhu ?_); (case zhv => assumption); (case zhx => decide); (case zhd => walk_at "room"); (case zhu => walk_at "room"))
      | (with_reducible refine Ends.tOr ?_)
      | (with_reducible refine Ends.tAnd ?_)
      | (with_reducible refine Ends.tOr0 ?_)
      | (with_reducible refine Ends.tAnd0 ?_)
      | (with_reducible refine Ends.vOr ?_)
      | (with_reducible refine Ends.vAnd ?_)
      | (with_reducible refine Ends.vOne ?_)
      | ((with_reducible refine Ends.block ?_ ?_ ?_); walk_at "room"; walk_at "room")
      | ((with_reducible refine' Ends.patt ?zhm ?zhd ?zhu ?_); (case zhm => assumption); (case zhd => walk_at "room"); (case zhu => walk_at "room"))
      | ((with_reducible refine' Ends.ifd ?zhW ?zhn ?zhm ?zhT ?zhd ?zhu ?_); (case zhW => assumption); (case zhn => assumption); (case zhm => assumption); (case zhT => assumption); (case zhd => walk_at "room"); (case zhu => walk_at "room"))
      | ((with_reducible refine' Ends.cond ?zhW ?zhT ?zhe ?zhd ?zhu ?_); (case zhW => assumption); (case zhT => assumption); (case zhe => assumption); (case zhd => walk_at "room"); (case zhu => walk_at "room"))
      | ((with_reducible refine' Ends.bound ?zhW ?zhT ?zhe ?zhd ?zhu ?_); (case zhW => assumption); (case zhT => assumption); (case zhe => assumption); (case zhd => walk_at "room"); (case zhu => walk_at "room"))
      | ((with_reducible refine' Ends.wr3 ?zhW ?zhT ?zhe ?zhd ?zhu ?_); (case zhW => assumption); (case zhT => assumption); (case zhe => assumption); (case zhd => walk_at "room"); (case zhu => walk_at "room"))
      | ((with_reducible refine' Ends.wr2 ?zhW ?zhT ?zhe ?zhd ?zhu ?_); (case zhW => assumption); (case zhT => assumption); (case zhe => assumption); (case zhd => walk_at "room"); (case zhu => walk_at "room"))
      | ((with_reducible refine' Ends.wr1 ?zhW ?zhT ?zhe ?zhd ?zhu ?_); (case zhW => assumption); (case zhT => first | assumption | (rw [eb9]; assumption)); (case zhe => assumption); (case zhd => walk_at "room"); (case zhu => walk_at "room"))
      | ((with_reducible refine' Ends.argl ?zhW ?zhA ?zhx ?zh6 ?zhy ?zh7 ?zhd ?zhu ?_); (case zhW => assumption); (case zhA => assumption); (case zhx => assumption); (case zh6 => assumption); (case zhy => assumption); (case zh7 => assumption); (case zhd => walk_at "room"); (case zhu => walk_at "room")))
  k_with "evl" => (first
      | (with_reducible refine Ends.isNotStr ?_)
      | (with_reducible refine Ends.isRef ?_)
      | (with_reducible refine Ends.isNotNone ?_)
      | (with_reducible refine Ends.neStr ?_)
      | ((with_reducible refine Ends.strInt ?_ ?_); decide)
      | ((with_reducible refine Ends.compT ?_ ?_ ?_); assumption; exact rfl))
  k_with "evl" => (((with_reducible refine' Ends.itm (Has.old ?zhm) ?zhI ?zhs ?_); (case zhm => with_reducible assumption); (case zhI => first | exact ItemOf.tup (by decide) (by decide) rfl rfl | exact ItemOf.lst (by decide) (by decide) rfl); (case zhs => with_unfolding_all rfl)))
  k_with "evb" => (first
      | (refine bcase_t ?_ ?_; with_reducible rfl)
      | (refine bcase_f ?_ ?_; with_reducible rfl)
      | (refine bcase_t ?_ ?_; with_reducible assumption)
      | (refine bcase_f ?_ ?_; with_reducible assumption)
      | (refine bcase_t ?_ ?_; decide)
      | (refine bcase_f ?_ ?_; decide))
  k_with "evb" => (first
      | (refine bcase_f ?_ ?_; exact kind_field _)
      | ((refine (?_ : CompT _ _ _ _ _ _ _ _)); (refine' CompT.mk (Has.old ?zhm) ?zhz ?_; (case zhm => assumption); (case zhz => exact Nat.le_of_ble_eq_true rfl)))
      | (refine (?_ : And (Has _ _ _ _) _); refine And.intro ?_ ?_; (refine Has.old ?_; assumption)))
  k_with "bodyV" => (((case ho => k_is); (case hcd => k_is); (case hb => first | exact fun _ _ => BindsTo.of_eq rfl | exact fun _ X => binds_K X rfl (by k_is) rfl rfl rfl); (case hl => exact rfl); (case hc => exact rfl); (case h1 => exact rfl); (case h2 => exact rfl); (case h3 => exact rfl); (case h4 => omega)))
  k_with "fin" => ((refine' EndK.h ?zzkk _ _ ?_; (case zzkk => assumption)))
  trivial
-- HVC
section
theorem lay_HVC_22 : True := by
  k_with "evo" => ((fail_if_success (have zoff := off_HVC_27)); (first
      | ((with_reducible refine' Ends.bin2 ?zhT ?zhb ?zhs ?_); (case zhT => assumption); (case zhb => assumption); (case zhs => with_unfolding_all rfl); (intro j9 l9 r9 t9 e9))
      | ((with_reducible refine' Ends.lvlC ?zhT ?zhd ?zhu ?_); (case zhT => assumption); (case zhd => walk_at "room"); (case zhu => walk_at "room"))
      | ((with_reducible refine' Ends.wrn ?zhG ?zhT ?zhe ?zhb ?zhd ?zhu ?_); (case zhG => assumption); (case zhT => assumption); (case zhe => assumption); (case zhb => first | (intro hb; exact absurd hb (by decide)) | exact fun _ => opn_no (by assumption) (by assumption) (by assumption)); (case zhd => walk_at "room"); (case zhu => walk_at "room"))))
  trivial
theorem level_does (w : World) (e : Mine.E) (v : Addr) (N : Led) (T9 : Tr N e (.ref v)) : Does w 91 [.ref v] 2 8 N (IOut N (lvl e)) := by
  w_on
  refine' callX_plainV (R := fun rr => ∃ t, rr = Value.int (lvl e) t) (ml0 := [(Str.ofString "expr", .ref v)]) ?ho ?hcd ?hb ?hl ?hc ?h1 ?h2 ?h3 ?h4 ?_
  walk_at "bodyV"
  intro c hs hN hx0 hdp hun Kr hKr
  subst hN
  refine wpS_ok0 20 _ _ _ _ _ ?_
  repeat' (walk_at "ev")
  · walk_at "fin"; exact ⟨_, congrArg (fun z => Value.int z _) ((lv_asg (by assumption)).symm)⟩
  · walk_at "fin"; exact ⟨_, congrArg (fun z => Value.int z _) ((lv_blk ((blk6 _).symm.trans (by assumption))).symm)⟩
  · walk_at "fin"; exact ⟨_, congrArg (fun z => Value.int z _) ((lv_jmp ((jmp3 _).symm.trans (by assumption))).symm)⟩
  · walk_at "fin"; exact ⟨_, congrArg (fun z => Value.int z _) (by subst e9; rfl)⟩
  · walk_at "fin"; exact ⟨_, congrArg (fun z => Value.int z _) ((lv_cast (by assumption)).symm)⟩
  · walk_at "fin"; exact ⟨_, congrArg (fun z => Value.int z _) ((lv_un (by assumption)).symm)⟩
  · walk_at "fin"; exact ⟨_, congrArg (fun z => Value.int z _) ((lv_else (by assumption) ((blk6 _).symm.trans (by assumption)) ((jmp3 _).symm.trans (by assumption)) (by assumption) (by assumption) (by assumption)).symm)⟩
section
variable {w : World} {cs : Scope} {c : Cx w cs} {ml : Mp} {T : Led} {K : Value → Led → Prop} {n : Nat} {e : Mine.E} {b : Bool}
theorem Ends.lvlC {v : Addr} (hT : Tr c.N e (.ref v)) (hdp : c.dp + 2 < recursionLimit) (hun : c.un + 8 < cLine) (k : ∀ t, K (.int (lvl e) t) T) : Ends c (PySem.call (.ref 91) [.ref v]) ml T K :=
  Ends.intC (fun R _ e' => level_does w e v R (hT.mono e')) hdp hun k
theorem Ends.wrn {v : Value} (hG : WG w n) (hT : Tr c.N e v) (he : hgt e ≤ n) (hb : b = true → opn e = false) (hdp : c.dp + (20 * n + 16) < recursionLimit) (hun : c.un + (200 * n + 160) < cLine) (k : ∀ t, K (.str (txt e b) t) T) : Ends c (PySem.call (.ref 106) [v, .bool b]) ml T K :=
  Ends.text (fun R _ e' => hG.at (hT.mono e') he hb) hdp hun k
end
theorem expr3t_does (w : World) (n : Nat) (hG : WG w n) (e : Mine.E) (he : hgt e ≤ n) (h6 : hgt e ≤ 6) (v : Addr) (l : Int) (tl : Tok) (N : Led) (T9 : Tr N e (.ref v)) : Does w 99 [.ref v, .int l tl, .bool true] (20 * n + 20) (200 * n + 200) N (WOut N (W e l true)) := by
  w_on
  refine' callX_plainV (R := fun rr => ∃ t, rr = Value.str (W e l true) t) (ml0 := [(Str.ofString "expr", .ref v), (Str.ofString "least", .int l tl), (Str.ofString "is_bare", .bool true)]) ?ho ?hcd ?hb ?hl ?hc ?h1 ?h2 ?h3 ?h4 ?_
  walk_at "bodyV"
  intro c hs hN hx0 hdp hun Kr hKr
  subst hN
  refine wpS_ok0 20 _ _ _ _ _ ?_
  repeat' (walk_at "ev")
  all_goals walk_at "fin"
  all_goals refine ⟨_, congrArg (fun z => Value.str z _) ?_⟩
  all_goals first
    | exact W_lt (of_decide_eq_true (by assumption))
    | exact W_ge (of_decide_eq_false (by assumption))
    | exact W_opn (opn_s (by assumption))
    | exact W_opn (opn_j (by assumption))
    | exact W_opn (opn_b (by assumption))
theorem expr3f_does (w : World) (n : Nat) (hG : WG w n) (e : Mine.E) (he : hgt e ≤ n) (h6 : hgt e ≤ 6) (v : Addr) (l : Int) (tl : Tok) (N : Led) (T9 : Tr N e (.ref v)) : Does w 99 [.ref v, .int l tl, .bool false] (20 * n + 20) (200 * n + 200) N (WOut N (W e l false)) := by
  w_on
  refine' callX_plainV (R := fun rr => ∃ t, rr = Value.str (W e l false) t) (ml0 := [(Str.ofString "expr", .ref v), (Str.ofString "least", .int l tl), (Str.ofString "is_bare", .bool false)]) ?ho ?hcd ?hb ?hl ?hc ?h1 ?h2 ?h3 ?h4 ?_
  walk_at "bodyV"
  intro c hs hN hx0 hdp hun Kr hKr
  subst hN
  refine wpS_ok0 20 _ _ _ _ _ ?_
  repeat' (walk_at "ev")
  all_goals walk_at "fin"
  all_goals refine ⟨_, congrArg (fun z => Value.str z _) ?_⟩
  all_goals first
    | exact W_lt (of_decide_eq_true (by assumption))
    | exact W_ge (of_decide_eq_false (by assumption))
    | exact W_opn (opn_s (by assumption))
    | exact W_opn (opn_j (by assumption))
    | exact W_opn (opn_b (by assumption))
theorem expr2_does (w : World) (n : Nat) (hG : WG w n) (e : Mine.E) (he : hgt e ≤ n) (h6 : hgt e ≤ 6) (v : Addr) (l : Int) (tl : Tok) (N : Led) (T9 : Tr N e (.ref v)) : Does w 99 [.ref v, .int l tl] (20 * n + 20) (200 * n + 200) N (WOut N (W e l false)) := by
  w_on
  refine' callX_plainV (R := fun rr => ∃ t, rr = Value.str (W e l false) t) (ml0 := [(Str.ofString "expr", .ref v), (Str.ofString "least", .int l tl), (Str.ofString "is_bare", .bool false)]) ?ho ?hcd ?hb ?hl ?hc ?h1 ?h2 ?h3 ?h4 ?_
  walk_at "bodyV"
  intro c hs hN hx0 hdp hun Kr hKr
  subst hN
  refine wpS_ok0 20 _ _ _ _ _ ?_
  repeat' (walk_at "ev")
  all_goals walk_at "fin"
  all_goals refine ⟨_, congrArg (fun z => Value.str z _) ?_⟩
  all_goals first
    | exact W_lt (of_decide_eq_true (by assumption))
    | exact W_ge (of_decide_eq_false (by assumption))
    | exact W_opn (opn_s (by assumption))
    | exact W_opn (opn_j (by assumption))
    | exact W_opn (opn_b (by assumption))
theorem expr1_does (w : World) (n : Nat) (hG : WG w n) (e : Mine.E) (he : hgt e ≤ n) (h6 : hgt e ≤ 6) (v : Addr) (N : Led) (T9 : Tr N e (.ref v)) : Does w 99 [.ref v] (20 * n + 20) (200 * n + 200) N (WOut N (W e 0 false)) := by
  w_on
  refine' callX_plainV (R := fun rr => ∃ t, rr = Value.str (W e 0 false) t) (ml0 := [(Str.ofString "expr", .ref v), (Str.ofString "least", .int 0 244), (Str.ofString "is_bare", .bool false)]) ?ho ?hcd ?hb ?hl ?hc ?h1 ?h2 ?h3 ?h4 ?_
  walk_at "bodyV"
  intro c hs hN hx0 hdp hun Kr hKr
  subst hN
  refine wpS_ok0 20 _ _ _ _ _ ?_
  repeat' (walk_at "ev")
  all_goals walk_at "fin"
  all_goals refine ⟨_, congrArg (fun z => Value.str z _) ?_⟩
  all_goals first
    | exact W_lt (of_decide_eq_true (by assumption))
    | exact W_ge (of_decide_eq_false (by assumption))
    | exact W_opn (opn_s (by assumption))
    | exact W_opn (opn_j (by assumption))
    | exact W_opn (opn_b (by assumption))
end
theorem off_HVC_27 : True := trivial
theorem WX.step {w : World} {n : Nat} (hG : WG w n) (h6 : n ≤ 6) : WX w (n + 1) := fun N e v he T => by
  have he' : hgt e ≤ n := by omega
  have e1 : 20 * (n + 1) = 20 * n + 20 := by omega
  have e2 : 200 * (n + 1) = 200 * n + 200 := by omega
  rw [e1, e2]
  obtain ⟨a, rfl⟩ := tr_ref T
  refine ⟨fun l tl b => ?_, fun l tl => expr2_does w n hG e he' (by omega) a l tl N T, expr1_does w n hG e he' (by omega) a N T⟩
  cases b
  · exact expr3f_does w n hG e he' (by omega) a l tl N T
  · exact expr3t_does w n hG e he' (by omega) a l tl N T
-- MW
theorem lay_MW_23 : True := by
  k_with "mine use" => (((case zNN => k_asm); (case zB => k_asm); (case zF => k_asm); (case zX => k_asm); (case zT => k_asm); (case zhk => exact rfl); (case zhdp => walk_at "mine room"); (case zhun => walk_at "mine room")))
  k_with "mine ifin" => ((refine' ifin ?zgH ?zgF ?zgN ?zgsb ?_; (case zgH => assumption); (case zgF => k_asm); (case zgN => k_asm); (case zgsb => walk_at "mine sub")))
  k_with "my compareOp In str ref" => ((k_here; (with_reducible show wpAny _ _ (compareOp CmpOp.In (Value.str _ _) (Value.ref 17)) _ _ _); k_dflt (refine' in_blocks ?zF ?zX ?_; (case zF => k_asm); (case zX => k_asm); k_whole)))
  k_with "my compareOp In str ref" => ((k_here; (with_reducible show wpAny _ _ (compareOp CmpOp.In (Value.str _ _) (Value.ref 18)) _ _ _); k_dflt (refine' in_jumps ?zF ?zX ?_; (case zF => k_asm); (case zX => k_asm); k_whole)))
  k_with "mine item2" => (((with_reducible show wpAny _ _ (subscriptTail _ _ (Value.ref _) (Value.int 0 _)) _ _ _); k_dflt (refine' head_get ?zN ?zF ?zX ?zT ?_ ?zhs; (case zN => k_asm); (case zF => k_asm); (case zX => k_asm); (case zT => walk_at "mine tr"); (case zhs => with_unfolding_all rfl); k_whole); intro t8))
  k_with "my subscriptTail Name Subscript ref str" => ((k_here; (with_reducible show wpAny _ _ (subscriptTail _ _ (Value.ref 15) (Value.str _ _)) _ _ _); k_dflt (refine' levels_get ?zF ?zX ?_ ?zhs; (case zF => k_asm); (case zX => k_asm); (case zhs => with_unfolding_all rfl); k_whole); intro t8))
  k_with "my subscriptTail" => ((k_here; (with_reducible show wpAny _ _ (subscriptTail _ _ (Value.ref 15) (Value.str _ _)) _ _ _); k_dflt (refine' levels_get ?zF ?zX ?_ ?zhs; (case zF => k_asm); (case zX => k_asm); (case zhs => with_unfolding_all rfl); k_whole); intro t8))
  k_with "mine strs" => (first | exact StrsAre.nil | (refine' StrsAre.cons _ _ ?zmsA; (case zmsA => walk_at "mine strs")))
  k_with "my compareOp Eq ref ref" => ((k_here; (with_reducible show wpAny _ _ (compareOp CmpOp.Eq (Value.ref _) (Value.ref _)) _ _ _); k_dflt (first
      | (refine' eq_strs_t ?zN ?za ?zb ?zv ?zw ?zo ?zp ?zu ?ze ?_; (case zN => k_asm); (case za => walk_at "mine mem"); (case zb => walk_at "mine mem"); (case zv => walk_at "mine strs"); (case zw => walk_at "mine strs"); (case zo => decide); (case zp => decide); (case ze => exact rfl); (case zu => walk_at "mine room"); k_whole)
      | (refine' eq_strs_f ?zN ?za ?zb ?zv ?zw ?zo ?zp ?zu ?ze ?_; (case zN => k_asm); (case za => walk_at "mine mem"); (case zb => walk_at "mine mem"); (case zv => walk_at "mine strs"); (case zw => walk_at "mine strs"); (case zo => decide); (case zp => decide); (case ze => decide); (case zu => walk_at "mine room"); k_whole))))
  k_with "mine len8" => ((refine' Nat.le_trans ?zmlP ?zmlR; (case zmlP => walk_at "mine len"); (case zmlR => exact Nat.le_of_ble_eq_true rfl)))
  k_with "my call builtin:str.join" => ((k_here; (try dsimp only [List.cons_append, List.nil_append]); (with_reducible show wpAny _ _ (call (Value.builtin "str.join") [Value.str _ _, Value.ref _]) _ _ _); k_dflt (first
      | (refine' join0 ?zN ?za ?zs ?_; (case zN => k_asm); (case za => walk_at "mine mem"); (case zs => decide); k_whole)
      | (refine' join1 ?zN ?za ?zs ?zx ?_; (case zN => k_asm); (case za => walk_at "mine mem"); (case zs => decide); (case zx => walk_at "mine len8"); k_whole)
      | (refine' join2 ?zN ?za ?zs ?zx ?zy ?_; (case zN => k_asm); (case za => walk_at "mine mem"); (case zs => decide); (case zx => walk_at "mine len8"); (case zy => walk_at "mine len8"); k_whole)); intro t8 tk8))
  k_with "mine lt" => (first | with_reducible assumption | (refine' lt_up ?zltA ?zltB; (case zltA => with_reducible assumption); (case zltB => with_reducible assumption)) | (refine' lt_tail ?zltC; (case zltC => first | with_reducible assumption | (refine' lt_tail ?zltD; (case zltD => first | with_reducible assumption | (refine' lt_tail ?zltE; (case zltE => with_reducible assumption)))))))
  k_with "mine cls" => (first | decide | exact ktu_clsNe (by assumption) (by k_cls) | exact ktu_clsNe2 (by assumption) (by k_cls))
  k_with "mine keep" => (first
      | exact Keep.nil
      | (refine' Keep.base ?zkpA; (case zkpA => walk_at "mine lt"))
      | (refine' Keep.cons (ne_cls ?zkpN ?zkpA ?zkpB ?zkpC) ?zkpD; (case zkpN => k_asm); (case zkpA => walk_at "mine mem"); (case zkpB => walk_at "mine mem"); (case zkpC => walk_at "mine cls"); (case zkpD => walk_at "mine keep"))
      | (refine' Keep.skip ?zkpA; (case zkpA => walk_at "mine keep")))
  k_with "my exec For Tuple Name cons nil" => ((k_here; (rename Fr _ _ _ _ => lF'); (with_unfolding_all refine' For_turns lF' ?_; k_whole)))
  k_with "my pyIter ref" => ((k_here; (with_reducible show wpAny _ _ (pyIter (Value.ref _)) (fun it s₂ => TurnsAt _ _ _ _ _ _ _ _ _ it s₂) _ _); (with_unfolding_all refine' iter_tupK ?zh ?zF ?zN ?zX ?zk ?zc ?zd ?zz ?_; (case zh => rfl); (case zF => k_asm); (case zN => k_asm); (case zX => k_asm); (case zk => k_is); (case zc => exact rfl); (case zd => exact rfl); (case zz => decide)); intro i' l1))
  k_with "my pyIter ref" => ((k_here; (with_reducible show wpAny _ _ (pyIter (Value.ref _)) (fun it s₂ => TurnsAt _ _ _ _ _ _ _ _ _ it s₂) _ _); (rename Fr _ _ _ _ => lF'); (with_unfolding_all refine' iter_tupTurns ?zh lF' ?zN ?zm ?zc ?zd ?_; (case zh => rfl); (case zN => k_asm); (case zm => walk_at "mine mem"); (case zc => exact rfl); (case zd => exact rfl)); intro i' l1))
  k_with "my UnrEndW" => ((k_dflt (refine' unr_end ?zF ?zN ?zI ?zkp ?zhk ?_; (case zF => k_asm); (case zN => k_asm); (case zI => walk_at "mine mem"); (case zkp => walk_at "mine keep"); (case zhk => walk_at "mine mem"))))
  k_with "my UnrEndW" => ((k_dflt (refine' unr_end0 ?zF ?zN ?zI ?zkp ?_; (case zF => k_asm); (case zN => k_asm); (case zI => walk_at "mine mem"); (case zkp => walk_at "mine keep"))))
  k_with "my call type:list" => ((k_here; (with_reducible show wpAny _ _ (call (Value.type _) [Value.ref _]) _ _ _); k_dflt (refine' list_of_top ?zF ?zN ?zX ?za ?zz ?_; (case zF => k_asm); (case zN => k_asm); (case zX => k_asm); (case za => k_is); (case zz => exact Nat.le_of_ble_eq_true rfl); k_whole); intro D' c' h' F' N' l1; (try k_sweep)))
  k_with "my eval ListComp" => ((k_here; k_dflt (refine ListComp_tup (by k_asm) (by with_unfolding_all rfl) (by decide) (by rfl) (by decide) (by rfl) ?_)))
  k_with "my TupSrc" => ((k_here; k_dflt (first
      | (refine' TupSrc.ledger ?zhh ?zF ?zN ?zhm ?zz ?_; (case zhh => rfl); (case zF => k_asm); (case zN => k_asm); (case zhm => walk_at "mine mem"); (case zz => exact Nat.le_of_ble_eq_true rfl); intro g'; lcg_lit)
      | (refine' TupSrc.top ?zhh ?zF ?zN ?zX ?zhl ?zz ?_; (case zhh => rfl); (case zF => k_asm); (case zN => k_asm); (case zX => k_asm); (case zhl => k_is); (case zz => exact Nat.le_of_ble_eq_true rfl); intro g'; lcg_lit))))
  k_with "my CompEnd" => ((refine' ce_same ?zF ?zN ?zoff ?zhS ?_; (case zF => k_asm); (case zN => k_asm); (case zoff => assumption); (case zhS => first | exact trivial | exact Or.inr (by walk_at "mine mem") | exact Or.inl (tupK (by k_asm) (by k_is)))))
  k_with "my call type:list" => ((k_here; (with_reducible show wpAny _ _ (call (Value.type _) [Value.ref _]) _ _ _); k_dflt (refine' list_of_tup ?zF ?zN ?za ?zz ?_; (case zF => k_asm); (case zN => k_asm); (case za => walk_at "mine mem"); (case zz => exact Nat.le_of_ble_eq_true rfl); k_whole); intro D' c' h' F' N' l1; (try k_sweep)))
  k_with "my binaryOp Add ref ref" => ((k_here; k_dflt (refine' lst_cat ?zF ?zN ?za ?zb ?zz ?_; (case zF => k_asm); (case zN => k_asm); (case za => walk_at "mine mem"); (case zb => walk_at "mine mem"); (case zz => exact Nat.le_of_ble_eq_true rfl); k_whole); intro D' h' F' N' l3; (try dsimp only [List.cons_append, List.nil_append] at N'); (try k_sweep)))
  k_with "my call builtin:list.append" => ((k_here; (try dsimp only [List.cons_append, List.nil_append]); (with_reducible show wpAny _ _ (call (Value.builtin _) [Value.ref _, _]) _ _ _); k_dflt (refine' app_P ?zF ?zN ?za ?zkp ?zz ?_; (case zF => k_asm); (case zN => k_asm); (case za => walk_at "mine mem"); (case zkp => walk_at "mine keep"); (case zz => exact Nat.le_of_ble_eq_true rfl); k_whole); intro h' F' N'; (try dsimp only [List.cons_append, List.nil_append] at N'); (try k_sweep)))
  k_with "my exec Assign cons ListComp" => ((k_here; k_dflt (refine Assign_ListComp_tup (by k_asm) (by rfl) (by with_unfolding_all rfl) (by with_unfolding_all rfl) (by decide) (by rfl) (by decide) (by rfl) (by rfl) (by rfl) ?_)))
  trivial
-- WD
theorem literal_does (w : World) (N : Led) : Does w 67 [.bool true] 2 8 N (WOut N (Str.ofString "true")) := by
  w_on
  unfold Does
  k_fill
  intro mean mg mb dp un gd cn cs a ccd cl outer A₀ base h₀ L m s Q E B F X NN T hk hdp hun hret
  walk_at "mine enter"
  k_steps
  all_goals walk_at "mine wfin"
  all_goals exact rfl
theorem rows_does (w : World) (N : Led) (l : Addr) (n : Nat) (hm : (l, lstn n []) ∈ N) : Does w 189 [.ref l] 2 80 N (WOut N (Str.ofString "{}")) := by
  w_on
  unfold Does
  k_fill
  intro mean mg mb dp un gd cn cs a ccd cl outer A₀ base h₀ L m s Q E B F X NN T hk hdp hun hret
  walk_at "mine enter"
  k_steps
  all_goals walk_at "mine wfin"
  all_goals exact rfl
theorem angles0_does (w : World) (N : Led) (l : Addr) (n : Nat) (hm : (l, lstn n []) ∈ N) : Does w 25 [.ref l] 2 80 N (WOut N (Str.ofString "")) := by
  w_on
  unfold Does
  k_fill
  intro mean mg mb dp un gd cn cs a ccd cl outer A₀ base h₀ L m s Q E B F X NN T hk hdp hun hret
  walk_at "mine enter"
  k_steps
  all_goals walk_at "mine wfin"
  all_goals exact rfl
theorem anglesT_does (w : World) (N : Led) (l : Addr) (n : Nat) (t : Tok) (hm : (l, lstn n [.str (Str.ofString "T") t]) ∈ N) : Does w 25 [.ref l] 2 80 N (WOut N (Str.ofString "<T>")) := by
  w_on
  unfold Does
  k_fill
  intro mean mg mb dp un gd cn cs a ccd cl outer A₀ base h₀ L m s Q E B F X NN T hk hdp hun hret
  walk_at "mine enter"
  k_steps
  all_goals walk_at "mine wfin"
  all_goals exact rfl
theorem angles1_does (w : World) (N : Led) (l : Addr) (n : Nat) (t : Tok) (hm : (l, lstn n [.str (Str.ofString "u8") t]) ∈ N) : Does w 25 [.ref l] 2 80 N (WOut N (Str.ofString "<u8>")) := by
  w_on
  unfold Does
  k_fill
  intro mean mg mb dp un gd cn cs a ccd cl outer A₀ base h₀ L m s Q E B F X NN T hk hdp hun hret
  walk_at "mine enter"
  k_steps
  all_goals walk_at "mine wfin"
  all_goals exact rfl
theorem angles2_does (w : World) (N : Led) (l : Addr) (n : Nat) (t t' : Tok) (hm : (l, lstn n [.str (Str.ofString "Box<T>") t, .str (Str.ofString "T") t']) ∈ N) : Does w 25 [.ref l] 2 80 N (WOut N (Str.ofString "<Box<T>, T>")) := by
  w_on
  unfold Does
  k_fill
  intro mean mg mb dp un gd cn cs a ccd cl outer A₀ base h₀ L m s Q E B F X NN T hk hdp hun hret
  walk_at "mine enter"
  k_steps
  all_goals walk_at "mine wfin"
  all_goals exact rfl
-- WE
section
theorem lay_WE_24 : True := by
  k_with "my call ref" => ((fail_if_success (have zoff := off_WE_29)); ((k_here; (with_reducible show wpAny _ _ (call (Value.ref 25) _) _ _ _); k_dflt ((first | (refine' Does.use (angles0_does _ _ _ _ ?zhm) ?zB ?zF ?zX ?zNN ?zT ?zhk ?zhdp ?zhun ?_; (walk_at "mine use"); (case zhm => walk_at "mine mem")) | (refine' Does.use (anglesT_does _ _ _ _ _ ?zhm) ?zB ?zF ?zX ?zNN ?zT ?zhk ?zhdp ?zhun ?_; (walk_at "mine use"); (case zhm => walk_at "mine mem")))); intro t9 h9 tk9 F9 N9; (try dsimp only); (try k_sweep); (try k_fold))))
  trivial
theorem path0_does (w : World) (N : Led) (q : Addr) (x : Str) (hq : PathQ N x q) (hx : x.length ≤ 100) : Does w 31 [.ref q] 6 100 N (WOut N x) := by
  obtain ⟨h1, h2, h3, h4⟩ := hq
  w_on
  unfold Does
  k_fill
  intro mean mg mb dp un gd cn cs a ccd cl outer A₀ base h₀ L m s Q E B F X NN T hk hdp hun hret
  walk_at "mine enter"
  k_steps
  all_goals walk_at "mine wfin"
  exact Str.append_empty _
theorem path2_does (w : World) (N : Led) (q : Addr) (x : Str) (hq : PathQ N x q) (hx : x.length ≤ 100) (y : Str) (t : Tok) : Does w 31 [.ref q, .str y t] 6 100 N (WOut N x) := by
  obtain ⟨h1, h2, h3, h4⟩ := hq
  w_on
  unfold Does
  k_fill
  intro mean mg mb dp un gd cn cs a ccd cl outer A₀ base h₀ L m s Q E B F X NN T hk hdp hun hret
  walk_at "mine enter"
  k_steps
  all_goals walk_at "mine wfin"
  exact Str.append_empty _
theorem lay_WE_25 : True := by
  k_with "my call ref" => ((fail_if_success (have zoff := off_WE_29)); ((k_here; (with_reducible show wpAny _ _ (call (Value.ref 31) _) _ _ _); k_dflt (first | (refine' Does.use (path0_does _ _ _ _ ?zhq ?zhx) ?zB ?zF ?zX ?zNN ?zT ?zhk ?zhdp ?zhun ?_; (walk_at "mine use"); (case zhq => assumption); (case zhx => assumption))); intro t9 h9 tk9 F9 N9; (try dsimp only); (try k_sweep); (try k_fold))))
  trivial
theorem typeV_does (w : World) (N : Led) (v : Value) (x : Str) (hq : PathV N x v) (hx : x.length ≤ 100) : Does w 36 [v] 8 110 N (WOut N x) := by
  obtain ⟨hp, hq⟩ := hq
  w_on
  unfold Does
  k_fill
  intro mean mg mb dp un gd cn cs a ccd cl outer A₀ base h₀ L m s Q E B F X NN T hk hdp hun hret
  walk_at "mine enter"
  k_steps
  all_goals walk_at "mine wfin"
  exact rfl
theorem lay_WE_26 : True := by
  k_with "my call ref" => ((fail_if_success (have zoff := off_WE_29)); ((k_here; (with_reducible show wpAny _ _ (call (Value.ref 36) _) _ _ _); k_dflt (first | (refine' Does.use (typeV_does _ _ _ _ ?zhq ?zhx) ?zB ?zF ?zX ?zNN ?zT ?zhk ?zhdp ?zhun ?_; (walk_at "mine use"); (case zhq => first | assumption | (refine' PathV.mono ?zmtS ?zmtH; (case zmtH => assumption); (case zmtS => walk_at "mine sub"))); (case zhx => decide))); intro t9 h9 tk9 F9 N9; (try dsimp only); (try k_sweep); (try k_fold))))
  trivial
theorem pathB_does (w : World) (N : Led) (q p q1 q2 : Addr) (v : Value) (t : Tok) (h1 : (q, tup [.ref p]) ∈ N) (h2 : (p, tup [.str (Str.ofString "Box") t, .ref q1, .ref q2]) ∈ N) (h3 : (q1, tup []) ∈ N) (h4 : (q2, tup [v]) ∈ N) (hv : PathV N (Str.ofString "T") v) : Does w 31 [.ref q] 12 140 N (WOut N (Str.ofString "Box<T>")) := by
  w_on
  unfold Does
  k_fill
  intro mean mg mb dp un gd cn cs a ccd cl outer A₀ base h₀ L m s Q E B F X NN T hk hdp hun hret
  walk_at "mine enter"
  k_steps
  all_goals walk_at "mine wfin"
  exact rfl
theorem lay_WE_27 : True := by
  k_with "my call ref" => ((fail_if_success (have zoff := off_WE_29)); ((k_here; (with_reducible show wpAny _ _ (call (Value.ref 31) _) _ _ _); k_dflt (first | (refine' Does.use (pathB_does _ _ _ _ _ _ _ _ ?zh1 ?zh2 ?zh3 ?zh4 ?zh5) ?zB ?zF ?zX ?zNN ?zT ?zhk ?zhdp ?zhun ?_; (walk_at "mine use"); (case zh1 => assumption); (case zh2 => assumption); (case zh3 => assumption); (case zh4 => assumption); (case zh5 => assumption))); intro t9 h9 tk9 F9 N9; (try dsimp only); (try k_sweep); (try k_fold))))
  trivial
theorem typeB_does (w : World) (N : Led) (v : Value) (hq : BoxV N v) : Does w 36 [v] 14 150 N (WOut N (Str.ofString "Box<T>")) := by
  obtain ⟨hp, h1, h2, h3, h4, h5⟩ := hq
  w_on
  unfold Does
  k_fill
  intro mean mg mb dp un gd cn cs a ccd cl outer A₀ base h₀ L m s Q E B F X NN T hk hdp hun hret
  walk_at "mine enter"
  k_steps
  all_goals walk_at "mine wfin"
  exact rfl
end
theorem off_WE_29 : True := trivial
-- WE2
section
theorem lay_WE2_28 : True := by
  k_with "my call ref" => ((fail_if_success (have zoff := off_WE2_30)); ((k_here; (with_reducible show wpAny _ _ (call (Value.ref 25) _) _ _ _); k_dflt ((first | (refine' Does.use (angles0_does _ _ _ _ ?zhm) ?zB ?zF ?zX ?zNN ?zT ?zhk ?zhdp ?zhun ?_; (walk_at "mine use"); (case zhm => walk_at "mine mem")) | (refine' Does.use (anglesT_does _ _ _ _ _ ?zhm) ?zB ?zF ?zX ?zNN ?zT ?zhk ?zhdp ?zhun ?_; (walk_at "mine use"); (case zhm => walk_at "mine mem")))); intro t9 h9 tk9 F9 N9; (try dsimp only); (try k_sweep); (try k_fold))))
  trivial
theorem pathS_does (w : World) (N : Led) (t : Tok) : Does w 31 [.ref 219, .str (Str.ofString "::") t] 6 100 N (WOut N (Str.ofString "P")) := by
  w_on
  unfold Does
  k_fill
  intro mean mg mb dp un gd cn cs a ccd cl outer A₀ base h₀ L m s Q E B F X NN T hk hdp hun hret
  walk_at "mine enter"
  k_steps
  all_goals walk_at "mine wfin"
  exact rfl
end
theorem off_WE2_30 : True := trivial
-- WF
section
theorem lay_WF_29 : True := by
  k_with "my call ref" => ((fail_if_success (have zoff := off_WF_31)); ((k_here; (with_reducible show wpAny _ _ (call (Value.ref 99) _) _ _ _); k_dflt (first | (refine' Does.use (WX.c3 ?zhW ?zhT ?zhe) ?zB ?zF ?zX ?zNN ?zT ?zhk ?zhdp ?zhun ?_; (case zhW => assumption); (walk_at "mine use"); (case zhT => walk_at "mine tr"); (case zhe => first | assumption | omega)) | (refine' Does.use (WX.c2 ?zhW ?zhT ?zhe) ?zB ?zF ?zX ?zNN ?zT ?zhk ?zhdp ?zhun ?_; (case zhW => assumption); (walk_at "mine use"); (case zhT => walk_at "mine tr"); (case zhe => first | assumption | omega)) | (refine' Does.use (WX.c1 ?zhW ?zhT ?zhe) ?zB ?zF ?zX ?zNN ?zT ?zhk ?zhdp ?zhun ?_; (case zhW => assumption); (walk_at "mine use"); (case zhT => walk_at "mine tr"); (case zhe => first | assumption | omega))); intro t9 h9 tk9 F9 N9; (try dsimp only); (try k_sweep); (try k_fold))))
  k_with "my call ref" => ((fail_if_success (have zoff := off_WF_31)); ((k_here; (with_reducible show wpAny _ _ (call (Value.ref 189) _) _ _ _); k_dflt (first | (refine' Does.use (rows_does _ _ _ _ ?zhm) ?zB ?zF ?zX ?zNN ?zT ?zhk ?zhdp ?zhun ?_; (walk_at "mine use"); (case zhm => walk_at "mine mem"))); intro t9 h9 tk9 F9 N9; (try dsimp only); (try k_sweep); (try k_fold))))
  trivial
theorem block_does (w : World) (N : Led) : Does w 199 [.ref 215] 6 100 N (WOut N (Str.ofString "{}")) := by
  w_on
  unfold Does
  k_fill
  intro mean mg mb dp un gd cn cs a ccd cl outer A₀ base h₀ L m s Q E B F X NN T hk hdp hun hret
  walk_at "mine enter"
  k_steps
  all_goals walk_at "mine wfin"
  exact rfl
end
theorem off_WF_31 : True := trivial
-- HVF
section
theorem list0_does (w : World) (n : Nat) (N : Led) (q : Addr) (hm : (q, tup []) ∈ N) : Does w 132 [.ref q] (20 * n + 4) (200 * n + 20) N (WOut N (Str.ofString "")) := by
  w_on
  refine' callX_plainV (R := fun rr => ∃ t, rr = Value.str (Str.ofString "") t) (ml0 := [(Str.ofString "parts", .ref q)]) ?ho ?hcd ?hb ?hl ?hc ?h1 ?h2 ?h3 ?h4 ?_
  walk_at "bodyV"
  intro c hs hN hx0 hdp hun Kr hKr
  subst hN
  refine wpS_ok0 20 _ _ _ _ _ ?_
  repeat' (walk_at "ev")
  walk_at "fin"
  exact ⟨_, congrArg (fun z => Value.str z _) (rfl)⟩
theorem list1_does (w : World) (n : Nat) (hW : WX w n) (N : Led) (q : Addr) (x : Mine.E) (v : Value) (hm : (q, tup [v]) ∈ N) (hT : Tr N x v) (hx : hgt x < n) (h6 : hgt x ≤ 6) : Does w 132 [.ref q] (20 * n + 4) (200 * n + 20) N (WOut N (txt x false)) := by
  w_on
  refine' callX_plainV (R := fun rr => ∃ t, rr = Value.str (txt x false) t) (ml0 := [(Str.ofString "parts", .ref q)]) ?ho ?hcd ?hb ?hl ?hc ?h1 ?h2 ?h3 ?h4 ?_
  walk_at "bodyV"
  intro c hs hN hx0 hdp hun Kr hKr
  subst hN
  have hl0 := W_small h6 0 false
  refine wpS_ok0 20 _ _ _ _ _ ?_
  repeat' (walk_at "ev")
  walk_at "fin"
  exact ⟨_, congrArg (fun z => Value.str z _) (W0 _ _)⟩
theorem list2_does (w : World) (n : Nat) (hW : WX w n) (N : Led) (q : Addr) (x y : Mine.E) (v v' : Value) (hm : (q, tup [v, v']) ∈ N) (hT : Tr N x v) (hT' : Tr N y v') (hx : hgt x < n) (h6 : hgt x ≤ 6) (hy : hgt y < n) (h6' : hgt y ≤ 6) : Does w 132 [.ref q] (20 * n + 4) (200 * n + 20) N (WOut N (txt x false ++ Str.ofString ", " ++ txt y false)) := by
  w_on
  refine' callX_plainV (R := fun rr => ∃ t, rr = Value.str (txt x false ++ Str.ofString ", " ++ txt y false) t) (ml0 := [(Str.ofString "parts", .ref q)]) ?ho ?hcd ?hb ?hl ?hc ?h1 ?h2 ?h3 ?h4 ?_
  walk_at "bodyV"
  intro c hs hN hx0 hdp hun Kr hKr
  subst hN
  have hl0 := W_small h6 0 false
  have hl1 := W_small h6' 0 false
  refine wpS_ok0 20 _ _ _ _ _ ?_
  repeat' (walk_at "ev")
  walk_at "fin"
  exact ⟨_, congrArg (fun z => Value.str z _) (by rw [W0, W0])⟩
theorem side_does (w : World) (n : Nat) (hW : WX w n) (N : Led) (e : Mine.E) (v : Addr) (l : Int) (t : Tok) (b : Bool) (hT : Tr N e (.ref v)) (hx : hgt e < n) : Does w 120 [.ref v, .int l t, .bool b] (20 * n + 4) (200 * n + 20) N (WOut N (Sd e l b)) := by
  w_on
  refine' callX_plainV (R := fun rr => ∃ t, rr = Value.str (Sd e l b) t) (ml0 := [(Str.ofString "expr", .ref v), (Str.ofString "least", .int l t), (Str.ofString "is_bare", .bool b)]) ?ho ?hcd ?hb ?hl ?hc ?h1 ?h2 ?h3 ?h4 ?_
  walk_at "bodyV"
  intro c hs hN hx0 hdp hun Kr hKr
  subst hN
  refine wpS_ok0 20 _ _ _ _ _ ?_
  repeat' (walk_at "ev")
  · walk_at "fin"
    exact ⟨_, congrArg (fun z => Value.str z _) (by unfold Sd; rw [if_pos (by rw [← kind_cast]; assumption)])⟩
  · walk_at "fin"
    exact ⟨_, congrArg (fun z => Value.str z _) (by unfold Sd; rw [if_neg (by rw [← kind_cast]; simp_all)])⟩
theorem part_does (w : World) (N : Led) (x : Addr) (t1 t2 t3 : Tok) (hm : (x, tup [.str (Str.ofString "name") t1, .int 0 t2, .str (Str.ofString "x") t3, .bool false, .bool false, .none]) ∈ N) : Does w 53 [.ref x] 4 80 N (WOut N (Str.ofString "x")) := by
  w_on
  refine' callX_plainV (R := fun rr => ∃ t, rr = Value.str (Str.ofString "x") t) (ml0 := [(Str.ofString "pattern", .ref x)]) ?ho ?hcd ?hb ?hl ?hc ?h1 ?h2 ?h3 ?h4 ?_
  walk_at "bodyV"
  intro c hs hN hx0 hdp hun Kr hKr
  subst hN
  refine wpS_ok0 20 _ _ _ _ _ ?_
  repeat' (walk_at "ev")
  walk_at "fin"
  exact ⟨_, congrArg (fun z => Value.str z _) (rfl)⟩
section
variable {w : World} {cs : Scope} {c : Cx w cs} {ml : Mp} {T : Led} {K : Value → Led → Prop}
theorem Ends.partC {x : Addr} {t1 t2 t3 : Tok} (hm : (x, tup [.str (Str.ofString "name") t1, .int 0 t2, .str (Str.ofString "x") t3, .bool false, .bool false, .none]) ∈ c.N) (hdp : c.dp + 4 < recursionLimit) (hun : c.un + 80 < cLine) (k : ∀ t, K (.str (Str.ofString "x") t) T) : Ends c (PySem.call (.ref 53) [.ref x]) ml T K :=
  Ends.text (fun _ _ e' => part_does w _ x t1 t2 t3 (e' _ hm)) hdp hun k
end
theorem lay_HVF_30 : True := by
  k_with "evo" => ((fail_if_success (have zoff := off_HVF_32)); (((with_reducible refine' Ends.partC ?zhm ?zhd ?zhu ?_); (case zhm => assumption); (case zhd => walk_at "room"); (case zhu => walk_at "room"))))
  trivial
theorem pattern_does (w : World) (N : Led) (x : Addr) (t1 t2 t3 : Tok) (hm : (x, tup [.str (Str.ofString "name") t1, .int 0 t2, .str (Str.ofString "x") t3, .bool false, .bool false, .none]) ∈ N) : Does w 48 [.ref x] 6 90 N (WOut N (Str.ofString "x")) := by
  w_on
  refine' callX_plainV (R := fun rr => ∃ t, rr = Value.str (Str.ofString "x") t) (ml0 := [(Str.ofString "pattern", .ref x)]) ?ho ?hcd ?hb ?hl ?hc ?h1 ?h2 ?h3 ?h4 ?_
  walk_at "bodyV"
  intro c hs hN hx0 hdp hun Kr hKr
  subst hN
  refine wpS_ok0 20 _ _ _ _ _ ?_
  repeat' (walk_at "ev")
  walk_at "fin"
  exact ⟨_, congrArg (fun z => Value.str z _) (rfl)⟩
end
theorem off_HVF_32 : True := trivial
section
variable {w : World} {cs : Scope} {c : Cx w cs} {ml : Mp} {T : Led} {K : Value → Led → Prop}
theorem Ends.sideC {n : Nat} {v : Addr} {e : Mine.E} {l : Int} {t : Tok} {b : Bool} (hW : WX w n) (hT : Tr c.N e (.ref v)) (he : hgt e < n) (hdp : c.dp + (20 * n + 4) < recursionLimit) (hun : c.un + (200 * n + 20) < cLine) (k : ∀ t, K (.str (Sd e l b) t) T) : Ends c (PySem.call (.ref 120) [.ref v, .int l t, .bool b]) ml T K :=
  Ends.text (fun _ _ e' => side_does w n hW _ e v l t b (hT.mono e') he) hdp hun k
end
section
theorem cond_does (w : World) (n : Nat) (hW : WX w n) (N : Led) (e : Mine.E) (v : Value) (hT : Tr N e v) (he : hgt e < n) : Does w 156 [v] (20 * n + 4) (200 * n + 20) N (WOut N (txt e true)) := by
  w_on
  refine' callX_plainV (R := fun rr => ∃ t, rr = Value.str (txt e true) t) (ml0 := [(Str.ofString "expr", v)]) ?ho ?hcd ?hb ?hl ?hc ?h1 ?h2 ?h3 ?h4 ?_
  walk_at "bodyV"
  intro c hs hN hx0 hdp hun Kr hKr
  subst hN
  refine wpS_ok0 20 _ _ _ _ _ ?_
  repeat' (walk_at "ev")
  walk_at "fin"
  exact ⟨_, congrArg (fun z => Value.str z _) (W0 _ _)⟩
theorem bound_does (w : World) (n : Nat) (hW : WX w n) (N : Led) (e : Mine.E) (v : Addr) (hT : Tr N e (.ref v)) (he : hgt e < n) : Does w 170 [.ref v] (20 * n + 8) (200 * n + 40) N (WOut N (Sd e 1 true)) := by
  w_on
  refine' callX_plainV (R := fun rr => ∃ t, rr = Value.str (Sd e 1 true) t) (ml0 := [(Str.ofString "expr", .ref v)]) ?ho ?hcd ?hb ?hl ?hc ?h1 ?h2 ?h3 ?h4 ?_
  walk_at "bodyV"
  intro c hs hN hx0 hdp hun Kr hKr
  subst hN
  refine wpS_ok0 20 _ _ _ _ _ ?_
  repeat' (walk_at "ev")
  walk_at "fin"
  exact ⟨_, congrArg (fun z => Value.str z _) (rfl)⟩
end
-- WI
section
theorem lay_WI_31 : True := by
  k_with "my call ref" => ((fail_if_success (have zoff := off_WI_36)); ((k_here; (with_reducible show wpAny _ _ (call (Value.ref 99) _) _ _ _); k_dflt (first | (refine' Does.use (WX.c3 ?zhW ?zhT ?zhe) ?zB ?zF ?zX ?zNN ?zT ?zhk ?zhdp ?zhun ?_; (case zhW => assumption); (walk_at "mine use"); (case zhT => walk_at "mine tr"); (case zhe => first | assumption | omega)) | (refine' Does.use (WX.c2 ?zhW ?zhT ?zhe) ?zB ?zF ?zX ?zNN ?zT ?zhk ?zhdp ?zhun ?_; (case zhW => assumption); (walk_at "mine use"); (case zhT => walk_at "mine tr"); (case zhe => first | assumption | omega)) | (refine' Does.use (WX.c1 ?zhW ?zhT ?zhe) ?zB ?zF ?zX ?zNN ?zT ?zhk ?zhdp ?zhun ?_; (case zhW => assumption); (walk_at "mine use"); (case zhT => walk_at "mine tr"); (case zhe => first | assumption | omega))); intro t9 h9 tk9 F9 N9; (try dsimp only); (try k_sweep); (try k_fold))))
  k_with "my call ref" => ((fail_if_success (have zoff := off_WI_36)); ((k_here; (with_reducible show wpAny _ _ (call (Value.ref 120) _) _ _ _); k_dflt (first | (refine' Does.use (side_does _ _ ?zhW _ _ _ _ _ _ ?zhT ?zhe) ?zB ?zF ?zX ?zNN ?zT ?zhk ?zhdp ?zhun ?_; (case zhW => assumption); (walk_at "mine use"); (case zhT => walk_at "mine tr"); (case zhe => first | assumption | omega))); intro t9 h9 tk9 F9 N9; (try dsimp only); (try k_sweep); (try k_fold))))
  k_with "my call ref" => ((fail_if_success (have zoff := off_WI_36)); ((k_here; (with_reducible show wpAny _ _ (call (Value.ref 199) _) _ _ _); k_dflt (first | (refine' Does.use (block_does _ _) ?zB ?zF ?zX ?zNN ?zT ?zhk ?zhdp ?zhun ?_; (walk_at "mine use"))); intro t9 h9 tk9 F9 N9; (try dsimp only); (try k_sweep); (try k_fold))))
  k_with "my call ref" => ((fail_if_success (have zoff := off_WI_36)); ((k_here; (with_reducible show wpAny _ _ (call (Value.ref 48) _) _ _ _); k_dflt (first | (refine' Does.use (pattern_does _ _ _ _ _ _ ?zhm) ?zB ?zF ?zX ?zNN ?zT ?zhk ?zhdp ?zhun ?_; (walk_at "mine use"); (case zhm => assumption))); intro t9 h9 tk9 F9 N9; (try dsimp only); (try k_sweep); (try k_fold))))
  k_with "my call ref" => ((fail_if_success (have zoff := off_WI_36)); ((k_here; (with_reducible show wpAny _ _ (call (Value.ref 156) _) _ _ _); k_dflt (first | (refine' Does.use (cond_does _ _ ?zhW _ _ _ ?zhT ?zhe) ?zB ?zF ?zX ?zNN ?zT ?zhk ?zhdp ?zhun ?_; (case zhW => assumption); (walk_at "mine use"); (case zhT => walk_at "mine tr"); (case zhe => first | assumption | omega))); intro t9 h9 tk9 F9 N9; (try dsimp only); (try k_sweep); (try k_fold))))
  k_with "my call ref" => ((fail_if_success (have zoff := off_WI_36)); ((k_here; (with_reducible show wpAny _ _ (call (Value.ref 170) _) _ _ _); k_dflt (first | (refine' Does.use (bound_does _ _ ?zhW _ _ _ ?zhT ?zhe) ?zB ?zF ?zX ?zNN ?zT ?zhk ?zhdp ?zhun ?_; (case zhW => assumption); (walk_at "mine use"); (case zhT => walk_at "mine tr"); (case zhe => first | assumption | omega))); intro t9 h9 tk9 F9 N9; (try dsimp only); (try k_sweep); (try k_fold))))
  k_with "my exec While BoolOp" => ((fail_if_success (have zoff := off_WI_36)); ((k_here; k_dflt (refine whl_start 100 ?_))))
  trivial
theorem if_does (w : World) (n : Nat) (hW : WX w n) (N : Led) (a : Addr) (v : Value) (t1 t2 : Tok) (hn : 0 < n) (hm : (a, tup [.str (Str.ofString "if") t1, .int 0 t2, v, .ref 215, .none]) ∈ N) (hT : Tr N (.name false) v) : Does w 177 [.ref a] (20 * n + 8) (200 * n + 110) N (WOut N (Str.ofString "if a {}")) := by
  have he : hgt (.name false) < n := hn
  w_on
  unfold Does
  k_fill
  intro mean mg mb dp un gd cn cs a ccd cl outer A₀ base h₀ L m s Q E B F X NN T hk hdp hun hret
  walk_at "mine enter"
  k_steps
  all_goals walk_at "mine wfin"
  exact rfl
end
theorem off_WI_36 : True := trivial
-- RT
section
variable {w : World} {cs : Scope} {c : Cx w cs} {ml : Mp} {T : Led} {K : Value → Led → Prop}
theorem Ends.typV {v : Value} {x : Str} (hv : PathV c.N x v) (hx : x.length ≤ 100) (hdp : c.dp + 8 < recursionLimit) (hun : c.un + 110 < cLine) (k : ∀ t, K (.str x t) T) : Ends c (PySem.call (.ref 36) [v]) ml T K :=
  Ends.text (fun _ _ e' => typeV_does w _ v x (hv.mono e') hx) hdp hun k
end
-- HVH
/-- up to two arguments, as a tuple -/
inductive ArgsV (N : Led) : Fin 3 → Mine.E → Mine.E → Addr → Prop where
  | zero {x y : Mine.E} {q : Addr} : (q, tup []) ∈ N → ArgsV N 0 x y q
  | one {x y : Mine.E} {q : Addr} {v : Value} : (q, tup [v]) ∈ N → Tr N x v → ArgsV N 1 x y q
  | two {x y : Mine.E} {q : Addr} {v v' : Value} : (q, tup [v, v']) ∈ N → Tr N x v → Tr N y v' → ArgsV N 2 x y q
theorem list_does (w : World) (n : Nat) (hW : WX w n) (N : Led) (q : Addr) (k : _root_.Fin 3) (x y : Mine.E) (hA : ArgsV N k x y q) (hx : hgt x < n) (h6 : hgt x ≤ 6) (hy : hgt y < n) (h6' : hgt y ≤ 6) : Does w 132 [.ref q] (20 * n + 4) (200 * n + 20) N (WOut N (argT k (txt x false) (txt y false))) := by
  cases hA with
  | zero a => exact list0_does w n N q a
  | one a b => exact list1_does w n hW N q x _ a b hx h6
  | two a b c => exact list2_does w n hW N q x y _ _ a b c hx h6 hy h6'
section
theorem ahead_un (w : World) (n : Nat) (hW : WX w n) (N : Led) (j : _root_.Fin 3) (c : Mine.E) (a : Addr) (v : Value) (b : Bool) (t1 t2 t3 : Tok) (hm : (a, tup [.str (Str.ofString "unary") t1, .int 0 t2, .str (usn j) t3, v]) ∈ N) (hT : Tr N c v) (hc : hgt c < n) (h6 : hgt c ≤ 6) : Does w 113 [.ref a, .bool b] (20 * n + 8) (200 * n + 100) N (WOut N (txt (.un j c) b)) := by
  w_on
  refine' callX_plainV (R := fun rr => ∃ t, rr = Value.str (txt (.un j c) b) t) (ml0 := [(Str.ofString "expr", .ref a), (Str.ofString "is_bare", .bool b)]) ?ho ?hcd ?hb ?hl ?hc ?h1 ?h2 ?h3 ?h4 ?_
  walk_at "bodyV"
  intro cc hs hN hx0 hdp hun Kr hKr
  subst hN
  refine wpS_ok0 20 _ _ _ _ _ ?_
  repeat' (walk_at "ev")
  walk_at "fin"
  exact ⟨_, congrArg (fun z => Value.str z _) (rfl)⟩
theorem ahead_bor (w : World) (n : Nat) (hW : WX w n) (N : Led) (c : Mine.E) (a : Addr) (v : Value) (b : Bool) (t1 t2 : Tok) (hm : (a, tup [.str (Str.ofString "borrow") t1, .int 0 t2, .bool true, v]) ∈ N) (hT : Tr N c v) (hc : hgt c < n) (h6 : hgt c ≤ 6) : Does w 113 [.ref a, .bool b] (20 * n + 8) (200 * n + 100) N (WOut N (txt (.bor c) b)) := by
  w_on
  refine' callX_plainV (R := fun rr => ∃ t, rr = Value.str (txt (.bor c) b) t) (ml0 := [(Str.ofString "expr", .ref a), (Str.ofString "is_bare", .bool b)]) ?ho ?hcd ?hb ?hl ?hc ?h1 ?h2 ?h3 ?h4 ?_
  walk_at "bodyV"
  intro cc hs hN hx0 hdp hun Kr hKr
  subst hN
  refine wpS_ok0 20 _ _ _ _ _ ?_
  repeat' (walk_at "ev")
  walk_at "fin"
  exact ⟨_, congrArg (fun z => Value.str z _) (congrArg (fun z => z ++ W c 11 b) (by decide : Str.ofString "&" ++ Str.ofString "mut " = Str.ofString "&mut "))⟩
theorem oper_asg (w : World) (n : Nat) (hW : WX w n) (N : Led) (l r : Mine.E) (a : Addr) (v v' : Value) (b : Bool) (t1 t2 t3 : Tok) (hm : (a, tup [.str (Str.ofString "assign") t1, .int 0 t2, v, v']) ∈ N) (hl : Tr N l v) (hr : Tr N r v') (hc : hgt l < n) (h6 : hgt l ≤ 6) (hc' : hgt r < n) (h6' : hgt r ≤ 6) : Does w 127 [.ref a, .bool b] (20 * n + 10) (200 * n + 140) N (WOut N (txt (.asg l r) b)) := by
  obtain ⟨v, rfl⟩ := tr_ref hl
  obtain ⟨v', rfl⟩ := tr_ref hr
  w_on
  refine' callX_plainV (R := fun rr => ∃ t, rr = Value.str (txt (.asg l r) b) t) (ml0 := [(Str.ofString "expr", .ref a), (Str.ofString "is_bare", .bool b)]) ?ho ?hcd ?hb ?hl ?hc ?h1 ?h2 ?h3 ?h4 ?_
  walk_at "bodyV"
  intro c hs hN hx0 hdp hun Kr hKr
  subst hN
  refine wpS_ok0 20 _ _ _ _ _ ?_
  repeat' (walk_at "ev")
  walk_at "fin"
  exact ⟨_, congrArg (fun z => Value.str z _) (by rw [W0]; exact rfl)⟩
theorem oper_upd (w : World) (n : Nat) (hW : WX w n) (N : Led) (j : _root_.Fin 10) (l r : Mine.E) (a : Addr) (v v' : Value) (b : Bool) (t1 t2 t3 : Tok) (hm : (a, tup [.str (Str.ofString "update") t1, .int 0 t2, .str (usg j) t3, v, v']) ∈ N) (hl : Tr N l v) (hr : Tr N r v') (hc : hgt l < n) (h6 : hgt l ≤ 6) (hc' : hgt r < n) (h6' : hgt r ≤ 6) : Does w 127 [.ref a, .bool b] (20 * n + 10) (200 * n + 140) N (WOut N (txt (.upd j l r) b)) := by
  obtain ⟨v, rfl⟩ := tr_ref hl
  obtain ⟨v', rfl⟩ := tr_ref hr
  w_on
  refine' callX_plainV (R := fun rr => ∃ t, rr = Value.str (txt (.upd j l r) b) t) (ml0 := [(Str.ofString "expr", .ref a), (Str.ofString "is_bare", .bool b)]) ?ho ?hcd ?hb ?hl ?hc ?h1 ?h2 ?h3 ?h4 ?_
  walk_at "bodyV"
  intro c hs hN hx0 hdp hun Kr hKr
  subst hN
  refine wpS_ok0 20 _ _ _ _ _ ?_
  repeat' (walk_at "ev")
  walk_at "fin"
  exact ⟨_, congrArg (fun z => Value.str z _) (by rw [W0]; exact rfl)⟩
theorem oper_bin (w : World) (n : Nat) (hW : WX w n) (N : Led) (j : _root_.Fin 18) (l r : Mine.E) (a : Addr) (v v' : Value) (b : Bool) (t1 t2 t3 : Tok) (hm : (a, tup [.str (Str.ofString "binary") t1, .int 0 t2, .str (sgn j) t3, v, v']) ∈ N) (hl : Tr N l v) (hr : Tr N r v') (hc : hgt l < n) (h6 : hgt l ≤ 6) (hc' : hgt r < n) (h6' : hgt r ≤ 6) : Does w 127 [.ref a, .bool b] (20 * n + 10) (200 * n + 140) N (WOut N (txt (.bin j l r) b)) := by
  obtain ⟨v, rfl⟩ := tr_ref hl
  obtain ⟨v', rfl⟩ := tr_ref hr
  w_on
  refine' callX_plainV (R := fun rr => ∃ t, rr = Value.str (txt (.bin j l r) b) t) (ml0 := [(Str.ofString "expr", .ref a), (Str.ofString "is_bare", .bool b)]) ?ho ?hcd ?hb ?hl ?hc ?h1 ?h2 ?h3 ?h4 ?_
  walk_at "bodyV"
  intro c hs hN hx0 hdp hun Kr hKr
  subst hN
  refine wpS_ok0 20 _ _ _ _ _ ?_
  repeat' (walk_at "ev")
  walk_at "fin"
  exact ⟨_, congrArg (fun z => Value.str z _) (by
    show _ = Sd l (blv j + if blv j = 3 then 1 else 0) b ++ Str.ofString " " ++ sgn j ++ Str.ofString " " ++ Sd r (blv j + 1) b
    simp only [beq_iff_eq])⟩
theorem oper_cast (w : World) (n : Nat) (hW : WX w n) (N : Led) (l : Mine.E) (a : Addr) (v v' : Value) (b : Bool) (t1 t2 t3 : Tok) (hm : (a, tup [.str (Str.ofString "cast") t1, .int 0 t2, v, v']) ∈ N) (hl : Tr N l v) (hr : PathV N (Str.ofString "u8") v') (hc : hgt l < n) (h6 : hgt l ≤ 6) : Does w 127 [.ref a, .bool b] (20 * n + 10) (200 * n + 140) N (WOut N (txt (.cast l) b)) := by
  w_on
  refine' callX_plainV (R := fun rr => ∃ t, rr = Value.str (txt (.cast l) b) t) (ml0 := [(Str.ofString "expr", .ref a), (Str.ofString "is_bare", .bool b)]) ?ho ?hcd ?hb ?hl ?hc ?h1 ?h2 ?h3 ?h4 ?_
  walk_at "bodyV"
  intro c hs hN hx0 hdp hun Kr hKr
  subst hN
  refine wpS_ok0 20 _ _ _ _ _ ?_
  repeat' (walk_at "ev")
  walk_at "fin"
  exact ⟨_, congrArg (fun z => Value.str z _) (by
    show _ = W l 10 b ++ Str.ofString " as u8"
    rw [Str.append_assoc]
    exact congrArg (fun z => W l 10 b ++ z) (by decide))⟩
end
-- HVJ
theorem brk_bl {v : Mine.E} {n : Int} (hn : n = 1) (h : isBlk v = true) : W v n false = (if isBlk v then par (txt v false) else txt v false) := by
  rw [if_pos h]
  exact if_pos (by rw [lv_blk h, hn]; decide)
theorem brk_nb {v : Mine.E} (h : isBlk v = false) : W v 0 false = (if isBlk v then par (txt v false) else txt v false) := by
  rw [W0, if_neg (by rw [h]; decide)]
theorem labcase {n : _root_.Fin 4} {lv : Value} (h : LabV (lbl n) lv) : (lv = .none ∧ lbB n = Str.ofString "" ∧ lbA n = Str.ofString "") ∨ ∃ x t, lv = .str x t ∧ lbB n = Str.ofString " " ++ x ∧ lbA n = x ++ Str.ofString ": " ∧ x.length ≤ 5 := by
  match n, h with
  | 0, h => cases h; exact .inl ⟨rfl, rfl, rfl⟩
  | 1, h => cases h; exact .inr ⟨_, _, rfl, rfl, rfl, by decide⟩
  | 2, h => cases h; exact .inr ⟨_, _, rfl, rfl, rfl, by decide⟩
  | 3, h => cases h; exact .inr ⟨_, _, rfl, rfl, rfl, by decide⟩
theorem brk_lab (x : Str) : Str.ofString "break " ++ x = Str.ofString "break" ++ (Str.ofString " " ++ x) := by
  rw [← Str.append_assoc]; exact congrArg (fun z => z ++ x) (by decide)
theorem jump_e (x y : Str) (h : y = Str.ofString "") : x = x ++ y := by rw [h]; exact (Str.append_empty x).symm
section
theorem jump_cont (w : World) (n : Nat) (hW : WX w n) (N : Led) (k : _root_.Fin 4) (a : Addr) (lv : Value) (hl : LabV (lbl k) lv) (t1 t2 : Tok) (hm : (a, tup [.str (Str.ofString "continue") t1, .int 0 t2, lv]) ∈ N) : Does w 149 [.ref a] (20 * n + 6) (200 * n + 60) N (WOut N (txt (.cont k) false)) := by
  w_on
  refine' callX_plainV (R := fun rr => ∃ t, rr = Value.str (txt (.cont k) false) t) (ml0 := [(Str.ofString "expr", .ref a)]) ?ho ?hcd ?hb ?hl ?hc ?h1 ?h2 ?h3 ?h4 ?_
  walk_at "bodyV"
  intro cc hs hN hx0 hdp hun Kr hKr
  subst hN
  have la := lbB_len k
  rcases labcase hl with ⟨e, e2, e3⟩ | ⟨x, t, e, e2, e3, hx⟩ <;> subst e
  · refine wpS_ok0 20 _ _ _ _ _ ?_
    repeat' (walk_at "ev")
    walk_at "fin"
    exact ⟨_, congrArg (fun z => Value.str z _) (congrArg (fun z => Str.ofString "continue" ++ z) e2.symm)⟩
  · refine wpS_ok0 20 _ _ _ _ _ ?_
    repeat' (walk_at "ev")
    walk_at "fin"
    exact ⟨_, congrArg (fun z => Value.str z _) (congrArg (fun z => Str.ofString "continue" ++ z) e2.symm)⟩
theorem jump_brk0 (w : World) (n : Nat) (hW : WX w n) (N : Led) (k : _root_.Fin 4) (a : Addr) (lv : Value) (hl : LabV (lbl k) lv) (t1 t2 : Tok) (hm : (a, tup [.str (Str.ofString "break") t1, .int 0 t2, lv, .none]) ∈ N) : Does w 149 [.ref a] (20 * n + 6) (200 * n + 60) N (WOut N (txt (.brk0 k) false)) := by
  w_on
  refine' callX_plainV (R := fun rr => ∃ t, rr = Value.str (txt (.brk0 k) false) t) (ml0 := [(Str.ofString "expr", .ref a)]) ?ho ?hcd ?hb ?hl ?hc ?h1 ?h2 ?h3 ?h4 ?_
  walk_at "bodyV"
  intro cc hs hN hx0 hdp hun Kr hKr
  subst hN
  have la := lbB_len k
  rcases labcase hl with ⟨e, e2, e3⟩ | ⟨x, t, e, e2, e3, hx⟩ <;> subst e
  · refine wpS_ok0 20 _ _ _ _ _ ?_
    repeat' (walk_at "ev")
    walk_at "fin"
    exact ⟨_, congrArg (fun z => Value.str z _) (jump_e _ _ e2)⟩
  · refine wpS_ok0 20 _ _ _ _ _ ?_
    repeat' (walk_at "ev")
    walk_at "fin"
    exact ⟨_, congrArg (fun z => Value.str z _) (by
      show _ = Str.ofString "break" ++ lbB k
      rw [e2]; exact brk_lab _)⟩
theorem jump_brk (w : World) (n : Nat) (hW : WX w n) (N : Led) (k : _root_.Fin 4) (a c : Addr) (v : Mine.E) (lv : Value) (hl : LabV (lbl k) lv) (t1 t2 : Tok) (hm : (a, tup [.str (Str.ofString "break") t1, .int 0 t2, lv, .ref c]) ∈ N) (hT : Tr N v (.ref c)) (hc : hgt v < n) (h6 : hgt v ≤ 6) : Does w 149 [.ref a] (20 * n + 6) (200 * n + 60) N (WOut N (txt (.brk k v) false)) := by
  w_on
  refine' callX_plainV (R := fun rr => ∃ t, rr = Value.str (txt (.brk k v) false) t) (ml0 := [(Str.ofString "expr", .ref a)]) ?ho ?hcd ?hb ?hl ?hc ?h1 ?h2 ?h3 ?h4 ?_
  walk_at "bodyV"
  intro cc hs hN hx0 hdp hun Kr hKr
  subst hN
  have la := lbB_len k
  rcases labcase hl with ⟨e, e2, e3⟩ | ⟨x, t, e, e2, e3, hx⟩ <;> subst e
  · refine wpS_ok0 20 _ _ _ _ _ ?_
    repeat' (walk_at "ev")
    · walk_at "fin"
      refine ⟨_, congrArg (fun z => Value.str z _) ?_⟩
      show _ = Str.ofString "break" ++ lbB k ++ Str.ofString " " ++ (if isBlk v then par (txt v false) else txt v false)
      rw [e2, ← jump_e _ (Str.ofString "") rfl, ← brk_bl rfl ((blk6 _).symm.trans (by assumption))]
    · walk_at "fin"
      refine ⟨_, congrArg (fun z => Value.str z _) ?_⟩
      show _ = Str.ofString "break" ++ lbB k ++ Str.ofString " " ++ (if isBlk v then par (txt v false) else txt v false)
      rw [e2, ← jump_e _ (Str.ofString "") rfl, ← brk_nb ((blk6 _).symm.trans (by assumption))]
  · refine wpS_ok0 20 _ _ _ _ _ ?_
    repeat' (walk_at "ev")
    · walk_at "fin"
      refine ⟨_, congrArg (fun z => Value.str z _) ?_⟩
      show _ = Str.ofString "break" ++ lbB k ++ Str.ofString " " ++ (if isBlk v then par (txt v false) else txt v false)
      rw [e2, ← Str.append_assoc (Str.ofString "break") (Str.ofString " ") x, ← brk_bl rfl ((blk6 _).symm.trans (by assumption))]
    · walk_at "fin"
      refine ⟨_, congrArg (fun z => Value.str z _) ?_⟩
      show _ = Str.ofString "break" ++ lbB k ++ Str.ofString " " ++ (if isBlk v then par (txt v false) else txt v false)
      rw [e2, ← Str.append_assoc (Str.ofString "break") (Str.ofString " ") x, ← brk_nb ((blk6 _).symm.trans (by assumption))]
theorem jump_ret (w : World) (n : Nat) (hW : WX w n) (N : Led) (a c : Addr) (v : Mine.E) (t1 t2 : Tok) (hm : (a, tup [.str (Str.ofString "return") t1, .int 0 t2, .ref c]) ∈ N) (hT : Tr N v (.ref c)) (hc : hgt v < n) (h6 : hgt v ≤ 6) : Does w 149 [.ref a] (20 * n + 6) (200 * n + 60) N (WOut N (txt (.ret v) false)) := by
  w_on
  refine' callX_plainV (R := fun rr => ∃ t, rr = Value.str (txt (.ret v) false) t) (ml0 := [(Str.ofString "expr", .ref a)]) ?ho ?hcd ?hb ?hl ?hc ?h1 ?h2 ?h3 ?h4 ?_
  walk_at "bodyV"
  intro cc hs hN hx0 hdp hun Kr hKr
  subst hN
  refine wpS_ok0 20 _ _ _ _ _ ?_
  repeat' (walk_at "ev")
  · walk_at "fin"
    refine ⟨_, congrArg (fun z => Value.str z _) ?_⟩
    show _ = Str.ofString "return " ++ (if isBlk v then par (txt v false) else txt v false)
    rw [← brk_bl rfl ((blk6 _).symm.trans (by assumption))]
    exact congrArg (fun z => z ++ _) (by decide)
  · walk_at "fin"
    refine ⟨_, congrArg (fun z => Value.str z _) ?_⟩
    show _ = Str.ofString "return " ++ (if isBlk v then par (txt v false) else txt v false)
    rw [← brk_nb ((blk6 _).symm.trans (by assumption))]
    exact congrArg (fun z => z ++ _) (by decide)
end
-- HVK
section
variable {w : World} {cs : Scope} {c : Cx w cs} {ml : Mp} {T : Led} {K : Value → Led → Prop}
theorem Ends.nmE {x : Str} {p : Pos} (h : wpE c.view ml 30 (.Name x p) T K) : Ends c (eval (.Name x p) c.env) ml T K := wpE_ok 30 _ T K h
theorem Ends.join1H {a : Addr} {n : Nat} {sep x : Str} {t u : Tok} (ha : Has c T a (seqO [.str x u] n)) (hs : sep.length ≤ 16) (hx : x.length ≤ 8000000) (h : ∀ t', K (.str x t') T) : Ends c (PySem.call (.builtin "str.join") [.str sep t, .ref a]) ml T K :=
  ⟨fun s mm Q E S q => by
    obtain ⟨S', CL, F, N, sp, cp, lk, of⟩ := S.ex
    exact Mine.join1 (n := n) N (ha.mem (X := c.ex) (S := S') (CL := CL)) hs hx fun t' k => q _ T s.heap k S (h t')⟩
end
section
theorem lay_HVK_32 : True := by
  k_with "evb" => ((fail_if_success (have zoff := off_HVK_41)); ((refine bcase_t ?_ ?_; exact rfl)))
  k_with "evl" => ((fail_if_success (have zoff := off_HVK_41)); (first
      | (with_reducible refine Ends.nmE ?_)
      | ((with_reducible refine' Ends.lenL (Has.old ?zhm) ?zhz ?_); (case zhm => assumption); (case zhz => exact Nat.le_of_ble_eq_true rfl))
      | ((with_reducible refine' Ends.join1H (Has.old ?zhm) ?zhz ?zhx ?_); (case zhm => assumption); (case zhz => decide); (case zhx => walk_at "sz1"))))
  trivial
theorem row1_does (w : World) (N : Led) (l : Addr) (n : Nat) (x : Str) (t : Tok) (hm : (l, lstn n [.str x t]) ∈ N) (hx : x.length ≤ 600000) : Does w 43 [.ref l] 4 80 N (WOut N (Str.ofString "(" ++ x ++ Str.ofString ",)")) := by
  w_on
  refine' callX_plainV (R := fun rr => ∃ t, rr = Value.str (Str.ofString "(" ++ x ++ Str.ofString ",)") t) (ml0 := [(Str.ofString "parts", .ref l)]) ?ho ?hcd ?hb ?hl ?hc ?h1 ?h2 ?h3 ?h4 ?_
  walk_at "bodyV"
  intro c hs hN hx0 hdp hun Kr hKr
  subst hN
  refine wpS_ok0 20 _ _ _ _ _ ?_
  repeat' (walk_at "ev")
  walk_at "fin"
  refine ⟨_, congrArg (fun z => Value.str z _) ?_⟩
  rw [Str.append_assoc]
  exact congrArg (fun z => Str.ofString "(" ++ x ++ z) (by decide)
end
theorem off_HVK_41 : True := trivial
section
variable {w : World} {cs : Scope} {c : Cx w cs} {ml : Mp} {T : Led} {K : Value → Led → Prop}
theorem Ends.rowC {l : Addr} {n : Nat} {x : Str} {t : Tok} (hm : (l, seqO [.str x t] n) ∈ T) (hx : x.length ≤ 600000) (hdp : c.dp + 4 < recursionLimit) (hun : c.un + 80 < cLine) (k : ∀ t, K (.str (Str.ofString "(" ++ x ++ Str.ofString ",)") t) T) : Ends c (PySem.call (.ref 43) [.ref l]) ml T K :=
  Ends.text (fun _ e _ => row1_does w _ l n x t (e _ hm) hx) hdp hun k
theorem Ends.list1C {n : Nat} {q : Addr} {x : Mine.E} {v : Value} (hW : WX w n) (hm : (q, tup [v]) ∈ c.N) (hT : Tr c.N x v) (hx : hgt x < n) (h6 : hgt x ≤ 6) (hdp : c.dp + (20 * n + 4) < recursionLimit) (hun : c.un + (200 * n + 20) < cLine) (k : ∀ t, K (.str (txt x false) t) T) : Ends c (PySem.call (.ref 132) [.ref q]) ml T K :=
  Ends.text (fun _ _ e' => list1_does w n hW _ q x v (e' _ hm) (hT.mono e') hx h6) hdp hun k
end
section
theorem lay_HVK_33 : True := by
  k_with "evo" => ((fail_if_success (have zoff := off_HVK_43)); (first
      | ((with_reducible refine' Ends.rowC ?zhm ?zhx ?zhd ?zhu ?_); (case zhm => walk_at "up"); (case zhx => walk_at "sz1"); (case zhd => walk_at "room"); (case zhu => walk_at "room"))
      | ((with_reducible refine' Ends.list1C ?zhW ?zhm ?zhT ?zhx ?zh6 ?zhd ?zhu ?_); (case zhW => assumption); (case zhm => assumption); (case zhT => assumption); (case zhx => assumption); (case zh6 => assumption); (case zhd => walk_at "room"); (case zhu => walk_at "room"))))
  trivial
theorem gath_tpl (w : World) (n : Nat) (hW : WX w n) (N : Led) (a q : Addr) (c : Mine.E) (v : Value) (t1 t2 t3 : Tok) (hm : (a, tup [.str (Str.ofString "tuple") t1, .int 0 t2, .ref q]) ∈ N) (hq : (q, tup [v]) ∈ N) (hT : Tr N c v) (hc : hgt c < n) (h6 : hgt c ≤ 6) : Does w 142 [.ref a] (20 * n + 8) (200 * n + 120) N (WOut N (txt (.tpl c) false)) := by
  w_on
  refine' callX_plainV (R := fun rr => ∃ t, rr = Value.str (txt (.tpl c) false) t) (ml0 := [(Str.ofString "expr", .ref a)]) ?ho ?hcd ?hb ?hl ?hc ?h1 ?h2 ?h3 ?h4 ?_
  walk_at "bodyV"
  intro cc hs hN hx0 hdp hun Kr hKr
  subst hN
  refine wpS_ok0 20 _ _ _ _ _ ?_
  repeat' (walk_at "ev")
  walk_at "fin"
  exact ⟨_, congrArg (fun z => Value.str z _) (by rw [W0]; exact rfl)⟩
theorem gath_arr (w : World) (n : Nat) (hW : WX w n) (N : Led) (a q : Addr) (c : Mine.E) (v : Value) (t1 t2 t3 : Tok) (hm : (a, tup [.str (Str.ofString "array") t1, .int 0 t2, .ref q]) ∈ N) (hq : (q, tup [v]) ∈ N) (hT : Tr N c v) (hc : hgt c < n) (h6 : hgt c ≤ 6) : Does w 142 [.ref a] (20 * n + 8) (200 * n + 120) N (WOut N (txt (.arr c) false)) := by
  w_on
  refine' callX_plainV (R := fun rr => ∃ t, rr = Value.str (txt (.arr c) false) t) (ml0 := [(Str.ofString "expr", .ref a)]) ?ho ?hcd ?hb ?hl ?hc ?h1 ?h2 ?h3 ?h4 ?_
  walk_at "bodyV"
  intro cc hs hN hx0 hdp hun Kr hKr
  subst hN
  refine wpS_ok0 20 _ _ _ _ _ ?_
  repeat' (walk_at "ev")
  walk_at "fin"
  exact ⟨_, congrArg (fun z => Value.str z _) (rfl)⟩
theorem gath_rep (w : World) (n : Nat) (hW : WX w n) (N : Led) (a q : Addr) (c : Mine.E) (v : Value) (t1 t2 t3 : Tok) (hm : (a, tup [.str (Str.ofString "repeat") t1, .int 0 t2, v, .int 3 t3]) ∈ N) (hT : Tr N c v) (hc : hgt c < n) (h6 : hgt c ≤ 6) : Does w 142 [.ref a] (20 * n + 8) (200 * n + 120) N (WOut N (txt (.rep c) false)) := by
  w_on
  refine' callX_plainV (R := fun rr => ∃ t, rr = Value.str (txt (.rep c) false) t) (ml0 := [(Str.ofString "expr", .ref a)]) ?ho ?hcd ?hb ?hl ?hc ?h1 ?h2 ?h3 ?h4 ?_
  walk_at "bodyV"
  intro cc hs hN hx0 hdp hun Kr hKr
  subst hN
  refine wpS_ok0 20 _ _ _ _ _ ?_
  repeat' (walk_at "ev")
  walk_at "fin"
  refine ⟨_, congrArg (fun z => Value.str z _) ?_⟩
  rw [W0, Str.append_assoc, Str.append_assoc]
  exact congrArg (fun z => Str.ofString "[" ++ txt c false ++ z) (show Str.ofString "; " ++ (Str.ofString (toString (3 : Int)) ++ Str.ofString "]") = Str.ofString "; 3]" by decide)
end
theorem off_HVK_43 : True := trivial
-- WK
theorem ArgsV.mono {N N' : Led} {k : _root_.Fin 3} {x y : Mine.E} {q : Addr} (s : ∀ p ∈ N, p ∈ N') (h : ArgsV N k x y q) : ArgsV N' k x y q := by
  cases h with
  | zero a => exact .zero (s _ a)
  | one a b => exact .one (s _ a) (b.mono s)
  | two a b c => exact .two (s _ a) (b.mono s) (c.mono s)
section
variable {prog : Program} {w : World} {A : Around} {E' : Value → Shared → Prop} {s : Shared} {h₀ : Heap} {L a : Addr} {m : Str → Option Value} {M : Led}
end
section
theorem lay_WK_34 : True := by
  k_with "my compareOp Eq str str" => ((fail_if_success (have zoff := off_WK_45)); ((k_here; (with_reducible show wpAny _ _ (compareOp CmpOp.Eq (Value.str (kind _) _) (Value.str (Str.ofString "field") _)) _ _ _); refine eq_field ?_)))
  k_with "my call builtin:len" => ((fail_if_success (have zoff := off_WK_45)); ((k_here; k_dflt (refine' len_lst ?zN ?zhm ?zhv ?_; (case zN => k_asm); (case zhm => walk_at "mine mem"); (case zhv => exact Nat.le_of_ble_eq_true rfl); k_whole))))
  k_with "my call ref" => ((fail_if_success (have zoff := off_WK_45)); ((k_here; (with_reducible show wpAny _ _ (call (Value.ref 99) _) _ _ _); k_dflt (first | (refine' Does.use (WX.c3 ?zhW ?zhT ?zhe) ?zB ?zF ?zX ?zNN ?zT ?zhk ?zhdp ?zhun ?_; (case zhW => assumption); (walk_at "mine use"); (case zhT => walk_at "mine tr"); (case zhe => first | assumption | omega)) | (refine' Does.use (WX.c2 ?zhW ?zhT ?zhe) ?zB ?zF ?zX ?zNN ?zT ?zhk ?zhdp ?zhun ?_; (case zhW => assumption); (walk_at "mine use"); (case zhT => walk_at "mine tr"); (case zhe => first | assumption | omega)) | (refine' Does.use (WX.c1 ?zhW ?zhT ?zhe) ?zB ?zF ?zX ?zNN ?zT ?zhk ?zhdp ?zhun ?_; (case zhW => assumption); (walk_at "mine use"); (case zhT => walk_at "mine tr"); (case zhe => first | assumption | omega))); intro t9 h9 tk9 F9 N9; (try dsimp only); (try k_sweep); (try k_fold))))
  k_with "my call ref" => ((fail_if_success (have zoff := off_WK_45)); ((k_here; (with_reducible show wpAny _ _ (call (Value.ref 132) _) _ _ _); k_dflt (first | (refine' Does.use (list_does _ _ ?zhW _ _ _ _ _ ?zhA ?zhx ?zh6 ?zhy ?zh7) ?zB ?zF ?zX ?zNN ?zT ?zhk ?zhdp ?zhun ?_; (case zhW => assumption); (walk_at "mine use"); (case zhA => first | assumption | (refine' ArgsV.mono ?zmtS ?zmtH; (case zmtH => assumption); (case zmtS => walk_at "mine sub"))); (case zhx => first | assumption | omega); (case zh6 => first | assumption | omega); (case zhy => first | assumption | omega); (case zh7 => first | assumption | omega)) | (refine' Does.use (list1_does _ _ ?zhW _ _ _ _ ?zhm ?zhT ?zhx ?zh6) ?zB ?zF ?zX ?zNN ?zT ?zhk ?zhdp ?zhun ?_; (case zhW => assumption); (walk_at "mine use"); (case zhm => walk_at "mine mem"); (case zhT => walk_at "mine tr"); (case zhx => first | assumption | omega); (case zh6 => first | assumption | omega))); intro t9 h9 tk9 F9 N9; (try dsimp only); (try k_sweep); (try k_fold))))
  k_with "my call ref" => ((fail_if_success (have zoff := off_WK_45)); ((k_here; (with_reducible show wpAny _ _ (call (Value.ref 25) _) _ _ _); k_dflt (first | (refine' Does.use (angles0_does _ _ _ _ ?zhm) ?zB ?zF ?zX ?zNN ?zT ?zhk ?zhdp ?zhun ?_; (walk_at "mine use"); (case zhm => walk_at "mine mem")) | (refine' Does.use (angles1_does _ _ _ _ _ ?zhm) ?zB ?zF ?zX ?zNN ?zT ?zhk ?zhdp ?zhun ?_; (walk_at "mine use"); (case zhm => walk_at "mine mem")) | (refine' Does.use (angles2_does _ _ _ _ _ _ ?zhm) ?zB ?zF ?zX ?zNN ?zT ?zhk ?zhdp ?zhun ?_; (walk_at "mine use"); (case zhm => walk_at "mine mem"))); intro t9 h9 tk9 F9 N9; (try dsimp only); (try k_sweep); (try k_fold))))
  k_with "my call ref" => ((fail_if_success (have zoff := off_WK_45)); ((k_here; (with_reducible show wpAny _ _ (call (Value.ref 36) _) _ _ _); k_dflt (first | (refine' Does.use (typeV_does _ _ _ _ ?zhq ?zhx) ?zB ?zF ?zX ?zNN ?zT ?zhk ?zhdp ?zhun ?_; (walk_at "mine use"); (case zhq => first | assumption | (refine' PathV.mono ?zmtS ?zmtH; (case zmtH => assumption); (case zmtS => walk_at "mine sub"))); (case zhx => decide)) | (refine' Does.use (typeB_does _ _ _ ?zhq) ?zB ?zF ?zX ?zNN ?zT ?zhk ?zhdp ?zhun ?_; (walk_at "mine use"); (case zhq => first | assumption | (refine' BoxV.mono ?zmtS ?zmtH; (case zmtH => assumption); (case zmtS => walk_at "mine sub"))))); intro t9 h9 tk9 F9 N9; (try dsimp only); (try k_sweep); (try k_fold))))
  k_with "my call ref" => ((fail_if_success (have zoff := off_WK_45)); ((k_here; (with_reducible show wpAny _ _ (call (Value.ref 31) _) _ _ _); k_dflt (first | (refine' Does.use (pathS_does _ _ _) ?zB ?zF ?zX ?zNN ?zT ?zhk ?zhdp ?zhun ?_; (walk_at "mine use"))); intro t9 h9 tk9 F9 N9; (try dsimp only); (try k_sweep); (try k_fold))))
  k_with "my call ref" => ((fail_if_success (have zoff := off_WK_45)); ((k_here; (with_reducible show wpAny _ _ (call (Value.ref 43) _) _ _ _); k_dflt (first | (refine' Does.use (row1_does _ _ _ _ _ _ ?zhm ?zhx) ?zB ?zF ?zX ?zNN ?zT ?zhk ?zhdp ?zhun ?_; (walk_at "mine use"); (case zhm => walk_at "mine mem"); (case zhx => walk_at "mine len8"))); intro t9 h9 tk9 F9 N9; (try dsimp only); (try k_sweep); (try k_fold))))
  k_with "my eval ListComp" => ((fail_if_success (have zoff := off_WK_45)); ((k_here; k_dflt (refine ListComp_nil (by k_asm) (by with_unfolding_all rfl) (by decide) (by rfl) (by decide) ?_))))
  k_with "my NilSrc" => ((fail_if_success (have zoff := off_WK_45)); ((k_here; k_dflt (refine' NilSrc.top ?zhh ?zF ?zN ?zX ?zhl ?_; (case zhh => rfl); (case zF => k_asm); (case zN => k_asm); (case zX => k_asm); (case zhl => k_is); intro g'))))
  trivial
theorem gath_strct (w : World) (N : Led) : Does w 142 [.ref 221] 8 120 N (WOut N (Str.ofString "P {}")) := by
  w_on
  unfold Does
  k_fill
  intro mean mg mb dp un gd cn cs a ccd cl outer A₀ base h₀ L m s Q E B F X NN T hk hdp hun hret
  walk_at "mine enter"
  k_steps
  all_goals walk_at "mine wfin"
  exact rfl
end
theorem off_WK_45 : True := trivial
-- Ev6b
section
variable {w : World} {cs : Scope} {c : Cx w cs} {ml : Mp} {T : Led} {K : Value → Led → Prop} {P : Bool → Led → Prop}
theorem Ends.cond {n : Nat} {v : Value} {e : Mine.E} (hW : WX w n) (hT : Tr c.N e v) (he : hgt e < n) (hdp : c.dp + (20 * n + 4) < recursionLimit) (hun : c.un + (200 * n + 20) < cLine) (k : ∀ t, K (.str (txt e true) t) T) : Ends c (PySem.call (.ref 156) [v]) ml T K :=
  Ends.text (fun _ _ e' => cond_does w n hW _ e v (hT.mono e') he) hdp hun k
theorem Ends.bound {n : Nat} {v : Addr} {e : Mine.E} (hW : WX w n) (hT : Tr c.N e (.ref v)) (he : hgt e < n) (hdp : c.dp + (20 * n + 8) < recursionLimit) (hun : c.un + (200 * n + 40) < cLine) (k : ∀ t, K (.str (Sd e 1 true) t) T) : Ends c (PySem.call (.ref 170) [.ref v]) ml T K :=
  Ends.text (fun _ _ e' => bound_does w n hW _ e v (hT.mono e') he) hdp hun k
theorem Ends.block (hdp : c.dp + 6 < recursionLimit) (hun : c.un + 100 < cLine) (k : ∀ t, K (.str (Str.ofString "{}") t) T) : Ends c (PySem.call (.ref 199) [.ref 215]) ml T K :=
  Ends.text (fun _ _ _ => block_does w _) hdp hun k
theorem Ends.patt {x : Addr} {t1 t2 t3 : Tok} (hm : (x, tup [.str (Str.ofString "name") t1, .int 0 t2, .str (Str.ofString "x") t3, .bool false, .bool false, .none]) ∈ c.N) (hdp : c.dp + 6 < recursionLimit) (hun : c.un + 90 < cLine) (k : ∀ t, K (.str (Str.ofString "x") t) T) : Ends c (PySem.call (.ref 48) [.ref x]) ml T K :=
  Ends.text (fun _ _ e' => pattern_does w _ x t1 t2 t3 (e' _ hm)) hdp hun k
theorem Ends.ifd {n : Nat} {a : Addr} {v : Value} {t1 t2 : Tok} (hW : WX w n) (hn : 0 < n) (hm : (a, tup [.str (Str.ofString "if") t1, .int 0 t2, v, .ref 215, .none]) ∈ c.N) (hT : Tr c.N (.name false) v) (hdp : c.dp + (20 * n + 8) < recursionLimit) (hun : c.un + (200 * n + 110) < cLine) (k : ∀ t, K (.str (Str.ofString "if a {}") t) T) : Ends c (PySem.call (.ref 177) [.ref a]) ml T K :=
  Ends.text (fun _ _ e' => if_does w n hW _ a v t1 t2 hn (e' _ hm) (hT.mono e')) hdp hun k
theorem Ends.argl {n : Nat} {q : Addr} {k : _root_.Fin 3} {x y : Mine.E} (hW : WX w n) (hA : ∀ R, Ext c.N R → ArgsV R k x y q) (hx : hgt x < n) (h6 : hgt x ≤ 6) (hy : hgt y < n) (h6' : hgt y ≤ 6) (hdp : c.dp + (20 * n + 4) < recursionLimit) (hun : c.un + (200 * n + 20) < cLine) (kk : ∀ t, K (.str (argT k (txt x false) (txt y false)) t) T) : Ends c (PySem.call (.ref 132) [.ref q]) ml T K :=
  Ends.text (fun R _ e' => list_does w n hW R q k x y (hA R e') hx h6 hy h6') hdp hun kk
theorem Ends.typB {v : Value} (hv : BoxV c.N v) (hdp : c.dp + 14 < recursionLimit) (hun : c.un + 150 < cLine) (k : ∀ t, K (.str (Str.ofString "Box<T>") t) T) : Ends c (PySem.call (.ref 36) [v]) ml T K :=
  Ends.text (fun _ _ e' => typeB_does w _ v (hv.mono e')) hdp hun k
theorem Ends.ang0 {l : Addr} {n : Nat} (hm : (l, seqO [] n) ∈ T) (hdp : c.dp + 2 < recursionLimit) (hun : c.un + 80 < cLine) (k : ∀ t, K (.str (Str.ofString "") t) T) : Ends c (PySem.call (.ref 25) [.ref l]) ml T K :=
  Ends.text (fun _ e _ => angles0_does w _ l n (e _ hm)) hdp hun k
theorem Ends.ang1 {l : Addr} {n : Nat} {t : Tok} (hm : (l, seqO [.str (Str.ofString "u8") t] n) ∈ T) (hdp : c.dp + 2 < recursionLimit) (hun : c.un + 80 < cLine) (k : ∀ t, K (.str (Str.ofString "<u8>") t) T) : Ends c (PySem.call (.ref 25) [.ref l]) ml T K :=
  Ends.text (fun _ e _ => angles1_does w _ l n t (e _ hm)) hdp hun k
theorem Ends.ang2 {l : Addr} {n : Nat} {t t' : Tok} (hm : (l, seqO [.str (Str.ofString "Box<T>") t, .str (Str.ofString "T") t'] n) ∈ T) (hdp : c.dp + 2 < recursionLimit) (hun : c.un + 80 < cLine) (k : ∀ t, K (.str (Str.ofString "<Box<T>, T>") t) T) : Ends c (PySem.call (.ref 25) [.ref l]) ml T K :=
  Ends.text (fun _ e _ => angles2_does w _ l n t t' (e _ hm)) hdp hun k
end
theorem roomsB {a b n : Nat} (h : a + (20 * n + 12) < recursionLimit + 1) (h' : b + (200 * n + 130) < cLine + 3) : (a + 6 < recursionLimit ∧ a + 20 * n < recursionLimit ∧ a + (20 * n + 4) < recursionLimit ∧ a + (20 * n + 8) < recursionLimit) ∧ b + 90 < cLine ∧ b + 100 < cLine ∧ b + 200 * n < cLine ∧ b + (200 * n + 20) < cLine ∧ b + (200 * n + 40) < cLine ∧ b + (200 * n + 110) < cLine :=
  ⟨⟨rmB h (by decide), rmA (m := 0) h (by decide), rmA h (by decide), rmA h (by decide)⟩, rmD h' (by decide), rmD h' (by decide), rmC (m := 0) h' (by decide), rmC h' (by decide), rmC h' (by decide), rmC h' (by decide)⟩
-- HM
theorem for_join (x lo z hi : Str) : x ++ (Str.ofString "for " ++ Str.ofString "x" ++ Str.ofString " in " ++ lo ++ z ++ hi) ++ Str.ofString " " ++ Str.ofString "{}" = x ++ Str.ofString "for x in " ++ (lo ++ z ++ hi) ++ Str.ofString " {}" := by
  have h1 : Str.ofString " {}" = Str.ofString " " ++ Str.ofString "{}" := by decide
  have h2 : Str.ofString "for x in " = Str.ofString "for " ++ Str.ofString "x" ++ Str.ofString " in " := by decide
  rw [h1, h2]
  simp only [Str.append_assoc]
theorem whl_join (x y : Str) : x ++ Str.ofString "while " ++ y ++ Str.ofString " " ++ Str.ofString "{}" = x ++ Str.ofString "while " ++ y ++ Str.ofString " {}" := by
  rw [Str.append_assoc _ (Str.ofString " ")]
  exact congrArg (fun z => x ++ Str.ofString "while " ++ y ++ z) (show Str.ofString " " ++ Str.ofString "{}" = Str.ofString " {}" by decide)
theorem loop_join (x : Str) : x ++ Str.ofString "loop " ++ Str.ofString "{}" = x ++ Str.ofString "loop {}" := by
  rw [Str.append_assoc]
  exact congrArg (fun z => x ++ z) (show Str.ofString "loop " ++ Str.ofString "{}" = Str.ofString "loop {}" by decide)
section
theorem bl_block (w : World) (n : Nat) (hW : WX w n) (N : Led)  : Does w 163 [.ref 215] (20 * n + 12) (200 * n + 130) N (WOut N (txt (.block) false)) := by
  w_on
  refine' callX_plainV (R := fun rr => ∃ t, rr = Value.str (txt (.block) false) t) (ml0 := [(Str.ofString "expr", .ref 215)]) ?ho ?hcd ?hb ?hl ?hc ?h1 ?h2 ?h3 ?h4 ?_
  walk_at "bodyV"
  intro c hs hN hx0 hdp hun Kr hKr
  subst hN
  obtain ⟨⟨hr1, hr2, hr3, hr4⟩, hr5, hr6, hr7, hr8, hr9, hr10⟩ := roomsB hdp hun
  refine wpS_ok0 20 _ _ _ _ _ ?_
  repeat' (walk_at "ev")
  walk_at "fin"
  exact ⟨_, rfl⟩
theorem bl_if (w : World) (n : Nat) (hW : WX w n) (N : Led) (a : Addr) (v : Value) (t1 t2 : Tok) (hn : 0 < n) (hm : (a, tup [.str (Str.ofString "if") t1, .int 0 t2, v, .ref 215, .none]) ∈ N) (hT : Tr N (.name false) v) : Does w 163 [.ref a] (20 * n + 12) (200 * n + 130) N (WOut N (txt (.ifa) false)) := by
  w_on
  refine' callX_plainV (R := fun rr => ∃ t, rr = Value.str (txt (.ifa) false) t) (ml0 := [(Str.ofString "expr", .ref a)]) ?ho ?hcd ?hb ?hl ?hc ?h1 ?h2 ?h3 ?h4 ?_
  walk_at "bodyV"
  intro c hs hN hx0 hdp hun Kr hKr
  subst hN
  obtain ⟨⟨hr1, hr2, hr3, hr4⟩, hr5, hr6, hr7, hr8, hr9, hr10⟩ := roomsB hdp hun
  refine wpS_ok0 20 _ _ _ _ _ ?_
  repeat' (walk_at "ev")
  walk_at "fin"
  exact ⟨_, rfl⟩
theorem bl_loop (w : World) (n : Nat) (hW : WX w n) (N : Led) (k : _root_.Fin 4) (a : Addr) (lv : Value) (hl : LabV (lbl k) lv) (t1 t2 : Tok) (hm : (a, tup [.str (Str.ofString "loop") t1, .int 0 t2, lv, .ref 215]) ∈ N) : Does w 163 [.ref a] (20 * n + 12) (200 * n + 130) N (WOut N (txt (.loop k) false)) := by
  w_on
  refine' callX_plainV (R := fun rr => ∃ t, rr = Value.str (txt (.loop k) false) t) (ml0 := [(Str.ofString "expr", .ref a)]) ?ho ?hcd ?hb ?hl ?hc ?h1 ?h2 ?h3 ?h4 ?_
  walk_at "bodyV"
  intro c hs hN hx0 hdp hun Kr hKr
  subst hN
  obtain ⟨⟨hr1, hr2, hr3, hr4⟩, hr5, hr6, hr7, hr8, hr9, hr10⟩ := roomsB hdp hun
  refine EndsS.step ?_
  repeat' (walk_at "ev")
  refine EndsS.step ?_
  repeat' (walk_at "ev")
  refine EndsS.step ?_
  repeat' (walk_at "ev")
  refine EndsS.step ?_
  repeat' (walk_at "ev")
  refine EndsS.cutAt (LabA k) ?_ ?_
  · have la := lbA_len k
    rcases labcase hl with ⟨e, e2, e3⟩ | ⟨x, t, e, e2, e3, hx⟩ <;> subst e
    · repeat' (walk_at "ev")
      exact ⟨_, by rw [e3], rfl⟩
    · repeat' (walk_at "ev")
      exact ⟨_, by rw [e3], rfl⟩
  rintro _ _ ⟨t, rfl, rfl⟩
  refine wpS_ok0 20 _ _ _ _ _ ?_
  repeat' (walk_at "ev")
  walk_at "fin"
  exact ⟨_, congrArg (fun z => Value.str z _) (loop_join _)⟩
theorem bl_whl (w : World) (n : Nat) (hW : WX w n) (N : Led) (k : _root_.Fin 4) (a : Addr) (lv : Value) (hl : LabV (lbl k) lv) (c : Mine.E) (v : Value) (t1 t2 : Tok) (hm : (a, tup [.str (Str.ofString "while") t1, .int 0 t2, lv, v, .ref 215]) ∈ N) (hT : Tr N c v) (hc : hgt c < n) (h6 : hgt c ≤ 6) : Does w 163 [.ref a] (20 * n + 12) (200 * n + 130) N (WOut N (txt (.whl k c) false)) := by
  w_on
  refine' callX_plainV (R := fun rr => ∃ t, rr = Value.str (txt (.whl k c) false) t) (ml0 := [(Str.ofString "expr", .ref a)]) ?ho ?hcd ?hb ?hl ?hc ?h1 ?h2 ?h3 ?h4 ?_
  walk_at "bodyV"
  intro c hs hN hx0 hdp hun Kr hKr
  subst hN
  obtain ⟨⟨hr1, hr2, hr3, hr4⟩, hr5, hr6, hr7, hr8, hr9, hr10⟩ := roomsB hdp hun
  refine EndsS.step ?_
  repeat' (walk_at "ev")
  refine EndsS.step ?_
  repeat' (walk_at "ev")
  refine EndsS.step ?_
  repeat' (walk_at "ev")
  refine EndsS.step ?_
  repeat' (walk_at "ev")
  refine EndsS.cutAt (LabA k) ?_ ?_
  · have la := lbA_len k
    rcases labcase hl with ⟨e, e2, e3⟩ | ⟨x, t, e, e2, e3, hx⟩ <;> subst e
    · repeat' (walk_at "ev")
      exact ⟨_, by rw [e3], rfl⟩
    · repeat' (walk_at "ev")
      exact ⟨_, by rw [e3], rfl⟩
  rintro _ _ ⟨t, rfl, rfl⟩
  refine wpS_ok0 20 _ _ _ _ _ ?_
  repeat' (walk_at "ev")
  walk_at "fin"
  exact ⟨_, congrArg (fun z => Value.str z _) (whl_join _ _)⟩
theorem bl_for (w : World) (n : Nat) (hW : WX w n) (N : Led) (k : _root_.Fin 4) (a : Addr) (lv : Value) (hl : LabV (lbl k) lv) (z : Bool) (l r : Mine.E) (xa : Addr) (v v' : Value) (t1 t2 t3 t4 t5 : Tok) (hm : (a, tup [.str (Str.ofString "for") t1, .int 0 t2, lv, .ref xa, v, v', .bool z, .ref 215]) ∈ N) (hxa : (xa, tup [.str (Str.ofString "name") t3, .int 0 t4, .str (Str.ofString "x") t5, .bool false, .bool false, .none]) ∈ N) (hT : Tr N l v) (hT2 : Tr N r v') (hc : hgt l < n) (h6 : hgt l ≤ 6) (hc2 : hgt r < n) (h7 : hgt r ≤ 6) : Does w 163 [.ref a] (20 * n + 12) (200 * n + 130) N (WOut N (txt (.for_ k z l r) false)) := by
  obtain ⟨va, rfl⟩ := tr_ref hT
  obtain ⟨vb, rfl⟩ := tr_ref hT2
  w_on
  refine' callX_plainV (R := fun rr => ∃ t, rr = Value.str (txt (.for_ k z l r) false) t) (ml0 := [(Str.ofString "expr", .ref a)]) ?ho ?hcd ?hb ?hl ?hc ?h1 ?h2 ?h3 ?h4 ?_
  walk_at "bodyV"
  intro c hs hN hx0 hdp hun Kr hKr
  subst hN
  obtain ⟨⟨hr1, hr2, hr3, hr4⟩, hr5, hr6, hr7, hr8, hr9, hr10⟩ := roomsB hdp hun
  refine EndsS.step ?_
  repeat' (walk_at "ev")
  refine EndsS.step ?_
  repeat' (walk_at "ev")
  refine EndsS.step ?_
  repeat' (walk_at "ev")
  refine EndsS.step ?_
  repeat' (walk_at "ev")
  refine EndsS.cutAt (LabA k) ?_ ?_
  · have la := lbA_len k
    rcases labcase hl with ⟨e, e2, e3⟩ | ⟨x, t, e, e2, e3, hx⟩ <;> subst e
    · repeat' (walk_at "ev")
      exact ⟨_, by rw [e3], rfl⟩
    · repeat' (walk_at "ev")
      exact ⟨_, by rw [e3], rfl⟩
  rintro _ _ ⟨t, rfl, rfl⟩
  cases z <;> refine wpS_ok0 20 _ _ _ _ _ ?_
  repeat' (walk_at "ev")
  · walk_at "fin"
    exact ⟨_, congrArg (fun z => Value.str z _) (for_join _ _ _ _)⟩
  · walk_at "fin"
    exact ⟨_, congrArg (fun z => Value.str z _) (for_join _ _ _ _)⟩
end
-- HB2
def bsb (f : Mine.E) (b : Bool) : Str := if isStr f then par (txt f false) else wst (lvl f) 12 (txt f false) (txt f b)
theorem bsb_s {f : Mine.E} {b : Bool} (h : (kind f == Str.ofString "struct") = true) : Str.ofString "(" ++ W f 0 false ++ Str.ofString ")" = bsb f b := by
  unfold bsb
  rw [if_pos (by rw [← kind_strct]; exact h), W0]; rfl
theorem bsb_n {f : Mine.E} {b : Bool} (h : (kind f == Str.ofString "struct") = false) : W f 12 b = bsb f b := by
  unfold bsb
  rw [if_neg (by rw [← kind_strct, h]; decide)]; rfl
theorem bsb_len {f : Mine.E} (h : hgt f ≤ 6) (b : Bool) : (bsb f b).length ≤ 500002 := by
  unfold bsb
  split
  · exact Nat.le_trans (sl_par (txt_small h _)) (Nat.le_of_ble_eq_true rfl)
  · exact W_small h _ _
theorem fin3 (j : _root_.Fin 3) : j = 0 ∨ j = 1 ∨ j = 2 := by revert j; decide
theorem meth_txt2 {f x y : Mine.E} {j k : _root_.Fin 3} {b : Bool} {X : Str} (h : X = ang j) : bsb f b ++ Str.ofString "." ++ Str.ofString "m" ++ X ++ Str.ofString "(" ++ argT k (txt x false) (txt y false) ++ Str.ofString ")" = txt (.meth j k f x y) b := by
  subst h
  rw [Str.append_assoc (bsb f b), show Str.ofString "." ++ Str.ofString "m" = Str.ofString ".m" by decide]
  rfl
def ToldB (f : Mine.E) (b : Bool) (ml : Mp) (T : Led) (ml' : Mp) (T' : Led) : Prop := ∃ t, ml' = (Str.ofString "told", .str (bsb f b) t) :: ml ∧ T' = T
def angN : _root_.Fin 3 → Str
  | 0 => Str.ofString "" | 1 => Str.ofString "<u8>" | 2 => Str.ofString "<Box<T>, T>"
def AngB (j : _root_.Fin 3) (ml : Mp) (T : Led) (ml' : Mp) (T' : Led) : Prop := ∃ t, ml' = (Str.ofString "angles", .str (angN j) t) :: ml ∧ Ext T T'
theorem roomsH {a b n : Nat} (hn : 0 < n) (h : a + (20 * n + 8) < recursionLimit + 1) (h' : b + (200 * n + 140) < cLine + 3) : (a + 2 < recursionLimit ∧ a + 8 < recursionLimit ∧ a + 14 < recursionLimit ∧ a + 20 * n < recursionLimit ∧ a + (20 * n + 4) < recursionLimit) ∧ b + 80 < cLine ∧ b + 110 < cLine ∧ b + 150 < cLine ∧ b + 200 * n < cLine ∧ b + (200 * n + 20) < cLine := by omega
section
theorem lay_HB2_35 : True := by
  k_with "evb" => ((fail_if_success (have zoff := off_HB2_47)); (first
      | (refine bcase_f ?_ ?_; exact kind_field _)
      | ((refine (?_ : CompT _ _ _ _ _ _ _ _)); (refine' CompT.mk (Has.old ?zhm) ?zhz ?_; (case zhm => assumption); (case zhz => exact Nat.le_of_ble_eq_true rfl)))
      | (refine (?_ : And (Has _ _ _ _) _); refine And.intro ?_ ?_; (refine Has.old ?_; assumption))))
  k_with "evl" => ((fail_if_success (have zoff := off_HB2_47)); (first
      | (with_reducible refine Ends.neStr ?_)
      | ((with_reducible refine Ends.compT ?_ ?_ ?_); assumption; exact rfl)))
  k_with "evo" => ((fail_if_success (have zoff := off_HB2_47)); (first
      | ((with_reducible refine' Ends.ang0 ?zhm ?zhd ?zhu ?_); (case zhm => walk_at "up"); (case zhd => walk_at "room"); (case zhu => walk_at "room"))
      | ((with_reducible refine' Ends.ang1 ?zhm ?zhd ?zhu ?_); (case zhm => walk_at "up"); (case zhd => walk_at "room"); (case zhu => walk_at "room"))
      | ((with_reducible refine' Ends.ang2 ?zhm ?zhd ?zhu ?_); (case zhm => walk_at "up"); (case zhd => walk_at "room"); (case zhu => walk_at "room"))
      | ((with_reducible refine' Ends.typB ?zhv ?zhd ?zhu ?_); (case zhv => first | assumption | (rw [eb9]; assumption)); (case zhd => walk_at "room"); (case zhu => walk_at "room"))
      | ((with_reducible refine' Ends.typV ?zhv ?zhx ?zhd ?zhu ?_); (case zhv => first | assumption | (rw [eb9]; assumption)); (case zhx => decide); (case zhd => walk_at "room"); (case zhu => walk_at "room"))))
  trivial
theorem beh_call (w : World) (n : Nat) (hW : WX w n) (N : Led) (k : _root_.Fin 3) (a fa q : Addr) (f x y : Mine.E) (b : Bool) (t1 t2 : Tok) (hm : (a, tup [.str (Str.ofString "call") t1, .int 0 t2, .ref fa, .ref q]) ∈ N) (hT : Tr N f (.ref fa)) (hA : ArgsV N k x y q) (hf : hgt f < n) (h6 : hgt f ≤ 6) (hx : hgt x < n) (h7 : hgt x ≤ 6) (hy : hgt y < n) (h8 : hgt y ≤ 6) : Does w 137 [.ref a, .bool b] (20 * n + 8) (200 * n + 140) N (WOut N (txt (.call k f x y) b)) := by
  have la : (argT k (txt x false) (txt y false)).length ≤ 1000002 := argT_len k _ _ 500000 (txt_small h7 _) (txt_small h8 _)
  w_on
  refine' callX_plainV (R := fun rr => ∃ t, rr = Value.str (txt (.call k f x y) b) t) (ml0 := [(Str.ofString "expr", .ref a), (Str.ofString "is_bare", .bool b)]) ?ho ?hcd ?hb ?hl ?hc ?h1 ?h2 ?h3 ?h4 ?_
  walk_at "bodyV"
  intro c hs hN hx0 hdp hun Kr hKr
  subst hN
  have hA' : ∀ R, Ext c.N R → ArgsV R k x y q := fun R e => hA.mono e
  obtain ⟨⟨hr1, hr2, hr3, hr4, hr4'⟩, hr5, hr6, hr7, hr8, hr9⟩ := roomsH (Nat.zero_lt_of_lt hf) hdp hun
  refine EndsS.step ?_
  repeat' (walk_at "ev")
  refine EndsS.step ?_
  repeat' (walk_at "ev")
  refine EndsS.step ?_
  repeat' (walk_at "ev")
  refine EndsS.cutAt (ToldB f b) ?_ ?_
  · repeat' (walk_at "ev")
    · exact ⟨_, by rw [← bsb_s h9], rfl⟩
    · exact ⟨_, by rw [← bsb_n h9], rfl⟩
  rintro _ _ ⟨t, rfl, rfl⟩
  have hb0 := bsb_len h6 b
  refine wpS_ok0 20 _ _ _ _ _ ?_
  repeat' (walk_at "ev")
  walk_at "fin"
  exact ⟨_, rfl⟩
theorem beh_meth (w : World) (n : Nat) (hW : WX w n) (N : Led) (j k : _root_.Fin 3) (a fa q ty : Addr) (f x y : Mine.E) (b : Bool) (t1 t2 t3 : Tok) (hv : TysV N j (.ref ty)) (hm : (a, tup [.str (Str.ofString "method") t1, .int 0 t2, .ref fa, .str (Str.ofString "m") t3, .ref ty, .ref q]) ∈ N) (hT : Tr N f (.ref fa)) (hA : ArgsV N k x y q) (hf : hgt f < n) (h6 : hgt f ≤ 6) (hx : hgt x < n) (h7 : hgt x ≤ 6) (hy : hgt y < n) (h8 : hgt y ≤ 6) : Does w 137 [.ref a, .bool b] (20 * n + 8) (200 * n + 140) N (WOut N (txt (.meth j k f x y) b)) := by
  have la : (argT k (txt x false) (txt y false)).length ≤ 1000002 := argT_len k _ _ 500000 (txt_small h7 _) (txt_small h8 _)
  w_on
  refine' callX_plainV (R := fun rr => ∃ t, rr = Value.str (txt (.meth j k f x y) b) t) (ml0 := [(Str.ofString "expr", .ref a), (Str.ofString "is_bare", .bool b)]) ?ho ?hcd ?hb ?hl ?hc ?h1 ?h2 ?h3 ?h4 ?_
  walk_at "bodyV"
  intro c hs hN hx0 hdp hun Kr hKr
  subst hN
  have hA' : ∀ R, Ext c.N R → ArgsV R k x y q := fun R e => hA.mono e
  obtain ⟨⟨hr1, hr2, hr3, hr4, hr4'⟩, hr5, hr6, hr7, hr8, hr9⟩ := roomsH (Nat.zero_lt_of_lt hf) hdp hun
  refine EndsS.step ?_
  repeat' (walk_at "ev")
  refine EndsS.step ?_
  repeat' (walk_at "ev")
  refine EndsS.step ?_
  repeat' (walk_at "ev")
  refine EndsS.cutAt (ToldB f b) ?_ ?_
  · repeat' (walk_at "ev")
    · exact ⟨_, by rw [← bsb_s h9], rfl⟩
    · exact ⟨_, by rw [← bsb_n h9], rfl⟩
  rintro _ _ ⟨t, rfl, rfl⟩
  have hb0 := bsb_len h6 b
  refine EndsS.step ?_
  repeat' (walk_at "ev")
  refine EndsS.step ?_
  repeat' (walk_at "ev")
  refine EndsS.step ?_
  repeat' (walk_at "ev")
  refine EndsS.cutAt (AngB j) ?_ ?_
  · cases hv with
    | zero p =>
      repeat' (walk_at "ev")
      refine ⟨_, rfl, ?_⟩
      intro p hp; walk_at "up"
    | one p p1 =>
      repeat' (walk_at "ev")
      refine ⟨_, rfl, ?_⟩
      intro p hp; walk_at "up"
    | two p p1 p2 =>
      repeat' (walk_at "ev")
      refine ⟨_, rfl, ?_⟩
      intro p hp; walk_at "up"
  rintro _ T2 ⟨t, rfl, e2⟩
  clear hv
  rcases fin3 j with rfl | rfl | rfl
  · refine wpS_ok0 20 _ _ _ _ _ ?_
    repeat' (walk_at "ev")
    walk_at "fin"
    exact ⟨_, congrArg (fun z => Value.str z _) (meth_txt2 (by decide))⟩
  · refine wpS_ok0 20 _ _ _ _ _ ?_
    repeat' (walk_at "ev")
    walk_at "fin"
    exact ⟨_, congrArg (fun z => Value.str z _) (meth_txt2 (by decide))⟩
  · refine wpS_ok0 20 _ _ _ _ _ ?_
    repeat' (walk_at "ev")
    walk_at "fin"
    exact ⟨_, congrArg (fun z => Value.str z _) (meth_txt2 (by decide))⟩
end
theorem off_HB2_47 : True := trivial
-- HN0
def isUn : Mine.E → Bool
  | .un .. | .bor _ => true
  | _ => false
def isOp : Mine.E → Bool
  | .bin .. | .asg .. | .upd .. | .cast _ => true
  | _ => false
def isBe : Mine.E → Bool
  | .call .. | .meth .. => true
  | _ => false
def isInt : Mine.E → Bool
  | .seven | .zero => true
  | _ => false
def isTru : Mine.E → Bool
  | .tru => true
  | _ => false
def isNm : Mine.E → Bool
  | .name _ => true
  | _ => false
theorem un_any (e : Mine.E) : ([Str.ofString "unary", Str.ofString "borrow"].any fun x => x == kind e) = isUn e := by cases e <;> exact rfl
theorem op_any (e : Mine.E) : ([Str.ofString "binary", Str.ofString "assign", Str.ofString "update", Str.ofString "cast"].any fun x => x == kind e) = isOp e := by cases e <;> exact rfl
theorem be_any (e : Mine.E) : ([Str.ofString "call", Str.ofString "method", Str.ofString "field", Str.ofString "index"].any fun x => x == kind e) = isBe e := by cases e <;> exact rfl
theorem int_any (e : Mine.E) : (kind e == Str.ofString "int") = isInt e := by cases e <;> exact rfl
theorem tru_any (e : Mine.E) : (kind e == Str.ofString "bool") = isTru e := by cases e <;> exact rfl
theorem nm_any (e : Mine.E) : (kind e == Str.ofString "path") = isNm e := by cases e <;> exact rfl
theorem Does.up {w : World} {f : Addr} {vs : List Value} {nd nu nd' nu' : Nat} {N : Led} {Out : Addr → Led → Value → Prop} (D : Does w f vs nd nu N Out) (h1 : nd ≤ nd') (h2 : nu ≤ nu') : Does w f vs nd' nu' N Out := by
  intro mean mg mb dp un gd cn cs a ccd cl outer A₀ base h₀ L m s Q E B F X NN T hk hdp hun hret
  exact D mean mg mb dp un gd cn cs a ccd cl outer A₀ base h₀ L m s Q E B F X NN T hk (by omega) (by omega) hret
/-- which def tells a tree -/
def cls : Mine.E → Nat
  | .block | .ifa | .loop _ | .whl .. | .for_ .. => 1
  | .cont _ | .brk0 _ | .brk .. | .ret _ => 2
  | .un .. | .bor _ => 3
  | .bin .. | .asg .. | .upd .. | .cast _ => 4
  | .call .. | .meth .. => 5
  | .tpl _ | .arr _ | .rep _ | .strct => 6
  | .seven | .zero => 7
  | .tru => 8
  | .name _ => 9
inductive IntV : Int → Value → Str → Prop where
  | seven : IntV 7 .none (Str.ofString "7")
  | zero (t : Tok) : IntV 0 (.str (Str.ofString "i64") t) (Str.ofString "0i64")
def ToldBy (w : World) (n : Nat) (N : Led) (e : Mine.E) (v : Value) : Nat → Prop
  | 1 => Does w 163 [v] (20 * n + 12) (200 * n + 130) N (WOut N (txt e false))
  | 2 => Does w 149 [v] (20 * n + 6) (200 * n + 60) N (WOut N (txt e false))
  | 3 => ∀ b, Does w 113 [v, .bool b] (20 * n + 8) (200 * n + 100) N (WOut N (txt e b))
  | 4 => ∀ b, Does w 127 [v, .bool b] (20 * n + 10) (200 * n + 140) N (WOut N (txt e b))
  | 5 => ∀ b, Does w 137 [v, .bool b] (20 * n + 8) (200 * n + 140) N (WOut N (txt e b))
  | 6 => Does w 142 [v] (20 * n + 8) (200 * n + 120) N (WOut N (txt e false))
  | 7 => ∃ a t1 t2 t3 x v4 z, v = .ref a ∧ (a, tup [.str (Str.ofString "int") t1, .int 0 t2, .int x t3, v4]) ∈ N ∧ IntV x v4 z ∧ ∀ b, txt e b = z
  | 8 => ∃ a t1 t2, v = .ref a ∧ (a, tup [.str (Str.ofString "bool") t1, .int 0 t2, .bool true]) ∈ N ∧ ∀ b, txt e b = Str.ofString "true"
  | 9 => ∃ x, PathV N x v ∧ x.length ≤ 100 ∧ ∀ b, txt e b = x
  | _ => True
/-- lower -/
structure Lw (n : Nat) (e : Mine.E) : Prop where
  a : hgt e < n
  b : hgt e ≤ 6
theorem lw1 {n x : Nat} {e : Mine.E} (h : hgt e + 1 ≤ n) (h6 : hgt e + 1 ≤ 6) : Lw n e := ⟨by omega, by omega⟩
theorem lw2 {n : Nat} {l r : Mine.E} (h : max (hgt l) (hgt r) + 1 ≤ n) (h6 : max (hgt l) (hgt r) + 1 ≤ 6) : Lw n l ∧ Lw n r := ⟨⟨by omega, by omega⟩, by omega, by omega⟩
theorem lw3 {n : Nat} {f x y : Mine.E} (h : max (hgt f) (max (hgt x) (hgt y)) + 1 ≤ n) (h6 : max (hgt f) (max (hgt x) (hgt y)) + 1 ≤ 6) : Lw n f ∧ Lw n x ∧ Lw n y := ⟨⟨by omega, by omega⟩, ⟨by omega, by omega⟩, by omega, by omega⟩
theorem call_told {w : World} {n : Nat} (hW : WX w n) {N : Led} {k : _root_.Fin 3} {a fa q : Addr} {f x y : Mine.E} {t1 t2 : Tok} (hm : (a, tup [.str (Str.ofString "call") t1, .int 0 t2, .ref fa, .ref q]) ∈ N) (hT : Tr N f (.ref fa)) (hA : ArgsV N k x y q) (he : hgt (.call k f x y) ≤ n) (h6 : hgt (.call k f x y) ≤ 6) : ToldBy w n N (.call k f x y) (.ref a) 5 := fun b => by
  obtain ⟨u, v, z⟩ := lw3 (n := n) (f := f) (x := x) (y := y) he h6
  exact beh_call w n hW N k a fa q f x y b _ _ hm hT hA u.a u.b v.a v.b z.a z.b
theorem meth_told {w : World} {n : Nat} (hW : WX w n) {N : Led} {j k : _root_.Fin 3} {a fa q ty : Addr} {f x y : Mine.E} {t1 t2 t3 : Tok} (hm : (a, tup [.str (Str.ofString "method") t1, .int 0 t2, .ref fa, .str (Str.ofString "m") t3, .ref ty, .ref q]) ∈ N) (hv : TysV N j (.ref ty)) (hA : ArgsV N k x y q) (hT : Tr N f (.ref fa)) (he : hgt (.meth j k f x y) ≤ n) (h6 : hgt (.meth j k f x y) ≤ 6) : ToldBy w n N (.meth j k f x y) (.ref a) 5 := fun b => by
  obtain ⟨u, v, z⟩ := lw3 (n := n) (f := f) (x := x) (y := y) he h6
  exact beh_meth w n hW N j k a fa q ty f x y b _ _ _ hv hm hT hA u.a u.b v.a v.b z.a z.b
theorem told_by {N : Led} {e : Mine.E} {v : Value} (T : Tr N e v) (w : World) (n : Nat) (hW : WX w n) (he : hgt e ≤ n) (h6 : hgt e ≤ 6) : ToldBy w n N e v (cls e) := by
  cases T with
  | block => exact bl_block w n hW N
  | ifa a b => exact bl_if w n hW N _ _ _ _ (Nat.lt_of_lt_of_le (by decide) he) a b
  | loop a b => exact bl_loop w n hW N _ _ _ b _ _ a
  | whl a b c => have z := lw1 (x := 0) he h6; exact bl_whl w n hW N _ _ _ b _ _ _ _ a c z.a z.b
  | for_ a b c d e => obtain ⟨u, v⟩ := lw2 he h6; exact bl_for w n hW N _ _ _ b _ _ _ _ _ _ _ _ _ _ _ a c d e u.a u.b v.a v.b
  | cont a b => exact jump_cont w n hW N _ _ _ b _ _ a
  | brk0 a b => exact jump_brk0 w n hW N _ _ _ b _ _ a
  | brk a b c => have z := lw1 (x := 0) he h6; exact jump_brk w n hW N _ _ _ _ _ b _ _ a c z.a z.b
  | ret a c => have z := lw1 (x := 0) he h6; exact jump_ret w n hW N _ _ _ _ _ a c z.a z.b
  | un a c => have z := lw1 (x := 0) he h6; exact fun b => ahead_un w n hW N _ _ _ _ b _ _ _ a c z.a z.b
  | bor a c => have z := lw1 (x := 0) he h6; exact fun b => ahead_bor w n hW N _ _ _ b _ _ a c z.a z.b
  | bin a c d => obtain ⟨u, v⟩ := lw2 he h6; exact fun b => oper_bin w n hW N _ _ _ _ _ _ b _ _ _ a c d u.a u.b v.a v.b
  | asg a c d => obtain ⟨u, v⟩ := lw2 he h6; exact fun b => oper_asg w n hW N _ _ _ _ _ b _ _ 0 a c d u.a u.b v.a v.b
  | upd a c d => obtain ⟨u, v⟩ := lw2 he h6; exact fun b => oper_upd w n hW N _ _ _ _ _ _ b _ _ _ a c d u.a u.b v.a v.b
  | cast a c d => have z := lw1 (x := 0) he h6; exact fun b => oper_cast w n hW N _ _ _ _ b _ _ 0 a c d z.a z.b
  | call0 a c f => exact call_told hW a f (.zero c) he h6
  | call1 a c f x => exact call_told hW a f (.one c x) he h6
  | call2 a c f x y => exact call_told hW a f (.two c x y) he h6
  | meth0 a t c f => exact meth_told hW a t (.zero c) f he h6
  | meth1 a t c f x => exact meth_told hW a t (.one c x) f he h6
  | meth2 a t c f x y => exact meth_told hW a t (.two c x y) f he h6
  | tpl a c d => have z := lw1 (x := 0) he h6; exact gath_tpl w n hW N _ _ _ _ _ _ 0 a c d z.a z.b
  | arr a c d => have z := lw1 (x := 0) he h6; exact gath_arr w n hW N _ _ _ _ _ _ 0 a c d z.a z.b
  | rep a d => have z := lw1 (x := 0) he h6; exact gath_rep w n hW N _ 0 _ _ _ _ _ a d z.a z.b
  | strct => exact (gath_strct w N).up (by omega) (by omega)
  | seven a => exact ⟨_, _, _, _, _, _, _, rfl, a, .seven, fun _ => rfl⟩
  | zero a => exact ⟨_, _, _, _, _, _, _, rfl, a, .zero _, fun _ => rfl⟩
  | tru a => exact ⟨_, _, _, rfl, a, fun _ => rfl⟩
  | @name bb _ a => exact ⟨_, a, Nat.le_trans (nm_len bb) (by decide), fun _ => rfl⟩
theorem cls_blk {e : Mine.E} (h : isBlk e = true) : cls e = 1 := by cases e <;> first | rfl | exact Bool.noConfusion h
theorem cls_jmp {e : Mine.E} (h : isJmp e = true) : cls e = 2 := by cases e <;> first | rfl | exact Bool.noConfusion h
theorem cls_un {e : Mine.E} (h : isUn e = true) : cls e = 3 := by cases e <;> first | rfl | exact Bool.noConfusion h
theorem cls_op {e : Mine.E} (h : isOp e = true) : cls e = 4 := by cases e <;> first | rfl | exact Bool.noConfusion h
theorem cls_be {e : Mine.E} (h : isBe e = true) : cls e = 5 := by cases e <;> first | rfl | exact Bool.noConfusion h
theorem cls_int {e : Mine.E} (h : isInt e = true) : cls e = 7 := by cases e <;> first | rfl | exact Bool.noConfusion h
theorem cls_tru {e : Mine.E} (h : isTru e = true) : cls e = 8 := by cases e <;> first | rfl | exact Bool.noConfusion h
theorem cls_nm {e : Mine.E} (h : isNm e = true) : cls e = 9 := by cases e <;> first | rfl | exact Bool.noConfusion h
theorem cls_ga {e : Mine.E} (h1 : isInt e = false) (h2 : isTru e = false) (h3 : isNm e = false) (h4 : isUn e = false) (h5 : isOp e = false) (h7 : isBe e = false) (h8 : isBlk e = false) (h9 : isJmp e = false) : cls e = 6 := by
  cases e <;> first | rfl | exact Bool.noConfusion h1 | exact Bool.noConfusion h2 | exact Bool.noConfusion h3 | exact Bool.noConfusion h4 | exact Bool.noConfusion h5 | exact Bool.noConfusion h7 | exact Bool.noConfusion h8 | exact Bool.noConfusion h9
theorem txt_same {e : Mine.E} (b : Bool) (h : b = true → opn e = false) (ho : opn e = true) : txt e false = txt e b := by
  cases b
  · rfl
  · rw [h rfl] at ho; cases ho
theorem txt_flat {e : Mine.E} (b : Bool) (h : b = true → opn e = false)
    (h1 : isInt e = false) (h2 : isTru e = false) (h3 : isNm e = false) (h4 : isUn e = false)
    (h5 : isOp e = false) (h7 : isBe e = false) : txt e false = txt e b := by
  cases b
  · rfl
  · cases e <;> first | (exact Bool.noConfusion (h rfl)) | (exact Bool.noConfusion h1) | (exact Bool.noConfusion h2) | (exact Bool.noConfusion h3) | (exact Bool.noConfusion h4) | (exact Bool.noConfusion h5) | (exact Bool.noConfusion h7) | rfl
-- HN
theorem roomsW {a b n : Nat} (h : a + (20 * n + 16) < recursionLimit + 1) (h' : b + (200 * n + 160) < cLine + 3) : (a + 2 < recursionLimit ∧ a + 6 < recursionLimit ∧ a + (20 * n + 6) < recursionLimit ∧ a + (20 * n + 8) < recursionLimit ∧ a + (20 * n + 10) < recursionLimit ∧ a + (20 * n + 12) < recursionLimit) ∧ b + 8 < cLine ∧ b + 100 < cLine ∧ b + (200 * n + 60) < cLine ∧ b + (200 * n + 100) < cLine ∧ b + (200 * n + 120) < cLine ∧ b + (200 * n + 130) < cLine ∧ b + (200 * n + 140) < cLine :=
  ⟨⟨rmB h (by decide), rmB h (by decide), rmA h (by decide), rmA h (by decide), rmA h (by decide), rmA h (by decide)⟩, rmD h' (by decide), rmD h' (by decide), rmC h' (by decide), rmC h' (by decide), rmC h' (by decide), rmC h' (by decide), rmC h' (by decide)⟩
section
variable {w : World} {cs : Scope} {c : Cx w cs} {ml : Mp} {T : Led} {K : Value → Led → Prop} {n : Nat} {v : Value} {e : Mine.E} {b : Bool}
theorem ToldBy.at {k : Nat} (hW : WX w n) (hT : Tr c.N e v) (he : hgt e ≤ n) (h6 : hgt e ≤ 6) (hk : cls e = k) (R : Led) (x : Ext c.N R) : ToldBy w n R e v k := hk ▸ told_by (hT.mono x) w n hW he h6
theorem Ends.byUn (hW : WX w n) (hT : Tr c.N e v) (he : hgt e ≤ n) (h6 : hgt e ≤ 6) (hk : cls e = 3) (hdp : c.dp + (20 * n + 8) < recursionLimit) (hun : c.un + (200 * n + 100) < cLine) (k : ∀ t, K (.str (txt e b) t) T) : Ends c (PySem.call (.ref 113) [v, .bool b]) ml T K := Ends.text (fun R _ x => ToldBy.at hW hT he h6 hk R x b) hdp hun k
theorem Ends.byOp (hW : WX w n) (hT : Tr c.N e v) (he : hgt e ≤ n) (h6 : hgt e ≤ 6) (hk : cls e = 4) (hdp : c.dp + (20 * n + 10) < recursionLimit) (hun : c.un + (200 * n + 140) < cLine) (k : ∀ t, K (.str (txt e b) t) T) : Ends c (PySem.call (.ref 127) [v, .bool b]) ml T K := Ends.text (fun R _ x => ToldBy.at hW hT he h6 hk R x b) hdp hun k
theorem Ends.byBe (hW : WX w n) (hT : Tr c.N e v) (he : hgt e ≤ n) (h6 : hgt e ≤ 6) (hk : cls e = 5) (hdp : c.dp + (20 * n + 8) < recursionLimit) (hun : c.un + (200 * n + 140) < cLine) (k : ∀ t, K (.str (txt e b) t) T) : Ends c (PySem.call (.ref 137) [v, .bool b]) ml T K := Ends.text (fun R _ x => ToldBy.at hW hT he h6 hk R x b) hdp hun k
theorem Ends.byBl (hW : WX w n) (hT : Tr c.N e v) (he : hgt e ≤ n) (h6 : hgt e ≤ 6) (hk : cls e = 1) (hdp : c.dp + (20 * n + 12) < recursionLimit) (hun : c.un + (200 * n + 130) < cLine) (k : ∀ t, K (.str (txt e false) t) T) : Ends c (PySem.call (.ref 163) [v]) ml T K := Ends.text (fun R _ x => ToldBy.at hW hT he h6 hk R x) hdp hun k
theorem Ends.byJm (hW : WX w n) (hT : Tr c.N e v) (he : hgt e ≤ n) (h6 : hgt e ≤ 6) (hk : cls e = 2) (hdp : c.dp + (20 * n + 6) < recursionLimit) (hun : c.un + (200 * n + 60) < cLine) (k : ∀ t, K (.str (txt e false) t) T) : Ends c (PySem.call (.ref 149) [v]) ml T K := Ends.text (fun R _ x => ToldBy.at hW hT he h6 hk R x) hdp hun k
theorem Ends.byGa (hW : WX w n) (hT : Tr c.N e v) (he : hgt e ≤ n) (h6 : hgt e ≤ 6) (hk : cls e = 6) (hdp : c.dp + (20 * n + 8) < recursionLimit) (hun : c.un + (200 * n + 120) < cLine) (k : ∀ t, K (.str (txt e false) t) T) : Ends c (PySem.call (.ref 142) [v]) ml T K := Ends.text (fun R _ x => ToldBy.at hW hT he h6 hk R x) hdp hun k
theorem Ends.lit (hdp : c.dp + 2 < recursionLimit) (hun : c.un + 8 < cLine) (k : ∀ t, K (.str (Str.ofString "true") t) T) : Ends c (PySem.call (.ref 67) [.bool true]) ml T K := Ends.text (fun _ _ _ => literal_does w _) hdp hun k
theorem Ends.pathT {q : Addr} {x y : Str} {t : Tok} (hq : PathQ c.N x q) (hx : x.length ≤ 100) (hdp : c.dp + 6 < recursionLimit) (hun : c.un + 100 < cLine) (k : ∀ t, K (.str x t) T) : Ends c (PySem.call (.ref 31) [.ref q, .str y t]) ml T K :=
  Ends.text (fun R _ e' => path2_does w R q x (hq.mono e') hx y t) hdp hun k
end
section
theorem lay_HN_36 : True := by
  k_with "evo" => ((fail_if_success (have zoff := off_HN_49)); (first
      | ((with_reducible refine' Ends.byUn ?zhW ?zhT ?zhe ?zh6 ?zhk ?zhd ?zhu ?_); (case zhW => assumption); (case zhT => assumption); (case zhe => assumption); (case zh6 => assumption); (case zhk => exact cls_un ((un_any _).symm.trans (by assumption))); (case zhd => assumption); (case zhu => assumption))
      | ((with_reducible refine' Ends.byOp ?zhW ?zhT ?zhe ?zh6 ?zhk ?zhd ?zhu ?_); (case zhW => assumption); (case zhT => assumption); (case zhe => assumption); (case zh6 => assumption); (case zhk => exact cls_op ((op_any _).symm.trans (by assumption))); (case zhd => assumption); (case zhu => assumption))
      | ((with_reducible refine' Ends.byBe ?zhW ?zhT ?zhe ?zh6 ?zhk ?zhd ?zhu ?_); (case zhW => assumption); (case zhT => assumption); (case zhe => assumption); (case zh6 => assumption); (case zhk => exact cls_be ((be_any _).symm.trans (by assumption))); (case zhd => assumption); (case zhu => assumption))
      | ((with_reducible refine' Ends.byBl ?zhW ?zhT ?zhe ?zh6 ?zhk ?zhd ?zhu ?_); (case zhW => assumption); (case zhT => assumption); (case zhe => assumption); (case zh6 => assumption); (case zhk => exact cls_blk ((blk6 _).symm.trans (by assumption))); (case zhd => assumption); (case zhu => assumption))
      | ((with_reducible refine' Ends.byJm ?zhW ?zhT ?zhe ?zh6 ?zhk ?zhd ?zhu ?_); (case zhW => assumption); (case zhT => assumption); (case zhe => assumption); (case zh6 => assumption); (case zhk => exact cls_jmp ((jmp3 _).symm.trans (by assumption))); (case zhd => assumption); (case zhu => assumption))
      | ((with_reducible refine' Ends.byGa ?zhW ?zhT ?zhe ?zh6 ?zhk ?zhd ?zhu ?_); (case zhW => assumption); (case zhT => assumption); (case zhe => assumption); (case zh6 => assumption); (case zhk => exact cls_ga ((int_any _).symm.trans (by assumption)) ((tru_any _).symm.trans (by assumption)) ((nm_any _).symm.trans (by assumption)) ((un_any _).symm.trans (by assumption)) ((op_any _).symm.trans (by assumption)) ((be_any _).symm.trans (by assumption)) ((blk6 _).symm.trans (by assumption)) ((jmp3 _).symm.trans (by assumption))); (case zhd => assumption); (case zhu => assumption))
      | ((with_reducible refine Ends.lit ?_ ?_ ?_); assumption; assumption)
      | ((with_reducible refine' Ends.pathT ?zhq ?zhx ?zhd ?zhu ?_); (case zhq => assumption); (case zhx => assumption); (case zhd => assumption); (case zhu => assumption))))
  trivial
theorem written_does (w : World) (n : Nat) (hW : WX w n) (h6 : n ≤ 6) : WG w n := by
  intro N e v0 b he T9 hb
  have h6' : hgt e ≤ 6 := by omega
  obtain ⟨v, rfl⟩ := tr_ref T9
  w_on
  refine' callX_plainV (R := fun rr => ∃ t, rr = Value.str (txt e b) t) (ml0 := [(Str.ofString "expr", .ref v), (Str.ofString "is_bare", .bool b)]) ?ho ?hcd ?hb ?hl ?hc ?h1 ?h2 ?h3 ?h4 ?_
  walk_at "bodyV"
  intro c hs hN hx0 hdp hun Kr hKr
  subst hN
  obtain ⟨⟨hr1, hr2, hr3, hr4, hr5, hr6⟩, hu1, hu2, hu3, hu4, hu5, hu6, hu7⟩ := roomsW hdp hun
  refine wpS_ok0 20 _ _ _ _ _ ?_
  repeat' (walk_at "ev")
  · obtain ⟨a, t1, t2, t3, x, v4, z, hv, hm, hi, hz⟩ := ToldBy.at hW T9 he h6' (cls_int ((int_any _).symm.trans h9)) _ (fun _ h => h)
    cases hv
    cases hi with
    | seven =>
      repeat' (walk_at "ev")
      walk_at "fin"
      exact ⟨_, congrArg (fun z => Value.str z _) ((show Str.ofString (toString (7 : Int)) ++ Str.ofString "" = Str.ofString "7" by decide).trans (hz b).symm)⟩
    | zero =>
      repeat' (walk_at "ev")
      walk_at "fin"
      exact ⟨_, congrArg (fun z => Value.str z _) ((show Str.ofString (toString (0 : Int)) ++ Str.ofString "i64" = Str.ofString "0i64" by decide).trans (hz b).symm)⟩
  · obtain ⟨a, t1, t2, hv, hm, hz⟩ := ToldBy.at hW T9 he h6' (cls_tru ((tru_any _).symm.trans h9)) _ (fun _ h => h)
    cases hv
    repeat' (walk_at "ev")
    walk_at "fin"
    exact ⟨_, congrArg (fun z => Value.str z _) (hz b).symm⟩
  · obtain ⟨x, ⟨hm, hq⟩, hx, hz⟩ := ToldBy.at hW T9 he h6' (cls_nm ((nm_any _).symm.trans h9)) _ (fun _ h => h)
    repeat' (walk_at "ev")
    walk_at "fin"
    exact ⟨_, congrArg (fun z => Value.str z _) (hz b).symm⟩
  · walk_at "fin"; exact ⟨_, rfl⟩
  · walk_at "fin"; exact ⟨_, rfl⟩
  · walk_at "fin"; exact ⟨_, rfl⟩
  · walk_at "fin"; exact ⟨_, congrArg (fun z => Value.str z _) (txt_same _ hb (opn_b (by assumption)))⟩
  · walk_at "fin"; exact ⟨_, congrArg (fun z => Value.str z _) (txt_same _ hb (opn_j (by assumption)))⟩
  · walk_at "fin"; exact ⟨_, congrArg (fun z => Value.str z _) (txt_flat _ hb ((int_any _).symm.trans (by assumption)) ((tru_any _).symm.trans (by assumption)) ((nm_any _).symm.trans (by assumption)) ((un_any _).symm.trans (by assumption)) ((op_any _).symm.trans (by assumption)) ((be_any _).symm.trans (by assumption)))⟩
end
theorem off_HN_49 : True := trivial
theorem all_write (w : World) : ∀ n : Nat, n ≤ 7 → WX w n := by
  intro n
  induction n with
  | zero => exact fun _ N e v h => absurd h (Nat.not_lt_zero _)
  | succ k ih => exact fun h => WX.step (written_does w k (ih (by omega)) (by omega)) (by omega)
-- LA
section
variable {w : World} {f : Addr} {vs : List Value} {nd nu : Nat} {N M : Led} {mean : ExcName → Option Value} {mg mb : Str → Option Value} {dp un : Nat} {gd : Option (List Code)} {cn : Str} {cs : Scope} {a : Addr} {ccd : Value} {cl : List (Str × Addr)} {outer : List Env} {A₀ : Around} {base h₀ h' : Heap} {L : Addr} {m : Str → Option Value} {s : Shared} {tk' : Nat}
    {Q E : Value → Shared → Prop}
theorem Does.useB {x : Bool} (D : Does w f vs nd nu N (BOut N x)) (B : Below A₀ base outer h₀) (F : Fr h₀ L s.heap m) (X : (pre.heap_1_39 w.params).In h₀) (NN : News h₀ L s.heap N) (T : Top pre.view_1_40 LL mean mg mb h₀) (hk : cs.kind = .function) (hdp : dp + nd < recursionLimit) (hun : un + nu < cLine)
    (ret : ∀ h' tk', Fr h₀ L h' m → News h₀ L h' N → Q (.bool x) { s with heap := h', toks := tk' }) :
    wpAny (model PySem.Challenge.rw_sy0034_01.row.prog w) (ktrTop dp un gd cn cs L a ccd cl outer) (call (.ref f) vs) Q E s :=
  D _ _ _ _ _ _ _ _ _ _ _ _ _ _ _ _ _ _ _ _ B F X NN T hk hdp hun fun r N' h' tk' F' N9 o => by
    obtain ⟨rfl, rfl⟩ := o
    exact ret h' tk' F' N9
theorem bfin {x y : Bool} (hret : ∀ r N' h' tk', Fr h₀ L h' m → News h₀ L h' N' → BOut N x L N' r → Q r { s with heap := h', toks := tk' })
    (F : Fr h₀ L h' m) (NM : News h₀ L h' M) (sb : ∀ p ∈ N, p ∈ M) (e : y = x) : Q (.bool y) { s with heap := h', toks := tk' } := by
  subst e
  exact hret _ _ _ _ F (news_sub sb NM) ⟨rfl, rfl⟩
end
section
variable {prog : Program} {w : World} {A : Around} {E' : Value → Shared → Prop} {s : Shared} {x y : Str} {t u : Tok} {Q : Value → Shared → Prop}
theorem ne_texts (e : x = y) (h : Q (.bool false) s) : wpAny (model prog w) A (compareOp .NotEq (.str x t) (.str y u)) Q E' s := ne_str (by rw [e, bne_self_eq_false]; exact h)
theorem eq_texts (e : x = y) (h : Q (.bool true) s) : wpAny (model prog w) A (compareOp .Eq (.str x t) (.str y u)) Q E' s := eq_str (by rw [e, beq_self_eq_true]; exact h)
end
theorem W12_eq {e : Mine.E} (h : lvl e = 12) : W e 12 false = txt e false := (W_ge (by omega)).symm
theorem W12_ne {e : Mine.E} (h : lvl e ≠ 12) : W e 12 false = par (txt e false) := (W_lt (by have := lvl_le e; omega)).symm
section
theorem lay_LA_37 : True := by
  k_with "my call ref" => ((fail_if_success (have zoff := off_LA_52)); ((k_here; (with_reducible show wpAny _ _ (call (Value.ref 99) _) _ _ _); k_dflt (first | (refine' Does.use (WX.c3 ?zhW ?zhT ?zhe) ?zB ?zF ?zX ?zNN ?zT ?zhk ?zhdp ?zhun ?_; (case zhW => assumption); (walk_at "mine use"); (case zhT => walk_at "mine tr"); (case zhe => first | assumption | omega)) | (refine' Does.use (WX.c2 ?zhW ?zhT ?zhe) ?zB ?zF ?zX ?zNN ?zT ?zhk ?zhdp ?zhun ?_; (case zhW => assumption); (walk_at "mine use"); (case zhT => walk_at "mine tr"); (case zhe => first | assumption | omega)) | (refine' Does.use (WX.c1 ?zhW ?zhT ?zhe) ?zB ?zF ?zX ?zNN ?zT ?zhk ?zhdp ?zhun ?_; (case zhW => assumption); (walk_at "mine use"); (case zhT => walk_at "mine tr"); (case zhe => first | assumption | omega))); intro t9 h9 tk9 F9 N9; (try dsimp only); (try k_sweep); (try k_fold))))
  k_with "mine ifin" => ((fail_if_success (have zoff := off_LA_52)); ((refine' bfin ?zgH ?zgF ?zgN ?zgsb ?_; (case zgH => assumption); (case zgF => k_asm); (case zgN => k_asm); (case zgsb => walk_at "mine sub"))))
  k_with "mine tr" => ((fail_if_success (have zoff := off_LA_52)); ((refine' Tr.whl (n := 3) ?za LabV.some ?zc; (case za => walk_at "mine mem"); (case zc => first | assumption | (refine' Tr.mono ?zmtS ?zmtH; (case zmtH => assumption); (case zmtS => walk_at "mine sub"))))))
  k_with "mine same" => ((fail_if_success (have zoff := off_LA_52)); (first | exact W0 _ _ | exact whl3 _ | exact W12_eq (by assumption) | exact W12_ne (by assumption)))
  k_with "my compareOp NotEq str str" => ((fail_if_success (have zoff := off_LA_52)); ((k_here; k_dflt (refine' ne_texts ?ze ?_; (case ze => walk_at "mine same"); k_whole))))
  k_with "my compareOp Eq str str" => ((fail_if_success (have zoff := off_LA_52)); ((k_here; k_dflt (refine' eq_texts ?ze ?_; (case ze => walk_at "mine same"); k_whole))))
  trivial
theorem right_does (w : World) (hW : WX w 7) (N : Led) (p v : Addr) (e : Mine.E) (tx ty tk : Tok) (hm : (p, tup [.ref v, .str (txt e false) tx, .str (txt e true) ty, .int (lvl e) tk]) ∈ N) (hT : Tr N e (.ref v)) (hc : hgt e ≤ 5) : Does w 335 [.ref p] 150 1600 N (BOut N true) := by
  have h6 : hgt e ≤ 6 := by omega
  have h7 : hgt (Mine.E.whl 3 e) < 7 := by simp only [hgt]; omega
  w_on
  unfold Does
  k_fill
  intro mean mg mb dp un gd cn cs a ccd cl outer A₀ base h₀ L m s Q E B F X NN T hk hdp hun hret
  walk_at "mine enter"
  k_steps
  all_goals walk_at "mine ifin"
  all_goals exact rfl
end
theorem off_LA_52 : True := trivial
-- LC
theorem ne_fresh {N M : Led} {c : Addr} {o : Obj} (f : Fresh N M) (hm : (c, o) ∈ N) : ∀ p ∈ M, @Ne Nat p.1 c := fun p hp => Nat.ne_of_gt (f _ hm p hp)
theorem unr_endR {h₀ h' : Heap} {L I : Addr} {it : Obj} {rest : (Str → Option Value) → Led → Prop} {s₁ : Shared} {tk : Nat} {m' : Str → Option Value} {M R : Led} (F : Fr h₀ L h' m') (N : News h₀ L h' M) (hI : (I, it) ∈ M) (kp : Keep I M R) (r : rest m' R) : UnrEnd h₀ L s₁ I it rest { s₁ with heap := h', toks := tk } :=
  UnrEnd.intro F N R (fun p hp => by
    rcases List.mem_cons.mp hp with rfl | hp
    · exact hI
    · exact kp.sub p hp) kp.ne r
section
variable {prog : Program} {w : World} {A : Around} {E' : Value → Shared → Prop} {s : Shared} {h₀ : Heap} {L : Addr} {m : Str → Option Value} {M : Led}
theorem src_new {g d : Int} {t u : Tok} {Q : Value → Shared → Prop} (F : Fr h₀ L s.heap m) (N : News h₀ L s.heap M) (so : SrcOk g d)
    (h : ∀ D h' g' d' t' u', Fr h₀ L h' m → News h₀ L h' ((D, srcO g' d' t' u') :: M) → SrcOk g' d' → @LT.lt Nat _ L D → Q (.ref D) { s with heap := h' }) : wpAny (model prog w) A (newList [.int g t, .int d u]) Q E' s :=
  newList_N F N (fun h' F' N' => h _ h' g d t u F' N' so F.ns.lt) (by rw [sizeLine_eq]; exact Nat.le_of_ble_eq_true rfl)
end
section
theorem lay_LC_38 : True := by
  k_with "my call ref" => ((fail_if_success (have zoff := off_LC_54)); ((k_here; (with_reducible show wpAny _ _ (call (Value.ref 328) _) _ _ _); k_dflt (
      refine' Gen.use (XG.at ?zhX _ _ ?zhi) ?zB ?zF ?zX ?zNN ?zpl ?zso ?zns ?zT ?zhk ?zhdp ?zhun ?_; (case zhX => assumption); (case zhi => omega); (case zB => k_asm); (case zF => k_asm); (case zX => k_asm); (case zT => k_asm); (case zNN => k_asm); (case zpl => exact Pull.tail Pull.head); (case zso => first | assumption | (refine' SrcOk.mk ?zso1 ?zso2 ?zso3; (case zso1 => omega); (case zso2 => exact Int.fmod_nonneg_of_pos _ (by omega)); (case zso3 => exact Int.fmod_lt_of_pos _ (by omega)))); (case zns => walk_at "mine ns"); (case zhk => exact rfl); (case zhdp => walk_at "mine room"); (case zhun => walk_at "mine room")); intro r9 g9 d9 tg9 td9 tl9 h9 tk9 F9 N9 so9 ns9 nc9 ab9 fr9 hp9; obtain ⟨e9, l9, l9', m9⟩ := hp9; obtain ⟨m9, T9⟩ := m9; (try dsimp only); (try k_sweep); (try k_fold))))
  k_with "my call ref" => ((fail_if_success (have zoff := off_LC_54)); ((k_here; (with_reducible show wpAny _ _ (call (Value.ref 335) _) _ _ _); k_dflt (first | (refine' Does.useB (right_does _ ?zhW _ _ _ _ _ _ _ ?zhm ?zhT ?zhc) ?zB ?zF ?zX ?zNN ?zT ?zhk ?zhdp ?zhun ?_; (case zhW => assumption); (walk_at "mine use"); (case zhm => walk_at "mine mem"); (case zhT => walk_at "mine tr"); (case zhc => first | assumption | omega))); intro h9 tk9 F9 N9; (try dsimp only); (try k_sweep); (try k_fold))))
  k_with "my call ref" => ((fail_if_success (have zoff := off_LC_54)); ((k_here; (with_reducible show wpAny _ _ (call (Value.ref 340) _) _ _ _); k_dflt (first | (refine' Does.useB (fixed_does _ ?zhW _) ?zB ?zF ?zX ?zNN ?zT ?zhk ?zhdp ?zhun ?_; (case zhW => assumption); (walk_at "mine use"))); intro h9 tk9 F9 N9; (try dsimp only); (try k_sweep); (try k_fold))))
  k_with "my newList" => ((fail_if_success (have zoff := off_LC_54)); ((k_here; (with_reducible show wpAny _ _ (newList [Value.int _ _, Value.int _ _]) _ _ _); k_dflt (refine' src_new ?zF ?zN ?zso ?_; (case zF => k_asm); (case zN => k_asm); (case zso => (refine' SrcOk.mk ?zso1 ?zso2 ?zso3; (case zso1 => first | omega | (split <;> omega)); (case zso2 => exact Int.fmod_nonneg_of_pos _ (by omega)); (case zso3 => exact Int.fmod_lt_of_pos _ (by omega)))); k_whole); intro D' h' g' d' t' u' F' N' so' l3; (try k_sweep))))
  k_with "mine room" => ((fail_if_success (have zoff := off_LC_54)); (first | exact Nat.le_of_ble_eq_true rfl | decide))
  k_with "mine cls" => ((fail_if_success (have zoff := off_LC_54)); ((intro hcl; exact absurd (Value.type.inj hcl) (by decide))))
  k_with "mine keep" => ((fail_if_success (have zoff := off_LC_54)); (first
      | exact Keep.nil
      | (refine' Keep.app (ne_fresh ?zkpA ?zkpB) ?zkpC; (case zkpA => assumption); (case zkpB => walk_at "mine mem"); (case zkpC => walk_at "mine keep"))
      | (refine' Keep.base ?zkpA; (case zkpA => walk_at "mine lt"))
      | (refine' Keep.cons (ne_cls ?zkpN ?zkpA ?zkpB ?zkpC) ?zkpD; (case zkpN => k_asm); (case zkpA => walk_at "mine mem"); (case zkpB => walk_at "mine mem"); (case zkpC => walk_at "mine cls"); (case zkpD => walk_at "mine keep"))
      | (refine' Keep.skip ?zkpA; (case zkpA => walk_at "mine keep"))))
  k_with "my UnrEnd" => ((fail_if_success (have zoff := off_LC_54)); ((k_dflt (refine' unr_endR ?zF ?zN ?zI ?zkp ?_; (case zF => k_asm); (case zN => k_asm); (case zI => walk_at "mine mem"); (case zkp => walk_at "mine keep")))))
  trivial
theorem cw : PySem.Challenge.rw_sy0034_01.Holds := by
  refine Mine.pre._proof_1_450 ?_
  have hW : ∀ w, WX w 7 := fun w => all_write w 7 (by decide)
  have hX : ∀ w, XG w 3 := fun w => all_expr w 3 (by decide)
  k_go0
  all_goals try k_fold
  all_goals (rename PySem.World => w0; have hW' := hW w0; have hX' := hX w0; clear hW hX)
  k_steps
  all_goals (exfalso; rename _ = false => h1; rename _ ∨ _ => h2; have h3 := List.length_pos_iff.mpr (of_decide_eq_false h1); omega)
end
theorem off_LC_54 : True := trivial
end Mine
theorem PySem.Challenge.cw_sy0034_01_holds : PySem.Challenge.rw_sy0034_01.Holds := by
  exact Mine.cw
