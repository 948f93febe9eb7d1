import PyProof.Rows.All
import Wide.All
import OpenK.AllK
import Wide.FinOn
import PySem.Challenge.RW_xm0498_01
open PySem PySem.W PyProof.Rows PySem.Calls PySem.Spec PyProof.V
set_option Elab.async false
namespace Mine
theorem head.tw6474009502463322548 : True := trivial
theorem head.tw5273353676325532212 : True := trivial
theorem head.tw13335025841360890868 : True := trivial
theorem head.tw12373634761246522456 : True := trivial
theorem head.tw9263182273769427461 : True := trivial
theorem head.tw16896716796036338970 : True := trivial
theorem head.tw9608377800256291669 : True := trivial
theorem head.tw7829458321764655465 : True := trivial
theorem head.tw4295191546025932843 : True := trivial
theorem head.tw8903665043760339008 : True := trivial
theorem head.tw12427793608851287223 : True := trivial
theorem head.tw5906749814970224870 : True := trivial
theorem head.tw2237326684586592538 : True := trivial
theorem head.tw13689084217373910675 : True := trivial
theorem head.tw13198292447841614426 : True := trivial
theorem head.tw5130157460393195706 : True := trivial
theorem head.tw2355103038987944067 : True := trivial
theorem head.tw10765931590201843916 : True := trivial
theorem head.tw4976181008148175253 : True := trivial
theorem head.tw4839655697589452165 : True := trivial
theorem head.tw15135619693733244150 : True := trivial
theorem head.tw1315816938146588887 : True := trivial
theorem head.tw12032222614953749359 : True := trivial
theorem head.tw12201952087667049370 : True := trivial
theorem head.tw14969872817325187116 : True := trivial
theorem head.tw11427066125472700054 : True := trivial
theorem head.tw300626226527484142 : True := trivial
theorem head.tw13955511503576765797 : True := trivial
theorem head.tw18416563613846182222 : True := trivial
theorem head.tw7313386461004707312 : True := trivial
theorem head.tw15895551434495452948 : True := trivial
theorem head.tw15296082917334920728 : True := trivial
theorem head.tw13605870324054321959 : True := trivial
theorem head.tw3083302935323014018 : True := trivial
theorem head.tw7450023128482652576 : True := trivial
theorem head.tw13988103294471073821 : True := trivial
theorem head.tw4965378191221513410 : True := trivial
theorem head.tw4857777746444614323 : True := trivial
theorem head.tw17782148633632673465 : True := trivial
theorem head.tw8207701176878594722 : True := trivial
theorem head.tw12822298378996975857 : True := trivial
theorem head.tw3547240966391284428 : True := trivial
theorem head.tw6857060684267632606 : True := trivial
theorem head.tw10381336112695272470 : True := trivial
theorem head.tw5104563664521345299 : True := trivial
theorem head.tw17826015225549371706 : True := trivial
theorem head.tw7494366503370351645 : True := trivial
theorem head.tw16997897962222511 : True := trivial
theorem head.tw13510609219080548989 : True := trivial
theorem head.tw9186546921256032858 : True := trivial
theorem head.tw8758324158161630591 : True := trivial
theorem head.tw532055438628499158 : True := trivial
theorem head.tw11434997419882176723 : True := trivial
theorem head.tw17905491414393134947 : True := trivial
theorem head.tw11544532188706048022 : True := trivial
theorem head.tw3281809517304281197 : True := trivial
theorem head.tw4415685298772064003 : True := trivial
theorem head.tw13294958713779813728 : True := trivial
theorem head.tw9702098958229961203 : True := trivial
theorem head.tw1909714482019496454 : True := trivial
theorem head.tw8773370040425892893 : True := trivial
theorem head.tw14643560169476415855 : True := trivial
theorem head.tw1495726902847802894 : True := trivial
theorem head.tw17142359554024780413 : True := trivial
theorem head.tw6121141971511671821 : True := trivial
theorem head.tw6587087628758450585 : True := trivial
theorem head.tw16714887947964762639 : True := trivial
theorem head.tw3368030927266983236 : True := trivial
theorem head.tw8812732774380208333 : True := trivial
theorem head.tw9101448428047585222 : True := trivial
theorem head.tw5944575059761466720 : True := trivial
theorem head.tw5346772772824661884 : True := trivial
theorem head.tw10786079294511566085 : True := trivial
theorem head.tw15841401105113185080 : True := trivial
theorem head.tw17577399041416155939 : True := trivial
theorem head.tw3306014811536218513 : True := trivial
theorem head.tw16640130746408290383 : True := trivial
theorem head.tw10875119458065257276 : True := trivial
theorem head.tw10533634037010066435 : True := trivial
theorem head.tw16984083398119652359 : True := trivial
theorem head.tw8097174177036852075 : True := trivial
theorem head.tw15112835437128306455 : True := trivial
theorem head.tw9162278640276766204 : True := trivial
theorem head.tw5331137831679937033 : True := trivial
theorem head.tw13353151263460963528 : True := trivial
theorem head.tw17243387458012846398 : True := trivial
theorem head.tw5651425540991249520 : True := trivial
theorem head.tw11862927689305589065 : True := trivial
theorem head.tw16572314662081343053 : True := trivial
theorem head.tw14527164170590304321 : True := trivial
theorem head.tw11975876845563090790 : True := trivial
theorem head.tw9658139154387788515 : True := trivial
theorem head.tw6846866878297920324 : True := trivial
theorem head.tw3581614266968435656 : True := trivial
theorem head.tw69809265629811306 : True := trivial
theorem head.tw5506250874072839755 : True := trivial
theorem head.tw9062998866958442273 : True := trivial
theorem head.tw15895748673760503845 : True := trivial
theorem head.tw9280153536138602973 : True := trivial
theorem head.tw14843749296085226474 : True := trivial
theorem head.tw15037083628117588352 : True := trivial
theorem head.tw4023466491090337370 : True := trivial
theorem head.tw8535708456716222715 : True := trivial
theorem head.tw8874674299285249911 : True := trivial
theorem head.tw5797013207949663412 : True := trivial
theorem head.tw2879759524354350568 : True := trivial
theorem head.tw5764021196749891206 : True := trivial
theorem head.tw12949380547846470161 : True := trivial
theorem head.tw5508695066786827253 : True := trivial
theorem head.tw14699756766385990792 : True := trivial
theorem head.tw13896987355042952010 : True := trivial
theorem head.tw3688799982635324794 : True := trivial
theorem head.tw15468718075485040107 : True := trivial
theorem head.tw733406405333840765 : True := trivial
theorem head.tw5870146547769353613 : True := trivial
theorem head.tw4196546014268931301 : True := trivial
theorem head.tw3160712208675142370 : True := trivial
theorem head.tw15204471325056678010 : True := trivial
theorem head.tw11484358847640170188 : True := trivial
theorem head.tw16111715859725283846 : True := trivial
theorem head.tw10668533816033670360 : True := trivial
theorem head.tw5638995163158488052 : True := trivial
theorem head.tw3547030090768783262 : True := trivial
theorem head.tw15798066900824788120 : True := trivial
theorem head.tw17789423225533864492 : True := trivial
theorem head.tw15510365090734361527 : True := trivial
theorem head.tw8159583801465064534 : True := trivial
theorem head.tw9325057278558614444 : True := trivial
theorem head.tw262713603470380999 : True := trivial
theorem head.tw1319983325249436295 : True := trivial
theorem head.tw8476099583838051002 : True := trivial
theorem head.tw9082462177598256812 : True := trivial
theorem head.tw5140934472235413692 : True := trivial
theorem head.tw12478146576626367362 : True := trivial
theorem head.tw17464823870196871000 : True := trivial
theorem head.tw10510622979536455646 : True := trivial
theorem head.tw16172288393029767808 : True := trivial
theorem head.tw13585267454733459922 : True := trivial
theorem head.tw18384547517478447814 : True := trivial
theorem head.tw7417405269818204032 : True := trivial
theorem head.tw2994366008111725845 : True := trivial
theorem head.tw12987040726578829979 : True := trivial
theorem head.tw2340069552987342377 : True := trivial
theorem head.tw1852205218256702202 : True := trivial
theorem head.tw17015032458148788900 : True := trivial
theorem head.tw5438144065070405397 : True := trivial
theorem head.tw48543519692965452 : True := trivial
theorem head.tw17014734716931888790 : True := trivial
theorem head.tw18123143868385100064 : True := trivial
theorem head.tw8997269238129315039 : True := trivial
theorem head.tw15735840784391694233 : True := trivial
theorem head.tw4277651752456152607 : True := trivial
theorem head.tw930087139818521243 : True := trivial
theorem head.tw8895791426145780158 : True := trivial
theorem head.tw10987702880554017565 : True := trivial
theorem head.tw7833285031277912329 : True := trivial
theorem head.tw4691952243595246448 : True := trivial
theorem head.tw15253846138512369154 : True := trivial
theorem head.tw497287684792784471 : True := trivial
theorem head.tw4381510469713062047 : True := trivial
theorem head.tw9407594320385231609 : True := trivial
theorem head.tw6202090305015876224 : True := trivial
theorem head.tw17674571679781333832 : True := trivial
theorem head.tw17698105195316432488 : True := trivial
theorem head.tw8715499118904818895 : True := trivial
theorem head.tw1748456618969930982 : True := trivial
theorem head.tw11426403942048686318 : True := trivial
theorem head.tw4433315090154635215 : True := trivial
theorem head.tw10261356005730403935 : True := trivial
theorem head.tw8627200689577751383 : True := trivial
theorem head.tw14676189674455941282 : True := trivial
theorem head.tw8534208459206503383 : True := trivial
theorem head.tw3749026756887285471 : True := trivial
theorem head.tw7658410731251134818 : True := trivial
theorem head.tw7512725033676591148 : True := trivial
theorem head.tw3665506230870052707 : True := trivial
theorem head.tw6846597200999610202 : True := trivial
theorem head.tw3089916443595474862 : True := trivial
theorem head.tw8866670633112419022 : True := trivial
theorem head.tw15148963937461231693 : True := trivial
theorem head.tw16894197260953374720 : True := trivial
theorem head.tw3980653432952411973 : True := trivial
theorem head.tw7712916153251135833 : True := trivial
theorem head.tw3986194592780655508 : True := trivial
theorem head.tw11308087075614649832 : True := trivial
theorem head.tw16031315777459398524 : True := trivial
theorem head.tw2393098407364606883 : True := trivial
theorem head.tw7253898381062576733 : True := trivial
theorem head.tw14393718171448925343 : True := trivial
theorem head.tw3615648651819825313 : True := trivial
theorem head.tw7802898811600756450 : True := trivial
theorem head.tw3715584954343283195 : True := trivial
theorem head.tw18007968972792079559 : True := trivial
theorem head.tw1276956409769668328 : True := trivial
theorem head.tw8185714761375850791 : True := trivial
theorem head.tw4975070653579243887 : True := trivial
theorem head.tw8603420104599213669 : True := trivial
theorem head.tw12310735299239354703 : True := trivial
theorem head.tw3501597964444990463 : True := trivial
theorem head.tw6211381574409162282 : True := trivial
theorem head.tw14699528089545365996 : True := trivial
theorem head.tw11124748197601291601 : True := trivial
theorem head.tw437529772669424029 : True := trivial
theorem head.tw11194998557105285118 : True := trivial
theorem head.tw8451290768687142514 : True := trivial
theorem head.tw6507506987150044280 : True := trivial
theorem head.tw5319049981483164881 : True := trivial
theorem head.tw9592777112578238593 : True := trivial
theorem head.tw1457377512435260902 : True := trivial
theorem head.tw12352672977532951062 : True := trivial
theorem head.tw15410735652082386980 : True := trivial
theorem head.tw3496171461512900480 : True := trivial
theorem head.tw12892129938458570674 : True := trivial
theorem head.tw15436542981012472205 : True := trivial
theorem head.tw4964814941381164201 : True := trivial
theorem head.tw5986637957666399235 : True := trivial
theorem head.tw5629256929840616583 : True := trivial
theorem head.tw5599997604879368025 : True := trivial
theorem head.tw4746297304354101679 : True := trivial
theorem head.tw15782939476341012554 : True := trivial
theorem head.tw9746458257258439470 : True := trivial
theorem head.tw8402214883040486957 : True := trivial
theorem head.tw14788773977795034992 : True := trivial
theorem head.tw18051680202136193954 : True := trivial
theorem head.tw13337238644230332656 : True := trivial
theorem head.tw5092371620264689978 : True := trivial
theorem head.tw2249667046024356820 : True := trivial
theorem head.tw13086575352542018947 : True := trivial
theorem head.tw17700853532424174462 : True := trivial
theorem head.tw11821203517306503961 : True := trivial
theorem head.tw12870424476946447624 : True := trivial
theorem head.tw12147184966966947637 : True := trivial
theorem head.tw3991279037241028524 : True := trivial
theorem head.tw7876399200375917224 : True := trivial
theorem head.tw4009957668330374740 : True := trivial
theorem head.tw4709128311485490483 : True := trivial
theorem head.tw11628534518673281344 : True := trivial
theorem head.tw8101760021730824546 : True := trivial
theorem head.tw18332285231265401824 : True := trivial
theorem head.tw14999265807660949796 : True := trivial
theorem head.tw13906610036690215845 : True := trivial
theorem head.tw11770459041652445329 : True := trivial
theorem head.tw9515422150858430662 : True := trivial
theorem head.tw16782820856776367440 : True := trivial
theorem head.tw6889739017440866108 : True := trivial
theorem head.tw15506723302920939300 : True := trivial
theorem head.tw4160124254940468481 : True := trivial
theorem head.tw10018764681926925449 : True := trivial
theorem head.tw7119846925741900413 : True := trivial
theorem head.tw12604462930493870256 : True := trivial
theorem head.tw10706776884845955466 : True := trivial
theorem head.tw17411354535832351560 : True := trivial
theorem head.tw12903917746401883607 : True := trivial
theorem head.tw2529948359932261575 : True := trivial
theorem head.tw3088210815446039105 : True := trivial
theorem head.tw13743032657059413451 : True := trivial
theorem head.tw12398312691204496596 : True := trivial
theorem head.tw2491421050496283774 : True := trivial
theorem head.tw11290360913936777911 : True := trivial
theorem head.tw14205479233844494046 : True := trivial
theorem head.tw5401097623525119610 : True := trivial
theorem head.tw14512941343882779238 : True := trivial
theorem head.tw649443455394278489 : True := trivial
theorem head.tw3944913497352057107 : True := trivial
theorem head.tw16172356507618199906 : True := trivial
theorem head.tw1499353310998574721 : True := trivial
theorem head.tw9978949632667528635 : True := trivial
theorem head.tw16922147877168347812 : True := trivial
theorem head.tw16817119741492734445 : True := trivial
theorem head.tw2518057956044344595 : True := trivial
theorem head.tw12865059321931465230 : True := trivial
theorem head.tw976808484645153763 : True := trivial
theorem head.tw12775505166333009402 : True := trivial
theorem head.tw7758381527925395934 : True := trivial
theorem head.tw2260579728952749127 : True := trivial
theorem head.tw10812213935944405949 : True := trivial
theorem head.tw3973953319845086491 : True := trivial
theorem head.tw10865165270600546614 : True := trivial
theorem head.tw315434073420411817 : True := trivial
theorem head.tw14679116673082234219 : True := trivial
theorem head.tw12773685731770592110 : True := trivial
theorem head.tw11692735721529064706 : True := trivial
theorem head.tw11105056867450500199 : True := trivial
theorem head.tw7994106446794305319 : True := trivial
theorem head.tw3453547403478019728 : True := trivial
theorem head.tw1620002657737552111 : True := trivial
theorem head.tw13180129090757240718 : True := trivial
theorem head.tw5487235932777146282 : True := trivial
theorem head.tw6100774026682323163 : True := trivial
theorem head.tw4311042196063409733 : True := trivial
theorem head.tw1212124681294104184 : True := trivial
theorem head.tw17725469503822016867 : True := trivial
theorem head.tw10898857373019930491 : True := trivial
theorem head.tw12858780395421280599 : True := trivial
theorem head.tw820421773197932041 : True := trivial
theorem head.tw4607607821588926596 : True := trivial
theorem head.tw5973763720392745831 : True := trivial
theorem head.tw7661765248129044261 : True := trivial
theorem head.tw1832916270232011604 : True := trivial
theorem head.tw9196398404247428943 : True := trivial
theorem head.tw9074772780463953568 : True := trivial
theorem head.tw17093656651364094606 : True := trivial
theorem head.tw15894371620910866019 : True := trivial
theorem head.tw2400818531096893172 : True := trivial
theorem head.tw10059252607514160932 : True := trivial
theorem head.tw11714945338242495837 : True := trivial
theorem head.tw6110071263904590700 : True := trivial
theorem head.tw7090939061502383884 : True := trivial
theorem head.tw9716329373054682134 : True := trivial
theorem head.tw17854896373637125580 : True := trivial
theorem head.tw10356212845559719233 : True := trivial
section
local macro_rules | `(tactic| first | refine $e:term | fail $_:str) => `(tactic| (refine $e; rotate_right; assumption))
set_option Elab.async true in
set_option maxRecDepth 100000 in
set_option maxHeartbeats 8000000 in
theorem head : ∃ T : Prop, (T → PySem.Challenge.rw_xm0498_01.Holds) :=
  ⟨_, by as_aux_lemma =>
    (refine fun walk => ?_; w_on; o_law; k_head; (case hw => w_witness2))⟩
end
set_option maxRecDepth 100000
set_option maxHeartbeats 4000000
theorem fillK : (PySem.Challenge.rw_xm0498_01.foot = 14) ∧ Mine.head.heap_1_39 = Mine.head.heap_1_39 := by
  k_fill
  exact ⟨rfl, rfl⟩
local macro_rules | `(tactic| walk_at "m_dict") => `(tactic| first | assumption | exact Heap.DictOf.keep (by assumption) (Fr.keep (by assumption)) | exact kda_dict (by assumption) (by k_mem) (by assumption))
local macro_rules | `(tactic| walk_at "m_tup") => `(tactic| first | assumption | exact IsTup.keeps (by assumption) (Fr.keep (by assumption)) | exact News.isTup (by assumption) (by k_mem))
local macro_rules | `(tactic| walk_at "m_list") => `(tactic| first | assumption | exact Heap.IsList.at (by assumption) (fun o e => Fr.keep (by assumption) _ o e) | exact News.isList (by assumption) (by k_mem))
local macro_rules | `(tactic| walk_at "ite") => `(tactic| (k_closed; k_dflt (first | refine ite_pos (by decide +kernel) ?_ | refine ite_neg (by decide +kernel) ?_)))
local macro_rules | `(tactic| walk_at "ite") => `(tactic| (first | refine ite_pos (by with_reducible assumption) ?_ | refine ite_neg (by with_reducible assumption) ?_))
local macro_rules | `(tactic| walk_at "assign Tuple") => `(tactic| (k_dflt (refine unpackN_ (by assumption) (by assumption) (by walk_at "m_tup") (by walk_at "m_hd") (by rfl) (by rfl) ?_); intro h' F' N'))
local macro_rules | `(tactic| walk_at "eval Name") => `(tactic| ((with_reducible show wpAny _ _ (eval (PySem.Expr.Name _ _) (envOf _ _ _ _ _)) _ _ _); k_dflt (refine' ld ?k1 ?k2 ?_; (case k1 => assumption); (case k2 => first | exact rfl | assumption); k_whole)))
local macro_rules | `(tactic| walk_at "loadName") => `(tactic| ((with_reducible show wpAny _ _ (loadName (envOf _ _ _ _ _) _) _ _ _); k_dflt (refine' ldn ?k1 ?k2 ?_; (case k1 => assumption); (case k2 => first | exact rfl | assumption); k_whole)))
local macro_rules | `(tactic| walk_at "subscriptTail Name Constant ref int") => `(tactic| walk_at "subscriptTail")
local macro_rules | `(tactic| walk_at "subscriptTail Name Name ref int") => `(tactic| walk_at "subscriptTail")
@[elab_as_elim] theorem all_cons {α : Type} {motive : α → Prop} {a : α} {l : List α} (h : motive a) (t : ∀ p, p ∈ l → motive p) (p : α) (hp : p ∈ a :: l) : motive p := by
  cases hp with
  | head => exact h
  | tail _ hp => exact t p hp
@[elab_as_elim] theorem all_app {α : Type} {motive : α → Prop} {l m : List α} (h : ∀ p, p ∈ l → motive p) (t : ∀ p, p ∈ m → motive p) (p : α) (hp : p ∈ l ++ m) : motive p := (List.mem_append.mp hp).elim (h p) (t p)
theorem hideQ {α : Type} {M : Model} {A : Around} {x : Sem α} {Q : α → Shared → Prop} {E : Value → Shared → Prop} {s : Shared} (h : ∀ K : α → Shared → Prop, (∀ y s', Q y s' → K y s') → wpAny M A x K E s) : wpAny M A x Q E s := h Q fun _ _ q => q
theorem gen {P : Prop} (h : ∀ G : Prop, (P → G) → G) : P := h P id
/-- what stands outside D stays -/
noncomputable def Stays (D : List Addr) (h h' : Heap) : Prop := ∀ a o, a ∉ D → h.get? a = some o → h'.get? a = some o
theorem Stays.refl {D : List Addr} {h : Heap} : Stays D h h := fun _ _ _ e => e
theorem Stays.trans {D : List Addr} {h h' h'' : Heap} (x : Stays D h h') (y : Stays D h' h'') : Stays D h h'' := fun a o n e => y a o n (x a o n e)
theorem Stays.all {h h' : Heap} (x : Stays [] h h') : h.StaysIn h' := fun a o e => x a o (fun q => nomatch q) e
theorem Stays.of {D : List Addr} {h h' : Heap} (x : h.StaysIn h') : Stays D h h' := fun a o _ e => x a o e
theorem Stays.le {D D' : List Addr} {h h' : Heap} (x : Stays D h h') (s : ∀ a ∈ D, a ∈ D') : Stays D' h h' := fun a o n e => x a o (fun q => n (s a q)) e

/-- frames below: each is a def's, its locals stand in h -/
noncomputable abbrev Frames (h : Heap) (l : List Env) : Prop := h.FunFrames {} l

structure Cx (w : World) (mg mb : Str → Option Value) (A : Around) (h : Heap) (D : List Addr) (d u : Nat) : Prop where
  X : (Mine.head.heap_1_39 w.params).In (hideAll h D)
  T : TopRead Mine.head.view_1_40 (looseW Mine.head.view_1_40 [Str.ofString "KeepError", Str.ofString "RunBound", Str.ofString "NumberOut"]) mg mb (hideAll h D)
  hd : A.handled = none
  dp : A.depth + d < recursionLimit
  un : A.units + u < cLine
  fr : ∃ l, A.frames = some l ∧ Frames (hideAll h D) l

/-- the same, of a frame L over its base g (all that stood at the call but what the call changes) -/
structure Cb (w : World) (mg mb : Str → Option Value) (A : Around) (g : Heap) (L : Addr) (d u : Nat) : Prop where
  X : (Mine.head.heap_1_39 w.params).In g
  T : TopRead Mine.head.view_1_40 (looseW Mine.head.view_1_40 [Str.ofString "KeepError", Str.ofString "RunBound", Str.ofString "NumberOut"]) mg mb g
  hd : A.handled = none
  dp : A.depth + d < recursionLimit
  un : A.units + u < cLine
  fr : ∃ env l, A.frames = some (env :: l) ∧ env.frame = some L ∧ env.scope.kind ≠ .module ∧ Frames g l

theorem get_empty (a : Addr) : ({} : Heap).get? a = none := by simp [Heap.get?]

section
variable {w : World} {mg mb : Str → Option Value} {A : Around} {g h h' : Heap} {L : Addr} {m : Str → Option Value} {μ : List (Addr × Obj)} {D : List Addr} {d u d' u' : Nat}
theorem under_hide (F : Fr g L h m) (hg : ∀ a ∈ D, g.get? a = none) : g.StaysIn (hideAll h D) := fun a o e => hideAll_get _ (F.keep a o e) fun q => by rw [hg a q] at e; cases e
theorem Cb.at (C : Cb w mg mb A g L d u) (F : Fr g L h m) (hg : ∀ a ∈ D, g.get? a = none) (hL : L ∉ D) (hd : d' ≤ d) (hu : u' ≤ u) : Cx w mg mb A h D d' u' where
  X := C.X.keeps (under_hide F hg)
  T := C.T.keeps (under_hide F hg)
  hd := C.hd
  dp := Nat.lt_of_le_of_lt (Nat.add_le_add_left hd _) C.dp
  un := Nat.lt_of_le_of_lt (Nat.add_le_add_left hu _) C.un
  fr := by
    obtain ⟨env, l, a, b, c, f⟩ := C.fr
    obtain ⟨oL, es, ep, hL', hLd, r⟩ := F.ns
    exact ⟨env :: l, a, c, ⟨L, oL, b, get_empty _, hideAll_get _ hL' hL, fun vs q => by rw [hLd] at q; cases q⟩, f.of_keeps fun b o e _ => ⟨o, under_hide F hg b o e, rfl⟩⟩
theorem Cb.at0 (C : Cb w mg mb A g L d u) (F : Fr g L h m) (hd : d' ≤ d) (hu : u' ≤ u) : Cx w mg mb A h [] d' u' := C.at F (fun _ q => nomatch q) (fun q => nomatch q) hd hu
theorem Cb.weaken (C : Cb w mg mb A g L d u) (hd : d' ≤ d) (hu : u' ≤ u) : Cb w mg mb A g L d' u' :=
  ⟨C.X, C.T, C.hd, Nat.lt_of_le_of_lt (Nat.add_le_add_left hd _) C.dp, Nat.lt_of_le_of_lt (Nat.add_le_add_left hu _) C.un, C.fr⟩

theorem Fr.st (F : Fr g L h m) (S : Stays D h h') (hL : L ∉ D) (hg : ∀ a ∈ D, g.get? a = none) : Fr g L h' m := by
  obtain ⟨oL, es, ep, hL', r⟩ := F.ns
  exact ⟨⟨oL, es, ep, S _ _ hL hL', r⟩, fun b o e => S b o (fun q => by rw [hg b q] at e; cases e) (F.keep b o e), F.above⟩
theorem Fr.st0 (F : Fr g L h m) (S : Stays [] h h') : Fr g L h' m := Fr.st F S (fun q => nomatch q) (fun _ q => nomatch q)
theorem News.st0 (N : News g L h μ) (S : Stays [] h h') : News g L h' μ := fun p hp => ⟨S _ _ (fun q => nomatch q) (N p hp).1, (N p hp).2⟩
theorem Fr.st1 {d : Addr} {o : Obj} (F : Fr g L h m) (N : News g L h ((d, o) :: μ)) (S : Stays [d] h h') : Fr g L h' m :=
  Fr.st F S (fun q => (N _ (.head _)).2.1 (List.mem_singleton.mp q).symm) (fun a q => by rw [List.mem_singleton.mp q]; exact (N _ (.head _)).2.2)
theorem News.st1 {d : Addr} {o o' : Obj} (N : News g L h ((d, o) :: μ)) (S : Stays [d] h h') (hn : ∀ p ∈ μ, p.1 ≠ d) (ho : h'.get? d = some o') : News g L h' ((d, o') :: μ) := by
  intro p hp
  rcases List.mem_cons.mp hp with rfl | hp
  · exact ⟨ho, (N _ (.head _)).2⟩
  · exact ⟨S _ _ (fun q => hn p hp (List.mem_singleton.mp q)) (N p (.tail _ hp)).1, (N p (.tail _ hp)).2⟩
theorem Fr.out {h₀ : Heap} (F : Fr (hideAll h₀ D) L h m) : Stays D h₀ h := fun a o n e => F.keep a o (hideAll_get _ e n)
noncomputable abbrev tupOf (l : List Value) : Obj := { cls := .type "tuple", data := .seq l.toArray }
theorem News.add {a : Addr} {o : Obj} (F : Fr g L h m) (N : News g L h' μ) (ho : h'.get? a = some o) (hn : h.get? a = none) : News g L h' ((a, o) :: μ) := by
  intro p hp
  rcases List.mem_cons.mp hp with rfl | hp
  · refine ⟨ho, ?_, ?_⟩
    · rintro rfl
      obtain ⟨oL, _, _, hL, _⟩ := F.ns
      rw [hL] at hn; cases hn
    · cases q : g.get? a with
      | none => rfl
      | some x => rw [F.keep _ _ q] at hn; cases hn
  · exact N p hp
/-- a new object, all else stands -/
noncomputable def Made (h₀ h' : Heap) (a : Addr) (o : Obj) : Prop := Stays [] h₀ h' ∧ h₀.get? a = none ∧ h'.get? a = some o
theorem Fr.out0 {h₀ : Heap} (F : Fr h₀ L h m) : Stays [] h₀ h := fun a o _ e => F.keep a o e
theorem made_of {h₀ : Heap} {a : Addr} {o : Obj} (F : Fr h₀ L h m) (N : News h₀ L h μ) (hm : (a, o) ∈ μ) : Made h₀ h a o :=
  have hn : h₀.get? a = none := by
    cases q : h₀.get? a with
    | none => rfl
    | some x =>
      have := (N _ hm).2.2
      rw [q] at this
      cases this
  ⟨fun b x _ e => F.keep b x e, hn, (N _ hm).1⟩
theorem Fr.made {h₀ : Heap} {a : Addr} {o : Obj} (F : Fr g L h₀ m) (M : Made h₀ h' a o) : Fr g L h' m := Fr.st0 F M.1
theorem News.made {h₀ : Heap} {a : Addr} {o : Obj} (F : Fr g L h₀ m) (N : News g L h₀ μ) (M : Made h₀ h' a o) : News g L h' ((a, o) :: μ) := News.add F (News.st0 N M.1) M.2.2 M.2.1
theorem new_of {h₀ : Heap} {a : Addr} {o : Obj} (N : News (hideAll h₀ D) L h μ) (hm : (a, o) ∈ μ) (n : a ∉ D) : h₀.get? a = none := by
  cases q : h₀.get? a with
  | none => rfl
  | some x => have := (N _ hm).2.2; rw [hideAll_get _ q n] at this; cases this
end

section
variable {prog : Program} {w : World} {mg mb : Str → Option Value} {A : Around} {s : Shared} {Q E : Value → Shared → Prop}
  {name qual : Str} {params : Arguments} {body : List Stmt} {scope : Scope} {dV kV doc pm cdv ct oc : Value} {an od : Option Addr} {osl : Array (Option Value)} {f : Addr} {args : Args} {pos : List Value} {binds : List (Str × Value)} {d u : Nat} {D : List Addr}

theorem call_ruleE (C : Cx w mg mb A s.heap D (d + 1) (u + 3))
    (ho : (Mine.head.heap_1_39 w.params).lookup f = some ⟨oc, od, .func (fnOf name qual params body scope dV kV doc pm an cdv ct), osl⟩) (hcd : codeIn (Mine.head.heap_1_39 w.params) cdv qual = true)
    (hbind : BindsTo s (fnOf name qual params body scope dV kV doc pm an cdv ct) ⟨pos, []⟩ binds) (hloc : ∀ y ∈ binds, scope.names.lookup y.1 = some .local)
    (h : ∀ L h₁ tk, Fr (hideAll s.heap D) L h₁ (fun y => binds.reverse.lookup y) → (∀ b o, s.heap.get? b = some o → h₁.get? b = some o ∧ b ≠ L) →
      Cb w mg mb (A.deeper (envOf qual scope L f cdv)) (hideAll s.heap D) L d u →
      wpAny (model prog w) (A.deeper (envOf qual scope L f cdv)) (execs body (envOf qual scope L f cdv))
        (fun fl s' => Q (match fl with | .ret v => v | _ => .none) s')
        (fun e s' => wpAny (model prog w) (A.deeper (envOf qual scope L f cdv)) (leaving (envOf qual scope L f cdv) e) (fun _ s'' => E e s'') (fun e' s'' => E e' s'') s')
        { s with heap := h₁, toks := tk })
    (hcell : ∀ x ∈ scope.names, x.2 ≠ .cell) (hco : scope.isCoroutine = false := by rfl) (hgen : scope.isGenerator = false := by rfl) (hk : scope.kind = .function := by rfl) :
    wpAny (model prog w) A (call (.ref f) pos) Q E s := by
  obtain ⟨l, hl, hfr⟩ := C.fr
  have hdp : A.depth < recursionLimit := Nat.lt_of_le_of_lt (Nat.le_add_right _ _) C.dp
  have CX : (Mine.head.heap_1_39 w.params).In s.heap := C.X.keeps fun b o e => of_hideAll _ e
  have CT := C.T.keeps (h' := s.heap) fun b o e => of_hideAll _ e
  refine wpAny_call (codeAny_call_def (fd := fnOf name qual params body scope dV kV doc pm an cdv ct) (body := body) (binds := binds) hdp (CX _ _ ho) rfl CT.nolimit (codeRec_of CX hcd) rfl hbind hcell hloc (fun h₁ hns hk₁ => ?_) hco hgen hk)
  refine wpAny_mono (h s.heap.objs.size h₁ _ ⟨hns, fun b o e => hk₁ b o (of_hideAll _ e), Nat.le_of_eq (hideAll_size _ _)⟩ (fun b o e => ⟨hk₁ b o e, Nat.ne_of_lt (Heap.lt_size e)⟩) ?_) (fun fl s' q => q) fun _ _ q => q
  refine ⟨C.X, C.T, C.hd, ?_, ?_, envOf qual scope s.heap.objs.size f cdv, l, ?_, rfl, ?_, hfr⟩
  · show A.depth + 1 + d < _
    have := C.dp; omega
  · show A.units + 3 + u < _
    have := C.un; omega
  · exact Around.frames_deeper hl
  · show scope.kind ≠ .module
    rw [hk]; decide

theorem call_rule (C : Cx w mg mb A s.heap D (d + 1) (u + 3))
    (ho : (Mine.head.heap_1_39 w.params).lookup f = some ⟨oc, od, .func (fnOf name qual params body scope dV kV doc pm an cdv ct), osl⟩) (hcd : codeIn (Mine.head.heap_1_39 w.params) cdv qual = true)
    (hbind : BindsTo s (fnOf name qual params body scope dV kV doc pm an cdv ct) ⟨pos, []⟩ binds) (hloc : ∀ y ∈ binds, scope.names.lookup y.1 = some .local)
    (h : ∀ L h₁ tk, Fr (hideAll s.heap D) L h₁ (fun y => binds.reverse.lookup y) → (∀ b o, s.heap.get? b = some o → h₁.get? b = some o ∧ b ≠ L) →
      Cb w mg mb (A.deeper (envOf qual scope L f cdv)) (hideAll s.heap D) L d u →
      wpAny (model prog w) (A.deeper (envOf qual scope L f cdv)) (execs body (envOf qual scope L f cdv))
        (fun fl s' => Q (match fl with | .ret v => v | _ => .none) s')
        (fun _ _ => False)
        { s with heap := h₁, toks := tk })
    (hcell : ∀ x ∈ scope.names, x.2 ≠ .cell) (hco : scope.isCoroutine = false := by rfl) (hgen : scope.isGenerator = false := by rfl) (hk : scope.kind = .function := by rfl) :
    wpAny (model prog w) A (call (.ref f) pos) Q E s :=
  call_ruleE C ho hcd hbind hloc (fun L h₁ tk F hk C => wpAny_mono (h L h₁ tk F hk C) (fun _ _ q => q) fun _ _ q => q.elim) hcell hco hgen hk

theorem call_rule0 (C : Cx w mg mb A s.heap [] (d + 1) (u + 3))
    (ho : (Mine.head.heap_1_39 w.params).lookup f = some ⟨oc, od, .func (fnOf name qual params body scope dV kV doc pm an cdv ct), osl⟩) (hcd : codeIn (Mine.head.heap_1_39 w.params) cdv qual = true)
    (hbind : BindsTo s (fnOf name qual params body scope dV kV doc pm an cdv ct) ⟨pos, []⟩ binds) (hloc : ∀ y ∈ binds, scope.names.lookup y.1 = some .local)
    (h : ∀ L h₁ tk, Fr s.heap L h₁ (fun y => binds.reverse.lookup y) → News s.heap L h₁ [] →
      Cb w mg mb (A.deeper (envOf qual scope L f cdv)) s.heap L d u →
      wpAny (model prog w) (A.deeper (envOf qual scope L f cdv)) (execs body (envOf qual scope L f cdv))
        (fun fl s' => Q (match fl with | .ret v => v | _ => .none) s')
        (fun _ _ => False)
        { s with heap := h₁, toks := tk })
    (hcell : ∀ x ∈ scope.names, x.2 ≠ .cell) (hco : scope.isCoroutine = false := by rfl) (hgen : scope.isGenerator = false := by rfl) (hk : scope.kind = .function := by rfl) :
    wpAny (model prog w) A (call (.ref f) pos) Q E s :=
  call_rule C ho hcd hbind hloc (fun L h₁ tk F _ C => h L h₁ tk F News.nil C) hcell hco hgen hk
theorem call_ruleE0 (C : Cx w mg mb A s.heap [] (d + 1) (u + 3))
    (ho : (Mine.head.heap_1_39 w.params).lookup f = some ⟨oc, od, .func (fnOf name qual params body scope dV kV doc pm an cdv ct), osl⟩) (hcd : codeIn (Mine.head.heap_1_39 w.params) cdv qual = true)
    (hbind : BindsTo s (fnOf name qual params body scope dV kV doc pm an cdv ct) ⟨pos, []⟩ binds) (hloc : ∀ y ∈ binds, scope.names.lookup y.1 = some .local)
    (h : ∀ L h₁ tk, Fr s.heap L h₁ (fun y => binds.reverse.lookup y) → News s.heap L h₁ [] →
      Cb w mg mb (A.deeper (envOf qual scope L f cdv)) s.heap L d u →
      wpAny (model prog w) (A.deeper (envOf qual scope L f cdv)) (execs body (envOf qual scope L f cdv))
        (fun fl s' => Q (match fl with | .ret v => v | _ => .none) s')
        (fun e s' => wpAny (model prog w) (A.deeper (envOf qual scope L f cdv)) (leaving (envOf qual scope L f cdv) e) (fun _ s'' => E e s'') (fun e' s'' => E e' s'') s')
        { s with heap := h₁, toks := tk })
    (hcell : ∀ x ∈ scope.names, x.2 ≠ .cell) (hco : scope.isCoroutine = false := by rfl) (hgen : scope.isGenerator = false := by rfl) (hk : scope.kind = .function := by rfl) :
    wpAny (model prog w) A (call (.ref f) pos) Q E s :=
  call_ruleE C ho hcd hbind hloc (fun L h₁ tk F _ C => h L h₁ tk F News.nil C) hcell hco hgen hk
end
local macro_rules | `(tactic| walk_at "m_c0") => `(tactic| exact Cb.at0 (by assumption) (by assumption) (by first | decide | omega) (by first | decide | omega))
local macro_rules | `(tactic| walk_at "m_after0") => `(tactic| ((rename Stays [] _ _ => mS); (rename Fr _ _ _ _ => mF); (rename News _ _ _ _ => mN); (have mF2 := Fr.st0 mF mS); (have mN2 := News.st0 mN mS); clear mF mN))
local macro_rules | `(tactic| walk_at "m_hd") => `(tactic| exact Cb.hd (by assumption))
local macro_rules | `(tactic| walk_at "execs cons") => do let (k, hk) := (Lean.mkIdent `KS, Lean.mkIdent `hKS); `(tactic| ((with_reducible refine wpAny_execs_cons ?_); (refine hideQ fun $k $hk => ?_); (try dsimp only)))
/-- a value of the kept program: a tag and what goes with it -/
inductive Vl where
  | undef | null | bool (b : Bool) | num (i : Int) | nan | str (x : Str) | obj (k : Nat)
noncomputable def Vl.tag : Vl → Int
  | .undef => 0 | .null => 1 | .bool _ => 2 | .num _ => 3 | .nan => 4 | .str _ => 5 | .obj _ => 6
noncomputable def Vl.pay : Vl → Tok → Value
  | .bool b, t => .int (if b then 1 else 0) t
  | .num i, t => .int i t
  | .str x, t => .str x t
  | .obj k, t => .int (k : Int) t
  | .undef, t => .int 0 t
  | .null, t => .int 0 t
  | .nan, t => .int 0 t

structure Rw where
  sort : Int
  up : Int
  items : List Vl
  own : List (Str × Vl)

noncomputable def leaf : Vl → Str
  | .undef => Str.ofString "undefined"
  | .null => Str.ofString "null"
  | .bool true => Str.ofString "true"
  | .bool false => Str.ofString "false"
  | .num i => Str.ofString (toString i)
  | .nan => Str.ofString "NaN"
  | .str x => x
  | .obj _ => Str.ofString ""

noncomputable def own? (l : List (Str × Vl)) (n : Str) : Option Vl := (l.find? fun p => decide (p.1 = n)).map (·.2)

noncomputable def nearF (rows : List Rw) (n : Str) : Nat → Int → Vl
  | 0, _ => .undef
  | f + 1, k => if k < 0 then .undef else match rows[k.toNat]? with
    | none => .undef
    | some r => match own? r.own n with
      | some v => v
      | none => nearF rows n f r.up
noncomputable def near (rows : List Rw) (k : Nat) (n : Str) : Vl := nearF rows n (k + 1) k

noncomputable def err (n m : Str) : Str := if m = Str.ofString "" then n else if n = Str.ofString "" then m else n ++ Str.ofString ": " ++ m

noncomputable def piece (t : Vl → Str) (v : Vl) : Str := if v.tag < 2 then Str.ofString "" else t v
noncomputable def told (d : Str) (t : Vl → Str) : Vl → Str
  | .undef => d
  | v => t v
noncomputable def thg (t : Vl → List Int → Str) (rows : List Rw) (k : Nat) (P : List Int) (sep : Str) : Str :=
  match rows[k]? with
  | none => Str.ofString ""
  | some r =>
    if r.sort = 0 then Str.ofString "[object Object]" else if r.sort = 2 then Str.ofString "function"
    else if (k : Int) ∈ P then Str.ofString ""
    else if r.sort = 1 then Str.join sep (r.items.map (piece fun v => t v (P ++ [(k : Int)])))
    else err (told (Str.ofString "Error") (fun v => t v (P ++ [(k : Int)])) (near rows k (Str.ofString "name"))) (told (Str.ofString "") (fun v => t v (P ++ [(k : Int)])) (near rows k (Str.ofString "message")))
noncomputable def txt (rows : List Rw) : Nat → Vl → List Int → Str
  | 0, _, _ => Str.ofString ""
  | f + 1, .obj k, P => thg (txt rows f) rows k P (Str.ofString ",")
  | _ + 1, v, _ => leaf v

noncomputable def fpiece (t : Vl → Nat) (v : Vl) : Nat := if v.tag < 2 then 0 else t v
noncomputable def ftold (t : Vl → Nat) : Vl → Nat
  | .undef => 0
  | v => t v
noncomputable def maxs : List Nat → Nat
  | [] => 0
  | x :: r => max x (maxs r)
noncomputable def fthg (t : Vl → List Int → Nat) (rows : List Rw) (k : Nat) (P : List Int) : Nat :=
  match rows[k]? with
  | none => 0
  | some r =>
    if r.sort = 0 then 0 else if r.sort = 2 then 0 else if (k : Int) ∈ P then 0
    else max (P.length + 1) (if r.sort = 1 then maxs (r.items.map (fpiece fun v => t v (P ++ [(k : Int)])))
      else max (ftold (fun v => t v (P ++ [(k : Int)])) (near rows k (Str.ofString "name"))) (ftold (fun v => t v (P ++ [(k : Int)])) (near rows k (Str.ofString "message"))))
noncomputable def far (rows : List Rw) : Nat → Vl → List Int → Nat
  | 0, _, _ => 0
  | f + 1, .obj k, P => fthg (far rows f) rows k P
  | _ + 1, _, _ => 0

/-- how many of the rows are not on the path -/
noncomputable def free (rows : List Rw) (P : List Int) : Nat := (List.range rows.length).countP fun k : Nat => decide ((k : Int) ∉ P)
theorem free_lt {rows : List Rw} {P : List Int} {k : Nat} (hk : k < rows.length) (h : (k : Int) ∉ P) : free rows (P ++ [(k : Int)]) < free rows P := by
  unfold free
  have le : ∀ l : List Nat, l.countP (fun j : Nat => decide ((j : Int) ∉ P ++ [(k : Int)])) ≤ l.countP (fun j : Nat => decide ((j : Int) ∉ P)) := fun l =>
    List.countP_mono_left fun x _ hx => by
      have := of_decide_eq_true hx
      exact decide_eq_true fun q => this (List.mem_append_left _ q)
  have key : ∀ l : List Nat, k ∈ l → l.countP (fun j : Nat => decide ((j : Int) ∉ P ++ [(k : Int)])) < l.countP (fun j : Nat => decide ((j : Int) ∉ P)) := by
    intro l
    induction l with
    | nil => intro h; cases h
    | cons x r ih =>
      intro hm
      rw [List.countP_cons, List.countP_cons]
      have hle := le r
      by_cases hxk : x = k
      · subst hxk
        have e1 : decide ((x : Int) ∉ P ++ [(x : Int)]) = false := decide_eq_false (fun q => q (List.mem_append_right _ (List.mem_singleton.mpr rfl)))
        have e2 : decide ((x : Int) ∉ P) = true := decide_eq_true h
        rw [e1, e2]
        simp only [Bool.false_eq_true, if_false, if_true]
        omega
      · have hr : k ∈ r := by
          rcases List.mem_cons.mp hm with e | e
          · exact absurd e.symm hxk
          · exact e
        have ih' := ih hr
        have e : decide ((x : Int) ∉ P ++ [(k : Int)]) = decide ((x : Int) ∉ P) := by
          apply decide_eq_decide.mpr
          constructor
          · intro q z; exact q (List.mem_append_left _ z)
          · intro q z
            rcases List.mem_append.mp z with z | z
            · exact q z
            · have := List.mem_singleton.mp z
              omega
        rw [e]
        omega
  exact key _ (List.mem_range.mpr hk)

noncomputable def VOk (n : Nat) : Vl → Prop
  | .obj j => j < n
  | .num i => -9 ≤ i ∧ i ≤ 9
  | .str x => x.length ≤ 9
  | _ => True

structure WFR (rows : List Rw) : Prop where
  sort : ∀ (k : Nat) (r : Rw), rows[k]? = some r → r.sort = 0 ∨ r.sort = 1 ∨ r.sort = 2 ∨ r.sort = 3
  up : ∀ (k : Nat) (r : Rw), rows[k]? = some r → -1 ≤ r.up ∧ r.up < k
  item : ∀ (k : Nat) (r : Rw) v, rows[k]? = some r → v ∈ r.items → VOk rows.length v
  ownv : ∀ (k : Nat) (r : Rw) p, rows[k]? = some r → p ∈ r.own → VOk rows.length p.2
  len : rows.length ≤ 100
  its : ∀ (k : Nat) (r : Rw), rows[k]? = some r → r.items.length ≤ 1000

structure Bd (rows : List Rw) : Prop where
  sum : ∀ f (k : Nat) (r : Rw) P (sep : Str), rows[k]? = some r → r.sort = 1 → (k : Int) ∉ P → sep.length ≤ 2 → ((r.items.map (piece fun v => txt rows f v (P ++ [(k : Int)]))).map (fun p => p.length + sep.length + 1)).sum ≤ 1048576
  all : ∀ f v P, VOk rows.length v → (txt rows f v P).length ≤ 2000000

theorem nearF_ok {rows : List Rw} (W : WFR rows) {n : Str} : ∀ f k, VOk rows.length (nearF rows n f k)
  | 0, _ => trivial
  | f + 1, k => by
    unfold nearF
    split
    · trivial
    · split
      · trivial
      · rename_i r hr
        split
        · rename_i v hv
          unfold own? at hv
          obtain ⟨p, hp, rfl⟩ := Option.map_eq_some_iff.mp hv
          exact W.ownv _ _ p hr (List.mem_of_find?_eq_some hp)
        · exact nearF_ok W f r.up
theorem near_ok {rows : List Rw} (W : WFR rows) (k : Nat) (n : Str) : VOk rows.length (near rows k n) := nearF_ok W _ _

/-- one turn of the search upwards -/
theorem nearF_more {rows : List Rw} (W : WFR rows) {n : Str} : ∀ (f f' : Nat) (k : Int), k < f → k < f' → nearF rows n f k = nearF rows n f' k
  | 0, 0, _, _, _ => rfl
  | 0, f' + 1, k, h, _ => by unfold nearF; rw [if_pos (by omega)]
  | f + 1, 0, k, _, h => by unfold nearF; rw [if_pos (by omega)]
  | f + 1, f' + 1, k, h, h' => by
    unfold nearF
    by_cases hk : k < 0
    · rw [if_pos hk, if_pos hk]
    · rw [if_neg hk, if_neg hk]
      cases hr : rows[k.toNat]? with
      | none => rfl
      | some r =>
        cases ho : own? r.own n with
        | some v => simp only [ho]
        | none =>
          have := (W.up _ r hr).2
          simp only [ho]
          exact nearF_more W f f' r.up (by omega) (by omega)
/-- from a place that may be below nought -/
noncomputable def nearI (rows : List Rw) (n : Str) (k : Int) : Vl := nearF rows n (k.toNat + 1) k
theorem nearI_neg {rows : List Rw} {n : Str} {k : Int} (h : k < 0) : nearI rows n k = .undef := by unfold nearI nearF; rw [if_pos h]
theorem nearI_some {rows : List Rw} {n : Str} {k : Int} {r : Rw} {v : Vl} (h : 0 ≤ k) (hr : rows[k.toNat]? = some r) (hv : own? r.own n = some v) : nearI rows n k = v := by
  unfold nearI nearF; rw [if_neg (by omega), hr]; simp only [hv]
theorem nearI_up {rows : List Rw} (W : WFR rows) {n : Str} {k : Int} {r : Rw} (h : 0 ≤ k) (hr : rows[k.toNat]? = some r) (hv : own? r.own n = none) : nearI rows n k = nearI rows n r.up := by
  have e : nearI rows n k = nearF rows n k.toNat r.up := by
    conv => lhs; unfold nearI nearF
    rw [if_neg (by omega), hr]; simp only [hv]
  rw [e]
  have := W.up _ r hr
  exact nearF_more W _ _ _ (by omega) (by omega)
theorem near_is (rows : List Rw) (k : Nat) (n : Str) : near rows k n = nearI rows n (k : Int) := by simp [near, nearI]
/-- values, rows and things as they lie in a heap -/
noncomputable def ValAt (h : Heap) (v : Value) (x : Vl) : Prop := ∃ a t t', v = .ref a ∧ IsTup h a ([.int x.tag t, x.pay t'] : List Value).toArray
theorem ValAt.up {h h' : Heap} {v : Value} {x : Vl} (H : ValAt h v x) (k : h.StaysIn h') : ValAt h' v x := let ⟨a, t, t', e, i⟩ := H; ⟨a, t, t', e, i.keeps k⟩

inductive All2 {α β : Type} (R : α → β → Prop) : List α → List β → Prop
  | nil : All2 R [] []
  | cons {a b l m} : R a b → All2 R l m → All2 R (a :: l) (b :: m)
theorem All2.imp {α β : Type} {R S : α → β → Prop} (f : ∀ a b, R a b → S a b) {l m} (h : All2 R l m) : All2 S l m := by
  induction h with
  | nil => exact .nil
  | cons h _ ih => exact .cons (f _ _ h) ih
theorem All2.len {α β : Type} {R : α → β → Prop} {l : List α} {m : List β} (h : All2 R l m) : l.length = m.length := by
  induction h with
  | nil => rfl
  | cons _ _ ih => exact congrArg (· + 1) ih
theorem All2.get {α β : Type} {R : α → β → Prop} {l : List α} {m : List β} (h : All2 R l m) : ∀ {i : Nat} {b : β}, m[i]? = some b → ∃ a, l[i]? = some a ∧ R a b := by
  induction h with
  | nil => intro i b e; cases e
  | cons h _ ih =>
    intro i b e
    cases i with
    | zero => cases e; exact ⟨_, rfl, h⟩
    | succ i => exact ih (i := i) e
theorem All2.getL {α β : Type} {R : α → β → Prop} {l : List α} {m : List β} (h : All2 R l m) : ∀ {i : Nat} {a : α}, l[i]? = some a → ∃ b, m[i]? = some b ∧ R a b := by
  induction h with
  | nil => intro i b e; cases e
  | cons h _ ih =>
    intro i b e
    cases i with
    | zero => cases e; exact ⟨_, rfl, h⟩
    | succ i => exact ih (i := i) e
theorem All2.app {α β : Type} {R : α → β → Prop} : ∀ {l : List α} {m : List β} {l' : List α} {m' : List β}, All2 R l m → All2 R l' m' → All2 R (l ++ l') (m ++ m')
  | _, _, _, _, .nil, h => h
  | _, _, _, _, .cons h t, h' => .cons h (t.app h')

structure Raw where
  its : List Value
  own : List (Str × Value)
noncomputable def OwnAt (h : Heap) (l : List (Str × Value)) (m : List (Str × Vl)) : Prop := All2 (fun p q => p.1 = q.1 ∧ ValAt h p.2 q.2) l m
theorem OwnAt.up {h h' : Heap} {l m} (H : OwnAt h l m) (k : h.StaysIn h') : OwnAt h' l m := All2.imp (fun _ _ p => ⟨p.1, p.2.up k⟩) H
theorem OwnAt.some {h : Heap} {n : Str} {l : List (Str × Value)} {m : List (Str × Vl)} (H : OwnAt h l m) : ∀ {x}, own? m n = some x → ∃ v, valueAt l n = some v ∧ ValAt h v x := by
  unfold OwnAt at H
  induction H with
  | nil => intro x e; cases e
  | @cons a b l m h t ih =>
    intro x e
    unfold own? at e ih
    unfold valueAt at ih ⊢
    rw [List.find?_cons] at e ⊢
    by_cases hn : b.1 = n
    · rw [decide_eq_true hn] at e
      rw [decide_eq_true (h.1.trans hn)]
      cases e
      exact ⟨a.2, rfl, h.2⟩
    · rw [decide_eq_false hn] at e
      rw [decide_eq_false (fun q => hn (h.1.symm.trans q))]
      exact ih e
theorem OwnAt.none {h : Heap} {n : Str} {l : List (Str × Value)} {m : List (Str × Vl)} (H : OwnAt h l m) : own? m n = none → valueAt l n = none := by
  unfold OwnAt at H
  induction H with
  | nil => intro _; rfl
  | @cons a b l m h t ih =>
    intro e
    unfold own? at e ih
    unfold valueAt at ih ⊢
    rw [List.find?_cons] at e ⊢
    by_cases hn : b.1 = n
    · rw [decide_eq_true hn] at e
      cases e
    · rw [decide_eq_false hn] at e
      rw [decide_eq_false (fun q => hn (h.1.symm.trans q))]
      exact ih e

section
variable (prog : Program) (w : World)
structure RowAt (h : Heap) (a : Addr) (q : Raw) (r : Rw) : Prop where
  ex : ∃ it ow t1 t2, h.DictOf (PySem.strKind prog w) a [(Str.ofString "sort", .int r.sort t1), (Str.ofString "up", .int r.up t2), (Str.ofString "items", .ref it), (Str.ofString "own", .ref ow)] ∧ (a == sysModules) = false ∧
    h.IsList it q.its.toArray ∧ h.DictOf (PySem.strKind prog w) ow q.own ∧ (ow == sysModules) = false
  its : All2 (ValAt h) q.its r.items
  own : OwnAt h q.own r.own
theorem RowAt.up {h h' : Heap} {a q r} (H : RowAt prog w h a q r) (k : h.StaysIn h') : RowAt prog w h' a q r :=
  ⟨by obtain ⟨it, ow, t1, t2, d, n, l, o, n'⟩ := H.ex; exact ⟨it, ow, t1, t2, d.keep k, n, l.at fun o e => k _ o e, o.keep k, n'⟩, H.its.imp fun _ _ v => v.up k, H.own.up k⟩

/-- a Thing of the program -/
structure ThingC (h : Heap) (x : Addr) (k : Nat) (q : Raw) (r : Rw) (dx : Addr) (es : List DictEntry) (n : Nat) (sl gl tl il : Addr) (t1 t2 t3 : Tok) : Prop where
  a1 : h.get? x = some (instObj 92 dx)
  a2 : h.get? dx = some (dictOf es n)
  b1 : getL (Str.ofString "number") es = some (some (.int (k : Int) t1))
  b2 : getL (Str.ofString "sort") es = some (some (.int r.sort t2))
  b3 : getL (Str.ofString "slots") es = some (some (.ref sl))
  b4 : getL (Str.ofString "getters") es = some (some (.ref gl))
  b5 : getL (Str.ofString "setters") es = some (some (.ref tl))
  b6 : getL (Str.ofString "proto") es = some (some (.int r.up t3))
  b7 : getL (Str.ofString "items") es = some (some (.ref il))
  c1 : h.DictOf (PySem.strKind prog w) sl q.own
  c2 : (sl == sysModules) = false
  c3 : h.DictOf (PySem.strKind prog w) gl []
  c4 : (gl == sysModules) = false
  c5 : h.DictOf (PySem.strKind prog w) tl []
  c6 : (tl == sysModules) = false
  c7 : h.IsList il q.its.toArray
theorem ThingC.up {h h' : Heap} {a k' q r dx es n sl gl tl il t1 t2 t3} (H : ThingC prog w h a k' q r dx es n sl gl tl il t1 t2 t3) (k : h.StaysIn h') : ThingC prog w h' a k' q r dx es n sl gl tl il t1 t2 t3 :=
  ⟨k _ _ H.a1, k _ _ H.a2, H.b1, H.b2, H.b3, H.b4, H.b5, H.b6, H.b7, H.c1.keep k, H.c2, H.c3.keep k, H.c4, H.c5.keep k, H.c6, H.c7.at fun o e => k _ o e⟩
structure ThingAt (h : Heap) (x : Addr) (k : Nat) (q : Raw) (r : Rw) : Prop where
  ex : ∃ dx es n sl gl tl il t1 t2 t3, ThingC prog w h x k q r dx es n sl gl tl il t1 t2 t3
  its : All2 (ValAt h) q.its r.items
  own : OwnAt h q.own r.own
theorem ThingAt.up {h h' : Heap} {a k' q r} (H : ThingAt prog w h a k' q r) (k : h.StaysIn h') : ThingAt prog w h' a k' q r :=
  ⟨by obtain ⟨dx, es, n, sl, gl, tl, il, t1, t2, t3, c⟩ := H.ex; exact ⟨dx, es, n, sl, gl, tl, il, t1, t2, t3, c.up _ _ k⟩, H.its.imp fun _ _ v => v.up k, H.own.up k⟩

/-- the program's heap -/
structure ThingsAt (h : Heap) (hp : Addr) (qs : List Raw) (rows : List Rw) : Prop where
  ex : ∃ (dx : Addr) (es : List DictEntry) (n : Nat) (tl : Addr) (xs : List Addr), h.get? hp = some (instObj 113 dx) ∧ h.get? dx = some (dictOf es n) ∧ getL (Str.ofString "things") es = some (some (.ref tl)) ∧ h.IsList tl (xs.map Value.ref).toArray ∧ xs.length = rows.length ∧ qs.length = rows.length ∧
    ∀ (k : Nat) (x : Addr) (q : Raw) (r : Rw), xs[k]? = some x → qs[k]? = some q → rows[k]? = some r → ThingAt prog w h x k q r
theorem ThingsAt.up {h h' : Heap} {hp qs rows} (H : ThingsAt prog w h hp qs rows) (k : h.StaysIn h') : ThingsAt prog w h' hp qs rows :=
  ⟨by obtain ⟨dx, es, n, tl, xs, a1, a2, a3, a4, a5, a6, a7⟩ := H.ex; exact ⟨dx, es, n, tl, xs, k _ _ a1, k _ _ a2, a3, a4.at fun o e => k _ o e, a5, a6, fun i x q r e1 e2 e3 => (a7 i x q r e1 e2 e3).up _ _ k⟩⟩
/-- the law's rows -/
structure RowsAt (h : Heap) (ra : Addr) (qs : List Raw) (rows : List Rw) : Prop where
  ex : ∃ xs : List Addr, h.IsList ra (xs.map Value.ref).toArray ∧ xs.length = rows.length ∧ qs.length = rows.length ∧ ∀ (k : Nat) (x : Addr) (q : Raw) (r : Rw), xs[k]? = some x → qs[k]? = some q → rows[k]? = some r → RowAt prog w h x q r
theorem RowsAt.up {h h' : Heap} {ra qs rows} (H : RowsAt prog w h ra qs rows) (k : h.StaysIn h') : RowsAt prog w h' ra qs rows :=
  ⟨by obtain ⟨xs, a1, a5, a6, a7⟩ := H.ex; exact ⟨xs, a1.at fun o e => k _ o e, a5, a6, fun i x q r e1 e2 e3 => (a7 i x q r e1 e2 e3).up _ _ k⟩⟩
end

section
variable {prog : Program} {w : World} {A : Around} {E : Value → Shared → Prop} {s : Shared} {g : Heap} {L : Addr} {m : Str → Option Value} {value slice : PySem.Expr}
theorem d_item {d : Addr} {kvs : List (Str × Value)} {k : Str} {t : Tok} {v : Value} {Q : Value → Shared → Prop} (hD : s.heap.DictOf (PySem.strKind prog w) d kvs) (hl : valueAt kvs k = some v) (h : Q v { s with toks := s.toks + 1 })
    (hs : subscripted slice false (.ref d) (.str k t) = operate [.ref d, .str k t] (getItem (.ref d) (.str k t)) := by with_unfolding_all rfl) (hg : ∀ r, letTemporaryGo value (.ref d) r = pure () := by intro _; with_unfolding_all rfl) :
    wpAny (model prog w) A (subscriptTail value slice (.ref d) (.str k t)) Q E s :=
  subscriptTail_builtin hD.typeIs slot_dict_getitem.lookup (wpAny_getItem_of (strKind_is _ _ _ _) hD.mapOf hl h) hs hg
theorem d_in {d : Addr} {kvs : List (Str × Value)} {k : Str} {t : Tok} {Q : Value → Shared → Prop} (hD : s.heap.DictOf (PySem.strKind prog w) d kvs) (lo : (d == sysModules) = false) (b : Bool) (hb : (valueAt kvs k).isSome = b) (h : Q (.bool b) { s with toks := s.toks + 1 }) :
    wpAny (model prog w) A (compareOp .In (.str k t) (.ref d)) Q E s := wpAny_in_of (strKind_is _ _ _ _) lo hD.mapOf (by rw [hb]; exact h)
theorem t_item {a : Addr} {l : List Value} {k : Int} {u : Tok} {j : Nat} {x : Value} {Q : Value → Shared → Prop} (ht : IsTup s.heap a l.toArray)
    (hlo : -(2 ^ 63) ≤ k) (hhi : k < 2 ^ 63) (hj : seqIndex? k l.length = some j) (hx : l[j]? = some x) (h : Q x s)
    (hs : subscripted slice false (.ref a) (.int k u) = operate [.ref a, .int k u] (getItem (.ref a) (.int k u)) := by with_unfolding_all rfl) :
    wpAny (model prog w) A (subscriptTail value slice (.ref a) (.int k u)) Q E s := item_tupleT ht hlo hhi hj hx h hs
theorem l_item {a : Addr} {vs : List Value} {k : Int} {u : Tok} {x : Value} {Q : Value → Shared → Prop} (hl : s.heap.IsList a vs.toArray) (h0 : 0 ≤ k) (hhi : k < 2 ^ 63) (hx : vs[k.toNat]? = some x) (h : Q x s)
    (hs : subscripted slice false (.ref a) (.int k u) = operate [.ref a, .int k u] (getItem (.ref a) (.int k u)) := by with_unfolding_all rfl) :
    wpAny (model prog w) A (subscriptTail value slice (.ref a) (.int k u)) Q E s :=
  tail_any hl.typeIs slot_list_getitem.lookup (wpAny_getItem_list hl h0 hhi (by simpa using hx) h) hs
theorem a_get {x C dx : Addr} {es : List DictEntry} {n : Nat} {name : Str} {v : Value} {expr : Bool} {Q : Value → Shared → Prop} {attr : Option Value} {K : Frag} (F : Fr g L s.heap m) (X : K.In g) (h1 : g.get? x = some (instObj C dx)) (h2 : g.get? dx = some (dictOf es n))
    (hg : plainGet K C name = true) (hh : hasDictIn K C = true) (ha : findIn K (.ref C) name = some attr) (hn : noGet K attr = true) (hl : getL name es = some (some v)) (hv : handedIn v = true) (h : Q v { s with toks := s.toks + 1 }) :
    wpAny (model prog w) A (getAttr (.ref x) name expr) Q E s :=
  get_own F X ⟨F.keep _ _ h1, rfl, rfl, F.keep _ _ h2⟩ hg hh ha hn hl hv h
end
local macro_rules | `(tactic| walk_at "getAttr ref") => `(tactic| (k_dflt (refine' a_get ?k1 ?k2 ?k3 ?k3b ?k4 ?k5 ?k6 ?k7 ?k8 ?k9 ?_; (case k1 => assumption); (case k2 => assumption); (case k3 => assumption); (case k3b => assumption); (case k4 => k_is); (case k5 => k_is); (case k6 => k_is); (case k7 => k_is); (case k8 => assumption); (case k9 => k_handed); k_whole)))
local macro_rules | `(tactic| walk_at "compareOp In str ref") => `(tactic| (k_dflt (first | (refine' d_in ?k1 ?k2 true ?k3 ?_; (case k1 => walk_at "m_dict"); (case k2 => assumption); (case k3 => first | assumption | rfl); k_whole) | (refine' d_in ?k1 ?k2 false ?k3 ?_; (case k1 => walk_at "m_dict"); (case k2 => assumption); (case k3 => first | assumption | rfl); k_whole))))
local macro_rules | `(tactic| walk_at "subscriptTail") => `(tactic| ((with_reducible show wpAny _ _ (subscriptTail _ _ (Value.ref _) (Value.str _ _)) _ _ _); k_dflt (refine' d_item ?k1 ?k2 ?_; (case k1 => walk_at "m_dict"); (case k2 => first | assumption | rfl); k_whole)))
local macro_rules | `(tactic| walk_at "subscriptTail") => `(tactic| ((with_reducible show wpAny _ _ (subscriptTail _ _ (Value.ref _) (Value.int _ _)) _ _ _); k_dflt (refine' t_item ?t ?a ?b ?c ?d ?_; (case t => walk_at "m_tup"); (case a => decide); (case b => decide); (case c => rfl); (case d => rfl); k_whole)))
local macro_rules | `(tactic| walk_at "subscriptTail") => `(tactic| ((with_reducible show wpAny _ _ (subscriptTail _ _ (Value.ref _) (Value.int _ _)) _ _ _); k_dflt (refine' l_item ?t ?a ?b ?d ?_; (case t => walk_at "m_list"); (case a => first | exact Int.natCast_nonneg _ | assumption); (case b => assumption); (case d => assumption); k_whole)))
/-- the end of a loop's turn: what the turn may change, changed; what the loop itself holds (κ), as it was -/
noncomputable def TurnEnd (g : Heap) (L : Addr) (J : (Str → Option Value) → List (Addr × Obj) → Prop) (κ : List (Addr × Obj)) (as : List Addr) (s₁ s₂ : Shared) : Prop :=
  ∃ h' tk m' μ', s₂ = { s₁ with heap := h', toks := tk } ∧ Fr g L h' m' ∧ News g L h' (μ' ++ κ) ∧ μ'.map (·.1) = as ∧ J m' μ'
noncomputable def TurnPost (g : Heap) (L : Addr) (J : (Str → Option Value) → List (Addr × Obj) → Prop) (κ : List (Addr × Obj)) (as : List Addr) (s₁ : Shared) (Q : Flow → Shared → Prop) (f : Flow) (s₂ : Shared) : Prop :=
  match f with
  | .ret v => Q (.ret v) s₂
  | .brk => Q .next s₂
  | _ => TurnEnd g L J κ as s₁ s₂
section
variable {prog : Program} {w : World} {A : Around} {E : Value → Shared → Prop} {s : Shared} {env : Env} {g : Heap} {x : Str} {body : List Stmt} {Q : Flow → Shared → Prop}
theorem loop_of {I : Addr} {fp : List Addr} {n : Nat} {P : Nat → Value → Prop} {St : Nat → Heap → Prop} {m₀ : Str → Option Value} {μ : List (Addr × Obj)} (J : Nat → (Str → Option Value) → List (Addr × Obj) → Prop)
    (W : Walks prog w A I fp [I] n P St) (hI : I ∈ fp) (hst : St 0 s.heap) (hfp : ∀ b ∈ fp, b ≠ env.locals) (hnew : g.get? I = none) (hsep : ∀ b ∈ fp, ∀ q ∈ μ, q.1 ≠ b)
    (F : Fr g env.locals s.heap m₀) (N : News g env.locals s.heap μ) (h0 : J 0 m₀ μ)
    (turn : ∀ i v m₁ μ₁ h tk κ, i < n → P i v → J i m₁ μ₁ → μ₁.map (·.1) = μ.map (·.1) → Fr g env.locals h (fun y => if y = x then some v else m₁ y) → News g env.locals h (μ₁ ++ κ) → (∀ p ∈ κ, ∀ a ∈ μ.map (·.1), p.1 ≠ a) →
      wpAny (model prog w) A (execs body env) (TurnPost g env.locals (J (i + 1)) κ (μ.map (·.1)) { s with heap := h, toks := tk } Q) E { s with heap := h, toks := tk })
    (done : ∀ m₁ μ₁ h tk, J n m₁ μ₁ → μ₁.map (·.1) = μ.map (·.1) → Fr g env.locals h m₁ → News g env.locals h μ₁ → Q .next { s with heap := h, toks := tk }) :
    LoopAtV prog w A g env x body Q E (.ref I) s := by
  refine ⟨I, fp, [I], n, P, St, m₀, μ, fun i m₁ μ₁ => μ₁.map (·.1) = μ.map (·.1) ∧ J i m₁ μ₁, rfl, W, fun q => hfp _ q rfl, fun b hb => by rw [List.mem_singleton.mp hb]; exact hnew,
    fun p hp q => hsep I hI p hp (List.mem_singleton.mp q), hst, F, N, ⟨rfl, h0⟩, ?_, fun h' tk m' μ' F' N' _ hJ => done m' μ' h' tk hJ.2 hJ.1 F' N'⟩
  rintro i v m₁ μ₁ s₁ own ⟨h, tk, rfl⟩ hi hP ⟨ha, hJ⟩ hw hown _ _ _ F₁ N₁
  refine wpAny_mono (turn i v m₁ μ₁ h tk own hi hP hJ ha F₁ (fun p hp => N₁ p ?_) fun p hp a haa e => ?_) (fun f s₂ hf => ?_) fun _ _ e => e
  · rcases List.mem_append.mp hp with q | q
    · exact List.mem_append_right _ q
    · exact List.mem_append_left _ q
  · obtain ⟨q, hq, rfl⟩ := List.mem_map.mp haa
    exact hsep p.1 (hown p hp) q hq e.symm
  · have fin : TurnEnd g env.locals (J (i + 1)) own (μ.map (·.1)) { s with heap := h, toks := tk } s₂ → LoopStepU g env.locals [I] own (fun m₁ μ₁ => μ₁.map (·.1) = μ.map (·.1) ∧ J (i + 1) m₁ μ₁) { s with heap := h, toks := tk } .next s₂ := by
      rintro ⟨h', tk', m', μ', rfl, F', N', ha', hJ'⟩
      refine ⟨rfl, h', tk', m', μ', rfl, F', fun p hp => N' p ?_, fun p hp q => ?_, ha', hJ'⟩
      · rcases List.mem_append.mp hp with q | q
        · exact List.mem_append_right _ q
        · exact List.mem_append_left _ q
      · have h1 : p.1 ∈ μ'.map (·.1) := List.mem_map.mpr ⟨p, hp, rfl⟩
        rw [ha'] at h1
        obtain ⟨r, hr, e⟩ := List.mem_map.mp h1
        exact hsep I hI r hr (e.trans (List.mem_singleton.mp q))
    cases f with
    | ret v => exact .ret hf
    | brk => exact .brk hf
    | next => exact .next (fin hf)
    | cont => exact .cont (fin hf)

/-- over a list that stands while the loop runs -/
theorem loop_list {l : Addr} {vs : List Value} {m₀ : Str → Option Value} {μ : List (Addr × Obj)} (J : Nat → (Str → Option Value) → List (Addr × Obj) → Prop)
    (hh : A.handled = none) (hl : s.heap.IsList l vs.toArray) (hlL : l ≠ env.locals) (hlm : ∀ q ∈ μ, q.1 ≠ l) (F : Fr g env.locals s.heap m₀) (N : News g env.locals s.heap μ) (h0 : J 0 m₀ μ)
    (turn : ∀ i v m₁ μ₁ h tk κ, vs[i]? = some v → J i m₁ μ₁ → μ₁.map (·.1) = μ.map (·.1) → Fr g env.locals h (fun y => if y = x then some v else m₁ y) → News g env.locals h (μ₁ ++ κ) → (∀ p ∈ κ, ∀ a ∈ μ.map (·.1), p.1 ≠ a) →
      wpAny (model prog w) A (execs body env) (TurnPost g env.locals (J (i + 1)) κ (μ.map (·.1)) { s with heap := h, toks := tk } Q) E { s with heap := h, toks := tk })
    (done : ∀ m₁ μ₁ h tk, J vs.length m₁ μ₁ → μ₁.map (·.1) = μ.map (·.1) → Fr g env.locals h m₁ → News g env.locals h μ₁ → Q .next { s with heap := h, toks := tk }) :
    wpAny (model prog w) A (pyIter (.ref l)) (fun it s₂ => LoopAtV prog w A g env x body Q E it s₂) E s := by
  have hlt : l < s.heap.objs.size := by obtain ⟨o, ho, _⟩ := hl; exact Heap.lt_size ho
  refine wpAny_pyIter_list hl ?_
  have W := Walks.list (prog := prog) (w := w) hh s.heap.objs.size l (Nat.ne_of_lt hlt) vs.toArray
  rw [List.size_toArray] at W
  refine loop_of J W (by simp) ⟨⟨_, Heap.get?_push_size _ rfl, rfl, rfl⟩, hl.at fun o e => Heap.get?_push_of_some _ e⟩ ?_ (next_is_new F) ?_ (F.push _) (fun p hp => ⟨Heap.get?_push_of_some _ (N p hp).1, (N p hp).2⟩) h0 ?_ done
  · intro b hb
    rcases List.mem_cons.mp hb with rfl | hb
    · exact Nat.ne_of_gt F.ns.lt
    · rw [List.mem_singleton.mp hb]; exact hlL
  · intro b hb q hq
    rcases List.mem_cons.mp hb with rfl | hb
    · exact Nat.ne_of_lt (Heap.lt_size (N q hq).1)
    · rw [List.mem_singleton.mp hb]; exact hlm q hq
  · intro i v m₁ μ₁ h tk κ hi hP
    exact turn i v m₁ μ₁ h tk κ (by simpa using hP)

noncomputable def WTurn (J : Nat → Shared → Prop) (n : Nat) (Q : Flow → Shared → Prop) (f : Flow) (s₃ : Shared) : Prop :=
  match f with
  | .ret v => Q (.ret v) s₃
  | .brk => Q .next s₃
  | _ => ∃ n', n' < n ∧ J n' s₃
theorem while_of {test : PySem.Expr} {orelse : List Stmt} {pos : Pos} (J : Nat → Shared → Prop) (n : Nat) (h0 : J n s)
    (turn : ∀ n s, J n s → wpAny (model prog w) A (isTrue test env (eval test env)) (fun b s₂ => WhlIf b (wpAny (model prog w) A (execs body env) (WTurn J n Q) E s₂) (wpAny (model prog w) A (execs orelse env) Q E s₂)) E s)
    (hE : PassesOwn (model prog w) A env E := by passes_own) : wpAny (model prog w) A (exec (.While test body orelse pos) env) Q E s := by
  refine whl_start 0 ?_
  have key : ∀ n s, J n s → WhlRest prog w A E env test body orelse Q 0 s := by
    intro n
    induction n using Nat.strongRecOn with
    | ind n ih =>
      intro s hJ
      refine whl_turn (k := 0) hE (wpAny_mono (turn n s hJ) (fun b s₂ hb => ?_) fun _ _ e => e)
      cases b with
      | false => exact hb
      | true =>
        refine wpAny_mono (show wpAny (model prog w) A (execs body env) (WTurn J n Q) E s₂ from hb) (fun f s₃ hf => ?_) fun _ _ e => e
        cases f with
        | ret v => exact hf
        | brk => exact hf
        | next => obtain ⟨n', hn, hJ'⟩ := hf; exact ih n' hn s₃ hJ'
        | cont => obtain ⟨n', hn, hJ'⟩ := hf; exact ih n' hn s₃ hJ'
  exact key n s h0
end
section
section
variable {prog : Program} {w : World} {mg mb : Str → Option Value} {A : Around} {s : Shared} {Q E : Value → Shared → Prop}
theorem digits_spec {n : Str} {t1 t2 : Tok} (hn : n = Str.ofString "name" ∨ n = Str.ofString "message") (C : Cx w mg mb A s.heap [] 1 3)
   (hQ : ∀ h' tk' t, Stays [] s.heap h' → Q (.int 0 t) { s with heap := h', toks := tk' }) :
   wpAny (model prog w) A (call (.ref 131) [.str n t1, .int 0 t2]) Q E s := by
  refine call_rule0 (d := 0) (u := 0) (binds := [(Str.ofString "text", .str n t1), (Str.ofString "at", .int 0 t2)]) C (by k_is) (by k_is) (BindsTo.of_eq rfl) (locs rfl) (fun L h₁ tk F N C => ?_) (by decide)
  with_reducible refine hideQ fun KK hKK => ?_
  have X := C.X
  have T := C.T
  rcases hn with rfl | rfl
  · (((repeat' (first | walk1 | (dsimp only; walk1) | (k_unfold; (try dsimp only)) | (refine hKS _ _ ?_; clear hKS KS; (try dsimp only)))); (all_goals (try dsimp only)); (all_goals (repeat ((((fail_if_success (with_reducible show wpAny _ _ _ _ _ _)); (refine (‹∀ (x : _) (y : Shared), _ → _›) _ _ ?_); (try dsimp only))))))))
    all_goals exact hQ _ _ _ (Fr.out0 F)
  · (((repeat' (first | walk1 | (dsimp only; walk1) | (k_unfold; (try dsimp only)) | (refine hKS _ _ ?_; clear hKS KS; (try dsimp only)))); (all_goals (try dsimp only)); (all_goals (repeat ((((fail_if_success (with_reducible show wpAny _ _ _ _ _ _)); (refine (‹∀ (x : _) (y : Shared), _ → _›) _ _ ?_); (try dsimp only))))))))
    all_goals exact hQ _ _ _ (Fr.out0 F)

local macro_rules | `(tactic| walk_at "call ref") => `(tactic| (k_dflt (refine digits_spec (by first | assumption | (left; rfl) | (right; rfl)) (by walk_at "m_c0") ?_); intro h' tk' t' S'; walk_at "m_after0"))

theorem place_spec {n : Str} {t1 : Tok} (hn : n = Str.ofString "name" ∨ n = Str.ofString "message") (C : Cx w mg mb A s.heap [] 2 6)
   (hQ : ∀ h' tk' t, Stays [] s.heap h' → Q (.int (-1) t) { s with heap := h', toks := tk' }) :
   wpAny (model prog w) A (call (.ref 138) [.str n t1]) Q E s := by
  refine call_rule0 (d := 1) (u := 3) (binds := [(Str.ofString "name", .str n t1)]) C (by k_is) (by k_is) (BindsTo.of_eq rfl) (locs rfl) (fun L h₁ tk F N C => ?_) (by decide)
  with_reducible refine hideQ fun KK hKK => ?_
  have X := C.X
  have T := C.T
  rcases hn with rfl | rfl
  · (((repeat' (first | walk1 | (dsimp only; walk1) | (k_unfold; (try dsimp only)) | (refine hKS _ _ ?_; clear hKS KS; (try dsimp only)))); (all_goals (try dsimp only)); (all_goals (repeat ((((fail_if_success (with_reducible show wpAny _ _ _ _ _ _)); (refine (‹∀ (x : _) (y : Shared), _ → _›) _ _ ?_); (try dsimp only))))))))
    all_goals exact hQ _ _ _ (Fr.out0 (by assumption))
  · (((repeat' (first | walk1 | (dsimp only; walk1) | (k_unfold; (try dsimp only)) | (refine hKS _ _ ?_; clear hKS KS; (try dsimp only)))); (all_goals (try dsimp only)); (all_goals (repeat ((((fail_if_success (with_reducible show wpAny _ _ _ _ _ _)); (refine (‹∀ (x : _) (y : Shared), _ → _›) _ _ ?_); (try dsimp only))))))))
    all_goals exact hQ _ _ _ (Fr.out0 (by assumption))

local macro_rules | `(tactic| walk_at "call ref") => `(tactic| (k_dflt (refine place_spec (by first | assumption | (left; rfl) | (right; rfl)) (by walk_at "m_c0") ?_); intro h' tk' t' S'; walk_at "m_after0"))

theorem item_prop_spec {n : Str} {t1 : Tok} {v : Value} (hn : n = Str.ofString "name" ∨ n = Str.ofString "message") (C : Cx w mg mb A s.heap [] 3 9)
   (hQ : ∀ a b h' tk' t t' t'', Stays [] s.heap h' → IsTup h' a ([.int 0 t, .ref b] : List Value).toArray → IsTup h' b ([.int 0 t', .int 0 t''] : List Value).toArray → Q (.ref a) { s with heap := h', toks := tk' }) :
   wpAny (model prog w) A (call (.ref 152) [v, .str n t1]) Q E s := by
  refine call_rule0 (d := 2) (u := 6) (binds := [(Str.ofString "thing", v), (Str.ofString "name", .str n t1)]) C (by k_is) (by k_is) (BindsTo.of_eq rfl) (locs rfl) (fun L h₁ tk F N C => ?_) (by decide)
  with_reducible refine hideQ fun KK hKK => ?_
  have X := C.X
  have T := C.T
  have hlen : ¬ (n == Str.ofString "length") = true := by rcases hn with rfl | rfl <;> decide
  (((repeat' (first | walk1 | (dsimp only; walk1) | (k_unfold; (try dsimp only)) | (refine hKS _ _ ?_; clear hKS KS; (try dsimp only)))); (all_goals (try dsimp only)); (all_goals (repeat ((((fail_if_success (with_reducible show wpAny _ _ _ _ _ _)); (refine (‹∀ (x : _) (y : Shared), _ → _›) _ _ ?_); (try dsimp only))))))))
  all_goals exact hQ _ _ _ _ _ _ _ (Fr.out0 (by assumption)) (News.isTup (by assumption) (by k_mem)) (News.isTup (by assumption) (by k_mem))
end
end
section
local macro_rules | `(tactic| walk_at "call ref") => `(tactic| (k_dflt (refine item_prop_spec (by assumption) (by walk_at "m_c0") ?_); intro a' b' h' tk' t' t2' t3' S' i1' i2'; walk_at "m_after0"))
section
variable {prog : Program} {w : World} {mg mb : Str → Option Value} {A : Around} {s : Shared} {Q E : Value → Shared → Prop}
theorem thing_prop_spec {n : Str} {t1 : Tok} {x : Addr} {k : Nat} {q : Raw} {r : Rw} (hn : n = Str.ofString "name" ∨ n = Str.ofString "message") (H : ThingAt prog w s.heap x k q r) (C : Cx w mg mb A s.heap [] 4 12)
   (hQ : ∀ a h' tk',
     (match own? r.own n with
      | some y => ∃ v b t, valueAt q.own n = some v ∧ ValAt s.heap v y ∧ Made s.heap h' a (tupOf [.int 1 t, v, .ref b])
      | none => ∃ b' b t, Made s.heap h' a (tupOf [.int 0 t, .ref b', .ref b])) → Q (.ref a) { s with heap := h', toks := tk' }) :
   wpAny (model prog w) A (call (.ref 166) [.ref x, .str n t1]) Q E s := by
  refine call_rule0 (d := 3) (u := 9) (binds := [(Str.ofString "thing", .ref x), (Str.ofString "name", .str n t1)]) C (by k_is) (by k_is) (BindsTo.of_eq rfl) (locs rfl) (fun L h₁ tk F N C => ?_) (by decide)
  with_reducible refine hideQ fun KK hKK => ?_
  have X := C.X
  have T := C.T
  with_reducible refine gen fun GG kGG => ?_
  obtain ⟨dx, es, n', sl, gl, tl, il, t1, t2, t3, a1, a2, b1, b2, b3, b4, b5, b6, b7, c1, c2, c3, c4, c5, c6, c7⟩ := H.ex
  with_reducible refine kGG ?_
  clear kGG GG
  cases ho : own? r.own n with
  | some y =>
    rw [ho] at hQ
    with_reducible refine gen fun GG kGG => ?_
    obtain ⟨v, hv, hva⟩ := H.own.some ho
    with_reducible refine kGG ?_
    clear kGG GG
    have hs : (valueAt q.own n).isSome = true := by rw [hv]; rfl
    (((repeat' (first | walk1 | (dsimp only; walk1) | (k_unfold; (try dsimp only)) | (refine hKS _ _ ?_; clear hKS KS; (try dsimp only)))); (all_goals (try dsimp only)); (all_goals (repeat ((((fail_if_success (with_reducible show wpAny _ _ _ _ _ _)); (refine (‹∀ (x : _) (y : Shared), _ → _›) _ _ ?_); (try dsimp only))))))))
    all_goals (refine hQ _ _ _ ?_; exact ⟨v, _, _, hv, hva, made_of (by assumption) (by assumption) (by k_mem)⟩)
  | none =>
    rw [ho] at hQ
    have hv := H.own.none ho
    have hs : (valueAt q.own n).isSome = false := by rw [hv]; rfl
    (((repeat' (first | walk1 | (dsimp only; walk1) | (k_unfold; (try dsimp only)) | (refine hKS _ _ ?_; clear hKS KS; (try dsimp only)))); (all_goals (try dsimp only)); (all_goals (repeat ((((fail_if_success (with_reducible show wpAny _ _ _ _ _ _)); (refine (‹∀ (x : _) (y : Shared), _ → _›) _ _ ?_); (try dsimp only))))))))
    all_goals (refine hQ _ _ _ ?_; exact ⟨_, _, _, made_of (by assumption) (by assumption) (by k_mem)⟩)
end
end
section
variable {prog : Program} {w : World} {mg mb : Str → Option Value} {A : Around} {s : Shared} {Q E : Value → Shared → Prop}
theorem get_prop_spec {n : Str} {t1 t2 t3 : Tok} {a hp : Addr} {k : Nat} {qs : List Raw} {rows : List Rw} {h₀ : Heap} (k0 : h₀.StaysIn s.heap) (hn : n = Str.ofString "name" ∨ n = Str.ofString "message") (H : ThingsAt prog w h₀ hp qs rows) (W : WFR rows)
   (hv : IsTup s.heap a ([.int 6 t2, .int (k : Int) t3] : List Value).toArray) (hk : k < rows.length) (C : Cx w mg mb A s.heap [] 5 15)
   (hQ : ∀ a h' tk',
     ((∃ f v b, ValAt h₀ v (nearI rows n k) ∧ Made s.heap h' a (tupOf [f, v, b])) ∨
      (nearI rows n k = .undef ∧ ∃ f b' b t t', Made s.heap h' a (tupOf [f, .ref b', b]) ∧ Made s.heap h' b' (tupOf [.int 0 t, .int 0 t']))) → Q (.ref a) { s with heap := h', toks := tk' }) :
   wpAny (model prog w) A (call (.ref 173) [.ref hp, .ref a, .str n t1]) Q E s := by
  refine call_rule0 (d := 4) (u := 12) (binds := [(Str.ofString "heap", .ref hp), (Str.ofString "v", .ref a), (Str.ofString "name", .str n t1)]) C (by k_is) (by k_is) (BindsTo.of_eq rfl) (locs rfl) (fun L h₁ tk F N C => ?_) (by decide)
  with_reducible refine hideQ fun KK hKK => ?_
  have X := C.X
  have T := C.T
  with_reducible refine gen fun GG kGG => ?_
  obtain ⟨dx, es, n', tl, xs, a1, a2, a3, a4, a5, a6, a7⟩ := H.ex
  with_reducible refine kGG ?_
  clear kGG GG
  have a1 := k0 _ _ a1
  have a2 := k0 _ _ a2
  have a4 := a4.at fun o e => k0 _ o e
  (((repeat' ((fail_if_success ((with_reducible (first | (show wpAny _ _ (exec (Stmt.While _ _ _ _) _) _ _ _) | (show wpAny _ _ (exec (Stmt.For _ _ _ _ _) _) _ _ _) | (show wpAny _ _ (eval (PySem.Expr.ListComp _ _ _ _) _) _ _ _) | (show wpAny _ _ (exec (Stmt.Try _ _ _ _ _) _) _ _ _))))); (first | walk1 | (dsimp only; walk1) | (k_unfold; (try dsimp only)) | (refine hKS _ _ ?_; clear hKS KS; (try dsimp only))))); (all_goals (try dsimp only)); (all_goals (repeat ((((fail_if_success (with_reducible show wpAny _ _ _ _ _ _)); (refine (‹∀ (x : _) (y : Shared), _ → _›) _ _ ?_); (try dsimp only))))))))
  rename_i F N
  refine while_of (fun n' s' => ∃ j t h' tk' m' u, n' = (j + 1).toNat ∧ s' = { s with heap := h', toks := tk' } ∧ Fr (s.heap) L h' m' ∧ News (s.heap) L h' u ∧ -1 ≤ j ∧ j < (rows.length : Int) ∧
     nearI rows n j = nearI rows n k ∧ m' (Str.ofString "heap") = some (.ref hp) ∧ m' (Str.ofString "name") = some (.str n t1) ∧ m' (Str.ofString "number") = some (.int j t)) _ ⟨k, t3, _, _, _, [], rfl, rfl, F, N, by (first | lia | omega), by (first | lia | omega), rfl, rfl, rfl, rfl⟩ ?_
  intro n' s' hRp1
  with_reducible refine gen fun GG kGG => ?_
  obtain ⟨j, t, h', tk', m', u, rfl, rfl, F', N', hj1, hj2, hnear, m1, m2, m3⟩ := hRp1
  with_reducible refine kGG ?_
  clear kGG GG
  clear F N
  (((repeat' ((fail_if_success ((with_reducible (first | (show wpAny _ _ (exec (Stmt.While _ _ _ _) _) _ _ _) | (show wpAny _ _ (exec (Stmt.For _ _ _ _ _) _) _ _ _) | (show wpAny _ _ (eval (PySem.Expr.ListComp _ _ _ _) _) _ _ _) | (show wpAny _ _ (exec (Stmt.Try _ _ _ _ _) _) _ _ _))))); (first | walk1 | (dsimp only; walk1) | (k_unfold; (try dsimp only)) | (refine hKS _ _ ?_; clear hKS KS; (try dsimp only))))); (all_goals (try dsimp only)); (all_goals (repeat ((((fail_if_success (with_reducible show wpAny _ _ _ _ _ _)); (refine (‹∀ (x : _) (y : Shared), _ → _›) _ _ ?_); (try dsimp only))))))))
  by_cases hj : 0 ≤ j
  · refine WhlIf.yes (decide_eq_true hj) ?_
    have hlt : j.toNat < rows.length := by (first | lia | omega)
    have hl := W.len
    have hj3 : j < 2 ^ 63 := by (first | lia | omega)
    with_reducible refine gen fun GG kGG => ?_
    obtain ⟨x, hx⟩ : ∃ x, xs[j.toNat]? = some x := ⟨_, List.getElem?_eq_getElem (by first | exact Nat.le_of_ble_eq_true rfl | assumption | (first | lia | omega))⟩
    obtain ⟨q, hq⟩ : ∃ q, qs[j.toNat]? = some q := ⟨_, List.getElem?_eq_getElem (by first | exact Nat.le_of_ble_eq_true rfl | assumption | (first | lia | omega))⟩
    obtain ⟨r, hr⟩ : ∃ r, rows[j.toNat]? = some r := ⟨_, List.getElem?_eq_getElem hlt⟩
    with_reducible refine kGG ?_
    clear kGG GG
    have hx' : (xs.map Value.ref)[j.toNat]? = some (.ref x) := by rw [List.getElem?_map, hx]; rfl
    have hT0 := a7 _ _ _ _ hx hq hr
    have hT := hT0.up _ _ k0
    have hn0 := @OwnAt.some _ n _ _ hT0.own
    clear hT0
    (((repeat' ((fail_if_success ((with_reducible (first | (show wpAny _ _ (exec (Stmt.While _ _ _ _) _) _ _ _) | (show wpAny _ _ (exec (Stmt.For _ _ _ _ _) _) _ _ _) | (show wpAny _ _ (eval (PySem.Expr.ListComp _ _ _ _) _) _ _ _) | (show wpAny _ _ (exec (Stmt.Try _ _ _ _ _) _) _ _ _))))); (first | walk1 | (dsimp only; walk1) | (k_unfold; (try dsimp only)) | (refine hKS _ _ ?_; clear hKS KS; (try dsimp only))))); (all_goals (try dsimp only)); (all_goals (repeat ((((fail_if_success (with_reducible show wpAny _ _ _ _ _ _)); (refine (‹∀ (x : _) (y : Shared), _ → _›) _ _ ?_); (try dsimp only))))))))
    rename_i F N
    refine thing_prop_spec hn (hT.up _ _ F.keep) (by walk_at "m_c0") ?_
    intro a₁ h₁ tk₁ hP
    cases ho : own? r.own n with
    | some y =>
      rw [ho] at hP
      with_reducible refine gen fun GG kGG => ?_
      obtain ⟨v, b, tt, hv, hva, hM⟩ := hP
      with_reducible refine kGG ?_
      clear kGG GG
      have e := nearI_some (rows := rows) hj hr ho
      rw [e] at hnear
      with_reducible refine gen fun GG kGG => ?_
      obtain ⟨v', hv', hva'⟩ := hn0 ho
      with_reducible refine kGG ?_
      clear kGG GG
      obtain rfl : v = v' := Option.some.inj (hv.symm.trans hv')
      (((rename Made _ _ _ _ => mM); (rename Fr _ _ _ _ => mF); (rename News _ _ _ _ => mN); (have mN2 := News.made mF mN mM); (have mF2 := Fr.made mF mM); clear mF mN))
      (((repeat' ((fail_if_success ((with_reducible (first | (show wpAny _ _ (exec (Stmt.While _ _ _ _) _) _ _ _) | (show wpAny _ _ (exec (Stmt.For _ _ _ _ _) _) _ _ _) | (show wpAny _ _ (eval (PySem.Expr.ListComp _ _ _ _) _) _ _ _) | (show wpAny _ _ (exec (Stmt.Try _ _ _ _ _) _) _ _ _))))); (first | walk1 | (dsimp only; walk1) | (k_unfold; (try dsimp only)) | (refine hKS _ _ ?_; clear hKS KS; (try dsimp only))))); (all_goals (try dsimp only)); (all_goals (repeat ((((fail_if_success (with_reducible show wpAny _ _ _ _ _ _)); (refine (‹∀ (x : _) (y : Shared), _ → _›) _ _ ?_); (try dsimp only))))))))
      repeat (first | ((((fail_if_success (with_reducible show wpAny _ _ _ _ _ _)); (refine (‹∀ (x : _) (y : Shared), _ → _›) _ _ ?_); (try dsimp only)))) | (dsimp only [WTurn]))
      repeat ((((fail_if_success (with_reducible show wpAny _ _ _ _ _ _)); (refine (‹∀ (x : _) (y : Shared), _ → _›) _ _ ?_); (try dsimp only))))
      refine hQ _ _ _ (.inl ⟨_, _, _, hnear ▸ hva', made_of (by assumption) (by assumption) (by k_mem)⟩)
    | none =>
      rw [ho] at hP
      with_reducible refine gen fun GG kGG => ?_
      obtain ⟨b', b, tt, hM⟩ := hP
      with_reducible refine kGG ?_
      clear kGG GG
      have e := nearI_up W hj hr ho
      have hup := W.up _ _ hr
      with_reducible refine gen fun GG kGG => ?_
      obtain ⟨dy, ys, n₂, sl, gl, ul, il, t4, t5, t6, d1, d2, b1, b2, b3, b4, b5, b6, b7, c1, c2, c3, c4, c5, c6, c7⟩ := hT.ex
      with_reducible refine kGG ?_
      clear kGG GG
      (((rename Made _ _ _ _ => mM); (rename Fr _ _ _ _ => mF); (rename News _ _ _ _ => mN); (have mN2 := News.made mF mN mM); (have mF2 := Fr.made mF mM); clear mF mN))
      (((repeat' ((fail_if_success ((with_reducible (first | (show wpAny _ _ (exec (Stmt.While _ _ _ _) _) _ _ _) | (show wpAny _ _ (exec (Stmt.For _ _ _ _ _) _) _ _ _) | (show wpAny _ _ (eval (PySem.Expr.ListComp _ _ _ _) _) _ _ _) | (show wpAny _ _ (exec (Stmt.Try _ _ _ _ _) _) _ _ _))))); (first | walk1 | (dsimp only; walk1) | (k_unfold; (try dsimp only)) | (refine hKS _ _ ?_; clear hKS KS; (try dsimp only))))); (all_goals (try dsimp only)); (all_goals (repeat ((((fail_if_success (with_reducible show wpAny _ _ _ _ _ _)); (refine (‹∀ (x : _) (y : Shared), _ → _›) _ _ ?_); (try dsimp only))))))))
      rename_i F N
      exact ⟨(r.up + 1).toNat, by (first | lia | omega), r.up, _, _, _, _, _, rfl, rfl, F, N, by (first | lia | omega), by (first | lia | omega), e.symm.trans hnear, m1, m2, rfl⟩
  · refine WhlIf.no (decide_eq_false hj) ?_
    rw [nearI_neg (by first | exact Nat.le_of_ble_eq_true rfl | assumption | (first | lia | omega))] at hnear
    (((repeat' ((fail_if_success ((with_reducible (first | (show wpAny _ _ (exec (Stmt.While _ _ _ _) _) _ _ _) | (show wpAny _ _ (exec (Stmt.For _ _ _ _ _) _) _ _ _) | (show wpAny _ _ (eval (PySem.Expr.ListComp _ _ _ _) _) _ _ _) | (show wpAny _ _ (exec (Stmt.Try _ _ _ _ _) _) _ _ _))))); (first | walk1 | (dsimp only; walk1) | (k_unfold; (try dsimp only)) | (refine hKS _ _ ?_; clear hKS KS; (try dsimp only))))); (all_goals (try dsimp only)); (all_goals (repeat ((((fail_if_success (with_reducible show wpAny _ _ _ _ _ _)); (refine (‹∀ (x : _) (y : Shared), _ → _›) _ _ ?_); (try dsimp only))))))))
    repeat ((((fail_if_success (with_reducible show wpAny _ _ _ _ _ _)); (refine (‹∀ (x : _) (y : Shared), _ → _›) _ _ ?_); (try dsimp only))))
    refine hQ _ _ _ (.inr ⟨hnear.symm, _, _, _, _, _, made_of (by assumption) (by assumption) (by k_mem), made_of (by assumption) (by assumption) (by k_mem)⟩)
end
section
variable {prog : Program} {w : World} {A : Around} {E : Value → Shared → Prop} {h : Heap} {g : Array GenState} {d : Drawn} {t : Nat} {os : OsState}
variable {nm q : Str} {C N P : Addr} {bs bm : List Value} {hdct : Bool} {sn : List Str} {sub : List Value} {ab : Bool} {col : Option Bool} {dd : Option Addr} {k0 k1 k2 k3 k5 : Option Value} {B newId initId : String}

theorem has2 {bm : List Value} {v : Value} (C P : Addr) (hv : bm.contains v = true) : (Value.ref C :: .ref P :: bm).contains v = true := by
  rw [List.contains_cons, List.contains_cons, hv, Bool.or_true, Bool.or_true]
theorem hasNo2 {bm : List Value} {n : String} (C P : Addr) (hv : bm.contains (.type n) = false) : (Value.ref C :: .ref P :: bm).contains (.type n) = false := by
  rw [List.contains_cons, List.contains_cons, hv]; rfl

/-- an own exception class over an own one: what its maker looks at first -/
theorem two_check (F : ExcBaseFacts B newId initId bm) {M : Model} {rest : List Value} {Q : Unit → Shared → Prop} (hC : h.get? C = some (excClassObj nm q C N bs (.ref P :: bm) hdct sn sub ab col dd k0 k1 k2 k3 k5 newId))
    (hq : Q () ⟨h, g, d, t, os⟩) : wpAny M A (checkBuiltinCall newId ⟨.ref C :: rest, []⟩) Q E ⟨h, g, d, t, os⟩ := by
  have hB := has2 C P F.hasB
  have hs := F.noStar
  simp only [checkBuiltinCall, F.newKind, F.newSplit, F.newRow]
  repeat (first | refine wpAny_loadPart_at hC ?_ | (refine wpAny_isSubtype_exc hC ?_; rw [hB]) | refine wpAny_staticBase_exc hC ?_ | refine wpAny_madeBy_exc hC ?_ | simp only [bne_self_eq_false, Bool.false_eq_true, if_false] | wp_step)
  exact hq

theorem two_new (F : ExcBaseFacts B newId initId bm) {R : Result → Shared → Prop} {rest : List Value} (hC : h.get? C = some (excClassObj nm q C N bs (.ref P :: bm) hdct sn sub ab col dd k0 k1 k2 k3 k5 newId))
    (hq : R (.ok (.ret (.ref (h.objs.size + 1)))) ⟨(h.push (tupOf rest)).push { cls := .ref C, data := .fields #[.ref h.objs.size, .none, .none, .none, .bool false, .none] }, g, d, t, os⟩) (hrest : rest.length ≤ sizeLine := by size_fits) :
    codeAny (model prog w) A (.builtin newId ⟨.ref C :: rest, []⟩) R ⟨h, g, d, t, os⟩ := by
  have he := F.ends
  have hB := has2 C P F.hasB
  have hA := hasNo2 C P F.noAttr
  have hN := hasNo2 C P F.noName
  refine codeAny_builtinAt F.entry ?_
  unfold Builtin.«BaseException.__new__»
  refine PySem.wpAt_bind ?_
  show PySem.wpAt _ _ _ (stack >>= _) _ _ _
  refine PySem.wpAt_bind (PySem.wpAt_stack fun p below => PySem.wpAt_of_wpAny ?_)
  wp_walk
  refine PySem.wpAt_of_wpAny ?_
  rw [F.owner]
  repeat (first | with_reducible refine wpAny_madeHere_exc F.canon hC ?_ | with_reducible refine wpAny_loadPart_at hC ?_ | (with_reducible refine wpAny_isSubtype_exc hC ?_; first | rw [hB] | rw [hA] | rw [hN]) | wp_step)
  show R _ _
  rw [Heap.size_push]
  exact hq

theorem two_type_call (F : ExcBaseFacts B newId initId bm) {rest : List Value} {fI : Addr} {oI : Obj} {Q : Fin → Shared → Prop}
    (hC : h.get? C = some (excClassObj nm q C N bs (.ref P :: bm) hdct sn sub ab col dd k0 k1 k2 k3 k5 newId)) (hi : Looks (model prog w) h (typeLookup (.ref C) "__init__") (some (.ref fI)))
    (hfI : h.get? fI = some oI) (hfc : oI.cls = .type "function")
    (hq : ∀ h' e, Heap.MadeExcOf h h' e (.ref C) rest →
      wpAny (model prog w) A (call (.ref fI) (.ref e :: rest)) (fun r s' => r = .none ∧ Q (.done (.ret (.ref e))) s') E ⟨h', g, d, t, os⟩) (hrest : rest.length ≤ sizeLine := by size_fits) :
    wpAny (model prog w) A (Builtin.«type.__call__» ⟨.ref C :: rest, []⟩) Q E ⟨h, g, d, t, os⟩ := by
  repeat (first | with_reducible refine wpAny_loadPart_at hC ?_ | with_reducible refine wpAny_madeBy_exc hC ?_ | wp_step)
  refine codeAny_call_builtin_code (Code.quiet_builtin _ F.quiet) (two_check F hC ?_)
  refine two_new F hC ?_ hrest
  show wpAny _ _ _ _ _ _
  have up : ∀ b o, h.get? b = some o → ((h.push (tupOf rest)).push { cls := .ref C, data := .fields #[.ref h.objs.size, .none, .none, .none, .bool false, .none] }).get? b = some o :=
    fun b o e => Heap.get?_push_of_some _ (Heap.get?_push_of_some _ e)
  have hC₁ := up _ _ hC
  have hfI₁ := up _ _ hfI
  have hi₁ := hi.keeps up
  have hget : ((h.push (tupOf rest)).push
      { cls := .ref C, data := .fields #[.ref h.objs.size, .none, .none, .none, .bool false, .none] }).get? (h.objs.size + 1) = some
      { cls := .ref C, data := .fields #[.ref h.objs.size, .none, .none, .none, .bool false, .none] } := by heap_get
  have hcC : (Value.ref C :: .ref P :: bm).contains (.ref C) = true := by simp
  unfold isInstance
  repeat (first | with_reducible refine wpAny_loadPart_at hget ?_ | (with_reducible refine wpAny_isSubtype_exc hC₁ ?_; rw [hcC]) | wp_step)
  refine hi₁.here ?_
  refine wpAny_holding (wpAny_bind ?_)
  unfold bindSpecial
  refine wpAny_bind (wpAny_typeOf (T := "function") ⟨_, hfI₁, hfc⟩ ?_)
  rw [if_pos (by decide)]
  refine wpAny_pure (wpAny_bind (wpAny_mono (hq _ (h.objs.size + 1) ⟨up, Heap.get?_none_of_le (Nat.le_succ _), h.objs.size, hget, Heap.get?_none_of_le (Nat.le_refl _), ?_⟩) (fun r s' hr => ?_) fun _ _ x => x))
  · exact Heap.get?_push_of_some _ (Heap.get?_push_at rfl rfl)
  · with_reducible refine gen fun GG kGG => ?_
    obtain ⟨rfl, hQ⟩ := hr
    with_reducible refine kGG ?_
    clear kGG GG
    wp_walk
    repeat ((((fail_if_success (with_reducible show wpAny _ _ _ _ _ _)); (refine (‹∀ (x : _) (y : Shared), _ → _›) _ _ ?_); (try dsimp only))))
    exact hQ

theorem two_call (F : ExcBaseFacts B newId initId bm) {rest : List Value} {fI : Addr} {oI : Obj} {Q : Value → Shared → Prop}
    (hC : h.get? C = some (excClassObj nm q C N bs (.ref P :: bm) hdct sn sub ab col dd k0 k1 k2 k3 k5 newId)) (hi : Looks (model prog w) h (typeLookup (.ref C) "__init__") (some (.ref fI)))
    (hfI : h.get? fI = some oI) (hfc : oI.cls = .type "function")
    (hq : ∀ h' e, Heap.MadeExcOf h h' e (.ref C) rest →
      wpAny (model prog w) (A.under (.builtin "type.__call__" ⟨.ref C :: rest, []⟩)) (call (.ref fI) (.ref e :: rest)) (fun r s' => r = .none ∧ Q (.ref e) s') E ⟨h', g, d, t, os⟩) (hrest : rest.length ≤ sizeLine := by size_fits) :
    wpAny (model prog w) A (call (.ref C) rest) Q E ⟨h, g, d, t, os⟩ := by
  have f1 := tc_lookup
  have f2 := tc_bind (.ref C)
  have hT : (⟨h, g, d, t, os⟩ : Shared).TypeIs (.ref C) "type" := ⟨_, hC, rfl⟩
  refine wpAny_call (codeAny_of_tree ?_)
  show wpAny _ _ (callAny (.ref C) _) _ _ _
  repeat (any_goals (first | assumption | with_reducible refine wpAny_loadPart_at hC ?_ | wp_step))
  refine ⟨rfl, ?_⟩
  refine codeAny_call_builtin_at (Code.quiet_builtin _ (by decide +kernel)) entry_typeCall (wpAny_check_type_call_sub hC (two_type_call (hrest := hrest) F hC hi hfI hfc fun h' e hm => ?_))
  exact hq h' e hm
end
noncomputable abbrev rbObj : Obj := excClassObj (Str.ofString "RunBound") (Str.ofString "RunBound") 53 52 [.ref 32] [.ref 32, .type "Exception", .type "BaseException", .type "object"] true [] [] false none none (some (.ref 36)) none (some (.str (Str.ofString "RunBound") 220)) (some (.str (Str.ofString "RunBound") 228)) (some (.bool true)) "Exception.__new__"
theorem rb_at {w : World} {h : Heap} (X : (Mine.head.heap_1_39 w.params).In h) : h.get? 53 = some rbObj := X _ _ (by k_is)
theorem rb_init {prog : Program} {w : World} {h : Heap} (X : (Mine.head.heap_1_39 w.params).In h) : Looks (model prog w) h (typeLookup (.ref 53) "__init__") (some (.ref 50)) := looks_findIn X (by k_is)
section
variable {prog : Program} {w : World} {A : Around} {E : Value → Shared → Prop} {h : Heap} {g : Array GenState} {d : Drawn} {t : Nat} {os : OsState}
  {x : Addr} {mA : Str → Option Value} {name : Str} {v : Value} {ns : List Str}

theorem rb_type {M : Model} {o : Obj} (hx : h.get? x = some o) (hc : o.cls = .ref 53) : Looks M h (typeOf (.ref x)) (.ref 53) := hc ▸ (Looks.ld hx).andThen .now

theorem rb_osa {tk : Tok} {Q : Fin → Shared → Prop} (X : (Mine.head.heap_1_39 w.params).In h) (hn : findIn (Mine.head.heap_1_39 w.params) (.ref 53) name = some none) (I : h.Inst x 53 mA)
    (hq : ∀ h' tk', h'.Inst x 53 (fun y => if y = name then some v else mA y) →
      (∀ b o, b ≠ x → (∀ o₀ dx, h.get? x = some o₀ → o₀.dict = some dx → b ≠ dx) → h.get? b = some o → h'.get? b = some o) →
      (∀ o₀, h.get? x = some o₀ → ∃ o₁, h'.get? x = some o₁ ∧ o₁.cls = o₀.cls ∧ o₁.data = o₀.data ∧ o₁.slots = o₀.slots ∧ (∀ dx, o₀.dict = some dx → o₁.dict = some dx) ∧ (o₀.dict = none → o₁.dict = some h.objs.size)) → Q (.done (.ret .none)) ⟨h', g, d, tk', os⟩) (hw : Within mA ns := by within_ways) (hsz : ns.length ≤ sizeLine := by size_fits) :
    wpAny (model prog w) A (Builtin.«object.__setattr__» ⟨[.ref x, .str name tk, v], []⟩) Q E ⟨h, g, d, t, os⟩ := by
  obtain ⟨o, hx, hc, hnc, hd⟩ := I
  have hpass := PySem.F.store_Exception.passes (.ref x)
  have L0 : Looks (model prog w) h (typeOf (.ref x)) (.ref 53) := rb_type hx hc
  have L2 : Looks (model prog w) h (typeLookup (.ref 53) name) none := looks_findIn X hn
  rw [osa_eq, refuse_eq]
  refine wpAny_bind (wpAny_bind (L0.here (wpAny_bind (wpAny_mroOf_exc (rb_at X) ?_))))
  rw [refuseLoop_ref, refuseLoop_ref, hpass]
  refine wpAny_pure (wpAny_bind (L0.here (wpAny_bind (L2.here (wpAny_bind (wpAny_pure ?_))))))
  unfold Builtin.ObjectAttr.storeInOwnDict
  refine wpAny_bind (wpAny_pure ?_)
  rw [if_neg (by decide)]
  refine wpAny_bind ?_
  unfold Builtin.ObjectAttr.ownDictForStores instanceDict
  repeat (first | (with_reducible refine wpAny_loadPart_at hx ?_; rw [hc]) | with_reducible refine wpAny_loadPart_at (rb_at X) ?_ | wp_step)
  refine wpAny_load (rb_at X) ?_
  refine wpAny_pure ?_
  rw [if_neg (by decide)]
  rcases hd with ⟨hdn, hmA⟩ | ⟨dx, hdx, hne, hns⟩
  ·
    rw [hdn]
    dsimp only
    rw [if_neg (by simp [typeHasDict])]
    split
    · rename_i c hcd
      exact absurd hcd (hnc c)
    · have hx₁ : (h.push { cls := .type "dict", data := .dict #[] }).get? x = some o := Heap.get?_push_of_some _ hx
      have hxs : x ≠ h.objs.size := Nat.ne_of_lt (Heap.lt_size hx)
      refine wpAny_bind (wpAny_alloc' ?_)
      refine wpAny_bind (wpAny_update' hx₁ ?_)
      refine wpAny_pure ?_
      have hgd : ((h.push { cls := .type "dict", data := .dict #[] }).update x fun o => { cls := o.cls, dict := some h.objs.size, data := o.data, slots := o.slots }).get? h.objs.size
          = some { cls := .type "dict", data := .dict #[] } :=
        (Heap.get?_update_ne _ _ _ _ hxs.symm).trans (Heap.get?_push_at rfl rfl)
      have hnd : ((h.push { cls := .type "dict", data := .dict #[] }).update x fun o => { cls := o.cls, dict := some h.objs.size, data := o.data, slots := o.slots }).Ns h.objs.size (fun _ => none) :=
        ⟨_, #[], _, hgd, rfl, fun e he => absurd he (by simp), fun _ => rfl⟩
      show wpAny _ _ (Builtin.ObjectAttr.storeInDict h.objs.size (.str name tk) name v) _ _ _
      unfold Builtin.ObjectAttr.storeInDict Builtin.ObjectAttr.newKeyGuard
      refine wpAny_bind (wpAny_pure (wpAny_bind (wpAny_nsSet1 (Heap.Ns1.of_empty hnd) fun h' hn' hs => ?_)))
      obtain ⟨oD, esD, epD, hoD, hdD, hcD⟩ := hn'.count (Within.cons name v Within.nil)
      refine wpAny_bind (wpAny_lookBehind hoD (by rw [hdD]; exact pastItsLine_dict (Nat.le_trans hcD (by rw [List.length_cons, List.length_nil, sizeLine_eq]; omega))) ?_)
      wp_walk
      have hx' : h'.get? x = some { cls := o.cls, dict := some h.objs.size, data := o.data, slots := o.slots } := ?_
      refine hq h' _ ⟨{ cls := o.cls, dict := some h.objs.size, data := o.data, slots := o.slots }, hx', hc, hnc, .inr ⟨h.objs.size, rfl, hxs.symm, ?_⟩⟩ (fun b ob hbx _ hb => ?_)
        (fun o₀ h₀ => by obtain rfl : o = o₀ := Option.some.inj (hx.symm.trans h₀); exact ⟨_, hx', rfl, rfl, rfl, (fun dx e => by rw [hdn] at e; cases e), fun _ => rfl⟩)
      · obtain ⟨o', es, ep, e1, e2, e3, eu, e4⟩ := hn'
        exact ⟨o', es, ep, e1, e2, e3, eu, fun y => by rw [e4 y]; by_cases hy : y = name <;> simp [hy, hmA]⟩
      · exact (hs.2 b (Nat.ne_of_lt (Heap.lt_size hb))).trans ((Heap.get?_update_ne _ _ _ _ hbx).trans (Heap.get?_push_of_some _ hb))
      · refine (hs.2 x hxs).trans (Heap.get?_update_self _ hx₁ ?_)
        have hfr := (Heap.get?_some_iff.mp hx).2
        obtain ⟨oc, od, odt, osl⟩ := o
        cases odt <;> first | rfl | exact hfr
  ·
    rw [hdx]
    refine wpAny_pure ?_
    show wpAny _ _ (Builtin.ObjectAttr.storeInDict dx (.str name tk) name v) _ _ _
    unfold Builtin.ObjectAttr.storeInDict Builtin.ObjectAttr.newKeyGuard
    refine wpAny_bind (wpAny_pure (wpAny_bind (wpAny_nsSet1 hns fun h' hn' hs => ?_)))
    obtain ⟨oD, esD, epD, hoD, hdD, hcD⟩ := hn'.count (Within.cons name v hw)
    refine wpAny_bind (wpAny_lookBehind hoD (by rw [hdD]; exact pastItsLine_dict (Nat.le_trans hcD (by rw [List.length_cons]; omega))) ?_)
    wp_walk
    refine hq h' _ ⟨o, (hs.2 x hne.symm).trans hx, hc, hnc, .inr ⟨dx, hdx, hne, hn'⟩⟩ (fun b ob _ hbd hb => ?_)
      (fun o₀ h₀ => ⟨o₀, (hs.2 x hne.symm).trans h₀, rfl, rfl, rfl, (fun _ e => e), fun e => by obtain rfl : o = o₀ := Option.some.inj (hx.symm.trans h₀); rw [hdx] at e; cases e⟩)
    exact (hs.2 b (hbd o dx hx hdx)).trans hb

theorem rb_call {tk : Tok} {R : Result → Shared → Prop} (X : (Mine.head.heap_1_39 w.params).In h) (hn : findIn (Mine.head.heap_1_39 w.params) (.ref 53) name = some none) (I : h.Inst x 53 mA)
    (hq : ∀ h' tk', h'.Inst x 53 (fun y => if y = name then some v else mA y) →
      (∀ b o, b ≠ x → (∀ o₀ dx, h.get? x = some o₀ → o₀.dict = some dx → b ≠ dx) → h.get? b = some o → h'.get? b = some o) →
      (∀ o₀, h.get? x = some o₀ → ∃ o₁, h'.get? x = some o₁ ∧ o₁.cls = o₀.cls ∧ o₁.data = o₀.data ∧ o₁.slots = o₀.slots ∧ (∀ dx, o₀.dict = some dx → o₁.dict = some dx) ∧ (o₀.dict = none → o₁.dict = some h.objs.size)) → R (.ok (.ret .none)) ⟨h', g, d, tk', os⟩) (hw : Within mA ns := by within_ways) (hsz : ns.length ≤ sizeLine := by size_fits) :
    codeAny (model prog w) A (.call (.builtin "object.__setattr__") ⟨[.ref x, .str name tk, v], []⟩) R ⟨h, g, d, t, os⟩ := by
  have SF := PySem.F.store_Exception
  obtain ⟨o, hx, hc, _⟩ := id I
  have sub : Looks (model prog w) h (isInstance (.ref x) (.type "object")) true := (rb_type hx hc).andThen (looks_mroIn X (by kernel_rfl))
  exact codeAny_call_builtin SF.slot.plain SF.entry (@check_slot (model prog w) _ _ ⟨h, g, d, t, os⟩ "object.__setattr__" "object" "__setattr__" (.ref x) [.str name tk, v] [] _ SF.kind SF.split sub (SF.args (.ref x) (.str name tk) v) (rb_osa X hn I hq hw hsz))

theorem rb_set {Q : Unit → Shared → Prop} (X : (Mine.head.heap_1_39 w.params).In h) (hn : findIn (Mine.head.heap_1_39 w.params) (.ref 53) name = some none) (I : h.Inst x 53 mA)
    (hq : ∀ h' tk', h'.Inst x 53 (fun y => if y = name then some v else mA y) →
      (∀ b o, b ≠ x → (∀ o₀ dx, h.get? x = some o₀ → o₀.dict = some dx → b ≠ dx) → h.get? b = some o → h'.get? b = some o) →
      (∀ o₀, h.get? x = some o₀ → ∃ o₁, h'.get? x = some o₁ ∧ o₁.cls = o₀.cls ∧ o₁.data = o₀.data ∧ o₁.slots = o₀.slots ∧ (∀ dx, o₀.dict = some dx → o₁.dict = some dx) ∧ (o₀.dict = none → o₁.dict = some h.objs.size)) → Q () ⟨h', g, d, tk', os⟩) (hw : Within mA ns := by within_ways) (hsz : ns.length ≤ sizeLine := by size_fits) :
    wpAny (model prog w) A (setAttr (.ref x) name v) Q E ⟨h, g, d, t, os⟩ := by
  obtain ⟨o, hx, hc, _⟩ := id I
  have I0 : Looks (model prog w) h (typeOf (.ref x)) (.ref 53) := rb_type hx hc
  have hs : findIn (Mine.head.heap_1_39 w.params) (.ref 53) "__setattr__" = some (some (.builtin "object.__setattr__")) := by kernel_rfl
  refine wpAny_bind (wpAny_mkText (wpAny_bind (wpAny_bind (wpAny_bind (I0 _ _ _ _ (fun _ _ e => e) (looks_findIn X hs _ _ _ _ (fun _ _ e => e) (wpAny_holding ?_)))))))
  rw [PySem.F.store_object.slot.bind]
  refine wpAny_bind (wpAny_pure (wpAny_bind (wpAny_call (rb_call X hn I (fun h' tk' I' hk hs => ?_) hw hsz))))
  exact wpAny_pure (wpAny_pure (hq h' tk' I' hk hs))

structure RbIn (g : Heap) (L : Addr) (h : Heap) (x : Addr) (da : Data) (mA : Str → Option Value) : Prop where
  ne : x ≠ L
  new : g.get? x = none
  inst : h.Inst x 53 mA
  at_ : ∃ o, h.get? x = some o ∧ o.cls = .ref 53 ∧ o.data = da ∧ ∀ dx, o.dict = some dx → dx ≠ L ∧ g.get? dx = none

theorem rb_step {g₀ : Heap} {L : Addr} {m : Str → Option Value} {da : Data} {Q : Unit → Shared → Prop} (X : (Mine.head.heap_1_39 w.params).In g₀) (F : Fr g₀ L h m) (R : RbIn g₀ L h x da mA) (hn : findIn (Mine.head.heap_1_39 w.params) (.ref 53) name = some none)
    (hq : ∀ h' tk', Fr g₀ L h' m → RbIn g₀ L h' x da (fun y => if y = name then some v else mA y) → Q () ⟨h', g, d, tk', os⟩) (hw : Within mA ns := by within_ways) (hsz : ns.length ≤ sizeLine := by size_fits) :
    wpAny (model prog w) A (setAttr (.ref x) name v) Q E ⟨h, g, d, t, os⟩ := by
  obtain ⟨oL, _, _, hL, _⟩ := id F.ns
  obtain ⟨o, ho, hc, hda, hdx⟩ := R.at_
  refine rb_set (X.keeps F.keep) hn R.inst (fun h' tk' I' hk hs => ?_) hw hsz
  obtain ⟨o₁, h1, c1, d1, s1, e1, e2⟩ := hs _ ho
  have kp : ∀ b ob, b ≠ x → (∀ dx, o.dict = some dx → b ≠ dx) → h.get? b = some ob → h'.get? b = some ob := fun b ob hb hd hg => hk b ob hb (fun o₀ dx h0 hd0 => by rw [ho] at h0; cases h0; exact hd dx hd0) hg
  have kg : ∀ b ob, g₀.get? b = some ob → h'.get? b = some ob := fun b ob e => kp b ob (fun q => by rw [q, R.new] at e; cases e) (fun dx hd q => by rw [q, (hdx dx hd).2] at e; cases e) (F.keep b ob e)
  have kL : ∀ ob, h.get? L = some ob → h'.get? L = some ob := fun ob e => kp L ob R.ne.symm (fun dx hd q => (hdx dx hd).1 q.symm) e
  refine hq h' tk' ⟨?_, kg, F.above⟩ ⟨R.ne, R.new, I', o₁, h1, c1.trans hc, d1.trans hda, fun dx hd => ?_⟩
  · obtain ⟨oL, es, ep, e, r⟩ := F.ns
    exact ⟨oL, es, ep, kL _ e, r⟩
  · cases hod : o.dict with
    | some dy => rw [e1 dy hod] at hd; cases hd; exact hdx _ hod
    | none =>
      rw [e2 hod] at hd; cases hd
      refine ⟨fun q => Nat.lt_irrefl L ?_, ?_⟩
      · have := Heap.lt_size hL
        rw [q] at this; exact this
      · cases q : g₀.get? h.objs.size with
        | none => rfl
        | some ob => exact absurd (Heap.lt_size (F.keep _ _ q)) (Nat.lt_irrefl _)
end
section
variable {prog : Program} {w : World} {mg mb : Str → Option Value} {A : Around} {s : Shared} {Q E : Value → Shared → Prop} {g : Heap} {L e : Addr} {d u : Nat} {da : Data}
theorem Cb.make {C : Addr} {vals : List Value} (c : Cb w mg mb A g L (d + 1) (u + 1)) : Cb w mg mb (A.under (.builtin "type.__call__" ⟨.ref C :: vals, []⟩)) g L d u where
  X := c.X
  T := c.T
  hd := c.hd
  dp := by have := c.dp; show A.depth + 1 + d < _; (first | lia | omega)
  un := by have := c.un; show A.units + 1 + u < _; (first | lia | omega)
  fr := by
    obtain ⟨env, l, a, r⟩ := c.fr
    refine ⟨env, l, ?_, r⟩
    simp only [Around.under, a]
    first | rfl | kernel_rfl

theorem rb_init_spec {v : Value} (C : Cx w mg mb A s.heap [e] 1 3) (he : s.heap.get? e = some { cls := .ref 53, data := da }) (hnc : ∀ c, da ≠ .cls c)
   (hQ : ∀ h' tk', Stays [e] s.heap h' → (∃ o, h'.get? e = some o ∧ o.cls = .ref 53 ∧ o.data = da) → Q .none { s with heap := h', toks := tk' }) :
   wpAny (model prog w) A (call (.ref 50) [.ref e, v]) Q E s := by
  have CX : (Mine.head.heap_1_39 w.params).In s.heap := C.X.keeps fun b o e => of_hideAll _ e
  refine call_rule (d := 0) (u := 0) (binds := [(Str.ofString "self", .ref e), (Str.ofString "text", v)]) C (by k_is) (by k_is) (binds_K CX rfl (by k_is) rfl rfl rfl) (locs rfl) (fun L h₁ tk F hk C => ?_) (by decide)
  with_reducible refine hideQ fun KK hKK => ?_
  have X := C.X
  have T := C.T
  with_reducible refine gen fun GG kGG => ?_
  obtain ⟨h1, n1⟩ := hk _ _ he
  with_reducible refine kGG ?_
  clear kGG GG
  have R : RbIn (hideAll s.heap [e]) L h₁ e da (fun _ => none) := ⟨n1, hideAll_none _ (.head _), ⟨_, h1, rfl, hnc, .inl ⟨rfl, fun _ => rfl⟩⟩, _, h1, rfl, rfl, fun dx q => by cases q⟩
  have N : News (hideAll s.heap [e]) L h₁ [] := News.nil
  (((repeat' (first | walk1 | (dsimp only; walk1) | (k_unfold; (try dsimp only)) | (refine hKS _ _ ?_; clear hKS KS; (try dsimp only)))); (all_goals (try dsimp only)); (all_goals (repeat ((((fail_if_success (with_reducible show wpAny _ _ _ _ _ _)); (refine (‹∀ (x : _) (y : Shared), _ → _›) _ _ ?_); (try dsimp only))))))))
  refine rb_step (ns := []) C.X F R (by kernel_rfl) (fun h' tk' F' R' => ?_) Within.nil
  clear N R F
  (((repeat' (first | walk1 | (dsimp only; walk1) | (k_unfold; (try dsimp only)) | (refine hKS _ _ ?_; clear hKS KS; (try dsimp only)))); (all_goals (try dsimp only)); (all_goals (repeat ((((fail_if_success (with_reducible show wpAny _ _ _ _ _ _)); (refine (‹∀ (x : _) (y : Shared), _ → _›) _ _ ?_); (try dsimp only))))))))
  refine rb_step (ns := [_]) C.X F' R' (by kernel_rfl) (fun h' tk' F' R' => ?_) (Within.cons _ _ Within.nil)
  have N : News (hideAll s.heap [e]) L h' [] := News.nil
  (((repeat' (first | walk1 | (dsimp only; walk1) | (k_unfold; (try dsimp only)) | (refine hKS _ _ ?_; clear hKS KS; (try dsimp only)))); (all_goals (try dsimp only)); (all_goals (repeat ((((fail_if_success (with_reducible show wpAny _ _ _ _ _ _)); (refine (‹∀ (x : _) (y : Shared), _ → _›) _ _ ?_); (try dsimp only))))))))
  with_reducible refine gen fun GG kGG => ?_
  obtain ⟨o, h2, c2, d2, _⟩ := R'.at_
  with_reducible refine kGG ?_
  clear kGG GG
  repeat ((((fail_if_success (with_reducible show wpAny _ _ _ _ _ _)); (refine (‹∀ (x : _) (y : Shared), _ → _›) _ _ ?_); (try dsimp only))))
  exact hQ _ _ (Fr.out F') ⟨o, h2, c2, d2⟩
end
noncomputable abbrev fl (l : List Env) : List Addr := l.filterMap (·.frame)
/-- an own RunBound flies out of a call that could change D -/
noncomputable def Fly (A : Around) (D : List Addr) (h h' : Heap) (e : Addr) : Prop :=
  ∃ l a0, A.frames = some l ∧ Heap.FlyingW (hideAll h (D ++ fl l)) l e (.ref 53) a0 h' ∧ ∀ b ∈ fl l, b ∉ D → ∀ o, h.get? b = some o → (∀ vs, o.data ≠ .fields vs) → ∃ sl, h'.get? b = some { o with slots := sl }

theorem funFrames_on {B base h : Heap} : ∀ {l : List Env}, h.FunFrames B l → (∀ a ∈ fl l, base.get? a = none) → h.FunFrames base l
  | [], _, _ => trivial
  | env :: _, ⟨hk, ⟨L, o, hf, _, ho, hd⟩, hr⟩, hin => ⟨hk, ⟨L, o, hf, hin _ (List.mem_filterMap.mpr ⟨env, .head _, hf⟩), ho, hd⟩, funFrames_on hr fun a ha => hin a (by obtain ⟨x, hx, hy⟩ := List.mem_filterMap.mp ha; exact List.mem_filterMap.mpr ⟨x, .tail _ hx, hy⟩)⟩

section
variable {w : World} {mg mb : Str → Option Value} {A : Around} {h₀ h g : Heap} {s' : Shared} {E : Value → Shared → Prop} {Q : Unit → Shared → Prop} {L e : Addr} {env : Env} {l : List Env} {m : Str → Option Value} {D D' : List Addr} {d u : Nat} {M : Model}
theorem fr_none (F : Fr g L h m) : g.get? L = none := Heap.get?_none_of_le F.above

theorem leave_fly {as : List Env} (hA : A.frames = some as) (hf : env.frame = some L) (hfr : Frames (hideAll h₀ D') as) (F : Fr (hideAll h₀ D') L h m)
    (hD : ∀ a ∈ D, (hideAll h₀ D').get? a = none) (hL : L ∉ D) (R : Fly (A.deeper env) D h s'.heap e) (hQ : ∀ h', Fly A D' h₀ h' e → Q () { s' with heap := h' }) :
    wpAny M (A.deeper env) (leaving env (.ref e)) Q E s' := by
  with_reducible refine gen fun GG kGG => ?_
  obtain ⟨l, a0, hl, hfly, hsl⟩ := R
  with_reducible refine kGG ?_
  clear kGG GG
  obtain rfl : l = env :: as := Option.some.inj (hl.symm.trans (Around.frames_deeper hA))
  have hLin : L ∈ fl (env :: as) := List.mem_filterMap.mpr ⟨env, .head _, hf⟩
  have hgL := fr_none F
  have inl : ∀ {b}, b ∈ fl as → b ∈ fl (env :: as) := fun hb => by obtain ⟨x, hx, hy⟩ := List.mem_filterMap.mp hb; exact List.mem_filterMap.mpr ⟨x, .tail _ hx, hy⟩
  have off : ∀ {b}, b ∈ fl (env :: as) → b = L ∨ b ∈ fl as := fun {b} hb => by
    with_reducible refine gen fun GG kGG => ?_
    obtain ⟨x, hx, hy⟩ := List.mem_filterMap.mp hb
    with_reducible refine kGG ?_
    clear kGG GG
    rcases (List.mem_cons.mp hx) with rfl | hx
    · rw [hf] at hy; exact .inl (Option.some.inj hy).symm
    · exact .inr (List.mem_filterMap.mpr ⟨x, hx, hy⟩)
  have st : (hideAll h₀ (D' ++ fl as)).StaysIn (hideAll h (D ++ fl (env :: as))) := fun b o q => by
    have q0 := of_hideAll _ q
    have nm : b ∉ D' ++ fl as := fun z => by rw [hideAll_none _ z] at q; cases q
    have q1 : (hideAll h₀ D').get? b = some o := hideAll_get _ q0 fun z => nm (List.mem_append_left _ z)
    refine hideAll_get _ (F.keep _ _ q1) fun z => ?_
    rcases List.mem_append.mp z with z | z
    · rw [hD b z] at q1; cases q1
    · rcases off z with rfl | z
      · rw [hgL] at q1; cases q1
      · exact nm (List.mem_append_right _ z)
  refine wpAny_leaves_onW (Around.frames_deeper hA) hf (flyingW_base st hfly) fun h'' x1 x2 => hQ h'' ⟨as, a0, hA, x1, fun b hb hbD o ho hn => ?_⟩
  have q1 : (hideAll h₀ D').get? b = some o := hideAll_get _ ho hbD
  obtain ⟨sl, e1⟩ := hsl b (inl hb) (fun z => by rw [hD b z] at q1; cases q1) o (F.keep _ _ q1) hn
  with_reducible refine gen fun GG kGG => ?_
  obtain ⟨sl', e2⟩ := x2 b _ e1 hn
  with_reducible refine kGG ?_
  clear kGG GG
  exact ⟨sl', e2⟩

theorem first_fly {as : List Env} {oe : Obj} {vs : Array Value} {a0 : Value} (hA : A.frames = some as) (hf : env.frame = some L) (hk : env.scope.kind ≠ .module) (hfr : Frames (hideAll h₀ D') as) (F : Fr (hideAll h₀ D') L h m)
    (S : Stays [] h s'.heap) (hen : h.get? e = none) (he : s'.heap.get? e = some oe) (hc : oe.cls = .ref 53) (hd : oe.data = .fields vs) (h1 : vs[1]? = some .none) (h0 : vs[0]? = some a0)
    (hQ : ∀ h', Fly A D' h₀ h' e → Q () { s' with heap := h' }) :
    wpAny M (A.deeper env) (leaving env (.ref e)) Q E s' := by
  have st : (hideAll h₀ (D' ++ fl as)).StaysIn s'.heap := fun b o q => by
    have nm : b ∉ D' ++ fl as := fun z => by rw [hideAll_none _ z] at q; cases q
    exact S _ _ (fun q => nomatch q) (F.keep _ _ (hideAll_get _ (of_hideAll _ q) fun z => nm (List.mem_append_left _ z)))
  have new : ∀ b, (hideAll h₀ D').get? b = none → (hideAll h₀ (D' ++ fl as)).get? b = none := fun b hb => by
    cases q : (hideAll h₀ (D' ++ fl as)).get? b with
    | none => rfl
    | some x =>
      have nm : b ∉ D' ++ fl as := fun z => by rw [hideAll_none _ z] at q; cases q
      have := hideAll_get D' (of_hideAll _ q) fun z => nm (List.mem_append_left _ z)
      rw [hb] at this; cases this
  have hen' : (hideAll h₀ D').get? e = none := by
    cases q : (hideAll h₀ D').get? e with
    | none => rfl
    | some x => rw [F.keep _ _ q] at hen; cases hen
  obtain ⟨oL, es, ep, hL', hLd, _⟩ := F.ns
  have ff : s'.heap.FunFrames (hideAll h₀ (D' ++ fl as)) (env :: as) := by
    refine ⟨hk, ⟨L, oL, hf, new _ (fr_none F), S _ _ (fun q => nomatch q) hL', fun vs q => by rw [hLd] at q; cases q⟩, ?_⟩
    refine funFrames_on (hfr.of_keeps fun b o q _ => ⟨o, S _ _ (fun q => nomatch q) (F.keep _ _ q), rfl⟩) fun a ha => hideAll_none _ (List.mem_append_right _ ha)
  refine wpAny_leaving_firstW (Around.frames_deeper hA) ff hf he st (new _ hen') hd h1 h0 fun h' hL => ?_
  with_reducible refine gen fun GG kGG => ?_
  obtain ⟨k1, ⟨_, _, k2⟩, k3, k4⟩ := hL
  with_reducible refine kGG ?_
  clear kGG GG
  rw [hc] at k3
  repeat ((((fail_if_success (with_reducible show wpAny _ _ _ _ _ _)); (refine (‹∀ (x : _) (y : Shared), _ → _›) _ _ ?_); (try dsimp only))))
  refine hQ h' ⟨as, a0, hA, ⟨k1, new _ hen', k2, k3⟩, fun b hb hbD o ho hn => ?_⟩
  exact k4 b o (S _ _ (fun q => nomatch q) (F.keep _ _ (hideAll_get _ ho hbD))) hn

theorem rb_raiseStmt {x : Sem Value} {s : Shared} {Q : Flow → Shared → Prop} (hh : A.handled = none)
    (h : wpAny M A x (fun v s₁ => ∃ e oe vs, v = .ref e ∧ (Mine.head.heap_1_39 w.params).In s₁.heap ∧ s₁.heap.get? e = some oe ∧ oe.cls = .ref 53 ∧ oe.data = .fields vs ∧ vs[1]? = some .none ∧ E (.ref e) s₁) E s) :
    wpAny M A (raiseStmt env (some x) none) Q E s := by
  unfold raiseStmt
  refine wpAny_bind (wpAny_mono h (fun v s₁ h₁ => ?_) fun _ _ x => x)
  with_reducible refine gen fun GG kGG => ?_
  obtain ⟨e, oe, vs, rfl, X, he, hc, hd, h1, hE⟩ := h₁
  obtain ⟨hp, g, d, tk, os⟩ := s₁
  with_reducible refine kGG ?_
  clear kGG GG
  have hC := rb_at X
  repeat (first | (with_reducible refine wpAny_loadPart_at he ?_; rw [hc]) | with_reducible refine wpAny_loadPart_at hC ?_ | (with_reducible refine wpAny_isSubtype_exc hC ?_) | wp_step)
  rw [hd]
  refine wpAny_pure ?_
  rw [h1]
  refine wpAny_pure ?_
  rw [if_neg (by decide)]
  exact wpAny_pure (wpAny_raiseNew_none hh hE)
end

section
variable {prog : Program} {w : World} {mg mb : Str → Option Value} {A : Around} {s : Shared} {Q E : Value → Shared → Prop} {g : Heap} {L : Addr} {m : Str → Option Value} {d u : Nat}
theorem rb_Raise {M : Model} {env : Env} {x : PySem.Expr} {pos : Pos} {Q : Flow → Shared → Prop} (hh : A.handled = none)
    (h : wpAny M A (eval x env) (fun v s₁ => ∃ e oe vs, v = .ref e ∧ (Mine.head.heap_1_39 w.params).In s₁.heap ∧ s₁.heap.get? e = some oe ∧ oe.cls = .ref 53 ∧ oe.data = .fields vs ∧ vs[1]? = some .none ∧ E (.ref e) s₁) E s) :
    wpAny M A (exec (.Raise (some x) none pos) env) Q E s := by
  rw [arm_exec_Raise]
  simp only [evalOpt, Option.map]
  exact wpAny_bind (wpAny_standAt (rb_raiseStmt hh (wpAny_bind (wpAny_mono h (fun v s₁ h => wpAny_bind (wpAny_standAt (wpAny_pure h))) fun _ _ x => x))))
/-- RunBound(v), called in a frame -/
theorem rb_make {v : Value} (C : Cb w mg mb A g L (d + 2) (u + 4)) (F : Fr g L s.heap m)
    (hQ : ∀ h' tk' e o vs a0, Stays [] s.heap h' → s.heap.get? e = none → h'.get? e = some o → o.cls = .ref 53 → o.data = .fields vs → vs[1]? = some .none → vs[0]? = some a0 → Q (.ref e) { s with heap := h', toks := tk' }) :
    wpAny (model prog w) A (call (.ref 53) [v]) Q E s := by
  have X : (Mine.head.heap_1_39 w.params).In s.heap := C.X.keeps F.keep
  with_reducible refine gen fun GG kGG => ?_
  obtain ⟨oI, hI, hIc⟩ : ∃ o, s.heap.get? 50 = some o ∧ o.cls = .type "function" := ⟨_, X _ _ (by k_is), rfl⟩
  obtain ⟨hp, gn, dr, tk, os⟩ := s
  with_reducible refine kGG ?_
  clear kGG GG
  refine two_call PySem.F.excBase_Exception (rb_at X) (rb_init X) hI hIc fun h' e hm => ?_
  with_reducible refine gen fun GG kGG => ?_
  obtain ⟨t, he, htn, ht⟩ := hm.there
  with_reducible refine kGG ?_
  clear kGG GG
  have Fe : Fr g L h' m := Fr.st0 F (fun b o _ q => hm.keeps b o q)
  have ge : g.get? e = none := by
    cases q : g.get? e with
    | none => rfl
    | some x => have := F.keep _ _ q; rw [hm.new] at this; cases this
  have eL : L ≠ e := fun q => by
    obtain ⟨oL, _, _, hL, _⟩ := F.ns
    rw [q, hm.new] at hL; cases hL
  refine rb_init_spec (mg := mg) (mb := mb) (Cb.at (Cb.make (Cb.weaken C (d' := 1 + 1) (u' := 3 + 1) (by first | exact Nat.le_of_ble_eq_true rfl | assumption | (first | lia | omega)) (by first | exact Nat.le_of_ble_eq_true rfl | assumption | (first | lia | omega)))) Fe (fun a q => by rw [List.mem_singleton.mp q]; exact ge) (fun q => eL (List.mem_singleton.mp q)) (Nat.le_refl _) (Nat.le_refl _)) he (fun c q => by cases q) fun h'' tk'' S ho => ⟨rfl, ?_⟩
  with_reducible refine gen fun GG kGG => ?_
  obtain ⟨o, ho, hc, hd⟩ := ho
  with_reducible refine kGG ?_
  clear kGG GG
  repeat ((((fail_if_success (with_reducible show wpAny _ _ _ _ _ _)); (refine (‹∀ (x : _) (y : Shared), _ → _›) _ _ ?_); (try dsimp only))))
  exact hQ h'' tk'' e o _ _ (fun b ob _ q => S b ob (fun z => by rw [List.mem_singleton.mp z] at q; rw [hm.new] at q; cases q) (hm.keeps b ob q)) hm.new ho hc hd rfl rfl
end
/-- the list of what is open -/
noncomputable def SeenAt (h : Heap) (b : Addr) (ns : List Int) : Prop := ∃ its n, h.get? b = some (listOf its n) ∧ IntsAre its.toList ns
section
variable {prog : Program} {w : World} {mg mb : Str → Option Value} {A : Around} {s : Shared} {Q E : Value → Shared → Prop}
theorem open_text_spec {b x : Addr} {k : Nat} {q : Raw} {r : Rw} {ns : List Int} (hb : SeenAt s.heap b ns) (hl : ns.length ≤ 1000) (H : ThingAt prog w (hideAll s.heap [b]) x k q r) (C0 : Cx w mg mb A s.heap [b] 3 10)
   (hQ : ns.length < 15 → ∀ h' tk', Stays [b] s.heap h' → SeenAt h' b (ns ++ [(k : Int)]) → Q .none { s with heap := h', toks := tk' })
   (hE : 15 ≤ ns.length → ∀ e h' tk', Fly A [b] s.heap h' e → E (.ref e) { s with heap := h', toks := tk' }) :
   wpAny (model prog w) A (call (.ref 208) [.ref x, .ref b]) Q E s := by
  with_reducible refine gen fun GG kGG => ?_
  obtain ⟨its, n, hb, hi⟩ := hb
  with_reducible refine kGG ?_
  clear kGG GG
  have hsz := intsAre_size hi
  have hsz1 : its.size ≤ sizeLine := by rw [hsz, sizeLine_eq]; (first | lia | omega)
  refine call_ruleE (d := 2) (u := 7) (binds := [(Str.ofString "thing", .ref x), (Str.ofString "seen", .ref b)]) C0 (by k_is) (by k_is) (BindsTo.of_eq rfl) (locs rfl) (fun L h₁ tk F hk C => ?_) (by decide)
  with_reducible refine hideQ fun KK hKK => ?_
  have X := C.X
  have T := C.T
  have N : News (hideAll s.heap [b]) L h₁ [(b, listOf its n)] := fun p hp => by rw [List.mem_singleton.mp hp]; exact ⟨(hk _ _ hb).1, (hk _ _ hb).2, hideAll_none _ (.head _)⟩
  with_reducible refine gen fun GG kGG => ?_
  obtain ⟨dx, es, n', sl, gl, tl, il, t1, t2, t3, a1, a2, b1, b2, b3, b4, b5, b6, b7, c1, c2, c3, c4, c5, c6, c7⟩ := H.ex
  with_reducible refine kGG ?_
  clear kGG GG
  clear hk
  by_cases h15 : 15 ≤ ns.length
  · have hif : decide ((15 : Int) ≤ (its.size : Int)) = true := decide_eq_true (by (first | lia | omega))
    (((repeat' (first | walk1 | (dsimp only; walk1) | (k_unfold; (try dsimp only)) | (refine hKS _ _ ?_; clear hKS KS; (try dsimp only)))); (all_goals (try dsimp only)); (all_goals (repeat ((((fail_if_success (with_reducible show wpAny _ _ _ _ _ _)); (refine (‹∀ (x : _) (y : Shared), _ → _›) _ _ ?_); (try dsimp only))))))))
    refine rb_Raise (w := w) (Cb.hd C) ?_
    (((repeat' (first | walk1 | (dsimp only; walk1) | (k_unfold; (try dsimp only)) | (refine hKS _ _ ?_; clear hKS KS; (try dsimp only)))); (all_goals (try dsimp only)); (all_goals (repeat ((((fail_if_success (with_reducible show wpAny _ _ _ _ _ _)); (refine (‹∀ (x : _) (y : Shared), _ → _›) _ _ ?_); (try dsimp only))))))))
    refine rb_make C (by assumption) (fun h' tk' e o vs a0 S hen he hc hd h1 h0 => ?_)
    refine ⟨_, _, _, rfl, C.X.keeps (Fr.st0 (by assumption) S).keep, he, hc, hd, h1, ?_⟩
    with_reducible refine gen fun GG kGG => ?_
    obtain ⟨as, hA, hfr⟩ := C0.fr
    with_reducible refine kGG ?_
    clear kGG GG
    refine first_fly hA rfl (fun q => nomatch q) hfr (by assumption) S hen he hc hd h1 h0 fun h'' hF => ?_
    exact hE h15 _ _ _ hF
  · have hif : decide ((15 : Int) ≤ (its.size : Int)) = false := decide_eq_false (by (first | lia | omega))
    (((repeat' (first | walk1 | (dsimp only; walk1) | (k_unfold; (try dsimp only)) | (refine hKS _ _ ?_; clear hKS KS; (try dsimp only)))); (all_goals (try dsimp only)); (all_goals (repeat ((((fail_if_success (with_reducible show wpAny _ _ _ _ _ _)); (refine (‹∀ (x : _) (y : Shared), _ → _›) _ _ ?_); (try dsimp only))))))))
    rename_i F N
    repeat ((((fail_if_success (with_reducible show wpAny _ _ _ _ _ _)); (refine (‹∀ (x : _) (y : Shared), _ → _›) _ _ ?_); (try dsimp only))))
    exact hQ (by first | exact Nat.le_of_ble_eq_true rfl | assumption | (first | lia | omega)) _ _ (Fr.out F) ⟨_, _, (N _ (.head _)).1, intsAre_push hi⟩
end
section
noncomputable def Bud (n : Nat) : Nat := 4 * (16 - n) + 9
section
variable {prog : Program} {w : World} {mg mb : Str → Option Value} {A : Around} {s : Shared} {Q E : Value → Shared → Prop}
theorem get_near {n : Str} {t1 t2 t3 : Tok} {a hp : Addr} {k : Nat} {qs : List Raw} {rows : List Rw} {h₀ : Heap} (k0 : h₀.StaysIn s.heap) (hn : n = Str.ofString "name" ∨ n = Str.ofString "message") (H : ThingsAt prog w h₀ hp qs rows) (W : WFR rows)
   (hv : IsTup s.heap a ([.int 6 t2, .int (k : Int) t3] : List Value).toArray) (hk : k < rows.length) (C : Cx w mg mb A s.heap [] 5 15)
   (hQ : ∀ a h' tk' f c b t t', IsTup h₀ c ([.int (near rows k n).tag t, (near rows k n).pay t'] : List Value).toArray → Made s.heap h' a (tupOf [f, .ref c, b]) → Q (.ref a) { s with heap := h', toks := tk' })
   (hN : near rows k n = .undef → ∀ a h' tk' f c b t t', Made s.heap h' c (tupOf [.int 0 t, .int 0 t']) → Made s.heap h' a (tupOf [f, .ref c, b]) → Q (.ref a) { s with heap := h', toks := tk' }) :
   wpAny (model prog w) A (call (.ref 173) [.ref hp, .ref a, .str n t1]) Q E s := by
  refine get_prop_spec k0 hn H W hv hk C fun a h' tk' h => ?_
  rw [near_is] at hQ hN
  rcases h with ⟨f, v, b, ⟨c, t, t', rfl, hc⟩, hM⟩ | ⟨hu, f, b', b, t, t', hM, hM'⟩
  · repeat ((((fail_if_success (with_reducible show wpAny _ _ _ _ _ _)); (refine (‹∀ (x : _) (y : Shared), _ → _›) _ _ ?_); (try dsimp only))))
    exact hQ a h' tk' f c b t t' hc hM
  · repeat ((((fail_if_success (with_reducible show wpAny _ _ _ _ _ _)); (refine (‹∀ (x : _) (y : Shared), _ → _›) _ _ ?_); (try dsimp only))))
    exact hN hu a h' tk' f b' b t t' hM' hM

variable (prog w mg mb) in
noncomputable def TTI (rows : List Rw) (f : Nat) : Prop := ∀ (A : Around) (s : Shared) (Q E : Value → Shared → Prop) (hp b : Addr) (qs : List Raw) (v : Value) (x : Vl) (ns : List Int),
  ThingsAt prog w (hideAll s.heap [b]) hp qs rows → ValAt (hideAll s.heap [b]) v x → VOk rows.length x → SeenAt s.heap b ns → free rows ns < f → ns.length ≤ 40 → Cx w mg mb A s.heap [b] (Bud ns.length) (3 * Bud ns.length) →
  (far rows f x ns ≤ 15 → ∀ h' tk' t, Stays [b] s.heap h' → SeenAt h' b ns → Q (.str (txt rows f x ns) t) { s with heap := h', toks := tk' }) →
  (15 < far rows f x ns → ∀ e h' tk', Fly A [b] s.heap h' e → E (.ref e) { s with heap := h', toks := tk' }) →
  wpAny (model prog w) A (call (.ref 229) [.ref hp, v, .ref b]) Q E s

theorem tti_in2 {env : Env} {h₀ : Heap} {L hp b : Addr} {m : Str → Option Value} {μ : List (Addr × Obj)} {its : Array Value} {n : Nat} {rows : List Rw} {qs : List Raw} {f d u d0 u0 : Nat} {ns : List Int} {v : Value} {x : Vl} {E₀ : Value → Shared → Prop}
   (ih : TTI prog w mg mb rows f) (C0 : Cx w mg mb A h₀ [b] d0 u0) (C : Cb w mg mb (A.deeper env) (hideAll h₀ [b]) L d u) (hf : env.frame = some L) (F : Fr (hideAll h₀ [b]) L s.heap m) (N : News (hideAll h₀ [b]) L s.heap ((b, listOf its n) :: μ)) (hn : ∀ p ∈ μ, p.1 ≠ b)
   (hi : IntsAre its.toList ns) (H : ThingsAt prog w (hideAll h₀ [b]) hp qs rows) (hx : ValAt (hideAll h₀ [b]) v x) (hok : VOk rows.length x) (hfr : free rows ns < f) (hl : ns.length ≤ 40) (hd : Bud ns.length ≤ d) (hu : 3 * Bud ns.length ≤ u)
   (hQ : far rows f x ns ≤ 15 → ∀ h' tk' t its' n', Fr (hideAll h₀ [b]) L h' m → News (hideAll h₀ [b]) L h' ((b, listOf its' n') :: μ) → IntsAre its'.toList ns → Q (.str (txt rows f x ns) t) { s with heap := h', toks := tk' })
   (hE : 15 < far rows f x ns → ∀ e s', Fly A [b] h₀ s'.heap e → s'.gens = s.gens → s'.drawn = s.drawn → s'.os = s.os → E₀ (.ref e) s') :
   wpAny (model prog w) (A.deeper env) (call (.ref 229) [.ref hp, v, .ref b]) Q (fun e s' => wpAny (model prog w) (A.deeper env) (leaving env e) (fun _ s'' => E₀ e s'') (fun e' s'' => E₀ e' s'') s') s := by
  have hm := N _ (.head _)
  have hgb : ∀ a ∈ [b], (hideAll h₀ [b]).get? a = none := fun a q => hideAll_none _ q
  have hLb : L ∉ [b] := fun q => hm.2.1 (List.mem_singleton.mp q).symm
  have up := under_hide F hgb
  refine ih _ s _ _ hp b qs v x ns (H.up _ _ up) (hx.up up) hok ⟨its, n, hm.1, hi⟩ hfr hl (Cb.at C F hgb hLb hd hu) ?_ ?_
  · intro h15 h' tk' t S hRp1
    with_reducible refine gen fun GG kGG => ?_
    obtain ⟨its', n', hb', hi'⟩ := hRp1
    with_reducible refine kGG ?_
    clear kGG GG
    repeat ((((fail_if_success (with_reducible show wpAny _ _ _ _ _ _)); (refine (‹∀ (x : _) (y : Shared), _ → _›) _ _ ?_); (try dsimp only))))
    exact hQ h15 h' tk' t its' n' (Fr.st1 F N S) (News.st1 N S hn hb') hi'
  · intro h15 e h' tk' hF
    with_reducible refine gen fun GG kGG => ?_
    obtain ⟨as, hA, hfr⟩ := C0.fr
    with_reducible refine kGG ?_
    clear kGG GG
    exact leave_fly (D := [b]) hA hf hfr F hgb hLb hF fun h'' hF' => hE h15 e _ hF' rfl rfl rfl
theorem tti_in {env : Env} {h₀ : Heap} {L hp b : Addr} {m : Str → Option Value} {μ : List (Addr × Obj)} {its : Array Value} {n : Nat} {rows : List Rw} {qs : List Raw} {f d u d0 u0 : Nat} {ns : List Int} {v : Value} {x : Vl} {E₀ : Value → Shared → Prop}
   (ih : TTI prog w mg mb rows f) (C0 : Cx w mg mb A h₀ [b] d0 u0) (C : Cb w mg mb (A.deeper env) (hideAll h₀ [b]) L d u) (hf : env.frame = some L) (F : Fr (hideAll h₀ [b]) L s.heap m) (N : News (hideAll h₀ [b]) L s.heap μ) (hm : (b, listOf its n) ∈ μ)
   (hi : IntsAre its.toList ns) (H : ThingsAt prog w (hideAll h₀ [b]) hp qs rows) (hx : ValAt (hideAll h₀ [b]) v x) (hok : VOk rows.length x) (hfr : free rows ns < f) (hl : ns.length ≤ 40) (hd : Bud ns.length ≤ d) (hu : 3 * Bud ns.length ≤ u)
   (hQ : far rows f x ns ≤ 15 → ∀ h' tk' t its' n', Fr (hideAll h₀ [b]) L h' m → News (hideAll h₀ [b]) L h' [(b, listOf its' n')] → IntsAre its'.toList ns → Q (.str (txt rows f x ns) t) { s with heap := h', toks := tk' })
   (hE : 15 < far rows f x ns → ∀ e s', Fly A [b] h₀ s'.heap e → s'.gens = s.gens → s'.drawn = s.drawn → s'.os = s.os → E₀ (.ref e) s') :
   wpAny (model prog w) (A.deeper env) (call (.ref 229) [.ref hp, v, .ref b]) Q (fun e s' => wpAny (model prog w) (A.deeper env) (leaving env e) (fun _ s'' => E₀ e s'') (fun e' s'' => E₀ e' s'') s') s := by
  have hgb : ∀ a ∈ [b], (hideAll h₀ [b]).get? a = none := fun a q => hideAll_none _ q
  have hLb : L ∉ [b] := fun q => (N _ hm).2.1 (List.mem_singleton.mp q).symm
  have up := under_hide F hgb
  have N1 : News (hideAll h₀ [b]) L s.heap [(b, listOf its n)] := fun p hp => by rw [List.mem_singleton.mp hp]; exact N _ hm
  refine ih _ s _ _ hp b qs v x ns (H.up _ _ up) (hx.up up) hok ⟨its, n, (N _ hm).1, hi⟩ hfr hl (Cb.at C F hgb hLb hd hu) ?_ ?_
  · intro h15 h' tk' t S hRp1
    with_reducible refine gen fun GG kGG => ?_
    obtain ⟨its', n', hb', hi'⟩ := hRp1
    with_reducible refine kGG ?_
    clear kGG GG
    repeat ((((fail_if_success (with_reducible show wpAny _ _ _ _ _ _)); (refine (‹∀ (x : _) (y : Shared), _ → _›) _ _ ?_); (try dsimp only))))
    exact hQ h15 h' tk' t its' n' (Fr.st1 F N1 S) (News.st1 N1 S (fun p q => nomatch q) hb') hi'
  · intro h15 e h' tk' hF
    with_reducible refine gen fun GG kGG => ?_
    obtain ⟨as, hA, hfr⟩ := C0.fr
    with_reducible refine kGG ?_
    clear kGG GG
    exact leave_fly (D := [b]) hA hf hfr F hgb hLb hF fun h'' hF' => hE h15 e _ hF' rfl rfl rfl

theorem News.of {g h : Heap} {L a : Addr} {o : Obj} {μ : List (Addr × Obj)} (N : News g L h μ) (hm : (a, o) ∈ μ) : h.get? a = some o ∧ a ≠ L ∧ g.get? a = none := N _ hm
theorem two_made {g h h' : Heap} {L c a : Addr} {oc oa : Obj} {m : Str → Option Value} {μ : List (Addr × Obj)} (F : Fr g L h m) (N : News g L h μ) (Mc : Made h h' c oc) (Ma : Made h h' a oa) : Fr g L h' m ∧ News g L h' ((a, oa) :: (c, oc) :: μ) :=
  ⟨Fr.made F Ma, News.add F (News.made F N Mc) Ma.2.2 Ma.2.1⟩
theorem err1 {x y : Str} (h : (y == Str.ofString "") = true) : err x y = x := by unfold err; rw [if_pos (eq_of_beq h)]
theorem err2 {x y : Str} (h : (y == Str.ofString "") = false) (h' : (x == Str.ofString "") = true) : err x y = y := by unfold err; rw [if_neg (fun q => by rw [q] at h; exact absurd h (by decide)), if_pos (eq_of_beq h')]
theorem err3 {x y : Str} (h : (y == Str.ofString "") = false) (h' : (x == Str.ofString "") = false) : err x y = x ++ Str.ofString ": " ++ y := by unfold err; rw [if_neg (fun q => by rw [q] at h; exact absurd h (by decide)), if_neg (fun q => by rw [q] at h'; exact absurd h' (by decide))]
theorem told_u {d : Str} {t : Vl → Str} : told d t .undef = d := rfl
theorem ftold_u {t : Vl → Nat} : ftold t .undef = 0 := rfl
theorem told_ne {d : Str} {t : Vl → Str} {y : Vl} (h : y ≠ .undef) : told d t y = t y := by cases y <;> first | rfl | exact absurd rfl h
theorem ftold_ne {t : Vl → Nat} {y : Vl} (h : y ≠ .undef) : ftold t y = t y := by cases y <;> first | rfl | exact absurd rfl h
local macro_rules | `(tactic| walk_at "binaryOp Add str str") => `(tactic| ((with_reducible show wpAny _ _ (binaryOp Operator.Add (Value.str _ _) (Value.str _ _)) _ _ _); (refine add_str (hsz := ?hsz) ?_); (case hsz => (rw [sizeLine_eq]; (try rw [Str.length_append]); have := Nat.le_refl (Str.ofString ": ").length; (try rw [show (Str.ofString ": ").length = 2 from by decide]); omega)); intro _ _))

theorem error_text_spec {a hp b : Addr} {k : Nat} {qs : List Raw} {rows : List Rw} {f : Nat} {ns : List Int} {t2 t3 : Tok} (ih : TTI prog w mg mb rows f) (H : ThingsAt prog w (hideAll s.heap [b]) hp qs rows) (W : WFR rows) (B : Bd rows)
   (hv : IsTup (hideAll s.heap [b]) a ([.int 6 t2, .int (k : Int) t3] : List Value).toArray) (hk : k < rows.length) (hb : SeenAt s.heap b ns) (hf : free rows ns < f) (hl : ns.length ≤ 40) (C0 : Cx w mg mb A s.heap [b] (Bud ns.length + 1) (3 * Bud ns.length + 3))
   (hQ : max (ftold (fun v => far rows f v ns) (near rows k (Str.ofString "name"))) (ftold (fun v => far rows f v ns) (near rows k (Str.ofString "message"))) ≤ 15 → ∀ h' tk' t, Stays [b] s.heap h' → SeenAt h' b ns →
     Q (.str (err (told (Str.ofString "Error") (fun v => txt rows f v ns) (near rows k (Str.ofString "name"))) (told (Str.ofString "") (fun v => txt rows f v ns) (near rows k (Str.ofString "message")))) t) { s with heap := h', toks := tk' })
   (hE : 15 < max (ftold (fun v => far rows f v ns) (near rows k (Str.ofString "name"))) (ftold (fun v => far rows f v ns) (near rows k (Str.ofString "message"))) → ∀ e h' tk', Fly A [b] s.heap h' e → E (.ref e) { s with heap := h', toks := tk' }) :
   wpAny (model prog w) A (call (.ref 201) [.ref hp, .ref a, .ref b]) Q E s := by
  have nk1 := near_ok W k (Str.ofString "name")
  have nk2 := near_ok W k (Str.ofString "message")
  with_reducible refine gen fun GG kGG => ?_
  obtain ⟨y1, e1⟩ : ∃ y, near rows k (Str.ofString "name") = y := ⟨_, rfl⟩
  obtain ⟨y2, e2⟩ : ∃ y, near rows k (Str.ofString "message") = y := ⟨_, rfl⟩
  with_reducible refine kGG ?_
  clear kGG GG
  rw [e1, e2] at hQ hE
  rw [e1] at nk1
  rw [e2] at nk2
  replace hQ : ∀ r, err (told (Str.ofString "Error") (fun v => txt rows f v ns) y1) (told (Str.ofString "") (fun v => txt rows f v ns) y2) = r → max (ftold (fun v => far rows f v ns) y1) (ftold (fun v => far rows f v ns) y2) ≤ 15 → ∀ h' tk' t, Stays [b] s.heap h' → SeenAt h' b ns → Q (.str r t) { s with heap := h', toks := tk' } := fun r er => er ▸ hQ
  with_reducible refine gen fun GG kGG => ?_
  obtain ⟨its, n, hb, hi⟩ := hb
  with_reducible refine kGG ?_
  clear kGG GG
  refine call_ruleE (d := Bud ns.length) (u := 3 * Bud ns.length) (binds := [(Str.ofString "heap", .ref hp), (Str.ofString "v", .ref a), (Str.ofString "seen", .ref b)]) C0 (by k_is) (by k_is) (BindsTo.of_eq rfl) (locs rfl) (fun L h₁ tk F hk' C => ?_) (by decide)
  with_reducible refine hideQ fun KK hKK => ?_
  have X := C.X
  have T := C.T
  have N : News (hideAll s.heap [b]) L h₁ [(b, listOf its n)] := fun p hp => by rw [List.mem_singleton.mp hp]; exact ⟨(hk' _ _ hb).1, (hk' _ _ hb).2, hideAll_none _ (.head _)⟩
  clear hk'
  (((repeat' (first | walk1 | (dsimp only; walk1) | (k_unfold; (try dsimp only)) | (refine hKS _ _ ?_; clear hKS KS; (try dsimp only)))); (all_goals (try dsimp only)); (all_goals (repeat ((((fail_if_success (with_reducible show wpAny _ _ _ _ _ _)); (refine (‹∀ (x : _) (y : Shared), _ → _›) _ _ ?_); (try dsimp only))))))))
  refine get_near (Fr.keep (by assumption)) (.inl rfl) H W (IsTup.keeps hv (Fr.keep (by assumption))) hk (Cb.at0 C (by assumption) (by unfold Bud; (first | lia | omega)) (by unfold Bud; (first | lia | omega))) (fun a1 h1 tk1 f1 c1 b1 t t' hc hM => ?_) (fun hu a1 h1 tk1 f1 c1 b1 t t' hM1 hM => ?_)
  · rw [e1] at hc
    (((rename Made _ _ _ _ => mM); (rename Fr _ _ _ _ => mF); (rename News _ _ _ _ => mN); (have mN2 := News.made mF mN mM); (have mF2 := Fr.made mF mM); clear mF mN))
    by_cases hu1 : y1 = .undef
    · subst hu1
      rw [told_u, ftold_u] at hQ
      rw [ftold_u] at hE
      (((repeat' (first | walk1 | (dsimp only; walk1) | (k_unfold; (try dsimp only)) | (refine hKS _ _ ?_; clear hKS KS; (try dsimp only)))); (all_goals (try dsimp only)); (all_goals (repeat ((((fail_if_success (with_reducible show wpAny _ _ _ _ _ _)); (refine (‹∀ (x : _) (y : Shared), _ → _›) _ _ ?_); (try dsimp only))))))))
      ((refine get_near (Fr.keep (by assumption)) (.inr rfl) H W (IsTup.keeps hv (Fr.keep (by assumption))) hk (Cb.at0 C (by assumption) (by unfold Bud; omega) (by unfold Bud; omega)) (fun a2 h2 tk2 f2 c2 b2 tq tq' hc2 hM2 => ?_) (fun hu2 a2 h2 tk2 f2 c2 b2 tq tq' hMM2 hM2 => ?_)))
      · rw [e2] at hc2
        (((rename Made _ _ _ _ => mM); (rename Fr _ _ _ _ => mF); (rename News _ _ _ _ => mN); (have mN2 := News.made mF mN mM); (have mF2 := Fr.made mF mM); clear mF mN))
        by_cases hu2 : y2 = .undef
        · subst hu2
          rw [told_u, ftold_u] at hQ
          (((repeat' (first | walk1 | (dsimp only; walk1) | (k_unfold; (try dsimp only)) | (refine hKS _ _ ?_; clear hKS KS; (try dsimp only)))); (all_goals (try dsimp only)); (all_goals (repeat ((((fail_if_success (with_reducible show wpAny _ _ _ _ _ _)); (refine (‹∀ (x : _) (y : Shared), _ → _›) _ _ ?_); (try dsimp only))))))))
          all_goals (((rename Fr _ _ _ _ => mF); (rename News _ _ _ _ => mN); refine hQ _ ?_ (by first | exact Nat.le_of_ble_eq_true rfl | assumption | omega) _ _ _ (Fr.out mF) ⟨_, _, (News.of mN (by k_mem)).1, ?_⟩; (all_goals first | assumption | exact err1 (by assumption) | exact err1 (by decide) | exact err2 (by assumption) (by assumption) | exact err2 (by assumption) (by decide) | exact err3 (by assumption) (by assumption) | exact err3 (by assumption) (by decide))))
        · have hne2 : ¬ (y2.tag == 0) = true := by cases y2 <;> first | exact absurd rfl hu2 | (intro q; exact absurd q (by simp [Vl.tag]))
          (((repeat' (first | walk1 | (dsimp only; walk1) | (k_unfold; (try dsimp only)) | (refine hKS _ _ ?_; clear hKS KS; (try dsimp only)))); (all_goals (try dsimp only)); (all_goals (repeat ((((fail_if_success (with_reducible show wpAny _ _ _ _ _ _)); (refine (‹∀ (x : _) (y : Shared), _ → _›) _ _ ?_); (try dsimp only))))))))
          rename_i F N
          have hx2 := B.all f y2 ns nk2
          rw [told_ne hu2, ftold_ne hu2] at hQ
          rw [ftold_ne hu2] at hE
          ((refine tti_in ih C0 C rfl (by assumption) (by assumption) (by k_mem) hi H ⟨_, _, _, rfl, hc2⟩ nk2 hf hl (Nat.le_refl _) (Nat.le_refl _) (fun hfar2 h' tk' tt its' n' F' N' hi' => ?_) (fun hfar2 e s' hF g1 g2 g3 => ?_)))
          · clear N F
            generalize txt rows f y2 ns = x2 at hQ hx2
            (((repeat' (first | walk1 | (dsimp only; walk1) | (k_unfold; (try dsimp only)) | (refine hKS _ _ ?_; clear hKS KS; (try dsimp only)))); (all_goals (try dsimp only)); (all_goals (repeat ((((fail_if_success (with_reducible show wpAny _ _ _ _ _ _)); (refine (‹∀ (x : _) (y : Shared), _ → _›) _ _ ?_); (try dsimp only))))))))
            all_goals (((rename Fr _ _ _ _ => mF); (rename News _ _ _ _ => mN); refine hQ _ ?_ (by first | exact Nat.le_of_ble_eq_true rfl | assumption | omega) _ _ _ (Fr.out mF) ⟨_, _, (News.of mN (by k_mem)).1, ?_⟩; (all_goals first | assumption | exact err1 (by assumption) | exact err1 (by decide) | exact err2 (by assumption) (by assumption) | exact err2 (by assumption) (by decide) | exact err3 (by assumption) (by assumption) | exact err3 (by assumption) (by decide))))
          · ((first | (have zz := hE (by first | exact Nat.le_of_ble_eq_true rfl | assumption | omega) e s'.heap s'.toks hF; rcases s' with ⟨q1, q2, q3, q4, q5⟩; cases g1; cases g2; cases g3; exact zz)))
      · rw [e2] at hu2
        subst hu2
        rw [told_u, ftold_u] at hQ
        (((rename Fr _ _ _ _ => mF); (rename News _ _ _ _ => mN); (obtain ⟨mF1, mN1⟩ := two_made mF mN hMM2 hM2); clear mF mN))
        (((repeat' (first | walk1 | (dsimp only; walk1) | (k_unfold; (try dsimp only)) | (refine hKS _ _ ?_; clear hKS KS; (try dsimp only)))); (all_goals (try dsimp only)); (all_goals (repeat ((((fail_if_success (with_reducible show wpAny _ _ _ _ _ _)); (refine (‹∀ (x : _) (y : Shared), _ → _›) _ _ ?_); (try dsimp only))))))))
        all_goals (((rename Fr _ _ _ _ => mF); (rename News _ _ _ _ => mN); refine hQ _ ?_ (by first | exact Nat.le_of_ble_eq_true rfl | assumption | omega) _ _ _ (Fr.out mF) ⟨_, _, (News.of mN (by k_mem)).1, ?_⟩; (all_goals first | assumption | exact err1 (by assumption) | exact err1 (by decide) | exact err2 (by assumption) (by assumption) | exact err2 (by assumption) (by decide) | exact err3 (by assumption) (by assumption) | exact err3 (by assumption) (by decide))))
    · have hne : ¬ (y1.tag == 0) = true := by cases y1 <;> first | exact absurd rfl hu1 | (intro q; exact absurd q (by simp [Vl.tag]))
      (((repeat' (first | walk1 | (dsimp only; walk1) | (k_unfold; (try dsimp only)) | (refine hKS _ _ ?_; clear hKS KS; (try dsimp only)))); (all_goals (try dsimp only)); (all_goals (repeat ((((fail_if_success (with_reducible show wpAny _ _ _ _ _ _)); (refine (‹∀ (x : _) (y : Shared), _ → _›) _ _ ?_); (try dsimp only))))))))
      rename_i F N
      have hx1 := B.all f y1 ns nk1
      rw [told_ne hu1, ftold_ne hu1] at hQ
      rw [ftold_ne hu1] at hE
      ((refine tti_in ih C0 C rfl (by assumption) (by assumption) (by k_mem) hi H ⟨_, _, _, rfl, hc⟩ nk1 hf hl (Nat.le_refl _) (Nat.le_refl _) (fun hfar h' tk' tt its' n' F' N' hi' => ?_) (fun hfar e s' hF g1 g2 g3 => ?_)))
      · clear N F
        clear hi
        have hi := hi'
        generalize txt rows f y1 ns = x1 at hQ hx1
        (((repeat' (first | walk1 | (dsimp only; walk1) | (k_unfold; (try dsimp only)) | (refine hKS _ _ ?_; clear hKS KS; (try dsimp only)))); (all_goals (try dsimp only)); (all_goals (repeat ((((fail_if_success (with_reducible show wpAny _ _ _ _ _ _)); (refine (‹∀ (x : _) (y : Shared), _ → _›) _ _ ?_); (try dsimp only))))))))
        ((refine get_near (Fr.keep (by assumption)) (.inr rfl) H W (IsTup.keeps hv (Fr.keep (by assumption))) hk (Cb.at0 C (by assumption) (by unfold Bud; omega) (by unfold Bud; omega)) (fun a2 h2 tk2 f2 c2 b2 tq tq' hc2 hM2 => ?_) (fun hu2 a2 h2 tk2 f2 c2 b2 tq tq' hMM2 hM2 => ?_)))
        · rw [e2] at hc2
          (((rename Made _ _ _ _ => mM); (rename Fr _ _ _ _ => mF); (rename News _ _ _ _ => mN); (have mN2 := News.made mF mN mM); (have mF2 := Fr.made mF mM); clear mF mN))
          by_cases hu2 : y2 = .undef
          · subst hu2
            rw [told_u, ftold_u] at hQ
            (((repeat' (first | walk1 | (dsimp only; walk1) | (k_unfold; (try dsimp only)) | (refine hKS _ _ ?_; clear hKS KS; (try dsimp only)))); (all_goals (try dsimp only)); (all_goals (repeat ((((fail_if_success (with_reducible show wpAny _ _ _ _ _ _)); (refine (‹∀ (x : _) (y : Shared), _ → _›) _ _ ?_); (try dsimp only))))))))
            all_goals (((rename Fr _ _ _ _ => mF); (rename News _ _ _ _ => mN); refine hQ _ ?_ (by first | exact Nat.le_of_ble_eq_true rfl | assumption | omega) _ _ _ (Fr.out mF) ⟨_, _, (News.of mN (by k_mem)).1, ?_⟩; (all_goals first | assumption | exact err1 (by assumption) | exact err1 (by decide) | exact err2 (by assumption) (by assumption) | exact err2 (by assumption) (by decide) | exact err3 (by assumption) (by assumption) | exact err3 (by assumption) (by decide))))
          · have hne2 : ¬ (y2.tag == 0) = true := by cases y2 <;> first | exact absurd rfl hu2 | (intro q; exact absurd q (by simp [Vl.tag]))
            (((repeat' (first | walk1 | (dsimp only; walk1) | (k_unfold; (try dsimp only)) | (refine hKS _ _ ?_; clear hKS KS; (try dsimp only)))); (all_goals (try dsimp only)); (all_goals (repeat ((((fail_if_success (with_reducible show wpAny _ _ _ _ _ _)); (refine (‹∀ (x : _) (y : Shared), _ → _›) _ _ ?_); (try dsimp only))))))))
            rename_i F N
            have hx2 := B.all f y2 ns nk2
            rw [told_ne hu2, ftold_ne hu2] at hQ
            rw [ftold_ne hu2] at hE
            ((refine tti_in ih C0 C rfl (by assumption) (by assumption) (by k_mem) hi H ⟨_, _, _, rfl, hc2⟩ nk2 hf hl (Nat.le_refl _) (Nat.le_refl _) (fun hfar2 h' tk' tt its' n' F' N' hi' => ?_) (fun hfar2 e s' hF g1 g2 g3 => ?_)))
            · clear N F
              generalize txt rows f y2 ns = x2 at hQ hx2
              (((repeat' (first | walk1 | (dsimp only; walk1) | (k_unfold; (try dsimp only)) | (refine hKS _ _ ?_; clear hKS KS; (try dsimp only)))); (all_goals (try dsimp only)); (all_goals (repeat ((((fail_if_success (with_reducible show wpAny _ _ _ _ _ _)); (refine (‹∀ (x : _) (y : Shared), _ → _›) _ _ ?_); (try dsimp only))))))))
              all_goals (((rename Fr _ _ _ _ => mF); (rename News _ _ _ _ => mN); refine hQ _ ?_ (by first | exact Nat.le_of_ble_eq_true rfl | assumption | omega) _ _ _ (Fr.out mF) ⟨_, _, (News.of mN (by k_mem)).1, ?_⟩; (all_goals first | assumption | exact err1 (by assumption) | exact err1 (by decide) | exact err2 (by assumption) (by assumption) | exact err2 (by assumption) (by decide) | exact err3 (by assumption) (by assumption) | exact err3 (by assumption) (by decide))))
            · ((first | (have zz := hE (by first | exact Nat.le_of_ble_eq_true rfl | assumption | omega) e s'.heap s'.toks hF; rcases s' with ⟨q1, q2, q3, q4, q5⟩; cases g1; cases g2; cases g3; exact zz)))
        · rw [e2] at hu2
          subst hu2
          rw [told_u, ftold_u] at hQ
          (((rename Fr _ _ _ _ => mF); (rename News _ _ _ _ => mN); (obtain ⟨mF1, mN1⟩ := two_made mF mN hMM2 hM2); clear mF mN))
          (((repeat' (first | walk1 | (dsimp only; walk1) | (k_unfold; (try dsimp only)) | (refine hKS _ _ ?_; clear hKS KS; (try dsimp only)))); (all_goals (try dsimp only)); (all_goals (repeat ((((fail_if_success (with_reducible show wpAny _ _ _ _ _ _)); (refine (‹∀ (x : _) (y : Shared), _ → _›) _ _ ?_); (try dsimp only))))))))
          all_goals (((rename Fr _ _ _ _ => mF); (rename News _ _ _ _ => mN); refine hQ _ ?_ (by first | exact Nat.le_of_ble_eq_true rfl | assumption | omega) _ _ _ (Fr.out mF) ⟨_, _, (News.of mN (by k_mem)).1, ?_⟩; (all_goals first | assumption | exact err1 (by assumption) | exact err1 (by decide) | exact err2 (by assumption) (by assumption) | exact err2 (by assumption) (by decide) | exact err3 (by assumption) (by assumption) | exact err3 (by assumption) (by decide))))
      · ((first | (have zz := hE (by first | exact Nat.le_of_ble_eq_true rfl | assumption | omega) e s'.heap s'.toks hF; rcases s' with ⟨q1, q2, q3, q4, q5⟩; cases g1; cases g2; cases g3; exact zz)))
  · rw [e1] at hu
    subst hu
    rw [told_u, ftold_u] at hQ
    rw [ftold_u] at hE
    (((rename Fr _ _ _ _ => mF); (rename News _ _ _ _ => mN); (obtain ⟨mF1, mN1⟩ := two_made mF mN hM1 hM); clear mF mN))
    (((repeat' (first | walk1 | (dsimp only; walk1) | (k_unfold; (try dsimp only)) | (refine hKS _ _ ?_; clear hKS KS; (try dsimp only)))); (all_goals (try dsimp only)); (all_goals (repeat ((((fail_if_success (with_reducible show wpAny _ _ _ _ _ _)); (refine (‹∀ (x : _) (y : Shared), _ → _›) _ _ ?_); (try dsimp only))))))))
    ((refine get_near (Fr.keep (by assumption)) (.inr rfl) H W (IsTup.keeps hv (Fr.keep (by assumption))) hk (Cb.at0 C (by assumption) (by unfold Bud; omega) (by unfold Bud; omega)) (fun a2 h2 tk2 f2 c2 b2 tq tq' hc2 hM2 => ?_) (fun hu2 a2 h2 tk2 f2 c2 b2 tq tq' hMM2 hM2 => ?_)))
    · rw [e2] at hc2
      (((rename Made _ _ _ _ => mM); (rename Fr _ _ _ _ => mF); (rename News _ _ _ _ => mN); (have mN2 := News.made mF mN mM); (have mF2 := Fr.made mF mM); clear mF mN))
      by_cases hu2 : y2 = .undef
      · subst hu2
        rw [told_u, ftold_u] at hQ
        (((repeat' (first | walk1 | (dsimp only; walk1) | (k_unfold; (try dsimp only)) | (refine hKS _ _ ?_; clear hKS KS; (try dsimp only)))); (all_goals (try dsimp only)); (all_goals (repeat ((((fail_if_success (with_reducible show wpAny _ _ _ _ _ _)); (refine (‹∀ (x : _) (y : Shared), _ → _›) _ _ ?_); (try dsimp only))))))))
        all_goals (((rename Fr _ _ _ _ => mF); (rename News _ _ _ _ => mN); refine hQ _ ?_ (by first | exact Nat.le_of_ble_eq_true rfl | assumption | omega) _ _ _ (Fr.out mF) ⟨_, _, (News.of mN (by k_mem)).1, ?_⟩; (all_goals first | assumption | exact err1 (by assumption) | exact err1 (by decide) | exact err2 (by assumption) (by assumption) | exact err2 (by assumption) (by decide) | exact err3 (by assumption) (by assumption) | exact err3 (by assumption) (by decide))))
      · have hne2 : ¬ (y2.tag == 0) = true := by cases y2 <;> first | exact absurd rfl hu2 | (intro q; exact absurd q (by simp [Vl.tag]))
        (((repeat' (first | walk1 | (dsimp only; walk1) | (k_unfold; (try dsimp only)) | (refine hKS _ _ ?_; clear hKS KS; (try dsimp only)))); (all_goals (try dsimp only)); (all_goals (repeat ((((fail_if_success (with_reducible show wpAny _ _ _ _ _ _)); (refine (‹∀ (x : _) (y : Shared), _ → _›) _ _ ?_); (try dsimp only))))))))
        rename_i F N
        have hx2 := B.all f y2 ns nk2
        rw [told_ne hu2, ftold_ne hu2] at hQ
        rw [ftold_ne hu2] at hE
        ((refine tti_in ih C0 C rfl (by assumption) (by assumption) (by k_mem) hi H ⟨_, _, _, rfl, hc2⟩ nk2 hf hl (Nat.le_refl _) (Nat.le_refl _) (fun hfar2 h' tk' tt its' n' F' N' hi' => ?_) (fun hfar2 e s' hF g1 g2 g3 => ?_)))
        · clear N F
          generalize txt rows f y2 ns = x2 at hQ hx2
          (((repeat' (first | walk1 | (dsimp only; walk1) | (k_unfold; (try dsimp only)) | (refine hKS _ _ ?_; clear hKS KS; (try dsimp only)))); (all_goals (try dsimp only)); (all_goals (repeat ((((fail_if_success (with_reducible show wpAny _ _ _ _ _ _)); (refine (‹∀ (x : _) (y : Shared), _ → _›) _ _ ?_); (try dsimp only))))))))
          all_goals (((rename Fr _ _ _ _ => mF); (rename News _ _ _ _ => mN); refine hQ _ ?_ (by first | exact Nat.le_of_ble_eq_true rfl | assumption | omega) _ _ _ (Fr.out mF) ⟨_, _, (News.of mN (by k_mem)).1, ?_⟩; (all_goals first | assumption | exact err1 (by assumption) | exact err1 (by decide) | exact err2 (by assumption) (by assumption) | exact err2 (by assumption) (by decide) | exact err3 (by assumption) (by assumption) | exact err3 (by assumption) (by decide))))
        · ((first | (have zz := hE (by first | exact Nat.le_of_ble_eq_true rfl | assumption | omega) e s'.heap s'.toks hF; rcases s' with ⟨q1, q2, q3, q4, q5⟩; cases g1; cases g2; cases g3; exact zz)))
    · rw [e2] at hu2
      subst hu2
      rw [told_u, ftold_u] at hQ
      (((rename Fr _ _ _ _ => mF); (rename News _ _ _ _ => mN); (obtain ⟨mF1, mN1⟩ := two_made mF mN hMM2 hM2); clear mF mN))
      (((repeat' (first | walk1 | (dsimp only; walk1) | (k_unfold; (try dsimp only)) | (refine hKS _ _ ?_; clear hKS KS; (try dsimp only)))); (all_goals (try dsimp only)); (all_goals (repeat ((((fail_if_success (with_reducible show wpAny _ _ _ _ _ _)); (refine (‹∀ (x : _) (y : Shared), _ → _›) _ _ ?_); (try dsimp only))))))))
      all_goals (((rename Fr _ _ _ _ => mF); (rename News _ _ _ _ => mN); refine hQ _ ?_ (by first | exact Nat.le_of_ble_eq_true rfl | assumption | omega) _ _ _ (Fr.out mF) ⟨_, _, (News.of mN (by k_mem)).1, ?_⟩; (all_goals first | assumption | exact err1 (by assumption) | exact err1 (by decide) | exact err2 (by assumption) (by assumption) | exact err2 (by assumption) (by decide) | exact err3 (by assumption) (by assumption) | exact err3 (by assumption) (by decide))))
end
end
section
variable {prog : Program} {w : World} {mg mb : Str → Option Value} {A : Around} {s : Shared} {Q E : Value → Shared → Prop}
theorem open_in {env : Env} {h₀ : Heap} {L x b : Addr} {m : Str → Option Value} {μ : List (Addr × Obj)} {its : Array Value} {n : Nat} {k : Nat} {q : Raw} {r : Rw} {d u d0 u0 : Nat} {ns : List Int} {E₀ : Value → Shared → Prop}
   (C0 : Cx w mg mb A h₀ [b] d0 u0) (C : Cb w mg mb (A.deeper env) (hideAll h₀ [b]) L d u) (hf : env.frame = some L) (F : Fr (hideAll h₀ [b]) L s.heap m) (N : News (hideAll h₀ [b]) L s.heap μ) (hm : (b, listOf its n) ∈ μ)
   (hi : IntsAre its.toList ns) (hl : ns.length ≤ 1000) (H : ThingAt prog w (hideAll h₀ [b]) x k q r) (hd : 3 ≤ d) (hu : 10 ≤ u)
   (hQ : ns.length < 15 → ∀ h' tk' its' n', Fr (hideAll h₀ [b]) L h' m → News (hideAll h₀ [b]) L h' [(b, listOf its' n')] → IntsAre its'.toList (ns ++ [(k : Int)]) → Q .none { s with heap := h', toks := tk' })
   (hE : 15 ≤ ns.length → ∀ e s', Fly A [b] h₀ s'.heap e → s'.gens = s.gens → s'.drawn = s.drawn → s'.os = s.os → E₀ (.ref e) s') :
   wpAny (model prog w) (A.deeper env) (call (.ref 208) [.ref x, .ref b]) Q (fun e s' => wpAny (model prog w) (A.deeper env) (leaving env e) (fun _ s'' => E₀ e s'') (fun e' s'' => E₀ e' s'') s') s := by
  have hgb : ∀ a ∈ [b], (hideAll h₀ [b]).get? a = none := fun a q => hideAll_none _ q
  have hLb : L ∉ [b] := fun q => (N _ hm).2.1 (List.mem_singleton.mp q).symm
  have up := under_hide F hgb
  have N1 : News (hideAll h₀ [b]) L s.heap [(b, listOf its n)] := fun p hp => by rw [List.mem_singleton.mp hp]; exact N _ hm
  refine open_text_spec ⟨its, n, (N _ hm).1, hi⟩ hl (H.up _ _ up) (Cb.at C F hgb hLb hd hu) ?_ ?_
  · intro h15 h' tk' S hRp1
    with_reducible refine gen fun GG kGG => ?_
    obtain ⟨its', n', hb', hi'⟩ := hRp1
    with_reducible refine kGG ?_
    clear kGG GG
    repeat ((((fail_if_success (with_reducible show wpAny _ _ _ _ _ _)); (refine (‹∀ (x : _) (y : Shared), _ → _›) _ _ ?_); (try dsimp only))))
    exact hQ h15 h' tk' its' n' (Fr.st1 F N1 S) (News.st1 N1 S (fun p q => nomatch q) hb') hi'
  · intro h15 e h' tk' hF
    with_reducible refine gen fun GG kGG => ?_
    obtain ⟨as, hA, hfr⟩ := C0.fr
    with_reducible refine kGG ?_
    clear kGG GG
    exact leave_fly (D := [b]) hA hf hfr F hgb hLb hF fun h'' hF' => hE h15 e _ hF' rfl rfl rfl

theorem take_sum {α : Type} (g : α → Nat) : ∀ (l : List α) (i : Nat), ((l.take i).map g).sum ≤ (l.map g).sum
  | [], i => by simp
  | _ :: l, 0 => by simp
  | a :: l, i + 1 => by have := take_sum g l i; simp only [List.take_succ_cons, List.map_cons, List.sum_cons]; (first | lia | omega)
theorem len_sum {α : Type} (g : α → Nat) (h : ∀ a, 1 ≤ g a) : ∀ l : List α, l.length ≤ (l.map g).sum
  | [] => by simp
  | a :: l => by have := len_sum g h l; have := h a; simp only [List.length_cons, List.map_cons, List.sum_cons]; (first | lia | omega)
theorem sum_sep (c : Nat) : ∀ l : List Str, (l.map (·.length)).sum + l.length * c ≤ (l.map fun p => p.length + c + 1).sum
  | [] => by simp
  | a :: l => by have := sum_sep c l; simp only [List.length_cons, List.map_cons, List.sum_cons, Nat.add_mul]; (first | lia | omega)
theorem take_one {α : Type} {l : List α} {i : Nat} {y : α} (h : l[i]? = some y) : l.take (i + 1) = l.take i ++ [y] := by rw [List.take_add_one, h]; rfl
theorem maxs_le {α : Type} (g : α → Nat) (n : Nat) : ∀ l : List α, (∀ y ∈ l, g y ≤ n) → maxs (l.map g) ≤ n
  | [], _ => Nat.zero_le _
  | a :: l, h => by
    have h1 := maxs_le g n l fun y hy => h y (.tail _ hy)
    have h2 := h a (.head _)
    simp only [List.map_cons, maxs]
    (first | lia | omega)
theorem maxs_ge {α : Type} (g : α → Nat) : ∀ (l : List α) (y : α), y ∈ l → g y ≤ maxs (l.map g)
  | a :: l, _, .head _ => by simp only [List.map_cons, maxs]; (first | lia | omega)
  | a :: l, y, .tail _ h => by have := maxs_ge g l y h; simp only [List.map_cons, maxs]; (first | lia | omega)
theorem Fr.tot {g h : Heap} {L : Addr} {m : Str → Option Value} {z : Int} {t : Tok} (_ : Fr g L h m) (e : m (Str.ofString "total") = some (.int z t)) : ∃ t, m (Str.ofString "total") = some (.int z t) := ⟨t, e⟩

theorem items_text_spec {x hp b : Addr} {k : Nat} {qs : List Raw} {rows : List Rw} {r : Rw} {q : Raw} {f : Nat} {ns : List Int} {sep : Str} {ts : Tok} (ih : TTI prog w mg mb rows f) (H : ThingsAt prog w (hideAll s.heap [b]) hp qs rows) (W : WFR rows) (B : Bd rows)
   (hx : ThingAt prog w (hideAll s.heap [b]) x k q r) (hr : rows[k]? = some r) (hsort : r.sort = 1) (hsep : sep.length ≤ 2) (hb : SeenAt s.heap b ns) (hf : free rows ns < f + 1) (hl : ns.length ≤ 40) (C0 : Cx w mg mb A s.heap [b] (Bud ns.length - 2) (3 * Bud ns.length - 6))
   (hQ : fthg (far rows f) rows k ns ≤ 15 → ∀ h' tk' t, Stays [b] s.heap h' → SeenAt h' b ns → Q (.str (thg (txt rows f) rows k ns sep) t) { s with heap := h', toks := tk' })
   (hE : 15 < fthg (far rows f) rows k ns → ∀ e h' tk', Fly A [b] s.heap h' e → E (.ref e) { s with heap := h', toks := tk' }) :
   wpAny (model prog w) A (call (.ref 215) [.ref hp, .ref x, .str sep ts, .ref b]) Q E s := by
  have hk : k < rows.length := (List.getElem?_eq_some_iff.mp hr).1
  with_reducible refine gen fun GG kGG => ?_
  obtain ⟨its, n, hb, hi⟩ := hb
  with_reducible refine kGG ?_
  clear kGG GG
  have C0' : Cx w mg mb A s.heap [b] ((Bud ns.length - 3) + 1) ((3 * Bud ns.length - 9) + 3) := by
    have e1 : Bud ns.length - 2 = (Bud ns.length - 3) + 1 := by unfold Bud; (first | lia | omega)
    have e2 : 3 * Bud ns.length - 6 = (3 * Bud ns.length - 9) + 3 := by unfold Bud; (first | lia | omega)
    rw [← e1, ← e2]; exact C0
  refine call_ruleE (d := Bud ns.length - 3) (u := 3 * Bud ns.length - 9) (binds := [(Str.ofString "heap", .ref hp), (Str.ofString "thing", .ref x), (Str.ofString "sep", .str sep ts), (Str.ofString "seen", .ref b)]) C0' (by k_is) (by k_is) (BindsTo.of_eq rfl) (locs rfl) (fun L h₁ tk F hk' C => ?_) (by decide)
  with_reducible refine hideQ fun KK hKK => ?_
  clear C0'
  have X := C.X
  have T := C.T
  have N : News (hideAll s.heap [b]) L h₁ [(b, listOf its n)] := fun p hp => by rw [List.mem_singleton.mp hp]; exact ⟨(hk' _ _ hb).1, (hk' _ _ hb).2, hideAll_none _ (.head _)⟩
  clear hk'
  with_reducible refine gen fun GG kGG => ?_
  obtain ⟨dx, es, n', sl, gl, tl, il, t1, t2, t3, a1, a2, b1, b2, b3, b4, b5, b6, b7, c1, c2, c3, c4, c5, c6, c7⟩ := hx.ex
  with_reducible refine kGG ?_
  clear kGG GG
  by_cases hin : ns.any (· == (k : Int)) = true
  · have hkn : (k : Int) ∈ ns := by
      with_reducible refine gen fun GG kGG => ?_
      obtain ⟨y, hy, e⟩ := List.any_eq_true.mp hin
      with_reducible refine kGG ?_
      clear kGG GG
      rw [← (beq_iff_eq.mp e)]; exact hy
    have ef : fthg (far rows f) rows k ns = 0 := by unfold fthg; rw [hr]; simp only [hsort, hkn, if_true, if_false]; rfl
    have et : thg (txt rows f) rows k ns sep = Str.ofString "" := by unfold thg; rw [hr]; simp only [hsort, hkn, if_true, if_false]; rfl
    (((repeat' (first | walk1 | (dsimp only; walk1) | (k_unfold; (try dsimp only)) | (refine hKS _ _ ?_; clear hKS KS; (try dsimp only)))); (all_goals (try dsimp only)); (all_goals (repeat ((((fail_if_success (with_reducible show wpAny _ _ _ _ _ _)); (refine (‹∀ (x : _) (y : Shared), _ → _›) _ _ ?_); (try dsimp only))))))))
    rw [et] at hQ
    repeat ((((fail_if_success (with_reducible show wpAny _ _ _ _ _ _)); (refine (‹∀ (x : _) (y : Shared), _ → _›) _ _ ?_); (try dsimp only))))
    exact hQ (by rw [ef]; (first | lia | omega)) _ _ _ (Fr.out (by assumption)) ⟨_, _, (N _ (.head _)).1, hi⟩
  · have hkn : (k : Int) ∉ ns := fun z => hin (List.any_eq_true.mpr ⟨_, z, beq_self_eq_true _⟩)
    have ef : fthg (far rows f) rows k ns = max (ns.length + 1) (maxs (r.items.map (fpiece fun v => far rows f v (ns ++ [(k : Int)])))) := by unfold fthg; rw [hr]; simp only [hsort, hkn, if_true, if_false]; rfl
    have et : thg (txt rows f) rows k ns sep = Str.join sep (r.items.map (piece fun v => txt rows f v (ns ++ [(k : Int)]))) := by unfold thg; rw [hr]; simp only [hsort, hkn, if_true, if_false]; rfl
    rw [ef, et] at hQ
    rw [ef] at hE
    (((repeat' ((fail_if_success ((with_reducible (first | (show wpAny _ _ (exec (Stmt.While _ _ _ _) _) _ _ _) | (show wpAny _ _ (exec (Stmt.For _ _ _ _ _) _) _ _ _) | (show wpAny _ _ (eval (PySem.Expr.ListComp _ _ _ _) _) _ _ _) | (show wpAny _ _ (exec (Stmt.Try _ _ _ _ _) _) _ _ _))))); (first | walk1 | (dsimp only; walk1) | (k_unfold; (try dsimp only)) | (refine hKS _ _ ?_; clear hKS KS; (try dsimp only))))); (all_goals (try dsimp only)); (all_goals (repeat ((((fail_if_success (with_reducible show wpAny _ _ _ _ _ _)); (refine (‹∀ (x : _) (y : Shared), _ → _›) _ _ ?_); (try dsimp only))))))))
    refine open_in C0 C rfl (by assumption) N (.head _) hi (by first | exact Nat.le_of_ble_eq_true rfl | assumption | (first | lia | omega)) hx (by unfold Bud; (first | lia | omega)) (by unfold Bud; (first | lia | omega)) (fun h15 h' tk' its' n' F' N' hi' => ?_) (fun h15 e s' hF g1 g2 g3 => ?_)
    · clear N F
      (((repeat' ((fail_if_success ((with_reducible (first | (show wpAny _ _ (exec (Stmt.While _ _ _ _) _) _ _ _) | (show wpAny _ _ (exec (Stmt.For _ _ _ _ _) _) _ _ _) | (show wpAny _ _ (eval (PySem.Expr.ListComp _ _ _ _) _) _ _ _) | (show wpAny _ _ (exec (Stmt.Try _ _ _ _ _) _) _ _ _))))); (first | walk1 | (dsimp only; walk1) | (k_unfold; (try dsimp only)) | (refine hKS _ _ ?_; clear hKS KS; (try dsimp only))))); (all_goals (try dsimp only)); (all_goals (repeat ((((fail_if_success (with_reducible show wpAny _ _ _ _ _ _)); (refine (‹∀ (x : _) (y : Shared), _ → _›) _ _ ?_); (try dsimp only))))))))
      refine For_invV (hideAll s.heap [b]) rfl rfl ?_
      (((repeat' ((fail_if_success ((with_reducible (first | (show wpAny _ _ (exec (Stmt.While _ _ _ _) _) _ _ _) | (show wpAny _ _ (exec (Stmt.For _ _ _ _ _) _) _ _ _) | (show wpAny _ _ (eval (PySem.Expr.ListComp _ _ _ _) _) _ _ _) | (show wpAny _ _ (exec (Stmt.Try _ _ _ _ _) _) _ _ _))))); (first | walk1 | (dsimp only; walk1) | (k_unfold; (try dsimp only)) | (refine hKS _ _ ?_; clear hKS KS; (try dsimp only))))); (all_goals (try dsimp only)); (all_goals (repeat ((((fail_if_success (with_reducible show wpAny _ _ _ _ _ _)); (refine (‹∀ (x : _) (y : Shared), _ → _›) _ _ ?_); (try dsimp only))))))))
      rename_i o hh1 hbo hh2 hh3 F N
      have hob : o ≠ b := Nat.ne_of_gt hbo
      have hilL : il ≠ L := fun z => by
        with_reducible refine gen fun GG kGG => ?_
        obtain ⟨oi, hoi, _⟩ := c7
        with_reducible refine kGG ?_
        clear kGG GG
        rw [z, fr_none F] at hoi; cases hoi
      with_reducible refine gen fun GG kGG => ?_
      obtain ⟨TP, hTP⟩ : ∃ TP, TP = piece fun v => txt rows f v (ns ++ [(k : Int)]) := ⟨_, rfl⟩
      obtain ⟨FP, hFP⟩ : ∃ FP, FP = fpiece fun v => far rows f v (ns ++ [(k : Int)]) := ⟨_, rfl⟩
      with_reducible refine kGG ?_
      clear kGG GG
      rw [← hTP, ← hFP] at hQ
      rw [← hFP] at hE
      have hsum := B.sum f k r ns sep hr hsort hkn hsep
      rw [← hTP] at hsum
      refine loop_list (fun i m₁ μ₁ => ∃ (its : Array Value) (n : Nat) (ps : Array Value) (n2 : Nat) (tt : Tok), μ₁ = [(o, listOf ps n2), (b, listOf its n)] ∧ IntsAre its.toList (ns ++ [(k : Int)]) ∧ StrsAre ps.toList ((r.items.take i).map TP) ∧
        m₁ (Str.ofString "total") = some (.int (((((r.items.take i).map TP).map (fun p => p.length + sep.length + 1)).sum : Nat) : Int) tt) ∧ (∀ y ∈ r.items.take i, FP y ≤ 15) ∧
        m₁ (Str.ofString "heap") = some (.ref hp) ∧ m₁ (Str.ofString "sep") = some (.str sep ts) ∧ m₁ (Str.ofString "seen") = some (.ref b) ∧ m₁ (Str.ofString "out") = some (.ref o))
        (Cb.hd C) (c7.at fun o e => F.keep _ o e) hilL ?_ F N ⟨its', n', #[], 0, _, rfl, hi', .nil, rfl, (fun y hy => nomatch hy), rfl, rfl, rfl, rfl⟩ ?_ ?_
      · intro p hp z
        with_reducible refine gen fun GG kGG => ?_
        obtain ⟨oi, hoi, _⟩ := c7
        with_reducible refine kGG ?_
        clear kGG GG
        have := (N p hp).2.2
        rw [z, hoi] at this; cases this
      · intro i v m₁ μ₁ h tk κ hv hRp1
        with_reducible refine gen fun GG kGG => ?_
        obtain ⟨its, n, ps, n2, tt, rfl, hi, hps, m1, hfar, m2, m3, m4, m5⟩ := hRp1
        with_reducible refine kGG ?_
        clear kGG GG
        intro hμ F N hκ
        with_reducible refine hideQ fun KK hKK => ?_
        with_reducible refine gen fun GG kGG => ?_
        obtain ⟨y, hy, a, tg, tp, rfl, hva⟩ := hx.its.getL hv
        with_reducible refine kGG ?_
        clear kGG GG
        have hyk := W.item _ _ _ hr (List.mem_of_getElem? hy)
        by_cases htag : y.tag < 2
        · have hd1 : decide (y.tag ≤ 1) = true := decide_eq_true (by (first | lia | omega))
          have hpl : TP y = Str.ofString "" := by rw [hTP]; unfold piece; rw [if_pos htag]
          have hff : FP y = 0 := by rw [hFP]; unfold fpiece; rw [if_pos htag]
          have N2 : News (hideAll s.heap [b]) L h ((o, listOf ps n2) :: (b, listOf its n) :: κ) := N
          clear N
          (( (have hS : ((((r.items.take (i + 1)).map TP).map (fun p => p.length + sep.length + 1)).sum) = ((((r.items.take i).map TP).map (fun p => p.length + sep.length + 1)).sum) + ((TP y).length + sep.length + 1) := by rw [take_one hy, List.map_append, List.map_append, List.sum_append]; simp); (have hS2 := take_sum (fun z => (TP z).length + sep.length + 1) r.items (i + 1)); (have hS3 := len_sum (fun p : Str => p.length + sep.length + 1) (fun _ => Nat.le_add_left _ _) ((r.items.take i).map TP)); (simp only [List.map_map, Function.comp_def] at hS hS2 hS3 hsum m1); (rw [hpl] at hS); (try rw [show (Str.ofString "").length = 0 from by decide] at hS); (have hS4 := hps.length); (rw [Array.length_toList] at hS4); (generalize hSn : ((r.items.take i).map fun z => (TP z).length + sep.length + 1).sum = S at hS hS2 hS3 m1); (have hpz : ps.size ≤ sizeLine := by rw [sizeLine_eq]; omega); (have hns : ((r.items.take (i + 1)).map fun z => (TP z).length + sep.length + 1).sum ≤ 1048576 := by (first | lia | omega)); clear hS2 hS3; (((repeat' (first | walk1 | (dsimp only; walk1) | (k_unfold; (try dsimp only)) | (refine hKS _ _ ?_; clear hKS KS; (try dsimp only)))); (all_goals (try dsimp only)); (all_goals (repeat ((((fail_if_success (with_reducible show wpAny _ _ _ _ _ _)); (refine (‹∀ (x : _) (y : Shared), _ → _›) _ _ ?_); (try dsimp only))))))))))
          all_goals (( (rename Fr _ _ _ _ => mF); (rename News _ _ _ _ => mN); (obtain ⟨tt', hT⟩ := Fr.tot mF rfl); refine ⟨_, _, _, [(o, listOf _ _), (b, listOf _ _)], rfl, mF, mN, rfl, _, _, _, _, tt', rfl, hi, ?_, hT.trans (congrArg (fun z => some (Value.int z tt')) ?_), ?_, m2, m3, m4, m5⟩))
          · rw [take_one hy, List.map_append, List.map_singleton, hpl]
            simp only [Array.toList_push]
            exact hps.append' (.cons _ _ .nil)
          · simp only [List.map_map, Function.comp_def]
            rw [hS]
            push_cast
            first | rfl | (first | lia | omega)
          · intro z hz
            rw [take_one hy] at hz
            refine all_app (fun z hz => ?_) (fun z hz => ?_) z hz
            · exact hfar z hz
            · rw [List.mem_singleton.mp hz]; (first | lia | omega)
        · have hd1 : decide (y.tag ≤ 1) = false := decide_eq_false (by (first | lia | omega))
          (((repeat' (first | walk1 | (dsimp only; walk1) | (k_unfold; (try dsimp only)) | (refine hKS _ _ ?_; clear hKS KS; (try dsimp only)))); (all_goals (try dsimp only)); (all_goals (repeat ((((fail_if_success (with_reducible show wpAny _ _ _ _ _ _)); (refine (‹∀ (x : _) (y : Shared), _ → _›) _ _ ?_); (try dsimp only))))))))
          refine tti_in2 (n := n) (μ := (o, listOf ps n2) :: κ) ih C0 C rfl (by assumption) ?_ ?_ hi H ⟨_, _, _, rfl, hva⟩ hyk ?_ ?_ ?_ ?_ (fun hfar2 h' tk' tq its' n' F' N' hi' => ?_) (fun hfar2 e s' hF g1 g2 g3 => ?_)
          · intro p hp; refine N p ?_
            refine all_cons ?_ (fun p hp => ?_) p hp
            · exact .tail _ (.head _)
            · refine all_cons ?_ (fun p hp => ?_) p hp
              · exact .head _
              · exact .tail _ (.tail _ hp)
          · intro p hp
            refine all_cons ?_ (fun p hp => ?_) p hp
            · exact hob
            · exact hκ p hp b (.tail _ (.head _))
          · have := free_lt hk hkn; (first | lia | omega)
          · rw [List.length_append]; simp only [List.length_cons, List.length_nil]; (first | lia | omega)
          · rw [List.length_append]; simp only [List.length_cons, List.length_nil]; unfold Bud; (first | lia | omega)
          · rw [List.length_append]; simp only [List.length_cons, List.length_nil]; unfold Bud; (first | lia | omega)
          · clear F N
            have F := F'
            have N : News (hideAll s.heap [b]) L h' ((o, listOf ps n2) :: (b, listOf its' n') :: κ) := fun p hp => N' p (by
              refine all_cons ?_ (fun p hp => ?_) p hp
              · exact .tail _ (.head _)
              · refine all_cons ?_ (fun p hp => ?_) p hp
                · exact .head _
                · exact .tail _ (.tail _ hp))
            clear F' N'
            have hpl : TP y = txt rows f y (ns ++ [(k : Int)]) := by rw [hTP]; unfold piece; rw [if_neg htag]
            have hff : FP y ≤ 15 := by rw [hFP]; unfold fpiece; rw [if_neg htag]; exact hfar2
            have hx2l := B.all f y (ns ++ [(k : Int)]) hyk
            generalize txt rows f y (ns ++ [(k : Int)]) = x2 at hpl hx2l
            clear hi
            have hi := hi'
            (( (have hS : ((((r.items.take (i + 1)).map TP).map (fun p => p.length + sep.length + 1)).sum) = ((((r.items.take i).map TP).map (fun p => p.length + sep.length + 1)).sum) + ((TP y).length + sep.length + 1) := by rw [take_one hy, List.map_append, List.map_append, List.sum_append]; simp); (have hS2 := take_sum (fun z => (TP z).length + sep.length + 1) r.items (i + 1)); (have hS3 := len_sum (fun p : Str => p.length + sep.length + 1) (fun _ => Nat.le_add_left _ _) ((r.items.take i).map TP)); (simp only [List.map_map, Function.comp_def] at hS hS2 hS3 hsum m1); (rw [hpl] at hS); (try rw [show (Str.ofString "").length = 0 from by decide] at hS); (have hS4 := hps.length); (rw [Array.length_toList] at hS4); (generalize hSn : ((r.items.take i).map fun z => (TP z).length + sep.length + 1).sum = S at hS hS2 hS3 m1); (have hpz : ps.size ≤ sizeLine := by rw [sizeLine_eq]; omega); (have hns : ((r.items.take (i + 1)).map fun z => (TP z).length + sep.length + 1).sum ≤ 1048576 := by (first | lia | omega)); clear hS2 hS3; (((repeat' (first | walk1 | (dsimp only; walk1) | (k_unfold; (try dsimp only)) | (refine hKS _ _ ?_; clear hKS KS; (try dsimp only)))); (all_goals (try dsimp only)); (all_goals (repeat ((((fail_if_success (with_reducible show wpAny _ _ _ _ _ _)); (refine (‹∀ (x : _) (y : Shared), _ → _›) _ _ ?_); (try dsimp only))))))))))
            all_goals (( (rename Fr _ _ _ _ => mF); (rename News _ _ _ _ => mN); (obtain ⟨tt', hT⟩ := Fr.tot mF rfl); refine ⟨_, _, _, [(o, listOf _ _), (b, listOf _ _)], rfl, mF, mN, rfl, _, _, _, _, tt', rfl, hi, ?_, hT.trans (congrArg (fun z => some (Value.int z tt')) ?_), ?_, m2, m3, m4, m5⟩))
            · rw [take_one hy, List.map_append, List.map_singleton, hpl]
              simp only [Array.toList_push]
              exact hps.append' (.cons _ _ .nil)
            · simp only [List.map_map, Function.comp_def]
              rw [hS]
              push_cast
              first | rfl | (first | lia | omega)
            · intro z hz
              rw [take_one hy] at hz
              refine all_app (fun z hz => ?_) (fun z hz => ?_) z hz
              · exact hfar z hz
              · rw [List.mem_singleton.mp hz]; (first | lia | omega)
          · have hff : 15 < FP y := by rw [hFP]; unfold fpiece; rw [if_neg htag]; exact hfar2
            have := maxs_ge FP r.items y (List.mem_of_getElem? hy)
            have zz := hE (by first | exact Nat.le_of_ble_eq_true rfl | assumption | (first | lia | omega)) e s'.heap s'.toks hF
            rcases s' with ⟨q1, q2, q3, q4, q5⟩
            cases g1; cases g2; cases g3; exact zz
      · intro m₁ μ₁ h tk hRp1
        with_reducible refine gen fun GG kGG => ?_
        obtain ⟨its, n, ps, n2, tt, rfl, hi, hps, m1, hfar, m2, m3, m4, m5⟩ := hRp1
        with_reducible refine kGG ?_
        clear kGG GG
        intro hμ F N
        with_reducible refine gen fun GG kGG => ?_
        obtain ⟨us, rfl⟩ : ∃ us : List Value, its = us.toArray := ⟨its.toList, by simp⟩
        with_reducible refine kGG ?_
        clear kGG GG
        replace hi : IntsAre us (ns ++ [(k : Int)]) := by simpa using hi
        have hz := IntsAre.length hi
        have hz2 : (ns ++ [(k : Int)]).length = ns.length + 1 := by simp
        have hz3 : 0 < us.length := by (first | lia | omega)
        have hz4 : us.length ≤ 1000 := by (first | lia | omega)
        have hl1 := All2.len hx.its
        rw [hl1, List.take_length] at hps m1 hfar
        simp only [List.map_map, Function.comp_def] at hsum m1
        have hS3 := len_sum (fun p : Str => p.length + sep.length + 1) (fun _ => Nat.le_add_left _ _) (r.items.map TP)
        have hS5 := sum_sep sep.length (r.items.map TP)
        simp only [List.map_map, Function.comp_def] at hS5
        (((repeat' (first | walk1 | (dsimp only; walk1) | (k_unfold; (try dsimp only)) | (refine hKS _ _ ?_; clear hKS KS; (try dsimp only)))); (all_goals (try dsimp only)); (all_goals (repeat ((((fail_if_success (with_reducible show wpAny _ _ _ _ _ _)); (refine (‹∀ (x : _) (y : Shared), _ → _›) _ _ ?_); (try dsimp only))))))))
        rename_i F N hI
        refine join_list (News.isList N (.head _)) hps (by simp only [List.map_map, Function.comp_def]; (first | lia | omega)) fun t' k' => ?_
        rw [eq_of_beq (join_plain_closes sep _)]
        have hmx := maxs_le FP 15 r.items hfar
        repeat ((((fail_if_success (with_reducible show wpAny _ _ _ _ _ _)); (refine (‹∀ (x : _) (y : Shared), _ → _›) _ _ ?_); (try dsimp only))))
        refine hQ (by first | exact Nat.le_of_ble_eq_true rfl | assumption | (first | lia | omega)) _ _ _ (Fr.out F) ⟨_, _, (N (b, _) (.tail _ (.head _))).1, ?_⟩
        have hd := intsAre_dropLast hi
        rw [List.dropLast_concat] at hd
        simpa using hd
    · have zz := hE (by first | exact Nat.le_of_ble_eq_true rfl | assumption | (first | lia | omega)) e s'.heap s'.toks hF
      rcases s' with ⟨q1, q2, q3, q4, q5⟩
      cases g1; cases g2; cases g3; exact zz
end
section
variable {prog : Program} {w : World} {mg mb : Str → Option Value} {A : Around} {s : Shared} {Q E : Value → Shared → Prop}
/-- a call with the open list handed on, made in a frame -/
theorem seen_in {env : Env} {h₀ : Heap} {L b : Addr} {m : Str → Option Value} {μ : List (Addr × Obj)} {its : Array Value} {n : Nat} {d u d0 u0 d' u' : Nat} {ns ns' : List Int} {E₀ : Value → Shared → Prop} {c : Sem Value} {good bad : Prop} {R : Value → Prop}
   (C0 : Cx w mg mb A h₀ [b] d0 u0) (C : Cb w mg mb (A.deeper env) (hideAll h₀ [b]) L d u) (hf : env.frame = some L) (F : Fr (hideAll h₀ [b]) L s.heap m) (N : News (hideAll h₀ [b]) L s.heap ((b, listOf its n) :: μ)) (hn : ∀ p ∈ μ, p.1 ≠ b)
   (hi : IntsAre its.toList ns) (hd : d' ≤ d) (hu : u' ≤ u)
   (call : ∀ Q E, Cx w mg mb (A.deeper env) s.heap [b] d' u' → (hideAll h₀ [b]).StaysIn (hideAll s.heap [b]) → SeenAt s.heap b ns →
     (good → ∀ h' tk' v, R v → Stays [b] s.heap h' → SeenAt h' b ns' → Q v { s with heap := h', toks := tk' }) → (bad → ∀ e h' tk', Fly (A.deeper env) [b] s.heap h' e → E (.ref e) { s with heap := h', toks := tk' }) → wpAny (model prog w) (A.deeper env) c Q E s)
   (hQ : good → ∀ h' tk' v its' n', R v → Fr (hideAll h₀ [b]) L h' m → News (hideAll h₀ [b]) L h' ((b, listOf its' n') :: μ) → IntsAre its'.toList ns' → Q v { s with heap := h', toks := tk' })
   (hE : bad → ∀ e s', Fly A [b] h₀ s'.heap e → s'.gens = s.gens → s'.drawn = s.drawn → s'.os = s.os → E₀ (.ref e) s') :
   wpAny (model prog w) (A.deeper env) c Q (fun e s' => wpAny (model prog w) (A.deeper env) (leaving env e) (fun _ s'' => E₀ e s'') (fun e' s'' => E₀ e' s'') s') s := by
  have hm := N _ (.head _)
  have hgb : ∀ a ∈ [b], (hideAll h₀ [b]).get? a = none := fun a q => hideAll_none _ q
  have hLb : L ∉ [b] := fun q => hm.2.1 (List.mem_singleton.mp q).symm
  refine call _ _ (Cb.at C F hgb hLb hd hu) (under_hide F hgb) ⟨its, n, hm.1, hi⟩ ?_ ?_
  · intro h15 h' tk' v hR S hRp1
    with_reducible refine gen fun GG kGG => ?_
    obtain ⟨its', n', hb', hi'⟩ := hRp1
    with_reducible refine kGG ?_
    clear kGG GG
    repeat ((((fail_if_success (with_reducible show wpAny _ _ _ _ _ _)); (refine (‹∀ (x : _) (y : Shared), _ → _›) _ _ ?_); (try dsimp only))))
    exact hQ h15 h' tk' v its' n' hR (Fr.st1 F N S) (News.st1 N S hn hb') hi'
  · intro h15 e h' tk' hF
    with_reducible refine gen fun GG kGG => ?_
    obtain ⟨as, hA, hfr⟩ := C0.fr
    with_reducible refine kGG ?_
    clear kGG GG
    exact leave_fly (D := [b]) hA hf hfr F hgb hLb hF fun h'' hF' => hE h15 e _ hF' rfl rfl rfl

theorem object_text_spec {a hp b : Addr} {k : Nat} {qs : List Raw} {rows : List Rw} {f : Nat} {ns : List Int} {t2 t3 : Tok} (ih : TTI prog w mg mb rows f) (H : ThingsAt prog w (hideAll s.heap [b]) hp qs rows) (W : WFR rows) (B : Bd rows)
   (hv : IsTup (hideAll s.heap [b]) a ([.int 6 t2, .int (k : Int) t3] : List Value).toArray) (hk : k < rows.length) (hb : SeenAt s.heap b ns) (hf : free rows ns < f + 1) (hl : ns.length ≤ 40) (C0 : Cx w mg mb A s.heap [b] (Bud ns.length - 1) (3 * Bud ns.length - 3))
   (hQ : far rows (f + 1) (.obj k) ns ≤ 15 → ∀ h' tk' t, Stays [b] s.heap h' → SeenAt h' b ns → Q (.str (txt rows (f + 1) (.obj k) ns) t) { s with heap := h', toks := tk' })
   (hE : 15 < far rows (f + 1) (.obj k) ns → ∀ e h' tk', Fly A [b] s.heap h' e → E (.ref e) { s with heap := h', toks := tk' }) :
   wpAny (model prog w) A (call (.ref 222) [.ref hp, .ref a, .ref b]) Q E s := by
  have hE' : ∀ {s₁ : Shared}, s₁.gens = s.gens → s₁.drawn = s.drawn → s₁.os = s.os → 15 < far rows (f + 1) (.obj k) ns → ∀ e (s' : Shared), Fly A [b] s.heap s'.heap e → s'.gens = s₁.gens → s'.drawn = s₁.drawn → s'.os = s₁.os → E (.ref e) s' := by
    intro s₁ e1 e2 e3 h15 e s' hF g1 g2 g3
    have zz := hE h15 e s'.heap s'.toks hF
    rw [e1] at g1; rw [e2] at g2; rw [e3] at g3
    rcases s' with ⟨q1, q2, q3, q4, q5⟩
    cases g1; cases g2; cases g3; exact zz
  with_reducible refine gen fun GG kGG => ?_
  obtain ⟨its, n, hb, hi⟩ := hb
  with_reducible refine kGG ?_
  clear kGG GG
  have C0' : Cx w mg mb A s.heap [b] ((Bud ns.length - 2) + 1) ((3 * Bud ns.length - 6) + 3) := by
    have e1 : Bud ns.length - 1 = (Bud ns.length - 2) + 1 := by unfold Bud; (first | lia | omega)
    have e2 : 3 * Bud ns.length - 3 = (3 * Bud ns.length - 6) + 3 := by unfold Bud; (first | lia | omega)
    rw [← e1, ← e2]; exact C0
  refine call_ruleE (d := Bud ns.length - 2) (u := 3 * Bud ns.length - 6) (binds := [(Str.ofString "heap", .ref hp), (Str.ofString "v", .ref a), (Str.ofString "seen", .ref b)]) C0' (by k_is) (by k_is) (BindsTo.of_eq rfl) (locs rfl) (fun L h₁ tk F hk' C => ?_) (by decide)
  with_reducible refine hideQ fun KK hKK => ?_
  clear C0'
  have X := C.X
  have T := C.T
  have N : News (hideAll s.heap [b]) L h₁ [(b, listOf its n)] := fun p hp => by rw [List.mem_singleton.mp hp]; exact ⟨(hk' _ _ hb).1, (hk' _ _ hb).2, hideAll_none _ (.head _)⟩
  clear hk'
  with_reducible refine gen fun GG kGG => ?_
  obtain ⟨dh, eh, nh, tl, xs, d1, d2, d3, d4, d5, d6, d7⟩ := H.ex
  obtain ⟨x, hx⟩ : ∃ x, xs[k]? = some x := ⟨_, List.getElem?_eq_getElem (by first | exact Nat.le_of_ble_eq_true rfl | assumption | (first | lia | omega))⟩
  obtain ⟨q, hq⟩ : ∃ q, qs[k]? = some q := ⟨_, List.getElem?_eq_getElem (by first | exact Nat.le_of_ble_eq_true rfl | assumption | (first | lia | omega))⟩
  obtain ⟨r, hr⟩ : ∃ r, rows[k]? = some r := ⟨_, List.getElem?_eq_getElem hk⟩
  with_reducible refine kGG ?_
  clear kGG GG
  have hx' : (xs.map Value.ref)[((k : Nat) : Int).toNat]? = some (.ref x) := by rw [Int.toNat_natCast, List.getElem?_map, hx]; rfl
  have hT := d7 _ _ _ _ hx hq hr
  have hl100 := W.len
  have hk63 : (k : Int) < 2 ^ 63 := by (first | lia | omega)
  with_reducible refine gen fun GG kGG => ?_
  obtain ⟨dx, es, n', sl, gl, ul, il, t5, t6, t7, a1, a2, b1, b2, b3, b4, b5, b6, b7, c1, c2, c3, c4, c5, c6, c7⟩ := id hT.ex
  with_reducible refine kGG ?_
  clear kGG GG
  rcases W.sort k r hr with hs | hs | hs | hs
  · rw [hs] at b2
    have ef : far rows (f + 1) (.obj k) ns = 0 := by show fthg _ _ _ _ = _; unfold fthg; rw [hr]; simp only [hs, if_true]
    have et : txt rows (f + 1) (.obj k) ns = Str.ofString "[object Object]" := by show thg _ _ _ _ _ = _; unfold thg; rw [hr]; simp only [hs, if_true]
    (((repeat' (first | walk1 | (dsimp only; walk1) | (k_unfold; (try dsimp only)) | (refine hKS _ _ ?_; clear hKS KS; (try dsimp only)))); (all_goals (try dsimp only)); (all_goals (repeat ((((fail_if_success (with_reducible show wpAny _ _ _ _ _ _)); (refine (‹∀ (x : _) (y : Shared), _ → _›) _ _ ?_); (try dsimp only))))))))
    rw [et] at hQ
    repeat ((((fail_if_success (with_reducible show wpAny _ _ _ _ _ _)); (refine (‹∀ (x : _) (y : Shared), _ → _›) _ _ ?_); (try dsimp only))))
    exact hQ (by first | exact Nat.le_of_ble_eq_true rfl | assumption | (first | lia | omega)) _ _ _ (Fr.out (by assumption)) ⟨_, _, (News.of (by assumption) (by k_mem)).1, hi⟩
  · rw [hs] at b2
    (((repeat' (first | walk1 | (dsimp only; walk1) | (k_unfold; (try dsimp only)) | (refine hKS _ _ ?_; clear hKS KS; (try dsimp only)))); (all_goals (try dsimp only)); (all_goals (repeat ((((fail_if_success (with_reducible show wpAny _ _ _ _ _ _)); (refine (‹∀ (x : _) (y : Shared), _ → _›) _ _ ?_); (try dsimp only))))))))
    rename Fr _ _ _ _ => F
    rename News _ _ _ _ => N
    refine seen_in (μ := []) (good := fthg (far rows f) rows k ns ≤ 15) (bad := 15 < fthg (far rows f) rows k ns) (R := fun v => ∃ t, v = .str (thg (txt rows f) rows k ns (Str.ofString ",")) t) (ns' := ns) (d' := Bud ns.length - 2) (u' := 3 * Bud ns.length - 6) C0 C rfl F N (fun p hp => nomatch hp) hi (Nat.le_refl _) (Nat.le_refl _)
      (fun Q E Cx up hb hQ hE => items_text_spec ih (H.up _ _ up) W B (hT.up _ _ up) hr hs (by decide) hb hf hl Cx (fun hg h' tk' t S sb => hQ hg h' tk' _ ⟨t, rfl⟩ S sb) hE) (fun hg h' tk' v its' n' hR F' N' hi' => ?_) (hE' rfl rfl rfl)
    with_reducible refine gen fun GG kGG => ?_
    obtain ⟨t, rfl⟩ := hR
    with_reducible refine kGG ?_
    clear kGG GG
    repeat ((((fail_if_success (with_reducible show wpAny _ _ _ _ _ _)); (refine (‹∀ (x : _) (y : Shared), _ → _›) _ _ ?_); (try dsimp only))))
    exact hQ hg _ _ _ (Fr.out F') ⟨_, _, (N' _ (.head _)).1, hi'⟩
  · rw [hs] at b2
    have ef : far rows (f + 1) (.obj k) ns = 0 := by show fthg _ _ _ _ = _; unfold fthg; rw [hr]; simp only [hs]; rfl
    have et : txt rows (f + 1) (.obj k) ns = Str.ofString "function" := by show thg _ _ _ _ _ = _; unfold thg; rw [hr]; simp only [hs]; rfl
    (((repeat' (first | walk1 | (dsimp only; walk1) | (k_unfold; (try dsimp only)) | (refine hKS _ _ ?_; clear hKS KS; (try dsimp only)))); (all_goals (try dsimp only)); (all_goals (repeat ((((fail_if_success (with_reducible show wpAny _ _ _ _ _ _)); (refine (‹∀ (x : _) (y : Shared), _ → _›) _ _ ?_); (try dsimp only))))))))
    rw [et] at hQ
    repeat ((((fail_if_success (with_reducible show wpAny _ _ _ _ _ _)); (refine (‹∀ (x : _) (y : Shared), _ → _›) _ _ ?_); (try dsimp only))))
    exact hQ (by first | exact Nat.le_of_ble_eq_true rfl | assumption | (first | lia | omega)) _ _ _ (Fr.out (by assumption)) ⟨_, _, (News.of (by assumption) (by k_mem)).1, hi⟩
  · rw [hs] at b2
    by_cases hin : ns.any (· == (k : Int)) = true
    · have hkn : (k : Int) ∈ ns := by
        with_reducible refine gen fun GG kGG => ?_
        obtain ⟨y, hy, e⟩ := List.any_eq_true.mp hin
        with_reducible refine kGG ?_
        clear kGG GG
        rw [← (beq_iff_eq.mp e)]; exact hy
      have ef : far rows (f + 1) (.obj k) ns = 0 := by show fthg _ _ _ _ = _; unfold fthg; rw [hr]; simp only [hs, hkn, if_true]; rfl
      have et : txt rows (f + 1) (.obj k) ns = Str.ofString "" := by show thg _ _ _ _ _ = _; unfold thg; rw [hr]; simp only [hs, hkn, if_true]; rfl
      (((repeat' (first | walk1 | (dsimp only; walk1) | (k_unfold; (try dsimp only)) | (refine hKS _ _ ?_; clear hKS KS; (try dsimp only)))); (all_goals (try dsimp only)); (all_goals (repeat ((((fail_if_success (with_reducible show wpAny _ _ _ _ _ _)); (refine (‹∀ (x : _) (y : Shared), _ → _›) _ _ ?_); (try dsimp only))))))))
      rw [et] at hQ
      repeat ((((fail_if_success (with_reducible show wpAny _ _ _ _ _ _)); (refine (‹∀ (x : _) (y : Shared), _ → _›) _ _ ?_); (try dsimp only))))
      exact hQ (by first | exact Nat.le_of_ble_eq_true rfl | assumption | (first | lia | omega)) _ _ _ (Fr.out (by assumption)) ⟨_, _, (News.of (by assumption) (by k_mem)).1, hi⟩
    · have hkn : (k : Int) ∉ ns := fun z => hin (List.any_eq_true.mpr ⟨_, z, beq_self_eq_true _⟩)
      have ef : far rows (f + 1) (.obj k) ns = max (ns.length + 1) (max (ftold (fun v => far rows f v (ns ++ [(k : Int)])) (near rows k (Str.ofString "name"))) (ftold (fun v => far rows f v (ns ++ [(k : Int)])) (near rows k (Str.ofString "message")))) := by
        show fthg _ _ _ _ = _; unfold fthg; rw [hr]; simp only [hs, hkn, if_false]; rfl
      have et : txt rows (f + 1) (.obj k) ns = err (told (Str.ofString "Error") (fun v => txt rows f v (ns ++ [(k : Int)])) (near rows k (Str.ofString "name"))) (told (Str.ofString "") (fun v => txt rows f v (ns ++ [(k : Int)])) (near rows k (Str.ofString "message"))) := by
        show thg _ _ _ _ _ = _; unfold thg; rw [hr]; simp only [hs, hkn, if_false]; rfl
      rw [ef] at hE' hQ
      rw [et] at hQ
      (((repeat' (first | walk1 | (dsimp only; walk1) | (k_unfold; (try dsimp only)) | (refine hKS _ _ ?_; clear hKS KS; (try dsimp only)))); (all_goals (try dsimp only)); (all_goals (repeat ((((fail_if_success (with_reducible show wpAny _ _ _ _ _ _)); (refine (‹∀ (x : _) (y : Shared), _ → _›) _ _ ?_); (try dsimp only))))))))
      rename Fr _ _ _ _ => F
      rename News _ _ _ _ => N
      refine open_in C0 C rfl F N (.head _) hi (by first | exact Nat.le_of_ble_eq_true rfl | assumption | (first | lia | omega)) hT (by unfold Bud; (first | lia | omega)) (by unfold Bud; (first | lia | omega)) (fun h15 h' tk' its' n' F' N' hi' => ?_) (fun h15 => hE' rfl rfl rfl (by first | exact Nat.le_of_ble_eq_true rfl | assumption | (first | lia | omega)))
      clear F N hi
      have hz2 : (ns ++ [(k : Int)]).length = ns.length + 1 := by simp
      have hfr : free rows (ns ++ [(k : Int)]) < f := by have := free_lt hk hkn; (first | lia | omega)
      (((repeat' (first | walk1 | (dsimp only; walk1) | (k_unfold; (try dsimp only)) | (refine hKS _ _ ?_; clear hKS KS; (try dsimp only)))); (all_goals (try dsimp only)); (all_goals (repeat ((((fail_if_success (with_reducible show wpAny _ _ _ _ _ _)); (refine (‹∀ (x : _) (y : Shared), _ → _›) _ _ ?_); (try dsimp only))))))))
      rename Fr _ _ _ _ => F
      rename News _ _ _ _ => N
      refine seen_in (μ := []) (good := max (ftold (fun v => far rows f v (ns ++ [(k : Int)])) (near rows k (Str.ofString "name"))) (ftold (fun v => far rows f v (ns ++ [(k : Int)])) (near rows k (Str.ofString "message"))) ≤ 15) (bad := 15 < max (ftold (fun v => far rows f v (ns ++ [(k : Int)])) (near rows k (Str.ofString "name"))) (ftold (fun v => far rows f v (ns ++ [(k : Int)])) (near rows k (Str.ofString "message"))))
        (R := fun v => ∃ t, v = .str (err (told (Str.ofString "Error") (fun v => txt rows f v (ns ++ [(k : Int)])) (near rows k (Str.ofString "name"))) (told (Str.ofString "") (fun v => txt rows f v (ns ++ [(k : Int)])) (near rows k (Str.ofString "message")))) t) (ns' := ns ++ [(k : Int)]) (d' := Bud (ns ++ [(k : Int)]).length + 1) (u' := 3 * Bud (ns ++ [(k : Int)]).length + 3) C0 C rfl F N (fun p hp => nomatch hp) hi' (by rw [hz2]; unfold Bud; (first | lia | omega)) (by rw [hz2]; unfold Bud; (first | lia | omega))
        (fun Q E Cx up hb hQ hE => error_text_spec ih (H.up _ _ up) W B (hv.keeps up) hk hb hfr (by first | exact Nat.le_of_ble_eq_true rfl | assumption | (first | lia | omega)) Cx (fun hg h' tk' t S sb => hQ hg h' tk' _ ⟨t, rfl⟩ S sb) hE) (fun hg h' tk' v its' n' hR F' N' hi' => ?_) (fun hg => hE' rfl rfl rfl (by first | exact Nat.le_of_ble_eq_true rfl | assumption | (first | lia | omega)))
      with_reducible refine gen fun GG kGG => ?_
      obtain ⟨t, rfl⟩ := hR
      with_reducible refine kGG ?_
      clear kGG GG
      clear F N
      with_reducible refine gen fun GG kGG => ?_
      obtain ⟨us, rfl⟩ : ∃ us : List Value, its' = us.toArray := ⟨its'.toList, by simp⟩
      with_reducible refine kGG ?_
      clear kGG GG
      replace hi' : IntsAre us (ns ++ [(k : Int)]) := by simpa using hi'
      have hz := IntsAre.length hi'
      have hz3 : 0 < us.length := by (first | lia | omega)
      have hz4 : us.length ≤ 1000 := by (first | lia | omega)
      (((repeat' (first | walk1 | (dsimp only; walk1) | (k_unfold; (try dsimp only)) | (refine hKS _ _ ?_; clear hKS KS; (try dsimp only)))); (all_goals (try dsimp only)); (all_goals (repeat ((((fail_if_success (with_reducible show wpAny _ _ _ _ _ _)); (refine (‹∀ (x : _) (y : Shared), _ → _›) _ _ ?_); (try dsimp only))))))))
      rename Fr _ _ _ _ => F
      rename News _ _ _ _ => N
      repeat ((((fail_if_success (with_reducible show wpAny _ _ _ _ _ _)); (refine (‹∀ (x : _) (y : Shared), _ → _›) _ _ ?_); (try dsimp only))))
      refine hQ (by first | exact Nat.le_of_ble_eq_true rfl | assumption | (first | lia | omega)) _ _ _ (Fr.out F) ⟨_, _, (N (b, _) (.head _)).1, ?_⟩
      have hd := intsAre_dropLast hi'
      rw [List.dropLast_concat] at hd
      simpa using hd
end
section
variable {prog : Program} {w : World} {mg mb : Str → Option Value}
theorem tti_all {rows : List Rw} (W : WFR rows) (B : Bd rows) : ∀ f, TTI prog w mg mb rows f
  | 0 => fun A s Q E hp b qs v x ns H hv hok hb hf => absurd hf (Nat.not_lt_zero _)
  | f + 1 => by
    have ih := tti_all W B f
    intro A s Q E hp b qs v x ns H hv hok hb hf hl C0 hQ hE
    have hE' : ∀ {s₁ : Shared}, s₁.gens = s.gens → s₁.drawn = s.drawn → s₁.os = s.os → 15 < far rows (f + 1) x ns → ∀ e (s' : Shared), Fly A [b] s.heap s'.heap e → s'.gens = s₁.gens → s'.drawn = s₁.drawn → s'.os = s₁.os → E (.ref e) s' := by
      intro s₁ e1 e2 e3 h15 e s' hF g1 g2 g3
      have zz := hE h15 e s'.heap s'.toks hF
      rw [e1] at g1; rw [e2] at g2; rw [e3] at g3
      rcases s' with ⟨q1, q2, q3, q4, q5⟩
      cases g1; cases g2; cases g3; exact zz
    with_reducible refine gen fun GG kGG => ?_
    obtain ⟨its, n, hb, hi⟩ := hb
    obtain ⟨a, tg, tp, rfl, hv⟩ := hv
    with_reducible refine kGG ?_
    clear kGG GG
    have C0' : Cx w mg mb A s.heap [b] ((Bud ns.length - 1) + 1) ((3 * Bud ns.length - 3) + 3) := by
      have e1 : Bud ns.length = (Bud ns.length - 1) + 1 := by unfold Bud; (first | lia | omega)
      have e2 : 3 * Bud ns.length = (3 * Bud ns.length - 3) + 3 := by unfold Bud; (first | lia | omega)
      rw [← e1, ← e2]; exact C0
    refine call_ruleE (d := Bud ns.length - 1) (u := 3 * Bud ns.length - 3) (binds := [(Str.ofString "heap", .ref hp), (Str.ofString "v", .ref a), (Str.ofString "seen", .ref b)]) C0' (by k_is) (by k_is) (BindsTo.of_eq rfl) (locs rfl) (fun L h₁ tk F hk' C => ?_) (by decide)
    with_reducible refine hideQ fun KK hKK => ?_
    clear C0'
    have X := C.X
    have T := C.T
    have N : News (hideAll s.heap [b]) L h₁ [(b, listOf its n)] := fun p hp => by rw [List.mem_singleton.mp hp]; exact ⟨(hk' _ _ hb).1, (hk' _ _ hb).2, hideAll_none _ (.head _)⟩
    clear hk'
    have fin : ∀ {h' : Heap} {m : Str → Option Value} {μ : List (Addr × Obj)} {tk : Nat} {t : Tok}, far rows (f + 1) x ns = 0 → Fr (hideAll s.heap [b]) L h' m → News (hideAll s.heap [b]) L h' μ → (b, listOf its n) ∈ μ → Q (.str (txt rows (f + 1) x ns) t) { s with heap := h', toks := tk } :=
      fun h0 F N hm => hQ (by first | exact Nat.le_of_ble_eq_true rfl | assumption | (first | lia | omega)) _ _ _ (Fr.out F) ⟨_, _, (N _ hm).1, hi⟩
    cases x with
    | undef =>
      dsimp only [Vl.tag, Vl.pay] at hv
      (((repeat' (first | walk1 | (dsimp only; walk1) | (k_unfold; (try dsimp only)) | (refine hKS _ _ ?_; clear hKS KS; (try dsimp only)))); (all_goals (try dsimp only)); (all_goals (repeat ((((fail_if_success (with_reducible show wpAny _ _ _ _ _ _)); (refine (‹∀ (x : _) (y : Shared), _ → _›) _ _ ?_); (try dsimp only))))))))
      repeat ((((fail_if_success (with_reducible show wpAny _ _ _ _ _ _)); (refine (‹∀ (x : _) (y : Shared), _ → _›) _ _ ?_); (try dsimp only))))
      exact fin rfl (by assumption) (by assumption) (by k_mem)
    | null =>
      dsimp only [Vl.tag, Vl.pay] at hv
      (((repeat' (first | walk1 | (dsimp only; walk1) | (k_unfold; (try dsimp only)) | (refine hKS _ _ ?_; clear hKS KS; (try dsimp only)))); (all_goals (try dsimp only)); (all_goals (repeat ((((fail_if_success (with_reducible show wpAny _ _ _ _ _ _)); (refine (‹∀ (x : _) (y : Shared), _ → _›) _ _ ?_); (try dsimp only))))))))
      repeat ((((fail_if_success (with_reducible show wpAny _ _ _ _ _ _)); (refine (‹∀ (x : _) (y : Shared), _ → _›) _ _ ?_); (try dsimp only))))
      exact fin rfl (by assumption) (by assumption) (by k_mem)
    | bool bb =>
      cases bb
      · simp only [Vl.tag, Vl.pay, Bool.false_eq_true, if_true, if_false] at hv
        (((repeat' (first | walk1 | (dsimp only; walk1) | (k_unfold; (try dsimp only)) | (refine hKS _ _ ?_; clear hKS KS; (try dsimp only)))); (all_goals (try dsimp only)); (all_goals (repeat ((((fail_if_success (with_reducible show wpAny _ _ _ _ _ _)); (refine (‹∀ (x : _) (y : Shared), _ → _›) _ _ ?_); (try dsimp only))))))))
        repeat ((((fail_if_success (with_reducible show wpAny _ _ _ _ _ _)); (refine (‹∀ (x : _) (y : Shared), _ → _›) _ _ ?_); (try dsimp only))))
        exact fin rfl (by assumption) (by assumption) (by k_mem)
      · simp only [Vl.tag, Vl.pay, Bool.false_eq_true, if_true, if_false] at hv
        (((repeat' (first | walk1 | (dsimp only; walk1) | (k_unfold; (try dsimp only)) | (refine hKS _ _ ?_; clear hKS KS; (try dsimp only)))); (all_goals (try dsimp only)); (all_goals (repeat ((((fail_if_success (with_reducible show wpAny _ _ _ _ _ _)); (refine (‹∀ (x : _) (y : Shared), _ → _›) _ _ ?_); (try dsimp only))))))))
        repeat ((((fail_if_success (with_reducible show wpAny _ _ _ _ _ _)); (refine (‹∀ (x : _) (y : Shared), _ → _›) _ _ ?_); (try dsimp only))))
        exact fin rfl (by assumption) (by assumption) (by k_mem)
    | num i =>
      dsimp only [Vl.tag, Vl.pay] at hv
      (((repeat' (first | walk1 | (dsimp only; walk1) | (k_unfold; (try dsimp only)) | (refine hKS _ _ ?_; clear hKS KS; (try dsimp only)))); (all_goals (try dsimp only)); (all_goals (repeat ((((fail_if_success (with_reducible show wpAny _ _ _ _ _ _)); (refine (‹∀ (x : _) (y : Shared), _ → _›) _ _ ?_); (try dsimp only))))))))
      refine str_of_int_fit (N := 1000) (by have h1 := hok.1; have h2 := hok.2; split <;> (first | lia | omega)) (by decide) fun _ => ?_
      repeat ((((fail_if_success (with_reducible show wpAny _ _ _ _ _ _)); (refine (‹∀ (x : _) (y : Shared), _ → _›) _ _ ?_); (try dsimp only))))
      exact fin rfl (by assumption) (by assumption) (by k_mem)
    | nan =>
      dsimp only [Vl.tag, Vl.pay] at hv
      (((repeat' (first | walk1 | (dsimp only; walk1) | (k_unfold; (try dsimp only)) | (refine hKS _ _ ?_; clear hKS KS; (try dsimp only)))); (all_goals (try dsimp only)); (all_goals (repeat ((((fail_if_success (with_reducible show wpAny _ _ _ _ _ _)); (refine (‹∀ (x : _) (y : Shared), _ → _›) _ _ ?_); (try dsimp only))))))))
      repeat ((((fail_if_success (with_reducible show wpAny _ _ _ _ _ _)); (refine (‹∀ (x : _) (y : Shared), _ → _›) _ _ ?_); (try dsimp only))))
      exact fin rfl (by assumption) (by assumption) (by k_mem)
    | str z =>
      dsimp only [Vl.tag, Vl.pay] at hv
      (((repeat' (first | walk1 | (dsimp only; walk1) | (k_unfold; (try dsimp only)) | (refine hKS _ _ ?_; clear hKS KS; (try dsimp only)))); (all_goals (try dsimp only)); (all_goals (repeat ((((fail_if_success (with_reducible show wpAny _ _ _ _ _ _)); (refine (‹∀ (x : _) (y : Shared), _ → _›) _ _ ?_); (try dsimp only))))))))
      repeat ((((fail_if_success (with_reducible show wpAny _ _ _ _ _ _)); (refine (‹∀ (x : _) (y : Shared), _ → _›) _ _ ?_); (try dsimp only))))
      exact fin rfl (by assumption) (by assumption) (by k_mem)
    | obj k =>
      dsimp only [Vl.tag, Vl.pay] at hv
      (((repeat' (first | walk1 | (dsimp only; walk1) | (k_unfold; (try dsimp only)) | (refine hKS _ _ ?_; clear hKS KS; (try dsimp only)))); (all_goals (try dsimp only)); (all_goals (repeat ((((fail_if_success (with_reducible show wpAny _ _ _ _ _ _)); (refine (‹∀ (x : _) (y : Shared), _ → _›) _ _ ?_); (try dsimp only))))))))
      rename Fr _ _ _ _ => F
      rename News _ _ _ _ => N
      refine seen_in (μ := []) (good := far rows (f + 1) (.obj k) ns ≤ 15) (bad := 15 < far rows (f + 1) (.obj k) ns) (R := fun v => ∃ t, v = .str (txt rows (f + 1) (.obj k) ns) t) (ns' := ns) (d' := Bud ns.length - 1) (u' := 3 * Bud ns.length - 3) C0 C rfl F N (fun p hp => nomatch hp) hi (Nat.le_refl _) (Nat.le_refl _)
        (fun Q E Cx up hb hQ hE => object_text_spec ih (H.up _ _ up) W B (hv.keeps up) hok hb hf hl Cx (fun hg h' tk' t S sb => hQ hg h' tk' _ ⟨t, rfl⟩ S sb) hE) (fun hg h' tk' v its' n' hR F' N' hi' => ?_) (hE' rfl rfl rfl)
      with_reducible refine gen fun GG kGG => ?_
      obtain ⟨t, rfl⟩ := hR
      with_reducible refine kGG ?_
      clear kGG GG
      repeat ((((fail_if_success (with_reducible show wpAny _ _ _ _ _ _)); (refine (‹∀ (x : _) (y : Shared), _ → _›) _ _ ?_); (try dsimp only))))
      exact hQ hg _ _ _ (Fr.out F') ⟨_, _, (N' _ (.head _)).1, hi'⟩

variable {A : Around} {s : Shared} {Q E : Value → Shared → Prop}
/-- to_text: an own new list -/
theorem to_text_spec {rows : List Rw} (W : WFR rows) (B : Bd rows) {f : Nat} {hp : Addr} {qs : List Raw} {v : Value} {x : Vl} (H : ThingsAt prog w s.heap hp qs rows) (hv : ValAt s.heap v x) (hok : VOk rows.length x) (hf : free rows [] < f) (C0 : Cx w mg mb A s.heap [] (Bud 0 + 1) (3 * Bud 0 + 3))
    (hQ : far rows f x [] ≤ 15 → ∀ h' tk' t, Stays [] s.heap h' → Q (.str (txt rows f x []) t) { s with heap := h', toks := tk' })
    (hE : 15 < far rows f x [] → ∀ e h' tk', Fly A [] s.heap h' e → E (.ref e) { s with heap := h', toks := tk' }) :
    wpAny (model prog w) A (call (.ref 236) [.ref hp, v]) Q E s := by
  refine call_ruleE0 (d := Bud 0) (u := 3 * Bud 0) (binds := [(Str.ofString "heap", .ref hp), (Str.ofString "v", v)]) C0 (by k_is) (by k_is) (BindsTo.of_eq rfl) (locs rfl) (fun L h₁ tk F N C => ?_) (by decide)
  with_reducible refine hideQ fun KK hKK => ?_
  have X := C.X
  have T := C.T
  (((repeat' (first | walk1 | (dsimp only; walk1) | (k_unfold; (try dsimp only)) | (refine hKS _ _ ?_; clear hKS KS; (try dsimp only)))); (all_goals (try dsimp only)); (all_goals (repeat ((((fail_if_success (with_reducible show wpAny _ _ _ _ _ _)); (refine (‹∀ (x : _) (y : Shared), _ → _›) _ _ ?_); (try dsimp only))))))))
  rename Fr _ _ _ _ => F
  rename News _ _ _ _ => N
  rename_i b _ _
  have hgb : ∀ a ∈ [b], s.heap.get? a = none := fun a q => by rw [List.mem_singleton.mp q]; exact (N _ (.head _)).2.2
  have hLb : L ∉ [b] := fun q => (N _ (.head _)).2.1 (List.mem_singleton.mp q).symm
  have up := under_hide F hgb
  refine tti_all W B f _ _ _ _ hp b qs v x [] (H.up _ _ up) (hv.up up) hok ⟨_, _, (N _ (.head _)).1, .nil⟩ hf (Nat.zero_le _) (Cb.at C F hgb hLb (Nat.le_refl _) (Nat.le_refl _)) ?_ ?_
  · rintro h15 h' tk' t S -
    repeat ((((fail_if_success (with_reducible show wpAny _ _ _ _ _ _)); (refine (‹∀ (x : _) (y : Shared), _ → _›) _ _ ?_); (try dsimp only))))
    exact hQ h15 _ _ _ (Fr.out0 (Fr.st1 F N S))
  · intro h15 e h' tk' hF
    with_reducible refine gen fun GG kGG => ?_
    obtain ⟨as, hA, hfr⟩ := C0.fr
    with_reducible refine kGG ?_
    clear kGG GG
    exact leave_fly (D := [b]) (D' := []) (h₀ := s.heap) hA rfl hfr F hgb hLb hF fun h'' hF' => hE h15 e _ _ hF'
end
section
variable (prog : Program) (w : World)
/-- the law's w -/
noncomputable def WAt (h : Heap) (wd ra : Addr) (z : Nat) : Prop := (∃ t, h.DictOf (PySem.strKind prog w) wd [(Str.ofString "rows", .ref ra), (Str.ofString "far", .int (z : Int) t)]) ∧ (wd == sysModules) = false
end
section
variable {prog : Program} {w : World} {mg mb : Str → Option Value} {A : Around} {s : Shared} {Q E : Value → Shared → Prop}
theorem lnear_spec {n : Str} {t1 t2 : Tok} {wd ra : Addr} {z : Nat} {k : Nat} {qs : List Raw} {rows : List Rw} {h₀ : Heap} (k0 : h₀.StaysIn s.heap) (hn : n = Str.ofString "name" ∨ n = Str.ofString "message") (hw : WAt prog w s.heap wd ra z) (H : RowsAt prog w h₀ ra qs rows) (W : WFR rows)
   (hk : k < rows.length) (C : Cx w mg mb A s.heap [] 1 3)
   (hQ : ∀ h' tk' c t t', IsTup h₀ c ([.int (near rows k n).tag t, (near rows k n).pay t'] : List Value).toArray → Stays [] s.heap h' → Q (.ref c) { s with heap := h', toks := tk' })
   (hN : near rows k n = .undef → ∀ h' tk' c t t', Made s.heap h' c (tupOf [.int 0 t, .int 0 t']) → Q (.ref c) { s with heap := h', toks := tk' }) :
   wpAny (model prog w) A (call (.ref 304) [.ref wd, .int (k : Int) t2, .str n t1]) Q E s := by
  refine call_rule0 (d := 0) (u := 0) (binds := [(Str.ofString "w", .ref wd), (Str.ofString "k", .int (k : Int) t2), (Str.ofString "word", .str n t1)]) C (by k_is) (by k_is) (BindsTo.of_eq rfl) (locs rfl) (fun L h₁ tk F N C => ?_) (by decide)
  with_reducible refine hideQ fun KK hKK => ?_
  have X := C.X
  have T := C.T
  with_reducible refine gen fun GG kGG => ?_
  obtain ⟨⟨tf, hw1⟩, hw2⟩ := hw
  obtain ⟨xs, a4, a5, a6, a7⟩ := H.ex
  with_reducible refine kGG ?_
  clear kGG GG
  have a4 := a4.at fun o e => k0 _ o e
  rw [near_is] at hQ hN
  (((repeat' ((fail_if_success ((with_reducible (first | (show wpAny _ _ (exec (Stmt.While _ _ _ _) _) _ _ _) | (show wpAny _ _ (exec (Stmt.For _ _ _ _ _) _) _ _ _) | (show wpAny _ _ (eval (PySem.Expr.ListComp _ _ _ _) _) _ _ _) | (show wpAny _ _ (exec (Stmt.Try _ _ _ _ _) _) _ _ _))))); (first | walk1 | (dsimp only; walk1) | (k_unfold; (try dsimp only)) | (refine hKS _ _ ?_; clear hKS KS; (try dsimp only))))); (all_goals (try dsimp only)); (all_goals (repeat ((((fail_if_success (with_reducible show wpAny _ _ _ _ _ _)); (refine (‹∀ (x : _) (y : Shared), _ → _›) _ _ ?_); (try dsimp only))))))))
  rename Fr _ _ _ _ => F
  rename News _ _ _ _ => N
  refine while_of (fun n' s' => ∃ j t h' tk' m' u, n' = (j + 1).toNat ∧ s' = { s with heap := h', toks := tk' } ∧ Fr (s.heap) L h' m' ∧ News (s.heap) L h' u ∧ -1 ≤ j ∧ j < (rows.length : Int) ∧
     nearI rows n j = nearI rows n k ∧ m' (Str.ofString "w") = some (.ref wd) ∧ m' (Str.ofString "word") = some (.str n t1) ∧ m' (Str.ofString "k") = some (.int j t)) _ ⟨k, t2, _, _, _, [], rfl, rfl, F, N, by (first | lia | omega), by (first | lia | omega), rfl, rfl, rfl, rfl⟩ ?_
  intro n' s' hRp1
  with_reducible refine gen fun GG kGG => ?_
  obtain ⟨j, t, h', tk', m', u, rfl, rfl, F', N', hj1, hj2, hnear, m1, m2, m3⟩ := hRp1
  with_reducible refine kGG ?_
  clear kGG GG
  clear F N
  (((repeat' ((fail_if_success ((with_reducible (first | (show wpAny _ _ (exec (Stmt.While _ _ _ _) _) _ _ _) | (show wpAny _ _ (exec (Stmt.For _ _ _ _ _) _) _ _ _) | (show wpAny _ _ (eval (PySem.Expr.ListComp _ _ _ _) _) _ _ _) | (show wpAny _ _ (exec (Stmt.Try _ _ _ _ _) _) _ _ _))))); (first | walk1 | (dsimp only; walk1) | (k_unfold; (try dsimp only)) | (refine hKS _ _ ?_; clear hKS KS; (try dsimp only))))); (all_goals (try dsimp only)); (all_goals (repeat ((((fail_if_success (with_reducible show wpAny _ _ _ _ _ _)); (refine (‹∀ (x : _) (y : Shared), _ → _›) _ _ ?_); (try dsimp only))))))))
  by_cases hj : 0 ≤ j
  · refine WhlIf.yes (decide_eq_true hj) ?_
    have hlt : j.toNat < rows.length := by (first | lia | omega)
    have hl := W.len
    have hj3 : j < 2 ^ 63 := by (first | lia | omega)
    with_reducible refine gen fun GG kGG => ?_
    obtain ⟨x, hx⟩ : ∃ x, xs[j.toNat]? = some x := ⟨_, List.getElem?_eq_getElem (by first | exact Nat.le_of_ble_eq_true rfl | assumption | (first | lia | omega))⟩
    obtain ⟨q, hq⟩ : ∃ q, qs[j.toNat]? = some q := ⟨_, List.getElem?_eq_getElem (by first | exact Nat.le_of_ble_eq_true rfl | assumption | (first | lia | omega))⟩
    obtain ⟨r, hr⟩ : ∃ r, rows[j.toNat]? = some r := ⟨_, List.getElem?_eq_getElem hlt⟩
    with_reducible refine kGG ?_
    clear kGG GG
    have hx' : (xs.map Value.ref)[j.toNat]? = some (.ref x) := by rw [List.getElem?_map, hx]; rfl
    have hT0 := a7 _ _ _ _ hx hq hr
    have hT := hT0.up _ _ k0
    with_reducible refine gen fun GG kGG => ?_
    obtain ⟨it, ow, u1, u2, d1, d2, d3, d4, d5⟩ := hT.ex
    with_reducible refine kGG ?_
    clear kGG GG
    have hn0 := @OwnAt.some _ n _ _ hT0.own
    cases ho : own? r.own n with
    | some y =>
      with_reducible refine gen fun GG kGG => ?_
      obtain ⟨v, hv, hva⟩ := hn0 ho
      with_reducible refine kGG ?_
      clear kGG GG
      have hv2 : (valueAt q.own n).isSome = true := by rw [hv]; rfl
      have e := nearI_some (rows := rows) hj hr ho
      rw [e] at hnear
      with_reducible refine gen fun GG kGG => ?_
      obtain ⟨c, tg, tp, rfl, hc⟩ := hva
      with_reducible refine kGG ?_
      clear kGG GG
      (((repeat' ((fail_if_success ((with_reducible (first | (show wpAny _ _ (exec (Stmt.While _ _ _ _) _) _ _ _) | (show wpAny _ _ (exec (Stmt.For _ _ _ _ _) _) _ _ _) | (show wpAny _ _ (eval (PySem.Expr.ListComp _ _ _ _) _) _ _ _) | (show wpAny _ _ (exec (Stmt.Try _ _ _ _ _) _) _ _ _))))); (first | walk1 | (dsimp only; walk1) | (k_unfold; (try dsimp only)) | (refine hKS _ _ ?_; clear hKS KS; (try dsimp only))))); (all_goals (try dsimp only)); (all_goals (repeat ((((fail_if_success (with_reducible show wpAny _ _ _ _ _ _)); (refine (‹∀ (x : _) (y : Shared), _ → _›) _ _ ?_); (try dsimp only))))))))
      repeat (first | ((((fail_if_success (with_reducible show wpAny _ _ _ _ _ _)); (refine (‹∀ (x : _) (y : Shared), _ → _›) _ _ ?_); (try dsimp only)))) | (dsimp only [WTurn]))
      repeat ((((fail_if_success (with_reducible show wpAny _ _ _ _ _ _)); (refine (‹∀ (x : _) (y : Shared), _ → _›) _ _ ?_); (try dsimp only))))
      refine hQ _ _ _ _ _ (hnear ▸ hc) (Fr.out0 (by assumption))
    | none =>
      have hv : valueAt q.own n = none := OwnAt.none hT.own ho
      have hv2 : (valueAt q.own n).isSome = false := by rw [hv]; rfl
      have e := nearI_up W hj hr ho
      have hup := W.up _ _ hr
      (((repeat' ((fail_if_success ((with_reducible (first | (show wpAny _ _ (exec (Stmt.While _ _ _ _) _) _ _ _) | (show wpAny _ _ (exec (Stmt.For _ _ _ _ _) _) _ _ _) | (show wpAny _ _ (eval (PySem.Expr.ListComp _ _ _ _) _) _ _ _) | (show wpAny _ _ (exec (Stmt.Try _ _ _ _ _) _) _ _ _))))); (first | walk1 | (dsimp only; walk1) | (k_unfold; (try dsimp only)) | (refine hKS _ _ ?_; clear hKS KS; (try dsimp only))))); (all_goals (try dsimp only)); (all_goals (repeat ((((fail_if_success (with_reducible show wpAny _ _ _ _ _ _)); (refine (‹∀ (x : _) (y : Shared), _ → _›) _ _ ?_); (try dsimp only))))))))
      rename Fr _ _ _ _ => F
      rename News _ _ _ _ => N
      exact ⟨(r.up + 1).toNat, by (first | lia | omega), r.up, _, _, _, _, _, rfl, rfl, F, N, by (first | lia | omega), by (first | lia | omega), e.symm.trans hnear, m1, m2, rfl⟩
  · refine WhlIf.no (decide_eq_false hj) ?_
    rw [nearI_neg (by first | exact Nat.le_of_ble_eq_true rfl | assumption | (first | lia | omega))] at hnear
    (((repeat' ((fail_if_success ((with_reducible (first | (show wpAny _ _ (exec (Stmt.While _ _ _ _) _) _ _ _) | (show wpAny _ _ (exec (Stmt.For _ _ _ _ _) _) _ _ _) | (show wpAny _ _ (eval (PySem.Expr.ListComp _ _ _ _) _) _ _ _) | (show wpAny _ _ (exec (Stmt.Try _ _ _ _ _) _) _ _ _))))); (first | walk1 | (dsimp only; walk1) | (k_unfold; (try dsimp only)) | (refine hKS _ _ ?_; clear hKS KS; (try dsimp only))))); (all_goals (try dsimp only)); (all_goals (repeat ((((fail_if_success (with_reducible show wpAny _ _ _ _ _ _)); (refine (‹∀ (x : _) (y : Shared), _ → _›) _ _ ?_); (try dsimp only))))))))
    repeat ((((fail_if_success (with_reducible show wpAny _ _ _ _ _ _)); (refine (‹∀ (x : _) (y : Shared), _ → _›) _ _ ?_); (try dsimp only))))
    refine hN hnear.symm _ _ _ _ _ (made_of (by assumption) (by assumption) (by k_mem))
end
section
variable {prog : Program} {w : World} {A : Around} {E : Value → Shared → Prop} {s : Shared} {env : Env} {g : Heap} {x : Str} {Q : Value → Shared → Prop}
/-- a list comprehension without tests whose item may call and change things -/
theorem comp_of {elt iter : PySem.Expr} {px pos : Pos} {scope : Scope} {cl : List (Str × Addr)} {I : Addr} {fp : List Addr} {n : Nat} {P : Nat → Value → Prop} {St : Nat → Heap → Prop} {L : Addr} {m : Str → Option Value} {μ : List (Addr × Obj)}
    (J : Nat → List Value → List (Addr × Obj) → Prop)
    (W : Walks prog w A I fp [I] n P St) (hI : I ∈ fp) (hst : St 0 s.heap) (hfp : ∀ b ∈ fp, b = I ∨ ∃ o, g.get? b = some o) (hIat : ∀ i h, St i h → ∃ o, h.get? I = some o) (hnew : g.get? I = none) (hIL : I ≠ L) (hsep : ∀ q ∈ μ, q.1 ≠ I) (hn : n ≤ 1000)
    (hcell : ∀ y ∈ scope.names, y.2 ≠ .cell) (hkind : scope.kind = .function) (hx : scope.names.lookup x = some .local)
    (F : Fr g L s.heap m) (N : News g L s.heap μ) (h0 : J 0 [] μ)
    (turn : ∀ i v acc μ₁ C κ oL h tk mC (Qt E' : Value → Shared → Prop), i < n → P i v → J i acc μ₁ → acc.length = i → μ₁.map (·.1) = μ.map (·.1) → Fr g C h mC → mC x = some v → News g C h (μ₁ ++ (L, oL) :: κ) → (∀ vs, oL.data ≠ .fields vs) → (∀ p ∈ κ, ∀ a ∈ μ.map (·.1), p.1 ≠ a) → (∀ a ∈ μ.map (·.1), L ≠ a) → C ≠ L →
      (∀ y h' tk' μ₂ mC', Fr g C h' mC' → News g C h' (μ₂ ++ (L, oL) :: κ) → μ₂.map (·.1) = μ.map (·.1) → J (i + 1) (acc ++ [y]) μ₂ → Qt y { s with heap := h', toks := tk' }) →
      wpAny (model prog w) A (eval elt (compEnvC scope cl C env)) Qt E' { s with heap := h, toks := tk })
    (done : ∀ acc μ₁ h tk D nD, J n acc μ₁ → acc.length = n → μ₁.map (·.1) = μ.map (·.1) → Fr g L h m → News g L h ((D, listOf acc.toArray nD) :: μ₁) → Q (.ref D) { s with heap := h, toks := tk }) :
    wpAny (model prog w) A (newList []) (fun acc s₃ => wpAny (model prog w) A (newFunctionEnv scope env.globals cl [] env.qual none .none (some env)) (fun cenv s₄ =>
      codeAny (model prog w) A (.compStart (.ListComp elt [⟨.Name x px, iter, [], 0⟩] scope pos) 0 (.ref I) acc { cenv with scope := relabel scope env }) (compPost (model prog w) A E none Q acc cenv.locals) s₄) E s₃) E s := by
  refine wpAny_newObj_type (wpAny_newFunctionEnv hcell (by intro y hy; simp at hy) (fun h₁ hns₁ hsb₁ => ?_) hkind)
  dsimp only at hns₁ hsb₁ ⊢
  generalize hH2 : s.heap.push { cls := .type "list", dict := none, data := .seq ([] : List Value).toArray } = H2 at hns₁ hsb₁ ⊢
  have hC : H2.objs.size = s.heap.objs.size + 1 := by rw [← hH2, Heap.size_push]
  generalize hD : s.heap.objs.size = D at hC ⊢
  generalize hCC : H2.objs.size = C at hC hns₁ hsb₁ ⊢
  have hDC : D ≠ C := by rw [hC]; exact Nat.ne_of_lt (Nat.lt_succ_self _)
  have lt : ∀ b o, s.heap.get? b = some o → (show Nat from b) < (show Nat from D) := fun b o e => by rw [← hD]; exact Heap.lt_size e
  have old : ∀ b o, s.heap.get? b = some o → h₁.get? b = some o := fun b o e => hsb₁.extBut b o (fun q => by have z := lt b o e; rw [q, hC] at z; exact absurd z (Nat.not_lt.mpr (Nat.le_succ _))) (Heap.get?_push_of_some _ (hH2 ▸ Heap.get?_push_of_some _ e))
  have hacc : h₁.get? D = some (listOf #[] 0) := by
    refine hsb₁.extBut _ _ hDC (Heap.get?_push_of_some _ (hH2 ▸ ?_))
    rw [← hD]; exact Heap.get?_push_size _ rfl
  obtain ⟨oL, esL, epL, hLat, hLd, hLr⟩ := id F.ns
  have hLlt := lt _ _ hLat
  have gnone : ∀ a, (show Nat from D) ≤ (show Nat from a) → g.get? a = none := fun a ha => by
    cases e : g.get? a with
    | none => rfl
    | some o => exact absurd (lt _ _ (F.keep _ _ e)) (Nat.not_lt.mpr ha)
  have hCF : Fr g C h₁ _ := ⟨hns₁, fun b o e => old b o (F.keep b o e), by rw [hC]; exact Nat.le_trans F.above (Nat.le_succ_of_le (Nat.le_of_lt hLlt))⟩
  have hIlt : (show Nat from I) < (show Nat from D) := by obtain ⟨o, ho⟩ := hIat _ _ hst; exact lt _ _ ho
  have hmem : ∀ {μ₁ : List (Addr × Obj)}, μ₁.map (·.1) = μ.map (·.1) → ∀ p ∈ μ₁, ∃ q ∈ μ, q.1 = p.1 := fun e p hp => by
    have : p.1 ∈ μ.map (·.1) := by rw [← e]; exact List.mem_map_of_mem hp
    with_reducible refine gen fun GG kGG => ?_
    obtain ⟨q, hq, e⟩ := List.mem_map.mp this
    with_reducible refine kGG ?_
    clear kGG GG
    exact ⟨q, hq, e⟩
  have hxC : (compEnvC scope cl C env).kindOf x = some .local := lookup_relabel_local hx
  have hDL : D ≠ L := fun q => by rw [q] at hLlt; exact Nat.lt_irrefl _ hLlt
  have hDI : D ≠ I := fun q => by rw [q] at hIlt; exact Nat.lt_irrefl _ hIlt
  have hCI : C ≠ I := fun q => by rw [← q, hC] at hIlt; exact absurd hIlt (Nat.not_lt.mpr (Nat.le_succ _))
  have hCL : C ≠ L := fun q => by rw [← q, hC] at hLlt; exact absurd hLlt (Nat.not_lt.mpr (Nat.le_succ _))
  have hμlt : ∀ q ∈ μ, (show Nat from q.1) < (show Nat from D) := fun q hq => lt _ _ (N q hq).1
  have sep : ∀ {μ₁ : List (Addr × Obj)}, μ₁.map (·.1) = μ.map (·.1) → ∀ p ∈ μ₁, p.1 ≠ D ∧ p.1 ≠ C ∧ p.1 ≠ I ∧ p.1 ≠ L := fun e p hp => by
    with_reducible refine gen fun GG kGG => ?_
    obtain ⟨q, hq, e⟩ := hmem e p hp
    with_reducible refine kGG ?_
    clear kGG GG
    rw [← e]
    refine ⟨Nat.ne_of_lt (hμlt q hq), fun z => ?_, hsep q hq, (N q hq).2.1⟩
    have := hμlt q hq
    rw [z, hC] at this
    exact absurd this (Nat.not_lt.mpr (Nat.le_succ _))
  have loop : codeAny (model prog w) A (.compLoop (.ListComp elt [⟨.Name x px, iter, [], 0⟩] scope pos) 0 (.ref I) (.ref D) (compEnvC scope cl C env))
      (compPost (model prog w) A E none Q (.ref D) C) { s with heap := h₁, toks := s.toks + ([] : List (Str × Value)).length } := by
    refine codeAny_compLoop_tests (fun k s' => ∃ i acc μ₁ h tk mC nD, s' = { s with heap := h, toks := tk } ∧ k = n - i ∧ i ≤ n ∧ St i h ∧ Fr g C h mC ∧ News g C h ((D, listOf acc.toArray nD) :: (L, oL) :: μ₁) ∧ μ₁.map (·.1) = μ.map (·.1) ∧ J i acc μ₁ ∧ acc.length = i) ?_ n
      ⟨0, [], μ, h₁, _, _, 0, rfl, rfl, Nat.zero_le _, W.frame _ _ _ hst fun b _ o e => old b o e, hCF, ?_, rfl, h0, rfl⟩
    · intro k s' hRp1
      with_reducible refine gen fun GG kGG => ?_
      obtain ⟨i, acc, μ₁, h, tk, mC, nD, rfl, rfl, hi, hSt, FC, NC, hμ, hJ, hlen⟩ := hRp1
      with_reducible refine kGG ?_
      clear kGG GG
      by_cases hlt : i < n
      · refine W.item i _ _ _ hlt hSt fun v h' tk' hP hSt' hk => ?_
        have FC' : Fr g C h' mC := ⟨FC.ns.at' fun o e => hk _ o (fun q => hCI (List.mem_singleton.mp q)) e, fun b o e => hk b o (fun q => by rw [List.mem_singleton.mp q, hnew] at e; cases e) (FC.keep b o e), FC.above⟩
        have NC' : News g C h' ((D, listOf acc.toArray nD) :: (L, oL) :: μ₁) := fun p hp => by
          refine ⟨hk _ _ (fun q => ?_) (NC p hp).1, (NC p hp).2⟩
          have q := List.mem_singleton.mp q
          rcases (List.mem_cons.mp hp) with rfl | hp
          · exact hDI q
          · rcases (List.mem_cons.mp hp) with rfl | hp
            · exact hIL q.symm
            · exact (sep hμ p hp).2.2.1 q
        refine wpAny_assign_Name (wpAny_storeName_local hxC FC'.ns (fun h₂ hn₂ hs₂ => ?_) (by simp [compEnvC, relabel, hkind]))
        have FC₂ := FC'.set hn₂ hs₂
        have NC₂ := NC'.set hs₂
        have hSt₂ : St (i + 1) h₂ := W.frame _ _ _ hSt' fun b hb o e => hs₂.extBut b o (fun q => by
          rcases hfp b hb with rfl | ⟨o', ho'⟩
          · exact hCI q.symm
          · rw [show b = C from q, fr_none FC] at ho'; cases ho') e
        with_reducible refine gen fun GG kGG => ?_
        obtain ⟨oI, hoI⟩ := hIat _ _ hSt₂
        with_reducible refine kGG ?_
        clear kGG GG
        simp only [List.forIn_nil]
        refine wpAny_pure ?_
        rw [if_pos rfl]
        have Nκ : News g C h₂ (μ₁ ++ (L, oL) :: [(D, listOf acc.toArray nD), (I, oI)]) := fun p hp => by
          refine all_app (fun p hp => ?_) (fun p hp => ?_) p hp
          · exact NC₂ p (.tail _ (.tail _ hp))
          · rcases (List.mem_cons.mp hp) with rfl | hp
            · exact NC₂ _ (.tail _ (.head _))
            · rcases (List.mem_cons.mp hp) with rfl | hp
              · exact NC₂ _ (.head _)
              · rw [List.mem_singleton.mp hp]; exact ⟨hoI, fun q => hCI q.symm, hnew⟩
        refine turn i v acc μ₁ C [(D, listOf acc.toArray nD), (I, oI)] oL h₂ _ _ _ _ hlt hP hJ hlen hμ FC₂ (by simp) Nκ (fun vs q => by rw [hLd] at q; cases q) ?_ ?_ hCL (fun y h₃ tk₃ μ₂ mC' F₃ N₃ hμ₂ hJ' => ?_)
        · intro p hp a ha
          with_reducible refine gen fun GG kGG => ?_
          obtain ⟨q, hq, rfl⟩ := List.mem_map.mp ha
          obtain ⟨z1, z2, z3, z4⟩ := sep rfl q hq
          with_reducible refine kGG ?_
          clear kGG GG
          rcases (List.mem_cons.mp hp) with rfl | hp
          · exact z1.symm
          · rw [List.mem_singleton.mp hp]; exact z3.symm
        · intro a ha
          with_reducible refine gen fun GG kGG => ?_
          obtain ⟨q, hq, rfl⟩ := List.mem_map.mp ha
          with_reducible refine kGG ?_
          clear kGG GG
          exact (sep rfl q hq).2.2.2.symm
        · have N₄ : News g C h₃ ((D, listOf acc.toArray nD) :: (I, oI) :: (L, oL) :: μ₂) := fun p hp => by
            rcases (List.mem_cons.mp hp) with rfl | hp
            · exact N₃ _ (List.mem_append_right _ (.tail _ (.head _)))
            rcases (List.mem_cons.mp hp) with rfl | hp
            · exact N₃ _ (List.mem_append_right _ (.tail _ (.tail _ (.head _))))
            · rcases (List.mem_cons.mp hp) with rfl | hp
              · exact N₃ _ (List.mem_append_right _ (.head _))
              · exact N₃ _ (List.mem_append_left _ hp)
          have hI₃ := (N₃ (I, oI) (List.mem_append_right _ (.tail _ (.tail _ (.head _))))).1
          have hSt₃ : St (i + 1) h₃ := W.frame _ _ _ hSt₂ fun b hb o e => by
            rcases hfp b hb with rfl | ⟨o', ho'⟩
            · rw [hoI] at e; cases e; exact hI₃
            · have e2 := FC₂.keep _ _ ho'
              rw [e2] at e; cases e
              exact F₃.keep _ _ ho'
          refine append_K F₃ N₄ (.head fun p hp => ?_) (fun h₄ F₄ N₅ => ?_) (by rw [List.size_toArray, sizeLine_eq]; (first | lia | omega))
          · rcases (List.mem_cons.mp hp) with rfl | hp
            · exact hDI.symm
            rcases (List.mem_cons.mp hp) with rfl | hp
            · exact hDL.symm
            · exact (sep hμ₂ p hp).1
          · refine ⟨n - (i + 1), by (first | lia | omega), i + 1, acc ++ [y], μ₂, h₄, _, mC', nD + 1, rfl, rfl, by (first | lia | omega), W.frame _ _ _ hSt₃ fun b hb o e => ?_, F₄, ?_, hμ₂, hJ', by rw [List.length_append, hlen]; rfl⟩
            · rcases hfp b hb with rfl | ⟨o', ho'⟩
              · rw [hI₃] at e; cases e
                exact (N₅ (b, oI) (.tail _ (.head _))).1
              · have e2 := F₃.keep _ _ ho'
                rw [e2] at e; cases e
                exact F₄.keep _ _ ho'
            · intro p hp
              have N₆ : News g C h₄ ((D, listOf (acc ++ [y]).toArray (nD + 1)) :: (I, oI) :: (L, oL) :: μ₂) := by simpa using N₅
              rcases (List.mem_cons.mp hp) with rfl | hp
              · exact N₆ _ (.head _)
              · exact N₆ _ (.tail _ (.tail _ hp))
      · obtain rfl : i = n := by (first | lia | omega)
        refine W.done _ _ _ hSt fun h' tk' hk => ?_
        have FC' : Fr g C h' mC := ⟨FC.ns.at' fun o e => hk _ o (fun q => hCI (List.mem_singleton.mp q)) e, fun b o e => hk b o (fun q => by rw [List.mem_singleton.mp q, hnew] at e; cases e) (FC.keep b o e), FC.above⟩
        refine ⟨mC, FC'.ns, fun h'' hs => ?_⟩
        have kp : ∀ b o, b ≠ I → b ≠ C → h.get? b = some o → h''.get? b = some o := fun b o h1 h2 e => hs.extBut b o h2 (hk b o (fun q => h1 (List.mem_singleton.mp q)) e)
        have hLo := (NC (L, oL) (.tail _ (.head _))).1
        refine done acc μ₁ h'' tk' D nD hJ hlen hμ ⟨⟨oL, esL, epL, kp _ _ hIL.symm hCL.symm hLo, hLd, hLr⟩, fun b o e => kp b o (fun q => by rw [q, hnew] at e; cases e) (fun q => by rw [q, fr_none FC] at e; cases e) (FC.keep b o e), F.above⟩ fun p hp => ?_
        rcases (List.mem_cons.mp hp) with rfl | hp
        · exact ⟨kp _ _ hDI hDC (NC _ (.head _)).1, hDL, gnone _ (Nat.le_refl _)⟩
        · have z := NC p (.tail _ (.tail _ hp))
          with_reducible refine gen fun GG kGG => ?_
          obtain ⟨z1, z2, z3, z4⟩ := sep hμ p hp
          with_reducible refine kGG ?_
          clear kGG GG
          exact ⟨kp _ _ z3 z2 z.1, z4, z.2.2⟩
    · intro p hp
      rcases (List.mem_cons.mp hp) with rfl | hp
      · exact ⟨hacc, hDC, gnone _ (Nat.le_refl _)⟩
      · rcases (List.mem_cons.mp hp) with rfl | hp
        · exact ⟨old _ _ hLat, hCL.symm, fr_none F⟩
        · exact ⟨old _ _ (N p hp).1, (sep rfl p hp).2.1, (N p hp).2.2⟩
  have hst₁ : St 0 h₁ := W.frame _ _ _ hst fun b _ o e => old b o e
  exact codeAny_compStart_list loop (W.self 0 _ _ _ hst₁ loop)

theorem comp_list {elt iter : PySem.Expr} {px pos : Pos} {scope : Scope} {cl : List (Str × Addr)} {l : Addr} {vs : List Value} {L : Addr} {m : Str → Option Value} {μ : List (Addr × Obj)}
    (J : Nat → List Value → List (Addr × Obj) → Prop) (hh : A.handled = none) (hl : g.IsList l vs.toArray) (hn : vs.length ≤ 1000)
    (hcell : ∀ y ∈ scope.names, y.2 ≠ .cell) (hkind : scope.kind = .function) (hx : scope.names.lookup x = some .local)
    (F : Fr g L s.heap m) (N : News g L s.heap μ) (h0 : J 0 [] μ)
    (turn : ∀ i v acc μ₁ C κ oL h tk mC (Qt E' : Value → Shared → Prop), vs[i]? = some v → J i acc μ₁ → acc.length = i → μ₁.map (·.1) = μ.map (·.1) → Fr g C h mC → mC x = some v → News g C h (μ₁ ++ (L, oL) :: κ) → (∀ vs, oL.data ≠ .fields vs) → (∀ p ∈ κ, ∀ a ∈ μ.map (·.1), p.1 ≠ a) → (∀ a ∈ μ.map (·.1), L ≠ a) → C ≠ L →
      (∀ y h' tk' μ₂ mC', Fr g C h' mC' → News g C h' (μ₂ ++ (L, oL) :: κ) → μ₂.map (·.1) = μ.map (·.1) → J (i + 1) (acc ++ [y]) μ₂ → Qt y { s with heap := h', toks := tk' }) →
      wpAny (model prog w) A (eval elt (compEnvC scope cl C env)) Qt E' { s with heap := h, toks := tk })
    (done : ∀ acc μ₁ h tk D nD, J vs.length acc μ₁ → acc.length = vs.length → μ₁.map (·.1) = μ.map (·.1) → Fr g L h m → News g L h ((D, listOf acc.toArray nD) :: μ₁) → Q (.ref D) { s with heap := h, toks := tk }) :
    wpAny (model prog w) A (pyIter (.ref l)) (fun it s₂ => wpAny (model prog w) A (newList []) (fun acc s₃ => wpAny (model prog w) A (newFunctionEnv scope env.globals cl [] env.qual none .none (some env)) (fun cenv s₄ =>
      codeAny (model prog w) A (.compStart (.ListComp elt [⟨.Name x px, iter, [], 0⟩] scope pos) 0 it acc { cenv with scope := relabel scope env }) (compPost (model prog w) A E none Q acc cenv.locals) s₄) E s₃) E s₂) E s := by
  have hls : s.heap.IsList l vs.toArray := hl.at fun o e => F.keep _ o e
  have hlt : l < s.heap.objs.size := by obtain ⟨o, ho, _⟩ := hls; exact Heap.lt_size ho
  refine wpAny_pyIter_list hls ?_
  have W := Walks.list (prog := prog) (w := w) hh s.heap.objs.size l (Nat.ne_of_lt hlt) vs.toArray
  rw [List.size_toArray] at W
  with_reducible refine gen fun GG kGG => ?_
  obtain ⟨ol, hol, hol2⟩ := id hl
  with_reducible refine kGG ?_
  clear kGG GG
  refine comp_of J W (.head _) ⟨⟨_, Heap.get?_push_size _ rfl, rfl, rfl⟩, hls.at fun o e => Heap.get?_push_of_some _ e⟩ ?_ ?_ (next_is_new F) (Nat.ne_of_gt F.ns.lt) (fun q hq => Nat.ne_of_lt (Heap.lt_size (N q hq).1)) hn hcell hkind hx (F.push _) (fun p hp => ⟨Heap.get?_push_of_some _ (N p hp).1, (N p hp).2⟩) h0 ?_ done
  · intro b hb
    rcases (List.mem_cons.mp hb) with rfl | hb
    · exact .inl rfl
    · rw [List.mem_singleton.mp hb]; exact .inr ⟨ol, hol⟩
  · intro i h hRp1
    with_reducible refine gen fun GG kGG => ?_
    obtain ⟨⟨o, ho, _⟩, _⟩ := hRp1
    with_reducible refine kGG ?_
    clear kGG GG
    exact ⟨o, ho⟩
  · intro i v acc μ₁ C κ oL h tk mC Qt E' hi hP
    exact turn i v acc μ₁ C κ oL h tk mC Qt E' (by simpa using hP)
end
section
variable {prog : Program} {w : World} {mg mb : Str → Option Value} {A : Around} {s : Shared} {Q E : Value → Shared → Prop}
  {name qual : Str} {params : Arguments} {body : List Stmt} {scope : Scope} {dV kV doc pm cdv ct oc : Value} {an od : Option Addr} {osl : Array (Option Value)} {f : Addr} {args : Args} {pos : List Value} {binds : List (Str × Value)} {d u : Nat} {D : List Addr}
theorem call_ruleC (C : Cx w mg mb A s.heap D (d + 1) (u + 3))
    (ho : (Mine.head.heap_1_39 w.params).lookup f = some ⟨oc, od, .func (fnOf name qual params body scope dV kV doc pm an cdv ct), osl⟩) (hcd : codeIn (Mine.head.heap_1_39 w.params) cdv qual = true)
    (hbind : BindsTo s (fnOf name qual params body scope dV kV doc pm an cdv ct) ⟨pos, []⟩ binds)
    (hkind : (binds.all fun y => scope.names.lookup y.1 == some .local || scope.names.lookup y.1 == some .cell) = true) (hnd : ((cellsFrom 0 scope.names []).map (·.1)).Nodup)
    (h : ∀ L h₁ tk cells, Fr (hideAll s.heap D) L h₁ (bindL (envOfC qual scope L f cdv).kindOf binds fun _ => none) → News (hideAll s.heap D) L h₁ cells →
      CellsAre (bindC (envOfC qual scope L f cdv).kindOf binds fun _ => none) (cellsFrom (L + 1) scope.names []) cells → (∀ b o, s.heap.get? b = some o → h₁.get? b = some o ∧ b ≠ L) → (∀ p ∈ cells, s.heap.get? p.1 = none) →
      Cb w mg mb (A.deeper (envOfC qual scope L f cdv)) (hideAll s.heap D) L d u →
      wpAny (model prog w) (A.deeper (envOfC qual scope L f cdv)) (execs body (envOfC qual scope L f cdv))
        (fun fl s' => Q (match fl with | .ret v => v | _ => .none) s')
        (fun _ _ => False)
        { s with heap := h₁, toks := tk })
    (hco : scope.isCoroutine = false := by rfl) (hgen : scope.isGenerator = false := by rfl) (hk : scope.kind = .function := by rfl) :
    wpAny (model prog w) A (call (.ref f) pos) Q E s := by
  obtain ⟨l, hl, hfr⟩ := C.fr
  have hdp : A.depth < recursionLimit := Nat.lt_of_le_of_lt (Nat.le_add_right _ _) C.dp
  have CX : (Mine.head.heap_1_39 w.params).In s.heap := C.X.keeps fun b o e => of_hideAll _ e
  have CT := C.T.keeps (h' := s.heap) fun b o e => of_hideAll _ e
  refine wpAny_call (codeAny_call_function (fd := fnX name qual params body scope [] dV kV doc pm an cdv ct) hdp (CX _ _ ho) rfl hco hgen rfl (codeRec_of CX hcd) (hbind _ _ _ _ ?_))
  refine wpAny_newFunctionEnv_cells hk (kindsX hkind _) fun env' he s' x => ?_
  subst he
  refine ⟨CT.nolimit.keeps x.toInCall.keep, codeAny_func ?_⟩
  with_reducible refine gen fun GG kGG => ?_
  obtain ⟨h₁, tk, rfl, _⟩ := x.done
  with_reducible refine kGG ?_
  clear kGG GG
  have hk₁ := x.toInCall.keep
  with_reducible refine gen fun GG kGG => ?_
  obtain ⟨cells, NC, Y⟩ := Cl.news (h₀ := s.heap) (Nat.le_refl _) fun n c hm => ⟨x.cell n c (lookup_of_mem_nodup (cellsFrom_names scope.names 0 (s.heap.objs.size + 1) [] [] rfl ▸ hnd) hm), x.above n c hm⟩
  with_reducible refine kGG ?_
  clear kGG GG
  refine wpAny_mono (h s.heap.objs.size h₁ tk cells ⟨x.toInCall.ns, fun b o e => hk₁ b o (of_hideAll _ e), Nat.le_of_eq (hideAll_size _ _)⟩ (fun p hp => ?_) Y (fun b o e => ⟨hk₁ b o e, Nat.ne_of_lt (Heap.lt_size e)⟩) (fun p hp => (NC p hp).2.2) ?_) (fun fl s' q => q) fun _ _ q => q.elim
  · refine ⟨(NC p hp).1, (NC p hp).2.1, ?_⟩
    cases q : (hideAll s.heap D).get? p.1 with
    | none => rfl
    | some o => have := of_hideAll _ q; rw [(NC p hp).2.2] at this; cases this
  · refine ⟨C.X, C.T, C.hd, ?_, ?_, _, l, Around.frames_deeper hl, rfl, ?_, hfr⟩
    · show A.depth + 1 + d < _
      have := C.dp; (first | lia | omega)
    · show A.units + 3 + u < _
      have := C.un; (first | lia | omega)
    · show scope.kind ≠ .module
      rw [hk]; decide
end

section
variable {w : World} {M : Model} {A : Around} {E : Value → Shared → Prop} {s : Shared} {env : Env} {h₀ : Heap} {L c : Addr} {o : Obj} {m mg mb : Str → Option Value} {μ : List (Addr × Obj)} {x : Str} {pos : Pos} {v : Value} {Q : Value → Shared → Prop} {p : Program} {loose : List Str}
theorem nm_local (F : Fr h₀ L s.heap m) (hL : env.locals = L) (hv : m x = some v) (h : Q v s)
    (hk : env.scope.kind = .function) (hx : env.kindOf x = some .local) (hb : (x == ("__debug__" : Str)) = false) : wpAny M A (eval (.Name x pos) env) Q E s :=
  wpAny_Name (wpAny_loadName_local hk hx (hL ▸ F.ns) hv h) hb
theorem nm_glob (F : Fr h₀ L s.heap m) (X : (Mine.head.heap_1_39 w.params).In h₀) (T : TopRead p loose mg mb h₀) (e : nsIn (Mine.head.heap_1_39 w.params) mainGlobals x = some (some v)) (h : Q v s)
    (hG : env.globals = mainGlobals) (hk : env.scope.kind = .function) (hx : env.kindOf x = some .globalImplicit) (hb : (x == ("__debug__" : Str)) = false) : wpAny M A (eval (.Name x pos) env) Q E s :=
  Name_function_global hk hx (loadGlobal_global (env := env) (hG ▸ T.g.keeps F.keep) (mg_of X T.g e) h) hb
theorem st_cell {Q : Unit → Shared → Prop} {v₀ : Option Value} (F : Fr h₀ L s.heap m) (N : News h₀ L s.heap μ) (hc : env.cells.lookup x = some c) (hm : (c, o) ∈ μ) (hd : o.data = .cell v₀)
    (h : ∀ h' o', Fr h₀ L h' m → (∀ ν, (∀ q ∈ ν, q ∈ μ) → (∀ q ∈ ν, q.1 ≠ c) → News h₀ L h' ((c, o') :: ν)) → o'.data = .cell (some v) → Q () { s with heap := h' })
    (hk : env.scope.kind = .function) (hx : env.kindOf x = some .cell) : wpAny M A (storeName env x v) Q E s := by
  have hmem := N _ hm
  refine wpAny_storeName_cell hk hx hc ⟨o, hmem.1, hd⟩ fun h' hv hs => ?_
  with_reducible refine gen fun GG kGG => ?_
  obtain ⟨o', ho', hd'⟩ := hv
  with_reducible refine kGG ?_
  clear kGG GG
  refine h h' o' ⟨F.ns.sameBut hs (Ne.symm hmem.2.1), fun b ob e => (hs.2 b (fun q => ?_)).trans (F.keep b ob e), F.above⟩ (fun ν h1 h2 q hq => ?_) hd'
  · rw [q, hmem.2.2] at e; cases e
  · refine all_cons ?_ (fun q hq => ?_) q hq
    · exact ⟨ho', hmem.2⟩
    · have z := N q (h1 q hq)
      exact ⟨(hs.2 _ (h2 q hq)).trans z.1, z.2⟩
end

section
variable {prog : Program} {w : World} {A : Around} {E : Value → Shared → Prop} {s : Shared} {h₀ : Heap} {L d : Addr} {o : Obj} {m : Str → Option Value} {μ : List (Addr × Obj)} {kvs : List (Str × Value)} {k : Str} {t : Tok} {v : Value}
theorem d_set {Q : Unit → Shared → Prop} (F : Fr h₀ L s.heap m) (N : News h₀ L s.heap μ) (hm : (d, o) ∈ μ) (hd : o.IsDictOf (PySem.strKind prog w) kvs) (hsz : kvs.length ≤ 1000)
    (h : ∀ h' o', Fr h₀ L h' m → (∀ ν, (∀ q ∈ ν, q ∈ μ) → (∀ q ∈ ν, q.1 ≠ d) → News h₀ L h' ((d, o') :: ν)) → o'.IsDictOf (PySem.strKind prog w) (stored kvs k v) → Q () { s with heap := h', toks := s.toks + 1 }) :
    wpAny (model prog w) A (setItem (.ref d) (.str k t) v) Q E s := by
  have z := N _ hm
  refine wpAny_setItem_pairs (hsz := by rw [sizeLine_eq]; (first | lia | omega)) (strKind_is _ _ _ _) (Heap.dictOf_iff.mpr ⟨o, z.1, hd⟩) fun h' hmm hs => ?_
  with_reducible refine gen fun GG kGG => ?_
  obtain ⟨o', ho', hd'⟩ := Heap.dictOf_iff.mp hmm
  with_reducible refine kGG ?_
  clear kGG GG
  refine h h' o' (F.change hs z.2.1 z.2.2) (fun ν h1 h2 q hq => ?_) hd'
  refine all_cons ?_ (fun q hq => ?_) q hq
  · exact ⟨ho', z.2⟩
  · have y := N q (h1 q hq)
    exact ⟨(hs.2 _ (h2 q hq)).trans y.1, y.2⟩
end
local macro_rules | `(tactic| walk_at "eval Name") => `(tactic| ((with_reducible (first | (show wpAny _ _ (eval (PySem.Expr.Name _ _) (envOfC _ _ _ _ _)) _ _ _) | (show wpAny _ _ (eval (PySem.Expr.Name _ _) (compEnvC _ _ _ _)) _ _ _))); first
  | (refine nm_local (by assumption) (by rfl) (by first | exact rfl | assumption) ?_ (by rfl) (by rfl) (by decide))
  | (refine nm_glob (by assumption) (by assumption) (by assumption) (by k_is) ?_ (by rfl) (by rfl) (by rfl) (by decide))))
local macro_rules | `(tactic| walk_at "call builtin:max") => `(tactic| (refine max_two_N (Cb.hd (by assumption)) (by assumption) (by assumption) ?_; intro h' tk' F' N'))
section
variable {prog : Program} {w : World} {mg mb : Str → Option Value} {A : Around} {s : Shared} {Q E : Value → Shared → Prop}
variable (prog w mg mb) in
noncomputable def LTX (rows : List Rw) (f : Nat) : Prop := ∀ (A : Around) (s : Shared) (Q E : Value → Shared → Prop) (wd ra p : Addr) (qs : List Raw) (v : Value) (x : Vl) (vs : List Value) (ns : List Int) (z : Nat),
  RowsAt prog w (hideAll s.heap [wd]) ra qs rows → ValAt (hideAll s.heap [wd]) v x → VOk rows.length x → WAt prog w s.heap wd ra z → (hideAll s.heap [wd]).IsList p vs.toArray → IntsAre vs ns → free rows ns < f → ns.length + f ≤ 200 →
  Cx w mg mb A s.heap [wd] (2 * f + 4) (6 * f + 12) →
  (∀ h' tk' t, Stays [wd] s.heap h' → WAt prog w h' wd ra (max z (far rows f x ns)) → Q (.str (txt rows f x ns) t) { s with heap := h', toks := tk' }) →
  wpAny (model prog w) A (call (.ref 311) [.ref wd, v, .ref p]) Q E s

theorem Cb.atC {g h : Heap} {L C' : Addr} {m : Str → Option Value} {D : List Addr} {d u d' u' : Nat} {oL : Obj} (C : Cb w mg mb A g L d u) (F : Fr g C' h m) (hL : h.get? L = some oL) (hLd : ∀ vs, oL.data ≠ .fields vs) (hg : ∀ a ∈ D, g.get? a = none) (hLD : L ∉ D) (hd : d' ≤ d) (hu : u' ≤ u) : Cx w mg mb A h D d' u' where
  X := C.X.keeps (under_hide F hg)
  T := C.T.keeps (under_hide F hg)
  hd := C.hd
  dp := Nat.lt_of_le_of_lt (Nat.add_le_add_left hd _) C.dp
  un := Nat.lt_of_le_of_lt (Nat.add_le_add_left hu _) C.un
  fr := by
    obtain ⟨env, l, a, b, c, f⟩ := C.fr
    exact ⟨env :: l, a, c, ⟨L, oL, b, get_empty _, hideAll_get _ hL hLD, hLd⟩, f.of_keeps fun b o e _ => ⟨o, under_hide F hg b o e, rfl⟩⟩

theorem maxs_app (x : Nat) : ∀ l : List Nat, maxs (l ++ [x]) = max (maxs l) x
  | [] => by simp [maxs]
  | a :: l => by
    rw [List.cons_append]
    show max a (maxs (l ++ [x])) = max (max a (maxs l)) x
    rw [maxs_app x l, Nat.max_assoc]
theorem if_max (n z : Nat) : (if ((n + 1 : Nat) : Int) > (z : Int) then ((n + 1 : Nat) : Int) else (z : Int)) = ((max z (n + 1) : Nat) : Int) := by split <;> (first | lia | omega)
theorem lt_in {h₀ : Heap} {L wd ra p : Addr} {m : Str → Option Value} {μ : List (Addr × Obj)} {o : Obj} {rows : List Rw} {qs : List Raw} {f d u z : Nat} {ns : List Int} {ws : List Value} {v : Value} {x : Vl} {tf : Tok}
   (ih : LTX prog w mg mb rows f) (C : Cb w mg mb A (hideAll h₀ [wd]) L d u) (F : Fr (hideAll h₀ [wd]) L s.heap m) (N : News (hideAll h₀ [wd]) L s.heap μ) (hm : (wd, o) ∈ μ)
   (hdo : o.IsDictOf (PySem.strKind prog w) [(Str.ofString "rows", .ref ra), (Str.ofString "far", .int (z : Int) tf)]) (hw2 : (wd == sysModules) = false) (H : RowsAt prog w (hideAll h₀ [wd]) ra qs rows) (hx : ValAt (hideAll h₀ [wd]) v x) (hok : VOk rows.length x)
   (hp : s.heap.IsList p ws.toArray) (hpw : p ≠ wd) (hI : IntsAre ws ns) (hfr : free rows ns < f) (hl : ns.length + f ≤ 200) (hd : 2 * f + 4 ≤ d) (hu : 6 * f + 12 ≤ u)
   (hQ : ∀ h' tk' t o' tf', Fr (hideAll h₀ [wd]) L h' m → (∀ ν, (∀ q ∈ ν, q ∈ μ) → (∀ q ∈ ν, q.1 ≠ wd) → News (hideAll h₀ [wd]) L h' ((wd, o') :: ν)) →
     o'.IsDictOf (PySem.strKind prog w) [(Str.ofString "rows", .ref ra), (Str.ofString "far", .int ((max z (far rows f x ns) : Nat) : Int) tf')] → Q (.str (txt rows f x ns) t) { s with heap := h', toks := tk' }) :
   wpAny (model prog w) A (call (.ref 311) [.ref wd, v, .ref p]) Q E s := by
  have hgb : ∀ a ∈ [wd], (hideAll h₀ [wd]).get? a = none := fun a q => hideAll_none _ q
  have hLb : L ∉ [wd] := fun q => (N _ hm).2.1 (List.mem_singleton.mp q).symm
  have up := under_hide F hgb
  refine ih _ _ _ _ wd ra p qs v x ws ns z (H.up _ _ up) (hx.up up) hok ⟨⟨tf, Heap.dictOf_iff.mpr ⟨o, (N _ hm).1, hdo⟩⟩, hw2⟩ (hp.at fun o e => hideAll_get _ e (fun q => hpw (List.mem_singleton.mp q))) hI hfr hl (Cb.at C F hgb hLb hd hu) (fun h' tk' t S hw' => ?_)
  with_reducible refine gen fun GG kGG => ?_
  obtain ⟨⟨tf', hw1'⟩, _⟩ := hw'
  obtain ⟨o', ho', hd'⟩ := Heap.dictOf_iff.mp hw1'
  with_reducible refine kGG ?_
  clear kGG GG
  repeat ((((fail_if_success (with_reducible show wpAny _ _ _ _ _ _)); (refine (‹∀ (x : _) (y : Shared), _ → _›) _ _ ?_); (try dsimp only))))
  refine hQ h' tk' t o' tf' (Fr.st F S hLb hgb) (fun ν h1 h2 q hq => ?_) hd'
  refine all_cons ?_ (fun q hq => ?_) q hq
  · exact ⟨ho', (N _ hm).2⟩
  · have y := N q (h1 q hq)
    exact ⟨S _ _ (fun z => h2 q hq (List.mem_singleton.mp z)) y.1, y.2⟩
end
section
variable {prog : Program} {w : World} {mg mb : Str → Option Value} {A : Around} {s : Shared} {Q E : Value → Shared → Prop}
theorem law_thing_arr {rows : List Rw} {f : Nat} {wd ra p : Addr} {qs : List Raw} {vs : List Value} {ns : List Int} {z k : Nat} {sep : Str} {t1 t2 : Tok} (ih : LTX prog w mg mb rows f) (W : WFR rows) (B : Bd rows)
   (H : RowsAt prog w (hideAll s.heap [wd]) ra qs rows) (hk : k < rows.length) {r : Rw} (hr : rows[k]? = some r) (hs : r.sort = 1) (hw : WAt prog w s.heap wd ra z) (hp : (hideAll s.heap [wd]).IsList p vs.toArray) (hi : IntsAre vs ns) (hf : free rows ns < f + 1) (hl : ns.length + f + 1 ≤ 200) (hsep : sep.length ≤ 2)
   (C0 : Cx w mg mb A s.heap [wd] (2 * f + 5) (6 * f + 15))
   (hQ : ∀ h' tk' t, Stays [wd] s.heap h' → WAt prog w h' wd ra (max z (fthg (far rows f) rows k ns)) → Q (.str (thg (txt rows f) rows k ns sep) t) { s with heap := h', toks := tk' }) :
   wpAny (model prog w) A (call (.ref 316) [.ref wd, .int (k : Int) t1, .ref p, .str sep t2]) Q E s := by
  refine call_ruleC (d := 2 * f + 4) (u := 6 * f + 12) (binds := [(Str.ofString "w", .ref wd), (Str.ofString "k", .int (k : Int) t1), (Str.ofString "path", .ref p), (Str.ofString "sep", .str sep t2)]) C0 (by k_is) (by k_is) (BindsTo.of_eq rfl) (by rfl) (by decide +kernel) (fun L h₁ tk cells F N Y hkeep hcn C => ?_)
  with_reducible refine hideQ fun KK hKK => ?_
  have X := C.X
  have T := C.T
  with_reducible refine gen fun GG kGG => ?_
  obtain ⟨o1, o2, rfl, e1, e2⟩ := CellsAre.two Y
  with_reducible refine kGG ?_
  clear kGG GG
  have e1' : o1.data = .cell (some (.ref p)) := e1
  have e2' : o2.data = .cell (some (.ref wd)) := e2
  with_reducible refine gen fun GG kGG => ?_
  obtain ⟨⟨tf, hw1⟩, hw2⟩ := hw
  obtain ⟨ow, hwo, hwd⟩ := Heap.dictOf_iff.mp hw1
  with_reducible refine kGG ?_
  clear kGG GG
  have hcw : ∀ q ∈ [(L + 1 + 1, o1), (L + 1, o2)], q.1 ≠ wd := fun q hq z => by have := hcn q hq; rw [z, hwo] at this; cases this
  have hw3 : L + 1 + 1 ≠ wd := hcw _ (.head _)
  have hw4 : L + 1 ≠ wd := hcw _ (.tail _ (.head _))
  have N2 : News (hideAll s.heap [wd]) L h₁ [(L + 1 + 1, o1), (L + 1, o2), (wd, ow)] := fun q hq => by
    refine all_cons ?_ (fun q hq => ?_) q hq
    · exact N _ (.head _)
    refine all_cons ?_ (fun q hq => ?_) q hq
    · exact N _ (.tail _ (.head _))
    rw [List.mem_singleton.mp hq]
    exact ⟨(hkeep _ _ hwo).1, (hkeep _ _ hwo).2, hideAll_none _ (.head _)⟩
  clear N hcw e1 e2 Y hkeep hcn
  with_reducible refine gen fun GG kGG => ?_
  obtain ⟨xs, a4, a5, a6, a7⟩ := id H.ex
  obtain ⟨x, hx⟩ : ∃ x, xs[k]? = some x := ⟨_, List.getElem?_eq_getElem (by first | exact Nat.le_of_ble_eq_true rfl | assumption | (first | lia | omega))⟩
  obtain ⟨q, hq⟩ : ∃ q, qs[k]? = some q := ⟨_, List.getElem?_eq_getElem (by first | exact Nat.le_of_ble_eq_true rfl | assumption | (first | lia | omega))⟩
  with_reducible refine kGG ?_
  clear kGG GG
  have hx' : (xs.map Value.ref)[((k : Nat) : Int).toNat]? = some (.ref x) := by rw [Int.toNat_natCast, List.getElem?_map, hx]; rfl
  have hT := a7 _ _ _ _ hx hq hr
  have hl100 := W.len
  have hk63 : (k : Int) < 2 ^ 63 := by (first | lia | omega)
  with_reducible refine gen fun GG kGG => ?_
  obtain ⟨it, ot, u1, u2, d1, d2, d3, d4, d5⟩ := id hT.ex
  with_reducible refine kGG ?_
  clear kGG GG
  have hfin : ∀ {h' : Heap} {m : Str → Option Value} {μ : List (Addr × Obj)} {ow' : Obj} {tk : Nat} {t tf : Tok} {z' : Nat} {r : Str}, z' = max z (fthg (far rows f) rows k ns) → r = thg (txt rows f) rows k ns sep → Fr (hideAll s.heap [wd]) L h' m → News (hideAll s.heap [wd]) L h' μ → (wd, ow') ∈ μ → ow'.IsDictOf (PySem.strKind prog w) [(Str.ofString "rows", .ref ra), (Str.ofString "far", .int (z' : Int) tf)] → Q (.str r t) { s with heap := h', toks := tk } := by
    rintro h' m μ ow' tk t tf z' r rfl rfl F N hm hd
    repeat ((((fail_if_success (with_reducible show wpAny _ _ _ _ _ _)); (refine (‹∀ (x : _) (y : Shared), _ → _›) _ _ ?_); (try dsimp only))))
    exact hQ _ _ _ (Fr.out F) ⟨⟨tf, Heap.dictOf_iff.mpr ⟨ow', (N _ hm).1, hd⟩⟩, hw2⟩
  rw [hs] at d1
  by_cases hin : ns.any (· == (k : Int)) = true
  · have hkn : (k : Int) ∈ ns := by
      with_reducible refine gen fun GG kGG => ?_
      obtain ⟨y, hy, e⟩ := List.any_eq_true.mp hin
      with_reducible refine kGG ?_
      clear kGG GG
      rw [← (beq_iff_eq.mp e)]; exact hy
    have ef : fthg (far rows f) rows k ns = 0 := by unfold fthg; rw [hr]; simp only [hs, hkn, if_true]; rfl
    have et : Str.ofString "" = thg (txt rows f) rows k ns sep := by unfold thg; rw [hr]; simp only [hs, hkn, if_true]; rfl
    (((repeat' ((fail_if_success ((with_reducible (first | (show wpAny _ _ (exec (Stmt.While _ _ _ _) _) _ _ _) | (show wpAny _ _ (exec (Stmt.For _ _ _ _ _) _) _ _ _) | (show wpAny _ _ (eval (PySem.Expr.ListComp _ _ _ _) _) _ _ _) | (show wpAny _ _ (exec (Stmt.Try _ _ _ _ _) _) _ _ _))))); (first | walk1 | (dsimp only; walk1) | (k_unfold; (try dsimp only)) | (refine hKS _ _ ?_; clear hKS KS; (try dsimp only))))); (all_goals (try dsimp only)); (all_goals (repeat ((((fail_if_success (with_reducible show wpAny _ _ _ _ _ _)); (refine (‹∀ (x : _) (y : Shared), _ → _›) _ _ ?_); (try dsimp only))))))))
    repeat ((((fail_if_success (with_reducible show wpAny _ _ _ _ _ _)); (refine (‹∀ (x : _) (y : Shared), _ → _›) _ _ ?_); (try dsimp only))))
    exact hfin (by first | exact Nat.le_of_ble_eq_true rfl | assumption | (first | lia | omega)) et (by assumption) (by assumption) (by k_mem) hwd
  · have hkn : (k : Int) ∉ ns := fun z => hin (List.any_eq_true.mpr ⟨_, z, beq_self_eq_true _⟩)
    (((repeat' ((fail_if_success ((with_reducible (first | (show wpAny _ _ (exec (Stmt.While _ _ _ _) _) _ _ _) | (show wpAny _ _ (exec (Stmt.For _ _ _ _ _) _) _ _ _) | (show wpAny _ _ (eval (PySem.Expr.ListComp _ _ _ _) _) _ _ _) | (show wpAny _ _ (exec (Stmt.Try _ _ _ _ _) _) _ _ _))))); (first | walk1 | (dsimp only; walk1) | (k_unfold; (try dsimp only)) | (refine hKS _ _ ?_; clear hKS KS; (try dsimp only))))); (all_goals (try dsimp only)); (all_goals (repeat ((((fail_if_success (with_reducible show wpAny _ _ _ _ _ _)); (refine (‹∀ (x : _) (y : Shared), _ → _›) _ _ ?_); (try dsimp only))))))))
    rename_i _ lA _ fA D ws _ F N hI fD
    have hDw : D ≠ wd := Nat.ne_of_gt fD.2.2.2
    have hDp : D ≠ L + 1 + 1 := Nat.ne_of_gt fD.2.1
    have hD1 : D ≠ L + 1 := Nat.ne_of_gt fD.2.2.1
    refine st_cell F N (by rfl) (.tail _ (.tail _ (.head _))) e1' (fun h' o1' F' Nf hd1 => ?_) (by rfl) (by rfl)
    have N' := Nf [(D, _), (L + 1, o2), (wd, ow)] (fun q hq => by
      refine all_cons ?_ (fun q hq => ?_) q hq
      · exact .head _
      · refine all_cons ?_ (fun q hq => ?_) q hq
        · exact .tail _ (.tail _ (.tail _ (.head _)))
        · rw [List.mem_singleton.mp hq]; exact .tail _ (.tail _ (.tail _ (.tail _ (.head _))))) (fun q hq => by
      refine all_cons ?_ (fun q hq => ?_) q hq
      · exact hDp
      · refine all_cons ?_ (fun q hq => ?_) q hq
        · exact Nat.ne_of_lt (Nat.lt_succ_self _)
        · rw [List.mem_singleton.mp hq]; exact hw3.symm)
    clear N F Nf e1'
    have hws := IntsAre.length hI
    rw [List.length_append] at hws
    have hws2 : ws.length = ns.length + 1 := hws
    (((repeat' ((fail_if_success ((with_reducible (first | (show wpAny _ _ (exec (Stmt.While _ _ _ _) _) _ _ _) | (show wpAny _ _ (exec (Stmt.For _ _ _ _ _) _) _ _ _) | (show wpAny _ _ (eval (PySem.Expr.ListComp _ _ _ _) _) _ _ _) | (show wpAny _ _ (exec (Stmt.Try _ _ _ _ _) _) _ _ _))))); (first | walk1 | (dsimp only; walk1) | (k_unfold; (try dsimp only)) | (refine hKS _ _ ?_; clear hKS KS; (try dsimp only))))); (all_goals (try dsimp only)); (all_goals (repeat ((((fail_if_success (with_reducible show wpAny _ _ _ _ _ _)); (refine (‹∀ (x : _) (y : Shared), _ → _›) _ _ ?_); (try dsimp only))))))))
    rename Fr _ _ _ _ => F
    rename News _ _ _ _ => N
    rename Obj.IsDictOf _ _ _ => hd3
    have ef : fthg (far rows f) rows k ns = max (ns.length + 1) (maxs (r.items.map (fpiece fun v => far rows f v (ns ++ [(k : Int)])))) := by unfold fthg; rw [hr]; simp only [hs, hkn, if_true, if_false]; rfl
    have et : thg (txt rows f) rows k ns sep = Str.join sep (r.items.map (piece fun v => txt rows f v (ns ++ [(k : Int)]))) := by unfold thg; rw [hr]; simp only [hs, hkn, if_true, if_false]; rfl
    with_reducible refine gen fun GG kGG => ?_
    obtain ⟨TP, hTP⟩ : ∃ TP, TP = piece fun v => txt rows f v (ns ++ [(k : Int)]) := ⟨_, rfl⟩
    obtain ⟨FP, hFP⟩ : ∃ FP, FP = fpiece fun v => far rows f v (ns ++ [(k : Int)]) := ⟨_, rfl⟩
    with_reducible refine kGG ?_
    clear kGG GG
    rw [ef, et, ← hTP, ← hFP] at hfin
    have hsum := B.sum f k r ns sep hr hs hkn hsep
    rw [← hTP] at hsum
    have hil : q.its.length = r.items.length := All2.len hT.its
    have hil2 : q.its.length ≤ 1000 := by rw [hil]; exact W.its _ _ hr
    rw [eval_ListComp]
    refine wpAny_comprehension_free (use := none) rfl (fun _ => rfl) (by rfl) rfl (by decide) ?_
    rw [show ∀ (e : PySem.Expr) t i b env, firstIter [⟨t, e, i, b⟩] env = eval e env from fun _ _ _ _ _ => rfl]
    (((repeat' ((fail_if_success ((with_reducible (first | (show wpAny _ _ (exec (Stmt.While _ _ _ _) _) _ _ _) | (show wpAny _ _ (exec (Stmt.For _ _ _ _ _) _) _ _ _) | (show wpAny _ _ (eval (PySem.Expr.ListComp _ _ _ _) _) _ _ _) | (show wpAny _ _ (exec (Stmt.Try _ _ _ _ _) _) _ _ _))))); (first | walk1 | (dsimp only; walk1) | (k_unfold; (try dsimp only)) | (refine hKS _ _ ?_; clear hKS KS; (try dsimp only))))); (all_goals (try dsimp only)); (all_goals (repeat ((((fail_if_success (with_reducible show wpAny _ _ _ _ _ _)); (refine (‹∀ (x : _) (y : Shared), _ → _›) _ _ ?_); (try dsimp only))))))))
    refine comp_list (g := hideAll s.heap [wd]) (fun i acc μ₁ => ∃ o tf z', μ₁ = [(L + 1 + 1, o1'), (D, listOf ws.toArray 0), (L + 1, o2), (wd, o)] ∧ o.IsDictOf (PySem.strKind prog w) [(Str.ofString "rows", .ref ra), (Str.ofString "far", .int ((z' : Nat) : Int) tf)] ∧ z' = max (max z (ns.length + 1)) (maxs ((r.items.take i).map FP)) ∧ StrsAre acc ((r.items.take i).map TP))
      (Cb.hd C) d3 hil2 ?c3 ?c4 ?c5 F N ?_ ?_ ?_
    case c3 => decide
    case c4 => rfl
    case c5 => rfl
    · have e := if_max ns.length z
      rw [e] at hd3
      refine ⟨_, _, max z (ns.length + 1), rfl, hd3, ?_, .nil⟩
      simp [maxs]
    · clear F N
      intro i v acc μ₁ C' κ oL h tk mC Qt E' hv hRp1
      with_reducible refine gen fun GG kGG => ?_
      obtain ⟨o, tf, z', rfl, hd4, hz', hacc⟩ := hRp1
      with_reducible refine kGG ?_
      clear kGG GG
      intro hlen hμ FC hmv N hoL hκ hLμ hCL hk'
      have N' : News (hideAll s.heap [wd]) C' h ((L + 1 + 1, o1') :: (D, listOf ws.toArray 0) :: (L + 1, o2) :: (wd, o) :: (L, oL) :: κ) := N
      clear N
      with_reducible refine gen fun GG kGG => ?_
      obtain ⟨y, hy, a, tg, tp, rfl, hva⟩ := hT.its.getL hv
      with_reducible refine kGG ?_
      clear kGG GG
      have hyk := W.item _ _ _ hr (List.mem_of_getElem? hy)
      by_cases htag : y.tag < 2
      · have hd1 : decide (y.tag < 2) = true := decide_eq_true (by (first | lia | omega))
        have hpl : TP y = Str.ofString "" := by rw [hTP]; unfold piece; rw [if_pos htag]
        have hff : FP y = 0 := by rw [hFP]; unfold fpiece; rw [if_pos htag]
        (((repeat' ((fail_if_success ((with_reducible (first | (show wpAny _ _ (exec (Stmt.While _ _ _ _) _) _ _ _) | (show wpAny _ _ (exec (Stmt.For _ _ _ _ _) _) _ _ _) | (show wpAny _ _ (eval (PySem.Expr.ListComp _ _ _ _) _) _ _ _) | (show wpAny _ _ (exec (Stmt.Try _ _ _ _ _) _) _ _ _))))); (first | walk1 | (dsimp only; walk1) | (k_unfold; (try dsimp only)) | (refine hKS _ _ ?_; clear hKS KS; (try dsimp only))))); (all_goals (try dsimp only)); (all_goals (repeat ((((fail_if_success (with_reducible show wpAny _ _ _ _ _ _)); (refine (‹∀ (x : _) (y : Shared), _ → _›) _ _ ?_); (try dsimp only))))))))
        refine hk' _ _ _ [(L + 1 + 1, o1'), (D, listOf ws.toArray 0), (L + 1, o2), (wd, o)] _ FC N' rfl ⟨o, tf, z', rfl, hd4, ?_, ?_⟩
        · rw [take_one hy, List.map_append, List.map_singleton, maxs_app, hff, Nat.max_zero]; exact hz'
        · rw [take_one hy, List.map_append, List.map_singleton, hpl]; exact hacc.append' (.cons _ _ .nil)
      · have hd1 : decide (y.tag < 2) = false := decide_eq_false (by (first | lia | omega))
        have hpl : TP y = txt rows f y (ns ++ [(k : Int)]) := by rw [hTP]; unfold piece; rw [if_neg htag]
        have hff : FP y = far rows f y (ns ++ [(k : Int)]) := by rw [hFP]; unfold fpiece; rw [if_neg htag]
        (((repeat' ((fail_if_success ((with_reducible (first | (show wpAny _ _ (exec (Stmt.While _ _ _ _) _) _ _ _) | (show wpAny _ _ (exec (Stmt.For _ _ _ _ _) _) _ _ _) | (show wpAny _ _ (eval (PySem.Expr.ListComp _ _ _ _) _) _ _ _) | (show wpAny _ _ (exec (Stmt.Try _ _ _ _ _) _) _ _ _))))); (first | walk1 | (dsimp only; walk1) | (k_unfold; (try dsimp only)) | (refine hKS _ _ ?_; clear hKS KS; (try dsimp only))))); (all_goals (try dsimp only)); (all_goals (repeat ((((fail_if_success (with_reducible show wpAny _ _ _ _ _ _)); (refine (‹∀ (x : _) (y : Shared), _ → _›) _ _ ?_); (try dsimp only))))))))
        rename Fr _ _ _ _ => FC
        rename News _ _ _ _ => N'
        have hgb : ∀ a ∈ [wd], (hideAll s.heap [wd]).get? a = none := fun a q => hideAll_none _ q
        have hLw : L ≠ wd := hLμ wd (.tail _ (.tail _ (.tail _ (.head _))))
        have hLD : L ∉ [wd] := fun q => hLw (List.mem_singleton.mp q)
        have up := under_hide FC hgb
        have N2 : News (hideAll s.heap [wd]) C' h ((wd, o) :: (L + 1 + 1, o1') :: (D, listOf ws.toArray 0) :: (L + 1, o2) :: (L, oL) :: κ) := fun p hp => N' p (by
          refine all_cons ?_ (fun p hp => ?_) p hp
          · exact .tail _ (.tail _ (.tail _ (.head _)))
          refine all_cons ?_ (fun p hp => ?_) p hp
          · exact .head _
          refine all_cons ?_ (fun p hp => ?_) p hp
          · exact .tail _ (.head _)
          refine all_cons ?_ (fun p hp => ?_) p hp
          · exact .tail _ (.tail _ (.head _))
          · exact .tail _ (.tail _ (.tail _ (.tail _ hp))))
        have hne : ∀ p ∈ ((L + 1 + 1, o1') :: (D, listOf ws.toArray 0) :: (L + 1, o2) :: (L, oL) :: κ), p.1 ≠ wd := fun p hp => by
          refine all_cons ?_ (fun p hp => ?_) p hp
          · exact hw3
          refine all_cons ?_ (fun p hp => ?_) p hp
          · exact hDw
          refine all_cons ?_ (fun p hp => ?_) p hp
          · exact hw4
          refine all_cons ?_ (fun p hp => ?_) p hp
          · exact hLw
          · exact hκ p hp wd (.tail _ (.tail _ (.tail _ (.head _))))
        have hfr2 := free_lt hk hkn
        refine ih _ _ _ _ wd ra D qs (.ref a) y ws (ns ++ [(k : Int)]) z' (H.up _ _ up) (ValAt.up ⟨a, tg, tp, rfl, hva⟩ up) hyk ⟨⟨tf, Heap.dictOf_iff.mpr ⟨o, (N2 _ (.head _)).1, hd4⟩⟩, hw2⟩
          ((News.isList N' (.tail _ (.head _))).at fun o e => hideAll_get _ e (fun q => hDw (List.mem_singleton.mp q))) hI (by first | exact Nat.le_of_ble_eq_true rfl | assumption | (first | lia | omega)) (by rw [List.length_append]; simp only [List.length_cons, List.length_nil]; (first | lia | omega))
          (Cb.atC C FC (N' (L, oL) (.tail _ (.tail _ (.tail _ (.tail _ (.head _)))))).1 hoL hgb hLD (by first | exact Nat.le_of_ble_eq_true rfl | assumption | (first | lia | omega)) (by first | exact Nat.le_of_ble_eq_true rfl | assumption | (first | lia | omega))) (fun h₃ tk₃ t₃ S hw' => ?_)
        with_reducible refine gen fun GG kGG => ?_
        obtain ⟨⟨tf', hw1'⟩, _⟩ := hw'
        obtain ⟨o', ho', hd'⟩ := Heap.dictOf_iff.mp hw1'
        with_reducible refine kGG ?_
        clear kGG GG
        have N3 := News.st1 N2 S hne ho'
        refine hk' _ _ _ [(L + 1 + 1, o1'), (D, listOf ws.toArray 0), (L + 1, o2), (wd, o')] _ (Fr.st1 FC N2 S) (fun p hp => N3 p (by
          have hp : p ∈ (L + 1 + 1, o1') :: (D, listOf ws.toArray 0) :: (L + 1, o2) :: (wd, o') :: (L, oL) :: κ := hp
          refine all_cons ?_ (fun p hp => ?_) p hp
          · exact .tail _ (.head _)
          refine all_cons ?_ (fun p hp => ?_) p hp
          · exact .tail _ (.tail _ (.head _))
          refine all_cons ?_ (fun p hp => ?_) p hp
          · exact .tail _ (.tail _ (.tail _ (.head _)))
          refine all_cons ?_ (fun p hp => ?_) p hp
          · exact .head _
          · exact .tail _ (.tail _ (.tail _ (.tail _ hp))))) rfl ⟨o', tf', _, rfl, hd', ?_, ?_⟩
        · rw [take_one hy, List.map_append, List.map_singleton, maxs_app, hff, hz']; exact Nat.max_assoc _ _ _
        · rw [take_one hy, List.map_append, List.map_singleton, hpl]; exact hacc.append' (.cons _ _ .nil)
    · clear F N
      intro acc μ₁ h tk D' nD hRp1
      with_reducible refine gen fun GG kGG => ?_
      obtain ⟨o, tf, z', rfl, hd4, hz', hacc⟩ := hRp1
      with_reducible refine kGG ?_
      clear kGG GG
      intro hlen hμ F N
      rw [hil, List.take_length] at hz' hacc
      have hS5 := sum_sep sep.length (r.items.map TP)
      simp only [List.map_map, Function.comp_def] at hS5 hsum
      (((repeat' ((fail_if_success ((with_reducible (first | (show wpAny _ _ (exec (Stmt.While _ _ _ _) _) _ _ _) | (show wpAny _ _ (exec (Stmt.For _ _ _ _ _) _) _ _ _) | (show wpAny _ _ (eval (PySem.Expr.ListComp _ _ _ _) _) _ _ _) | (show wpAny _ _ (exec (Stmt.Try _ _ _ _ _) _) _ _ _))))); (first | walk1 | (dsimp only; walk1) | (k_unfold; (try dsimp only)) | (refine hKS _ _ ?_; clear hKS KS; (try dsimp only))))); (all_goals (try dsimp only)); (all_goals (repeat ((((fail_if_success (with_reducible show wpAny _ _ _ _ _ _)); (refine (‹∀ (x : _) (y : Shared), _ → _›) _ _ ?_); (try dsimp only))))))))
      rename Fr _ _ _ _ => F
      rename News _ _ _ _ => N
      refine join_list (News.isList N (.head _)) (by simpa using hacc) (by simp only [List.map_map, Function.comp_def]; (first | lia | omega)) fun t' k' => ?_
      rw [eq_of_beq (join_plain_closes sep _)]
      repeat ((((fail_if_success (with_reducible show wpAny _ _ _ _ _ _)); (refine (‹∀ (x : _) (y : Shared), _ → _›) _ _ ?_); (try dsimp only))))
      exact hfin (hz'.trans (Nat.max_assoc _ _ _)) rfl F N (.tail _ (.tail _ (.tail _ (.tail _ (.head _))))) hd4
end
section
variable {prog : Program} {w : World} {mg mb : Str → Option Value} {A : Around} {s : Shared} {Q E : Value → Shared → Prop}
theorem law_thing_0 {rows : List Rw} {f : Nat} {wd ra p : Addr} {qs : List Raw} {vs : List Value} {ns : List Int} {z k : Nat} {sep : Str} {t1 t2 : Tok} (ih : LTX prog w mg mb rows f) (W : WFR rows) (B : Bd rows)
   (H : RowsAt prog w (hideAll s.heap [wd]) ra qs rows) (hk : k < rows.length) {r : Rw} (hr : rows[k]? = some r) (hs : r.sort = 0) (hw : WAt prog w s.heap wd ra z) (hp : (hideAll s.heap [wd]).IsList p vs.toArray) (hi : IntsAre vs ns) (hf : free rows ns < f + 1) (hl : ns.length + f + 1 ≤ 200) (hsep : sep.length ≤ 2)
   (C0 : Cx w mg mb A s.heap [wd] (2 * f + 5) (6 * f + 15))
   (hQ : ∀ h' tk' t, Stays [wd] s.heap h' → WAt prog w h' wd ra (max z (fthg (far rows f) rows k ns)) → Q (.str (thg (txt rows f) rows k ns sep) t) { s with heap := h', toks := tk' }) :
   wpAny (model prog w) A (call (.ref 316) [.ref wd, .int (k : Int) t1, .ref p, .str sep t2]) Q E s := by
  refine call_ruleC (d := 2 * f + 4) (u := 6 * f + 12) (binds := [(Str.ofString "w", .ref wd), (Str.ofString "k", .int (k : Int) t1), (Str.ofString "path", .ref p), (Str.ofString "sep", .str sep t2)]) C0 (by k_is) (by k_is) (BindsTo.of_eq rfl) (by rfl) (by decide +kernel) (fun L h₁ tk cells F N Y hkeep hcn C => ?_)
  with_reducible refine hideQ fun KK hKK => ?_
  have X := C.X
  have T := C.T
  with_reducible refine gen fun GG kGG => ?_
  obtain ⟨o1, o2, rfl, e1, e2⟩ := CellsAre.two Y
  with_reducible refine kGG ?_
  clear kGG GG
  have e1' : o1.data = .cell (some (.ref p)) := e1
  have e2' : o2.data = .cell (some (.ref wd)) := e2
  with_reducible refine gen fun GG kGG => ?_
  obtain ⟨⟨tf, hw1⟩, hw2⟩ := hw
  obtain ⟨ow, hwo, hwd⟩ := Heap.dictOf_iff.mp hw1
  with_reducible refine kGG ?_
  clear kGG GG
  have hcw : ∀ q ∈ [(L + 1 + 1, o1), (L + 1, o2)], q.1 ≠ wd := fun q hq z => by have := hcn q hq; rw [z, hwo] at this; cases this
  have hw3 : L + 1 + 1 ≠ wd := hcw _ (.head _)
  have hw4 : L + 1 ≠ wd := hcw _ (.tail _ (.head _))
  have N2 : News (hideAll s.heap [wd]) L h₁ [(L + 1 + 1, o1), (L + 1, o2), (wd, ow)] := fun q hq => by
    refine all_cons ?_ (fun q hq => ?_) q hq
    · exact N _ (.head _)
    refine all_cons ?_ (fun q hq => ?_) q hq
    · exact N _ (.tail _ (.head _))
    rw [List.mem_singleton.mp hq]
    exact ⟨(hkeep _ _ hwo).1, (hkeep _ _ hwo).2, hideAll_none _ (.head _)⟩
  clear N hcw e1 e2 Y hkeep hcn
  with_reducible refine gen fun GG kGG => ?_
  obtain ⟨xs, a4, a5, a6, a7⟩ := id H.ex
  obtain ⟨x, hx⟩ : ∃ x, xs[k]? = some x := ⟨_, List.getElem?_eq_getElem (by first | exact Nat.le_of_ble_eq_true rfl | assumption | (first | lia | omega))⟩
  obtain ⟨q, hq⟩ : ∃ q, qs[k]? = some q := ⟨_, List.getElem?_eq_getElem (by first | exact Nat.le_of_ble_eq_true rfl | assumption | (first | lia | omega))⟩
  with_reducible refine kGG ?_
  clear kGG GG
  have hx' : (xs.map Value.ref)[((k : Nat) : Int).toNat]? = some (.ref x) := by rw [Int.toNat_natCast, List.getElem?_map, hx]; rfl
  have hT := a7 _ _ _ _ hx hq hr
  have hl100 := W.len
  have hk63 : (k : Int) < 2 ^ 63 := by (first | lia | omega)
  with_reducible refine gen fun GG kGG => ?_
  obtain ⟨it, ot, u1, u2, d1, d2, d3, d4, d5⟩ := id hT.ex
  with_reducible refine kGG ?_
  clear kGG GG
  have hfin : ∀ {h' : Heap} {m : Str → Option Value} {μ : List (Addr × Obj)} {ow' : Obj} {tk : Nat} {t tf : Tok} {z' : Nat} {r : Str}, z' = max z (fthg (far rows f) rows k ns) → r = thg (txt rows f) rows k ns sep → Fr (hideAll s.heap [wd]) L h' m → News (hideAll s.heap [wd]) L h' μ → (wd, ow') ∈ μ → ow'.IsDictOf (PySem.strKind prog w) [(Str.ofString "rows", .ref ra), (Str.ofString "far", .int (z' : Int) tf)] → Q (.str r t) { s with heap := h', toks := tk } := by
    rintro h' m μ ow' tk t tf z' r rfl rfl F N hm hd
    repeat ((((fail_if_success (with_reducible show wpAny _ _ _ _ _ _)); (refine (‹∀ (x : _) (y : Shared), _ → _›) _ _ ?_); (try dsimp only))))
    exact hQ _ _ _ (Fr.out F) ⟨⟨tf, Heap.dictOf_iff.mpr ⟨ow', (N _ hm).1, hd⟩⟩, hw2⟩
  rw [hs] at d1
  have ef : fthg (far rows f) rows k ns = 0 := by unfold fthg; rw [hr]; simp only [hs, if_true]
  have et : Str.ofString "[object Object]" = thg (txt rows f) rows k ns sep := by unfold thg; rw [hr]; simp only [hs, if_true]
  (((repeat' ((fail_if_success ((with_reducible (first | (show wpAny _ _ (exec (Stmt.While _ _ _ _) _) _ _ _) | (show wpAny _ _ (exec (Stmt.For _ _ _ _ _) _) _ _ _) | (show wpAny _ _ (eval (PySem.Expr.ListComp _ _ _ _) _) _ _ _) | (show wpAny _ _ (exec (Stmt.Try _ _ _ _ _) _) _ _ _))))); (first | walk1 | (dsimp only; walk1) | (k_unfold; (try dsimp only)) | (refine hKS _ _ ?_; clear hKS KS; (try dsimp only))))); (all_goals (try dsimp only)); (all_goals (repeat ((((fail_if_success (with_reducible show wpAny _ _ _ _ _ _)); (refine (‹∀ (x : _) (y : Shared), _ → _›) _ _ ?_); (try dsimp only))))))))
  repeat ((((fail_if_success (with_reducible show wpAny _ _ _ _ _ _)); (refine (‹∀ (x : _) (y : Shared), _ → _›) _ _ ?_); (try dsimp only))))
  exact hfin (by first | exact Nat.le_of_ble_eq_true rfl | assumption | (first | lia | omega)) et (by assumption) (by assumption) (by k_mem) hwd
theorem law_thing_2 {rows : List Rw} {f : Nat} {wd ra p : Addr} {qs : List Raw} {vs : List Value} {ns : List Int} {z k : Nat} {sep : Str} {t1 t2 : Tok} (ih : LTX prog w mg mb rows f) (W : WFR rows) (B : Bd rows)
   (H : RowsAt prog w (hideAll s.heap [wd]) ra qs rows) (hk : k < rows.length) {r : Rw} (hr : rows[k]? = some r) (hs : r.sort = 2) (hw : WAt prog w s.heap wd ra z) (hp : (hideAll s.heap [wd]).IsList p vs.toArray) (hi : IntsAre vs ns) (hf : free rows ns < f + 1) (hl : ns.length + f + 1 ≤ 200) (hsep : sep.length ≤ 2)
   (C0 : Cx w mg mb A s.heap [wd] (2 * f + 5) (6 * f + 15))
   (hQ : ∀ h' tk' t, Stays [wd] s.heap h' → WAt prog w h' wd ra (max z (fthg (far rows f) rows k ns)) → Q (.str (thg (txt rows f) rows k ns sep) t) { s with heap := h', toks := tk' }) :
   wpAny (model prog w) A (call (.ref 316) [.ref wd, .int (k : Int) t1, .ref p, .str sep t2]) Q E s := by
  refine call_ruleC (d := 2 * f + 4) (u := 6 * f + 12) (binds := [(Str.ofString "w", .ref wd), (Str.ofString "k", .int (k : Int) t1), (Str.ofString "path", .ref p), (Str.ofString "sep", .str sep t2)]) C0 (by k_is) (by k_is) (BindsTo.of_eq rfl) (by rfl) (by decide +kernel) (fun L h₁ tk cells F N Y hkeep hcn C => ?_)
  with_reducible refine hideQ fun KK hKK => ?_
  have X := C.X
  have T := C.T
  with_reducible refine gen fun GG kGG => ?_
  obtain ⟨o1, o2, rfl, e1, e2⟩ := CellsAre.two Y
  with_reducible refine kGG ?_
  clear kGG GG
  have e1' : o1.data = .cell (some (.ref p)) := e1
  have e2' : o2.data = .cell (some (.ref wd)) := e2
  with_reducible refine gen fun GG kGG => ?_
  obtain ⟨⟨tf, hw1⟩, hw2⟩ := hw
  obtain ⟨ow, hwo, hwd⟩ := Heap.dictOf_iff.mp hw1
  with_reducible refine kGG ?_
  clear kGG GG
  have hcw : ∀ q ∈ [(L + 1 + 1, o1), (L + 1, o2)], q.1 ≠ wd := fun q hq z => by have := hcn q hq; rw [z, hwo] at this; cases this
  have hw3 : L + 1 + 1 ≠ wd := hcw _ (.head _)
  have hw4 : L + 1 ≠ wd := hcw _ (.tail _ (.head _))
  have N2 : News (hideAll s.heap [wd]) L h₁ [(L + 1 + 1, o1), (L + 1, o2), (wd, ow)] := fun q hq => by
    refine all_cons ?_ (fun q hq => ?_) q hq
    · exact N _ (.head _)
    refine all_cons ?_ (fun q hq => ?_) q hq
    · exact N _ (.tail _ (.head _))
    rw [List.mem_singleton.mp hq]
    exact ⟨(hkeep _ _ hwo).1, (hkeep _ _ hwo).2, hideAll_none _ (.head _)⟩
  clear N hcw e1 e2 Y hkeep hcn
  with_reducible refine gen fun GG kGG => ?_
  obtain ⟨xs, a4, a5, a6, a7⟩ := id H.ex
  obtain ⟨x, hx⟩ : ∃ x, xs[k]? = some x := ⟨_, List.getElem?_eq_getElem (by first | exact Nat.le_of_ble_eq_true rfl | assumption | (first | lia | omega))⟩
  obtain ⟨q, hq⟩ : ∃ q, qs[k]? = some q := ⟨_, List.getElem?_eq_getElem (by first | exact Nat.le_of_ble_eq_true rfl | assumption | (first | lia | omega))⟩
  with_reducible refine kGG ?_
  clear kGG GG
  have hx' : (xs.map Value.ref)[((k : Nat) : Int).toNat]? = some (.ref x) := by rw [Int.toNat_natCast, List.getElem?_map, hx]; rfl
  have hT := a7 _ _ _ _ hx hq hr
  have hl100 := W.len
  have hk63 : (k : Int) < 2 ^ 63 := by (first | lia | omega)
  with_reducible refine gen fun GG kGG => ?_
  obtain ⟨it, ot, u1, u2, d1, d2, d3, d4, d5⟩ := id hT.ex
  with_reducible refine kGG ?_
  clear kGG GG
  have hfin : ∀ {h' : Heap} {m : Str → Option Value} {μ : List (Addr × Obj)} {ow' : Obj} {tk : Nat} {t tf : Tok} {z' : Nat} {r : Str}, z' = max z (fthg (far rows f) rows k ns) → r = thg (txt rows f) rows k ns sep → Fr (hideAll s.heap [wd]) L h' m → News (hideAll s.heap [wd]) L h' μ → (wd, ow') ∈ μ → ow'.IsDictOf (PySem.strKind prog w) [(Str.ofString "rows", .ref ra), (Str.ofString "far", .int (z' : Int) tf)] → Q (.str r t) { s with heap := h', toks := tk } := by
    rintro h' m μ ow' tk t tf z' r rfl rfl F N hm hd
    repeat ((((fail_if_success (with_reducible show wpAny _ _ _ _ _ _)); (refine (‹∀ (x : _) (y : Shared), _ → _›) _ _ ?_); (try dsimp only))))
    exact hQ _ _ _ (Fr.out F) ⟨⟨tf, Heap.dictOf_iff.mpr ⟨ow', (N _ hm).1, hd⟩⟩, hw2⟩
  rw [hs] at d1
  have ef : fthg (far rows f) rows k ns = 0 := by unfold fthg; rw [hr]; simp only [hs]; rfl
  have et : Str.ofString "function" = thg (txt rows f) rows k ns sep := by unfold thg; rw [hr]; simp only [hs]; rfl
  (((repeat' ((fail_if_success ((with_reducible (first | (show wpAny _ _ (exec (Stmt.While _ _ _ _) _) _ _ _) | (show wpAny _ _ (exec (Stmt.For _ _ _ _ _) _) _ _ _) | (show wpAny _ _ (eval (PySem.Expr.ListComp _ _ _ _) _) _ _ _) | (show wpAny _ _ (exec (Stmt.Try _ _ _ _ _) _) _ _ _))))); (first | walk1 | (dsimp only; walk1) | (k_unfold; (try dsimp only)) | (refine hKS _ _ ?_; clear hKS KS; (try dsimp only))))); (all_goals (try dsimp only)); (all_goals (repeat ((((fail_if_success (with_reducible show wpAny _ _ _ _ _ _)); (refine (‹∀ (x : _) (y : Shared), _ → _›) _ _ ?_); (try dsimp only))))))))
  repeat ((((fail_if_success (with_reducible show wpAny _ _ _ _ _ _)); (refine (‹∀ (x : _) (y : Shared), _ → _›) _ _ ?_); (try dsimp only))))
  exact hfin (by first | exact Nat.le_of_ble_eq_true rfl | assumption | (first | lia | omega)) et (by assumption) (by assumption) (by k_mem) hwd
end
noncomputable def Blk (H : Heap) (ν : List (Addr × Obj)) : Prop := ∀ p ∈ ν, H.get? p.1 = some p.2
theorem Blk.nil {H : Heap} : Blk H [] := fun _ h => nomatch h
theorem blk_of {g h : Heap} {L : Addr} {ν : List (Addr × Obj)} (N : News g L h ν) : Blk h ν := fun p hp => (N p hp).1
noncomputable def CutSt (g : Heap) (L : Addr) (m : Str → Option Value) (P : Heap → Prop) (s : Shared) (f : Flow) (s' : Shared) : Prop := f = .next ∧ ∃ h' tk', s' = { s with heap := h', toks := tk' } ∧ Fr g L h' m ∧ P h'
section
variable {prog : Program} {w : World} {mg mb : Str → Option Value} {A : Around} {s : Shared} {Q E : Value → Shared → Prop}
noncomputable def CutAt (g : Heap) (L : Addr) (m : Str → Option Value) (P : Value → Heap → Prop) (s : Shared) (v : Value) (s' : Shared) : Prop := ∃ h' tk', s' = { s with heap := h', toks := tk' } ∧ Fr g L h' m ∧ P v h'
theorem cut_fr {g : Heap} {L : Addr} {m : Str → Option Value} {M : Model} {x : Sem Value} (_ : Fr g L s.heap m) (P : Value → Heap → Prop) (h1 : wpAny M A x (CutAt g L m P s) E s)
   (h2 : ∀ v h' tk', Fr g L h' m → P v h' → Q v { s with heap := h', toks := tk' }) : wpAny M A x Q E s :=
  wpAny_mono h1 (fun v s' h => by obtain ⟨h', tk', rfl, F, p⟩ := h; exact h2 v h' tk' F p) fun _ _ e => e
theorem cut_st {g : Heap} {L : Addr} {m : Str → Option Value} {M : Model} {x : Sem Flow} {Q : Flow → Shared → Prop} (_ : Fr g L s.heap m) (P : Heap → Prop) (h1 : wpAny M A x (CutSt g L m P s) E s)
   (h2 : ∀ h' tk', Fr g L h' m → P h' → Q .next { s with heap := h', toks := tk' }) : wpAny M A x Q E s :=
  wpAny_mono h1 (fun f s' h => by obtain ⟨rfl, h', tk', rfl, F, p⟩ := h; exact h2 h' tk' F p) fun _ _ e => e
end
section
variable {prog : Program} {w : World} {A : Around} {E : Value → Shared → Prop} {s : Shared} {env : Env} {g : Heap} {x : Str} {Q : Value → Shared → Prop}
/-- the same, where the ledger may grow -/
theorem comp_gr {elt iter : PySem.Expr} {px pos : Pos} {scope : Scope} {cl : List (Str × Addr)} {I : Addr} {fp : List Addr} {n : Nat} {P : Nat → Value → Prop} {St : Nat → Heap → Prop} {L : Addr} {m : Str → Option Value} {μ : List (Addr × Obj)}
    (J : Nat → List Value → List (Addr × Obj) → Prop)
    (W : Walks prog w A I fp [I] n P St) (hI : I ∈ fp) (hst : St 0 s.heap) (hfp : ∀ b ∈ fp, b = I ∨ ∃ o, g.get? b = some o) (hIat : ∀ i h, St i h → ∃ o, h.get? I = some o) (hnew : g.get? I = none) (hIL : I ≠ L) (hsep : ∀ q ∈ μ, q.1 ≠ I) (hn : n ≤ 1000)
    (hcell : ∀ y ∈ scope.names, y.2 ≠ .cell) (hkind : scope.kind = .function) (hx : scope.names.lookup x = some .local)
    (F : Fr g L s.heap m) (N : News g L s.heap μ) (h0 : J 0 [] μ)
    (turn : ∀ i v acc μ₁ C κ oL h tk mC (Qt E' : Value → Shared → Prop), i < n → P i v → J i acc μ₁ → acc.length = i → Fr g C h mC → mC x = some v → News g C h (μ₁ ++ (L, oL) :: κ) → (∀ vs, oL.data ≠ .fields vs) → (∀ p ∈ κ, ∀ q ∈ μ₁, p.1 ≠ q.1) → (∀ q ∈ μ₁, L ≠ q.1) → C ≠ L →
      (∀ y h' tk' μ₂ mC', Fr g C h' mC' → News g C h' (μ₂ ++ (L, oL) :: κ) → (∀ p ∈ (L, oL) :: κ, ∀ q ∈ μ₂, p.1 ≠ q.1) → J (i + 1) (acc ++ [y]) μ₂ → Qt y { s with heap := h', toks := tk' }) →
      wpAny (model prog w) A (eval elt (compEnvC scope cl C env)) Qt E' { s with heap := h, toks := tk })
    (done : ∀ acc μ₁ h tk D nD, J n acc μ₁ → acc.length = n → (∀ p ∈ μ₁, p.1 ≠ D) → Fr g L h m → News g L h ((D, listOf acc.toArray nD) :: μ₁) → Q (.ref D) { s with heap := h, toks := tk }) :
    wpAny (model prog w) A (newList []) (fun acc s₃ => wpAny (model prog w) A (newFunctionEnv scope env.globals cl [] env.qual none .none (some env)) (fun cenv s₄ =>
      codeAny (model prog w) A (.compStart (.ListComp elt [⟨.Name x px, iter, [], 0⟩] scope pos) 0 (.ref I) acc { cenv with scope := relabel scope env }) (compPost (model prog w) A E none Q acc cenv.locals) s₄) E s₃) E s := by
  refine wpAny_newObj_type (wpAny_newFunctionEnv hcell (by intro y hy; simp at hy) (fun h₁ hns₁ hsb₁ => ?_) hkind)
  dsimp only at hns₁ hsb₁ ⊢
  generalize hH2 : s.heap.push { cls := .type "list", dict := none, data := .seq ([] : List Value).toArray } = H2 at hns₁ hsb₁ ⊢
  have hC : H2.objs.size = s.heap.objs.size + 1 := by rw [← hH2, Heap.size_push]
  generalize hD : s.heap.objs.size = D at hC ⊢
  generalize hCC : H2.objs.size = C at hC hns₁ hsb₁ ⊢
  have hDC : D ≠ C := by rw [hC]; exact Nat.ne_of_lt (Nat.lt_succ_self _)
  have lt : ∀ b o, s.heap.get? b = some o → (show Nat from b) < (show Nat from D) := fun b o e => by rw [← hD]; exact Heap.lt_size e
  have old : ∀ b o, s.heap.get? b = some o → h₁.get? b = some o := fun b o e => hsb₁.extBut b o (fun q => by have z := lt b o e; rw [q, hC] at z; exact absurd z (Nat.not_lt.mpr (Nat.le_succ _))) (Heap.get?_push_of_some _ (hH2 ▸ Heap.get?_push_of_some _ e))
  have hacc : h₁.get? D = some (listOf #[] 0) := by
    refine hsb₁.extBut _ _ hDC (Heap.get?_push_of_some _ (hH2 ▸ ?_))
    rw [← hD]; exact Heap.get?_push_size _ rfl
  obtain ⟨oL, esL, epL, hLat, hLd, hLr⟩ := id F.ns
  have hLlt := lt _ _ hLat
  have gnone : ∀ a, (show Nat from D) ≤ (show Nat from a) → g.get? a = none := fun a ha => by
    cases e : g.get? a with
    | none => rfl
    | some o => exact absurd (lt _ _ (F.keep _ _ e)) (Nat.not_lt.mpr ha)
  have hCF : Fr g C h₁ _ := ⟨hns₁, fun b o e => old b o (F.keep b o e), by rw [hC]; exact Nat.le_trans F.above (Nat.le_succ_of_le (Nat.le_of_lt hLlt))⟩
  have hIlt : (show Nat from I) < (show Nat from D) := by obtain ⟨o, ho⟩ := hIat _ _ hst; exact lt _ _ ho
  have hxC : (compEnvC scope cl C env).kindOf x = some .local := lookup_relabel_local hx
  have hDL : D ≠ L := fun q => by rw [q] at hLlt; exact Nat.lt_irrefl _ hLlt
  have hDI : D ≠ I := fun q => by rw [q] at hIlt; exact Nat.lt_irrefl _ hIlt
  have hCI : C ≠ I := fun q => by rw [← q, hC] at hIlt; exact absurd hIlt (Nat.not_lt.mpr (Nat.le_succ _))
  have hCL : C ≠ L := fun q => by rw [← q, hC] at hLlt; exact absurd hLlt (Nat.not_lt.mpr (Nat.le_succ _))
  have hμlt : ∀ q ∈ μ, (show Nat from q.1) < (show Nat from D) := fun q hq => lt _ _ (N q hq).1
  have sep : ∀ p ∈ μ, p.1 ≠ D ∧ p.1 ≠ C ∧ p.1 ≠ I ∧ p.1 ≠ L := fun p hp => by
    refine ⟨Nat.ne_of_lt (hμlt p hp), fun z => ?_, hsep p hp, (N p hp).2.1⟩
    have := hμlt p hp
    rw [z, hC] at this
    exact absurd this (Nat.not_lt.mpr (Nat.le_succ _))
  have loop : codeAny (model prog w) A (.compLoop (.ListComp elt [⟨.Name x px, iter, [], 0⟩] scope pos) 0 (.ref I) (.ref D) (compEnvC scope cl C env))
      (compPost (model prog w) A E none Q (.ref D) C) { s with heap := h₁, toks := s.toks + ([] : List (Str × Value)).length } := by
    refine codeAny_compLoop_tests (fun k s' => ∃ i acc μ₁ h tk mC nD, s' = { s with heap := h, toks := tk } ∧ k = n - i ∧ i ≤ n ∧ St i h ∧ Fr g C h mC ∧ News g C h ((D, listOf acc.toArray nD) :: (L, oL) :: μ₁) ∧ (∀ p ∈ μ₁, p.1 ≠ D ∧ p.1 ≠ C ∧ p.1 ≠ I ∧ p.1 ≠ L) ∧ J i acc μ₁ ∧ acc.length = i) ?_ n
      ⟨0, [], μ, h₁, _, _, 0, rfl, rfl, Nat.zero_le _, W.frame _ _ _ hst fun b _ o e => old b o e, hCF, ?_, sep, h0, rfl⟩
    · intro k s' hRp1
      with_reducible refine gen fun GG kGG => ?_
      obtain ⟨i, acc, μ₁, h, tk, mC, nD, rfl, rfl, hi, hSt, FC, NC, hμ, hJ, hlen⟩ := hRp1
      with_reducible refine kGG ?_
      clear kGG GG
      by_cases hlt : i < n
      · refine W.item i _ _ _ hlt hSt fun v h' tk' hP hSt' hk => ?_
        have FC' : Fr g C h' mC := ⟨FC.ns.at' fun o e => hk _ o (fun q => hCI (List.mem_singleton.mp q)) e, fun b o e => hk b o (fun q => by rw [List.mem_singleton.mp q, hnew] at e; cases e) (FC.keep b o e), FC.above⟩
        have NC' : News g C h' ((D, listOf acc.toArray nD) :: (L, oL) :: μ₁) := fun p hp => by
          refine ⟨hk _ _ (fun q => ?_) (NC p hp).1, (NC p hp).2⟩
          have q := List.mem_singleton.mp q
          rcases (List.mem_cons.mp hp) with rfl | hp
          · exact hDI q
          · rcases (List.mem_cons.mp hp) with rfl | hp
            · exact hIL q.symm
            · exact (hμ p hp).2.2.1 q
        refine wpAny_assign_Name (wpAny_storeName_local hxC FC'.ns (fun h₂ hn₂ hs₂ => ?_) (by simp [compEnvC, relabel, hkind]))
        have FC₂ := FC'.set hn₂ hs₂
        have NC₂ := NC'.set hs₂
        have hSt₂ : St (i + 1) h₂ := W.frame _ _ _ hSt' fun b hb o e => hs₂.extBut b o (fun q => by
          rcases hfp b hb with rfl | ⟨o', ho'⟩
          · exact hCI q.symm
          · rw [show b = C from q, fr_none FC] at ho'; cases ho') e
        with_reducible refine gen fun GG kGG => ?_
        obtain ⟨oI, hoI⟩ := hIat _ _ hSt₂
        with_reducible refine kGG ?_
        clear kGG GG
        simp only [List.forIn_nil]
        refine wpAny_pure ?_
        rw [if_pos rfl]
        have Nκ : News g C h₂ (μ₁ ++ (L, oL) :: [(D, listOf acc.toArray nD), (I, oI)]) := fun p hp => by
          refine all_app (fun p hp => ?_) (fun p hp => ?_) p hp
          · exact NC₂ p (.tail _ (.tail _ hp))
          · rcases (List.mem_cons.mp hp) with rfl | hp
            · exact NC₂ _ (.tail _ (.head _))
            · rcases (List.mem_cons.mp hp) with rfl | hp
              · exact NC₂ _ (.head _)
              · rw [List.mem_singleton.mp hp]; exact ⟨hoI, fun q => hCI q.symm, hnew⟩
        refine turn i v acc μ₁ C [(D, listOf acc.toArray nD), (I, oI)] oL h₂ _ _ _ _ hlt hP hJ hlen FC₂ (by simp) Nκ (fun vs q => by rw [hLd] at q; cases q) ?_ (fun q hq => (hμ q hq).2.2.2.symm) hCL (fun y h₃ tk₃ μ₂ mC' F₃ N₃ hμ₂ hJ' => ?_)
        · intro p hp q hq
          with_reducible refine gen fun GG kGG => ?_
          obtain ⟨z1, z2, z3, z4⟩ := hμ q hq
          with_reducible refine kGG ?_
          clear kGG GG
          rcases (List.mem_cons.mp hp) with rfl | hp
          · exact z1.symm
          · rw [List.mem_singleton.mp hp]; exact z3.symm
        · have N₄ : News g C h₃ ((D, listOf acc.toArray nD) :: (I, oI) :: (L, oL) :: μ₂) := fun p hp => by
            rcases (List.mem_cons.mp hp) with rfl | hp
            · exact N₃ _ (List.mem_append_right _ (.tail _ (.head _)))
            rcases (List.mem_cons.mp hp) with rfl | hp
            · exact N₃ _ (List.mem_append_right _ (.tail _ (.tail _ (.head _))))
            · rcases (List.mem_cons.mp hp) with rfl | hp
              · exact N₃ _ (List.mem_append_right _ (.head _))
              · exact N₃ _ (List.mem_append_left _ hp)
          have hI₃ := (N₃ (I, oI) (List.mem_append_right _ (.tail _ (.tail _ (.head _))))).1
          have hSt₃ : St (i + 1) h₃ := W.frame _ _ _ hSt₂ fun b hb o e => by
            rcases hfp b hb with rfl | ⟨o', ho'⟩
            · rw [hoI] at e; cases e; exact hI₃
            · have e2 := FC₂.keep _ _ ho'
              rw [e2] at e; cases e
              exact F₃.keep _ _ ho'
          refine append_K F₃ N₄ (.head fun p hp => ?_) (fun h₄ F₄ N₅ => ?_) (by rw [List.size_toArray, sizeLine_eq]; (first | lia | omega))
          · rcases (List.mem_cons.mp hp) with rfl | hp
            · exact hDI.symm
            rcases (List.mem_cons.mp hp) with rfl | hp
            · exact hDL.symm
            · exact (hμ₂ _ (.tail _ (.head _)) p hp).symm
          · refine ⟨n - (i + 1), by (first | lia | omega), i + 1, acc ++ [y], μ₂, h₄, _, mC', nD + 1, rfl, rfl, by (first | lia | omega), W.frame _ _ _ hSt₃ fun b hb o e => ?_, F₄, ?_, fun p hp => ⟨(hμ₂ _ (.tail _ (.head _)) p hp).symm, (N₃ p (List.mem_append_left _ hp)).2.1, (hμ₂ _ (.tail _ (.tail _ (.head _))) p hp).symm, (hμ₂ _ (.head _) p hp).symm⟩, hJ', by rw [List.length_append, hlen]; rfl⟩
            · rcases hfp b hb with rfl | ⟨o', ho'⟩
              · rw [hI₃] at e; cases e
                exact (N₅ (b, oI) (.tail _ (.head _))).1
              · have e2 := F₃.keep _ _ ho'
                rw [e2] at e; cases e
                exact F₄.keep _ _ ho'
            · intro p hp
              have N₆ : News g C h₄ ((D, listOf (acc ++ [y]).toArray (nD + 1)) :: (I, oI) :: (L, oL) :: μ₂) := by simpa using N₅
              rcases (List.mem_cons.mp hp) with rfl | hp
              · exact N₆ _ (.head _)
              · exact N₆ _ (.tail _ (.tail _ hp))
      · obtain rfl : i = n := by (first | lia | omega)
        refine W.done _ _ _ hSt fun h' tk' hk => ?_
        have FC' : Fr g C h' mC := ⟨FC.ns.at' fun o e => hk _ o (fun q => hCI (List.mem_singleton.mp q)) e, fun b o e => hk b o (fun q => by rw [List.mem_singleton.mp q, hnew] at e; cases e) (FC.keep b o e), FC.above⟩
        refine ⟨mC, FC'.ns, fun h'' hs => ?_⟩
        have kp : ∀ b o, b ≠ I → b ≠ C → h.get? b = some o → h''.get? b = some o := fun b o h1 h2 e => hs.extBut b o h2 (hk b o (fun q => h1 (List.mem_singleton.mp q)) e)
        have hLo := (NC (L, oL) (.tail _ (.head _))).1
        refine done acc μ₁ h'' tk' D nD hJ hlen (fun p hp => (hμ p hp).1) ⟨⟨oL, esL, epL, kp _ _ hIL.symm hCL.symm hLo, hLd, hLr⟩, fun b o e => kp b o (fun q => by rw [q, hnew] at e; cases e) (fun q => by rw [q, fr_none FC] at e; cases e) (FC.keep b o e), F.above⟩ fun p hp => ?_
        rcases (List.mem_cons.mp hp) with rfl | hp
        · exact ⟨kp _ _ hDI hDC (NC _ (.head _)).1, hDL, gnone _ (Nat.le_refl _)⟩
        · have z := NC p (.tail _ (.tail _ hp))
          with_reducible refine gen fun GG kGG => ?_
          obtain ⟨z1, z2, z3, z4⟩ := hμ p hp
          with_reducible refine kGG ?_
          clear kGG GG
          exact ⟨kp _ _ z3 z2 z.1, z4, z.2.2⟩
    · intro p hp
      rcases (List.mem_cons.mp hp) with rfl | hp
      · exact ⟨hacc, hDC, gnone _ (Nat.le_refl _)⟩
      · rcases (List.mem_cons.mp hp) with rfl | hp
        · exact ⟨old _ _ hLat, hCL.symm, fr_none F⟩
        · exact ⟨old _ _ (N p hp).1, (sep p hp).2.1, (N p hp).2.2⟩
  have hst₁ : St 0 h₁ := W.frame _ _ _ hst fun b _ o e => old b o e
  exact codeAny_compStart_list loop (W.self 0 _ _ _ hst₁ loop)

theorem comp_grRange {elt iter : PySem.Expr} {px pos : Pos} {scope : Scope} {cl : List (Str × Addr)} {r : Addr} {a₀ b₀ : Int} {t₀ u₀ v₀ : Tok} {n : Nat} {L : Addr} {m : Str → Option Value} {μ : List (Addr × Obj)}
    (J : Nat → List Value → List (Addr × Obj) → Prop) (hh : A.handled = none) (hr : IsRange s.heap r a₀ b₀ 1 t₀ u₀ v₀) (hsmall : Builtin.Range.small a₀ b₀ 1 = true) (hrn : Builtin.Range.rangeSize a₀ b₀ 1 = (n : Int)) (hn : n ≤ 1000)
    (hcell : ∀ y ∈ scope.names, y.2 ≠ .cell) (hkind : scope.kind = .function) (hx : scope.names.lookup x = some .local)
    (F : Fr g L s.heap m) (N : News g L s.heap μ) (h0 : J 0 [] μ)
    (turn : ∀ i t acc μ₁ C κ oL h tk mC (Qt E' : Value → Shared → Prop), i < n → J i acc μ₁ → acc.length = i → Fr g C h mC → mC x = some (.int (a₀ + (i : Int)) t) → News g C h (μ₁ ++ (L, oL) :: κ) → (∀ vs, oL.data ≠ .fields vs) → (∀ p ∈ κ, ∀ q ∈ μ₁, p.1 ≠ q.1) → (∀ q ∈ μ₁, L ≠ q.1) → C ≠ L →
      (∀ y h' tk' μ₂ mC', Fr g C h' mC' → News g C h' (μ₂ ++ (L, oL) :: κ) → (∀ p ∈ (L, oL) :: κ, ∀ q ∈ μ₂, p.1 ≠ q.1) → J (i + 1) (acc ++ [y]) μ₂ → Qt y { s with heap := h', toks := tk' }) →
      wpAny (model prog w) A (eval elt (compEnvC scope cl C env)) Qt E' { s with heap := h, toks := tk })
    (done : ∀ acc μ₁ h tk D nD, J n acc μ₁ → acc.length = n → (∀ p ∈ μ₁, p.1 ≠ D) → Fr g L h m → News g L h ((D, listOf acc.toArray nD) :: μ₁) → Q (.ref D) { s with heap := h, toks := tk }) :
    wpAny (model prog w) A (pyIter (.ref r)) (fun it s₂ => wpAny (model prog w) A (newList []) (fun acc s₃ => wpAny (model prog w) A (newFunctionEnv scope env.globals cl [] env.qual none .none (some env)) (fun cenv s₄ =>
      codeAny (model prog w) A (.compStart (.ListComp elt [⟨.Name x px, iter, [], 0⟩] scope pos) 0 it acc { cenv with scope := relabel scope env }) (compPost (model prog w) A E none Q acc cenv.locals) s₄) E s₃) E s₂) E s := by
  refine wpAny_pyIter_range hr hsmall ?_
  have W := Walks.range (prog := prog) (w := w) hh s.heap.objs.size a₀ 1 n
  refine comp_gr J W (.head _) (by show IsRangeIter _ _ _ _ _; rw [hrn]; simpa using Heap.get?_push_size _ rfl) ?_ (fun i h hs => ⟨_, hs⟩) (next_is_new F) (Nat.ne_of_gt F.ns.lt) (fun q hq => Nat.ne_of_lt (Heap.lt_size (N q hq).1)) hn hcell hkind hx (F.push _) (fun p hp => ⟨Heap.get?_push_of_some _ (N p hp).1, (N p hp).2⟩) h0 ?_ done
  · intro b hb
    rw [List.mem_singleton.mp hb]; exact .inl rfl
  · intro i v acc μ₁ C κ oL h tk mC Qt E' hi hRp1
    with_reducible refine gen fun GG kGG => ?_
    obtain ⟨t, rfl⟩ := hRp1
    with_reducible refine kGG ?_
    clear kGG GG
    rw [Int.mul_one]
    exact turn i t acc μ₁ C κ oL h tk mC Qt E' hi
end
theorem range_sizeA (a : Int) (n : Nat) : Builtin.Range.rangeSize a (a + (n : Int)) 1 = (n : Int) := by unfold Builtin.Range.rangeSize; split <;> (try split) <;> (first | lia | omega)
theorem range_smallA {a : Int} {n : Nat} (h0 : -1000 ≤ a) (h1 : a ≤ 1000000) (h : n ≤ 1000000) : Builtin.Range.small a (a + (n : Int)) 1 = true := by
  unfold Builtin.Range.small Builtin.Range.rangeFitsLong
  rw [range_sizeA]
  simp
  (first | lia | omega)
section
variable {prog : Program} {w : World} {A : Around} {s : Shared} {E : Value → Shared → Prop}
end
section
section
variable {prog : Program} {w : World} {mg mb : Str → Option Value} {A : Around} {s : Shared} {Q E : Value → Shared → Prop}
theorem blk_tup {g h : Heap} {L a : Addr} {m : Str → Option Value} {μ ν : List (Addr × Obj)} {its : Array Value} (T : ∀ H, g.StaysIn H → Blk H ν → IsTup H a its) (F : Fr g L h m) (N : News g L h μ) (hs : ∀ p ∈ ν, p ∈ μ) : IsTup h a its :=
  T h F.keep fun p hp => (N p (hs p hp)).1
local macro_rules | `(tactic| walk_at "m_tup") => `(tactic| first | assumption | exact IsTup.keeps (by assumption) (Fr.keep (by assumption)) | exact News.isTup (by assumption) (by k_mem) | exact blk_tup (by assumption) (by assumption) (by assumption) (by intro p hp; repeat (first | exact hp | apply List.Mem.tail)))
theorem blk_more {g : Heap} {ν ν' : List (Addr × Obj)} {P : Heap → Prop} (T : ∀ H, g.StaysIn H → Blk H ν → P H) : ∀ H, g.StaysIn H → Blk H (ν ++ ν') → P H := fun H k b => T H k fun p hp => b p (List.mem_append_left _ hp)
theorem blk_more' {g : Heap} {ν ν' : List (Addr × Obj)} {P : Heap → Prop} (T : ∀ H, g.StaysIn H → Blk H ν → P H) : ∀ H, g.StaysIn H → Blk H (ν' ++ ν) → P H := fun H k b => T H k fun p hp => b p (List.mem_append_right _ hp)
theorem undef_of {y : Vl} (h : y.tag = 0) : y = .undef := by cases y <;> first | rfl | (exfalso; revert h; simp [Vl.tag])
theorem told_not {y : Vl} (h : y.tag ≠ 0) (d : Str) (t : Vl → Str) : told d t y = t y := by cases y <;> first | rfl | exact absurd rfl h
theorem ftold_not {y : Vl} (h : y.tag ≠ 0) (t : Vl → Nat) : ftold t y = t y := by cases y <;> first | rfl | exact absurd rfl h
theorem news4 {g h : Heap} {L : Addr} {μ ν : List (Addr × Obj)} {a b c d : Addr × Obj} (N : News g L h μ) (ha : a ∈ μ) (hb : b ∈ μ) (hc : c ∈ μ) (hd : d ∈ μ) (hν : ∀ p ∈ ν, p ∈ μ) : News g L h (a :: b :: c :: d :: ν) := fun p hp => by
  refine all_cons ?_ (fun p hp => ?_) p hp
  · exact N _ ha
  refine all_cons ?_ (fun p hp => ?_) p hp
  · exact N _ hb
  refine all_cons ?_ (fun p hp => ?_) p hp
  · exact N _ hc
  refine all_cons ?_ (fun p hp => ?_) p hp
  · exact N _ hd
  exact N _ (hν p hp)
theorem err_join (x1 x2 : Str) : Str.join (Str.ofString ": ") ([x1, x2].filter fun x => x != Str.ofString "") = err x1 x2 := by
  unfold err
  by_cases h1 : x1 = Str.ofString ""
  · by_cases h2 : x2 = Str.ofString ""
    · subst h1; subst h2; decide +kernel
    · subst h1
      rw [if_neg h2, if_pos rfl, List.filter_cons_of_neg (by simp), List.filter_cons_of_pos (by simpa using h2)]
      rfl
  · by_cases h2 : x2 = Str.ofString ""
    · subst h2
      rw [if_pos rfl, List.filter_cons_of_pos (by simpa using h1), List.filter_cons_of_neg (by simp)]
      rfl
    · rw [if_neg h2, if_neg h1, List.filter_cons_of_pos (by simpa using h1), List.filter_cons_of_pos (by simpa using h2)]
      rfl
theorem strs_filter (x1 x2 : Str) (t1 t2 : Tok) : StrsAre ((#[Value.str x1 t1, .str x2 t2] : Array Value).toList.filter fun v => match v with | .str x _ => x != Str.ofString "" | _ => true) ([x1, x2].filter fun x => x != Str.ofString "") := by
  show StrsAre (List.filter _ [Value.str x1 t1, .str x2 t2]) _
  simp only [List.filter]
  cases (x1 != Str.ofString "") <;> cases (x2 != Str.ofString "") <;> repeat constructor
theorem paired_eq : ∀ {l m : List Value}, Paired (fun a b => b = a) l m → m = l
  | _, _, .nil => rfl
  | _, _, .cons h t => by rw [h, paired_eq t]
theorem made_news {g h h' : Heap} {L a : Addr} {o : Obj} {m : Str → Option Value} (F : Fr g L h m) (M : Made h h' a o) : News g L h' [(a, o)] := News.made F News.nil M

theorem near_in {g : Heap} {L wd ra : Addr} {m : Str → Option Value} {μ : List (Addr × Obj)} {o : Obj} {rows : List Rw} {qs : List Raw} {d u z k : Nat} {tf t1 t2 : Tok} {n : Str}
   (C : Cb w mg mb A g L d u) (hd : 1 ≤ d) (hu : 3 ≤ u) (F : Fr g L s.heap m) (N : News g L s.heap μ) (hm : (wd, o) ∈ μ)
   (hdo : o.IsDictOf (PySem.strKind prog w) [(Str.ofString "rows", .ref ra), (Str.ofString "far", .int (z : Int) tf)]) (hw2 : (wd == sysModules) = false) (H : RowsAt prog w g ra qs rows) (W : WFR rows) (hk : k < rows.length) (hn : n = Str.ofString "name" ∨ n = Str.ofString "message")
   (hQ : ∀ h' tk' c ν t t', Fr g L h' m → News g L h' μ → News g L h' ν → (∀ H, g.StaysIn H → Blk H ν → IsTup H c ([.int (near rows k n).tag t, (near rows k n).pay t'] : List Value).toArray) → (near rows k n ≠ .undef → ValAt g (.ref c) (near rows k n)) → (∀ p ∈ ν, p.1 ≠ wd) → Q (.ref c) { s with heap := h', toks := tk' }) :
   wpAny (model prog w) A (call (.ref 304) [.ref wd, .int (k : Int) t2, .str n t1]) Q E s := by
  refine lnear_spec (h₀ := g) F.keep hn ⟨⟨tf, Heap.dictOf_iff.mpr ⟨o, (N _ hm).1, hdo⟩⟩, hw2⟩ H W hk (Cb.at0 C F hd hu) ?_ ?_
  · intro h' tk' c t t' hc S
    repeat ((((fail_if_success (with_reducible show wpAny _ _ _ _ _ _)); (refine (‹∀ (x : _) (y : Shared), _ → _›) _ _ ?_); (try dsimp only))))
    exact hQ h' tk' c [] t t' (Fr.st0 F S) (News.st0 N S) News.nil (fun H k _ => hc.keeps k) (fun _ => ⟨c, t, t', rfl, hc⟩) (fun p h => nomatch h)
  · intro hu h' tk' c t t' M
    repeat ((((fail_if_success (with_reducible show wpAny _ _ _ _ _ _)); (refine (‹∀ (x : _) (y : Shared), _ → _›) _ _ ?_); (try dsimp only))))
    refine hQ h' tk' c [(c, tupOf [.int 0 t, .int 0 t'])] t t' (Fr.st0 F M.1) (News.st0 N M.1) (made_news F M) (fun H k b => ?_) (fun q => absurd hu q) (fun p h q => ?_)
    · rw [hu]
      exact ⟨_, b _ (.head _), rfl, _, rfl⟩
    · rw [List.mem_singleton.mp h] at q
      have := M.2.1
      rw [show c = wd from q, (N _ hm).1] at this; cases this
theorem law_thing_err {rows : List Rw} {f : Nat} {wd ra p : Addr} {qs : List Raw} {vs : List Value} {ns : List Int} {z k : Nat} {sep : Str} {t1 t2 : Tok} (ih : LTX prog w mg mb rows f) (W : WFR rows) (B : Bd rows)
   (H : RowsAt prog w (hideAll s.heap [wd]) ra qs rows) (hk : k < rows.length) {r : Rw} (hr : rows[k]? = some r) (hs : r.sort = 3) (hw : WAt prog w s.heap wd ra z) (hp : (hideAll s.heap [wd]).IsList p vs.toArray) (hi : IntsAre vs ns) (hf : free rows ns < f + 1) (hl : ns.length + f + 1 ≤ 200) (hsep : sep.length ≤ 2)
   (C0 : Cx w mg mb A s.heap [wd] (2 * f + 5) (6 * f + 15))
   (hQ : ∀ h' tk' t, Stays [wd] s.heap h' → WAt prog w h' wd ra (max z (fthg (far rows f) rows k ns)) → Q (.str (thg (txt rows f) rows k ns sep) t) { s with heap := h', toks := tk' }) :
   wpAny (model prog w) A (call (.ref 316) [.ref wd, .int (k : Int) t1, .ref p, .str sep t2]) Q E s := by
  refine call_ruleC (d := 2 * f + 4) (u := 6 * f + 12) (binds := [(Str.ofString "w", .ref wd), (Str.ofString "k", .int (k : Int) t1), (Str.ofString "path", .ref p), (Str.ofString "sep", .str sep t2)]) C0 (by k_is) (by k_is) (BindsTo.of_eq rfl) (by rfl) (by decide +kernel) (fun L h₁ tk cells F N Y hkeep hcn C => ?_)
  with_reducible refine hideQ fun KK hKK => ?_
  have X := C.X
  have T := C.T
  with_reducible refine gen fun GG kGG => ?_
  obtain ⟨o1, o2, rfl, e1, e2⟩ := CellsAre.two Y
  with_reducible refine kGG ?_
  clear kGG GG
  have e1' : o1.data = .cell (some (.ref p)) := e1
  have e2' : o2.data = .cell (some (.ref wd)) := e2
  with_reducible refine gen fun GG kGG => ?_
  obtain ⟨⟨tf, hw1⟩, hw2⟩ := hw
  obtain ⟨ow, hwo, hwd⟩ := Heap.dictOf_iff.mp hw1
  with_reducible refine kGG ?_
  clear kGG GG
  have hcw : ∀ q ∈ [(L + 1 + 1, o1), (L + 1, o2)], q.1 ≠ wd := fun q hq z => by have := hcn q hq; rw [z, hwo] at this; cases this
  have hw3 : L + 1 + 1 ≠ wd := hcw _ (.head _)
  have hw4 : L + 1 ≠ wd := hcw _ (.tail _ (.head _))
  have N2 : News (hideAll s.heap [wd]) L h₁ [(L + 1 + 1, o1), (L + 1, o2), (wd, ow)] := fun q hq => by
    refine all_cons ?_ (fun q hq => ?_) q hq
    · exact N _ (.head _)
    refine all_cons ?_ (fun q hq => ?_) q hq
    · exact N _ (.tail _ (.head _))
    rw [List.mem_singleton.mp hq]
    exact ⟨(hkeep _ _ hwo).1, (hkeep _ _ hwo).2, hideAll_none _ (.head _)⟩
  clear N hcw e1 e2 Y hkeep hcn
  with_reducible refine gen fun GG kGG => ?_
  obtain ⟨xs, a4, a5, a6, a7⟩ := id H.ex
  obtain ⟨x, hx⟩ : ∃ x, xs[k]? = some x := ⟨_, List.getElem?_eq_getElem (by first | exact Nat.le_of_ble_eq_true rfl | assumption | (first | lia | omega))⟩
  obtain ⟨q, hq⟩ : ∃ q, qs[k]? = some q := ⟨_, List.getElem?_eq_getElem (by first | exact Nat.le_of_ble_eq_true rfl | assumption | (first | lia | omega))⟩
  with_reducible refine kGG ?_
  clear kGG GG
  have hx' : (xs.map Value.ref)[((k : Nat) : Int).toNat]? = some (.ref x) := by rw [Int.toNat_natCast, List.getElem?_map, hx]; rfl
  have hT := a7 _ _ _ _ hx hq hr
  have hl100 := W.len
  have hk63 : (k : Int) < 2 ^ 63 := by (first | lia | omega)
  with_reducible refine gen fun GG kGG => ?_
  obtain ⟨it, ot, u1, u2, d1, d2, d3, d4, d5⟩ := id hT.ex
  with_reducible refine kGG ?_
  clear kGG GG
  have hfin : ∀ {h' : Heap} {m : Str → Option Value} {μ : List (Addr × Obj)} {ow' : Obj} {tk : Nat} {t tf : Tok} {z' : Nat} {r : Str}, z' = max z (fthg (far rows f) rows k ns) → r = thg (txt rows f) rows k ns sep → Fr (hideAll s.heap [wd]) L h' m → News (hideAll s.heap [wd]) L h' μ → (wd, ow') ∈ μ → ow'.IsDictOf (PySem.strKind prog w) [(Str.ofString "rows", .ref ra), (Str.ofString "far", .int (z' : Int) tf)] → Q (.str r t) { s with heap := h', toks := tk } := by
    rintro h' m μ ow' tk t tf z' r rfl rfl F N hm hd
    repeat ((((fail_if_success (with_reducible show wpAny _ _ _ _ _ _)); (refine (‹∀ (x : _) (y : Shared), _ → _›) _ _ ?_); (try dsimp only))))
    exact hQ _ _ _ (Fr.out F) ⟨⟨tf, Heap.dictOf_iff.mpr ⟨ow', (N _ hm).1, hd⟩⟩, hw2⟩
  rw [hs] at d1
  by_cases hin : ns.any (· == (k : Int)) = true
  · have hkn : (k : Int) ∈ ns := by
      with_reducible refine gen fun GG kGG => ?_
      obtain ⟨y, hy, e⟩ := List.any_eq_true.mp hin
      with_reducible refine kGG ?_
      clear kGG GG
      rw [← (beq_iff_eq.mp e)]; exact hy
    have ef : fthg (far rows f) rows k ns = 0 := by unfold fthg; rw [hr]; simp only [hs, hkn, if_true]; rfl
    have et : Str.ofString "" = thg (txt rows f) rows k ns sep := by unfold thg; rw [hr]; simp only [hs, hkn, if_true]; rfl
    (((repeat' ((fail_if_success ((with_reducible (first | (show wpAny _ _ (exec (Stmt.While _ _ _ _) _) _ _ _) | (show wpAny _ _ (exec (Stmt.For _ _ _ _ _) _) _ _ _) | (show wpAny _ _ (eval (PySem.Expr.ListComp _ _ _ _) _) _ _ _) | (show wpAny _ _ (exec (Stmt.Try _ _ _ _ _) _) _ _ _))))); (first | walk1 | (dsimp only; walk1) | (k_unfold; (try dsimp only)) | (refine hKS _ _ ?_; clear hKS KS; (try dsimp only))))); (all_goals (try dsimp only)); (all_goals (repeat ((((fail_if_success (with_reducible show wpAny _ _ _ _ _ _)); (refine (‹∀ (x : _) (y : Shared), _ → _›) _ _ ?_); (try dsimp only))))))))
    repeat ((((fail_if_success (with_reducible show wpAny _ _ _ _ _ _)); (refine (‹∀ (x : _) (y : Shared), _ → _›) _ _ ?_); (try dsimp only))))
    exact hfin (by first | exact Nat.le_of_ble_eq_true rfl | assumption | (first | lia | omega)) et (by assumption) (by assumption) (by k_mem) hwd
  · have hkn : (k : Int) ∉ ns := fun z => hin (List.any_eq_true.mpr ⟨_, z, beq_self_eq_true _⟩)
    (((repeat' ((fail_if_success ((with_reducible (first | (show wpAny _ _ (exec (Stmt.While _ _ _ _) _) _ _ _) | (show wpAny _ _ (exec (Stmt.For _ _ _ _ _) _) _ _ _) | (show wpAny _ _ (eval (PySem.Expr.ListComp _ _ _ _) _) _ _ _) | (show wpAny _ _ (exec (Stmt.Try _ _ _ _ _) _) _ _ _))))); (first | walk1 | (dsimp only; walk1) | (k_unfold; (try dsimp only)) | (refine hKS _ _ ?_; clear hKS KS; (try dsimp only))))); (all_goals (try dsimp only)); (all_goals (repeat ((((fail_if_success (with_reducible show wpAny _ _ _ _ _ _)); (refine (‹∀ (x : _) (y : Shared), _ → _›) _ _ ?_); (try dsimp only))))))))
    rename_i _ lA _ fA D ws _ F N hI fD
    have hDw : D ≠ wd := Nat.ne_of_gt fD.2.2.2
    have hDp : D ≠ L + 1 + 1 := Nat.ne_of_gt fD.2.1
    have hD1 : D ≠ L + 1 := Nat.ne_of_gt fD.2.2.1
    refine st_cell F N (by rfl) (.tail _ (.tail _ (.head _))) e1' (fun h' o1' F' Nf hd1 => ?_) (by rfl) (by rfl)
    have N' := Nf [(D, _), (L + 1, o2), (wd, ow)] (fun q hq => by
      refine all_cons ?_ (fun q hq => ?_) q hq
      · exact .head _
      · refine all_cons ?_ (fun q hq => ?_) q hq
        · exact .tail _ (.tail _ (.tail _ (.head _)))
        · rw [List.mem_singleton.mp hq]; exact .tail _ (.tail _ (.tail _ (.tail _ (.head _))))) (fun q hq => by
      refine all_cons ?_ (fun q hq => ?_) q hq
      · exact hDp
      · refine all_cons ?_ (fun q hq => ?_) q hq
        · exact Nat.ne_of_lt (Nat.lt_succ_self _)
        · rw [List.mem_singleton.mp hq]; exact hw3.symm)
    clear N F Nf e1'
    have hws := IntsAre.length hI
    rw [List.length_append] at hws
    have hws2 : ws.length = ns.length + 1 := hws
    (((repeat' ((fail_if_success ((with_reducible (first | (show wpAny _ _ (exec (Stmt.While _ _ _ _) _) _ _ _) | (show wpAny _ _ (exec (Stmt.For _ _ _ _ _) _) _ _ _) | (show wpAny _ _ (eval (PySem.Expr.ListComp _ _ _ _) _) _ _ _) | (show wpAny _ _ (exec (Stmt.Try _ _ _ _ _) _) _ _ _))))); (first | walk1 | (dsimp only; walk1) | (k_unfold; (try dsimp only)) | (refine hKS _ _ ?_; clear hKS KS; (try dsimp only))))); (all_goals (try dsimp only)); (all_goals (repeat ((((fail_if_success (with_reducible show wpAny _ _ _ _ _ _)); (refine (‹∀ (x : _) (y : Shared), _ → _›) _ _ ?_); (try dsimp only))))))))
    rename Fr _ _ _ _ => F
    rename News _ _ _ _ => N
    rename Obj.IsDictOf _ _ _ => hd3
    have e := if_max ns.length z
    rw [e] at hd3
    refine near_in (rows := rows) (z := _) C (by first | exact Nat.le_of_ble_eq_true rfl | assumption | (first | lia | omega)) (by first | exact Nat.le_of_ble_eq_true rfl | assumption | (first | lia | omega)) F N (by k_mem) hd3 hw2 H W hk (.inl rfl) (fun h₂ tk₂ c1 ν1 t1 t1' F' N' Nν hT1 hV1 hne1 => ?_)
    clear F N
    have F := F'
    have N := News.append N' Nν
    clear F' N' Nν
    dsimp only [List.cons_append, List.nil_append] at N
    (((repeat' ((fail_if_success ((with_reducible (first | (show wpAny _ _ (exec (Stmt.While _ _ _ _) _) _ _ _) | (show wpAny _ _ (exec (Stmt.For _ _ _ _ _) _) _ _ _) | (show wpAny _ _ (eval (PySem.Expr.ListComp _ _ _ _) _) _ _ _) | (show wpAny _ _ (exec (Stmt.Try _ _ _ _ _) _) _ _ _))))); (first | walk1 | (dsimp only; walk1) | (k_unfold; (try dsimp only)) | (refine hKS _ _ ?_; clear hKS KS; (try dsimp only))))); (all_goals (try dsimp only)); (all_goals (repeat ((((fail_if_success (with_reducible show wpAny _ _ _ _ _ _)); (refine (‹∀ (x : _) (y : Shared), _ → _›) _ _ ?_); (try dsimp only))))))))
    rename Fr _ _ _ _ => F
    rename News _ _ _ _ => N
    refine near_in (rows := rows) (z := _) C (by first | exact Nat.le_of_ble_eq_true rfl | assumption | (first | lia | omega)) (by first | exact Nat.le_of_ble_eq_true rfl | assumption | (first | lia | omega)) F N (by k_mem) hd3 hw2 H W hk (.inr rfl) (fun h₂ tk₂ c2 ν2 t2 t2' F' N' Nν hT2 hV2 hne2 => ?_)
    clear F N
    have F := F'
    have N := News.append N' Nν
    clear F' N' Nν
    dsimp only [List.cons_append, List.nil_append] at N
    replace hT1 := blk_more (ν' := ν2) hT1
    replace hT2 := blk_more' (ν' := ν1) hT2
    have hne : ∀ p ∈ ν1 ++ ν2, p.1 ≠ wd := fun p hp => (List.mem_append.mp hp).elim (hne1 p) (hne2 p)
    generalize hν : ν1 ++ ν2 = ν at N hT1 hT2 hne
    clear hν
    (((repeat' ((fail_if_success ((with_reducible (first | (show wpAny _ _ (eval (PySem.Expr.IfExp _ _ _ _) _) _ _ _) | (show wpAny _ _ (eval (PySem.Expr.ListComp _ _ _ _) _) _ _ _))))); (first | walk1 | (dsimp only; walk1) | (k_unfold; (try dsimp only)) | (refine hKS _ _ ?_; clear hKS KS; (try dsimp only))))); (all_goals (try dsimp only)); (all_goals (repeat ((((fail_if_success (with_reducible show wpAny _ _ _ _ _ _)); (refine (‹∀ (x : _) (y : Shared), _ → _›) _ _ ?_); (try dsimp only))))))))
    rename Fr _ _ _ _ => F
    rename News _ _ _ _ => N
    rename_i oW _ _
    have hfr2 := free_lt hk hkn
    have hlen2 : (ns ++ [(k : Int)]).length = ns.length + 1 := by simp
    have ok1 := near_ok W k (Str.ofString "name")
    have ok2 := near_ok W k (Str.ofString "message")
    with_reducible refine gen fun GG kGG => ?_
    obtain ⟨y1, hy1⟩ : ∃ y, y = near rows k (Str.ofString "name") := ⟨_, rfl⟩
    obtain ⟨y2, hy2⟩ : ∃ y, y = near rows k (Str.ofString "message") := ⟨_, rfl⟩
    with_reducible refine kGG ?_
    clear kGG GG
    rw [← hy1] at hT1 hV1 ok1
    rw [← hy2] at hT2 hV2 ok2
    refine cut_fr F (fun v h' => ∃ t o' tf', v = .str (told (Str.ofString "Error") (fun v => txt rows f v (ns ++ [(k : Int)])) y1) t ∧ News (hideAll s.heap [wd]) L h' ((L + 1 + 1, o1') :: (D, listOf ws.toArray 0) :: (L + 1, o2) :: (wd, o') :: ν) ∧
      o'.IsDictOf (PySem.strKind prog w) [(Str.ofString "rows", .ref ra), (Str.ofString "far", .int ((max (max z (ns.length + 1)) (ftold (fun v => far rows f v (ns ++ [(k : Int)])) y1) : Nat) : Int) tf')]) ?_ ?_
    · (((repeat' ((fail_if_success ((with_reducible (first | (show wpAny _ _ (exec (Stmt.While _ _ _ _) _) _ _ _) | (show wpAny _ _ (exec (Stmt.For _ _ _ _ _) _) _ _ _) | (show wpAny _ _ (eval (PySem.Expr.ListComp _ _ _ _) _) _ _ _) | (show wpAny _ _ (exec (Stmt.Try _ _ _ _ _) _) _ _ _))))); (first | walk1 | (dsimp only; walk1) | (k_unfold; (try dsimp only)) | (refine hKS _ _ ?_; clear hKS KS; (try dsimp only))))); (all_goals (try dsimp only)); (all_goals (repeat ((((fail_if_success (with_reducible show wpAny _ _ _ _ _ _)); (refine (‹∀ (x : _) (y : Shared), _ → _›) _ _ ?_); (try dsimp only))))))))
      · rename Fr _ _ _ _ => F
        rename News _ _ _ _ => N
        rename y1.tag = 0 => h0
        obtain rfl := undef_of h0
        rw [show max (max z (ns.length + 1)) (ftold (fun v => far rows f v (ns ++ [(k : Int)])) .undef) = (max z (ns.length + 1)) from Nat.max_eq_left (Nat.zero_le _)]
        exact ⟨_, _, rfl, F, _, _, _, rfl, news4 N (by k_mem) (by k_mem) (by k_mem) (by k_mem) (by intro p hp; repeat (first | exact hp | apply List.Mem.tail)), hd3⟩
      · rename Fr _ _ _ _ => F
        rename News _ _ _ _ => N
        rename y1.tag ≠ 0 => h0
        refine lt_in (x := y1) (z := _) ih C F N (o := _) (by k_mem) hd3 hw2 H (hV1 (fun q => h0 (by rw [q]; rfl))) ok1 (News.isList N (by k_mem)) hDw hI (by first | exact Nat.le_of_ble_eq_true rfl | assumption | (first | lia | omega)) (by first | exact Nat.le_of_ble_eq_true rfl | assumption | (first | lia | omega)) (by first | exact Nat.le_of_ble_eq_true rfl | assumption | (first | lia | omega)) (by first | exact Nat.le_of_ble_eq_true rfl | assumption | (first | lia | omega)) (fun h₃ tk₃ t₃ o₃ tf₃ F' Nf hd4 => ?_)
        rw [told_not h0, ftold_not h0]
        refine ⟨_, _, rfl, F', _, o₃, tf₃, rfl, ?_, hd4⟩
        have N4 := Nf ((L + 1 + 1, o1') :: (D, listOf ws.toArray 0) :: (L + 1, o2) :: ν) (fun q hq => by (rcases List.mem_cons.mp hq with rfl | hq; (k_mem); (rcases List.mem_cons.mp hq with rfl | hq; (k_mem); (rcases List.mem_cons.mp hq with rfl | hq; (k_mem); (repeat (first | exact hq | apply List.Mem.tail)))))) (fun q hq => by (rcases List.mem_cons.mp hq with rfl | hq; (exact hw3); (rcases List.mem_cons.mp hq with rfl | hq; (exact hDw); (rcases List.mem_cons.mp hq with rfl | hq; (exact hw4); (exact hne q hq)))))
        exact news4 N4 (.tail _ (.head _)) (.tail _ (.tail _ (.head _))) (.tail _ (.tail _ (.tail _ (.head _)))) (.head _) (fun p hp => .tail _ (.tail _ (.tail _ (.tail _ hp))))
    · intro v h' tk' F' hRp1
      with_reducible refine gen fun GG kGG => ?_
      obtain ⟨t, o', tf', rfl, N', hd4⟩ := hRp1
      with_reducible refine kGG ?_
      clear kGG GG
      clear F N
      have F := F'
      have N := N'
      clear F' N' hd3
      have hd3 := hd4
      clear hd4
      generalize hX1 : told (Str.ofString "Error") (fun v => txt rows f v (ns ++ [(k : Int)])) y1 = x1
      (((repeat' ((fail_if_success ((with_reducible (first | (show wpAny _ _ (eval (PySem.Expr.IfExp _ _ _ _) _) _ _ _) | (show wpAny _ _ (eval (PySem.Expr.ListComp _ _ _ _) _) _ _ _))))); (first | walk1 | (dsimp only; walk1) | (k_unfold; (try dsimp only)) | (refine hKS _ _ ?_; clear hKS KS; (try dsimp only))))); (all_goals (try dsimp only)); (all_goals (repeat ((((fail_if_success (with_reducible show wpAny _ _ _ _ _ _)); (refine (‹∀ (x : _) (y : Shared), _ → _›) _ _ ?_); (try dsimp only))))))))
      rename Fr _ _ _ _ => F
      rename News _ _ _ _ => N
      refine cut_fr F (fun v h' => ∃ t o' tf', v = .str (told (Str.ofString "") (fun v => txt rows f v (ns ++ [(k : Int)])) y2) t ∧ News (hideAll s.heap [wd]) L h' ((L + 1 + 1, o1') :: (D, listOf ws.toArray 0) :: (L + 1, o2) :: (wd, o') :: ν) ∧
        o'.IsDictOf (PySem.strKind prog w) [(Str.ofString "rows", .ref ra), (Str.ofString "far", .int ((max (max (max z (ns.length + 1)) (ftold (fun v => far rows f v (ns ++ [(k : Int)])) y1)) (ftold (fun v => far rows f v (ns ++ [(k : Int)])) y2) : Nat) : Int) tf')]) ?_ ?_
      · (((repeat' ((fail_if_success ((with_reducible (first | (show wpAny _ _ (exec (Stmt.While _ _ _ _) _) _ _ _) | (show wpAny _ _ (exec (Stmt.For _ _ _ _ _) _) _ _ _) | (show wpAny _ _ (eval (PySem.Expr.ListComp _ _ _ _) _) _ _ _) | (show wpAny _ _ (exec (Stmt.Try _ _ _ _ _) _) _ _ _))))); (first | walk1 | (dsimp only; walk1) | (k_unfold; (try dsimp only)) | (refine hKS _ _ ?_; clear hKS KS; (try dsimp only))))); (all_goals (try dsimp only)); (all_goals (repeat ((((fail_if_success (with_reducible show wpAny _ _ _ _ _ _)); (refine (‹∀ (x : _) (y : Shared), _ → _›) _ _ ?_); (try dsimp only))))))))
        · rename Fr _ _ _ _ => F
          rename News _ _ _ _ => N
          rename y2.tag = 0 => h0
          obtain rfl := undef_of h0
          rw [show max (max (max z (ns.length + 1)) (ftold (fun v => far rows f v (ns ++ [(k : Int)])) y1)) (ftold (fun v => far rows f v (ns ++ [(k : Int)])) .undef) = (max (max z (ns.length + 1)) (ftold (fun v => far rows f v (ns ++ [(k : Int)])) y1)) from Nat.max_eq_left (Nat.zero_le _)]
          exact ⟨_, _, rfl, F, _, _, _, rfl, news4 N (by k_mem) (by k_mem) (by k_mem) (by k_mem) (by intro p hp; repeat (first | exact hp | apply List.Mem.tail)), hd3⟩
        · rename Fr _ _ _ _ => F
          rename News _ _ _ _ => N
          rename y2.tag ≠ 0 => h0
          refine lt_in (x := y2) (z := _) ih C F N (o := _) (by k_mem) hd3 hw2 H (hV2 (fun q => h0 (by rw [q]; rfl))) ok2 (News.isList N (by k_mem)) hDw hI (by first | exact Nat.le_of_ble_eq_true rfl | assumption | (first | lia | omega)) (by first | exact Nat.le_of_ble_eq_true rfl | assumption | (first | lia | omega)) (by first | exact Nat.le_of_ble_eq_true rfl | assumption | (first | lia | omega)) (by first | exact Nat.le_of_ble_eq_true rfl | assumption | (first | lia | omega)) (fun h₃ tk₃ t₃ o₃ tf₃ F' Nf hd4 => ?_)
          rw [told_not h0, ftold_not h0]
          refine ⟨_, _, rfl, F', _, o₃, tf₃, rfl, ?_, hd4⟩
          have N4 := Nf ((L + 1 + 1, o1') :: (D, listOf ws.toArray 0) :: (L + 1, o2) :: ν) (fun q hq => by (rcases List.mem_cons.mp hq with rfl | hq; (k_mem); (rcases List.mem_cons.mp hq with rfl | hq; (k_mem); (rcases List.mem_cons.mp hq with rfl | hq; (k_mem); (repeat (first | exact hq | apply List.Mem.tail)))))) (fun q hq => by (rcases List.mem_cons.mp hq with rfl | hq; (exact hw3); (rcases List.mem_cons.mp hq with rfl | hq; (exact hDw); (rcases List.mem_cons.mp hq with rfl | hq; (exact hw4); (exact hne q hq)))))
          exact news4 N4 (.tail _ (.head _)) (.tail _ (.tail _ (.head _))) (.tail _ (.tail _ (.tail _ (.head _)))) (.head _) (fun p hp => .tail _ (.tail _ (.tail _ (.tail _ hp))))
      · intro v h' tk' F' hRp1
        with_reducible refine gen fun GG kGG => ?_
        obtain ⟨t, o', tf', rfl, N', hd4⟩ := hRp1
        with_reducible refine kGG ?_
        clear kGG GG
        clear F N
        have F := F'
        have N := N'
        clear F' N' hd3
        have hd3 := hd4
        clear hd4
        generalize hX2 : told (Str.ofString "") (fun v => txt rows f v (ns ++ [(k : Int)])) y2 = x2
        (((repeat' ((fail_if_success ((with_reducible (first | (show wpAny _ _ (eval (PySem.Expr.IfExp _ _ _ _) _) _ _ _) | (show wpAny _ _ (eval (PySem.Expr.ListComp _ _ _ _) _) _ _ _))))); (first | walk1 | (dsimp only; walk1) | (k_unfold; (try dsimp only)) | (refine hKS _ _ ?_; clear hKS KS; (try dsimp only))))); (all_goals (try dsimp only)); (all_goals (repeat ((((fail_if_success (with_reducible show wpAny _ _ _ _ _ _)); (refine (‹∀ (x : _) (y : Shared), _ → _›) _ _ ?_); (try dsimp only))))))))
        rename Fr _ _ _ _ => F
        rename News _ _ _ _ => N
        have ef : fthg (far rows f) rows k ns = max (ns.length + 1) (max (ftold (fun v => far rows f v (ns ++ [(k : Int)])) y1) (ftold (fun v => far rows f v (ns ++ [(k : Int)])) y2)) := by rw [hy1, hy2]; unfold fthg; rw [hr]; simp only [hs, hkn, if_true, if_false]; rfl
        have et : thg (txt rows f) rows k ns sep = err x1 x2 := by rw [← hX1, ← hX2, hy1, hy2]; unfold thg; rw [hr]; simp only [hs, hkn, if_true, if_false]; rfl
        rw [ef, et] at hfin
        have hb1 : x1.length ≤ 2000000 := by
          rw [← hX1]
          by_cases h0 : y1.tag = 0
          · rw [undef_of h0]; exact Nat.le_trans (show (5 : Nat) ≤ 2000000 by decide) (Nat.le_refl _)
          · rw [told_not h0]; exact B.all _ _ _ ok1
        have hb2 : x2.length ≤ 2000000 := by
          rw [← hX2]
          by_cases h0 : y2.tag = 0
          · rw [undef_of h0]; exact Nat.zero_le _
          · rw [told_not h0]; exact B.all _ _ _ ok2
        refine wpAny_ListComp_map (fun v => match v with | .str x _ => x != Str.ofString "" | _ => true) (fun a b => b = a) (Cb.hd C) (by decide) (by decide) rfl (by decide) (by rfl) (nm_local F (by rfl) (by rfl) ?_ (by rfl) (by rfl) (by decide)) (fun _ => rfl)
        refine ⟨_, _, rfl, News.isList N (.head _), (by show (2 : Nat) ≤ sizeLine; decide), ?_, ?_, ?_⟩
        · intro C' v s₂ m₂ E' hv hn hm hk
          refine wpAny_tests_one ?_
          obtain ⟨yy, ty, rfl⟩ : ∃ y t, v = .str y t := by
            have hv := Array.mem_toList_iff.mpr hv
            refine all_cons ?_ (fun v hv => ?_) v hv
            · exact ⟨_, _, rfl⟩
            · exact ⟨_, _, List.mem_singleton.mp hv⟩
          clear F N
          (((repeat' ((fail_if_success ((with_reducible (first | (show wpAny _ _ (exec (Stmt.While _ _ _ _) _) _ _ _) | (show wpAny _ _ (exec (Stmt.For _ _ _ _ _) _) _ _ _) | (show wpAny _ _ (eval (PySem.Expr.ListComp _ _ _ _) _) _ _ _) | (show wpAny _ _ (exec (Stmt.Try _ _ _ _ _) _) _ _ _))))); (first | walk1 | (dsimp only; walk1) | (k_unfold; (try dsimp only)) | (refine hKS _ _ ?_; clear hKS KS; (try dsimp only))))); (all_goals (try dsimp only)); (all_goals (repeat ((((fail_if_success (with_reducible show wpAny _ _ _ _ _ _)); (refine (‹∀ (x : _) (y : Shared), _ → _›) _ _ ?_); (try dsimp only))))))))
          exact ⟨_, _, rfl, fun _ _ e => e⟩
        · intro C' v s₂ m₂ E' hv _ hn hm hk
          clear F N
          (((repeat' ((fail_if_success ((with_reducible (first | (show wpAny _ _ (exec (Stmt.While _ _ _ _) _) _ _ _) | (show wpAny _ _ (exec (Stmt.For _ _ _ _ _) _) _ _ _) | (show wpAny _ _ (eval (PySem.Expr.ListComp _ _ _ _) _) _ _ _) | (show wpAny _ _ (exec (Stmt.Try _ _ _ _ _) _) _ _ _))))); (first | walk1 | (dsimp only; walk1) | (k_unfold; (try dsimp only)) | (refine hKS _ _ ?_; clear hKS KS; (try dsimp only))))); (all_goals (try dsimp only)); (all_goals (repeat ((((fail_if_success (with_reducible show wpAny _ _ _ _ _ _)); (refine (‹∀ (x : _) (y : Shared), _ → _›) _ _ ?_); (try dsimp only))))))))
          exact ⟨_, _, rfl, fun _ _ e => e⟩
        · intro D' h' tk ys hDn hDl hys hk
          have hys' := paired_eq hys
          have S : Stays [] _ h' := Stays.of hk
          have F' := Fr.st0 F S
          have N' := News.st0 N S
          clear F N
          have F := F'
          have N := N'
          clear F' N' S hk hys
          (((repeat' ((fail_if_success ((with_reducible (first | (show wpAny _ _ (exec (Stmt.While _ _ _ _) _) _ _ _) | (show wpAny _ _ (exec (Stmt.For _ _ _ _ _) _) _ _ _) | (show wpAny _ _ (eval (PySem.Expr.ListComp _ _ _ _) _) _ _ _) | (show wpAny _ _ (exec (Stmt.Try _ _ _ _ _) _) _ _ _))))); (first | walk1 | (dsimp only; walk1) | (k_unfold; (try dsimp only)) | (refine hKS _ _ ?_; clear hKS KS; (try dsimp only))))); (all_goals (try dsimp only)); (all_goals (repeat ((((fail_if_success (with_reducible show wpAny _ _ _ _ _ _)); (refine (‹∀ (x : _) (y : Shared), _ → _›) _ _ ?_); (try dsimp only))))))))
          rename Fr _ _ _ _ => F
          rename News _ _ _ _ => N
          refine join_list hDl (by rw [hys']; exact strs_filter _ _ _ _) ?_ fun t' k' => ?_
          · simp only [List.filter]
            cases (x1 != Str.ofString "") <;> cases (x2 != Str.ofString "") <;> simp only [List.map_cons, List.map_nil, List.sum_cons, List.sum_nil, List.length_cons, List.length_nil] <;> (have e2 : (Str.ofString ": ").length = 2 := by decide) <;> (first | lia | omega)
          · rw [eq_of_beq (join_plain_closes _ _), err_join]
            repeat ((((fail_if_success (with_reducible show wpAny _ _ _ _ _ _)); (refine (‹∀ (x : _) (y : Shared), _ → _›) _ _ ?_); (try dsimp only))))
            exact hfin ((Nat.max_assoc _ _ _).trans (Nat.max_assoc _ _ _)) rfl F N (by k_mem) hd3
end
end
section
variable {prog : Program} {w : World} {mg mb : Str → Option Value} {A : Around} {s : Shared} {Q E : Value → Shared → Prop}
theorem law_thing_spec {rows : List Rw} {f : Nat} {wd ra p : Addr} {qs : List Raw} {vs : List Value} {ns : List Int} {z k : Nat} {sep : Str} {t1 t2 : Tok} (ih : LTX prog w mg mb rows f) (W : WFR rows) (B : Bd rows)
   (H : RowsAt prog w (hideAll s.heap [wd]) ra qs rows) (hk : k < rows.length) (hw : WAt prog w s.heap wd ra z) (hp : (hideAll s.heap [wd]).IsList p vs.toArray) (hi : IntsAre vs ns) (hf : free rows ns < f + 1) (hl : ns.length + f + 1 ≤ 200) (hsep : sep.length ≤ 2)
   (C0 : Cx w mg mb A s.heap [wd] (2 * f + 5) (6 * f + 15))
   (hQ : ∀ h' tk' t, Stays [wd] s.heap h' → WAt prog w h' wd ra (max z (fthg (far rows f) rows k ns)) → Q (.str (thg (txt rows f) rows k ns sep) t) { s with heap := h', toks := tk' }) :
   wpAny (model prog w) A (call (.ref 316) [.ref wd, .int (k : Int) t1, .ref p, .str sep t2]) Q E s := by
  with_reducible refine gen fun GG kGG => ?_
  obtain ⟨r, hr⟩ : ∃ r, rows[k]? = some r := ⟨_, List.getElem?_eq_getElem hk⟩
  with_reducible refine kGG ?_
  clear kGG GG
  rcases W.sort k r hr with hs | hs | hs | hs
  · exact law_thing_0 ih W B H hk hr hs hw hp hi hf hl hsep C0 hQ
  · exact law_thing_arr ih W B H hk hr hs hw hp hi hf hl hsep C0 hQ
  · exact law_thing_2 ih W B H hk hr hs hw hp hi hf hl hsep C0 hQ
  · exact law_thing_err ih W B H hk hr hs hw hp hi hf hl hsep C0 hQ

theorem ltx_all {rows : List Rw} (W : WFR rows) (B : Bd rows) : ∀ f, LTX prog w mg mb rows f
  | 0 => fun A s Q E wd ra p qs v x vs ns z H hv hok hw hp hi hf => absurd hf (Nat.not_lt_zero _)
  | f + 1 => by
    have ih := ltx_all W B f
    intro A s Q E wd ra p qs v x vs ns z H hv hok hw hp hi hf hl C0 hQ
    with_reducible refine gen fun GG kGG => ?_
    obtain ⟨a, tg, tp, rfl, hv⟩ := hv
    with_reducible refine kGG ?_
    clear kGG GG
    refine call_rule (d := 2 * f + 5) (u := 6 * f + 15) (binds := [(Str.ofString "w", .ref wd), (Str.ofString "v", .ref a), (Str.ofString "path", .ref p)]) C0 (by k_is) (by k_is) (BindsTo.of_eq rfl) (locs rfl) (fun L h₁ tk F hk' C => ?_) (by decide)
    with_reducible refine hideQ fun KK hKK => ?_
    have X := C.X
    have T := C.T
    with_reducible refine gen fun GG kGG => ?_
    obtain ⟨⟨tf, hw1⟩, hw2⟩ := hw
    obtain ⟨ow, hwo, hwd⟩ := Heap.dictOf_iff.mp hw1
    with_reducible refine kGG ?_
    clear kGG GG
    have N : News (hideAll s.heap [wd]) L h₁ [(wd, ow)] := fun p hp => by rw [List.mem_singleton.mp hp]; exact ⟨(hk' _ _ hwo).1, (hk' _ _ hwo).2, hideAll_none _ (.head _)⟩
    clear hk'
    have fin : ∀ {h' : Heap} {m : Str → Option Value} {μ : List (Addr × Obj)} {tk : Nat} {t : Tok}, far rows (f + 1) x ns = 0 → Fr (hideAll s.heap [wd]) L h' m → News (hideAll s.heap [wd]) L h' μ → (wd, ow) ∈ μ → Q (.str (txt rows (f + 1) x ns) t) { s with heap := h', toks := tk } :=
      fun h0 F N hm => hQ _ _ _ (Fr.out F) ⟨⟨tf, Heap.dictOf_iff.mpr ⟨ow, (N _ hm).1, by rw [h0, Nat.max_zero]; exact hwd⟩⟩, hw2⟩
    cases x with
    | undef =>
      dsimp only [Vl.tag, Vl.pay] at hv
      (((repeat' (first | walk1 | (dsimp only; walk1) | (k_unfold; (try dsimp only)) | (refine hKS _ _ ?_; clear hKS KS; (try dsimp only)))); (all_goals (try dsimp only)); (all_goals (repeat ((((fail_if_success (with_reducible show wpAny _ _ _ _ _ _)); (refine (‹∀ (x : _) (y : Shared), _ → _›) _ _ ?_); (try dsimp only))))))))
      repeat ((((fail_if_success (with_reducible show wpAny _ _ _ _ _ _)); (refine (‹∀ (x : _) (y : Shared), _ → _›) _ _ ?_); (try dsimp only))))
      exact fin rfl (by assumption) (by assumption) (by k_mem)
    | null =>
      dsimp only [Vl.tag, Vl.pay] at hv
      (((repeat' (first | walk1 | (dsimp only; walk1) | (k_unfold; (try dsimp only)) | (refine hKS _ _ ?_; clear hKS KS; (try dsimp only)))); (all_goals (try dsimp only)); (all_goals (repeat ((((fail_if_success (with_reducible show wpAny _ _ _ _ _ _)); (refine (‹∀ (x : _) (y : Shared), _ → _›) _ _ ?_); (try dsimp only))))))))
      repeat ((((fail_if_success (with_reducible show wpAny _ _ _ _ _ _)); (refine (‹∀ (x : _) (y : Shared), _ → _›) _ _ ?_); (try dsimp only))))
      exact fin rfl (by assumption) (by assumption) (by k_mem)
    | bool bb =>
      cases bb
      · simp only [Vl.tag, Vl.pay, Bool.false_eq_true, if_true, if_false] at hv
        (((repeat' (first | walk1 | (dsimp only; walk1) | (k_unfold; (try dsimp only)) | (refine hKS _ _ ?_; clear hKS KS; (try dsimp only)))); (all_goals (try dsimp only)); (all_goals (repeat ((((fail_if_success (with_reducible show wpAny _ _ _ _ _ _)); (refine (‹∀ (x : _) (y : Shared), _ → _›) _ _ ?_); (try dsimp only))))))))
        repeat ((((fail_if_success (with_reducible show wpAny _ _ _ _ _ _)); (refine (‹∀ (x : _) (y : Shared), _ → _›) _ _ ?_); (try dsimp only))))
        exact fin rfl (by assumption) (by assumption) (by k_mem)
      · simp only [Vl.tag, Vl.pay, Bool.false_eq_true, if_true, if_false] at hv
        (((repeat' (first | walk1 | (dsimp only; walk1) | (k_unfold; (try dsimp only)) | (refine hKS _ _ ?_; clear hKS KS; (try dsimp only)))); (all_goals (try dsimp only)); (all_goals (repeat ((((fail_if_success (with_reducible show wpAny _ _ _ _ _ _)); (refine (‹∀ (x : _) (y : Shared), _ → _›) _ _ ?_); (try dsimp only))))))))
        repeat ((((fail_if_success (with_reducible show wpAny _ _ _ _ _ _)); (refine (‹∀ (x : _) (y : Shared), _ → _›) _ _ ?_); (try dsimp only))))
        exact fin rfl (by assumption) (by assumption) (by k_mem)
    | num i =>
      dsimp only [Vl.tag, Vl.pay] at hv
      (((repeat' (first | walk1 | (dsimp only; walk1) | (k_unfold; (try dsimp only)) | (refine hKS _ _ ?_; clear hKS KS; (try dsimp only)))); (all_goals (try dsimp only)); (all_goals (repeat ((((fail_if_success (with_reducible show wpAny _ _ _ _ _ _)); (refine (‹∀ (x : _) (y : Shared), _ → _›) _ _ ?_); (try dsimp only))))))))
      refine str_of_int_fit (N := 1000) (by have h1 := hok.1; have h2 := hok.2; split <;> (first | lia | omega)) (by decide) fun _ => ?_
      repeat ((((fail_if_success (with_reducible show wpAny _ _ _ _ _ _)); (refine (‹∀ (x : _) (y : Shared), _ → _›) _ _ ?_); (try dsimp only))))
      exact fin rfl (by assumption) (by assumption) (by k_mem)
    | nan =>
      dsimp only [Vl.tag, Vl.pay] at hv
      (((repeat' (first | walk1 | (dsimp only; walk1) | (k_unfold; (try dsimp only)) | (refine hKS _ _ ?_; clear hKS KS; (try dsimp only)))); (all_goals (try dsimp only)); (all_goals (repeat ((((fail_if_success (with_reducible show wpAny _ _ _ _ _ _)); (refine (‹∀ (x : _) (y : Shared), _ → _›) _ _ ?_); (try dsimp only))))))))
      repeat ((((fail_if_success (with_reducible show wpAny _ _ _ _ _ _)); (refine (‹∀ (x : _) (y : Shared), _ → _›) _ _ ?_); (try dsimp only))))
      exact fin rfl (by assumption) (by assumption) (by k_mem)
    | str z =>
      dsimp only [Vl.tag, Vl.pay] at hv
      (((repeat' (first | walk1 | (dsimp only; walk1) | (k_unfold; (try dsimp only)) | (refine hKS _ _ ?_; clear hKS KS; (try dsimp only)))); (all_goals (try dsimp only)); (all_goals (repeat ((((fail_if_success (with_reducible show wpAny _ _ _ _ _ _)); (refine (‹∀ (x : _) (y : Shared), _ → _›) _ _ ?_); (try dsimp only))))))))
      all_goals exact fin rfl (by assumption) (by assumption) (by k_mem)
    | obj k =>
      dsimp only [Vl.tag, Vl.pay] at hv
      (((repeat' (first | walk1 | (dsimp only; walk1) | (k_unfold; (try dsimp only)) | (refine hKS _ _ ?_; clear hKS KS; (try dsimp only)))); (all_goals (try dsimp only)); (all_goals (repeat ((((fail_if_success (with_reducible show wpAny _ _ _ _ _ _)); (refine (‹∀ (x : _) (y : Shared), _ → _›) _ _ ?_); (try dsimp only))))))))
      rename Fr _ _ _ _ => F
      rename News _ _ _ _ => N
      have hgb : ∀ a ∈ [wd], (hideAll s.heap [wd]).get? a = none := fun a q => hideAll_none _ q
      have hLb : L ∉ [wd] := fun q => (N _ (.head _)).2.1 (List.mem_singleton.mp q).symm
      have up := under_hide F hgb
      refine law_thing_spec ih W B (H.up _ _ up) hok ⟨⟨tf, Heap.dictOf_iff.mpr ⟨ow, (N _ (.head _)).1, hwd⟩⟩, hw2⟩ (hp.at fun o e => up _ o e) hi hf (by first | exact Nat.le_of_ble_eq_true rfl | assumption | (first | lia | omega)) (by decide) (Cb.at C F hgb hLb (Nat.le_refl _) (Nat.le_refl _)) (fun h' tk' t S hw' => ?_)
      repeat ((((fail_if_success (with_reducible show wpAny _ _ _ _ _ _)); (refine (‹∀ (x : _) (y : Shared), _ → _›) _ _ ?_); (try dsimp only))))
      exact hQ _ _ _ (Fr.out (Fr.st F S hLb hgb)) hw'
end
section
variable {prog : Program} {w : World} {mg mb : Str → Option Value} {A : Around} {s' : Shared} {E : Value → Shared → Prop} {g g' h : Heap} {L e a : Addr} {name : Str} {scope : Scope} {cd : Value} {m : Str → Option Value} {D : List Addr}
  {b₀ : Stmt} {suite : List Stmt} {pos np : Pos} {rest : List ExceptHandler} {Q : Flow → Shared → Prop} {as : List Env}
/-- an own RunBound lands in a frame's try -/
theorem catch_fly (hA : A.frames = some as) (F : Fr g L h m) (hgg : g'.StaysIn g) (hsz : g'.objs.size ≤ L) (X : (Mine.head.heap_1_39 w.params).In g') (T : TopRead Mine.head.view_1_40 (looseW Mine.head.view_1_40 [Str.ofString "KeepError", Str.ofString "RunBound", Str.ofString "NumberOut"]) mg mb g')
    (hD : ∀ b o, g'.get? b = some o → b ∉ D ++ fl (envOf name scope L a cd :: as)) (hLD : L ∉ D) (R : Fly (A.deeper (envOf name scope L a cd)) D h s'.heap e)
    (hk : scope.kind = .function) (hx : (envOf name scope L a cd).kindOf (Str.ofString "RunBound") = some .globalImplicit)
    (k : ∀ h', Fr g' L h' m → (∀ b o, h.get? b = some o → b ∉ D ++ fl (envOf name scope L a cd :: as) → h'.get? b = some o) →
      (∀ b ∈ fl as, b ∉ D → ∀ o, h.get? b = some o → (∀ vs, o.data ≠ .fields vs) → ∃ sl, h'.get? b = some { o with slots := sl }) →
      wpAny (model prog w) ((A.deeper (envOf name scope L a cd)).mark (some (.ref e))) (execs (b₀ :: suite) (envOf name scope L a cd)) Q E { s' with heap := h' })
    (hE : PassesOwnAt (model prog w) ((A.deeper (envOf name scope L a cd)).mark (some (.ref e))) (A.deeper (envOf name scope L a cd)) (envOf name scope L a cd) E := by passes_own) :
    wpAny (model prog w) (A.deeper (envOf name scope L a cd)) (noteFrame (.ref e) (envOf name scope L a cd))
      (fun _ s₂ => wpAny (model prog w) (A.deeper (envOf name scope L a cd)) (setFlight (.ref e) none) (fun _ s₃ =>
        wpAny (model prog w) (A.deeper (envOf name scope L a cd)) (handleBy (.ref e) (envOf name scope L a cd) (.ExceptHandler (some (.Name (Str.ofString "RunBound") np)) none (b₀ :: suite) pos :: rest)) Q E s₃) E s₂) E s' := by
  with_reducible refine gen fun GG kGG => ?_
  obtain ⟨l, a0, hl, hfly, hsl⟩ := R
  with_reducible refine kGG ?_
  clear kGG GG
  obtain rfl : l = envOf name scope L a cd :: as := Option.some.inj (hl.symm.trans (Around.frames_deeper hA))
  have hLin : L ∈ fl (envOf name scope L a cd :: as) := List.mem_filterMap.mpr ⟨_, .head _, rfl⟩
  have inl : ∀ {b}, b ∈ fl as → b ∈ fl (envOf name scope L a cd :: as) := fun hb => by obtain ⟨x, hx, hy⟩ := List.mem_filterMap.mp hb; exact List.mem_filterMap.mpr ⟨x, .tail _ hx, hy⟩
  have stay : ∀ {h'}, (hideAll h (D ++ fl (envOf name scope L a cd :: as))).StaysIn h' → ∀ b o, h.get? b = some o → b ∉ D ++ fl (envOf name scope L a cd :: as) → h'.get? b = some o := fun st b o e n => st b o (hideAll_get _ e n)
  have fr : ∀ {h'}, (hideAll h (D ++ fl (envOf name scope L a cd :: as))).StaysIn h' → s'.heap.UpToSlots h' → Fr g' L h' m := fun st up => by
    refine ⟨?_, fun b o q => stay st b o (F.keep _ _ (hgg _ _ q)) (hD b o q), hsz⟩
    obtain ⟨oL, es, ep, hL', hLd, r⟩ := F.ns
    obtain ⟨sl, e1⟩ := hsl L hLin hLD oL hL' fun vs q => by rw [hLd] at q; cases q
    obtain ⟨sl', e2⟩ := up L _ e1 fun vs q => by
      have q : oL.data = .fields vs := q
      rw [hLd] at q; cases q
    exact ⟨_, es, ep, e2, hLd, r⟩
  refine wpAny_looks_onW (Around.frames_deeper hA) rfl hfly fun h₄ hheld₄ hsm₄ => ?_
  refine wpAny_landsW hheld₄ fun h₅ hheld hsm₅' => ?_
  have hsm₅ := hsm₄.trans hsm₅'
  have F₅ := fr hheld.1 hsm₅
  refine wpAny_handleBy_cons (codeAny_handlers_test (nm_glob F₅ X T (by k_is) ?_ rfl hk hx (by decide))) (by intro q; cases q)
  with_reducible refine gen fun GG kGG => ?_
  obtain ⟨oe, he, hcls⟩ := hheld.there
  with_reducible refine kGG ?_
  clear kGG GG
  have hC := rb_at (w := w) (X.keeps F₅.keep)
  refine wpAny_excMatches_sub_self hC he hcls (by decide) (codeAny_handlers_suite ?_)
  refine lands_againW hheld fun h₆ hfl₆ hsm₆ => ?_
  have up6 := hsm₅.trans hsm₆
  refine wpAny_passesOwnAt hE (k h₆ (fr hfl₆.1 up6) (stay hfl₆.1) fun b hb hbD o ho hn => ?_)
  with_reducible refine gen fun GG kGG => ?_
  obtain ⟨sl, e1⟩ := hsl b (inl hb) hbD o ho hn
  obtain ⟨sl', e2⟩ := up6 b _ e1 hn
  with_reducible refine kGG ?_
  clear kGG GG
  exact ⟨sl', e2⟩
end
section
variable {prog : Program} {w : World} {mg mb : Str → Option Value} {A : Around} {s s' : Shared} {E : Value → Shared → Prop}
/-- what agrees leaves: all but w's dict, and the frames below up to their slots -/
noncomputable def AgPost (as : List Env) (wd : Addr) (h h' : Heap) : Prop := Stays (wd :: fl as) h h' ∧ ∀ b ∈ fl as, b ≠ wd → ∀ o, h.get? b = some o → (∀ vs, o.data ≠ .fields vs) → ∃ sl, h'.get? b = some { o with slots := sl }
theorem AgPost.of {as : List Env} {wd : Addr} {h h' : Heap} (S : Stays [wd] h h') : AgPost as wd h h' :=
  ⟨S.le fun a q => by rw [List.mem_singleton.mp q]; exact .head _, fun b _ hn o ho _ => ⟨o.slots, S b o (fun q => hn (List.mem_singleton.mp q)) ho⟩⟩
theorem free_le (rows : List Rw) (P : List Int) : free rows P < rows.length + 1 := Nat.lt_succ_of_le (by unfold free; exact Nat.le_trans List.countP_le_length (by simp))
theorem list_ne {h : Heap} {b wd : Addr} {vs : Array Value} (l : (hideAll h [wd]).IsList b vs) : b ≠ wd := fun q => by
  with_reducible refine gen fun GG kGG => ?_
  obtain ⟨o, ho, _⟩ := l
  with_reducible refine kGG ?_
  clear kGG GG
  rw [q, hideAll_none _ (.head _)] at ho; cases ho
theorem ag_caught {h : Heap} {L e a wd : Addr} {name : Str} {scope : Scope} {cd : Value} {m : Str → Option Value} {D : List Addr} {o₂ : Obj}
  {b₀ : Stmt} {suite : List Stmt} {pos np : Pos} {rest : List ExceptHandler} {Q : Flow → Shared → Prop} {as : List Env}
  (hA : A.frames = some as) (X' : (Mine.head.heap_1_39 w.params).In (hideAll s.heap (wd :: fl as))) (T' : TopRead Mine.head.view_1_40 (looseW Mine.head.view_1_40 [Str.ofString "KeepError", Str.ofString "RunBound", Str.ofString "NumberOut"]) mg mb (hideAll s.heap (wd :: fl as))) (hwf : wd ∉ fl as) (F : Fr (hideAll s.heap [wd]) L h m) (hwL : wd ≠ L) (hwo : h.get? wd = some o₂) (hwD : wd ∉ D)
  (hDn : ∀ a ∈ D, (hideAll s.heap [wd]).get? a = none) (hLD : L ∉ D) (R : Fly (A.deeper (envOf name scope L a cd)) D h s'.heap e)
    (hk : scope.kind = .function) (hx : (envOf name scope L a cd).kindOf (Str.ofString "RunBound") = some .globalImplicit)
    (k : ∀ h'', Fr (hideAll s.heap (wd :: fl as)) L h'' m → News (hideAll s.heap (wd :: fl as)) L h'' [(wd, o₂)] → AgPost as wd s.heap h'' →
      wpAny (model prog w) ((A.deeper (envOf name scope L a cd)).mark (some (.ref e))) (execs (b₀ :: suite) (envOf name scope L a cd)) Q E { s' with heap := h'' })
    (hE : PassesOwnAt (model prog w) ((A.deeper (envOf name scope L a cd)).mark (some (.ref e))) (A.deeper (envOf name scope L a cd)) (envOf name scope L a cd) E := by passes_own) :
    wpAny (model prog w) (A.deeper (envOf name scope L a cd)) (noteFrame (.ref e) (envOf name scope L a cd))
      (fun _ s₂ => wpAny (model prog w) (A.deeper (envOf name scope L a cd)) (setFlight (.ref e) none) (fun _ s₃ =>
        wpAny (model prog w) (A.deeper (envOf name scope L a cd)) (handleBy (.ref e) (envOf name scope L a cd) (.ExceptHandler (some (.Name (Str.ofString "RunBound") np)) none (b₀ :: suite) pos :: rest)) Q E s₃) E s₂) E s' := by
  have hgL := fr_none F
  have gg : (hideAll s.heap (wd :: fl as)).StaysIn (hideAll s.heap [wd]) := fun b o q => hideAll_get _ (of_hideAll _ q) fun z => by
    rw [List.mem_singleton.mp z, hideAll_none _ (.head _)] at q; cases q
  have off : ∀ {b}, b ∈ fl (envOf name scope L a cd :: as) → b = L ∨ b ∈ fl as := fun {b} hb => by
    with_reducible refine gen fun GG kGG => ?_
    obtain ⟨x, hx, hy⟩ := List.mem_filterMap.mp hb
    with_reducible refine kGG ?_
    clear kGG GG
    rcases (List.mem_cons.mp hx) with rfl | hx
    · exact .inl (Option.some.inj hy).symm
    · exact .inr (List.mem_filterMap.mpr ⟨x, hx, hy⟩)
  have hD' : ∀ b o, (hideAll s.heap (wd :: fl as)).get? b = some o → b ∉ D ++ fl (envOf name scope L a cd :: as) := fun b o q z => by
    rcases List.mem_append.mp z with z | z
    · have := hDn b z; rw [gg _ _ q] at this; cases this
    · rcases off z with rfl | z
      · rw [gg _ _ q] at hgL; cases hgL
      · rw [hideAll_none _ (.tail _ z)] at q; cases q
  refine catch_fly (g' := hideAll s.heap (wd :: fl as)) hA F gg (by have := F.above; rw [hideAll_size] at this ⊢; exact this) X' T' hD' hLD R hk hx (fun h'' F'' keep slots => ?_) hE
  refine k h'' F'' (fun p hp => ?_) ⟨fun b o n ho => F''.keep _ _ (hideAll_get _ ho n), fun b hb hn o ho hf => ?_⟩
  · rw [List.mem_singleton.mp hp]
    refine ⟨keep _ _ hwo fun z => ?_, hwL, hideAll_none _ (.head _)⟩
    rcases List.mem_append.mp z with z | z
    · exact hwD z
    · rcases off z with z | z
      · exact hwL z
      · exact hwf z
  · have q : (hideAll s.heap [wd]).get? b = some o := hideAll_get _ ho fun z => hn (List.mem_singleton.mp z)
    exact slots b hb (fun z => by have := hDn b z; rw [q] at this; cases this) o (F.keep _ _ q) hf
end
section
variable {prog : Program} {w : World} {mg mb : Str → Option Value} {A : Around} {s : Shared} {Q E : Value → Shared → Prop}
theorem agrees_1 {rows : List Rw} {hp wd ra bg : Addr} {qs qs' : List Raw} {v : Value} {x : Vl} {vs : List Value} {ns : List Int} {z : Nat} {sep : Str} {t1 t2 : Tok} {as : List Env} (W : WFR rows) (B : Bd rows)
   (hA : A.frames = some as) (X' : (Mine.head.heap_1_39 w.params).In (hideAll s.heap (wd :: fl as))) (T' : TopRead Mine.head.view_1_40 (looseW Mine.head.view_1_40 [Str.ofString "KeepError", Str.ofString "RunBound", Str.ofString "NumberOut"]) mg mb (hideAll s.heap (wd :: fl as))) (hwf : wd ∉ fl as)
   (HT : ThingsAt prog w (hideAll s.heap [wd]) hp qs rows) (HR : RowsAt prog w (hideAll s.heap [wd]) ra qs' rows) (hw : WAt prog w s.heap wd ra z) (hv : ValAt (hideAll s.heap [wd]) v x) (hok : VOk rows.length x)
   (hbg : (hideAll s.heap [wd]).IsList bg vs.toArray) (hi : IntsAre vs ns) (hl : ns.length ≤ 40)
   (C0 : Cx w mg mb A s.heap [wd] 300 1000)
   (hQ : ∀ h' tk' z', AgPost as wd s.heap h' → WAt prog w h' wd ra z' → Q (.bool true) { s with heap := h', toks := tk' }) :
   wpAny (model prog w) A (call (.ref 323) [.ref hp, .ref wd, .int 1 t1, v, .str sep t2, .ref bg]) Q E s := by
  with_reducible refine gen fun GG kGG => ?_
  obtain ⟨⟨tf, hw1⟩, hw2⟩ := hw
  obtain ⟨ow, hwo, hwd⟩ := Heap.dictOf_iff.mp hw1
  with_reducible refine kGG ?_
  clear kGG GG
  refine call_rule (d := 299) (u := 997) (binds := [(Str.ofString "heap", .ref hp), (Str.ofString "w", .ref wd), (Str.ofString "way", .int 1 t1), (Str.ofString "v", v), (Str.ofString "sep", .str sep t2), (Str.ofString "begun", .ref bg)]) C0 (by k_is) (by k_is) (BindsTo.of_eq rfl) (locs rfl) (fun L h₁ tk F hk' C => ?_) (by decide)
  with_reducible refine hideQ fun KK hKK => ?_
  have X := C.X
  have T := C.T
  have N : News (hideAll s.heap [wd]) L h₁ [(wd, ow)] := fun p hp => by rw [List.mem_singleton.mp hp]; exact ⟨(hk' _ _ hwo).1, (hk' _ _ hwo).2, hideAll_none _ (.head _)⟩
  clear hk'
  with_reducible refine gen fun GG kGG => ?_
  obtain ⟨va, tg, tp, rfl, hvt⟩ := id hv
  with_reducible refine kGG ?_
  clear kGG GG
  (((repeat' ((fail_if_success ((with_reducible (first | (show wpAny _ _ (exec (Stmt.While _ _ _ _) _) _ _ _) | (show wpAny _ _ (exec (Stmt.For _ _ _ _ _) _) _ _ _) | (show wpAny _ _ (eval (PySem.Expr.ListComp _ _ _ _) _) _ _ _) | (show wpAny _ _ (exec (Stmt.Try _ _ _ _ _) _) _ _ _))))); (first | walk1 | (dsimp only; walk1) | (k_unfold; (try dsimp only)) | (refine hKS _ _ ?_; clear hKS KS; (try dsimp only))))); (all_goals (try dsimp only)); (all_goals (repeat ((((fail_if_success (with_reducible show wpAny _ _ _ _ _ _)); (refine (‹∀ (x : _) (y : Shared), _ → _›) _ _ ?_); (try dsimp only))))))))
  have hl100 := W.len
  rename Fr _ _ _ _ => F
  rename News _ _ _ _ => N
  rename Obj.IsDictOf _ _ _ => hd
  rename IntsAre _ (ns ++ []) => hI
  rename _ ∧ _ => hlt
  rename_i l' _ hlt' D ws _ _ _ _ _ _
  rw [List.append_nil] at hI
  have hDw : D ≠ wd := Nat.ne_of_gt hlt.2
  have hlw : l' ≠ wd := Nat.ne_of_gt hlt'
  have hDl : D ≠ l' := Nat.ne_of_gt hlt.1
  refine lt_in (x := x) (z := 0) (ltx_all W B (rows.length + 1)) C F N (by k_mem) hd hw2 HR hv hok (hbg.at fun o e => F.keep _ o e) (list_ne hbg) hi (free_le _ _) (by first | exact Nat.le_of_ble_eq_true rfl | assumption | (first | lia | omega)) (by first | exact Nat.le_of_ble_eq_true rfl | assumption | (first | lia | omega)) (by first | exact Nat.le_of_ble_eq_true rfl | assumption | (first | lia | omega)) (fun h₂ tk₂ t₂ o₂ tf₂ F' Nf hd2 => ?_)
  rw [Nat.zero_max] at hd2
  generalize hFX : far rows (rows.length + 1) x ns = fx at hd2
  generalize hTX : txt rows (rows.length + 1) x ns = tx
  have N' := Nf [(D, listOf ws.toArray 0), (l', listOf #[] 0)] (fun q hq => by (rcases List.mem_cons.mp hq with rfl | hq; (k_mem); (rw [List.mem_singleton.mp hq]; k_mem))) (fun q hq => by (rcases List.mem_cons.mp hq with rfl | hq; (exact hDw); (rw [List.mem_singleton.mp hq]; exact hlw)))
  clear F N Nf hd
  (((repeat' ((fail_if_success ((with_reducible (first | (show wpAny _ _ (exec (Stmt.While _ _ _ _) _) _ _ _) | (show wpAny _ _ (exec (Stmt.For _ _ _ _ _) _) _ _ _) | (show wpAny _ _ (eval (PySem.Expr.ListComp _ _ _ _) _) _ _ _) | (show wpAny _ _ (exec (Stmt.Try _ _ _ _ _) _) _ _ _))))); (first | walk1 | (dsimp only; walk1) | (k_unfold; (try dsimp only)) | (refine hKS _ _ ?_; clear hKS KS; (try dsimp only))))); (all_goals (try dsimp only)); (all_goals (repeat ((((fail_if_success (with_reducible show wpAny _ _ _ _ _ _)); (refine (‹∀ (x : _) (y : Shared), _ → _›) _ _ ?_); (try dsimp only))))))))
  refine wpAny_Try_except ?_
  (((repeat' ((fail_if_success ((with_reducible (first | (show wpAny _ _ (exec (Stmt.While _ _ _ _) _) _ _ _) | (show wpAny _ _ (exec (Stmt.For _ _ _ _ _) _) _ _ _) | (show wpAny _ _ (eval (PySem.Expr.ListComp _ _ _ _) _) _ _ _) | (show wpAny _ _ (exec (Stmt.Try _ _ _ _ _) _) _ _ _))))); (first | walk1 | (dsimp only; walk1) | (k_unfold; (try dsimp only)) | (refine hKS _ _ ?_; clear hKS KS; (try dsimp only))))); (all_goals (try dsimp only)); (all_goals (repeat ((((fail_if_success (with_reducible show wpAny _ _ _ _ _ _)); (refine (‹∀ (x : _) (y : Shared), _ → _›) _ _ ?_); (try dsimp only))))))))
  rename Fr _ _ _ _ => F
  rename News _ _ _ _ => N
  have hwm := N (wd, o₂) (.head _)
  have hDm := N (D, listOf ws.toArray 0) (.tail _ (.head _))
  have hgb : ∀ a ∈ [D], (hideAll s.heap [wd]).get? a = none := fun a q => by rw [List.mem_singleton.mp q]; exact hDm.2.2
  have hLD : L ∉ [D] := fun q => hDm.2.1 (List.mem_singleton.mp q).symm
  have up := under_hide F hgb
  refine tti_all W B (rows.length + 1) _ _ _ _ hp D qs (.ref va) x ns (HT.up _ _ up) (hv.up up) hok ⟨_, _, hDm.1, by simpa using hI⟩ (free_le _ _) hl (Cb.at C F hgb hLD (by unfold Bud; (first | lia | omega)) (by unfold Bud; (first | lia | omega))) ?_ ?_
  · intro h15 h' tk' t S hRp1
    with_reducible refine gen fun GG kGG => ?_
    obtain ⟨its', n', hb', hi'⟩ := hRp1
    with_reducible refine kGG ?_
    clear kGG GG
    rw [hFX] at h15
    rw [hTX]
    have F' := Fr.st F S hLD hgb
    have N' : News (hideAll s.heap [wd]) L h' [(D, listOf its' n'), (wd, o₂)] := fun p hp => by
      refine all_cons ?_ (fun p hp => ?_) p hp
      · exact ⟨hb', hDm.2⟩
      · rw [List.mem_singleton.mp hp]; exact ⟨S _ _ (fun q => hDw (List.mem_singleton.mp q).symm) hwm.1, hwm.2⟩
    clear F N S up
    have hd1 : decide ((fx : Int) < 16) = true := decide_eq_true (by (first | lia | omega))
    with_reducible refine gen fun GG kGG => ?_
    obtain ⟨us, rfl⟩ : ∃ us : List Value, its' = us.toArray := ⟨its'.toList, by simp⟩
    with_reducible refine kGG ?_
    clear kGG GG
    replace hi' : IntsAre us ns := by simpa using hi'
    (((repeat' ((fail_if_success ((with_reducible (first | (show wpAny _ _ (compareOp _ _ _) _ _ _))))); (first | walk1 | (dsimp only; walk1) | (k_unfold; (try dsimp only)) | (refine hKS _ _ ?_; clear hKS KS; (try dsimp only))))); (all_goals (try dsimp only)); (all_goals (repeat ((((fail_if_success (with_reducible show wpAny _ _ _ _ _ _)); (refine (‹∀ (x : _) (y : Shared), _ → _›) _ _ ?_); (try dsimp only))))))))
    walk1
    try dsimp only
    (((repeat' ((fail_if_success ((with_reducible (first | (show wpAny _ _ (compareOp _ _ _) _ _ _))))); (first | walk1 | (dsimp only; walk1) | (k_unfold; (try dsimp only)) | (refine hKS _ _ ?_; clear hKS KS; (try dsimp only))))); (all_goals (try dsimp only)); (all_goals (repeat ((((fail_if_success (with_reducible show wpAny _ _ _ _ _ _)); (refine (‹∀ (x : _) (y : Shared), _ → _›) _ _ ?_); (try dsimp only))))))))
    refine P.eq_str ?_
    rw [beq_self_eq_true]
    (((repeat' ((fail_if_success ((with_reducible (first | (show wpAny _ _ (compareOp _ _ _) _ _ _))))); (first | walk1 | (dsimp only; walk1) | (k_unfold; (try dsimp only)) | (refine hKS _ _ ?_; clear hKS KS; (try dsimp only))))); (all_goals (try dsimp only)); (all_goals (repeat ((((fail_if_success (with_reducible show wpAny _ _ _ _ _ _)); (refine (‹∀ (x : _) (y : Shared), _ → _›) _ _ ?_); (try dsimp only))))))))
    rename Fr _ _ _ _ => F
    rename News _ _ _ _ => N
    refine ke_eq_ints (News.isList N (.head _)) (hbg.at fun o e => F.keep _ o e) hi' hi (by have := C.un; (first | lia | omega)) ?_
    rw [decide_eq_true rfl]
    (((repeat' ((fail_if_success ((with_reducible (first | (show wpAny _ _ (compareOp _ _ _) _ _ _))))); (first | walk1 | (dsimp only; walk1) | (k_unfold; (try dsimp only)) | (refine hKS _ _ ?_; clear hKS KS; (try dsimp only))))); (all_goals (try dsimp only)); (all_goals (repeat ((((fail_if_success (with_reducible show wpAny _ _ _ _ _ _)); (refine (‹∀ (x : _) (y : Shared), _ → _›) _ _ ?_); (try dsimp only))))))))
    repeat ((((fail_if_success (with_reducible show wpAny _ _ _ _ _ _)); (refine (‹∀ (x : _) (y : Shared), _ → _›) _ _ ?_); (try dsimp only))))
    exact hQ _ _ fx (AgPost.of (Fr.out F)) ⟨⟨tf₂, Heap.dictOf_iff.mpr ⟨o₂, (N (wd, o₂) (.tail _ (.head _))).1, hd2⟩⟩, hw2⟩
  · intro h15 e h' tk' hF
    rw [hFX] at h15
    refine ag_caught hA X' T' hwf F hwm.2.1 hwm.1 (fun q => hDw (List.mem_singleton.mp q).symm) hgb hLD hF rfl rfl (fun h'' F'' N'' hP => ?_)
    clear F N up
    have X := X'
    have T := T'
    have hd1 : decide ((fx : Int) > 15) = true := decide_eq_true (by (first | lia | omega))
    (((repeat' ((fail_if_success ((with_reducible (first | (show wpAny _ _ (exec (Stmt.While _ _ _ _) _) _ _ _) | (show wpAny _ _ (exec (Stmt.For _ _ _ _ _) _) _ _ _) | (show wpAny _ _ (eval (PySem.Expr.ListComp _ _ _ _) _) _ _ _) | (show wpAny _ _ (exec (Stmt.Try _ _ _ _ _) _) _ _ _))))); (first | walk1 | (dsimp only; walk1) | (k_unfold; (try dsimp only)) | (refine hKS _ _ ?_; clear hKS KS; (try dsimp only))))); (all_goals (try dsimp only)); (all_goals (repeat ((((fail_if_success (with_reducible show wpAny _ _ _ _ _ _)); (refine (‹∀ (x : _) (y : Shared), _ → _›) _ _ ?_); (try dsimp only))))))))
    rename News _ _ _ _ => N
    rw [decide_eq_true (show 15 < (fx : Int) by (first | lia | omega))]
    repeat ((((fail_if_success (with_reducible show wpAny _ _ _ _ _ _)); (refine (‹∀ (x : _) (y : Shared), _ → _›) _ _ ?_); (try dsimp only))))
    exact hQ _ _ fx hP ⟨⟨tf₂, Heap.dictOf_iff.mpr ⟨o₂, (N (wd, o₂) (.head _)).1, hd2⟩⟩, hw2⟩
end
section
variable {prog : Program} {w : World} {mg mb : Str → Option Value} {A : Around} {s : Shared} {Q E : Value → Shared → Prop}
theorem agrees_0 {rows : List Rw} {hp wd ra bg : Addr} {qs qs' : List Raw} {v : Value} {x : Vl} {vs : List Value} {ns : List Int} {z : Nat} {sep : Str} {t1 t2 : Tok} {as : List Env} (W : WFR rows) (B : Bd rows)
   (hA : A.frames = some as) (X' : (Mine.head.heap_1_39 w.params).In (hideAll s.heap (wd :: fl as))) (T' : TopRead Mine.head.view_1_40 (looseW Mine.head.view_1_40 [Str.ofString "KeepError", Str.ofString "RunBound", Str.ofString "NumberOut"]) mg mb (hideAll s.heap (wd :: fl as))) (hwf : wd ∉ fl as)
   (HT : ThingsAt prog w (hideAll s.heap [wd]) hp qs rows) (HR : RowsAt prog w (hideAll s.heap [wd]) ra qs' rows) (hw : WAt prog w s.heap wd ra z) (hv : ValAt (hideAll s.heap [wd]) v x) (hok : VOk rows.length x)
   (hbg : (hideAll s.heap [wd]).IsList bg vs.toArray) (hi : IntsAre vs ns) (hl : ns.length ≤ 40) (hns : ns = [])
   (C0 : Cx w mg mb A s.heap [wd] 300 1000)
   (hQ : ∀ h' tk' z', AgPost as wd s.heap h' → WAt prog w h' wd ra z' → Q (.bool true) { s with heap := h', toks := tk' }) :
   wpAny (model prog w) A (call (.ref 323) [.ref hp, .ref wd, .int 0 t1, v, .str sep t2, .ref bg]) Q E s := by
  with_reducible refine gen fun GG kGG => ?_
  obtain ⟨⟨tf, hw1⟩, hw2⟩ := hw
  obtain ⟨ow, hwo, hwd⟩ := Heap.dictOf_iff.mp hw1
  with_reducible refine kGG ?_
  clear kGG GG
  refine call_rule (d := 299) (u := 997) (binds := [(Str.ofString "heap", .ref hp), (Str.ofString "w", .ref wd), (Str.ofString "way", .int 0 t1), (Str.ofString "v", v), (Str.ofString "sep", .str sep t2), (Str.ofString "begun", .ref bg)]) C0 (by k_is) (by k_is) (BindsTo.of_eq rfl) (locs rfl) (fun L h₁ tk F hk' C => ?_) (by decide)
  with_reducible refine hideQ fun KK hKK => ?_
  have X := C.X
  have T := C.T
  have N : News (hideAll s.heap [wd]) L h₁ [(wd, ow)] := fun p hp => by rw [List.mem_singleton.mp hp]; exact ⟨(hk' _ _ hwo).1, (hk' _ _ hwo).2, hideAll_none _ (.head _)⟩
  clear hk'
  with_reducible refine gen fun GG kGG => ?_
  obtain ⟨va, tg, tp, rfl, hvt⟩ := id hv
  with_reducible refine kGG ?_
  clear kGG GG
  (((repeat' ((fail_if_success ((with_reducible (first | (show wpAny _ _ (exec (Stmt.While _ _ _ _) _) _ _ _) | (show wpAny _ _ (exec (Stmt.For _ _ _ _ _) _) _ _ _) | (show wpAny _ _ (eval (PySem.Expr.ListComp _ _ _ _) _) _ _ _) | (show wpAny _ _ (exec (Stmt.Try _ _ _ _ _) _) _ _ _))))); (first | walk1 | (dsimp only; walk1) | (k_unfold; (try dsimp only)) | (refine hKS _ _ ?_; clear hKS KS; (try dsimp only))))); (all_goals (try dsimp only)); (all_goals (repeat ((((fail_if_success (with_reducible show wpAny _ _ _ _ _ _)); (refine (‹∀ (x : _) (y : Shared), _ → _›) _ _ ?_); (try dsimp only))))))))
  have hl100 := W.len
  rename Fr _ _ _ _ => F
  rename News _ _ _ _ => N
  rename Obj.IsDictOf _ _ _ => hd
  rename IntsAre _ (ns ++ []) => hI
  rename _ ∧ _ => hlt
  rename_i l' _ hlt' D ws _ _ _ _ _ _
  rw [List.append_nil] at hI
  have hDw : D ≠ wd := Nat.ne_of_gt hlt.2
  have hlw : l' ≠ wd := Nat.ne_of_gt hlt'
  have hDl : D ≠ l' := Nat.ne_of_gt hlt.1
  refine lt_in (x := x) (z := 0) (ltx_all W B (rows.length + 1)) C F N (by k_mem) hd hw2 HR hv hok (hbg.at fun o e => F.keep _ o e) (list_ne hbg) hi (free_le _ _) (by first | exact Nat.le_of_ble_eq_true rfl | assumption | (first | lia | omega)) (by first | exact Nat.le_of_ble_eq_true rfl | assumption | (first | lia | omega)) (by first | exact Nat.le_of_ble_eq_true rfl | assumption | (first | lia | omega)) (fun h₂ tk₂ t₂ o₂ tf₂ F' Nf hd2 => ?_)
  rw [Nat.zero_max] at hd2
  generalize hFX : far rows (rows.length + 1) x ns = fx at hd2
  generalize hTX : txt rows (rows.length + 1) x ns = tx
  have N' := Nf [(D, listOf ws.toArray 0), (l', listOf #[] 0)] (fun q hq => by (rcases List.mem_cons.mp hq with rfl | hq; (k_mem); (rw [List.mem_singleton.mp hq]; k_mem))) (fun q hq => by (rcases List.mem_cons.mp hq with rfl | hq; (exact hDw); (rw [List.mem_singleton.mp hq]; exact hlw)))
  clear F N Nf hd
  (((repeat' ((fail_if_success ((with_reducible (first | (show wpAny _ _ (exec (Stmt.While _ _ _ _) _) _ _ _) | (show wpAny _ _ (exec (Stmt.For _ _ _ _ _) _) _ _ _) | (show wpAny _ _ (eval (PySem.Expr.ListComp _ _ _ _) _) _ _ _) | (show wpAny _ _ (exec (Stmt.Try _ _ _ _ _) _) _ _ _))))); (first | walk1 | (dsimp only; walk1) | (k_unfold; (try dsimp only)) | (refine hKS _ _ ?_; clear hKS KS; (try dsimp only))))); (all_goals (try dsimp only)); (all_goals (repeat ((((fail_if_success (with_reducible show wpAny _ _ _ _ _ _)); (refine (‹∀ (x : _) (y : Shared), _ → _›) _ _ ?_); (try dsimp only))))))))
  refine wpAny_Try_except ?_
  (((repeat' ((fail_if_success ((with_reducible (first | (show wpAny _ _ (exec (Stmt.While _ _ _ _) _) _ _ _) | (show wpAny _ _ (exec (Stmt.For _ _ _ _ _) _) _ _ _) | (show wpAny _ _ (eval (PySem.Expr.ListComp _ _ _ _) _) _ _ _) | (show wpAny _ _ (exec (Stmt.Try _ _ _ _ _) _) _ _ _))))); (first | walk1 | (dsimp only; walk1) | (k_unfold; (try dsimp only)) | (refine hKS _ _ ?_; clear hKS KS; (try dsimp only))))); (all_goals (try dsimp only)); (all_goals (repeat ((((fail_if_success (with_reducible show wpAny _ _ _ _ _ _)); (refine (‹∀ (x : _) (y : Shared), _ → _›) _ _ ?_); (try dsimp only))))))))
  rename Fr _ _ _ _ => F
  rename News _ _ _ _ => N
  have hwm := N (wd, o₂) (.head _)
  have hDm := N (D, listOf ws.toArray 0) (.tail _ (.head _))
  subst hns
  refine to_text_spec W B (f := rows.length + 1) (HT.up _ _ F.keep) (hv.up F.keep) hok (free_le _ _) (Cb.at0 C F (by unfold Bud; (first | lia | omega)) (by unfold Bud; (first | lia | omega))) ?_ ?_
  · intro h15 h' tk' t S
    rw [hFX] at h15
    rw [hTX]
    have F' := Fr.st0 F S
    have N' := News.st0 N S
    clear F N S
    have hd1 : decide ((fx : Int) < 16) = true := decide_eq_true (by (first | lia | omega))
    (((repeat' ((fail_if_success ((with_reducible (first | (show wpAny _ _ (compareOp _ _ _) _ _ _))))); (first | walk1 | (dsimp only; walk1) | (k_unfold; (try dsimp only)) | (refine hKS _ _ ?_; clear hKS KS; (try dsimp only))))); (all_goals (try dsimp only)); (all_goals (repeat ((((fail_if_success (with_reducible show wpAny _ _ _ _ _ _)); (refine (‹∀ (x : _) (y : Shared), _ → _›) _ _ ?_); (try dsimp only))))))))
    walk1
    try dsimp only
    (((repeat' ((fail_if_success ((with_reducible (first | (show wpAny _ _ (compareOp _ _ _) _ _ _))))); (first | walk1 | (dsimp only; walk1) | (k_unfold; (try dsimp only)) | (refine hKS _ _ ?_; clear hKS KS; (try dsimp only))))); (all_goals (try dsimp only)); (all_goals (repeat ((((fail_if_success (with_reducible show wpAny _ _ _ _ _ _)); (refine (‹∀ (x : _) (y : Shared), _ → _›) _ _ ?_); (try dsimp only))))))))
    refine P.eq_str ?_
    rw [beq_self_eq_true]
    (((repeat' ((fail_if_success ((with_reducible (first | (show wpAny _ _ (compareOp _ _ _) _ _ _))))); (first | walk1 | (dsimp only; walk1) | (k_unfold; (try dsimp only)) | (refine hKS _ _ ?_; clear hKS KS; (try dsimp only))))); (all_goals (try dsimp only)); (all_goals (repeat ((((fail_if_success (with_reducible show wpAny _ _ _ _ _ _)); (refine (‹∀ (x : _) (y : Shared), _ → _›) _ _ ?_); (try dsimp only))))))))
    rename Fr _ _ _ _ => F
    rename News _ _ _ _ => N
    refine ke_eq_ints (News.isList N (.tail _ (.head _))) (hbg.at fun o e => F.keep _ o e) hI hi (by have := C.un; (first | lia | omega)) ?_
    rw [decide_eq_true rfl]
    (((repeat' ((fail_if_success ((with_reducible (first | (show wpAny _ _ (compareOp _ _ _) _ _ _))))); (first | walk1 | (dsimp only; walk1) | (k_unfold; (try dsimp only)) | (refine hKS _ _ ?_; clear hKS KS; (try dsimp only))))); (all_goals (try dsimp only)); (all_goals (repeat ((((fail_if_success (with_reducible show wpAny _ _ _ _ _ _)); (refine (‹∀ (x : _) (y : Shared), _ → _›) _ _ ?_); (try dsimp only))))))))
    repeat ((((fail_if_success (with_reducible show wpAny _ _ _ _ _ _)); (refine (‹∀ (x : _) (y : Shared), _ → _›) _ _ ?_); (try dsimp only))))
    exact hQ _ _ fx (AgPost.of (Fr.out F)) ⟨⟨tf₂, Heap.dictOf_iff.mpr ⟨o₂, (N (wd, o₂) (.head _)).1, hd2⟩⟩, hw2⟩
  · intro h15 e h' tk' hF
    rw [hFX] at h15
    refine ag_caught (D := []) hA X' T' hwf F hwm.2.1 hwm.1 (fun q => nomatch q) (fun _ q => nomatch q) (fun q => nomatch q) hF rfl rfl (fun h'' F'' N'' hP => ?_)
    clear F N
    have X := X'
    have T := T'
    have hd1 : decide ((fx : Int) > 15) = true := decide_eq_true (by (first | lia | omega))
    (((repeat' ((fail_if_success ((with_reducible (first | (show wpAny _ _ (exec (Stmt.While _ _ _ _) _) _ _ _) | (show wpAny _ _ (exec (Stmt.For _ _ _ _ _) _) _ _ _) | (show wpAny _ _ (eval (PySem.Expr.ListComp _ _ _ _) _) _ _ _) | (show wpAny _ _ (exec (Stmt.Try _ _ _ _ _) _) _ _ _))))); (first | walk1 | (dsimp only; walk1) | (k_unfold; (try dsimp only)) | (refine hKS _ _ ?_; clear hKS KS; (try dsimp only))))); (all_goals (try dsimp only)); (all_goals (repeat ((((fail_if_success (with_reducible show wpAny _ _ _ _ _ _)); (refine (‹∀ (x : _) (y : Shared), _ → _›) _ _ ?_); (try dsimp only))))))))
    rename News _ _ _ _ => N
    rw [decide_eq_true (show 15 < (fx : Int) by (first | lia | omega))]
    repeat ((((fail_if_success (with_reducible show wpAny _ _ _ _ _ _)); (refine (‹∀ (x : _) (y : Shared), _ → _›) _ _ ?_); (try dsimp only))))
    exact hQ _ _ fx hP ⟨⟨tf₂, Heap.dictOf_iff.mpr ⟨o₂, (N (wd, o₂) (.head _)).1, hd2⟩⟩, hw2⟩
end
section
variable {prog : Program} {w : World} {mg mb : Str → Option Value} {A : Around} {s : Shared} {Q E : Value → Shared → Prop}
theorem agrees_2 {rows : List Rw} {hp wd ra bg : Addr} {qs qs' : List Raw} {v : Value} {k : Nat} {r : Rw} {vs : List Value} {ns : List Int} {z : Nat} {sep : Str} {t1 t2 : Tok} {as : List Env} (W : WFR rows) (B : Bd rows)
   (hA : A.frames = some as) (X' : (Mine.head.heap_1_39 w.params).In (hideAll s.heap (wd :: fl as))) (T' : TopRead Mine.head.view_1_40 (looseW Mine.head.view_1_40 [Str.ofString "KeepError", Str.ofString "RunBound", Str.ofString "NumberOut"]) mg mb (hideAll s.heap (wd :: fl as))) (hwf : wd ∉ fl as)
   (HT : ThingsAt prog w (hideAll s.heap [wd]) hp qs rows) (HR : RowsAt prog w (hideAll s.heap [wd]) ra qs' rows) (hw : WAt prog w s.heap wd ra z) (hv : ValAt (hideAll s.heap [wd]) v (.obj k)) (hk : k < rows.length) (hr : rows[k]? = some r) (hsort : r.sort = 1) (hsep : sep.length ≤ 2)
   (hbg : (hideAll s.heap [wd]).IsList bg vs.toArray) (hi : IntsAre vs ns) (hl : ns.length ≤ 40)
   (C0 : Cx w mg mb A s.heap [wd] 300 1000)
   (hQ : ∀ h' tk' z', AgPost as wd s.heap h' → WAt prog w h' wd ra z' → Q (.bool true) { s with heap := h', toks := tk' }) :
   wpAny (model prog w) A (call (.ref 323) [.ref hp, .ref wd, .int 2 t1, v, .str sep t2, .ref bg]) Q E s := by
  with_reducible refine gen fun GG kGG => ?_
  obtain ⟨⟨tf, hw1⟩, hw2⟩ := hw
  obtain ⟨ow, hwo, hwd⟩ := Heap.dictOf_iff.mp hw1
  with_reducible refine kGG ?_
  clear kGG GG
  refine call_rule (d := 299) (u := 997) (binds := [(Str.ofString "heap", .ref hp), (Str.ofString "w", .ref wd), (Str.ofString "way", .int 2 t1), (Str.ofString "v", v), (Str.ofString "sep", .str sep t2), (Str.ofString "begun", .ref bg)]) C0 (by k_is) (by k_is) (BindsTo.of_eq rfl) (locs rfl) (fun L h₁ tk F hk' C => ?_) (by decide)
  with_reducible refine hideQ fun KK hKK => ?_
  have X := C.X
  have T := C.T
  have N : News (hideAll s.heap [wd]) L h₁ [(wd, ow)] := fun p hp => by rw [List.mem_singleton.mp hp]; exact ⟨(hk' _ _ hwo).1, (hk' _ _ hwo).2, hideAll_none _ (.head _)⟩
  clear hk'
  with_reducible refine gen fun GG kGG => ?_
  obtain ⟨va, tg, tp, rfl, hvt⟩ := id hv
  obtain ⟨dh, eh, nh, tl, xs, d1, d2, d3, d4, d5, d6, d7⟩ := id HT.ex
  obtain ⟨x, hx⟩ : ∃ x, xs[k]? = some x := ⟨_, List.getElem?_eq_getElem (by first | exact Nat.le_of_ble_eq_true rfl | assumption | (first | lia | omega))⟩
  obtain ⟨q, hq⟩ : ∃ q, qs[k]? = some q := ⟨_, List.getElem?_eq_getElem (by first | exact Nat.le_of_ble_eq_true rfl | assumption | (first | lia | omega))⟩
  with_reducible refine kGG ?_
  clear kGG GG
  have hx' : (xs.map Value.ref)[((k : Nat) : Int).toNat]? = some (.ref x) := by rw [Int.toNat_natCast, List.getElem?_map, hx]; rfl
  have hT := d7 _ _ _ _ hx hq hr
  have hl100 := W.len
  have hk63 : (k : Int) < 2 ^ 63 := by (first | lia | omega)
  dsimp only [Vl.tag, Vl.pay] at hvt
  (((repeat' ((fail_if_success ((with_reducible (first | (show wpAny _ _ (exec (Stmt.While _ _ _ _) _) _ _ _) | (show wpAny _ _ (exec (Stmt.For _ _ _ _ _) _) _ _ _) | (show wpAny _ _ (eval (PySem.Expr.ListComp _ _ _ _) _) _ _ _) | (show wpAny _ _ (exec (Stmt.Try _ _ _ _ _) _) _ _ _))))); (first | walk1 | (dsimp only; walk1) | (k_unfold; (try dsimp only)) | (refine hKS _ _ ?_; clear hKS KS; (try dsimp only))))); (all_goals (try dsimp only)); (all_goals (repeat ((((fail_if_success (with_reducible show wpAny _ _ _ _ _ _)); (refine (‹∀ (x : _) (y : Shared), _ → _›) _ _ ?_); (try dsimp only))))))))
  rename Fr _ _ _ _ => F
  rename News _ _ _ _ => N
  rename Obj.IsDictOf _ _ _ => hd
  rename IntsAre _ (ns ++ []) => hI
  rename _ ∧ _ => hlt
  rename_i l' _ hlt' D ws _ _ _ _ _ _
  rw [List.append_nil] at hI
  have hDw : D ≠ wd := Nat.ne_of_gt hlt.2
  have hlw : l' ≠ wd := Nat.ne_of_gt hlt'
  have hDl : D ≠ l' := Nat.ne_of_gt hlt.1
  have hgb : ∀ a ∈ [wd], (hideAll s.heap [wd]).get? a = none := fun a q => hideAll_none _ q
  have hwm := N (wd, _) (by k_mem)
  have hLb : L ∉ [wd] := fun q => hwm.2.1 (List.mem_singleton.mp q).symm
  have up := under_hide F hgb
  refine law_thing_spec (z := 0) (ltx_all W B (rows.length + 1)) W B (HR.up _ _ up) hk ⟨⟨_, Heap.dictOf_iff.mpr ⟨_, hwm.1, hd⟩⟩, hw2⟩ (hbg.at fun o e => up _ o e) hi (Nat.lt_succ_of_lt (free_le _ _)) (by first | exact Nat.le_of_ble_eq_true rfl | assumption | (first | lia | omega)) hsep (Cb.at C F hgb hLb (by first | exact Nat.le_of_ble_eq_true rfl | assumption | (first | lia | omega)) (by first | exact Nat.le_of_ble_eq_true rfl | assumption | (first | lia | omega))) (fun h₂ tk₂ t₂ S hw' => ?_)
  with_reducible refine gen fun GG kGG => ?_
  obtain ⟨⟨tf₂, hw1'⟩, _⟩ := hw'
  obtain ⟨o₂, ho₂, hd2⟩ := Heap.dictOf_iff.mp hw1'
  with_reducible refine kGG ?_
  clear kGG GG
  have F' := Fr.st F S hLb hgb
  rw [Nat.zero_max] at hd2
  generalize hFX : fthg (far rows (rows.length + 1)) rows k ns = fx at hd2
  generalize hTX : thg (txt rows (rows.length + 1)) rows k ns sep = tx
  have N' : News (hideAll s.heap [wd]) L h₂ [(wd, o₂), (D, listOf ws.toArray 0), (l', listOf #[] 0)] := fun p hp => by
    refine all_cons ?_ (fun p hp => ?_) p hp
    · exact ⟨ho₂, hwm.2⟩
    · have hm : p ∈ [(D, listOf ws.toArray 0), (l', listOf #[] 0)] := hp
      have hne : p.1 ≠ wd := by (rcases List.mem_cons.mp hm with rfl | hq; (exact hDw); (rw [List.mem_singleton.mp hq]; exact hlw))
      have hn := N p (by (rcases List.mem_cons.mp hm with rfl | hq; (k_mem); (rw [List.mem_singleton.mp hq]; k_mem)))
      exact ⟨S _ _ (fun q => hne (List.mem_singleton.mp q)) hn.1, hn.2⟩
  clear F N hd up hwm hgb hLb S
  (((repeat' ((fail_if_success ((with_reducible (first | (show wpAny _ _ (exec (Stmt.While _ _ _ _) _) _ _ _) | (show wpAny _ _ (exec (Stmt.For _ _ _ _ _) _) _ _ _) | (show wpAny _ _ (eval (PySem.Expr.ListComp _ _ _ _) _) _ _ _) | (show wpAny _ _ (exec (Stmt.Try _ _ _ _ _) _) _ _ _))))); (first | walk1 | (dsimp only; walk1) | (k_unfold; (try dsimp only)) | (refine hKS _ _ ?_; clear hKS KS; (try dsimp only))))); (all_goals (try dsimp only)); (all_goals (repeat ((((fail_if_success (with_reducible show wpAny _ _ _ _ _ _)); (refine (‹∀ (x : _) (y : Shared), _ → _›) _ _ ?_); (try dsimp only))))))))
  refine wpAny_Try_except ?_
  (((repeat' ((fail_if_success ((with_reducible (first | (show wpAny _ _ (exec (Stmt.While _ _ _ _) _) _ _ _) | (show wpAny _ _ (exec (Stmt.For _ _ _ _ _) _) _ _ _) | (show wpAny _ _ (eval (PySem.Expr.ListComp _ _ _ _) _) _ _ _) | (show wpAny _ _ (exec (Stmt.Try _ _ _ _ _) _) _ _ _))))); (first | walk1 | (dsimp only; walk1) | (k_unfold; (try dsimp only)) | (refine hKS _ _ ?_; clear hKS KS; (try dsimp only))))); (all_goals (try dsimp only)); (all_goals (repeat ((((fail_if_success (with_reducible show wpAny _ _ _ _ _ _)); (refine (‹∀ (x : _) (y : Shared), _ → _›) _ _ ?_); (try dsimp only))))))))
  rename Fr _ _ _ _ => F
  rename News _ _ _ _ => N
  have hwm := N (wd, o₂) (.head _)
  have hDm := N (D, listOf ws.toArray 0) (.tail _ (.head _))
  have hgb : ∀ a ∈ [D], (hideAll s.heap [wd]).get? a = none := fun a q => by rw [List.mem_singleton.mp q]; exact hDm.2.2
  have hLD : L ∉ [D] := fun q => hDm.2.1 (List.mem_singleton.mp q).symm
  have up := under_hide F hgb
  refine items_text_spec (tti_all W B (rows.length + 1)) (HT.up _ _ up) W B (hT.up _ _ up) hr hsort hsep ⟨_, _, hDm.1, by simpa using hI⟩ (Nat.lt_succ_of_lt (free_le _ _)) hl (Cb.at C F hgb hLD (by unfold Bud; (first | lia | omega)) (by unfold Bud; (first | lia | omega))) ?_ ?_
  · intro h15 h' tk' t S hRp1
    with_reducible refine gen fun GG kGG => ?_
    obtain ⟨its', n', hb', hi'⟩ := hRp1
    with_reducible refine kGG ?_
    clear kGG GG
    rw [hFX] at h15
    rw [hTX]
    have F' := Fr.st F S hLD hgb
    have N' : News (hideAll s.heap [wd]) L h' [(D, listOf its' n'), (wd, o₂)] := fun p hp => by
      refine all_cons ?_ (fun p hp => ?_) p hp
      · exact ⟨hb', hDm.2⟩
      · rw [List.mem_singleton.mp hp]; exact ⟨S _ _ (fun q => hDw (List.mem_singleton.mp q).symm) hwm.1, hwm.2⟩
    clear F N S up
    have hd1 : decide ((fx : Int) < 16) = true := decide_eq_true (by (first | lia | omega))
    with_reducible refine gen fun GG kGG => ?_
    obtain ⟨us, rfl⟩ : ∃ us : List Value, its' = us.toArray := ⟨its'.toList, by simp⟩
    with_reducible refine kGG ?_
    clear kGG GG
    replace hi' : IntsAre us ns := by simpa using hi'
    (((repeat' ((fail_if_success ((with_reducible (first | (show wpAny _ _ (compareOp _ _ _) _ _ _))))); (first | walk1 | (dsimp only; walk1) | (k_unfold; (try dsimp only)) | (refine hKS _ _ ?_; clear hKS KS; (try dsimp only))))); (all_goals (try dsimp only)); (all_goals (repeat ((((fail_if_success (with_reducible show wpAny _ _ _ _ _ _)); (refine (‹∀ (x : _) (y : Shared), _ → _›) _ _ ?_); (try dsimp only))))))))
    walk1
    try dsimp only
    (((repeat' ((fail_if_success ((with_reducible (first | (show wpAny _ _ (compareOp _ _ _) _ _ _))))); (first | walk1 | (dsimp only; walk1) | (k_unfold; (try dsimp only)) | (refine hKS _ _ ?_; clear hKS KS; (try dsimp only))))); (all_goals (try dsimp only)); (all_goals (repeat ((((fail_if_success (with_reducible show wpAny _ _ _ _ _ _)); (refine (‹∀ (x : _) (y : Shared), _ → _›) _ _ ?_); (try dsimp only))))))))
    refine P.eq_str ?_
    rw [beq_self_eq_true]
    (((repeat' ((fail_if_success ((with_reducible (first | (show wpAny _ _ (compareOp _ _ _) _ _ _))))); (first | walk1 | (dsimp only; walk1) | (k_unfold; (try dsimp only)) | (refine hKS _ _ ?_; clear hKS KS; (try dsimp only))))); (all_goals (try dsimp only)); (all_goals (repeat ((((fail_if_success (with_reducible show wpAny _ _ _ _ _ _)); (refine (‹∀ (x : _) (y : Shared), _ → _›) _ _ ?_); (try dsimp only))))))))
    rename Fr _ _ _ _ => F
    rename News _ _ _ _ => N
    refine ke_eq_ints (News.isList N (.head _)) (hbg.at fun o e => F.keep _ o e) hi' hi (by have := C.un; (first | lia | omega)) ?_
    rw [decide_eq_true rfl]
    (((repeat' ((fail_if_success ((with_reducible (first | (show wpAny _ _ (compareOp _ _ _) _ _ _))))); (first | walk1 | (dsimp only; walk1) | (k_unfold; (try dsimp only)) | (refine hKS _ _ ?_; clear hKS KS; (try dsimp only))))); (all_goals (try dsimp only)); (all_goals (repeat ((((fail_if_success (with_reducible show wpAny _ _ _ _ _ _)); (refine (‹∀ (x : _) (y : Shared), _ → _›) _ _ ?_); (try dsimp only))))))))
    repeat ((((fail_if_success (with_reducible show wpAny _ _ _ _ _ _)); (refine (‹∀ (x : _) (y : Shared), _ → _›) _ _ ?_); (try dsimp only))))
    exact hQ _ _ fx (AgPost.of (Fr.out F)) ⟨⟨tf₂, Heap.dictOf_iff.mpr ⟨o₂, (N (wd, o₂) (.tail _ (.head _))).1, hd2⟩⟩, hw2⟩
  · intro h15 e h' tk' hF
    rw [hFX] at h15
    refine ag_caught hA X' T' hwf F hwm.2.1 hwm.1 (fun q => hDw (List.mem_singleton.mp q).symm) hgb hLD hF rfl rfl (fun h'' F'' N'' hP => ?_)
    clear F N up
    have X := X'
    have T := T'
    have hd1 : decide ((fx : Int) > 15) = true := decide_eq_true (by (first | lia | omega))
    (((repeat' ((fail_if_success ((with_reducible (first | (show wpAny _ _ (exec (Stmt.While _ _ _ _) _) _ _ _) | (show wpAny _ _ (exec (Stmt.For _ _ _ _ _) _) _ _ _) | (show wpAny _ _ (eval (PySem.Expr.ListComp _ _ _ _) _) _ _ _) | (show wpAny _ _ (exec (Stmt.Try _ _ _ _ _) _) _ _ _))))); (first | walk1 | (dsimp only; walk1) | (k_unfold; (try dsimp only)) | (refine hKS _ _ ?_; clear hKS KS; (try dsimp only))))); (all_goals (try dsimp only)); (all_goals (repeat ((((fail_if_success (with_reducible show wpAny _ _ _ _ _ _)); (refine (‹∀ (x : _) (y : Shared), _ → _›) _ _ ?_); (try dsimp only))))))))
    rename News _ _ _ _ => N
    rw [decide_eq_true (show 15 < (fx : Int) by (first | lia | omega))]
    repeat ((((fail_if_success (with_reducible show wpAny _ _ _ _ _ _)); (refine (‹∀ (x : _) (y : Shared), _ → _›) _ _ ?_); (try dsimp only))))
    exact hQ _ _ fx hP ⟨⟨tf₂, Heap.dictOf_iff.mpr ⟨o₂, (N (wd, o₂) (.head _)).1, hd2⟩⟩, hw2⟩
end
/-- a loop whose turns may leave new things: the ledger may grow -/
noncomputable def TurnEndG (g : Heap) (L : Addr) (J : (Str → Option Value) → List (Addr × Obj) → Prop) (κ : List (Addr × Obj)) (s₁ s₂ : Shared) : Prop :=
  ∃ h' tk m' μ', s₂ = { s₁ with heap := h', toks := tk } ∧ Fr g L h' m' ∧ News g L h' (μ' ++ κ) ∧ (∀ p ∈ κ, ∀ q ∈ μ', p.1 ≠ q.1) ∧ J m' μ'
noncomputable def TurnPostG (g : Heap) (L : Addr) (J : (Str → Option Value) → List (Addr × Obj) → Prop) (κ : List (Addr × Obj)) (s₁ : Shared) (Q : Flow → Shared → Prop) (f : Flow) (s₂ : Shared) : Prop :=
  match f with
  | .ret v => Q (.ret v) s₂
  | .brk => Q .next s₂
  | _ => TurnEndG g L J κ s₁ s₂
section
variable {prog : Program} {w : World} {A : Around} {E : Value → Shared → Prop} {s : Shared} {env : Env} {g : Heap} {x : Str} {body : List Stmt} {Q : Flow → Shared → Prop}
theorem loop_gr {I : Addr} {fp : List Addr} {n : Nat} {P : Nat → Value → Prop} {St : Nat → Heap → Prop} {m₀ : Str → Option Value} {μ : List (Addr × Obj)} (J : Nat → (Str → Option Value) → List (Addr × Obj) → Prop)
    (W : Walks prog w A I fp [I] n P St) (hI : I ∈ fp) (hst : St 0 s.heap) (hfp : ∀ b ∈ fp, b ≠ env.locals) (hnew : g.get? I = none) (hAt : ∀ i h, St i h → ∀ b ∈ fp, ∃ o, h.get? b = some o) (hsep : ∀ b ∈ fp, ∀ q ∈ μ, q.1 ≠ b)
    (F : Fr g env.locals s.heap m₀) (N : News g env.locals s.heap μ) (h0 : J 0 m₀ μ)
    (turn : ∀ i v m₁ μ₁ h tk κ, i < n → P i v → J i m₁ μ₁ → Fr g env.locals h (fun y => if y = x then some v else m₁ y) → News g env.locals h (μ₁ ++ κ) → (∀ p ∈ κ, ∀ q ∈ μ₁, p.1 ≠ q.1) →
      wpAny (model prog w) A (execs body env) (TurnPostG g env.locals (J (i + 1)) κ { s with heap := h, toks := tk } Q) E { s with heap := h, toks := tk })
    (done : ∀ m₁ μ₁ h tk, J n m₁ μ₁ → Fr g env.locals h m₁ → News g env.locals h μ₁ → Q .next { s with heap := h, toks := tk }) :
    LoopAtV prog w A g env x body Q E (.ref I) s := by
  refine ⟨I, fp, [I], n, P, St, m₀, μ, fun i m₁ μ₁ => (∀ b ∈ fp, ∀ q ∈ μ₁, q.1 ≠ b) ∧ J i m₁ μ₁, rfl, W, fun q => hfp _ q rfl, fun b hb => by rw [List.mem_singleton.mp hb]; exact hnew,
    fun p hp q => hsep I hI p hp (List.mem_singleton.mp q), hst, F, N, ⟨hsep, h0⟩, ?_, fun h' tk m' μ' F' N' _ hJ => done m' μ' h' tk hJ.2 F' N'⟩
  intro i v m₁ μ₁ s₁ own hRp1
  with_reducible refine gen fun GG kGG => ?_
  obtain ⟨h, tk, rfl⟩ := hRp1
  with_reducible refine kGG ?_
  clear kGG GG
  intro hi hP hRp2
  with_reducible refine gen fun GG kGG => ?_
  obtain ⟨ha, hJ⟩ := hRp2
  with_reducible refine kGG ?_
  clear kGG GG
  intro hw hown _ hall hSt F₁ N₁
  refine wpAny_mono (turn i v m₁ μ₁ h tk own hi hP hJ F₁ (fun p hp => N₁ p ?_) fun p hp q hq e => ha p.1 (hown p hp) q hq e.symm) (fun f s₂ hf => ?_) fun _ _ e => e
  · rcases List.mem_append.mp hp with q | q
    · exact List.mem_append_right _ q
    · exact List.mem_append_left _ q
  · have fin : TurnEndG g env.locals (J (i + 1)) own { s with heap := h, toks := tk } s₂ → LoopStepU g env.locals [I] own (fun m₁ μ₁ => (∀ b ∈ fp, ∀ q ∈ μ₁, q.1 ≠ b) ∧ J (i + 1) m₁ μ₁) { s with heap := h, toks := tk } .next s₂ := by
      intro hRp1
      with_reducible refine gen fun GG kGG => ?_
      obtain ⟨h', tk', m', μ', rfl, F', N', hκ, hJ'⟩ := hRp1
      with_reducible refine kGG ?_
      clear kGG GG
      have off : ∀ b ∈ fp, ∀ q ∈ μ', q.1 ≠ b := fun b hb q hq e => by
        cases hg : g.get? b with
        | none =>
          with_reducible refine gen fun GG kGG => ?_
          obtain ⟨o, ho⟩ := hAt _ _ hSt b hb
          with_reducible refine kGG ?_
          clear kGG GG
          exact hκ _ (hall b hb hg o ho) q hq e.symm
        | some o =>
          have := (N' q (List.mem_append_left _ hq)).2.2
          rw [e, hg] at this; cases this
      refine ⟨rfl, h', tk', m', μ', rfl, F', fun p hp => N' p ?_, fun p hp q => off I hI p hp (List.mem_singleton.mp q), off, hJ'⟩
      rcases List.mem_append.mp hp with q | q
      · exact List.mem_append_right _ q
      · exact List.mem_append_left _ q
    cases f with
    | ret v => exact .ret hf
    | brk => exact .brk hf
    | next => exact .next (fin hf)
    | cont => exact .cont (fin hf)

/-- over a list that stands while the loop runs -/
theorem loop_grList {l : Addr} {vs : List Value} {m₀ : Str → Option Value} {μ : List (Addr × Obj)} (J : Nat → (Str → Option Value) → List (Addr × Obj) → Prop)
    (hh : A.handled = none) (hl : s.heap.IsList l vs.toArray) (hlL : l ≠ env.locals) (hlm : ∀ q ∈ μ, q.1 ≠ l) (F : Fr g env.locals s.heap m₀) (N : News g env.locals s.heap μ) (h0 : J 0 m₀ μ)
    (turn : ∀ i v m₁ μ₁ h tk κ, vs[i]? = some v → J i m₁ μ₁ → Fr g env.locals h (fun y => if y = x then some v else m₁ y) → News g env.locals h (μ₁ ++ κ) → (∀ p ∈ κ, ∀ q ∈ μ₁, p.1 ≠ q.1) →
      wpAny (model prog w) A (execs body env) (TurnPostG g env.locals (J (i + 1)) κ { s with heap := h, toks := tk } Q) E { s with heap := h, toks := tk })
    (done : ∀ m₁ μ₁ h tk, J vs.length m₁ μ₁ → Fr g env.locals h m₁ → News g env.locals h μ₁ → Q .next { s with heap := h, toks := tk }) :
    wpAny (model prog w) A (pyIter (.ref l)) (fun it s₂ => LoopAtV prog w A g env x body Q E it s₂) E s := by
  have hlt : l < s.heap.objs.size := by obtain ⟨o, ho, _⟩ := hl; exact Heap.lt_size ho
  refine wpAny_pyIter_list hl ?_
  have W := Walks.list (prog := prog) (w := w) hh s.heap.objs.size l (Nat.ne_of_lt hlt) vs.toArray
  rw [List.size_toArray] at W
  refine loop_gr J W (by simp) ⟨⟨_, Heap.get?_push_size _ rfl, rfl, rfl⟩, hl.at fun o e => Heap.get?_push_of_some _ e⟩ ?_ (next_is_new F) ?_ ?_ (F.push _) (fun p hp => ⟨Heap.get?_push_of_some _ (N p hp).1, (N p hp).2⟩) h0 ?_ done
  · intro b hb
    refine all_cons ?_ (fun b hb => ?_) b hb
    · exact Nat.ne_of_gt F.ns.lt
    · rw [List.mem_singleton.mp hb]; exact hlL
  · intro i h hRp1
    with_reducible refine gen fun GG kGG => ?_
    obtain ⟨⟨o, ho, _⟩, ⟨o', ho', _⟩⟩ := hRp1
    with_reducible refine kGG ?_
    clear kGG GG
    intro b hb
    refine all_cons ?_ (fun b hb => ?_) b hb
    · exact ⟨o, ho⟩
    · rw [List.mem_singleton.mp hb]; exact ⟨o', ho'⟩
  · intro b hb q hq
    refine all_cons ?_ (fun b hb => ?_) b hb
    · exact Nat.ne_of_lt (Heap.lt_size (N q hq).1)
    · rw [List.mem_singleton.mp hb]; exact hlm q hq
  · intro i v m₁ μ₁ h tk κ hi hP
    exact turn i v m₁ μ₁ h tk κ (by simpa using hP)

theorem loop_grRange {r : Addr} {a₀ b₀ : Int} {t₀ u₀ v₀ : Tok} {n : Nat} {m₀ : Str → Option Value} {μ : List (Addr × Obj)} (J : Nat → (Str → Option Value) → List (Addr × Obj) → Prop)
    (hh : A.handled = none) (hr : IsRange s.heap r a₀ b₀ 1 t₀ u₀ v₀) (hsmall : Builtin.Range.small a₀ b₀ 1 = true) (hn : Builtin.Range.rangeSize a₀ b₀ 1 = (n : Int)) (F : Fr g env.locals s.heap m₀) (N : News g env.locals s.heap μ) (h0 : J 0 m₀ μ)
    (turn : ∀ i t m₁ μ₁ h tk κ, i < n → J i m₁ μ₁ → Fr g env.locals h (fun y => if y = x then some (.int (a₀ + (i : Int)) t) else m₁ y) → News g env.locals h (μ₁ ++ κ) → (∀ p ∈ κ, ∀ q ∈ μ₁, p.1 ≠ q.1) →
      wpAny (model prog w) A (execs body env) (TurnPostG g env.locals (J (i + 1)) κ { s with heap := h, toks := tk } Q) E { s with heap := h, toks := tk })
    (done : ∀ m₁ μ₁ h tk, J n m₁ μ₁ → Fr g env.locals h m₁ → News g env.locals h μ₁ → Q .next { s with heap := h, toks := tk }) :
    wpAny (model prog w) A (pyIter (.ref r)) (fun it s₂ => LoopAtV prog w A g env x body Q E it s₂) E s := by
  refine wpAny_pyIter_range hr hsmall ?_
  have W := Walks.range (prog := prog) (w := w) hh s.heap.objs.size a₀ 1 n
  refine loop_gr J W (by simp) (by show IsRangeIter _ _ _ _ _; rw [hn]; simpa using Heap.get?_push_size _ rfl) ?_ (next_is_new F) ?_ ?_ (F.push _) (fun p hp => ⟨Heap.get?_push_of_some _ (N p hp).1, (N p hp).2⟩) h0 ?_ done
  · intro b hb
    rw [List.mem_singleton.mp hb]; exact Nat.ne_of_gt F.ns.lt
  · intro i h hs b hb
    rw [List.mem_singleton.mp hb]
    exact ⟨_, hs⟩
  · intro b hb q hq
    rw [List.mem_singleton.mp hb]; exact Nat.ne_of_lt (Heap.lt_size (N q hq).1)
  · intro i v m₁ μ₁ h tk κ hi hRp1
    with_reducible refine gen fun GG kGG => ?_
    obtain ⟨t, rfl⟩ := hRp1
    with_reducible refine kGG ?_
    clear kGG GG
    rw [Int.mul_one]
    exact turn i t m₁ μ₁ h tk κ hi
theorem l_len {A : Around} {E Q : Value → Shared → Prop} {s : Shared} {a : Addr} {vs : List Value} {n : Nat} (hl : s.heap.IsList a vs.toArray) (hn : vs.length = n) (hs : n ≤ 1000000) (h : Q (.int (n : Int) (s.toks + 1)) { s with toks := s.toks + 1 + 1 }) : wpAny (model prog w) A (call (.builtin "len") [.ref a]) Q E s := by
  refine len_list hl (by rw [List.size_toArray, hn]; (first | lia | omega)) ?_
  rw [List.size_toArray, hn]; exact h
end
local macro_rules | `(tactic| walk_at "call builtin:len") => `(tactic| (k_dflt (refine' l_len ?k1 ?k2 ?k3 ?_; (case k1 => walk_at "m_list"); (case k2 => assumption); (case k3 => omega); k_whole)))
theorem range_size (n : Nat) : Builtin.Range.rangeSize 0 (n : Int) 1 = (n : Int) := by unfold Builtin.Range.rangeSize; split <;> (try split) <;> (first | lia | omega)
theorem range_small {n : Nat} (h : n ≤ 1000000) : Builtin.Range.small 0 (n : Int) 1 = true := by
  unfold Builtin.Range.small Builtin.Range.rangeFitsLong
  rw [range_size]
  simp
  (first | lia | omega)
section
variable {prog : Program} {w : World} {mg mb : Str → Option Value} {A : Around} {s : Shared} {Q E : Value → Shared → Prop}
theorem ne_same_list {a b : Addr} {vs : List Value} (ha : s.heap.IsList a vs.toArray) (hb : s.heap.IsList b vs.toArray) (hu : A.units < cLine) (h : Q (.bool false) s) : wpAny (model prog w) A (compareOp .NotEq (.ref a) (.ref b)) Q E s := by
  refine SeqAt.RcNeAt.lists (e := fun _ => true) ha hb rfl hu (fun j _ _ => SeqAt.EqAt.same _) prog w E Q ?_
  rw [show (List.range vs.toArray.size).all (fun _ => true) = true from List.all_eq_true.mpr fun _ _ => rfl]
  exact h
theorem hits_same {A : Around} {s : Shared} : ∀ (kvs pre : List (Str × Value)), ((pre ++ kvs).map (·.1)).Nodup → KeqHits A s (pre ++ kvs) kvs true
  | [], _, _ => .nil
  | (k, v) :: r, pre, hn => by
    have h1 : valueAt (pre ++ (k, v) :: r) k = some v := by
      unfold valueAt
      rw [List.find?_append]
      have : pre.find? (fun kv => decide (kv.1 = k)) = none := by
        rw [List.find?_eq_none]
        intro p hp e
        have e := of_decide_eq_true e
        rw [List.map_append, List.map_cons] at hn
        have := (List.nodup_append.mp hn).2.2 p.1 (List.mem_map_of_mem hp) k (.head _)
        exact this e
      rw [this]
      simp
    have h2 := hits_same (A := A) (s := s) r (pre ++ [(k, v)]) (by rw [List.append_assoc]; exact hn)
    rw [List.append_assoc] at h2
    have := KeqHits.hit h1 (SeqAt.EqAt.same (A := A) (s := s) v) h2
    exact this
theorem ne_same_dict {a b : Addr} {kvs : List (Str × Value)} (ha : (a == sysModules) = false) (hb : (b == sysModules) = false) (da : s.heap.DictOf (PySem.strKind prog w) a kvs) (db : s.heap.DictOf (PySem.strKind prog w) b kvs) (hu : A.units < cLine) (h : Q (.bool false) s) :
    wpAny (model prog w) A (compareOp .NotEq (.ref a) (.ref b)) Q E s := by
  refine keq_ne (r := true) ha hb da db hu (fun _ => ?_) ?_
  · with_reducible refine gen fun GG kGG => ?_
    obtain ⟨_, _, _, _, _, _, _, _, hn⟩ := da
    with_reducible refine kGG ?_
    clear kGG GG
    exact hits_same kvs [] hn
  · rw [beq_self_eq_true]; exact h
theorem stands_spec {rows : List Rw} {hp ra : Addr} {qs : List Raw} (W : WFR rows) (HT : ThingsAt prog w s.heap hp qs rows) (HR : RowsAt prog w s.heap ra qs rows) (C0 : Cx w mg mb A s.heap [] 3 10)
   (hQ : ∀ h' tk', Stays [] s.heap h' → Q (.bool true) { s with heap := h', toks := tk' }) :
   wpAny (model prog w) A (call (.ref 297) [.ref hp, .ref ra]) Q E s := by
  refine call_rule0 (d := 2) (u := 7) (binds := [(Str.ofString "heap", .ref hp), (Str.ofString "rows", .ref ra)]) C0 (by k_is) (by k_is) (BindsTo.of_eq rfl) (locs rfl) (fun L h₁ tk F N C => ?_) (by decide)
  with_reducible refine hideQ fun KK hKK => ?_
  have X := C.X
  have T := C.T
  have hl100 := W.len
  with_reducible refine gen fun GG kGG => ?_
  obtain ⟨dh, eh, nh, tl, xs, d1, d2, d3, d4, d5, d6, d7⟩ := id HT.ex
  obtain ⟨ys, r4, r5, r6, r7⟩ := id HR.ex
  with_reducible refine kGG ?_
  clear kGG GG
  have hx1 : (xs.map Value.ref).length = rows.length := by rw [List.length_map, d5]
  have hy1 : (ys.map Value.ref).length = rows.length := by rw [List.length_map, r5]
  (((repeat' ((fail_if_success ((with_reducible (first | (show wpAny _ _ (exec (Stmt.While _ _ _ _) _) _ _ _) | (show wpAny _ _ (exec (Stmt.For _ _ _ _ _) _) _ _ _) | (show wpAny _ _ (eval (PySem.Expr.ListComp _ _ _ _) _) _ _ _) | (show wpAny _ _ (exec (Stmt.Try _ _ _ _ _) _) _ _ _))))); (first | walk1 | (dsimp only; walk1) | (k_unfold; (try dsimp only)) | (refine hKS _ _ ?_; clear hKS KS; (try dsimp only))))); (all_goals (try dsimp only)); (all_goals (repeat ((((fail_if_success (with_reducible show wpAny _ _ _ _ _ _)); (refine (‹∀ (x : _) (y : Shared), _ → _›) _ _ ?_); (try dsimp only))))))))
  all_goals first
    | (rename ((rows.length : Nat) : Int) ≠ _ => hbad; exact absurd rfl hbad)
    | skip
  refine For_invV s.heap rfl rfl ?_
  (((repeat' ((fail_if_success ((with_reducible (first | (show wpAny _ _ (exec (Stmt.While _ _ _ _) _) _ _ _) | (show wpAny _ _ (exec (Stmt.For _ _ _ _ _) _) _ _ _) | (show wpAny _ _ (eval (PySem.Expr.ListComp _ _ _ _) _) _ _ _) | (show wpAny _ _ (exec (Stmt.Try _ _ _ _ _) _) _ _ _))))); (first | walk1 | (dsimp only; walk1) | (k_unfold; (try dsimp only)) | (refine hKS _ _ ?_; clear hKS KS; (try dsimp only))))); (all_goals (try dsimp only)); (all_goals (repeat ((((fail_if_success (with_reducible show wpAny _ _ _ _ _ _)); (refine (‹∀ (x : _) (y : Shared), _ → _›) _ _ ?_); (try dsimp only))))))))
  rename IsRange _ _ _ _ _ _ _ _ => hR
  rename Fr _ _ _ _ => F
  rename News _ _ _ _ => N
  refine loop_grRange (n := rows.length) (fun i m₁ μ₁ => μ₁ = [] ∧ m₁ (Str.ofString "heap") = some (.ref hp) ∧ m₁ (Str.ofString "rows") = some (.ref ra)) (Cb.hd C) hR (range_small (by first | exact Nat.le_of_ble_eq_true rfl | assumption | (first | lia | omega))) (range_size _) F N ⟨rfl, rfl, rfl⟩ ?_ ?_
  · clear F N
    intro i t m₁ μ₁ h tk κ hi hRp1
    with_reducible refine gen fun GG kGG => ?_
    obtain ⟨rfl, m1, m2⟩ := hRp1
    with_reducible refine kGG ?_
    clear kGG GG
    intro F N hκ
    with_reducible refine hideQ fun KK hKK => ?_
    rw [Int.zero_add] at F
    rw [List.nil_append] at N
    have hi63 : (i : Int) < 2 ^ 63 := by (first | lia | omega)
    with_reducible refine gen fun GG kGG => ?_
    obtain ⟨x, hx⟩ : ∃ x, xs[i]? = some x := ⟨_, List.getElem?_eq_getElem (by first | exact Nat.le_of_ble_eq_true rfl | assumption | (first | lia | omega))⟩
    obtain ⟨y, hy⟩ : ∃ y, ys[i]? = some y := ⟨_, List.getElem?_eq_getElem (by first | exact Nat.le_of_ble_eq_true rfl | assumption | (first | lia | omega))⟩
    obtain ⟨q, hq⟩ : ∃ q, qs[i]? = some q := ⟨_, List.getElem?_eq_getElem (by first | exact Nat.le_of_ble_eq_true rfl | assumption | (first | lia | omega))⟩
    obtain ⟨r, hr⟩ : ∃ r, rows[i]? = some r := ⟨_, List.getElem?_eq_getElem (by first | exact Nat.le_of_ble_eq_true rfl | assumption | (first | lia | omega))⟩
    with_reducible refine kGG ?_
    clear kGG GG
    have hx' : (xs.map Value.ref)[((i : Nat) : Int).toNat]? = some (.ref x) := by rw [Int.toNat_natCast, List.getElem?_map, hx]; rfl
    have hy' : (ys.map Value.ref)[((i : Nat) : Int).toNat]? = some (.ref y) := by rw [Int.toNat_natCast, List.getElem?_map, hy]; rfl
    have hT := d7 _ _ _ _ hx hq hr
    have hRw := r7 _ _ _ _ hy hq hr
    with_reducible refine gen fun GG kGG => ?_
    obtain ⟨dx, es, n', sl, gl, ul, il, t1, t2, t3, a1, a2, b1, b2, b3, b4, b5, b6, b7, c1, c2, c3, c4, c5, c6, c7⟩ := id hT.ex
    obtain ⟨it, ow, u1, u2, e1, e2, e3, e4, e5⟩ := id hRw.ex
    with_reducible refine kGG ?_
    clear kGG GG
    (((repeat' ((fail_if_success ((with_reducible (first | (show wpAny _ _ (compareOp _ _ _) _ _ _))))); (first | walk1 | (dsimp only; walk1) | (k_unfold; (try dsimp only)) | (refine hKS _ _ ?_; clear hKS KS; (try dsimp only))))); (all_goals (try dsimp only)); (all_goals (repeat ((((fail_if_success (with_reducible show wpAny _ _ _ _ _ _)); (refine (‹∀ (x : _) (y : Shared), _ → _›) _ _ ?_); (try dsimp only))))))))
    rename Fr _ _ _ _ => F
    rename News _ _ _ _ => N
    have hu : (A.deeper (envOf (Str.ofString "_law_stands") _ L 297 (.ref 296))).units < cLine := Nat.lt_of_le_of_lt (Nat.le_add_right _ _) C.un
    refine ne_same_list (c7.at fun o e => F.keep _ o e) (e3.at fun o e => F.keep _ o e) hu ?_
    (((repeat' ((fail_if_success ((with_reducible (first | (show wpAny _ _ (compareOp _ _ _) _ _ _))))); (first | walk1 | (dsimp only; walk1) | (k_unfold; (try dsimp only)) | (refine hKS _ _ ?_; clear hKS KS; (try dsimp only))))); (all_goals (try dsimp only)); (all_goals (repeat ((((fail_if_success (with_reducible show wpAny _ _ _ _ _ _)); (refine (‹∀ (x : _) (y : Shared), _ → _›) _ _ ?_); (try dsimp only))))))))
    refine ne_same_dict c2 e5 (c1.keep F.keep) (e4.keep F.keep) hu ?_
    (((repeat' ((fail_if_success ((with_reducible (first | (show wpAny _ _ (exec (Stmt.While _ _ _ _) _) _ _ _) | (show wpAny _ _ (exec (Stmt.For _ _ _ _ _) _) _ _ _) | (show wpAny _ _ (eval (PySem.Expr.ListComp _ _ _ _) _) _ _ _) | (show wpAny _ _ (exec (Stmt.Try _ _ _ _ _) _) _ _ _))))); (first | walk1 | (dsimp only; walk1) | (k_unfold; (try dsimp only)) | (refine hKS _ _ ?_; clear hKS KS; (try dsimp only))))); (all_goals (try dsimp only)); (all_goals (repeat ((((fail_if_success (with_reducible show wpAny _ _ _ _ _ _)); (refine (‹∀ (x : _) (y : Shared), _ → _›) _ _ ?_); (try dsimp only))))))))
    · rename r.up ≠ r.up => hbad
      exact absurd rfl hbad
    · rename Fr _ _ _ _ => F
      rename News _ _ _ _ => N
      exact ⟨_, _, _, [], rfl, F, N, (fun _ _ q hq => nomatch hq), rfl, m1, m2⟩
  · clear F N
    intro m₁ μ₁ h tk hRp1
    with_reducible refine gen fun GG kGG => ?_
    obtain ⟨rfl, m1, m2⟩ := hRp1
    with_reducible refine kGG ?_
    clear kGG GG
    intro F N
    (((repeat' ((fail_if_success ((with_reducible (first | (show wpAny _ _ (exec (Stmt.While _ _ _ _) _) _ _ _) | (show wpAny _ _ (exec (Stmt.For _ _ _ _ _) _) _ _ _) | (show wpAny _ _ (eval (PySem.Expr.ListComp _ _ _ _) _) _ _ _) | (show wpAny _ _ (exec (Stmt.Try _ _ _ _ _) _) _ _ _))))); (first | walk1 | (dsimp only; walk1) | (k_unfold; (try dsimp only)) | (refine hKS _ _ ?_; clear hKS KS; (try dsimp only))))); (all_goals (try dsimp only)); (all_goals (repeat ((((fail_if_success (with_reducible show wpAny _ _ _ _ _ _)); (refine (‹∀ (x : _) (y : Shared), _ → _›) _ _ ?_); (try dsimp only))))))))
    repeat ((((fail_if_success (with_reducible show wpAny _ _ _ _ _ _)); (refine (‹∀ (x : _) (y : Shared), _ → _›) _ _ ?_); (try dsimp only))))
    exact hQ _ _ (Fr.out0 F)
end
section
variable (prog : Program) (w : World)
/-- the law's st -/
noncomputable def SAt (h : Heap) (st num : Addr) (n r : Nat) : Prop := (∃ t t', h.DictOf (PySem.strKind prog w) st [(Str.ofString "nums", .ref num), (Str.ofString "next", .int (n : Int) t), (Str.ofString "refs", .int (r : Int) t')]) ∧ (st == sysModules) = false
/-- the drawn numbers -/
noncomputable def NumsAt (h : Heap) (num : Addr) (vs : List Value) (ns : List Int) : Prop := h.IsList num vs.toArray ∧ IntsAre vs ns ∧ (∀ v ∈ ns, 0 ≤ v ∧ v < 5040) ∧ ns.length ≤ 40
end
section
variable {prog : Program} {w : World} {mg mb : Str → Option Value} {A : Around} {s : Shared} {Q E : Value → Shared → Prop}
theorem pull_spec {st num : Addr} {vs : List Value} {ns : List Int} {n r : Nat} (hs : SAt prog w s.heap st num n r) (hn : NumsAt (hideAll s.heap [st]) num vs ns) (hb : n ≤ 1000) (C0 : Cx w mg mb A s.heap [st] 1 3)
   (hQ : ∀ h' tk' v t, 0 ≤ v → v < 5040 → Stays [st] s.heap h' → SAt prog w h' st num (n + 1) r → Q (.int v t) { s with heap := h', toks := tk' }) :
   wpAny (model prog w) A (call (.ref 243) [.ref st]) Q E s := by
  with_reducible refine gen fun GG kGG => ?_
  obtain ⟨⟨t1, t2, hs1⟩, hs2⟩ := hs
  obtain ⟨os, hso, hsd⟩ := Heap.dictOf_iff.mp hs1
  obtain ⟨hnl, hni, hnb, hnn⟩ := hn
  with_reducible refine kGG ?_
  clear kGG GG
  have hnlen := IntsAre.length hni
  refine call_rule (d := 0) (u := 0) (binds := [(Str.ofString "st", .ref st)]) C0 (by k_is) (by k_is) (BindsTo.of_eq rfl) (locs rfl) (fun L h₁ tk F hk' C => ?_) (by decide)
  with_reducible refine hideQ fun KK hKK => ?_
  have X := C.X
  have T := C.T
  have N : News (hideAll s.heap [st]) L h₁ [(st, os)] := fun p hp => by rw [List.mem_singleton.mp hp]; exact ⟨(hk' _ _ hso).1, (hk' _ _ hso).2, hideAll_none _ (.head _)⟩
  clear hk'
  have e : ((n : Int) + 1) = ((n + 1 : Nat) : Int) := by push_cast; rfl
  (((repeat' ((fail_if_success ((with_reducible (first | (show wpAny _ _ (exec (Stmt.While _ _ _ _) _) _ _ _) | (show wpAny _ _ (exec (Stmt.For _ _ _ _ _) _) _ _ _) | (show wpAny _ _ (eval (PySem.Expr.ListComp _ _ _ _) _) _ _ _) | (show wpAny _ _ (exec (Stmt.Try _ _ _ _ _) _) _ _ _))))); (first | walk1 | (dsimp only; walk1) | (k_unfold; (try dsimp only)) | (refine hKS _ _ ?_; clear hKS KS; (try dsimp only))))); (all_goals (try dsimp only)); (all_goals (repeat ((((fail_if_success (with_reducible show wpAny _ _ _ _ _ _)); (refine (‹∀ (x : _) (y : Shared), _ → _›) _ _ ?_); (try dsimp only))))))))
  · rename Fr _ _ _ _ => F
    rename News _ _ _ _ => N
    rename Obj.IsDictOf _ _ _ => hd
    rename (n : Int) + 1 ≤ _ => hle
    rw [e] at hd
    have hi : ((n : Int) + 1 - 1).toNat < ns.length := by (first | lia | omega)
    have hm : ns.getD ((n : Int) + 1 - 1).toNat 0 ∈ ns := by rw [List.getD_eq_getElem?_getD, List.getElem?_eq_getElem hi]; exact List.getElem_mem hi
    repeat ((((fail_if_success (with_reducible show wpAny _ _ _ _ _ _)); (refine (‹∀ (x : _) (y : Shared), _ → _›) _ _ ?_); (try dsimp only))))
    exact hQ _ _ _ _ (hnb _ hm).1 (hnb _ hm).2 (Fr.out F) ⟨⟨_, _, Heap.dictOf_iff.mpr ⟨_, (N _ (.head _)).1, hd⟩⟩, hs2⟩
  · rename Fr _ _ _ _ => F
    rename News _ _ _ _ => N
    rename Obj.IsDictOf _ _ _ => hd
    rw [e] at hd
    rw [Int.fmod_eq_emod_of_nonneg _ (by decide)]
    repeat ((((fail_if_success (with_reducible show wpAny _ _ _ _ _ _)); (refine (‹∀ (x : _) (y : Shared), _ → _›) _ _ ?_); (try dsimp only))))
    exact hQ _ _ _ _ (Int.emod_nonneg _ (by decide)) (Int.emod_lt_of_pos _ (by decide)) (Fr.out F) ⟨⟨_, _, Heap.dictOf_iff.mpr ⟨_, (N _ (.head _)).1, hd⟩⟩, hs2⟩
/-- a value just made -/
noncomputable def MadeV (h h' : Heap) (a : Addr) (x : Vl) : Prop := h.get? a = none ∧ ∃ t t', h'.get? a = some (tupOf [.int x.tag t, x.pay t'])
end
section
variable {prog : Program} {w : World} {mg mb : Str → Option Value} {A : Around} {s : Shared} {Q E : Value → Shared → Prop}
theorem vok_str {n : Nat} {x : Str} (h : x.length ≤ 9) : VOk n (.str x) := h
/-- a call of pull in a frame -/
theorem pull_in {h₀ : Heap} {L st num : Addr} {m : Str → Option Value} {μ : List (Addr × Obj)} {o : Obj} {vs : List Value} {ns : List Int} {n r d u : Nat} {t1 t2 : Tok}
   (C : Cb w mg mb A (hideAll h₀ [st]) L d u) (F : Fr (hideAll h₀ [st]) L s.heap m) (N : News (hideAll h₀ [st]) L s.heap ((st, o) :: μ)) (hμ : ∀ p ∈ μ, p.1 ≠ st)
   (hd : o.IsDictOf (PySem.strKind prog w) [(Str.ofString "nums", .ref num), (Str.ofString "next", .int (n : Int) t1), (Str.ofString "refs", .int (r : Int) t2)]) (hs2 : (st == sysModules) = false)
   (hn : NumsAt (hideAll h₀ [st]) num vs ns) (hb : n ≤ 1000) (hd1 : 1 ≤ d) (hu1 : 3 ≤ u)
   (hQ : ∀ h' tk' v t o' t1 t2, 0 ≤ v → v < 5040 → Fr (hideAll h₀ [st]) L h' m → News (hideAll h₀ [st]) L h' ((st, o') :: μ) →
     o'.IsDictOf (PySem.strKind prog w) [(Str.ofString "nums", .ref num), (Str.ofString "next", .int ((n + 1 : Nat) : Int) t1), (Str.ofString "refs", .int (r : Int) t2)] → Q (.int v t) { s with heap := h', toks := tk' }) :
   wpAny (model prog w) A (call (.ref 243) [.ref st]) Q E s := by
  have hgb : ∀ a ∈ [st], (hideAll h₀ [st]).get? a = none := fun a q => hideAll_none _ q
  have hm := N (st, o) (.head _)
  have hLb : L ∉ [st] := fun q => hm.2.1 (List.mem_singleton.mp q).symm
  have up := under_hide F hgb
  refine pull_spec ⟨⟨_, _, Heap.dictOf_iff.mpr ⟨o, hm.1, hd⟩⟩, hs2⟩ ⟨hn.1.at fun o e => up _ o e, hn.2⟩ hb (Cb.at C F hgb hLb hd1 hu1) (fun h' tk' v t h0 h1 S hs' => ?_)
  with_reducible refine gen fun GG kGG => ?_
  obtain ⟨⟨t1, t2, hs1⟩, _⟩ := hs'
  obtain ⟨o', ho', hd'⟩ := Heap.dictOf_iff.mp hs1
  with_reducible refine kGG ?_
  clear kGG GG
  repeat ((((fail_if_success (with_reducible show wpAny _ _ _ _ _ _)); (refine (‹∀ (x : _) (y : Shared), _ → _›) _ _ ?_); (try dsimp only))))
  exact hQ h' tk' v t o' t1 t2 h0 h1 (Fr.st F S hLb hgb) (News.st1 N S hμ ho') hd'
theorem value_spec {st num : Addr} {vs : List Value} {ns : List Int} {n r count : Nat} {tc : Tok} (hs : SAt prog w s.heap st num n r) (hn : NumsAt (hideAll s.heap [st]) num vs ns) (hb : n ≤ 1000) (hr : r ≤ 1000) (hc : count ≤ 10) (C0 : Cx w mg mb A s.heap [st] 2 6)
   (hQ : ∀ h' tk' a x r', VOk (count + 2) x → r' ≤ r → MadeV s.heap h' a x → Stays [st] s.heap h' → SAt prog w h' st num (n + 1) r' → Q (.ref a) { s with heap := h', toks := tk' }) :
   wpAny (model prog w) A (call (.ref 250) [.ref st, .int (count : Int) tc]) Q E s := by
  with_reducible refine gen fun GG kGG => ?_
  obtain ⟨⟨t1, t2, hs1⟩, hs2⟩ := hs
  obtain ⟨os, hso, hsd⟩ := Heap.dictOf_iff.mp hs1
  with_reducible refine kGG ?_
  clear kGG GG
  refine call_rule (d := 1) (u := 3) (binds := [(Str.ofString "st", .ref st), (Str.ofString "count", .int (count : Int) tc)]) C0 (by k_is) (by k_is) (BindsTo.of_eq rfl) (locs rfl) (fun L h₁ tk F hk' C => ?_) (by decide)
  with_reducible refine hideQ fun KK hKK => ?_
  have X := C.X
  have T := C.T
  have N : News (hideAll s.heap [st]) L h₁ [(st, os)] := fun p hp => by rw [List.mem_singleton.mp hp]; exact ⟨(hk' _ _ hso).1, (hk' _ _ hso).2, hideAll_none _ (.head _)⟩
  clear hk'
  (((repeat' ((fail_if_success ((with_reducible (first | (show wpAny _ _ (exec (Stmt.While _ _ _ _) _) _ _ _) | (show wpAny _ _ (exec (Stmt.For _ _ _ _ _) _) _ _ _) | (show wpAny _ _ (eval (PySem.Expr.ListComp _ _ _ _) _) _ _ _) | (show wpAny _ _ (exec (Stmt.Try _ _ _ _ _) _) _ _ _))))); (first | walk1 | (dsimp only; walk1) | (k_unfold; (try dsimp only)) | (refine hKS _ _ ?_; clear hKS KS; (try dsimp only))))); (all_goals (try dsimp only)); (all_goals (repeat ((((fail_if_success (with_reducible show wpAny _ _ _ _ _ _)); (refine (‹∀ (x : _) (y : Shared), _ → _›) _ _ ?_); (try dsimp only))))))))
  rename Fr _ _ _ _ => F
  rename News _ _ _ _ => N
  refine pull_in C F N (fun p hp => nomatch hp) hsd hs2 hn hb (by first | exact Nat.le_of_ble_eq_true rfl | assumption | (first | lia | omega)) (by first | exact Nat.le_of_ble_eq_true rfl | assumption | (first | lia | omega)) (fun h₂ tk₂ v t o₂ t3 t4 h0 h1 F' N' hd2 => ?_)
  clear F N hsd
  have fin : ∀ {h' : Heap} {m : Str → Option Value} {μ : List (Addr × Obj)} {tk : Nat} {a : Addr} {o' : Obj} {r' : Nat} {tg : Int} {t t1 t2 : Tok} {y : Value}, Fr (hideAll s.heap [st]) L h' m → News (hideAll s.heap [st]) L h' μ → (a, tupOf [.int tg t, y]) ∈ μ → (st, o') ∈ μ →
      o'.IsDictOf (PySem.strKind prog w) [(Str.ofString "nums", .ref num), (Str.ofString "next", .int ((n + 1 : Nat) : Int) t1), (Str.ofString "refs", .int (r' : Int) t2)] → r' ≤ r → (∃ x t', VOk (count + 2) x ∧ tg = x.tag ∧ y = x.pay t') → Q (.ref a) { s with heap := h', toks := tk } := by
    intro h' m μ tk a o' r' tg t t1 t2 y F N hm hs hd hr' hRp1
    with_reducible refine gen fun GG kGG => ?_
    obtain ⟨x, t', hok, rfl, rfl⟩ := hRp1
    with_reducible refine kGG ?_
    clear kGG GG
    have hne : a ≠ st := News.twoPlaces N hm hs fun e => by
      with_reducible refine gen fun GG kGG => ?_
      obtain ⟨es, ep, _, hdat, _⟩ := hd
      with_reducible refine kGG ?_
      clear kGG GG
      have e : tupOf [.int x.tag t, x.pay t'] = o' := e
      rw [← e] at hdat; cases hdat
    repeat ((((fail_if_success (with_reducible show wpAny _ _ _ _ _ _)); (refine (‹∀ (x : _) (y : Shared), _ → _›) _ _ ?_); (try dsimp only))))
    exact hQ h' tk a x r' hok hr' ⟨new_of N hm (fun q => hne (List.mem_singleton.mp q)), _, _, (N _ hm).1⟩ (Fr.out F) ⟨⟨_, _, Heap.dictOf_iff.mpr ⟨o', (N _ hs).1, hd⟩⟩, hs2⟩
  have hx6 : ∀ (i : Int) (t : Tok), 0 ≤ i → i < (count : Int) + 2 → ∃ x t', VOk (count + 2) x ∧ (6 : Int) = x.tag ∧ Value.int i t = x.pay t' := fun i t h0 h1 =>
    ⟨.obj i.toNat, t, by show i.toNat < count + 2; (first | lia | omega), rfl, by show _ = Value.int (i.toNat : Int) t; rw [Int.toNat_of_nonneg h0]⟩
  (((repeat' ((fail_if_success ((with_reducible (first | (show wpAny _ _ (exec (Stmt.While _ _ _ _) _) _ _ _) | (show wpAny _ _ (exec (Stmt.For _ _ _ _ _) _) _ _ _) | (show wpAny _ _ (eval (PySem.Expr.ListComp _ _ _ _) _) _ _ _) | (show wpAny _ _ (exec (Stmt.Try _ _ _ _ _) _) _ _ _))))); (first | walk1 | (dsimp only; walk1) | (k_unfold; (try dsimp only)) | (refine hKS _ _ ?_; clear hKS KS; (try dsimp only))))); (all_goals (try dsimp only)); (all_goals (repeat ((((fail_if_success (with_reducible show wpAny _ _ _ _ _ _)); (refine (‹∀ (x : _) (y : Shared), _ → _›) _ _ ?_); (try dsimp only))))))))
  all_goals (rename Fr _ _ _ _ => F)
  all_goals (rename News _ _ _ _ => N)
  · rename Obj.IsDictOf _ _ _ => hd
    rename 0 < (r : Int) => hr0
    have e : ((r : Int) - 1) = ((r - 1 : Nat) : Int) := by (first | lia | omega)
    rw [e] at hd
    repeat ((((fail_if_success (with_reducible show wpAny _ _ _ _ _ _)); (refine (‹∀ (x : _) (y : Shared), _ → _›) _ _ ?_); (try dsimp only))))
    refine fin F N (by k_mem) (by k_mem) hd (by first | exact Nat.le_of_ble_eq_true rfl | assumption | (first | lia | omega)) ?_
    have h2 : (0 : Int) < (count : Int) + 2 := by (first | lia | omega)
    exact hx6 _ _ (Int.fmod_nonneg_of_pos (v.fdiv 14) h2) (Int.fmod_lt_of_pos (v.fdiv 14) h2)
  iterate 6 (· exact fin F N (by k_mem) (by k_mem) hd2 (Nat.le_refl _) ⟨.str _, _, vok_str (by decide), rfl, rfl⟩)
  · repeat ((((fail_if_success (with_reducible show wpAny _ _ _ _ _ _)); (refine (‹∀ (x : _) (y : Shared), _ → _›) _ _ ?_); (try dsimp only))))
    refine fin F N (by k_mem) (by k_mem) hd2 (Nat.le_refl _) ⟨.num _, _, ?_, rfl, rfl⟩
    show -9 ≤ _ ∧ _ ≤ (9 : Int)
    rw [Int.fmod_eq_emod_of_nonneg _ (by decide)]
    (first | lia | omega)
  · repeat ((((fail_if_success (with_reducible show wpAny _ _ _ _ _ _)); (refine (‹∀ (x : _) (y : Shared), _ → _›) _ _ ?_); (try dsimp only))))
    exact fin F N (by k_mem) (by k_mem) hd2 (Nat.le_refl _) ⟨.undef, _, trivial, rfl, rfl⟩
  · repeat ((((fail_if_success (with_reducible show wpAny _ _ _ _ _ _)); (refine (‹∀ (x : _) (y : Shared), _ → _›) _ _ ?_); (try dsimp only))))
    exact fin F N (by k_mem) (by k_mem) hd2 (Nat.le_refl _) ⟨.null, _, trivial, rfl, rfl⟩
  · repeat ((((fail_if_success (with_reducible show wpAny _ _ _ _ _ _)); (refine (‹∀ (x : _) (y : Shared), _ → _›) _ _ ?_); (try dsimp only))))
    exact fin F N (by k_mem) (by k_mem) hd2 (Nat.le_refl _) ⟨.bool true, _, trivial, rfl, rfl⟩
  · repeat ((((fail_if_success (with_reducible show wpAny _ _ _ _ _ _)); (refine (‹∀ (x : _) (y : Shared), _ → _›) _ _ ?_); (try dsimp only))))
    exact fin F N (by k_mem) (by k_mem) hd2 (Nat.le_refl _) ⟨.bool false, _, trivial, rfl, rfl⟩
  · repeat ((((fail_if_success (with_reducible show wpAny _ _ _ _ _ _)); (refine (‹∀ (x : _) (y : Shared), _ → _›) _ _ ?_); (try dsimp only))))
    exact fin F N (by k_mem) (by k_mem) hd2 (Nat.le_refl _) ⟨.nan, _, trivial, rfl, rfl⟩
end
section
section
variable {prog : Program} {w : World} {mg mb : Str → Option Value} {A : Around} {s : Shared} {Q E : Value → Shared → Prop}
theorem row_spec {it ow : Addr} {sort up : Int} {t1 t2 : Tok} (C0 : Cx w mg mb A s.heap [] 1 3)
   (hQ : ∀ h' tk' a o t1 t2, Made s.heap h' a o → o.IsDictOf (PySem.strKind prog w) [(Str.ofString "sort", .int sort t1), (Str.ofString "up", .int up t2), (Str.ofString "items", .ref it), (Str.ofString "own", .ref ow)] → (a == sysModules) = false → Q (.ref a) { s with heap := h', toks := tk' }) :
   wpAny (model prog w) A (call (.ref 257) [.int sort t1, .int up t2, .ref it, .ref ow]) Q E s := by
  refine call_rule0 (d := 0) (u := 0) (binds := [(Str.ofString "sort", .int sort t1), (Str.ofString "up", .int up t2), (Str.ofString "items", .ref it), (Str.ofString "own", .ref ow)]) C0 (by k_is) (by k_is) (BindsTo.of_eq rfl) (locs rfl) (fun L h₁ tk F N C => ?_) (by decide)
  with_reducible refine hideQ fun KK hKK => ?_
  have X := C.X
  have T := C.T
  (((repeat' ((fail_if_success ((with_reducible (first | (show wpAny _ _ (eval (PySem.Expr.Dict (_ :: _) _ _) _) _ _ _) | (show KdnMade _ _ _ _ _ _ _))))); (first | walk1 | (dsimp only; walk1) | (k_unfold; (try dsimp only)) | (refine hKS _ _ ?_; clear hKS KS; (try dsimp only))))); (all_goals (try dsimp only)); (all_goals (repeat ((((fail_if_success (with_reducible show wpAny _ _ _ _ _ _)); (refine (‹∀ (x : _) (y : Shared), _ → _›) _ _ ?_); (try dsimp only))))))))
  refine kdn_str (by rfl) F N (TopRead.nolimit T) (by rfl) (by rfl) (List.cons_ne_nil _ _) (by decide) ?_
  intro d' h' o' F' N' l1 lo' hd'
  clear F N
  (((repeat' ((fail_if_success ((with_reducible (first | (show wpAny _ _ (eval (PySem.Expr.Dict (_ :: _) _ _) _) _ _ _) | (show KdnMade _ _ _ _ _ _ _))))); (first | walk1 | (dsimp only; walk1) | (k_unfold; (try dsimp only)) | (refine hKS _ _ ?_; clear hKS KS; (try dsimp only))))); (all_goals (try dsimp only)); (all_goals (repeat ((((fail_if_success (with_reducible show wpAny _ _ _ _ _ _)); (refine (‹∀ (x : _) (y : Shared), _ → _›) _ _ ?_); (try dsimp only))))))))
  refine' kdn_made_str F' N' ?U hd' (by rfl) (show ([Str.ofString "sort", Str.ofString "up", Str.ofString "items", Str.ofString "own"] : List Str).Nodup by decide) ?_
  case U => k_updF
  intro h'' o'' F'' N'' hd''
  clear F' N' hd'
  (((repeat' ((fail_if_success ((with_reducible (first | (show wpAny _ _ (eval (PySem.Expr.Dict (_ :: _) _ _) _) _ _ _) | (show KdnMade _ _ _ _ _ _ _))))); (first | walk1 | (dsimp only; walk1) | (k_unfold; (try dsimp only)) | (refine hKS _ _ ?_; clear hKS KS; (try dsimp only))))); (all_goals (try dsimp only)); (all_goals (repeat ((((fail_if_success (with_reducible show wpAny _ _ _ _ _ _)); (refine (‹∀ (x : _) (y : Shared), _ → _›) _ _ ?_); (try dsimp only))))))))
  repeat ((((fail_if_success (with_reducible show wpAny _ _ _ _ _ _)); (refine (‹∀ (x : _) (y : Shared), _ → _›) _ _ ?_); (try dsimp only))))
  exact hQ _ _ _ _ _ _ (made_of (by assumption) N'' (.head _)) hd'' lo'
end
noncomputable abbrev words : List Str := [Str.ofString "name", Str.ofString "message"]
section
variable (prog : Program) (w : World)
structure OwnSt (g : Heap) (L : Addr) (h : Heap) (d : Addr) (al : List Str) (n : Nat) (kvs : List (Str × Value)) (ms : List (Str × Vl)) (ν : List (Addr × Obj)) : Prop where
  o : ∃ o, News g L h ((d, o) :: ν) ∧ o.IsDictOf (PySem.strKind prog w) kvs
  ne : ∀ p ∈ ν, p.1 ≠ d
  at_ : ∀ H, Blk H ν → OwnAt H kvs ms
  ok : ∀ p ∈ ms, VOk n p.2 ∧ p.1 ∈ al
noncomputable def RowNew (h h' : Heap) (a : Addr) (q : Raw) (r : Rw) (ν : List (Addr × Obj)) : Prop := (∀ p ∈ ν, h.get? p.1 = none) ∧ Blk h' ν ∧ ∀ H, Blk H ν → RowAt prog w H a q r
end
section
variable {prog : Program} {w : World} {mg mb : Str → Option Value} {A : Around} {s : Shared} {Q E : Value → Shared → Prop}
theorem OwnSt.start {g h : Heap} {L d : Addr} {o : Obj} {al : List Str} {n : Nat} (N : News g L h [(d, o)]) (hd : o.IsDictOf (PySem.strKind prog w) []) : OwnSt prog w g L h d al n [] [] [] :=
  ⟨⟨o, N, hd⟩, (fun _ h => nomatch h), (fun _ _ => .nil), fun _ h => nomatch h⟩
theorem OwnSt.le {g h : Heap} {L d : Addr} {al al' : List Str} {n : Nat} {kvs ms ν} (O : OwnSt prog w g L h d al n kvs ms ν) (hal : ∀ x ∈ al, x ∈ al') : OwnSt prog w g L h d al' n kvs ms ν := ⟨O.o, O.ne, O.at_, fun p hp => ⟨(O.ok p hp).1, hal _ (O.ok p hp).2⟩⟩
theorem stored_new {kvs : List (Str × Value)} {k : Str} {v : Value} (h : ∀ p ∈ kvs, p.1 ≠ k) : stored kvs k v = kvs ++ [(k, v)] := by
  unfold stored
  rw [if_neg]
  intro hh
  with_reducible refine gen fun GG kGG => ?_
  obtain ⟨p, hp, e⟩ := List.any_eq_true.mp hh
  with_reducible refine kGG ?_
  clear kGG GG
  exact h p hp (of_decide_eq_true e)
theorem OwnAt.keys {h : Heap} : ∀ {l : List (Str × Value)} {m : List (Str × Vl)}, OwnAt h l m → l.map (·.1) = m.map (·.1)
  | _, _, .nil => rfl
  | _, _, .cons h t => by rw [List.map_cons, List.map_cons, h.1, OwnAt.keys t]
theorem tup_val {H : Heap} {a : Addr} {x : Vl} {t t' : Tok} (h : H.get? a = some (tupOf [.int x.tag t, x.pay t'])) : ValAt H (.ref a) x := ⟨a, t, t', rfl, _, h, rfl, _, rfl⟩
/-- own[k] = a value just made -/
theorem own_put {g : Heap} {L d a : Addr} {m : Str → Option Value} {al : List Str} {n : Nat} {kvs : List (Str × Value)} {ms : List (Str × Vl)} {ν : List (Addr × Obj)} {k : Str} {x : Vl} {tk t t' : Tok} {Q : Unit → Shared → Prop}
   (F : Fr g L s.heap m) (O : OwnSt prog w g L s.heap d al n kvs ms ν) (hk : k ∉ al) (ha : News g L s.heap [(a, tupOf [.int x.tag t, x.pay t'])]) (hx : VOk n x)
   (hlen : kvs.length ≤ 1000)
   (h : ∀ h', Fr g L h' m → OwnSt prog w g L h' d (k :: al) n (kvs ++ [(k, .ref a)]) (ms ++ [(k, x)]) ((a, tupOf [.int x.tag t, x.pay t']) :: ν) → (∀ b o, b ≠ d → s.heap.get? b = some o → h'.get? b = some o) → Q () { s with heap := h', toks := s.toks + 1 }) :
   wpAny (model prog w) A (setItem (.ref d) (.str k tk) (.ref a)) Q E s := by
  with_reducible refine gen fun GG kGG => ?_
  obtain ⟨o, N, hd⟩ := O.o
  with_reducible refine kGG ?_
  clear kGG GG
  have hm := N _ (.head _)
  have hne : a ≠ d := News.twoPlaces (News.append ha N) (.head _) (.tail _ (.head _)) fun e => by
    with_reducible refine gen fun GG kGG => ?_
    obtain ⟨es, ep, _, hdat, _⟩ := hd
    with_reducible refine kGG ?_
    clear kGG GG
    have e : tupOf [.int x.tag t, x.pay t'] = o := e
    rw [← e] at hdat; cases hdat
  have hkey : ∀ p ∈ kvs, p.1 ≠ k := fun p hp q => by
    have e := OwnAt.keys (O.at_ s.heap (blk_of fun p hp => N p (.tail _ hp)))
    have h1 : p.1 ∈ ms.map (·.1) := e ▸ List.mem_map_of_mem hp
    with_reducible refine gen fun GG kGG => ?_
    obtain ⟨y, hy, e2⟩ := List.mem_map.mp h1
    with_reducible refine kGG ?_
    clear kGG GG
    exact hk (q ▸ e2 ▸ (O.ok y hy).2)
  refine wpAny_setItem_pairs (hsz := by rw [sizeLine_eq]; (first | lia | omega)) (strKind_is _ _ _ _) (Heap.dictOf_iff.mpr ⟨o, hm.1, hd⟩) fun h' hmm hs => ?_
  with_reducible refine gen fun GG kGG => ?_
  obtain ⟨o', ho', hd'⟩ := Heap.dictOf_iff.mp hmm
  with_reducible refine kGG ?_
  clear kGG GG
  rw [stored_new hkey] at hd'
  have stay : ∀ b o, b ≠ d → s.heap.get? b = some o → h'.get? b = some o := fun b o hb e => (hs.2 b hb).trans e
  refine h h' (F.change hs hm.2.1 hm.2.2) ⟨⟨o', fun p hp => ?_, hd'⟩, fun p hp => ?_, fun H B => ?_, fun p hp => ?_⟩ stay
  · refine all_cons ?_ (fun p hp => ?_) p hp
    · exact ⟨ho', hm.2⟩
    refine all_cons ?_ (fun p hp => ?_) p hp
    · exact ⟨stay _ _ hne (ha _ (.head _)).1, (ha _ (.head _)).2⟩
    · have z := N p (.tail _ hp)
      exact ⟨stay _ _ (O.ne p hp) z.1, z.2⟩
  · refine all_cons ?_ (fun p hp => ?_) p hp
    · exact hne
    · exact O.ne p hp
  · exact All2.app (O.at_ H fun p hp => B p (.tail _ hp)) (.cons ⟨rfl, tup_val (B _ (.head _))⟩ .nil)
  · refine all_app (fun p hp => ?_) (fun p hp => ?_) p hp
    · exact ⟨(O.ok p hp).1, .tail _ (O.ok p hp).2⟩
    · rw [List.mem_singleton.mp hp]; exact ⟨hx, .head _⟩

theorem strsAre_get {vs : List Value} {ss : List Str} (h : StrsAre vs ss) : ∀ {i : Nat}, i < ss.length → ∃ y t, vs[i]? = some (.str y t) ∧ y ∈ ss := by
  induction h with
  | nil => intro i hi; exact absurd hi (Nat.not_lt_zero _)
  | cons y t _ ih =>
    intro i hi
    cases i with
    | zero => exact ⟨y, t, rfl, .head _⟩
    | succ i =>
      with_reducible refine gen fun GG kGG => ?_
      obtain ⟨y', t', e, hm⟩ := ih (i := i) (Nat.lt_of_succ_lt_succ hi)
      with_reducible refine kGG ?_
      clear kGG GG
      exact ⟨y', t', e, .tail _ hm⟩
theorem l_item_str {value slice : PySem.Expr} {a : Addr} {vs : List Value} {ss : List Str} {i : Int} {u : Tok} {Q : Value → Shared → Prop} (hl : s.heap.IsList a vs.toArray) (hs : StrsAre vs ss) (h0 : 0 ≤ i) (h1 : i < (ss.length : Int)) (hc : ss.length ≤ 100)
    (h : ∀ y t, y ∈ ss → Q (.str y t) s) (hsu : subscripted slice false (.ref a) (.int i u) = operate [.ref a, .int i u] (getItem (.ref a) (.int i u)) := by with_unfolding_all rfl) :
    wpAny (model prog w) A (subscriptTail value slice (.ref a) (.int i u)) Q E s := by
  with_reducible refine gen fun GG kGG => ?_
  obtain ⟨y, t, e, hm⟩ := strsAre_get hs (i := i.toNat) (by first | exact Nat.le_of_ble_eq_true rfl | assumption | (first | lia | omega))
  with_reducible refine kGG ?_
  clear kGG GG
  exact l_item hl h0 (by first | exact Nat.le_of_ble_eq_true rfl | assumption | (first | lia | omega)) e (h y t hm) hsu
theorem mem_len {ss : List Str} {y : Str} (h : y ∈ ss) (hd : (ss.all fun y => decide (y.length ≤ 9)) = true) : y.length ≤ 9 := of_decide_eq_true (List.all_eq_true.mp hd y h)
local macro_rules | `(tactic| walk_at "subscriptTail") => `(tactic| ((with_reducible show wpAny _ _ (subscriptTail _ _ (Value.ref _) (Value.int (Int.fmod _ _) _)) _ _ _); k_dflt (refine' l_item_str ?kq1 ?kq2 ?kq3 ?kq4 ?kq5 ?_; (case kq1 => walk_at "m_list"); (case kq2 => first | exact StrsAre.cons _ _ (StrsAre.cons _ _ StrsAre.nil) | exact StrsAre.cons _ _ (StrsAre.cons _ _ (StrsAre.cons _ _ StrsAre.nil))); (case kq3 => exact Int.fmod_nonneg_of_pos _ (by decide)); (case kq4 => exact Int.fmod_lt_of_pos _ (by decide)); (case kq5 => decide)); intro y' ty' hy'))

theorem first_spec {v : Int} {tv : Tok} (h0 : 0 ≤ v) (h1 : v < 5040) (C0 : Cx w mg mb A s.heap [] 2 6)
   (hQ : ∀ h' tk' a q r ν, Stays [] s.heap h' → RowNew prog w s.heap h' a q r ν → r.sort = 0 → r.up = -1 → r.items = [] → (∀ p ∈ r.own, VOk 0 p.2 ∧ p.1 ∈ words) → Q (.ref a) { s with heap := h', toks := tk' }) :
   wpAny (model prog w) A (call (.ref 264) [.int v tv]) Q E s := by
  refine call_rule0 (d := 1) (u := 3) (binds := [(Str.ofString "v", .int v tv)]) C0 (by k_is) (by k_is) (BindsTo.of_eq rfl) (locs rfl) (fun L h₁ tk F N C => ?_) (by decide)
  with_reducible refine hideQ fun KK hKK => ?_
  have X := C.X
  have T := C.T
  (((repeat' ((fail_if_success ((with_reducible (first | (show wpAny _ _ (exec (Stmt.If _ _ _ _) _) _ _ _) | (show wpAny _ _ (setItem _ _ _) _ _ _) | (show CutSt _ _ _ _ _ _ _))))); (first | walk1 | (dsimp only; walk1) | (k_unfold; (try dsimp only)) | (refine hKS _ _ ?_; clear hKS KS; (try dsimp only))))); (all_goals (try dsimp only)); (all_goals (repeat ((((fail_if_success (with_reducible show wpAny _ _ _ _ _ _)); (refine (‹∀ (x : _) (y : Shared), _ → _›) _ _ ?_); (try dsimp only))))))))
  rename News _ _ _ _ => N
  rename Fr _ _ _ _ => F
  rename Obj.IsDictOf (PySem.strKind _ _) _ _ => hd
  rename (_ == sysModules) = false => lo
  rename_i d _ _ _ _ _ _ _
  have O : OwnSt prog w s.heap L _ d [] 0 [] [] [] := OwnSt.start N hd
  clear N hd
  have hlen : ([] : List (Str × Value)).length ≤ 8 := by decide
  refine cut_st F (fun h' => ∃ kvs ms ν, OwnSt prog w s.heap L h' d [Str.ofString "name"] 0 kvs ms ν ∧ kvs.length ≤ 9) ?_ ?_
  · with_reducible refine hideQ fun KK hKK => ?_
    with_reducible refine gen fun GG kGG => ?_
    obtain ⟨⟨o, N, hd⟩, hne, hat, hok⟩ := id O
    with_reducible refine kGG ?_
    clear kGG GG
    walk1
    (((repeat' ((fail_if_success ((with_reducible (first | (show wpAny _ _ (exec (Stmt.If _ _ _ _) _) _ _ _) | (show wpAny _ _ (setItem _ _ _) _ _ _) | (show CutSt _ _ _ _ _ _ _))))); (first | walk1 | (dsimp only; walk1) | (k_unfold; (try dsimp only)) | (refine hKS _ _ ?_; clear hKS KS; (try dsimp only))))); (all_goals (try dsimp only)); (all_goals (repeat ((((fail_if_success (with_reducible show wpAny _ _ _ _ _ _)); (refine (‹∀ (x : _) (y : Shared), _ → _›) _ _ ?_); (try dsimp only))))))))
    all_goals (rename Fr _ _ _ _ => F)
    all_goals (rename News _ _ _ _ => N)
    all_goals first
      | exact ⟨rfl, _, _, rfl, F, _, _, _, OwnSt.le ⟨⟨o, (fun p hp => N p (by repeat (first | exact hp | apply List.Mem.tail))), hd⟩, hne, hat, hok⟩ (by decide), by (first | lia | omega)⟩
      | (refine own_put (x := .str _) F ⟨⟨o, (fun p hp => N p (by repeat (first | exact hp | apply List.Mem.tail))), hd⟩, hne, hat, hok⟩ (by decide) (fun p hp => by rw [List.mem_singleton.mp hp]; exact N _ (by k_mem)) (vok_str (by rename _ ∈ _ => hy; exact mem_len hy (by decide))) (by first | exact Nat.le_of_ble_eq_true rfl | assumption | (first | lia | omega)) (fun h' F' O' stay => ?_)
         (((repeat' ((fail_if_success ((with_reducible (first | (show wpAny _ _ (exec (Stmt.If _ _ _ _) _) _ _ _) | (show wpAny _ _ (setItem _ _ _) _ _ _) | (show CutSt _ _ _ _ _ _ _))))); (first | walk1 | (dsimp only; walk1) | (k_unfold; (try dsimp only)) | (refine hKS _ _ ?_; clear hKS KS; (try dsimp only))))); (all_goals (try dsimp only)); (all_goals (repeat ((((fail_if_success (with_reducible show wpAny _ _ _ _ _ _)); (refine (‹∀ (x : _) (y : Shared), _ → _›) _ _ ?_); (try dsimp only))))))))
         exact ⟨rfl, _, _, rfl, F', _, _, _, OwnSt.le O' (by decide), by rw [List.length_append]; simp only [List.length_cons, List.length_nil]; (first | lia | omega)⟩)
  clear F O
  intro h' tk' F hRp1
  with_reducible refine gen fun GG kGG => ?_
  obtain ⟨kvs, ms, ν, O, hlen⟩ := hRp1
  with_reducible refine kGG ?_
  clear kGG GG
  (((repeat' ((fail_if_success ((with_reducible (first | (show wpAny _ _ (exec (Stmt.If _ _ _ _) _) _ _ _) | (show wpAny _ _ (setItem _ _ _) _ _ _) | (show CutSt _ _ _ _ _ _ _))))); (first | walk1 | (dsimp only; walk1) | (k_unfold; (try dsimp only)) | (refine hKS _ _ ?_; clear hKS KS; (try dsimp only))))); (all_goals (try dsimp only)); (all_goals (repeat ((((fail_if_success (with_reducible show wpAny _ _ _ _ _ _)); (refine (‹∀ (x : _) (y : Shared), _ → _›) _ _ ?_); (try dsimp only))))))))
  refine cut_st F (fun h' => ∃ kvs ms ν, OwnSt prog w s.heap L h' d words 0 kvs ms ν ∧ kvs.length ≤ 10) ?_ ?_
  · with_reducible refine hideQ fun KK hKK => ?_
    with_reducible refine gen fun GG kGG => ?_
    obtain ⟨⟨o, N, hd⟩, hne, hat, hok⟩ := id O
    with_reducible refine kGG ?_
    clear kGG GG
    walk1
    (((repeat' ((fail_if_success ((with_reducible (first | (show wpAny _ _ (exec (Stmt.If _ _ _ _) _) _ _ _) | (show wpAny _ _ (setItem _ _ _) _ _ _) | (show CutSt _ _ _ _ _ _ _))))); (first | walk1 | (dsimp only; walk1) | (k_unfold; (try dsimp only)) | (refine hKS _ _ ?_; clear hKS KS; (try dsimp only))))); (all_goals (try dsimp only)); (all_goals (repeat ((((fail_if_success (with_reducible show wpAny _ _ _ _ _ _)); (refine (‹∀ (x : _) (y : Shared), _ → _›) _ _ ?_); (try dsimp only))))))))
    all_goals (rename Fr _ _ _ _ => F)
    all_goals (rename News _ _ _ _ => N)
    all_goals first
      | exact ⟨rfl, _, _, rfl, F, _, _, _, OwnSt.le ⟨⟨o, (fun p hp => N p (by repeat (first | exact hp | apply List.Mem.tail))), hd⟩, hne, hat, hok⟩ (by decide), by (first | lia | omega)⟩
      | (refine own_put (x := .str _) F ⟨⟨o, (fun p hp => N p (by repeat (first | exact hp | apply List.Mem.tail))), hd⟩, hne, hat, hok⟩ (by decide) (fun p hp => by rw [List.mem_singleton.mp hp]; exact N _ (by k_mem)) (vok_str (by rename _ ∈ _ => hy; exact mem_len hy (by decide))) (by first | exact Nat.le_of_ble_eq_true rfl | assumption | (first | lia | omega)) (fun h' F' O' stay => ?_)
         (((repeat' ((fail_if_success ((with_reducible (first | (show wpAny _ _ (exec (Stmt.If _ _ _ _) _) _ _ _) | (show wpAny _ _ (setItem _ _ _) _ _ _) | (show CutSt _ _ _ _ _ _ _))))); (first | walk1 | (dsimp only; walk1) | (k_unfold; (try dsimp only)) | (refine hKS _ _ ?_; clear hKS KS; (try dsimp only))))); (all_goals (try dsimp only)); (all_goals (repeat ((((fail_if_success (with_reducible show wpAny _ _ _ _ _ _)); (refine (‹∀ (x : _) (y : Shared), _ → _›) _ _ ?_); (try dsimp only))))))))
         exact ⟨rfl, _, _, rfl, F', _, _, _, OwnSt.le O' (by decide), by rw [List.length_append]; simp only [List.length_cons, List.length_nil]; (first | lia | omega)⟩)
  clear F O
  intro h' tk' F hRp1
  with_reducible refine gen fun GG kGG => ?_
  obtain ⟨kvs, ms, ν, O, hlen⟩ := hRp1
  obtain ⟨⟨o, N, hd⟩, hne, hat, hok⟩ := O
  with_reducible refine kGG ?_
  clear kGG GG
  (((repeat' ((fail_if_success ((with_reducible (first | (show wpAny _ _ (exec (Stmt.If _ _ _ _) _) _ _ _) | (show wpAny _ _ (setItem _ _ _) _ _ _) | (show CutSt _ _ _ _ _ _ _))))); (first | walk1 | (dsimp only; walk1) | (k_unfold; (try dsimp only)) | (refine hKS _ _ ?_; clear hKS KS; (try dsimp only))))); (all_goals (try dsimp only)); (all_goals (repeat ((((fail_if_success (with_reducible show wpAny _ _ _ _ _ _)); (refine (‹∀ (x : _) (y : Shared), _ → _›) _ _ ?_); (try dsimp only))))))))
  rename Fr _ _ _ _ => F
  rename News _ _ _ _ => N
  refine row_spec (Cb.at0 C F (by first | exact Nat.le_of_ble_eq_true rfl | assumption | (first | lia | omega)) (by first | exact Nat.le_of_ble_eq_true rfl | assumption | (first | lia | omega))) (fun h' tk' a o2 t1 t2 M hd2 lo2 => ?_)
  have N' := News.made F N M
  have F' := Fr.made F M
  repeat ((((fail_if_success (with_reducible show wpAny _ _ _ _ _ _)); (refine (‹∀ (x : _) (y : Shared), _ → _›) _ _ ?_); (try dsimp only))))
  refine hQ h' tk' a ⟨[], kvs⟩ ⟨0, -1, [], ms⟩ _ (Fr.out0 F') ⟨fun p hp => (N' p hp).2.2, blk_of N', fun H B => ⟨⟨_, d, t1, t2, Heap.dictOf_iff.mpr ⟨o2, B _ (.head _), hd2⟩, lo2, ⟨_, B _ (.tail _ (.head _)), rfl, _, rfl⟩, Heap.dictOf_iff.mpr ⟨o, B _ (.tail _ (.tail _ (.head _))), hd⟩, lo⟩, .nil, hat H fun p hp => B p (.tail _ (.tail _ (.tail _ hp)))⟩⟩ rfl rfl rfl hok
end
end
local macro_rules | `(tactic| walk_at "subscriptTail") => `(tactic| ((with_reducible show wpAny _ _ (subscriptTail _ _ (Value.ref _) (Value.int (Int.fmod _ _) _)) _ _ _); k_dflt (refine' l_item_str ?kq1 ?kq2 ?kq3 ?kq4 ?kq5 ?_; (case kq1 => walk_at "m_list"); (case kq2 => first | exact StrsAre.cons _ _ (StrsAre.cons _ _ (StrsAre.cons _ _ (StrsAre.cons _ _ StrsAre.nil))) | exact StrsAre.cons _ _ (StrsAre.cons _ _ StrsAre.nil) | exact StrsAre.cons _ _ (StrsAre.cons _ _ (StrsAre.cons _ _ StrsAre.nil))); (case kq3 => exact Int.fmod_nonneg_of_pos _ (by decide)); (case kq4 => exact Int.fmod_lt_of_pos _ (by decide)); (case kq5 => decide)); intro y' ty' hy'))
section
variable {prog : Program} {w : World} {mg mb : Str → Option Value} {A : Around} {s : Shared} {Q E : Value → Shared → Prop}
theorem sep_new {μ₁ μ₂ κ : List (Addr × Obj)} {a : Addr} (h : ∀ p ∈ κ, ∀ q ∈ μ₁, p.1 ≠ q.1) (hn : ∀ p ∈ κ, p.1 ≠ a) (hm : ∀ q ∈ μ₂, q.1 = a ∨ ∃ q' ∈ μ₁, q'.1 = q.1) : ∀ p ∈ κ, ∀ q ∈ μ₂, p.1 ≠ q.1 := fun p hp q hq e => by
  rcases hm q hq with z | ⟨q', hq', z⟩
  · exact hn p hp (e.trans z)
  · exact h p hp q' hq' (e.trans z.symm)
theorem value_in {g : Heap} {L st num : Addr} {m : Str → Option Value} {μ : List (Addr × Obj)} {o : Obj} {vs : List Value} {ns : List Int} {n r count : Nat} {t1 t2 tc : Tok}
   (CX : Cx w mg mb A s.heap [st] 2 6) (F : Fr g L s.heap m) (N : News g L s.heap ((st, o) :: μ)) (hμ : ∀ p ∈ μ, p.1 ≠ st)
   (hd : o.IsDictOf (PySem.strKind prog w) [(Str.ofString "nums", .ref num), (Str.ofString "next", .int (n : Int) t1), (Str.ofString "refs", .int (r : Int) t2)]) (hs2 : (st == sysModules) = false)
   (hn : NumsAt g num vs ns) (hb : n ≤ 1000) (hr : r ≤ 1000) (hc : count ≤ 10)
   (hQ : ∀ h' tk' a x o' r' t1 t2 ta tb, VOk (count + 2) x → r' ≤ r → a ≠ st → (∀ b ob, s.heap.get? b = some ob → b ≠ a) → Fr g L h' m → News g L h' ((st, o') :: (a, tupOf [.int x.tag ta, x.pay tb]) :: μ) →
     o'.IsDictOf (PySem.strKind prog w) [(Str.ofString "nums", .ref num), (Str.ofString "next", .int ((n + 1 : Nat) : Int) t1), (Str.ofString "refs", .int (r' : Int) t2)] → Q (.ref a) { s with heap := h', toks := tk' }) :
   wpAny (model prog w) A (call (.ref 250) [.ref st, .int (count : Int) tc]) Q E s := by
  have hm := N (st, o) (.head _)
  have hgb : ∀ a ∈ [st], g.get? a = none := fun a q => by rw [List.mem_singleton.mp q]; exact hm.2.2
  have hLb : L ∉ [st] := fun q => hm.2.1 (List.mem_singleton.mp q).symm
  have up := under_hide F hgb
  refine value_spec ⟨⟨_, _, Heap.dictOf_iff.mpr ⟨o, hm.1, hd⟩⟩, hs2⟩ ⟨hn.1.at fun o e => up _ o e, hn.2⟩ hb hr hc CX (fun h' tk' a x r' hx hr' M S hs' => ?_)
  with_reducible refine gen fun GG kGG => ?_
  obtain ⟨⟨t1, t2, hs1⟩, _⟩ := hs'
  obtain ⟨o', ho', hd'⟩ := Heap.dictOf_iff.mp hs1
  obtain ⟨hna, ta, tb, ha⟩ := M
  with_reducible refine kGG ?_
  clear kGG GG
  have hne : ∀ b ob, s.heap.get? b = some ob → b ≠ a := fun b ob e q => by rw [q, hna] at e; cases e
  obtain ⟨oL, _, _, hL, _⟩ := id F.ns
  have hga : g.get? a = none := by
    cases q : g.get? a with
    | none => rfl
    | some ob => exact absurd rfl (hne _ _ (F.keep _ _ q))
  repeat ((((fail_if_success (with_reducible show wpAny _ _ _ _ _ _)); (refine (‹∀ (x : _) (y : Shared), _ → _›) _ _ ?_); (try dsimp only))))
  refine hQ h' tk' a x o' r' t1 t2 ta tb hx hr' (hne _ _ hm.1).symm hne (Fr.st F S hLb hgb) (fun p hp => ?_) hd'
  refine all_cons ?_ (fun p hp => ?_) p hp
  · exact ⟨ho', hm.2⟩
  refine all_cons ?_ (fun p hp => ?_) p hp
  · exact ⟨ha, (hne _ _ hL).symm, hga⟩
  · have z := N p (.tail _ hp)
    exact ⟨S _ _ (fun q => hμ p hp (List.mem_singleton.mp q)) z.1, z.2⟩
theorem drawn_spec {st num : Addr} {vs : List Value} {ns : List Int} {n r count k : Nat} {tc tk' : Tok} (hs : SAt prog w s.heap st num n r) (hn : NumsAt (hideAll s.heap [st]) num vs ns) (hb : n ≤ 900) (hr : r ≤ 1000) (hc : count ≤ 10) (hk1 : 1 ≤ k) (hk2 : k ≤ count) (C0 : Cx w mg mb A s.heap [st] 4 12)
   (hQ : ∀ h' tk' a q rw ν n' r', Stays [st] s.heap h' → SAt prog w h' st num n' r' → n' ≤ n + 6 → r' ≤ r → RowNew prog w s.heap h' a q rw ν →
     (rw.sort = 0 ∨ rw.sort = 1 ∨ rw.sort = 2 ∨ rw.sort = 3) → -1 ≤ rw.up → rw.up < k → rw.items.length ≤ 3 → (∀ y ∈ rw.items, VOk (count + 2) y) → (∀ p ∈ rw.own, VOk (count + 2) p.2 ∧ p.1 ∈ words) → (rw.sort = 1 → rw.own = []) → Q (.ref a) { s with heap := h', toks := tk' }) :
   wpAny (model prog w) A (call (.ref 269) [.ref st, .int (k : Int) tk', .int (count : Int) tc]) Q E s := by
  with_reducible refine gen fun GG kGG => ?_
  obtain ⟨⟨t1, t2, hs1⟩, hs2⟩ := hs
  obtain ⟨os, hso, hsd⟩ := Heap.dictOf_iff.mp hs1
  with_reducible refine kGG ?_
  clear kGG GG
  refine call_ruleC (d := 3) (u := 9) (binds := [(Str.ofString "st", .ref st), (Str.ofString "k", .int (k : Int) tk'), (Str.ofString "count", .int (count : Int) tc)]) C0 (by k_is) (by k_is) (BindsTo.of_eq rfl) (by rfl) (by decide +kernel) (fun L h₁ tk cells F N Y hkeep hcn C => ?_)
  with_reducible refine hideQ fun KK hKK => ?_
  have X := C.X
  have T := C.T
  with_reducible refine gen fun GG kGG => ?_
  obtain ⟨o1, o2, rfl, e1, e2⟩ := CellsAre.two Y
  with_reducible refine kGG ?_
  clear kGG GG
  have e1' : o1.data = .cell (some (.int (count : Int) tc)) := e1
  have e2' : o2.data = .cell (some (.ref st)) := e2
  have hcw : ∀ q ∈ [(L + 1 + 1, o1), (L + 1, o2)], q.1 ≠ st := fun q hq z => by have := hcn q hq; rw [z, hso] at this; cases this
  have hw3 : L + 1 + 1 ≠ st := hcw _ (.head _)
  have hw4 : L + 1 ≠ st := hcw _ (.tail _ (.head _))
  have N2 : News (hideAll s.heap [st]) L h₁ [(st, os), (L + 1 + 1, o1), (L + 1, o2)] := fun q hq => by
    refine all_cons ?_ (fun q hq => ?_) q hq
    · exact ⟨(hkeep _ _ hso).1, (hkeep _ _ hso).2, hideAll_none _ (.head _)⟩
    · exact N _ hq
  clear N e1 e2 Y hkeep
  (((repeat' ((fail_if_success ((with_reducible (first | (show wpAny _ _ (eval (PySem.Expr.IfExp _ _ _ _) _) _ _ _) | (show wpAny _ _ (exec (Stmt.If _ _ _ _) _) _ _ _) | (show wpAny _ _ (setItem _ _ _) _ _ _) | (show CutSt _ _ _ _ _ _ _) | (show CutAt _ _ _ _ _ _ _) | (show wpAny _ _ (eval (PySem.Expr.ListComp _ _ _ _) _) _ _ _))))); (first | walk1 | (dsimp only; walk1) | (k_unfold; (try dsimp only)) | (refine hKS _ _ ?_; clear hKS KS; (try dsimp only))))); (all_goals (try dsimp only)); (all_goals (repeat ((((fail_if_success (with_reducible show wpAny _ _ _ _ _ _)); (refine (‹∀ (x : _) (y : Shared), _ → _›) _ _ ?_); (try dsimp only))))))))
  rename Fr _ _ _ _ => F
  rename News _ _ _ _ => N
  refine pull_in C F N hcw hsd hs2 hn (by first | exact Nat.le_of_ble_eq_true rfl | assumption | (first | lia | omega)) (by first | exact Nat.le_of_ble_eq_true rfl | assumption | (first | lia | omega)) (by first | exact Nat.le_of_ble_eq_true rfl | assumption | (first | lia | omega)) (fun h₂ tk₂ v t o₂ t3 t4 h0 h1 F' N' hd2 => ?_)
  clear F N hsd hso hcn
  (((repeat' ((fail_if_success ((with_reducible (first | (show wpAny _ _ (eval (PySem.Expr.IfExp _ _ _ _) _) _ _ _) | (show wpAny _ _ (exec (Stmt.If _ _ _ _) _) _ _ _) | (show wpAny _ _ (setItem _ _ _) _ _ _) | (show CutSt _ _ _ _ _ _ _) | (show CutAt _ _ _ _ _ _ _) | (show wpAny _ _ (eval (PySem.Expr.ListComp _ _ _ _) _) _ _ _))))); (first | walk1 | (dsimp only; walk1) | (k_unfold; (try dsimp only)) | (refine hKS _ _ ?_; clear hKS KS; (try dsimp only))))); (all_goals (try dsimp only)); (all_goals (repeat ((((fail_if_success (with_reducible show wpAny _ _ _ _ _ _)); (refine (‹∀ (x : _) (y : Shared), _ → _›) _ _ ?_); (try dsimp only))))))))
  rename Fr _ _ _ _ => F
  rename News _ _ _ _ => N
  refine cut_fr F (fun v h' => ∃ sort t, v = .int sort t ∧ (sort = 0 ∨ sort = 1 ∨ sort = 2 ∨ sort = 3) ∧ News (hideAll s.heap [st]) L h' [(st, o₂), (L + 1 + 1, o1), (L + 1, o2)]) ?_ ?_
  · with_reducible refine hideQ fun KK hKK => ?_
    (((repeat' ((fail_if_success ((with_reducible (first | (show wpAny _ _ (exec (Stmt.While _ _ _ _) _) _ _ _) | (show wpAny _ _ (exec (Stmt.For _ _ _ _ _) _) _ _ _) | (show wpAny _ _ (eval (PySem.Expr.ListComp _ _ _ _) _) _ _ _) | (show wpAny _ _ (exec (Stmt.Try _ _ _ _ _) _) _ _ _))))); (first | walk1 | (dsimp only; walk1) | (k_unfold; (try dsimp only)) | (refine hKS _ _ ?_; clear hKS KS; (try dsimp only))))); (all_goals (try dsimp only)); (all_goals (repeat ((((fail_if_success (with_reducible show wpAny _ _ _ _ _ _)); (refine (‹∀ (x : _) (y : Shared), _ → _›) _ _ ?_); (try dsimp only))))))))
    all_goals (rename Fr _ _ _ _ => F)
    all_goals (rename News _ _ _ _ => N)
    · exact ⟨_, _, rfl, F, 1, _, by rename (k : Int) = 1 => e; rw [e], by decide, fun p hp => N p hp⟩
    all_goals exact ⟨_, _, rfl, F, _, _, rfl, by decide, fun p hp => N p (by repeat (first | exact hp | apply List.Mem.tail))⟩
  intro z h' tk' F' hRp1
  with_reducible refine gen fun GG kGG => ?_
  obtain ⟨sort, t, rfl, hsort, N'⟩ := hRp1
  with_reducible refine kGG ?_
  clear kGG GG
  clear F N
  (((repeat' ((fail_if_success ((with_reducible (first | (show wpAny _ _ (eval (PySem.Expr.Subscript _ _ _) _) _ _ _))))); (first | walk1 | (dsimp only; walk1) | (k_unfold; (try dsimp only)) | (refine hKS _ _ ?_; clear hKS KS; (try dsimp only))))); (all_goals (try dsimp only)); (all_goals (repeat ((((fail_if_success (with_reducible show wpAny _ _ _ _ _ _)); (refine (‹∀ (x : _) (y : Shared), _ → _›) _ _ ?_); (try dsimp only))))))))
  rename Fr _ _ _ _ => F
  rename News _ _ _ _ => N
  refine cut_fr F (fun v h' => ∃ up t, v = .int up t ∧ (-1 ≤ up ∧ up < k) ∧ News (hideAll s.heap [st]) L h' [(st, o₂), (L + 1 + 1, o1), (L + 1, o2)]) ?_ ?_
  · with_reducible refine hideQ fun KK hKK => ?_
    (((repeat' ((fail_if_success ((with_reducible (first | (show wpAny _ _ (exec (Stmt.While _ _ _ _) _) _ _ _) | (show wpAny _ _ (exec (Stmt.For _ _ _ _ _) _) _ _ _) | (show wpAny _ _ (eval (PySem.Expr.ListComp _ _ _ _) _) _ _ _) | (show wpAny _ _ (exec (Stmt.Try _ _ _ _ _) _) _ _ _))))); (first | walk1 | (dsimp only; walk1) | (k_unfold; (try dsimp only)) | (refine hKS _ _ ?_; clear hKS KS; (try dsimp only))))); (all_goals (try dsimp only)); (all_goals (repeat ((((fail_if_success (with_reducible show wpAny _ _ _ _ _ _)); (refine (‹∀ (x : _) (y : Shared), _ → _›) _ _ ?_); (try dsimp only))))))))
    all_goals (rename Fr _ _ _ _ => F)
    all_goals (rename News _ _ _ _ => N)
    all_goals exact ⟨_, _, rfl, F, _, _, rfl, by (first | lia | omega), fun p hp => N p (by repeat (first | exact hp | apply List.Mem.tail))⟩
  intro z h' tk' F' hRp1
  with_reducible refine gen fun GG kGG => ?_
  obtain ⟨up, tu, rfl, hup, N'⟩ := hRp1
  with_reducible refine kGG ?_
  clear kGG GG
  clear F N
  have F := F'
  have N := N'
  clear F' N'
  by_cases hs1 : sort = 1
  · subst hs1
    (((repeat' ((fail_if_success ((with_reducible (first | (show wpAny _ _ (eval (PySem.Expr.IfExp _ _ _ _) _) _ _ _) | (show wpAny _ _ (exec (Stmt.If _ _ _ _) _) _ _ _) | (show wpAny _ _ (setItem _ _ _) _ _ _) | (show CutSt _ _ _ _ _ _ _) | (show CutAt _ _ _ _ _ _ _) | (show wpAny _ _ (eval (PySem.Expr.ListComp _ _ _ _) _) _ _ _))))); (first | walk1 | (dsimp only; walk1) | (k_unfold; (try dsimp only)) | (refine hKS _ _ ?_; clear hKS KS; (try dsimp only))))); (all_goals (try dsimp only)); (all_goals (repeat ((((fail_if_success (with_reducible show wpAny _ _ _ _ _ _)); (refine (‹∀ (x : _) (y : Shared), _ → _›) _ _ ?_); (try dsimp only))))))))
    walk1
    (((repeat' ((fail_if_success ((with_reducible (first | (show wpAny _ _ (eval (PySem.Expr.IfExp _ _ _ _) _) _ _ _) | (show wpAny _ _ (exec (Stmt.If _ _ _ _) _) _ _ _) | (show wpAny _ _ (setItem _ _ _) _ _ _) | (show CutSt _ _ _ _ _ _ _) | (show CutAt _ _ _ _ _ _ _) | (show wpAny _ _ (eval (PySem.Expr.ListComp _ _ _ _) _) _ _ _))))); (first | walk1 | (dsimp only; walk1) | (k_unfold; (try dsimp only)) | (refine hKS _ _ ?_; clear hKS KS; (try dsimp only))))); (all_goals (try dsimp only)); (all_goals (repeat ((((fail_if_success (with_reducible show wpAny _ _ _ _ _ _)); (refine (‹∀ (x : _) (y : Shared), _ → _›) _ _ ?_); (try dsimp only))))))))
    rename Fr _ _ _ _ => F
    rename News _ _ _ _ => N
    refine cut_fr F (fun v h' => ∃ l t, v = .int l t ∧ (0 ≤ l ∧ l ≤ 1) ∧ News (hideAll s.heap [st]) L h' [(st, o₂), (L + 1 + 1, o1), (L + 1, o2)]) ?_ ?_
    · with_reducible refine hideQ fun KK hKK => ?_
      (((repeat' ((fail_if_success ((with_reducible (first | (show wpAny _ _ (exec (Stmt.While _ _ _ _) _) _ _ _) | (show wpAny _ _ (exec (Stmt.For _ _ _ _ _) _) _ _ _) | (show wpAny _ _ (eval (PySem.Expr.ListComp _ _ _ _) _) _ _ _) | (show wpAny _ _ (exec (Stmt.Try _ _ _ _ _) _) _ _ _))))); (first | walk1 | (dsimp only; walk1) | (k_unfold; (try dsimp only)) | (refine hKS _ _ ?_; clear hKS KS; (try dsimp only))))); (all_goals (try dsimp only)); (all_goals (repeat ((((fail_if_success (with_reducible show wpAny _ _ _ _ _ _)); (refine (‹∀ (x : _) (y : Shared), _ → _›) _ _ ?_); (try dsimp only))))))))
      all_goals (rename Fr _ _ _ _ => F)
      all_goals (rename News _ _ _ _ => N)
      all_goals exact ⟨_, _, rfl, F, _, _, rfl, by (first | lia | omega), N⟩
    intro z h' tk' F' hRp1
    with_reducible refine gen fun GG kGG => ?_
    obtain ⟨l, tl, rfl, hl, N'⟩ := hRp1
    with_reducible refine kGG ?_
    clear kGG GG
    clear F N
    (((repeat' ((fail_if_success ((with_reducible (first | (show wpAny _ _ (eval (PySem.Expr.IfExp _ _ _ _) _) _ _ _) | (show wpAny _ _ (exec (Stmt.If _ _ _ _) _) _ _ _) | (show wpAny _ _ (setItem _ _ _) _ _ _) | (show CutSt _ _ _ _ _ _ _) | (show CutAt _ _ _ _ _ _ _) | (show wpAny _ _ (eval (PySem.Expr.ListComp _ _ _ _) _) _ _ _))))); (first | walk1 | (dsimp only; walk1) | (k_unfold; (try dsimp only)) | (refine hKS _ _ ?_; clear hKS KS; (try dsimp only))))); (all_goals (try dsimp only)); (all_goals (repeat ((((fail_if_success (with_reducible show wpAny _ _ _ _ _ _)); (refine (‹∀ (x : _) (y : Shared), _ → _›) _ _ ?_); (try dsimp only))))))))
    rename Fr _ _ _ _ => F
    rename News _ _ _ _ => N
    rw [eval_ListComp]
    refine wpAny_comprehension_free (use := none) rfl (fun _ => rfl) (by rfl) rfl (by decide) ?_
    rw [show ∀ (e : PySem.Expr) t i b env, firstIter [⟨t, e, i, b⟩] env = eval e env from fun _ _ _ _ _ => rfl]
    (((repeat' ((fail_if_success ((with_reducible (first | (show wpAny _ _ (exec (Stmt.While _ _ _ _) _) _ _ _) | (show wpAny _ _ (exec (Stmt.For _ _ _ _ _) _) _ _ _) | (show wpAny _ _ (eval (PySem.Expr.ListComp _ _ _ _) _) _ _ _) | (show wpAny _ _ (exec (Stmt.Try _ _ _ _ _) _) _ _ _))))); (first | walk1 | (dsimp only; walk1) | (k_unfold; (try dsimp only)) | (refine hKS _ _ ?_; clear hKS KS; (try dsimp only))))); (all_goals (try dsimp only)); (all_goals (repeat ((((fail_if_success (with_reducible show wpAny _ _ _ _ _ _)); (refine (‹∀ (x : _) (y : Shared), _ → _›) _ _ ?_); (try dsimp only))))))))
    rename IsRange _ _ _ _ _ _ _ _ => hR
    rename Fr _ _ _ _ => F
    rename News _ _ _ _ => N
    have hf0 := Int.fmod_nonneg_of_pos ((v.fdiv 8).fdiv 5) (show (0 : Int) < 3 by decide)
    have hf1 := Int.fmod_lt_of_pos ((v.fdiv 8).fdiv 5) (show (0 : Int) < 3 by decide)
    generalize ((v.fdiv 8).fdiv 5).fmod 3 = lf at hR hf0 hf1
    with_reducible refine gen fun GG kGG => ?_
    obtain ⟨nn, hnn⟩ : ∃ nn : Nat, l + lf = 0 + (nn : Int) := ⟨(l + lf).toNat, by (first | lia | omega)⟩
    with_reducible refine kGG ?_
    clear kGG GG
    rw [hnn] at hR
    have hn3 : nn ≤ 3 := by (first | lia | omega)
    have hgb : ∀ a ∈ [st], (hideAll s.heap [st]).get? a = none := fun a q => hideAll_none _ q
    refine comp_grRange (g := hideAll s.heap [st]) (n := nn) (fun i acc μ₁ => ∃ o ν xs n' r' t1 t2, μ₁ = (st, o) :: (L + 1 + 1, o1) :: (L + 1, o2) :: ν ∧ o.IsDictOf (PySem.strKind prog w) [(Str.ofString "nums", .ref num), (Str.ofString "next", .int ((n' : Nat) : Int) t1), (Str.ofString "refs", .int ((r' : Nat) : Int) t2)] ∧ n' = n + 1 + i ∧ r' ≤ r ∧
        (∀ p ∈ ν, p.1 ≠ st) ∧ (∀ H, Blk H ν → All2 (ValAt H) acc xs) ∧ (∀ y ∈ xs, VOk (count + 2) y))
      (Cb.hd C) hR (range_smallA (by decide) (by decide) (by first | exact Nat.le_of_ble_eq_true rfl | assumption | (first | lia | omega))) (range_sizeA _ _) (by first | exact Nat.le_of_ble_eq_true rfl | assumption | (first | lia | omega)) ?c3 ?c4 ?c5 F N ?_ ?_ ?_
    case c3 => decide
    case c4 => rfl
    case c5 => rfl
    · exact ⟨o₂, [], [], n + 1, r, _, _, rfl, hd2, rfl, Nat.le_refl _, (fun _ h => nomatch h), (fun _ _ => .nil), fun _ h => nomatch h⟩
    · clear F N
      intro i t acc μ₁ C' κ oL h tk mC Qt E' hi hRp1
      with_reducible refine gen fun GG kGG => ?_
      obtain ⟨o, ν, xs, n', r', t1, t2, rfl, hdo, hn', hr', hνst, hat, hok⟩ := hRp1
      with_reducible refine kGG ?_
      clear kGG GG
      intro hlen FC hmv N hoL hκ hLμ hCL hk'
      have N' : News (hideAll s.heap [st]) C' h ((st, o) :: (L + 1 + 1, o1) :: (L + 1, o2) :: (ν ++ (L, oL) :: κ)) := N
      clear N
      (((repeat' ((fail_if_success ((with_reducible (first | (show wpAny _ _ (exec (Stmt.While _ _ _ _) _) _ _ _) | (show wpAny _ _ (exec (Stmt.For _ _ _ _ _) _) _ _ _) | (show wpAny _ _ (eval (PySem.Expr.ListComp _ _ _ _) _) _ _ _) | (show wpAny _ _ (exec (Stmt.Try _ _ _ _ _) _) _ _ _))))); (first | walk1 | (dsimp only; walk1) | (k_unfold; (try dsimp only)) | (refine hKS _ _ ?_; clear hKS KS; (try dsimp only))))); (all_goals (try dsimp only)); (all_goals (repeat ((((fail_if_success (with_reducible show wpAny _ _ _ _ _ _)); (refine (‹∀ (x : _) (y : Shared), _ → _›) _ _ ?_); (try dsimp only))))))))
      rename Fr _ _ _ _ => FC
      rename News _ _ _ _ => N'
      have hLst : L ≠ st := hLμ (st, o) (.head _)
      have hmL : (L, oL) ∈ (st, o) :: (L + 1 + 1, o1) :: (L + 1, o2) :: (ν ++ (L, oL) :: κ) := .tail _ (.tail _ (.tail _ (List.mem_append_right _ (.head _))))
      have hrest : ∀ p ∈ (L + 1 + 1, o1) :: (L + 1, o2) :: (ν ++ (L, oL) :: κ), p.1 ≠ st := fun p hp => by
        refine all_cons ?_ (fun p hp => ?_) p hp
        · exact hw3
        refine all_cons ?_ (fun p hp => ?_) p hp
        · exact hw4
        refine all_app (fun p hp => ?_) (fun p hp => ?_) p hp
        · exact hνst p hp
        refine all_cons ?_ (fun p hp => ?_) p hp
        · exact hLst
        · exact hκ p hp (st, o) (.head _)
      refine value_in (Cb.atC C FC (N' _ hmL).1 hoL hgb (fun q => hLst (List.mem_singleton.mp q)) (by first | exact Nat.le_of_ble_eq_true rfl | assumption | (first | lia | omega)) (by first | exact Nat.le_of_ble_eq_true rfl | assumption | (first | lia | omega))) FC N' hrest hdo hs2 hn (by first | exact Nat.le_of_ble_eq_true rfl | assumption | (first | lia | omega)) (by first | exact Nat.le_of_ble_eq_true rfl | assumption | (first | lia | omega)) hc (fun h₃ tk₃ a x o' r₂ t1 t2 ta tb hx hr2 hast hnew F₃ N₃ hd₃ => ?_)
      refine hk' _ _ _ ((st, o') :: (L + 1 + 1, o1) :: (L + 1, o2) :: (a, tupOf [.int x.tag ta, x.pay tb]) :: ν) _ F₃ (fun p hp => N₃ p ?_) (sep_new (a := a) (μ₁ := (st, o) :: (L + 1 + 1, o1) :: (L + 1, o2) :: ν) ?_ ?_ ?_) ⟨o', (a, tupOf [.int x.tag ta, x.pay tb]) :: ν, xs ++ [x], n' + 1, r₂, t1, t2, rfl, hd₃, by (first | lia | omega), by (first | lia | omega), ?_, ?_, ?_⟩
      · have hp : p ∈ (st, o') :: (L + 1 + 1, o1) :: (L + 1, o2) :: (a, tupOf [.int x.tag ta, x.pay tb]) :: (ν ++ (L, oL) :: κ) := hp
        refine all_cons ?_ (fun p hp => ?_) p hp
        · exact .head _
        refine all_cons ?_ (fun p hp => ?_) p hp
        · exact .tail _ (.tail _ (.head _))
        refine all_cons ?_ (fun p hp => ?_) p hp
        · exact .tail _ (.tail _ (.tail _ (.head _)))
        refine all_cons ?_ (fun p hp => ?_) p hp
        · exact .tail _ (.head _)
        · exact .tail _ (.tail _ (.tail _ (.tail _ hp)))
      · intro p hp
        refine all_cons ?_ (fun p hp => ?_) p hp
        · exact hLμ
        · exact hκ p hp
      · intro p hp
        exact hnew _ _ (N' p (.tail _ (.tail _ (.tail _ (List.mem_append_right _ hp))))).1
      · intro q hq
        refine all_cons ?_ (fun q hq => ?_) q hq
        · exact .inr ⟨_, .head _, rfl⟩
        refine all_cons ?_ (fun q hq => ?_) q hq
        · exact .inr ⟨_, .tail _ (.head _), rfl⟩
        refine all_cons ?_ (fun q hq => ?_) q hq
        · exact .inr ⟨_, .tail _ (.tail _ (.head _)), rfl⟩
        refine all_cons ?_ (fun q hq => ?_) q hq
        · exact .inl rfl
        · exact .inr ⟨_, .tail _ (.tail _ (.tail _ hq)), rfl⟩
      · intro p hp
        refine all_cons ?_ (fun p hp => ?_) p hp
        · exact hast
        · exact hνst p hp
      · exact fun H B => All2.app (hat H fun p hp => B p (.tail _ hp)) (.cons (tup_val (B _ (.head _))) .nil)
      · intro y hy
        refine all_app (fun y hy => ?_) (fun y hy => ?_) y hy
        · exact hok y hy
        · rw [List.mem_singleton.mp hy]; exact hx
    · clear F N
      intro acc μ₁ h tk Dc nD hRp1
      with_reducible refine gen fun GG kGG => ?_
      obtain ⟨o, ν, xs, n', r', t1, t2, rfl, hdo, hn', hr', hνst, hat, hok⟩ := hRp1
      with_reducible refine kGG ?_
      clear kGG GG
      intro hlen hDμ F N
      (((repeat' ((fail_if_success ((with_reducible (first | (show wpAny _ _ (eval (PySem.Expr.IfExp _ _ _ _) _) _ _ _) | (show wpAny _ _ (exec (Stmt.If _ _ _ _) _) _ _ _) | (show wpAny _ _ (setItem _ _ _) _ _ _) | (show CutSt _ _ _ _ _ _ _) | (show CutAt _ _ _ _ _ _ _) | (show wpAny _ _ (eval (PySem.Expr.ListComp _ _ _ _) _) _ _ _))))); (first | walk1 | (dsimp only; walk1) | (k_unfold; (try dsimp only)) | (refine hKS _ _ ?_; clear hKS KS; (try dsimp only))))); (all_goals (try dsimp only)); (all_goals (repeat ((((fail_if_success (with_reducible show wpAny _ _ _ _ _ _)); (refine (‹∀ (x : _) (y : Shared), _ → _›) _ _ ?_); (try dsimp only))))))))
      rename Fr _ _ _ _ => F
      rename News _ _ _ _ => N
      rename Obj.IsDictOf (PySem.strKind _ _) _ [] => hdd
      rename (_ == sysModules) = false => lod
      rename _ ∧ _ => hlt
      rename_i d' _ od _ _ _
      refine row_spec (Cb.at0 C F (by first | exact Nat.le_of_ble_eq_true rfl | assumption | (first | lia | omega)) (by first | exact Nat.le_of_ble_eq_true rfl | assumption | (first | lia | omega))) (fun h' tk' a o3 t1' t2' M hd3 lo3 => ?_)
      have N' := News.made F N M
      have F' := Fr.made F M
      have hne : ∀ p ∈ (a, o3) :: (d', od) :: (Dc, listOf acc.toArray nD) :: ν, p.1 ≠ st := fun p hp => by
        refine all_cons ?_ (fun p hp => ?_) p hp
        · intro q
          have z := (N (st, o) (.tail _ (.tail _ (.head _)))).1
          have y := M.2.1
          rw [show a = st from q, z] at y; cases y
        refine all_cons ?_ (fun p hp => ?_) p hp
        · exact Nat.ne_of_gt hlt.2.1
        refine all_cons ?_ (fun p hp => ?_) p hp
        · exact (hDμ (st, o) (.head _)).symm
        · exact hνst p hp
      have hsub : ∀ p ∈ (a, o3) :: (d', od) :: (Dc, listOf acc.toArray nD) :: ν, p ∈ (a, o3) :: (d', od) :: (Dc, listOf acc.toArray nD) :: (st, o) :: (L + 1 + 1, o1) :: (L + 1, o2) :: ν := fun p hp => by
        refine all_cons ?_ (fun p hp => ?_) p hp
        · exact .head _
        refine all_cons ?_ (fun p hp => ?_) p hp
        · exact .tail _ (.head _)
        refine all_cons ?_ (fun p hp => ?_) p hp
        · exact .tail _ (.tail _ (.head _))
        · exact .tail _ (.tail _ (.tail _ (.tail _ (.tail _ (.tail _ hp)))))
      have hxl := All2.len (hat h' (fun p hp => (N' p (.tail _ (.tail _ (.tail _ (.tail _ (.tail _ (.tail _ hp))))))).1))
      repeat ((((fail_if_success (with_reducible show wpAny _ _ _ _ _ _)); (refine (‹∀ (x : _) (y : Shared), _ → _›) _ _ ?_); (try dsimp only))))
      refine hQ h' tk' a ⟨acc, []⟩ ⟨1, up, xs, []⟩ _ n' r' (Fr.out F') ⟨⟨_, _, Heap.dictOf_iff.mpr ⟨o, (N' (st, o) (.tail _ (.tail _ (.tail _ (.head _))))).1, hdo⟩⟩, hs2⟩ (by first | exact Nat.le_of_ble_eq_true rfl | assumption | (first | lia | omega)) hr'
        ⟨fun p hp => new_of N' (hsub p hp) (fun q => hne p hp (List.mem_singleton.mp q)), fun p hp => (N' p (hsub p hp)).1, fun H B => ⟨⟨Dc, d', t1', t2', Heap.dictOf_iff.mpr ⟨o3, B _ (.head _), hd3⟩, lo3, ⟨_, B _ (.tail _ (.tail _ (.head _))), rfl, _, rfl⟩, Heap.dictOf_iff.mpr ⟨od, B _ (.tail _ (.head _)), hdd⟩, lod⟩, hat H fun p hp => B p (.tail _ (.tail _ (.tail _ hp))), .nil⟩⟩
        (.inr (.inl rfl)) hup.1 hup.2 (by show xs.length ≤ 3; (first | lia | omega)) hok (fun p hp => nomatch hp) (fun _ => rfl)
  · (((repeat' ((fail_if_success ((with_reducible (first | (show wpAny _ _ (eval (PySem.Expr.IfExp _ _ _ _) _) _ _ _) | (show wpAny _ _ (exec (Stmt.If _ _ _ _) _) _ _ _) | (show wpAny _ _ (setItem _ _ _) _ _ _) | (show CutSt _ _ _ _ _ _ _) | (show CutAt _ _ _ _ _ _ _) | (show wpAny _ _ (eval (PySem.Expr.ListComp _ _ _ _) _) _ _ _))))); (first | walk1 | (dsimp only; walk1) | (k_unfold; (try dsimp only)) | (refine hKS _ _ ?_; clear hKS KS; (try dsimp only))))); (all_goals (try dsimp only)); (all_goals (repeat ((((fail_if_success (with_reducible show wpAny _ _ _ _ _ _)); (refine (‹∀ (x : _) (y : Shared), _ → _›) _ _ ?_); (try dsimp only))))))))
    walk1
    (((repeat' ((fail_if_success ((with_reducible (first | (show wpAny _ _ (eval (PySem.Expr.IfExp _ _ _ _) _) _ _ _) | (show wpAny _ _ (exec (Stmt.If _ _ _ _) _) _ _ _) | (show wpAny _ _ (setItem _ _ _) _ _ _) | (show CutSt _ _ _ _ _ _ _) | (show CutAt _ _ _ _ _ _ _) | (show wpAny _ _ (eval (PySem.Expr.ListComp _ _ _ _) _) _ _ _))))); (first | walk1 | (dsimp only; walk1) | (k_unfold; (try dsimp only)) | (refine hKS _ _ ?_; clear hKS KS; (try dsimp only))))); (all_goals (try dsimp only)); (all_goals (repeat ((((fail_if_success (with_reducible show wpAny _ _ _ _ _ _)); (refine (‹∀ (x : _) (y : Shared), _ → _›) _ _ ?_); (try dsimp only))))))))
    · rename sort = 1 => hbad
      exact absurd hbad hs1
    rename Fr _ _ _ _ => F
    rename News _ _ _ _ => N
    rename Obj.IsDictOf (PySem.strKind _ _) _ [] => hdd
    rename (_ == sysModules) = false => lod
    rename (_ < _) ∧ _ => hlt
    rename_i d _ od _ _ _ hh
    have hdst : d ≠ st := Nat.ne_of_gt hlt.1
    have hdL2 : L + 1 + 1 ≠ d := Nat.ne_of_lt hlt.2.1
    have hdL1 : L + 1 ≠ d := Nat.ne_of_lt hlt.2.2
    have hgb : ∀ a ∈ [st], (hideAll s.heap [st]).get? a = none := fun a q => hideAll_none _ q
    have hLb : L ∉ [st] := fun q => (N (st, o₂) (.tail _ (.head _))).2.1 (List.mem_singleton.mp q).symm
    with_reducible refine gen fun GG kGG => ?_
    obtain ⟨kvs, hkvs⟩ : ∃ kvs : List (Str × Value), kvs = [] := ⟨_, rfl⟩
    obtain ⟨ms, hms⟩ : ∃ ms : List (Str × Vl), ms = [] := ⟨_, rfl⟩
    obtain ⟨ν, hν⟩ : ∃ ν : List (Addr × Obj), ν = [] := ⟨_, rfl⟩
    with_reducible refine kGG ?_
    clear kGG GG
    have O : OwnSt prog w (hideAll s.heap [st]) L hh d [] (count + 2) kvs ms ν := by
      subst hkvs; subst hms; subst hν
      exact OwnSt.start (fun p hp => N p (by rw [List.mem_singleton.mp hp]; exact .head _)) hdd
    have Ns : News (hideAll s.heap [st]) L hh [(st, o₂), (L + 1 + 1, o1), (L + 1, o2)] := fun p hp => N p (.tail _ hp)
    have hlen : kvs.length ≤ 0 := by rw [hkvs]; exact Nat.le_refl _
    have hνst : ∀ p ∈ ν, p.1 ≠ st := by rw [hν]; exact fun _ h => nomatch h
    with_reducible refine gen fun GG kGG => ?_
    obtain ⟨o, ho⟩ : ∃ o, o = o₂ := ⟨_, rfl⟩
    with_reducible refine kGG ?_
    clear kGG GG
    rw [← ho] at Ns hd2
    have hdo := hd2
    with_reducible refine gen fun GG kGG => ?_
    obtain ⟨n', hn0⟩ : ∃ n', n' = n + 1 := ⟨_, rfl⟩
    with_reducible refine kGG ?_
    clear kGG GG
    rw [← hn0] at hdo
    have hn' : n' ≤ n + 1 + 0 := by (first | lia | omega)
    with_reducible refine gen fun GG kGG => ?_
    obtain ⟨r', hr0⟩ : ∃ r', r' = r := ⟨_, rfl⟩
    with_reducible refine kGG ?_
    clear kGG GG
    rw [← hr0] at hdo
    have hr' : r' ≤ r := by (first | lia | omega)
    clear N hdd hkvs hms hν ho hn0 hr0 hd2
    refine cut_st F (fun h' => ∃ kvs ms ν o n' r' t1 t2, OwnSt prog w (hideAll s.heap [st]) L h' d [Str.ofString "name"] (count + 2) kvs ms ν ∧ kvs.length ≤ 1 ∧ News (hideAll s.heap [st]) L h' [(st, o), (L + 1 + 1, o1), (L + 1, o2)] ∧
      o.IsDictOf (PySem.strKind prog w) [(Str.ofString "nums", .ref num), (Str.ofString "next", .int ((n' : Nat) : Int) t1), (Str.ofString "refs", .int ((r' : Nat) : Int) t2)] ∧ n' ≤ n + 1 + 1 ∧ r' ≤ r ∧ (∀ p ∈ ν, p.1 ≠ st)) ?_ ?_
    · with_reducible refine gen fun GG kGG => ?_
      obtain ⟨⟨od, Nd, hdd⟩, hne, hat, hok⟩ := id O
      with_reducible refine kGG ?_
      clear kGG GG
      have N := (show News (hideAll s.heap [st]) L _ ((st, o) :: (L + 1 + 1, o1) :: (L + 1, o2) :: (d, od) :: ν) from News.append Ns Nd)
      walk1
      (((repeat' ((fail_if_success ((with_reducible (first | (show wpAny _ _ (eval (PySem.Expr.IfExp _ _ _ _) _) _ _ _) | (show wpAny _ _ (exec (Stmt.If _ _ _ _) _) _ _ _) | (show wpAny _ _ (setItem _ _ _) _ _ _) | (show CutSt _ _ _ _ _ _ _) | (show CutAt _ _ _ _ _ _ _) | (show wpAny _ _ (eval (PySem.Expr.ListComp _ _ _ _) _) _ _ _))))); (first | walk1 | (dsimp only; walk1) | (k_unfold; (try dsimp only)) | (refine hKS _ _ ?_; clear hKS KS; (try dsimp only))))); (all_goals (try dsimp only)); (all_goals (repeat ((((fail_if_success (with_reducible show wpAny _ _ _ _ _ _)); (refine (‹∀ (x : _) (y : Shared), _ → _›) _ _ ?_); (try dsimp only))))))))
      all_goals (rename Fr _ _ _ _ => F)
      all_goals (rename News _ _ _ _ => N)
      all_goals first
        | exact ⟨rfl, _, _, rfl, F, kvs, ms, ν, o, n', r', _, _, OwnSt.le ⟨⟨od, (fun p hp => N p (by repeat (first | exact hp | apply List.Mem.tail))), hdd⟩, hne, hat, hok⟩ (by decide), by (first | lia | omega), (fun p hp => N p (by simp only [List.mem_cons, List.not_mem_nil, or_false] at hp ⊢; rcases hp with h | h | h <;> simp [h])), hdo, by (first | lia | omega), hr', hνst⟩
        | (refine value_in (Cb.at C F hgb hLb (by first | exact Nat.le_of_ble_eq_true rfl | assumption | (first | lia | omega)) (by first | exact Nat.le_of_ble_eq_true rfl | assumption | (first | lia | omega))) F N (fun p hp => by
              refine all_cons ?_ (fun p hp => ?_) p hp
              · exact hw3
              refine all_cons ?_ (fun p hp => ?_) p hp
              · exact hw4
              refine all_cons ?_ (fun p hp => ?_) p hp
              · exact hdst
              · exact hνst p hp) hdo hs2 hn (by first | exact Nat.le_of_ble_eq_true rfl | assumption | (first | lia | omega)) (by first | exact Nat.le_of_ble_eq_true rfl | assumption | (first | lia | omega)) hc (fun h₃ tk₃ a x o' r₂ t1 t2 ta tb hx hr2 hast hnew F₃ N₃ hd₃ => ?_)
           clear F N
           (((repeat' ((fail_if_success ((with_reducible (first | (show wpAny _ _ (eval (PySem.Expr.IfExp _ _ _ _) _) _ _ _) | (show wpAny _ _ (exec (Stmt.If _ _ _ _) _) _ _ _) | (show wpAny _ _ (setItem _ _ _) _ _ _) | (show CutSt _ _ _ _ _ _ _) | (show CutAt _ _ _ _ _ _ _) | (show wpAny _ _ (eval (PySem.Expr.ListComp _ _ _ _) _) _ _ _))))); (first | walk1 | (dsimp only; walk1) | (k_unfold; (try dsimp only)) | (refine hKS _ _ ?_; clear hKS KS; (try dsimp only))))); (all_goals (try dsimp only)); (all_goals (repeat ((((fail_if_success (with_reducible show wpAny _ _ _ _ _ _)); (refine (‹∀ (x : _) (y : Shared), _ → _›) _ _ ?_); (try dsimp only))))))))
           refine own_put F₃ ⟨⟨od, (fun p hp => N₃ p (.tail _ (.tail _ (.tail _ (.tail _ hp))))), hdd⟩, hne, hat, hok⟩ (by decide) (fun p hp => by rw [List.mem_singleton.mp hp]; exact N₃ _ (.tail _ (.head _))) hx (by first | exact Nat.le_of_ble_eq_true rfl | assumption | (first | lia | omega)) (fun h' F' O' stay => ?_)
           (((repeat' ((fail_if_success ((with_reducible (first | (show wpAny _ _ (eval (PySem.Expr.IfExp _ _ _ _) _) _ _ _) | (show wpAny _ _ (exec (Stmt.If _ _ _ _) _) _ _ _) | (show wpAny _ _ (setItem _ _ _) _ _ _) | (show CutSt _ _ _ _ _ _ _) | (show CutAt _ _ _ _ _ _ _) | (show wpAny _ _ (eval (PySem.Expr.ListComp _ _ _ _) _) _ _ _))))); (first | walk1 | (dsimp only; walk1) | (k_unfold; (try dsimp only)) | (refine hKS _ _ ?_; clear hKS KS; (try dsimp only))))); (all_goals (try dsimp only)); (all_goals (repeat ((((fail_if_success (with_reducible show wpAny _ _ _ _ _ _)); (refine (‹∀ (x : _) (y : Shared), _ → _›) _ _ ?_); (try dsimp only))))))))
           refine ⟨rfl, _, _, rfl, F', _, _, _, o', n' + 1, r₂, t1, t2, OwnSt.le O' (by decide), by rw [List.length_append]; simp only [List.length_cons, List.length_nil]; (first | lia | omega), (fun p hp => ?_), hd₃, by (first | lia | omega), by (first | lia | omega), fun p hp => ?_⟩
           · refine all_cons ?_ (fun p hp => ?_) p hp
             · exact ⟨stay _ _ (fun q => hdst q.symm) (N₃ _ (.head _)).1, (N₃ _ (.head _)).2⟩
             refine all_cons ?_ (fun p hp => ?_) p hp
             · exact ⟨stay _ _ hdL2 (N₃ _ (.tail _ (.tail _ (.head _)))).1, (N₃ _ (.tail _ (.tail _ (.head _)))).2⟩
             rw [List.mem_singleton.mp hp]
             exact ⟨stay _ _ hdL1 (N₃ _ (.tail _ (.tail _ (.tail _ (.head _))))).1, (N₃ _ (.tail _ (.tail _ (.tail _ (.head _))))).2⟩
           · refine all_cons ?_ (fun p hp => ?_) p hp
             · exact hast
             · exact hνst p hp)
    clear F O Ns hdo hn' hr' hνst hlen
    intro h' tk' F hRp1
    with_reducible refine gen fun GG kGG => ?_
    obtain ⟨kvs, ms, ν, o, n', r', t1, t2, O, hlen, Ns, hdo, hn', hr', hνst⟩ := hRp1
    with_reducible refine kGG ?_
    clear kGG GG
    have N := Ns
    (((repeat' ((fail_if_success ((with_reducible (first | (show wpAny _ _ (eval (PySem.Expr.IfExp _ _ _ _) _) _ _ _) | (show wpAny _ _ (exec (Stmt.If _ _ _ _) _) _ _ _) | (show wpAny _ _ (setItem _ _ _) _ _ _) | (show CutSt _ _ _ _ _ _ _) | (show CutAt _ _ _ _ _ _ _) | (show wpAny _ _ (eval (PySem.Expr.ListComp _ _ _ _) _) _ _ _))))); (first | walk1 | (dsimp only; walk1) | (k_unfold; (try dsimp only)) | (refine hKS _ _ ?_; clear hKS KS; (try dsimp only))))); (all_goals (try dsimp only)); (all_goals (repeat ((((fail_if_success (with_reducible show wpAny _ _ _ _ _ _)); (refine (‹∀ (x : _) (y : Shared), _ → _›) _ _ ?_); (try dsimp only))))))))
    clear N
    refine cut_st F (fun h' => ∃ kvs ms ν o n' r' t1 t2, OwnSt prog w (hideAll s.heap [st]) L h' d words (count + 2) kvs ms ν ∧ kvs.length ≤ 2 ∧ News (hideAll s.heap [st]) L h' [(st, o), (L + 1 + 1, o1), (L + 1, o2)] ∧
      o.IsDictOf (PySem.strKind prog w) [(Str.ofString "nums", .ref num), (Str.ofString "next", .int ((n' : Nat) : Int) t1), (Str.ofString "refs", .int ((r' : Nat) : Int) t2)] ∧ n' ≤ n + 1 + 2 ∧ r' ≤ r ∧ (∀ p ∈ ν, p.1 ≠ st)) ?_ ?_
    · with_reducible refine gen fun GG kGG => ?_
      obtain ⟨⟨od, Nd, hdd⟩, hne, hat, hok⟩ := id O
      with_reducible refine kGG ?_
      clear kGG GG
      have N := (show News (hideAll s.heap [st]) L _ ((st, o) :: (L + 1 + 1, o1) :: (L + 1, o2) :: (d, od) :: ν) from News.append Ns Nd)
      walk1
      (((repeat' ((fail_if_success ((with_reducible (first | (show wpAny _ _ (eval (PySem.Expr.IfExp _ _ _ _) _) _ _ _) | (show wpAny _ _ (exec (Stmt.If _ _ _ _) _) _ _ _) | (show wpAny _ _ (setItem _ _ _) _ _ _) | (show CutSt _ _ _ _ _ _ _) | (show CutAt _ _ _ _ _ _ _) | (show wpAny _ _ (eval (PySem.Expr.ListComp _ _ _ _) _) _ _ _))))); (first | walk1 | (dsimp only; walk1) | (k_unfold; (try dsimp only)) | (refine hKS _ _ ?_; clear hKS KS; (try dsimp only))))); (all_goals (try dsimp only)); (all_goals (repeat ((((fail_if_success (with_reducible show wpAny _ _ _ _ _ _)); (refine (‹∀ (x : _) (y : Shared), _ → _›) _ _ ?_); (try dsimp only))))))))
      all_goals (rename Fr _ _ _ _ => F)
      all_goals (rename News _ _ _ _ => N)
      all_goals first
        | exact ⟨rfl, _, _, rfl, F, kvs, ms, ν, o, n', r', _, _, OwnSt.le ⟨⟨od, (fun p hp => N p (by repeat (first | exact hp | apply List.Mem.tail))), hdd⟩, hne, hat, hok⟩ (by decide), by (first | lia | omega), (fun p hp => N p (by simp only [List.mem_cons, List.not_mem_nil, or_false] at hp ⊢; rcases hp with h | h | h <;> simp [h])), hdo, by (first | lia | omega), hr', hνst⟩
        | (refine value_in (Cb.at C F hgb hLb (by first | exact Nat.le_of_ble_eq_true rfl | assumption | (first | lia | omega)) (by first | exact Nat.le_of_ble_eq_true rfl | assumption | (first | lia | omega))) F N (fun p hp => by
              refine all_cons ?_ (fun p hp => ?_) p hp
              · exact hw3
              refine all_cons ?_ (fun p hp => ?_) p hp
              · exact hw4
              refine all_cons ?_ (fun p hp => ?_) p hp
              · exact hdst
              · exact hνst p hp) hdo hs2 hn (by first | exact Nat.le_of_ble_eq_true rfl | assumption | (first | lia | omega)) (by first | exact Nat.le_of_ble_eq_true rfl | assumption | (first | lia | omega)) hc (fun h₃ tk₃ a x o' r₂ t1 t2 ta tb hx hr2 hast hnew F₃ N₃ hd₃ => ?_)
           clear F N
           (((repeat' ((fail_if_success ((with_reducible (first | (show wpAny _ _ (eval (PySem.Expr.IfExp _ _ _ _) _) _ _ _) | (show wpAny _ _ (exec (Stmt.If _ _ _ _) _) _ _ _) | (show wpAny _ _ (setItem _ _ _) _ _ _) | (show CutSt _ _ _ _ _ _ _) | (show CutAt _ _ _ _ _ _ _) | (show wpAny _ _ (eval (PySem.Expr.ListComp _ _ _ _) _) _ _ _))))); (first | walk1 | (dsimp only; walk1) | (k_unfold; (try dsimp only)) | (refine hKS _ _ ?_; clear hKS KS; (try dsimp only))))); (all_goals (try dsimp only)); (all_goals (repeat ((((fail_if_success (with_reducible show wpAny _ _ _ _ _ _)); (refine (‹∀ (x : _) (y : Shared), _ → _›) _ _ ?_); (try dsimp only))))))))
           refine own_put F₃ ⟨⟨od, (fun p hp => N₃ p (.tail _ (.tail _ (.tail _ (.tail _ hp))))), hdd⟩, hne, hat, hok⟩ (by decide) (fun p hp => by rw [List.mem_singleton.mp hp]; exact N₃ _ (.tail _ (.head _))) hx (by first | exact Nat.le_of_ble_eq_true rfl | assumption | (first | lia | omega)) (fun h' F' O' stay => ?_)
           (((repeat' ((fail_if_success ((with_reducible (first | (show wpAny _ _ (eval (PySem.Expr.IfExp _ _ _ _) _) _ _ _) | (show wpAny _ _ (exec (Stmt.If _ _ _ _) _) _ _ _) | (show wpAny _ _ (setItem _ _ _) _ _ _) | (show CutSt _ _ _ _ _ _ _) | (show CutAt _ _ _ _ _ _ _) | (show wpAny _ _ (eval (PySem.Expr.ListComp _ _ _ _) _) _ _ _))))); (first | walk1 | (dsimp only; walk1) | (k_unfold; (try dsimp only)) | (refine hKS _ _ ?_; clear hKS KS; (try dsimp only))))); (all_goals (try dsimp only)); (all_goals (repeat ((((fail_if_success (with_reducible show wpAny _ _ _ _ _ _)); (refine (‹∀ (x : _) (y : Shared), _ → _›) _ _ ?_); (try dsimp only))))))))
           refine ⟨rfl, _, _, rfl, F', _, _, _, o', n' + 1, r₂, t1, t2, OwnSt.le O' (by decide), by rw [List.length_append]; simp only [List.length_cons, List.length_nil]; (first | lia | omega), (fun p hp => ?_), hd₃, by (first | lia | omega), by (first | lia | omega), fun p hp => ?_⟩
           · refine all_cons ?_ (fun p hp => ?_) p hp
             · exact ⟨stay _ _ (fun q => hdst q.symm) (N₃ _ (.head _)).1, (N₃ _ (.head _)).2⟩
             refine all_cons ?_ (fun p hp => ?_) p hp
             · exact ⟨stay _ _ hdL2 (N₃ _ (.tail _ (.tail _ (.head _)))).1, (N₃ _ (.tail _ (.tail _ (.head _)))).2⟩
             rw [List.mem_singleton.mp hp]
             exact ⟨stay _ _ hdL1 (N₃ _ (.tail _ (.tail _ (.tail _ (.head _))))).1, (N₃ _ (.tail _ (.tail _ (.tail _ (.head _))))).2⟩
           · refine all_cons ?_ (fun p hp => ?_) p hp
             · exact hast
             · exact hνst p hp)
    clear F O Ns hdo hn' hr' hνst hlen
    intro h' tk' F hRp1
    with_reducible refine gen fun GG kGG => ?_
    obtain ⟨kvs, ms, ν, o, n', r', t1, t2, O, hlen, Ns, hdo, hn', hr', hνst⟩ := hRp1
    obtain ⟨⟨od, Nd, hdd⟩, hne, hat, hok⟩ := id O
    with_reducible refine kGG ?_
    clear kGG GG
    have N := (show News (hideAll s.heap [st]) L _ ((st, o) :: (L + 1 + 1, o1) :: (L + 1, o2) :: (d, od) :: ν) from News.append Ns Nd)
    (((repeat' ((fail_if_success ((with_reducible (first | (show wpAny _ _ (eval (PySem.Expr.IfExp _ _ _ _) _) _ _ _) | (show wpAny _ _ (exec (Stmt.If _ _ _ _) _) _ _ _) | (show wpAny _ _ (setItem _ _ _) _ _ _) | (show CutSt _ _ _ _ _ _ _) | (show CutAt _ _ _ _ _ _ _) | (show wpAny _ _ (eval (PySem.Expr.ListComp _ _ _ _) _) _ _ _))))); (first | walk1 | (dsimp only; walk1) | (k_unfold; (try dsimp only)) | (refine hKS _ _ ?_; clear hKS KS; (try dsimp only))))); (all_goals (try dsimp only)); (all_goals (repeat ((((fail_if_success (with_reducible show wpAny _ _ _ _ _ _)); (refine (‹∀ (x : _) (y : Shared), _ → _›) _ _ ?_); (try dsimp only))))))))
    rename Fr _ _ _ _ => F
    rename News _ _ _ _ => N
    rename (_ < _) ∧ _ => hlt2
    rename_i li _
    refine row_spec (Cb.at0 C F (by first | exact Nat.le_of_ble_eq_true rfl | assumption | (first | lia | omega)) (by first | exact Nat.le_of_ble_eq_true rfl | assumption | (first | lia | omega))) (fun h' tk' a o3 t1' t2' M hd3 lo3 => ?_)
    have N' := News.made F N M
    have F' := Fr.made F M
    have hne2 : ∀ p ∈ (a, o3) :: (li, listOf #[] 0) :: (d, od) :: ν, p.1 ≠ st := fun p hp => by
      refine all_cons ?_ (fun p hp => ?_) p hp
      · intro q
        have z := (N (st, o) (.tail _ (.head _))).1
        have y := M.2.1
        rw [show a = st from q, z] at y; cases y
      refine all_cons ?_ (fun p hp => ?_) p hp
      · exact Nat.ne_of_gt hlt2.1
      refine all_cons ?_ (fun p hp => ?_) p hp
      · exact hdst
      · exact hνst p hp
    have hsub : ∀ p ∈ (a, o3) :: (li, listOf #[] 0) :: (d, od) :: ν, p ∈ (a, o3) :: (li, listOf #[] 0) :: (st, o) :: (L + 1 + 1, o1) :: (L + 1, o2) :: (d, od) :: ν := fun p hp => by
      refine all_cons ?_ (fun p hp => ?_) p hp
      · exact .head _
      refine all_cons ?_ (fun p hp => ?_) p hp
      · exact .tail _ (.head _)
      · exact .tail _ (.tail _ (.tail _ (.tail _ (.tail _ hp))))
    repeat ((((fail_if_success (with_reducible show wpAny _ _ _ _ _ _)); (refine (‹∀ (x : _) (y : Shared), _ → _›) _ _ ?_); (try dsimp only))))
    refine hQ h' tk' a ⟨[], kvs⟩ ⟨sort, up, [], ms⟩ _ n' r' (Fr.out F') ⟨⟨_, _, Heap.dictOf_iff.mpr ⟨o, (N' (st, o) (.tail _ (.tail _ (.head _)))).1, hdo⟩⟩, hs2⟩ (by first | exact Nat.le_of_ble_eq_true rfl | assumption | (first | lia | omega)) hr'
      ⟨fun p hp => new_of N' (hsub p hp) (fun q => hne2 p hp (List.mem_singleton.mp q)), fun p hp => (N' p (hsub p hp)).1, fun H B => ⟨⟨li, d, t1', t2', Heap.dictOf_iff.mpr ⟨o3, B _ (.head _), hd3⟩, lo3, ⟨_, B _ (.tail _ (.head _)), rfl, _, rfl⟩, Heap.dictOf_iff.mpr ⟨od, B _ (.tail _ (.tail _ (.head _))), hdd⟩, lod⟩, .nil, hat H fun p hp => B p (.tail _ (.tail _ (.tail _ hp)))⟩⟩
      hsort hup.1 hup.2 (Nat.zero_le _) (fun y hy => nomatch hy) hok (fun h => absurd h hs1)
end
local macro_rules | `(tactic| walk_at "eval Dict") => `(tactic| ((with_reducible show wpAny _ _ (eval (PySem.Expr.Dict (_ :: _) _ _) _) _ _ _); k_dflt (refine' kdn_str ?kq1 ?kq2 ?kq3 ?kq4 ?kq5 ?kq6 ?kq7 ?kq8 ?_; (case kq1 => rfl); (case kq2 => k_asm); (case kq3 => first | k_asm | exact News.nil); (case kq4 => exact TopRead.nolimit (by k_asm)); (case kq5 => rfl); (case kq6 => rfl); (case kq7 => exact List.cons_ne_nil _ _); (case kq8 => exact Nat.le_of_ble_eq_true rfl)); intro d' h' o' F' N' l1 lo' hd'; (try k_lt l1)))
noncomputable def LinkRow (x : Vl) (r : Rw) : Prop :=
  r = ⟨1, -1, [x], []⟩ ∨ r = ⟨1, 0, [.str (Str.ofString "a"), x], []⟩ ∨ r = ⟨3, 0, [], [(Str.ofString "message", x)]⟩ ∨ r = ⟨3, -1, [], [(Str.ofString "name", x), (Str.ofString "message", .str (Str.ofString "m"))]⟩ ∨
  r = ⟨1, -1, [.null, x, .undef], []⟩ ∨ r = ⟨3, -1, [], [(Str.ofString "message", x), (Str.ofString "name", .str (Str.ofString ""))]⟩
section
variable {prog : Program} {w : World} {mg mb : Str → Option Value} {A : Around} {s : Shared} {Q E : Value → Shared → Prop}
theorem row_end {h₀ : Heap} {L it ow : Addr} {m : Str → Option Value} {μ : List (Addr × Obj)} {vs : List Value} {nl d u : Nat} {od : Obj} {kvs : List (Str × Value)} {ms : List (Str × Vl)} {ys : List Vl} {sort up : Int} {t1 t2 : Tok} {VB : Heap → Prop}
   (C : Cb w mg mb A h₀ L d u) (hd1 : 1 ≤ d) (hu1 : 3 ≤ u) (F : Fr h₀ L s.heap m) (N : News h₀ L s.heap μ) (hi : (it, listOf vs.toArray nl) ∈ μ) (ho : (ow, od) ∈ μ) (hd : od.IsDictOf (PySem.strKind prog w) kvs) (lo : (ow == sysModules) = false)
   (hat : ∀ H, Blk H μ → VB H → All2 (ValAt H) vs ys ∧ OwnAt H kvs ms)
   (hQ : ∀ h' tk' a ν, Stays [] h₀ h' → (∀ p ∈ ν, h₀.get? p.1 = none) → Blk h' ν → (∀ H, Blk H ν → VB H → RowAt prog w H a ⟨vs, kvs⟩ ⟨sort, up, ys, ms⟩) → Q (.ref a) { s with heap := h', toks := tk' }) :
   wpAny (model prog w) A (call (.ref 257) [.int sort t1, .int up t2, .ref it, .ref ow]) Q E s := by
  refine row_spec (Cb.at0 C F hd1 hu1) (fun h' tk' a o3 t1' t2' M hd3 lo3 => ?_)
  have N' := News.made F N M
  have F' := Fr.made F M
  repeat ((((fail_if_success (with_reducible show wpAny _ _ _ _ _ _)); (refine (‹∀ (x : _) (y : Shared), _ → _›) _ _ ?_); (try dsimp only))))
  refine hQ h' tk' a _ (Fr.out0 F') (fun p hp => (N' p hp).2.2) (blk_of N') (fun H B v => ?_)
  with_reducible refine gen fun GG kGG => ?_
  obtain ⟨z1, z2⟩ := hat H (fun p hp => B p (.tail _ hp)) v
  with_reducible refine kGG ?_
  clear kGG GG
  exact ⟨⟨it, ow, t1', t2', Heap.dictOf_iff.mpr ⟨o3, B _ (.head _), hd3⟩, lo3, ⟨_, B _ (.tail _ hi), rfl, _, rfl⟩, Heap.dictOf_iff.mpr ⟨od, B _ (.tail _ ho), hd⟩, lo⟩, z1, z2⟩
theorem link_spec {shape : Int} {b : Addr} {x : Vl} {ts : Tok} (C0 : Cx w mg mb A s.heap [] 2 6)
   (hQ : ∀ h' tk' a q r ν, Stays [] s.heap h' → (∀ p ∈ ν, s.heap.get? p.1 = none) → Blk h' ν → (∀ H, Blk H ν → ValAt H (.ref b) x → RowAt prog w H a q r) → LinkRow x r → Q (.ref a) { s with heap := h', toks := tk' }) :
   wpAny (model prog w) A (call (.ref 276) [.int shape ts, .ref b]) Q E s := by
  refine call_rule0 (d := 1) (u := 3) (binds := [(Str.ofString "shape", .int shape ts), (Str.ofString "below", .ref b)]) C0 (by k_is) (by k_is) (BindsTo.of_eq rfl) (locs rfl) (fun L h₁ tk F N C => ?_) (by decide)
  with_reducible refine hideQ fun KK hKK => ?_
  have X := C.X
  have T := C.T
  (((repeat' ((fail_if_success ((with_reducible (first | (show wpAny _ _ (exec (Stmt.While _ _ _ _) _) _ _ _) | (show wpAny _ _ (exec (Stmt.For _ _ _ _ _) _) _ _ _) | (show wpAny _ _ (eval (PySem.Expr.ListComp _ _ _ _) _) _ _ _) | (show wpAny _ _ (exec (Stmt.Try _ _ _ _ _) _) _ _ _))))); (first | walk1 | (dsimp only; walk1) | (k_unfold; (try dsimp only)) | (refine hKS _ _ ?_; clear hKS KS; (try dsimp only))))); (all_goals (try dsimp only)); (all_goals (repeat ((((fail_if_success (with_reducible show wpAny _ _ _ _ _ _)); (refine (‹∀ (x : _) (y : Shared), _ → _›) _ _ ?_); (try dsimp only))))))))
  all_goals (rename Fr _ _ _ _ => F)
  all_goals (rename News _ _ _ _ => N)
  all_goals (rename Obj.IsDictOf (PySem.strKind _ _) _ _ => hd)
  all_goals (rename (_ == sysModules) = false => lo)
  · refine row_end (VB := fun H => ValAt H (.ref b) x) (vs := [Value.ref b]) (ys := [x]) (kvs := []) (ms := []) C (by first | exact Nat.le_of_ble_eq_true rfl | assumption | (first | lia | omega)) (by first | exact Nat.le_of_ble_eq_true rfl | assumption | (first | lia | omega)) F N (by k_mem) (by k_mem) hd lo (fun H B v => ⟨.cons v .nil, .nil⟩) (fun h' tk' a ν S hn hb hr => ?_)
    repeat ((((fail_if_success (with_reducible show wpAny _ _ _ _ _ _)); (refine (‹∀ (x : _) (y : Shared), _ → _›) _ _ ?_); (try dsimp only))))
    exact hQ h' tk' a _ _ ν S hn hb hr (.inl rfl)
  · refine row_end (VB := fun H => ValAt H (.ref b) x) (vs := [_, Value.ref b]) (ys := [.str (Str.ofString "a"), x]) (kvs := []) (ms := []) C (by first | exact Nat.le_of_ble_eq_true rfl | assumption | (first | lia | omega)) (by first | exact Nat.le_of_ble_eq_true rfl | assumption | (first | lia | omega)) F N (by k_mem) (by k_mem) hd lo (fun H B v => ⟨.cons (tup_val (x := .str (Str.ofString "a")) (B _ (.tail _ (.tail _ (.head _))))) (.cons v .nil), .nil⟩) (fun h' tk' a ν S hn hb hr => ?_)
    repeat ((((fail_if_success (with_reducible show wpAny _ _ _ _ _ _)); (refine (‹∀ (x : _) (y : Shared), _ → _›) _ _ ?_); (try dsimp only))))
    exact hQ h' tk' a _ _ ν S hn hb hr (.inr (.inl rfl))
  · refine row_end (VB := fun H => ValAt H (.ref b) x) (vs := []) (ys := []) (kvs := [(Str.ofString "message", .ref b)]) (ms := [(Str.ofString "message", x)]) C (by first | exact Nat.le_of_ble_eq_true rfl | assumption | (first | lia | omega)) (by first | exact Nat.le_of_ble_eq_true rfl | assumption | (first | lia | omega)) F N (by k_mem) (by k_mem) hd lo (fun H B v => ⟨.nil, .cons ⟨rfl, v⟩ .nil⟩) (fun h' tk' a ν S hn hb hr => ?_)
    repeat ((((fail_if_success (with_reducible show wpAny _ _ _ _ _ _)); (refine (‹∀ (x : _) (y : Shared), _ → _›) _ _ ?_); (try dsimp only))))
    exact hQ h' tk' a _ _ ν S hn hb hr (.inr (.inr (.inl rfl)))
  · refine row_end (VB := fun H => ValAt H (.ref b) x) (vs := []) (ys := []) (kvs := [(Str.ofString "name", .ref b), (Str.ofString "message", _)]) (ms := [(Str.ofString "name", x), (Str.ofString "message", .str (Str.ofString "m"))]) C (by first | exact Nat.le_of_ble_eq_true rfl | assumption | (first | lia | omega)) (by first | exact Nat.le_of_ble_eq_true rfl | assumption | (first | lia | omega)) F N (by k_mem) (by k_mem) hd lo (fun H B v => ⟨.nil, .cons ⟨rfl, v⟩ (.cons ⟨rfl, tup_val (x := .str (Str.ofString "m")) (B _ (by k_mem))⟩ .nil)⟩) (fun h' tk' a ν S hn hb hr => ?_)
    repeat ((((fail_if_success (with_reducible show wpAny _ _ _ _ _ _)); (refine (‹∀ (x : _) (y : Shared), _ → _›) _ _ ?_); (try dsimp only))))
    exact hQ h' tk' a _ _ ν S hn hb hr (.inr (.inr (.inr (.inl rfl))))
  · refine row_end (VB := fun H => ValAt H (.ref b) x) (vs := [_, Value.ref b, _]) (ys := [.null, x, .undef]) (kvs := []) (ms := []) C (by first | exact Nat.le_of_ble_eq_true rfl | assumption | (first | lia | omega)) (by first | exact Nat.le_of_ble_eq_true rfl | assumption | (first | lia | omega)) F N (by k_mem) (by k_mem) hd lo (fun H B v => ⟨.cons (tup_val (x := .null) (B _ (.tail _ (.tail _ (.tail _ (.head _)))))) (.cons v (.cons (tup_val (x := .undef) (B _ (.tail _ (.tail _ (.head _))))) .nil)), .nil⟩) (fun h' tk' a ν S hn hb hr => ?_)
    repeat ((((fail_if_success (with_reducible show wpAny _ _ _ _ _ _)); (refine (‹∀ (x : _) (y : Shared), _ → _›) _ _ ?_); (try dsimp only))))
    exact hQ h' tk' a _ _ ν S hn hb hr (.inr (.inr (.inr (.inr (.inl rfl)))))
  · refine row_end (VB := fun H => ValAt H (.ref b) x) (vs := []) (ys := []) (kvs := [(Str.ofString "message", .ref b), (Str.ofString "name", _)]) (ms := [(Str.ofString "message", x), (Str.ofString "name", .str (Str.ofString ""))]) C (by first | exact Nat.le_of_ble_eq_true rfl | assumption | (first | lia | omega)) (by first | exact Nat.le_of_ble_eq_true rfl | assumption | (first | lia | omega)) F N (by k_mem) (by k_mem) hd lo (fun H B v => ⟨.nil, .cons ⟨rfl, v⟩ (.cons ⟨rfl, tup_val (x := .str (Str.ofString "")) (B _ (by k_mem))⟩ .nil)⟩) (fun h' tk' a ν S hn hb hr => ?_)
    repeat ((((fail_if_success (with_reducible show wpAny _ _ _ _ _ _)); (refine (‹∀ (x : _) (y : Shared), _ → _›) _ _ ?_); (try dsimp only))))
    exact hQ h' tk' a _ _ ν S hn hb hr (.inr (.inr (.inr (.inr (.inr rfl)))))
end
section
section
variable (prog : Program) (w : World)
noncomputable def RowsL (H : Heap) (xs : List Addr) (qs : List Raw) (rs : List Rw) : Prop := xs.length = rs.length ∧ qs.length = rs.length ∧ ∀ (k : Nat) (x : Addr) (q : Raw) (r : Rw), xs[k]? = some x → qs[k]? = some q → rs[k]? = some r → RowAt prog w H x q r
end
theorem RowsL.nil {prog : Program} {w : World} {H : Heap} : RowsL prog w H [] [] [] := ⟨rfl, rfl, fun k x q r h => by simp at h⟩
theorem RowsL.app {prog : Program} {w : World} {H : Heap} {xs xs' : List Addr} {qs qs' : List Raw} {rs rs' : List Rw} (R : RowsL prog w H xs qs rs) (R' : RowsL prog w H xs' qs' rs') : RowsL prog w H (xs ++ xs') (qs ++ qs') (rs ++ rs') := by
  with_reducible refine gen fun GG kGG => ?_
  obtain ⟨h1, h2, h3⟩ := R
  obtain ⟨h1', h2', h3'⟩ := R'
  with_reducible refine kGG ?_
  clear kGG GG
  refine ⟨by rw [List.length_append, List.length_append, h1, h1'], by rw [List.length_append, List.length_append, h2, h2'], fun k x q r hx hq hr => ?_⟩
  by_cases hk : k < rs.length
  · rw [List.getElem?_append_left (by first | exact Nat.le_of_ble_eq_true rfl | assumption | (first | lia | omega))] at hx hq hr
    exact h3 k x q r hx hq hr
  · rw [List.getElem?_append_right (by first | exact Nat.le_of_ble_eq_true rfl | assumption | (first | lia | omega))] at hx hq hr
    rw [h1] at hx; rw [h2] at hq
    exact h3' _ x q r hx hq hr
theorem RowsL.one {prog : Program} {w : World} {H : Heap} {x : Addr} {q : Raw} {r : Rw} (R : RowAt prog w H x q r) : RowsL prog w H [x] [q] [r] := ⟨rfl, rfl, fun k x' q' r' hx hq hr => by
  cases k with
  | zero => cases hx; cases hq; cases hr; exact R
  | succ k => simp at hx⟩
/-- what a nest's link hangs on -/
noncomputable def NB (start : Nat) (x : Vl) : Prop := (∃ j, x = .obj j ∧ (j = 0 ∨ start ≤ j ∧ j < start + 16)) ∨ x = .str (Str.ofString "z") ∨ x = .null
noncomputable def NestRow (start : Nat) (r : Rw) : Prop := (∃ x, LinkRow x r ∧ NB start x) ∨ ((r.sort = 1 ∨ r.sort = 3) ∧ r.up = -1 ∧ r.items = [] ∧ r.own = [])
theorem tup_valI {H : Heap} {a : Addr} {i : Int} {t t' : Tok} (h : H.get? a = some (tupOf [.int 6 t, .int i t'])) (h0 : 0 ≤ i) : ValAt H (.ref a) (.obj i.toNat) :=
  ⟨a, t, t', rfl, _, h, rfl, _, by show _ = Data.seq (List.toArray [Value.int 6 t, Value.int (i.toNat : Int) t']) _; rw [Int.toNat_of_nonneg h0]⟩
section
variable {prog : Program} {w : World} {mg mb : Str → Option Value} {A : Around} {s : Shared} {Q E : Value → Shared → Prop}
theorem news_new {g h h' : Heap} {L : Addr} {m : Str → Option Value} {ν : List (Addr × Obj)} (F : Fr g L h m) (hn : ∀ p ∈ ν, h.get? p.1 = none) (hb : Blk h' ν) : News g L h' ν := fun p hp => by
  refine ⟨hb p hp, fun q => ?_, ?_⟩
  · obtain ⟨oL, _, _, hL, _⟩ := F.ns
    have := hn p hp
    rw [q, hL] at this; cases this
  · cases q : g.get? p.1 with
    | none => rfl
    | some o => have := hn p hp; rw [F.keep _ _ q] at this; cases this
structure ListBlk (ν : List (Addr × Obj)) (a : Addr) (its : Array Value) : Prop where
  of : ∀ H, Blk H ν → H.IsList a its
theorem blk_list {g h : Heap} {L a : Addr} {μ ν : List (Addr × Obj)} {its : Array Value} (T : ListBlk ν a its) (N : News g L h μ) (hs : ∀ p ∈ ν, p ∈ μ) : h.IsList a its := T.of h fun p hp => (N p (hs p hp)).1
theorem allLt_mem {d : Addr} {l : List (Addr × Obj)} : AllLt d l → ∀ p ∈ l, p.1 ≠ d := by
  induction l with
  | nil => intro _ p hp; cases hp
  | cons q r ih =>
    intro h p hp
    rcases List.mem_cons.mp hp with e | hp
    · rw [e]; exact Nat.ne_of_lt h.1
    · exact ih h.2 p hp
local macro_rules | `(tactic| walk_at "m_list") => `(tactic| first | assumption | exact Heap.IsList.at (by assumption) (fun o e => Fr.keep (by assumption) _ o e) | exact News.isList (by assumption) (by k_mem) | exact blk_list (by with_reducible assumption) (by with_reducible assumption) (by intro p hp; repeat (first | exact hp | exact List.mem_append_left _ hp | apply List.Mem.tail)))
theorem nest_f (v : Int) (start : Nat) : (0 : Int) ≤ (start : Int) + (v.fdiv 216).fmod 16 ∧ (0 : Int) ≤ (start : Int) + 15 ∧ (start ≤ ((start : Int) + (v.fdiv 216).fmod 16).toNat ∧ ((start : Int) + (v.fdiv 216).fmod 16).toNat < start + 16) ∧
    (start ≤ ((start : Int) + 15).toNat ∧ ((start : Int) + 15).toNat < start + 16) := by
  have hst0 : (0 : Int) ≤ (start : Int) + (v.fdiv 216).fmod 16 := by
    have := Int.fmod_nonneg_of_pos (v.fdiv 216) (show (0 : Int) < 16 by decide)
    (first | lia | omega)
  have hst1 : (start : Int) + (v.fdiv 216).fmod 16 < (start : Int) + 16 := by
    have := Int.fmod_lt_of_pos (v.fdiv 216) (show (0 : Int) < 16 by decide)
    (first | lia | omega)
  have hst2 : (start : Int) ≤ (start : Int) + (v.fdiv 216).fmod 16 := by
    have := Int.fmod_nonneg_of_pos (v.fdiv 216) (show (0 : Int) < 16 by decide)
    (first | lia | omega)
  have hst15 : (0 : Int) ≤ (start : Int) + 15 := by (first | lia | omega)
  have he0 := Int.fmod_nonneg_of_pos (v.fdiv 36) (show (0 : Int) < 6 by decide)
  have he1 := Int.fmod_lt_of_pos (v.fdiv 36) (show (0 : Int) < 6 by decide)
  have he63 : (v.fdiv 36).fmod 6 < 2 ^ 63 := by (first | lia | omega)
  have hnb1 : start ≤ ((start : Int) + (v.fdiv 216).fmod 16).toNat ∧ ((start : Int) + (v.fdiv 216).fmod 16).toNat < start + 16 := by (first | lia | omega)
  have hnb2 : start ≤ ((start : Int) + 15).toNat ∧ ((start : Int) + 15).toNat < start + 16 := by (first | lia | omega)
  exact ⟨hst0, hst15, hnb1, hnb2⟩
theorem end_f (v : Int) : 0 ≤ (v.fdiv 36).fmod 6 ∧ (v.fdiv 36).fmod 6 < 2 ^ 63 ∧ ((v.fdiv 36).fmod 6).toNat < 6 := by
  have he0 := Int.fmod_nonneg_of_pos (v.fdiv 36) (show (0 : Int) < 6 by decide)
  have he1 := Int.fmod_lt_of_pos (v.fdiv 36) (show (0 : Int) < 6 by decide)
  (first | lia | omega)
structure NestJ (prog : Program) (w : World) (lR lE : Addr) (es : List Value) (xE : List Vl) (start : Nat) (v o : Int) (t1 t2 to : Tok) (i : Nat) (m₁ : Str → Option Value) (μ₁ : List (Addr × Obj)) (arr : Array Value) (xs : List Addr) (qs : List Raw) (rs : List Rw) (ν : List (Addr × Obj)) (nl : Nat) : Prop where
  f1 : μ₁ = (lR, listOf arr nl) :: ν
  f2 : arr.toList = xs.map Value.ref
  f3 : rs.length = i
  f4 : ListBlk ν lE es.toArray
  f5 : ∀ H, Blk H ν → All2 (ValAt H) es xE
  f6 : ∀ H, Blk H ν → RowsL prog w H xs qs rs
  f7 : ∀ r ∈ rs, NestRow start r
  f8 : ∀ p ∈ ν, p.1 ≠ lR
  f9 : m₁ (Str.ofString "v") = some (.int v t1)
  f10 : m₁ (Str.ofString "start") = some (.int (start : Int) t2)
  f11 : ∃ te, m₁ (Str.ofString "end") = some (.int ((v.fdiv 36).fmod 6) te)
  f12 : m₁ (Str.ofString "own") = some (.int o to)
  f13 : m₁ (Str.ofString "ends") = some (.ref lE)
  f14 : m₁ (Str.ofString "rows") = some (.ref lR)
theorem nest_spec {v : Int} {start : Nat} {t1 t2 : Tok} (h0 : 0 ≤ v) (h1 : v < 5040) (hst : start ≤ 50) (C0 : Cx w mg mb A s.heap [] 3 9)
   (hQ : ∀ h' tk' lr xs qs rs ν, Stays [] s.heap h' → (∀ p ∈ ν, s.heap.get? p.1 = none) → Blk h' ν → h'.IsList lr (xs.map Value.ref).toArray → s.heap.get? lr = none → (∀ p ∈ ν, p.1 ≠ lr) → (∀ H, Blk H ν → RowsL prog w H xs qs rs) → rs.length = 16 → (∀ r ∈ rs, NestRow start r) → Q (.ref lr) { s with heap := h', toks := tk' }) :
   wpAny (model prog w) A (call (.ref 283) [.int v t1, .int (start : Int) t2]) Q E s := by
  refine call_rule0 (d := 2) (u := 6) (binds := [(Str.ofString "v", .int v t1), (Str.ofString "start", .int (start : Int) t2)]) C0 (by k_is) (by k_is) (BindsTo.of_eq rfl) (locs rfl) (fun L h₁ tk F N C => ?_) (by decide)
  with_reducible refine hideQ fun KK hKK => ?_
  have X := C.X
  have T := C.T
  (((repeat' ((fail_if_success ((with_reducible (first | (show wpAny _ _ (eval (PySem.Expr.IfExp _ _ _ _) _) _ _ _) | (show wpAny _ _ (exec (Stmt.If _ _ _ _) _) _ _ _) | (show wpAny _ _ (exec (Stmt.For _ _ _ _ _) _) _ _ _) | (show CutSt _ _ _ _ _ _ _) | (show CutAt _ _ _ _ _ _ _) | (show TurnPostG _ _ _ _ _ _ _ _))))); (first | walk1 | (dsimp only; walk1) | (k_unfold; (try dsimp only)) | (refine hKS _ _ ?_; clear hKS KS; (try dsimp only))))); (all_goals (try dsimp only)); (all_goals (repeat ((((fail_if_success (with_reducible show wpAny _ _ _ _ _ _)); (refine (‹∀ (x : _) (y : Shared), _ → _›) _ _ ?_); (try dsimp only))))))))
  rename Fr _ _ _ _ => F
  refine cut_fr F (fun z h' => ∃ o t, z = .int o t ∧ (o = 0 ∨ o = 1) ∧ News s.heap L h' []) ?_ ?_
  · with_reducible refine hideQ fun KK hKK => ?_
    (((repeat' ((fail_if_success ((with_reducible (first | (show wpAny _ _ (exec (Stmt.While _ _ _ _) _) _ _ _) | (show wpAny _ _ (exec (Stmt.For _ _ _ _ _) _) _ _ _) | (show wpAny _ _ (eval (PySem.Expr.ListComp _ _ _ _) _) _ _ _) | (show wpAny _ _ (exec (Stmt.Try _ _ _ _ _) _) _ _ _))))); (first | walk1 | (dsimp only; walk1) | (k_unfold; (try dsimp only)) | (refine hKS _ _ ?_; clear hKS KS; (try dsimp only))))); (all_goals (try dsimp only)); (all_goals (repeat ((((fail_if_success (with_reducible show wpAny _ _ _ _ _ _)); (refine (‹∀ (x : _) (y : Shared), _ → _›) _ _ ?_); (try dsimp only))))))))
    all_goals (rename Fr _ _ _ _ => F)
    all_goals exact ⟨_, _, rfl, F, _, _, rfl, by decide, News.nil⟩
  intro z h' tk' F' hRp1
  with_reducible refine gen fun GG kGG => ?_
  obtain ⟨o, to, rfl, ho, N'⟩ := hRp1
  with_reducible refine kGG ?_
  clear kGG GG
  clear F
  (((repeat' ((fail_if_success ((with_reducible (first | (show wpAny _ _ (eval (PySem.Expr.IfExp _ _ _ _) _) _ _ _) | (show wpAny _ _ (exec (Stmt.If _ _ _ _) _) _ _ _) | (show wpAny _ _ (exec (Stmt.For _ _ _ _ _) _) _ _ _) | (show CutSt _ _ _ _ _ _ _) | (show CutAt _ _ _ _ _ _ _) | (show TurnPostG _ _ _ _ _ _ _ _))))); (first | walk1 | (dsimp only; walk1) | (k_unfold; (try dsimp only)) | (refine hKS _ _ ?_; clear hKS KS; (try dsimp only))))); (all_goals (try dsimp only)); (all_goals (repeat ((((fail_if_success (with_reducible show wpAny _ _ _ _ _ _)); (refine (‹∀ (x : _) (y : Shared), _ → _›) _ _ ?_); (try dsimp only))))))))
  rename Fr _ _ _ _ => F
  rename News _ _ _ _ => N
  rename_i D5 _ q1 D4 _ q2 D3 _ q3 D2 _ q4 D1 _ q5 D0 _ q6 lE _ q7 _ lR _ hlt hh
  clear q1 q2 q3 q4 q5 q6 q7
  obtain ⟨es, xE, ν, N, hEl, hEv, hEb, hne⟩ : ∃ (es : List Value) (xE : List Vl) (ν : List (Addr × Obj)), News s.heap L hh ((lR, listOf #[] 0) :: ν) ∧ ListBlk ν lE es.toArray ∧ (∀ H, Blk H ν → All2 (ValAt H) es xE) ∧ (xE.length = 6 ∧ ∀ x ∈ xE, NB start x) ∧ (∀ p ∈ ν, p.1 ≠ lR) := by
    with_reducible refine gen fun GG kGG => ?_
    obtain ⟨hst0, hst15, hnb1, hnb2⟩ := nest_f v start
    with_reducible refine kGG ?_
    clear kGG GG
    refine ⟨[.ref D5, .ref D4, .ref D3, .ref D2, .ref D1, .ref D0], [.str (Str.ofString "z"), .obj ((start : Int) + (v.fdiv 216).fmod 16).toNat, .obj ((start : Int) + 15).toNat, .obj ((start : Int) + 15).toNat, .null, .obj (0 : Int).toNat], _, N, ⟨fun H B => ⟨_, B _ (.head _), rfl, _, rfl⟩⟩, fun H B => ?_, ⟨rfl, ?_⟩, ?_⟩
    · refine .cons (tup_val (x := .str (Str.ofString "z")) (B _ (.tail _ (.tail _ (.tail _ (.tail _ (.tail _ (.tail _ (.head _)))))))))
        (.cons (tup_valI (B _ (.tail _ (.tail _ (.tail _ (.tail _ (.tail _ (.head _))))))) hst0)
        (.cons (tup_valI (B _ (.tail _ (.tail _ (.tail _ (.tail _ (.head _)))))) hst15)
        (.cons (tup_valI (B _ (.tail _ (.tail _ (.tail _ (.head _))))) hst15)
        (.cons (tup_val (x := .null) (B _ (.tail _ (.tail _ (.head _)))))
        (.cons (tup_valI (B _ (.tail _ (.head _))) (by decide)) .nil)))))
    · intro x hx
      simp only [List.mem_cons, List.not_mem_nil, or_false] at hx
      rcases hx with rfl | rfl | rfl | rfl | rfl | rfl
      · exact .inr (.inl rfl)
      · exact .inl ⟨_, rfl, .inr hnb1⟩
      · exact .inl ⟨_, rfl, .inr hnb2⟩
      · exact .inl ⟨_, rfl, .inr hnb2⟩
      · exact .inr (.inr rfl)
      · exact .inl ⟨_, rfl, .inl rfl⟩
    · exact allLt_mem (d := lR) (by simp only [AllLt, and_true]; exact hlt)
  clear hlt
  refine For_invV s.heap rfl rfl ?_
  (((repeat' ((fail_if_success ((with_reducible (first | (show wpAny _ _ (exec (Stmt.While _ _ _ _) _) _ _ _) | (show wpAny _ _ (exec (Stmt.For _ _ _ _ _) _) _ _ _) | (show wpAny _ _ (eval (PySem.Expr.ListComp _ _ _ _) _) _ _ _) | (show wpAny _ _ (exec (Stmt.Try _ _ _ _ _) _) _ _ _))))); (first | walk1 | (dsimp only; walk1) | (k_unfold; (try dsimp only)) | (refine hKS _ _ ?_; clear hKS KS; (try dsimp only))))); (all_goals (try dsimp only)); (all_goals (repeat ((((fail_if_success (with_reducible show wpAny _ _ _ _ _ _)); (refine (‹∀ (x : _) (y : Shared), _ → _›) _ _ ?_); (try dsimp only))))))))
  rename Fr _ _ _ _ => F
  rename News _ _ _ _ => N
  rename IsRange _ _ _ _ _ _ _ _ => hR
  rename Fr s.heap L hh _ => Fq
  clear Fq
  with_reducible refine gen fun GG kGG => ?_
  obtain ⟨nn, hnn⟩ : ∃ nn : Nat, 16 - o = 0 + (nn : Int) := ⟨(16 - o).toNat, by (first | lia | omega)⟩
  with_reducible refine kGG ?_
  clear kGG GG
  have hn16 : nn ≤ 16 := by (first | lia | omega)
  rw [hnn] at hR
  refine loop_grRange (n := nn) (fun i m₁ μ₁ => ∃ (arr : Array Value) (xs : List Addr) (qs : List Raw) (rs : List Rw) (ν : List (Addr × Obj)) (nl : Nat), NestJ prog w lR lE es xE start v o t1 t2 to i m₁ μ₁ arr xs qs rs ν nl)
    (Cb.hd C) hR (range_smallA (by decide) (by decide) (by first | exact Nat.le_of_ble_eq_true rfl | assumption | (first | lia | omega))) (range_sizeA _ _) F N ⟨#[], [], [], [], ν, 0, rfl, rfl, rfl, hEl, hEv, fun _ _ => RowsL.nil, (fun _ h => nomatch h), hne, rfl, rfl, ⟨_, rfl⟩, rfl, rfl, rfl⟩ ?_ ?_
  · clear F N hEl hEv hne
    intro i t m₁ μ₁ h tk κ hi hRp1
    with_reducible refine gen fun GG kGG => ?_
    obtain ⟨arr, xs, qs, rs, ν, nl, rfl, harr, hrl, hEl, hEv, hRL, hok, hne, m1, m2, ⟨te, m3⟩, m4, m5, m6⟩ := hRp1
    with_reducible refine kGG ?_
    clear kGG GG
    intro F N hκ
    with_reducible refine hideQ fun KK hKK => ?_
    rw [Int.zero_add] at F
    have N := (show News s.heap _ h ((lR, listOf arr nl) :: (ν ++ κ)) from N)
    have hB : Blk h ν := fun p hp => (N p (.tail _ (List.mem_append_left _ hp))).1
    obtain ⟨x0, hx0⟩ : ∃ x, xE[((v.fdiv 36).fmod 6).toNat]? = some x := ⟨_, List.getElem?_eq_getElem (by rw [hEb.1]; exact (end_f v).2.2)⟩
    with_reducible refine gen fun GG kGG => ?_
    obtain ⟨v0, hv0, hva0⟩ := All2.get (hEv h hB) hx0
    with_reducible refine kGG ?_
    clear kGG GG
    (((repeat' ((fail_if_success ((with_reducible (first | (show wpAny _ _ (eval (PySem.Expr.IfExp _ _ _ _) _) _ _ _) | (show wpAny _ _ (exec (Stmt.If _ _ _ _) _) _ _ _) | (show wpAny _ _ (exec (Stmt.For _ _ _ _ _) _) _ _ _) | (show CutSt _ _ _ _ _ _ _) | (show CutAt _ _ _ _ _ _ _) | (show TurnPostG _ _ _ _ _ _ _ _))))); (first | walk1 | (dsimp only; walk1) | (k_unfold; (try dsimp only)) | (refine hKS _ _ ?_; clear hKS KS; (try dsimp only))))); (all_goals (try dsimp only)); (all_goals (repeat ((((fail_if_success (with_reducible show wpAny _ _ _ _ _ _)); (refine (‹∀ (x : _) (y : Shared), _ → _›) _ _ ?_); (try dsimp only))))))))
    rename Fr _ _ _ _ => F
    rename News _ _ _ _ => N
    refine cut_fr F (fun z h' => ∃ b x ν', z = .ref b ∧ NB start x ∧ News s.heap L h' ((lR, listOf arr nl) :: (ν' ++ κ)) ∧ (∀ H, Blk H ν' → ValAt H (.ref b) x) ∧ (∀ H, Blk H ν' → Blk H ν) ∧ (∀ p ∈ ν', p.1 ≠ lR) ∧ (∀ p ∈ κ, ∀ q ∈ ν', p.1 ≠ q.1)) ?_ ?_
    · with_reducible refine hideQ fun KK hKK => ?_
      with_reducible refine gen fun GG kGG => ?_
      obtain ⟨hq0, hq1, _⟩ := end_f v
      obtain ⟨b0, tg0, tp0, rfl, hva1⟩ := hva0
      with_reducible refine kGG ?_
      clear kGG GG
      (((repeat' ((fail_if_success ((with_reducible (first | (show wpAny _ _ (exec (Stmt.While _ _ _ _) _) _ _ _) | (show wpAny _ _ (exec (Stmt.For _ _ _ _ _) _) _ _ _) | (show wpAny _ _ (eval (PySem.Expr.ListComp _ _ _ _) _) _ _ _) | (show wpAny _ _ (exec (Stmt.Try _ _ _ _ _) _) _ _ _))))); (first | walk1 | (dsimp only; walk1) | (k_unfold; (try dsimp only)) | (refine hKS _ _ ?_; clear hKS KS; (try dsimp only))))); (all_goals (try dsimp only)); (all_goals (repeat ((((fail_if_success (with_reducible show wpAny _ _ _ _ _ _)); (refine (‹∀ (x : _) (y : Shared), _ → _›) _ _ ?_); (try dsimp only))))))))
      · rename Fr _ _ _ _ => F
        rename News _ _ _ _ => N
        rename lR < _ ∧ _ => hlt
        rename_i D' _
        have hD : ∀ p ∈ ν ++ κ, p.1 ≠ D' := allLt_mem hlt.2
        with_reducible refine gen fun GG kGG => ?_
        obtain ⟨oD, N, tD, tD', hoD⟩ : ∃ oD, News s.heap L _ ((D', oD) :: (lR, listOf arr nl) :: (ν ++ κ)) ∧ ∃ t t', oD = tupOf [.int 6 t, .int ((start : Int) + (i : Int) + 1) t'] := ⟨_, N, _, _, rfl⟩
        with_reducible refine kGG ?_
        clear kGG GG
        refine ⟨_, _, rfl, F, D', .obj ((start : Int) + (i : Int) + 1).toNat, (D', oD) :: ν, rfl, ?_, (fun p hp => N p ?_), (fun H B => tup_valI (hoD ▸ B _ (.head _)) (by first | exact Nat.le_of_ble_eq_true rfl | assumption | (first | lia | omega))), (fun H B p hp => B p (.tail _ hp)), ?_, ?_⟩
        · refine .inl ⟨_, rfl, .inr ⟨by (first | lia | omega), by (first | lia | omega)⟩⟩
        · have hp : p ∈ (lR, listOf arr nl) :: (D', oD) :: (ν ++ κ) := hp
          refine all_cons ?_ (fun p hp => ?_) p hp
          · exact .tail _ (.head _)
          refine all_cons ?_ (fun p hp => ?_) p hp
          · exact .head _
          · exact .tail _ (.tail _ hp)
        · intro p hp
          refine all_cons ?_ (fun p hp => ?_) p hp
          · exact Nat.ne_of_gt hlt.1
          · exact hne p hp
        · intro p hp q hq
          refine all_cons ?_ (fun q hq => ?_) q hq
          · exact hD p (List.mem_append_right _ hp)
          · exact hκ p hp q (.tail _ hq)
      · rename Fr _ _ _ _ => F
        rename News _ _ _ _ => N
        refine ⟨_, _, rfl, F, _, x0, ν, rfl, hEb.2 _ (List.mem_of_getElem? hx0), N, (fun H B => ?_), (fun H B => B), hne, fun p hp q hq => hκ p hp q (.tail _ hq)⟩
        with_reducible refine gen fun GG kGG => ?_
        obtain ⟨v1, hv1, hva1⟩ := All2.get (hEv H B) hx0
        with_reducible refine kGG ?_
        clear kGG GG
        rw [hv0] at hv1
        cases hv1
        exact hva1
    intro z h' tk' F' hRp1
    with_reducible refine gen fun GG kGG => ?_
    obtain ⟨b, x, ν', rfl, hx, N', hbv, hνν, hne', hκ'⟩ := hRp1
    with_reducible refine kGG ?_
    clear kGG GG
    clear F N
    (((repeat' ((fail_if_success ((with_reducible (first | (show wpAny _ _ (eval (PySem.Expr.IfExp _ _ _ _) _) _ _ _) | (show wpAny _ _ (exec (Stmt.If _ _ _ _) _) _ _ _) | (show wpAny _ _ (exec (Stmt.For _ _ _ _ _) _) _ _ _) | (show CutSt _ _ _ _ _ _ _) | (show CutAt _ _ _ _ _ _ _) | (show TurnPostG _ _ _ _ _ _ _ _))))); (first | walk1 | (dsimp only; walk1) | (k_unfold; (try dsimp only)) | (refine hKS _ _ ?_; clear hKS KS; (try dsimp only))))); (all_goals (try dsimp only)); (all_goals (repeat ((((fail_if_success (with_reducible show wpAny _ _ _ _ _ _)); (refine (‹∀ (x : _) (y : Shared), _ → _›) _ _ ?_); (try dsimp only))))))))
    rename Fr _ _ _ _ => F
    rename News _ _ _ _ => N
    refine link_spec (x := x) (Cb.at0 C F (by first | exact Nat.le_of_ble_eq_true rfl | assumption | (first | lia | omega)) (by first | exact Nat.le_of_ble_eq_true rfl | assumption | (first | lia | omega))) (fun h' tk' a q r ν₂ S hn2 hb2 hrow hlink => ?_)
    have N₂ := news_new F hn2 hb2
    have F' := Fr.st0 F S
    have N' := News.st0 N S
    have hold : ∀ p ∈ (lR, listOf arr nl) :: (ν' ++ κ), ∀ q ∈ ν₂, p.1 ≠ q.1 := fun p hp q hq e => by
      have := hn2 q hq
      rw [← e, (N p hp).1] at this; cases this
    clear F N
    have F := F'
    have N := (show News s.heap L h' ((lR, listOf arr nl) :: (ν₂ ++ (ν' ++ κ))) from fun p hp => by
      refine all_cons ?_ (fun p hp => ?_) p hp
      · exact N' _ (.head _)
      refine all_app (fun p hp => ?_) (fun p hp => ?_) p hp
      · exact N₂ p hp
      · exact N' p (.tail _ hp))
    clear F' N' S
    have hxl : arr.size = rs.length := by
      have hB' : Blk h' ν := hνν h' fun p hp => (N p (.tail _ (List.mem_append_right _ (List.mem_append_left _ hp)))).1
      have h1 := (hRL h' hB').1
      have h2 := congrArg List.length harr
      rw [List.length_map, Array.length_toList] at h2
      (first | lia | omega)
    (((repeat' ((fail_if_success ((with_reducible (first | (show wpAny _ _ (eval (PySem.Expr.IfExp _ _ _ _) _) _ _ _) | (show wpAny _ _ (exec (Stmt.If _ _ _ _) _) _ _ _) | (show wpAny _ _ (exec (Stmt.For _ _ _ _ _) _) _ _ _) | (show CutSt _ _ _ _ _ _ _) | (show CutAt _ _ _ _ _ _ _) | (show TurnPostG _ _ _ _ _ _ _ _))))); (first | walk1 | (dsimp only; walk1) | (k_unfold; (try dsimp only)) | (refine hKS _ _ ?_; clear hKS KS; (try dsimp only))))); (all_goals (try dsimp only)); (all_goals (repeat ((((fail_if_success (with_reducible show wpAny _ _ _ _ _ _)); (refine (‹∀ (x : _) (y : Shared), _ → _›) _ _ ?_); (try dsimp only))))))))
    have hneT : ∀ p ∈ ν₂ ++ (ν' ++ κ), p.1 ≠ lR := fun p hp => by
      refine all_app (fun p hp => ?_) (fun p hp => ?_) p hp
      · exact (hold _ (.head _) p hp).symm
      refine all_app (fun p hp => ?_) (fun p hp => ?_) p hp
      · exact hne' p hp
      · exact hκ p hp _ (.head _)
    refine append_K F N (.head hneT) (fun h₃ F₃ N₃ => ?_) (by rw [sizeLine_eq]; (first | lia | omega))
    clear F N
    (((repeat' ((fail_if_success ((with_reducible (first | (show wpAny _ _ (eval (PySem.Expr.IfExp _ _ _ _) _) _ _ _) | (show wpAny _ _ (exec (Stmt.If _ _ _ _) _) _ _ _) | (show wpAny _ _ (exec (Stmt.For _ _ _ _ _) _) _ _ _) | (show CutSt _ _ _ _ _ _ _) | (show CutAt _ _ _ _ _ _ _) | (show TurnPostG _ _ _ _ _ _ _ _))))); (first | walk1 | (dsimp only; walk1) | (k_unfold; (try dsimp only)) | (refine hKS _ _ ?_; clear hKS KS; (try dsimp only))))); (all_goals (try dsimp only)); (all_goals (repeat ((((fail_if_success (with_reducible show wpAny _ _ _ _ _ _)); (refine (‹∀ (x : _) (y : Shared), _ → _›) _ _ ?_); (try dsimp only))))))))
    refine ⟨_, _, _, (lR, listOf (arr.push (.ref a)) (nl + 1)) :: (ν₂ ++ ν'), rfl, F₃, (fun p hp => N₃ p ?_), ?_, arr.push (.ref a), xs ++ [a], qs ++ [q], rs ++ [r], ν₂ ++ ν', nl + 1, rfl, ?_, ?_, ⟨fun H B => hEl.of H (hνν H fun p hp => B p (List.mem_append_right _ hp))⟩, (fun H B => hEv H (hνν H fun p hp => B p (List.mem_append_right _ hp))), (fun H B => ?_), ?_, (fun p hp => ?_), m1, m2, ⟨te, m3⟩, m4, m5, m6⟩
    · have hp : p ∈ (lR, listOf (arr.push (.ref a)) (nl + 1)) :: ((ν₂ ++ ν') ++ κ) := hp
      refine all_cons ?_ (fun p hp => ?_) p hp
      · exact .head _
      · rw [List.append_assoc] at hp
        exact .tail _ hp
    · intro p hp q hq
      refine all_cons ?_ (fun q hq => ?_) q hq
      · exact hκ p hp (lR, listOf arr nl) (.head _)
      refine all_app (fun q hq => ?_) (fun q hq => ?_) q hq
      · exact hold p (.tail _ (List.mem_append_right _ hp)) q hq
      · exact hκ' p hp q hq
    · rw [Array.toList_push, harr, List.map_append]; rfl
    · rw [List.length_append, hrl]; rfl
    · exact (hRL H (hνν H fun p hp => B p (List.mem_append_right _ hp))).app (RowsL.one (hrow H (fun p hp => B p (List.mem_append_left _ hp)) (hbv H fun p hp => B p (List.mem_append_right _ hp))))
    · intro r' hr'
      refine all_app (fun r' hr' => ?_) (fun r' hr' => ?_) r' hr'
      · exact hok r' hr'
      · rw [List.mem_singleton.mp hr']; exact .inl ⟨x, hlink, hx⟩
    · refine all_app (fun p hp => ?_) (fun p hp => ?_) p hp
      · exact hneT p (List.mem_append_left _ hp)
      · exact hneT p (List.mem_append_right _ (List.mem_append_left _ hp))
  · clear F N hEl hEv hne
    intro m₁ μ₁ h tk hRp1
    with_reducible refine gen fun GG kGG => ?_
    obtain ⟨arr, xs, qs, rs, ν, nl, rfl, harr, hrl, hEl, hEv, hRL, hok, hne, m1, m2, ⟨te, m3⟩, m4, m5, m6⟩ := hRp1
    with_reducible refine kGG ?_
    clear kGG GG
    intro F N
    rcases ho with rfl | rfl
    · (((repeat' ((fail_if_success ((with_reducible (first | (show wpAny _ _ (exec (Stmt.While _ _ _ _) _) _ _ _) | (show wpAny _ _ (exec (Stmt.For _ _ _ _ _) _) _ _ _) | (show wpAny _ _ (eval (PySem.Expr.ListComp _ _ _ _) _) _ _ _) | (show wpAny _ _ (exec (Stmt.Try _ _ _ _ _) _) _ _ _))))); (first | walk1 | (dsimp only; walk1) | (k_unfold; (try dsimp only)) | (refine hKS _ _ ?_; clear hKS KS; (try dsimp only))))); (all_goals (try dsimp only)); (all_goals (repeat ((((fail_if_success (with_reducible show wpAny _ _ _ _ _ _)); (refine (‹∀ (x : _) (y : Shared), _ → _›) _ _ ?_); (try dsimp only))))))))
      rename Fr _ _ _ _ => F
      rename News _ _ _ _ => N
      have e := Array.toArray_toList (xs := arr)
      rw [harr] at e
      repeat ((((fail_if_success (with_reducible show wpAny _ _ _ _ _ _)); (refine (‹∀ (x : _) (y : Shared), _ → _›) _ _ ?_); (try dsimp only))))
      exact hQ _ _ lR xs qs rs ν (Fr.out0 F) (fun p hp => (N p (.tail _ hp)).2.2) (fun p hp => (N p (.tail _ hp)).1) ⟨_, (N _ (.head _)).1, rfl, _, by rw [← e]⟩ (N _ (.head _)).2.2 hne hRL (by first | exact Nat.le_of_ble_eq_true rfl | assumption | (first | lia | omega)) hok
    · (((repeat' ((fail_if_success ((with_reducible (first | (show wpAny _ _ (eval (PySem.Expr.IfExp _ _ _ _) _) _ _ _) | (show wpAny _ _ (exec (Stmt.If _ _ _ _) _) _ _ _) | (show wpAny _ _ (exec (Stmt.For _ _ _ _ _) _) _ _ _) | (show CutSt _ _ _ _ _ _ _) | (show CutAt _ _ _ _ _ _ _) | (show TurnPostG _ _ _ _ _ _ _ _))))); (first | walk1 | (dsimp only; walk1) | (k_unfold; (try dsimp only)) | (refine hKS _ _ ?_; clear hKS KS; (try dsimp only))))); (all_goals (try dsimp only)); (all_goals (repeat ((((fail_if_success (with_reducible show wpAny _ _ _ _ _ _)); (refine (‹∀ (x : _) (y : Shared), _ → _›) _ _ ?_); (try dsimp only))))))))
      walk1
      (((repeat' ((fail_if_success ((with_reducible (first | (show wpAny _ _ (eval (PySem.Expr.IfExp _ _ _ _) _) _ _ _) | (show wpAny _ _ (exec (Stmt.If _ _ _ _) _) _ _ _) | (show wpAny _ _ (exec (Stmt.For _ _ _ _ _) _) _ _ _) | (show CutSt _ _ _ _ _ _ _) | (show CutAt _ _ _ _ _ _ _) | (show TurnPostG _ _ _ _ _ _ _ _))))); (first | walk1 | (dsimp only; walk1) | (k_unfold; (try dsimp only)) | (refine hKS _ _ ?_; clear hKS KS; (try dsimp only))))); (all_goals (try dsimp only)); (all_goals (repeat ((((fail_if_success (with_reducible show wpAny _ _ _ _ _ _)); (refine (‹∀ (x : _) (y : Shared), _ → _›) _ _ ?_); (try dsimp only))))))))
      rename Fr _ _ _ _ => F
      rename News _ _ _ _ => N
      refine cut_fr F (fun z h' => ∃ so t, z = .int so t ∧ (so = 1 ∨ so = 3) ∧ News s.heap L h' ((lR, listOf arr nl) :: ν)) ?_ ?_
      · with_reducible refine hideQ fun KK hKK => ?_
        (((repeat' ((fail_if_success ((with_reducible (first | (show wpAny _ _ (exec (Stmt.While _ _ _ _) _) _ _ _) | (show wpAny _ _ (exec (Stmt.For _ _ _ _ _) _) _ _ _) | (show wpAny _ _ (eval (PySem.Expr.ListComp _ _ _ _) _) _ _ _) | (show wpAny _ _ (exec (Stmt.Try _ _ _ _ _) _) _ _ _))))); (first | walk1 | (dsimp only; walk1) | (k_unfold; (try dsimp only)) | (refine hKS _ _ ?_; clear hKS KS; (try dsimp only))))); (all_goals (try dsimp only)); (all_goals (repeat ((((fail_if_success (with_reducible show wpAny _ _ _ _ _ _)); (refine (‹∀ (x : _) (y : Shared), _ → _›) _ _ ?_); (try dsimp only))))))))
        all_goals (rename Fr _ _ _ _ => F)
        all_goals exact ⟨_, _, rfl, F, _, _, rfl, by decide, N⟩
      intro z h' tk' F' hRp1
      with_reducible refine gen fun GG kGG => ?_
      obtain ⟨so, ts, rfl, hso, N'⟩ := hRp1
      with_reducible refine kGG ?_
      clear kGG GG
      clear F N
      (((repeat' ((fail_if_success ((with_reducible (first | (show wpAny _ _ (eval (PySem.Expr.IfExp _ _ _ _) _) _ _ _) | (show wpAny _ _ (exec (Stmt.If _ _ _ _) _) _ _ _) | (show wpAny _ _ (exec (Stmt.For _ _ _ _ _) _) _ _ _) | (show CutSt _ _ _ _ _ _ _) | (show CutAt _ _ _ _ _ _ _) | (show TurnPostG _ _ _ _ _ _ _ _))))); (first | walk1 | (dsimp only; walk1) | (k_unfold; (try dsimp only)) | (refine hKS _ _ ?_; clear hKS KS; (try dsimp only))))); (all_goals (try dsimp only)); (all_goals (repeat ((((fail_if_success (with_reducible show wpAny _ _ _ _ _ _)); (refine (‹∀ (x : _) (y : Shared), _ → _›) _ _ ?_); (try dsimp only))))))))
      rename Fr _ _ _ _ => F
      rename News _ _ _ _ => N
      rename Obj.IsDictOf (PySem.strKind _ _) _ [] => hdd
      rename (_ == sysModules) = false => lod
      rename _ < _ ∧ _ < _ ∧ _ => hlt
      rename lR < _ ∧ _ => hlt1
      rename_i li _ d' _ od _ _ _
      refine row_spec (Cb.at0 C F (by first | exact Nat.le_of_ble_eq_true rfl | assumption | (first | lia | omega)) (by first | exact Nat.le_of_ble_eq_true rfl | assumption | (first | lia | omega))) (fun h' tk' a o3 t1' t2' M hd3 lo3 => ?_)
      have N' := (show News s.heap _ h' ((a, o3) :: (d', od) :: (li, listOf #[] 0) :: (lR, listOf arr nl) :: ν) from News.made F N M)
      have F' := Fr.made F M
      have halR : a ≠ lR := fun q => by
        have z := (N (lR, listOf arr nl) (.tail _ (.tail _ (.head _)))).1
        have y := M.2.1
        rw [show a = lR from q, z] at y; cases y
      have hdlR : d' ≠ lR := Nat.ne_of_gt hlt.2.1
      have hllR : li ≠ lR := Nat.ne_of_gt hlt1.1
      have hxl : arr.size = rs.length := by
        have h1 := (hRL h' fun p hp => (N' p (.tail _ (.tail _ (.tail _ (.tail _ hp))))).1).1
        have h2 := congrArg List.length harr
        rw [List.length_map, Array.length_toList] at h2
        (first | lia | omega)
      clear F N M hlt hlt1
      (((repeat' ((fail_if_success ((with_reducible (first | (show wpAny _ _ (eval (PySem.Expr.IfExp _ _ _ _) _) _ _ _) | (show wpAny _ _ (exec (Stmt.If _ _ _ _) _) _ _ _) | (show wpAny _ _ (exec (Stmt.For _ _ _ _ _) _) _ _ _) | (show CutSt _ _ _ _ _ _ _) | (show CutAt _ _ _ _ _ _ _) | (show TurnPostG _ _ _ _ _ _ _ _))))); (first | walk1 | (dsimp only; walk1) | (k_unfold; (try dsimp only)) | (refine hKS _ _ ?_; clear hKS KS; (try dsimp only))))); (all_goals (try dsimp only)); (all_goals (repeat ((((fail_if_success (with_reducible show wpAny _ _ _ _ _ _)); (refine (‹∀ (x : _) (y : Shared), _ → _›) _ _ ?_); (try dsimp only))))))))
      have N2 : News s.heap L h' ((lR, listOf arr nl) :: (a, o3) :: (d', od) :: (li, listOf #[] 0) :: ν) := fun p hp => by
        refine all_cons ?_ (fun p hp => ?_) p hp
        · exact N' _ (.tail _ (.tail _ (.tail _ (.head _))))
        refine all_cons ?_ (fun p hp => ?_) p hp
        · exact N' _ (.head _)
        refine all_cons ?_ (fun p hp => ?_) p hp
        · exact N' _ (.tail _ (.head _))
        refine all_cons ?_ (fun p hp => ?_) p hp
        · exact N' _ (.tail _ (.tail _ (.head _)))
        · exact N' _ (.tail _ (.tail _ (.tail _ (.tail _ hp))))
      refine append_K F' N2 (.head fun p hp => ?_) (fun h₃ F₃ N₃ => ?_) (by rw [sizeLine_eq]; (first | lia | omega))
      · refine all_cons ?_ (fun p hp => ?_) p hp
        · exact halR
        refine all_cons ?_ (fun p hp => ?_) p hp
        · exact hdlR
        refine all_cons ?_ (fun p hp => ?_) p hp
        · exact hllR
        · exact hne p hp
      clear F' N' N2
      (((repeat' ((fail_if_success ((with_reducible (first | (show wpAny _ _ (exec (Stmt.While _ _ _ _) _) _ _ _) | (show wpAny _ _ (exec (Stmt.For _ _ _ _ _) _) _ _ _) | (show wpAny _ _ (eval (PySem.Expr.ListComp _ _ _ _) _) _ _ _) | (show wpAny _ _ (exec (Stmt.Try _ _ _ _ _) _) _ _ _))))); (first | walk1 | (dsimp only; walk1) | (k_unfold; (try dsimp only)) | (refine hKS _ _ ?_; clear hKS KS; (try dsimp only))))); (all_goals (try dsimp only)); (all_goals (repeat ((((fail_if_success (with_reducible show wpAny _ _ _ _ _ _)); (refine (‹∀ (x : _) (y : Shared), _ → _›) _ _ ?_); (try dsimp only))))))))
      have e := Array.toArray_toList (xs := arr.push (.ref a))
      rw [Array.toList_push, harr, show xs.map Value.ref ++ [Value.ref a] = (xs ++ [a]).map Value.ref from by rw [List.map_append]; rfl] at e
      repeat ((((fail_if_success (with_reducible show wpAny _ _ _ _ _ _)); (refine (‹∀ (x : _) (y : Shared), _ → _›) _ _ ?_); (try dsimp only))))
      exact hQ _ _ lR (xs ++ [a]) (qs ++ [⟨[], []⟩]) (rs ++ [⟨so, -1, [], []⟩]) ((a, o3) :: (d', od) :: (li, listOf #[] 0) :: ν) (Fr.out0 F₃) (fun p hp => (N₃ p (.tail _ hp)).2.2) (fun p hp => (N₃ p (.tail _ hp)).1) ⟨_, (N₃ _ (.head _)).1, rfl, _, by rw [← e]⟩ (N₃ _ (.head _)).2.2
        (fun p hp => by
          refine all_cons ?_ (fun p hp => ?_) p hp
          · exact halR
          refine all_cons ?_ (fun p hp => ?_) p hp
          · exact hdlR
          refine all_cons ?_ (fun p hp => ?_) p hp
          · exact hllR
          · exact hne p hp)
        (fun H B => (hRL H fun p hp => B p (.tail _ (.tail _ (.tail _ hp)))).app (RowsL.one (q := ⟨[], []⟩) (r := ⟨so, -1, [], []⟩) ⟨⟨li, d', t1', t2', Heap.dictOf_iff.mpr ⟨o3, B _ (.head _), hd3⟩, lo3, ⟨_, B _ (.tail _ (.tail _ (.head _))), rfl, _, rfl⟩, Heap.dictOf_iff.mpr ⟨od, B _ (.tail _ (.head _)), hdd⟩, lod⟩, .nil, .nil⟩))
        (by rw [List.length_append]; simp only [List.length_cons, List.length_nil]; (first | lia | omega))
        (fun r' hr' => by
          refine all_app (fun r' hr' => ?_) (fun r' hr' => ?_) r' hr'
          · exact hok r' hr'
          · rw [List.mem_singleton.mp hr']; exact .inr ⟨hso, rfl, rfl, rfl⟩)
end
end
section
variable (prog : Program) (w : World)
/-- a thing's parts, just made -/
noncomputable def ThingLed (k sort up : Int) (x dx nm sl gl ul il : Addr) (es : List DictEntry) (osl ogl oul : Obj) : Prop :=
  (∃ t1 t2 t3, getL (Str.ofString "number") es = some (some (.int k t1)) ∧ getL (Str.ofString "sort") es = some (some (.int sort t2)) ∧ getL (Str.ofString "names") es = some (some (.ref nm)) ∧ getL (Str.ofString "slots") es = some (some (.ref sl)) ∧
    getL (Str.ofString "getters") es = some (some (.ref gl)) ∧ getL (Str.ofString "setters") es = some (some (.ref ul)) ∧ getL (Str.ofString "proto") es = some (some (.int up t3)) ∧ getL (Str.ofString "items") es = some (some (.ref il))) ∧
  (osl.IsDictOf (PySem.strKind prog w) [] ∧ (sl == sysModules) = false ∧ ogl.IsDictOf (PySem.strKind prog w) [] ∧ (gl == sysModules) = false ∧ oul.IsDictOf (PySem.strKind prog w) [] ∧ (ul == sysModules) = false) ∧
  (@LT.lt Nat _ dx x ∧ @LT.lt Nat _ x nm ∧ @LT.lt Nat _ nm sl ∧ @LT.lt Nat _ sl gl ∧ @LT.lt Nat _ gl ul ∧ @LT.lt Nat _ ul il)
end
noncomputable abbrev parts (x dx nm sl gl ul il : Addr) (es : List DictEntry) (n : Nat) (osl ogl oul : Obj) : List (Addr × Obj) := [(il, listOf #[] 0), (ul, oul), (gl, ogl), (sl, osl), (nm, listOf #[] 0), (x, instObj 92 dx), (dx, dictOf es n)]
section
variable {prog : Program} {w : World} {mg mb : Str → Option Value} {A : Around} {s : Shared} {Q E : Value → Shared → Prop}
theorem code_rule {name qual : Str} {params : Arguments} {body : List Stmt} {scope : Scope} {dV kV doc pm cdv ct oc : Value} {an od : Option Addr} {osl : Array (Option Value)} {f : Addr} {pos : List Value} {binds : List (Str × Value)} {d u : Nat} {D : List Addr} {R : Result → Shared → Prop}
    (C : Cx w mg mb A s.heap D (d + 1) (u + 3))
    (ho : (Mine.head.heap_1_39 w.params).lookup f = some ⟨oc, od, .func (fnOf name qual params body scope dV kV doc pm an cdv ct), osl⟩) (hcd : codeIn (Mine.head.heap_1_39 w.params) cdv qual = true)
    (hbind : BindsTo s (fnOf name qual params body scope dV kV doc pm an cdv ct) ⟨pos, []⟩ binds) (hloc : ∀ y ∈ binds, scope.names.lookup y.1 = some .local)
    (h : ∀ L h₁ tk, Fr (hideAll s.heap D) L h₁ (fun y => binds.reverse.lookup y) → (∀ b o, s.heap.get? b = some o → h₁.get? b = some o ∧ b ≠ L) →
      Cb w mg mb (A.deeper (envOf qual scope L f cdv)) (hideAll s.heap D) L d u →
      wpAny (model prog w) (A.deeper (envOf qual scope L f cdv)) (execs body (envOf qual scope L f cdv))
        (fun fl s' => R (.ok (.ret (match fl with | .ret v => v | _ => .none))) s')
        (fun _ _ => False)
        { s with heap := h₁, toks := tk })
    (hcell : ∀ x ∈ scope.names, x.2 ≠ .cell) (hco : scope.isCoroutine = false := by rfl) (hgen : scope.isGenerator = false := by rfl) (hk : scope.kind = .function := by rfl) :
    codeAny (model prog w) A (.call (.ref f) ⟨pos, []⟩) R s := by
  obtain ⟨l, hl, hfr⟩ := C.fr
  have hdp : A.depth < recursionLimit := Nat.lt_of_le_of_lt (Nat.le_add_right _ _) C.dp
  have CX : (Mine.head.heap_1_39 w.params).In s.heap := C.X.keeps fun b o e => of_hideAll _ e
  have CT := C.T.keeps (h' := s.heap) fun b o e => of_hideAll _ e
  refine codeAny_call_def (fd := fnOf name qual params body scope dV kV doc pm an cdv ct) (body := body) (binds := binds) hdp (CX _ _ ho) rfl CT.nolimit (codeRec_of CX hcd) rfl hbind hcell hloc (fun h₁ hns hk₁ => ?_) hco hgen hk
  refine wpAny_mono (h s.heap.objs.size h₁ _ ⟨hns, fun b o e => hk₁ b o (of_hideAll _ e), Nat.le_of_eq (hideAll_size _ _)⟩ (fun b o e => ⟨hk₁ b o e, Nat.ne_of_lt (Heap.lt_size e)⟩) ?_) (fun fl s' q => q) fun _ _ q => q.elim
  refine ⟨C.X, C.T, C.hd, ?_, ?_, envOf qual scope s.heap.objs.size f cdv, l, ?_, rfl, ?_, hfr⟩
  · show A.depth + 1 + d < _
    have := C.dp; (first | lia | omega)
  · show A.units + 3 + u < _
    have := C.un; (first | lia | omega)
  · exact Around.frames_deeper hl
  · show scope.kind ≠ .module
    rw [hk]; decide
theorem init_spec {x dx : Addr} {k : Int} {sort up : Int} {t0 t1 t2 : Tok} {R : Result → Shared → Prop} (C0 : Cx w mg mb A s.heap [x, dx] 1 3) (hx : s.heap.get? x = some (instObj 92 dx)) (hdx : s.heap.get? dx = some (dictOf [] 0)) (hne : @LT.lt Nat _ dx x)
   (hR : ∀ h' tk' nm sl gl ul il es n osl ogl oul, ThingLed prog w k sort up x dx nm sl gl ul il es osl ogl oul → Stays [x, dx] s.heap h' → Blk h' (parts x dx nm sl gl ul il es n osl ogl oul) → (∀ a ∈ [il, ul, gl, sl, nm], s.heap.get? a = none) → R (.ok (.ret .none)) { s with heap := h', toks := tk' }) :
   codeAny (model prog w) A (.call (.ref 89) ⟨[.ref x, .int k t0, .int sort t1, .int up t2], []⟩) R s := by
  refine code_rule (d := 0) (u := 0) (binds := [(Str.ofString "self", .ref x), (Str.ofString "number", .int k t0), (Str.ofString "sort", .int sort t1), (Str.ofString "proto", .int up t2)]) C0 (by k_is) (by k_is) (BindsTo.of_eq rfl) (locs rfl) (fun L h₁ tk F hk' C => ?_) (by decide)
  with_reducible refine hideQ fun KK hKK => ?_
  have X := C.X
  have T := C.T
  have N : News (hideAll s.heap [x, dx]) L h₁ [(x, instObj 92 dx), (dx, dictOf [] 0)] := fun p hp => by
    refine all_cons ?_ (fun p hp => ?_) p hp
    · exact ⟨(hk' _ _ hx).1, (hk' _ _ hx).2, hideAll_none _ (.head _)⟩
    · rw [List.mem_singleton.mp hp]; exact ⟨(hk' _ _ hdx).1, (hk' _ _ hdx).2, hideAll_none _ (.tail _ (.head _))⟩
  clear hk' hx hdx
  (((repeat' ((fail_if_success ((with_reducible (first | (show wpAny _ _ (exec (Stmt.While _ _ _ _) _) _ _ _) | (show wpAny _ _ (exec (Stmt.For _ _ _ _ _) _) _ _ _) | (show wpAny _ _ (eval (PySem.Expr.ListComp _ _ _ _) _) _ _ _) | (show wpAny _ _ (exec (Stmt.Try _ _ _ _ _) _) _ _ _))))); (first | walk1 | (dsimp only; walk1) | (k_unfold; (try dsimp only)) | (refine hKS _ _ ?_; clear hKS KS; (try dsimp only))))); (all_goals (try dsimp only)); (all_goals (repeat ((((fail_if_success (with_reducible show wpAny _ _ _ _ _ _)); (refine (‹∀ (x : _) (y : Shared), _ → _›) _ _ ?_); (try dsimp only))))))))
  rename Fr _ _ _ _ => F
  rename News _ _ _ _ => N
  rename_i nm _ c5 _ sl _ osl lo1 hs1 _ _ _ c4 _ gl _ ogl lo2 hs2 _ _ _ c3 _ ul _ oul lo3 hs3 _ _ _ c2 _ _ il _ c1 _ _ _ hh
  have hno : ∀ a ∈ [il, ul, gl, sl, nm], a ≠ x ∧ a ≠ dx := fun a ha => by
    simp only [List.mem_cons, List.not_mem_nil, or_false] at ha
    rcases ha with rfl | rfl | rfl | rfl | rfl
    · exact ⟨Nat.ne_of_gt c1.2.2.2.2.1, Nat.ne_of_gt c1.2.2.2.2.2⟩
    · exact ⟨Nat.ne_of_gt c2.2.2.2.1, Nat.ne_of_gt c2.2.2.2.2⟩
    · exact ⟨Nat.ne_of_gt c3.2.2.1, Nat.ne_of_gt c3.2.2.2⟩
    · exact ⟨Nat.ne_of_gt c4.2.1, Nat.ne_of_gt c4.2.2⟩
    · exact ⟨Nat.ne_of_gt c5.1, Nat.ne_of_gt c5.2⟩
  have hD : ∀ a ∈ [il, ul, gl, sl, nm], a ∉ [x, dx] := fun a ha q => by
    rcases List.mem_cons.mp q with q | q
    · exact (hno a ha).1 q
    · exact (hno a ha).2 (List.mem_singleton.mp q)
  refine hR hh _ nm sl gl ul il _ _ osl ogl oul ⟨⟨_, _, _, rfl, rfl, rfl, rfl, rfl, rfl, rfl, rfl⟩, ⟨hs1, lo1, hs2, lo2, hs3, lo3⟩, hne, c5.1, c4.1, c3.1, c2.1, c1.1⟩ (Fr.out F) (blk_of N) (fun a ha => ?_)
  simp only [List.mem_cons, List.not_mem_nil, or_false] at ha
  rcases ha with rfl | rfl | rfl | rfl | rfl
  · exact new_of N (.head _) (hD _ (.head _))
  · exact new_of N (.tail _ (.head _)) (hD _ (.tail _ (.head _)))
  · exact new_of N (.tail _ (.tail _ (.head _))) (hD _ (.tail _ (.tail _ (.head _))))
  · exact new_of N (.tail _ (.tail _ (.tail _ (.head _)))) (hD _ (.tail _ (.tail _ (.tail _ (.head _)))))
  · exact new_of N (.tail _ (.tail _ (.tail _ (.tail _ (.head _))))) (hD _ (.tail _ (.tail _ (.tail _ (.tail _ (.head _))))))
end
section
variable {prog : Program} {w : World} {mg mb : Str → Option Value} {A : Around} {s : Shared} {Q E : Value → Shared → Prop}
theorem new_thing_spec {hp dh tl : Addr} {eh : List DictEntry} {nh : Nat} {vs : List Value} {nl : Nat} {sort up : Int} {t1 t2 : Tok} (h1 : (hideAll s.heap [tl]).get? hp = some (instObj 113 dh)) (h2 : (hideAll s.heap [tl]).get? dh = some (dictOf eh nh)) (h3 : getL (Str.ofString "things") eh = some (some (.ref tl)))
   (hl : s.heap.get? tl = some (listOf vs.toArray nl)) (hlen : vs.length ≤ 100) (C0 : Cx w mg mb A s.heap [tl] 4 12)
   (hQ : ∀ h' tk' x dx nm sl gl ul il es n osl ogl oul, ThingLed prog w (vs.length : Int) sort up x dx nm sl gl ul il es osl ogl oul → Stays [tl] s.heap h' → h'.get? tl = some (listOf (vs ++ [Value.ref x]).toArray (nl + 1)) → Blk h' (parts x dx nm sl gl ul il es n osl ogl oul) →
     (∀ p ∈ parts x dx nm sl gl ul il es n osl ogl oul, s.heap.get? p.1 = none) → Q (.ref x) { s with heap := h', toks := tk' }) :
   wpAny (model prog w) A (call (.ref 124) [.ref hp, .int sort t1, .int up t2]) Q E s := by
  refine call_rule (d := 3) (u := 9) (binds := [(Str.ofString "heap", .ref hp), (Str.ofString "sort", .int sort t1), (Str.ofString "proto", .int up t2)]) C0 (by k_is) (by k_is) (BindsTo.of_eq rfl) (locs rfl) (fun L h₁ tk F hk' C => ?_) (by decide)
  with_reducible refine hideQ fun KK hKK => ?_
  have X := C.X
  have T := C.T
  have N : News (hideAll s.heap [tl]) L h₁ [(tl, listOf vs.toArray nl)] := fun p hp => by rw [List.mem_singleton.mp hp]; exact ⟨(hk' _ _ hl).1, (hk' _ _ hl).2, hideAll_none _ (.head _)⟩
  clear hk'
  have hvl : vs.length = vs.length := rfl
  (((repeat' ((fail_if_success ((with_reducible (first | (show wpAny _ _ (exec (Stmt.While _ _ _ _) _) _ _ _) | (show wpAny _ _ (exec (Stmt.For _ _ _ _ _) _) _ _ _) | (show wpAny _ _ (eval (PySem.Expr.ListComp _ _ _ _) _) _ _ _) | (show wpAny _ _ (exec (Stmt.Try _ _ _ _ _) _) _ _ _))))); (first | walk1 | (dsimp only; walk1) | (k_unfold; (try dsimp only)) | (refine hKS _ _ ?_; clear hKS KS; (try dsimp only))))); (all_goals (try dsimp only)); (all_goals (repeat ((((fail_if_success (with_reducible show wpAny _ _ _ _ _ _)); (refine (‹∀ (x : _) (y : Shared), _ → _›) _ _ ?_); (try dsimp only))))))))
  refine call_cls F X N (by k_is) (by k_is) (by k_is) (fun x dx h' F' N' l1 l2 => ?_)
  have hgb : ∀ a ∈ [x, dx], (hideAll s.heap [tl]).get? a = none := fun a q => by
    rcases List.mem_cons.mp q with rfl | q
    · exact (N' _ (.head _)).2.2
    · rw [List.mem_singleton.mp q]; exact (N' _ (.tail _ (.head _))).2.2
  have hLb : L ∉ [x, dx] := fun q => by
    rcases List.mem_cons.mp q with q | q
    · exact (N' _ (.head _)).2.1 q.symm
    · exact (N' _ (.tail _ (.head _))).2.1 (List.mem_singleton.mp q).symm
  have htx : tl ∉ [x, dx] := fun q => by
    have h3 : tl ≠ dx := Nat.ne_of_lt (l1 (tl, listOf vs.toArray nl) (.head _))
    have h4 : tl ≠ x := Nat.ne_of_lt (Nat.lt_trans (l1 (tl, listOf vs.toArray nl) (.head _)) l2)
    rcases List.mem_cons.mp q with q | q
    · exact h4 q
    · exact h3 (List.mem_singleton.mp q)
  clear F N
  refine init_spec (Cb.at (Cb.make (Cb.weaken C (d' := 1 + 1) (u' := 3 + 1) (by first | exact Nat.le_of_ble_eq_true rfl | assumption | (first | lia | omega)) (by first | exact Nat.le_of_ble_eq_true rfl | assumption | (first | lia | omega)))) F' hgb hLb (Nat.le_refl _) (Nat.le_refl _)) (N' _ (.head _)).1 (N' _ (.tail _ (.head _))).1 l2 (fun h'' tk'' nm sl gl ul il es n osl ogl oul TL S B hn => ?_)
  refine ⟨rfl, ?_⟩
  have F2 := Fr.st F' S hLb hgb
  have htl : h''.get? tl = some (listOf vs.toArray nl) := S _ _ htx (N' _ (.tail _ (.tail _ (.head _)))).1
  have hmt := (N' (tl, listOf vs.toArray nl) (.tail _ (.tail _ (.head _)))).2
  have hnew : ∀ p ∈ parts x dx nm sl gl ul il es n osl ogl oul, p.1 ≠ tl ∧ p.1 ≠ L ∧ (hideAll s.heap [tl]).get? p.1 = none := fun p hp => by
    have five : ∀ a ∈ [il, ul, gl, sl, nm], a ≠ tl ∧ a ≠ L ∧ (hideAll s.heap [tl]).get? a = none := fun a ha => by
      have z := hn a ha
      refine ⟨fun q => ?_, fun q => ?_, ?_⟩
      · rw [q, (N' _ (.tail _ (.tail _ (.head _)))).1] at z; cases z
      · with_reducible refine gen fun GG kGG => ?_
        obtain ⟨oL, _, _, hL, _⟩ := F'.ns
        with_reducible refine kGG ?_
        clear kGG GG
        rw [q, hL] at z; cases z
      · cases q : (hideAll s.heap [tl]).get? a with
        | none => rfl
        | some o => rw [F'.keep _ _ q] at z; cases z
    simp only [parts, List.mem_cons, List.not_mem_nil, or_false] at hp
    rcases hp with rfl | rfl | rfl | rfl | rfl | rfl | rfl
    · exact five _ (.head _)
    · exact five _ (.tail _ (.head _))
    · exact five _ (.tail _ (.tail _ (.head _)))
    · exact five _ (.tail _ (.tail _ (.tail _ (.head _))))
    · exact five _ (.tail _ (.tail _ (.tail _ (.tail _ (.head _)))))
    · exact ⟨fun q => htx (by rw [← q]; exact .head _), (N' _ (.head _)).2⟩
    · exact ⟨fun q => htx (by rw [← q]; exact .tail _ (.head _)), (N' _ (.tail _ (.head _))).2⟩
  have N2 := (show News (hideAll s.heap [tl]) L h'' ((tl, listOf vs.toArray nl) :: parts x dx nm sl gl ul il es n osl ogl oul) from fun p hp => by
    refine all_cons ?_ (fun p hp => ?_) p hp
    · exact ⟨htl, hmt⟩
    · exact ⟨B p hp, (hnew p hp).2⟩)
  clear N' F'
  (((repeat' ((fail_if_success ((with_reducible (show wpAny _ _ (call (Value.builtin "list.append") _) _ _ _)))); (first | walk1 | (dsimp only; walk1) | (k_unfold; (try dsimp only)) | (refine hKS _ _ ?_; clear hKS KS; (try dsimp only))))); (all_goals (try dsimp only)); (all_goals (repeat ((((fail_if_success (with_reducible show wpAny _ _ _ _ _ _)); (refine (‹∀ (x : _) (y : Shared), _ → _›) _ _ ?_); (try dsimp only))))))))
  rename Fr _ _ _ _ => F
  rename News _ _ _ _ => N
  refine append_K F N (.head fun p hp => (hnew p hp).1) (fun h₃ F₃ N₃ => ?_) (by rw [sizeLine_eq, List.size_toArray]; (first | lia | omega))
  have N₃ := (show News (hideAll s.heap [tl]) L h₃ ((tl, listOf (vs ++ [Value.ref x]).toArray (nl + 1)) :: parts x dx nm sl gl ul il es n osl ogl oul) from by simpa using N₃)
  clear F N
  (((repeat' ((fail_if_success ((with_reducible (first | (show wpAny _ _ (exec (Stmt.While _ _ _ _) _) _ _ _) | (show wpAny _ _ (exec (Stmt.For _ _ _ _ _) _) _ _ _) | (show wpAny _ _ (eval (PySem.Expr.ListComp _ _ _ _) _) _ _ _) | (show wpAny _ _ (exec (Stmt.Try _ _ _ _ _) _) _ _ _))))); (first | walk1 | (dsimp only; walk1) | (k_unfold; (try dsimp only)) | (refine hKS _ _ ?_; clear hKS KS; (try dsimp only))))); (all_goals (try dsimp only)); (all_goals (repeat ((((fail_if_success (with_reducible show wpAny _ _ _ _ _ _)); (refine (‹∀ (x : _) (y : Shared), _ → _›) _ _ ?_); (try dsimp only))))))))
  repeat ((((fail_if_success (with_reducible show wpAny _ _ _ _ _ _)); (refine (‹∀ (x : _) (y : Shared), _ → _›) _ _ ?_); (try dsimp only))))
  refine hQ _ _ x dx nm sl gl ul il es n osl ogl oul TL (Fr.out F₃) (N₃ _ (.head _)).1 (fun p hp => (N₃ p (.tail _ hp)).1) (fun p hp => ?_)
  have z := hnew p hp
  cases q : s.heap.get? p.1 with
  | none => rfl
  | some o =>
    have := z.2.2
    rw [hideAll_get _ q (fun y => z.1 (List.mem_singleton.mp y))] at this; cases this
end
section
variable {prog : Program} {w : World} {mg mb : Str → Option Value} {A : Around} {s : Shared} {Q E : Value → Shared → Prop}
theorem has_name_spec {x dx sl gl ul : Addr} {es : List DictEntry} {n : Nat} {kvs : List (Str × Value)} {nm : Str} {t : Tok} (a1 : s.heap.get? x = some (instObj 92 dx)) (a2 : s.heap.get? dx = some (dictOf es n)) (b3 : getL (Str.ofString "slots") es = some (some (.ref sl)))
   (b4 : getL (Str.ofString "getters") es = some (some (.ref gl))) (b5 : getL (Str.ofString "setters") es = some (some (.ref ul))) (c1 : s.heap.DictOf (PySem.strKind prog w) sl kvs) (c2 : (sl == sysModules) = false)
   (c3 : s.heap.DictOf (PySem.strKind prog w) gl []) (c4 : (gl == sysModules) = false) (c5 : s.heap.DictOf (PySem.strKind prog w) ul []) (c6 : (ul == sysModules) = false) (hv : (valueAt kvs nm).isSome = false) (C0 : Cx w mg mb A s.heap [] 1 3)
   (hQ : ∀ h' tk', Stays [] s.heap h' → Q (.bool false) { s with heap := h', toks := tk' }) :
   wpAny (model prog w) A (call (.ref 159) [.ref x, .str nm t]) Q E s := by
  refine call_rule0 (d := 0) (u := 0) (binds := [(Str.ofString "thing", .ref x), (Str.ofString "name", .str nm t)]) C0 (by k_is) (by k_is) (BindsTo.of_eq rfl) (locs rfl) (fun L h₁ tk F N C => ?_) (by decide)
  with_reducible refine hideQ fun KK hKK => ?_
  have X := C.X
  have T := C.T
  (((repeat' ((fail_if_success ((with_reducible (first | (show wpAny _ _ (exec (Stmt.While _ _ _ _) _) _ _ _) | (show wpAny _ _ (exec (Stmt.For _ _ _ _ _) _) _ _ _) | (show wpAny _ _ (eval (PySem.Expr.ListComp _ _ _ _) _) _ _ _) | (show wpAny _ _ (exec (Stmt.Try _ _ _ _ _) _) _ _ _))))); (first | walk1 | (dsimp only; walk1) | (k_unfold; (try dsimp only)) | (refine hKS _ _ ?_; clear hKS KS; (try dsimp only))))); (all_goals (try dsimp only)); (all_goals (repeat ((((fail_if_success (with_reducible show wpAny _ _ _ _ _ _)); (refine (‹∀ (x : _) (y : Shared), _ → _›) _ _ ?_); (try dsimp only))))))))
  repeat ((((fail_if_success (with_reducible show wpAny _ _ _ _ _ _)); (refine (‹∀ (x : _) (y : Shared), _ → _›) _ _ ?_); (try dsimp only))))
  exact hQ _ _ (Fr.out0 (by assumption))
theorem set_own_spec {hp dh tl x dx nl sl gl ul : Addr} {eh es : List DictEntry} {nh n nn k : Nat} {xs : List Value} {nv : Array Value} {osl : Obj} {kvs : List (Str × Value)} {nm : Str} {v : Value} {t t1 t2 : Tok} {sort : Int}
   (h1 : (hideAll s.heap [nl, sl]).get? hp = some (instObj 113 dh)) (h2 : (hideAll s.heap [nl, sl]).get? dh = some (dictOf eh nh)) (h3 : getL (Str.ofString "things") eh = some (some (.ref tl))) (h4 : (hideAll s.heap [nl, sl]).IsList tl xs.toArray) (hk : xs[((k : Nat) : Int).toNat]? = some (.ref x)) (hk2 : (k : Int) < 2 ^ 63)
   (a1 : (hideAll s.heap [nl, sl]).get? x = some (instObj 92 dx)) (a2 : (hideAll s.heap [nl, sl]).get? dx = some (dictOf es n)) (b1 : getL (Str.ofString "sort") es = some (some (.int sort t2))) (b2 : getL (Str.ofString "names") es = some (some (.ref nl))) (b3 : getL (Str.ofString "slots") es = some (some (.ref sl)))
   (b4 : getL (Str.ofString "getters") es = some (some (.ref gl))) (b5 : getL (Str.ofString "setters") es = some (some (.ref ul))) (c2 : (sl == sysModules) = false)
   (c3 : (hideAll s.heap [nl, sl]).DictOf (PySem.strKind prog w) gl []) (c4 : (gl == sysModules) = false) (c5 : (hideAll s.heap [nl, sl]).DictOf (PySem.strKind prog w) ul []) (c6 : (ul == sysModules) = false)
   (hnl : s.heap.get? nl = some (listOf nv nn)) (hsl : s.heap.get? sl = some osl) (hd : osl.IsDictOf (PySem.strKind prog w) kvs) (hne : nl ≠ sl) (hsz : nv.size ≤ 1000) (hkv : kvs.length ≤ 1000) (hv : valueAt kvs nm = none) (hs1 : sort ≠ 1) (C0 : Cx w mg mb A s.heap [nl, sl] 3 9)
   (hQ : ∀ h' tk' osl', Stays [nl, sl] s.heap h' → h'.get? nl = some (listOf (nv.push (.str nm t)) (nn + 1)) → h'.get? sl = some osl' → osl'.IsDictOf (PySem.strKind prog w) (kvs ++ [(nm, v)]) → Q .none { s with heap := h', toks := tk' }) :
   wpAny (model prog w) A (call (.ref 194) [.ref hp, .int (k : Int) t1, .str nm t, v]) Q E s := by
  refine call_rule (d := 2) (u := 6) (binds := [(Str.ofString "heap", .ref hp), (Str.ofString "number", .int (k : Int) t1), (Str.ofString "name", .str nm t), (Str.ofString "v", v)]) C0 (by k_is) (by k_is) (BindsTo.of_eq rfl) (locs rfl) (fun L h₁ tk F hk' C => ?_) (by decide)
  with_reducible refine hideQ fun KK hKK => ?_
  have X := C.X
  have T := C.T
  have N : News (hideAll s.heap [nl, sl]) L h₁ [(nl, listOf nv nn), (sl, osl)] := fun p hp => by
    refine all_cons ?_ (fun p hp => ?_) p hp
    · exact ⟨(hk' _ _ hnl).1, (hk' _ _ hnl).2, hideAll_none _ (.head _)⟩
    · rw [List.mem_singleton.mp hp]; exact ⟨(hk' _ _ hsl).1, (hk' _ _ hsl).2, hideAll_none _ (.tail _ (.head _))⟩
  clear hk' hnl hsl
  have hv2 : (valueAt kvs nm).isSome = false := by rw [hv]; rfl
  (((repeat' ((fail_if_success ((with_reducible (first | (show wpAny _ _ (call (Value.builtin "list.append") _) _ _ _) | (show wpAny _ _ (setItem _ _ _) _ _ _))))); (first | walk1 | (dsimp only; walk1) | (k_unfold; (try dsimp only)) | (refine hKS _ _ ?_; clear hKS KS; (try dsimp only))))); (all_goals (try dsimp only)); (all_goals (repeat ((((fail_if_success (with_reducible show wpAny _ _ _ _ _ _)); (refine (‹∀ (x : _) (y : Shared), _ → _›) _ _ ?_); (try dsimp only))))))))
  all_goals first
    | (rename sort = 1 => hb; exact absurd hb hs1)
    | skip
  rename Fr _ _ _ _ => F
  rename News _ _ _ _ => N
  refine has_name_spec (F.keep _ _ a1) (F.keep _ _ a2) b3 b4 b5 (Heap.dictOf_iff.mpr ⟨osl, (N (sl, osl) (.tail _ (.head _))).1, hd⟩) c2 (c3.keep F.keep) c4 (c5.keep F.keep) c6 hv2 (Cb.at0 C F (by first | exact Nat.le_of_ble_eq_true rfl | assumption | (first | lia | omega)) (by first | exact Nat.le_of_ble_eq_true rfl | assumption | (first | lia | omega))) (fun h' tk' S => ?_)
  have F' := Fr.st0 F S
  have N' := News.st0 N S
  clear F N S
  (((repeat' ((fail_if_success ((with_reducible (first | (show wpAny _ _ (call (Value.builtin "list.append") _) _ _ _) | (show wpAny _ _ (setItem _ _ _) _ _ _))))); (first | walk1 | (dsimp only; walk1) | (k_unfold; (try dsimp only)) | (refine hKS _ _ ?_; clear hKS KS; (try dsimp only))))); (all_goals (try dsimp only)); (all_goals (repeat ((((fail_if_success (with_reducible show wpAny _ _ _ _ _ _)); (refine (‹∀ (x : _) (y : Shared), _ → _›) _ _ ?_); (try dsimp only))))))))
  rename Fr _ _ _ _ => F
  rename News _ _ _ _ => N
  refine append_K F N (.head fun p hp => by rw [List.mem_singleton.mp hp]; exact hne.symm) (fun h₃ F₃ N₃ => ?_) (by rw [sizeLine_eq]; (first | lia | omega))
  clear F N
  (((repeat' ((fail_if_success ((with_reducible (first | (show wpAny _ _ (call (Value.builtin "list.append") _) _ _ _) | (show wpAny _ _ (setItem _ _ _) _ _ _))))); (first | walk1 | (dsimp only; walk1) | (k_unfold; (try dsimp only)) | (refine hKS _ _ ?_; clear hKS KS; (try dsimp only))))); (all_goals (try dsimp only)); (all_goals (repeat ((((fail_if_success (with_reducible show wpAny _ _ _ _ _ _)); (refine (‹∀ (x : _) (y : Shared), _ → _›) _ _ ?_); (try dsimp only))))))))
  rename Fr _ _ _ _ => F
  rename News _ _ _ _ => N
  have hkey : ∀ p ∈ kvs, p.1 ≠ nm := fun p hp q => by
    have : (kvs.find? fun kv => decide (kv.1 = nm)) = none := by
      unfold valueAt at hv
      exact Option.map_eq_none_iff.mp hv
    rw [List.find?_eq_none] at this
    exact this p hp (decide_eq_true q)
  refine d_set F N (.tail _ (.head _)) hd hkv (fun h₄ osl' F₄ Nf hd' => ?_)
  have N₄ := Nf [(nl, listOf (nv.push (.str nm t)) (nn + 1))] (fun q hq => by rw [List.mem_singleton.mp hq]; exact .head _) (fun q hq => by rw [List.mem_singleton.mp hq]; exact hne)
  rw [stored_new hkey] at hd'
  clear F N
  (((repeat' ((fail_if_success ((with_reducible (first | (show wpAny _ _ (exec (Stmt.While _ _ _ _) _) _ _ _) | (show wpAny _ _ (exec (Stmt.For _ _ _ _ _) _) _ _ _) | (show wpAny _ _ (eval (PySem.Expr.ListComp _ _ _ _) _) _ _ _) | (show wpAny _ _ (exec (Stmt.Try _ _ _ _ _) _) _ _ _))))); (first | walk1 | (dsimp only; walk1) | (k_unfold; (try dsimp only)) | (refine hKS _ _ ?_; clear hKS KS; (try dsimp only))))); (all_goals (try dsimp only)); (all_goals (repeat ((((fail_if_success (with_reducible show wpAny _ _ _ _ _ _)); (refine (‹∀ (x : _) (y : Shared), _ → _›) _ _ ?_); (try dsimp only))))))))
  repeat ((((fail_if_success (with_reducible show wpAny _ _ _ _ _ _)); (refine (‹∀ (x : _) (y : Shared), _ → _›) _ _ ?_); (try dsimp only))))
  exact hQ _ _ osl' (Fr.out F₄) (N₄ _ (.tail _ (.head _))).1 (N₄ _ (.head _)).1 hd'
end
section
variable {prog : Program} {w : World} {A : Around} {E : Value → Shared → Prop} {s : Shared} {env : Env} {g : Heap} {x : Str} {body : List Stmt} {Q : Flow → Shared → Prop}
/-- over a dict's keys; the dict stands while the loop runs -/
theorem loop_grDict {d : Addr} {kvs : List (Str × Value)} {m₀ : Str → Option Value} {μ : List (Addr × Obj)} (J : Nat → (Str → Option Value) → List (Addr × Obj) → Prop)
    (hh : A.handled = none) (hd : s.heap.DictOf (PySem.strKind prog w) d kvs) (lo : (d == sysModules) = false) (hlL : d ≠ env.locals) (hlm : ∀ q ∈ μ, q.1 ≠ d) (F : Fr g env.locals s.heap m₀) (N : News g env.locals s.heap μ) (h0 : J 0 m₀ μ)
    (turn : ∀ i k v t m₁ μ₁ h tk κ, kvs[i]? = some (k, v) → J i m₁ μ₁ → Fr g env.locals h (fun y => if y = x then some (.str k t) else m₁ y) → News g env.locals h (μ₁ ++ κ) → (∀ p ∈ κ, ∀ q ∈ μ₁, p.1 ≠ q.1) →
      wpAny (model prog w) A (execs body env) (TurnPostG g env.locals (J (i + 1)) κ { s with heap := h, toks := tk } Q) E { s with heap := h, toks := tk })
    (done : ∀ m₁ μ₁ h tk, J kvs.length m₁ μ₁ → Fr g env.locals h m₁ → News g env.locals h μ₁ → Q .next { s with heap := h, toks := tk }) :
    wpAny (model prog w) A (pyIter (.ref d)) (fun it s₂ => LoopAtV prog w A g env x body Q E it s₂) E s := by
  with_reducible refine gen fun GG kGG => ?_
  obtain ⟨ep, ha⟩ := Heap.DictOf.dictAt hd
  with_reducible refine kGG ?_
  clear kGG GG
  have hlt : d < s.heap.objs.size := ha.lt_size
  refine wpAny_pyIter_dict lo ha ?_
  have W := Walks.dictKeys (prog := prog) (w := w) (knd := PySem.strKind prog w) hh s.heap.objs.size d (Nat.ne_of_lt hlt) kvs ep
  refine loop_gr J W (by simp) ⟨⟨_, Heap.get?_push_size _ rfl, rfl, rfl⟩, ha.push _⟩ ?_ (next_is_new F) ?_ ?_ (F.push _) (fun p hp => ⟨Heap.get?_push_of_some _ (N p hp).1, (N p hp).2⟩) h0 ?_ done
  · intro b hb
    refine all_cons ?_ (fun b hb => ?_) b hb
    · exact Nat.ne_of_gt F.ns.lt
    · rw [List.mem_singleton.mp hb]; exact hlL
  · intro i h hRp1
    with_reducible refine gen fun GG kGG => ?_
    obtain ⟨⟨o, ho, _⟩, ⟨o', _, ho', _⟩⟩ := hRp1
    with_reducible refine kGG ?_
    clear kGG GG
    intro b hb
    refine all_cons ?_ (fun b hb => ?_) b hb
    · exact ⟨o, ho⟩
    · rw [List.mem_singleton.mp hb]; exact ⟨o', ho'⟩
  · intro b hb q hq
    refine all_cons ?_ (fun b hb => ?_) b hb
    · exact Nat.ne_of_lt (Heap.lt_size (N q hq).1)
    · rw [List.mem_singleton.mp hb]; exact hlm q hq
  · intro i v m₁ μ₁ h tk κ hi hRp1
    with_reducible refine gen fun GG kGG => ?_
    obtain ⟨k, y, hk, hv⟩ := hRp1
    obtain ⟨t, rfl⟩ := Value.isStrOf_shape hv
    with_reducible refine kGG ?_
    clear kGG GG
    exact turn i k y t m₁ μ₁ h tk κ hk
end
section
variable {prog : Program} {w : World} {mg mb : Str → Option Value} {A : Around} {s : Shared} {Q E : Value → Shared → Prop} {g : Heap} {L : Addr} {m : Str → Option Value}
theorem a_getN {x C dx : Addr} {es : List DictEntry} {n : Nat} {μ : List (Addr × Obj)} {name : Str} {v : Value} {expr : Bool} {attr : Option Value} {K : Frag} (F : Fr g L s.heap m) (X : K.In g) (N : News g L s.heap μ) (h1 : (x, instObj C dx) ∈ μ) (h2 : (dx, dictOf es n) ∈ μ)
    (hg : plainGet K C name = true) (hh : hasDictIn K C = true) (ha : findIn K (.ref C) name = some attr) (hn : noGet K attr = true) (hl : getL name es = some (some v)) (hv : handedIn v = true) (h : Q v { s with toks := s.toks + 1 }) :
    wpAny (model prog w) A (getAttr (.ref x) name expr) Q E s :=
  get_own F X ⟨(N _ h1).1, rfl, rfl, (N _ h2).1⟩ hg hh ha hn hl hv h
theorem new_thing_in {h₀ : Heap} {hp dh tl : Addr} {eh : List DictEntry} {nh : Nat} {vs : List Value} {nl d u : Nat} {sort up : Int} {t1 t2 : Tok} {μ : List (Addr × Obj)} (C : Cb w mg mb A (hideAll h₀ [tl]) L d u) (hd4 : 4 ≤ d) (hu4 : 12 ≤ u) (F : Fr (hideAll h₀ [tl]) L s.heap m) (N : News (hideAll h₀ [tl]) L s.heap ((tl, listOf vs.toArray nl) :: μ)) (hμ : ∀ p ∈ μ, p.1 ≠ tl)
   (h1 : (hideAll h₀ [tl]).get? hp = some (instObj 113 dh)) (h2 : (hideAll h₀ [tl]).get? dh = some (dictOf eh nh)) (h3 : getL (Str.ofString "things") eh = some (some (.ref tl))) (hlen : vs.length ≤ 100)
   (hQ : ∀ h' tk' x dx nm sl gl ul il es n osl ogl oul, ThingLed prog w (vs.length : Int) sort up x dx nm sl gl ul il es osl ogl oul → Fr (hideAll h₀ [tl]) L h' m → News (hideAll h₀ [tl]) L h' ((tl, listOf (vs ++ [Value.ref x]).toArray (nl + 1)) :: (parts x dx nm sl gl ul il es n osl ogl oul ++ μ)) →
     (∀ b ob, s.heap.get? b = some ob → ∀ p ∈ parts x dx nm sl gl ul il es n osl ogl oul, b ≠ p.1) → Q (.ref x) { s with heap := h', toks := tk' }) :
   wpAny (model prog w) A (call (.ref 124) [.ref hp, .int sort t1, .int up t2]) Q E s := by
  have hm := N _ (.head _)
  have hgb : ∀ a ∈ [tl], (hideAll h₀ [tl]).get? a = none := fun a q => hideAll_none _ q
  have hLb : L ∉ [tl] := fun q => hm.2.1 (List.mem_singleton.mp q).symm
  have up' := under_hide F hgb
  refine new_thing_spec (up' _ _ h1) (up' _ _ h2) h3 hm.1 hlen (Cb.at C F hgb hLb hd4 hu4) (fun h' tk' x dx nm sl gl ul il es n osl ogl oul TL S ht B hn => ?_)
  have hne : ∀ b ob, s.heap.get? b = some ob → ∀ p ∈ parts x dx nm sl gl ul il es n osl ogl oul, b ≠ p.1 := fun b ob e p hp q => by
    have := hn p hp
    rw [← q, e] at this; cases this
  obtain ⟨oL, _, _, hL, _⟩ := id F.ns
  repeat ((((fail_if_success (with_reducible show wpAny _ _ _ _ _ _)); (refine (‹∀ (x : _) (y : Shared), _ → _›) _ _ ?_); (try dsimp only))))
  refine hQ h' tk' x dx nm sl gl ul il es n osl ogl oul TL (Fr.st F S hLb hgb) (fun p hp => ?_) hne
  refine all_cons ?_ (fun p hp => ?_) p hp
  · exact ⟨ht, hm.2⟩
  refine all_app (fun p hp => ?_) (fun p hp => ?_) p hp
  · refine ⟨B p hp, (hne _ _ hL p hp).symm, ?_⟩
    cases q : (hideAll h₀ [tl]).get? p.1 with
    | none => rfl
    | some o => exact absurd rfl (hne _ _ (F.keep _ _ q) p hp)
  · have z := N p (.tail _ hp)
    exact ⟨S _ _ (fun q => hμ p hp (List.mem_singleton.mp q)) z.1, z.2⟩
end
section
local macro_rules | `(tactic| walk_at "getAttr ref") => `(tactic| (k_dflt (refine' a_getN ?k1 ?k2 ?k3 ?k3b ?k4 ?k5 ?k6 ?k7 ?k8 ?k9 ?k10 ?_; (case k1 => with_reducible assumption); (case k2 => with_reducible assumption); (case k3 => with_reducible assumption); (case k3b => k_mem); (case k4 => k_mem); (case k5 => k_is); (case k6 => k_is); (case k7 => k_is); (case k8 => k_is); (case k9 => assumption); (case k10 => k_handed); k_whole)))
section
variable {prog : Program} {w : World} {mg mb : Str → Option Value} {A : Around} {s : Shared} {Q E : Value → Shared → Prop}
theorem led_ne {k sort up : Int} {x dx nm sl gl ul il : Addr} {es : List DictEntry} {osl ogl oul : Obj} (TL : ThingLed prog w k sort up x dx nm sl gl ul il es osl ogl oul) :
    (ul ≠ il ∧ gl ≠ il ∧ sl ≠ il ∧ nm ≠ il ∧ x ≠ il ∧ dx ≠ il) ∧ (nm ≠ sl ∧ gl ≠ nm ∧ ul ≠ nm ∧ il ≠ nm ∧ x ≠ nm ∧ dx ≠ nm) ∧ (gl ≠ sl ∧ ul ≠ sl ∧ il ≠ sl ∧ x ≠ sl ∧ dx ≠ sl) := by
  with_reducible refine gen fun GG kGG => ?_
  obtain ⟨_, _, l1, l2, l3, l4, l5, l6⟩ := TL
  with_reducible refine kGG ?_
  clear kGG GG
  have m3 : @LT.lt Nat _ sl ul := Nat.lt_trans l4 l5
  have m4 : @LT.lt Nat _ gl il := Nat.lt_trans l5 l6
  have m5 : @LT.lt Nat _ sl il := Nat.lt_trans l4 m4
  have m6 : @LT.lt Nat _ nm gl := Nat.lt_trans l3 l4
  have m7 : @LT.lt Nat _ nm ul := Nat.lt_trans l3 m3
  have m8 : @LT.lt Nat _ nm il := Nat.lt_trans l3 m5
  have m9 : @LT.lt Nat _ x sl := Nat.lt_trans l2 l3
  have m10 : @LT.lt Nat _ x il := Nat.lt_trans l2 m8
  have m11 : @LT.lt Nat _ dx nm := Nat.lt_trans l1 l2
  have m12 : @LT.lt Nat _ dx sl := Nat.lt_trans l1 m9
  have m13 : @LT.lt Nat _ dx il := Nat.lt_trans l1 m10
  exact ⟨⟨Nat.ne_of_lt l6, Nat.ne_of_lt m4, Nat.ne_of_lt m5, Nat.ne_of_lt m8, Nat.ne_of_lt m10, Nat.ne_of_lt m13⟩, ⟨Nat.ne_of_lt l3, Nat.ne_of_gt m6, Nat.ne_of_gt m7, Nat.ne_of_gt m8, Nat.ne_of_lt l2, Nat.ne_of_lt m11⟩, Nat.ne_of_gt l4, Nat.ne_of_gt m3, Nat.ne_of_gt m5, Nat.ne_of_lt m9, Nat.ne_of_lt m12⟩

theorem valueAt_nodup {kvs : List (Str × Value)} {j : Nat} {k : Str} {v : Value} (hn : (kvs.map (·.1)).Nodup) (hj : kvs[j]? = some (k, v)) : valueAt kvs k = some v ∧ valueAt (kvs.take j) k = none := by
  with_reducible refine gen fun GG kGG => ?_
  obtain ⟨hlt, he⟩ := List.getElem?_eq_some_iff.mp hj
  with_reducible refine kGG ?_
  clear kGG GG
  have e : kvs = kvs.take j ++ (k, v) :: kvs.drop (j + 1) := by
    conv => lhs; rw [← List.take_append_drop j kvs]
    rw [List.drop_eq_getElem_cons hlt, he]
  have hno : (kvs.take j).find? (fun kv => decide (kv.1 = k)) = none := by
    rw [List.find?_eq_none]
    intro p hp q
    have q := of_decide_eq_true q
    rw [e, List.map_append, List.map_cons] at hn
    exact (List.nodup_append.mp hn).2.2 p.1 (List.mem_map_of_mem hp) k (.head _) q
  refine ⟨?_, by unfold valueAt; rw [hno]; rfl⟩
  unfold valueAt
  rw [e, List.find?_append, hno]
  simp
theorem laid_spec {hp dh tl ra : Addr} {eh : List DictEntry} {nh : Nat} {ys : List Addr} {qs : List Raw} {rs : List Rw} (h1 : (hideAll s.heap [tl]).get? hp = some (instObj 113 dh)) (h2 : (hideAll s.heap [tl]).get? dh = some (dictOf eh nh)) (h3 : getL (Str.ofString "things") eh = some (some (.ref tl)))
   (hl : s.heap.get? tl = some (listOf #[] 0)) (hra : (hideAll s.heap [tl]).IsList ra (ys.map Value.ref).toArray) (hR : RowsL prog w (hideAll s.heap [tl]) ys qs rs) (hlen : rs.length ≤ 100) (hits : ∀ r ∈ rs, r.items.length ≤ 1000) (hown : ∀ r ∈ rs, r.sort = 1 → r.own = []) (hol : ∀ r ∈ rs, r.own.length ≤ 900)
   (C0 : Cx w mg mb A s.heap [tl] 6 18)
   (hQ : ∀ h' tk' (xs : List Addr) nl ν, Stays [tl] s.heap h' → h'.get? tl = some (listOf (xs.map Value.ref).toArray nl) → xs.length = rs.length → (∀ p ∈ ν, s.heap.get? p.1 = none) → Blk h' ν →
     (∀ H, RowsL prog w H ys qs rs → Blk H ν → ∀ (k : Nat) (x : Addr) (q : Raw) (r : Rw), xs[k]? = some x → qs[k]? = some q → rs[k]? = some r → ThingAt prog w H x k q r) → Q .none { s with heap := h', toks := tk' }) :
   wpAny (model prog w) A (call (.ref 290) [.ref hp, .ref ra]) Q E s := by
  refine call_rule (d := 5) (u := 15) (binds := [(Str.ofString "heap", .ref hp), (Str.ofString "rows", .ref ra)]) C0 (by k_is) (by k_is) (BindsTo.of_eq rfl) (locs rfl) (fun L h₁ tk F hk' C => ?_) (by decide)
  with_reducible refine hideQ fun KK hKK => ?_
  have X := C.X
  have T := C.T
  have N : News (hideAll s.heap [tl]) L h₁ [(tl, listOf #[] 0)] := fun p hp => by rw [List.mem_singleton.mp hp]; exact ⟨(hk' _ _ hl).1, (hk' _ _ hl).2, hideAll_none _ (.head _)⟩
  clear hk'
  (((repeat' ((fail_if_success ((with_reducible (first | (show wpAny _ _ (call (Value.builtin "list.append") _) _ _ _) | (show wpAny _ _ (exec (Stmt.For _ _ _ _ _) _) _ _ _) | (show wpAny _ _ (pyIter _) _ _ _) | (show TurnPostG _ _ _ _ _ _ _ _))))); (first | walk1 | (dsimp only; walk1) | (k_unfold; (try dsimp only)) | (refine hKS _ _ ?_; clear hKS KS; (try dsimp only))))); (all_goals (try dsimp only)); (all_goals (repeat ((((fail_if_success (with_reducible show wpAny _ _ _ _ _ _)); (refine (‹∀ (x : _) (y : Shared), _ → _›) _ _ ?_); (try dsimp only))))))))
  refine For_invV (hideAll s.heap [tl]) rfl rfl ?_
  (((repeat' ((fail_if_success ((with_reducible (first | (show wpAny _ _ (call (Value.builtin "list.append") _) _ _ _) | (show wpAny _ _ (exec (Stmt.For _ _ _ _ _) _) _ _ _) | (show wpAny _ _ (pyIter _) _ _ _) | (show TurnPostG _ _ _ _ _ _ _ _))))); (first | walk1 | (dsimp only; walk1) | (k_unfold; (try dsimp only)) | (refine hKS _ _ ?_; clear hKS KS; (try dsimp only))))); (all_goals (try dsimp only)); (all_goals (repeat ((((fail_if_success (with_reducible show wpAny _ _ _ _ _ _)); (refine (‹∀ (x : _) (y : Shared), _ → _›) _ _ ?_); (try dsimp only))))))))
  have hraL : ra ≠ L := fun z => by
    with_reducible refine gen fun GG kGG => ?_
    obtain ⟨oi, hoi, _⟩ := hra
    with_reducible refine kGG ?_
    clear kGG GG
    rw [z, fr_none F] at hoi; cases hoi
  have hrat : tl ≠ ra := fun z => by
    with_reducible refine gen fun GG kGG => ?_
    obtain ⟨oi, hoi, _⟩ := hra
    with_reducible refine kGG ?_
    clear kGG GG
    rw [← z, hideAll_none _ (.head _)] at hoi; cases hoi
  refine loop_grList (fun i m₁ μ₁ => ∃ (xs : List Addr) (nl : Nat) (ν : List (Addr × Obj)), μ₁ = (tl, listOf (xs.map Value.ref).toArray nl) :: ν ∧ xs.length = i ∧
      (∀ H, RowsL prog w H ys qs rs → Blk H ν → ∀ (k : Nat) (x : Addr) (q : Raw) (r : Rw), xs[k]? = some x → qs[k]? = some q → rs[k]? = some r → ThingAt prog w H x k q r) ∧ (∀ p ∈ ν, p.1 ≠ tl) ∧
      m₁ (Str.ofString "heap") = some (.ref hp) ∧ m₁ (Str.ofString "rows") = some (.ref ra))
    (Cb.hd C) (hra.at fun o e => F.keep _ o e) hraL (fun p hp => by rw [List.mem_singleton.mp hp]; exact hrat) F N ⟨[], 0, [], rfl, rfl, (fun H _ _ k x q r h => by simp at h), (fun _ h => nomatch h), rfl, rfl⟩ ?_ ?_
  · clear F N
    intro i v m₁ μ₁ h tk κ hv hRp1
    with_reducible refine gen fun GG kGG => ?_
    obtain ⟨xs, nl, ν, rfl, hxl, hT, hne, m1, m2⟩ := hRp1
    with_reducible refine kGG ?_
    clear kGG GG
    intro F N hκ
    with_reducible refine hideQ fun KK hKK => ?_
    rw [List.getElem?_map] at hv
    with_reducible refine gen fun GG kGG => ?_
    obtain ⟨y, hy, rfl⟩ := Option.map_eq_some_iff.mp hv
    with_reducible refine kGG ?_
    clear kGG GG
    have hi : i < rs.length := by rw [← hR.1]; exact (List.getElem?_eq_some_iff.mp hy).1
    obtain ⟨q, hq⟩ : ∃ q, qs[i]? = some q := ⟨_, List.getElem?_eq_getElem (by rw [hR.2.1]; exact hi)⟩
    with_reducible refine gen fun GG kGG => ?_
    obtain ⟨r, hr⟩ : ∃ r, rs[i]? = some r := ⟨_, List.getElem?_eq_getElem hi⟩
    with_reducible refine kGG ?_
    clear kGG GG
    have hRow := hR.2.2 i y q r hy hq hr
    with_reducible refine gen fun GG kGG => ?_
    obtain ⟨it, ow, u1, u2, e1, e2, e3, e4, e5⟩ := id hRow.ex
    with_reducible refine kGG ?_
    clear kGG GG
    have N := (show News (hideAll s.heap [tl]) _ h ((tl, listOf (xs.map Value.ref).toArray nl) :: (ν ++ κ)) from N)
    have hμ : ∀ p ∈ ν ++ κ, p.1 ≠ tl := fun p hp => by
      refine all_app (fun p hp => ?_) (fun p hp => ?_) p hp
      · exact hne p hp
      · exact hκ p hp _ (.head _)
    (((repeat' ((fail_if_success ((with_reducible (first | (show wpAny _ _ (call (Value.builtin "list.append") _) _ _ _) | (show wpAny _ _ (exec (Stmt.For _ _ _ _ _) _) _ _ _) | (show wpAny _ _ (pyIter _) _ _ _) | (show TurnPostG _ _ _ _ _ _ _ _))))); (first | walk1 | (dsimp only; walk1) | (k_unfold; (try dsimp only)) | (refine hKS _ _ ?_; clear hKS KS; (try dsimp only))))); (all_goals (try dsimp only)); (all_goals (repeat ((((fail_if_success (with_reducible show wpAny _ _ _ _ _ _)); (refine (‹∀ (x : _) (y : Shared), _ → _›) _ _ ?_); (try dsimp only))))))))
    rename Fr _ _ _ _ => F
    rename News _ _ _ _ => N
    refine new_thing_in C (by first | exact Nat.le_of_ble_eq_true rfl | assumption | (first | lia | omega)) (by first | exact Nat.le_of_ble_eq_true rfl | assumption | (first | lia | omega)) F N hμ h1 h2 h3 (by rw [List.length_map]; (first | lia | omega)) (fun h' tk' x dx nm sl gl ul il es n osl ogl oul TL F' N' hnew => ?_)
    have hold : ∀ p ∈ (tl, listOf (xs.map Value.ref).toArray nl) :: (ν ++ κ), ∀ p' ∈ parts x dx nm sl gl ul il es n osl ogl oul, p.1 ≠ p'.1 := fun p hp => hnew _ _ (N p hp).1
    clear F N
    have F := F'
    have N := N'
    clear F' N' hnew
    (((repeat' ((fail_if_success ((with_reducible (first | (show wpAny _ _ (call (Value.builtin "list.append") _) _ _ _) | (show wpAny _ _ (exec (Stmt.For _ _ _ _ _) _) _ _ _) | (show wpAny _ _ (pyIter _) _ _ _) | (show TurnPostG _ _ _ _ _ _ _ _))))); (first | walk1 | (dsimp only; walk1) | (k_unfold; (try dsimp only)) | (refine hKS _ _ ?_; clear hKS KS; (try dsimp only))))); (all_goals (try dsimp only)); (all_goals (repeat ((((fail_if_success (with_reducible show wpAny _ _ _ _ _ _)); (refine (‹∀ (x : _) (y : Shared), _ → _›) _ _ ?_); (try dsimp only))))))))
    rename Fr _ _ _ _ => F
    rename News _ _ _ _ => N
    with_reducible refine gen fun GG kGG => ?_
    obtain ⟨⟨s1, s2, s3, s4, s5, s6⟩, ⟨n1, n2, n3, n4, n5, n6⟩, ⟨p1, p2, p3, p4, p5⟩⟩ := led_ne TL
    obtain ⟨⟨w1, w2, w3, g1, g2, g3, g4, g5, g6, g7, g8⟩, ⟨o1, o2, o3, o4, o5, o6⟩, _⟩ := id TL
    with_reducible refine kGG ?_
    clear kGG GG
    have tl1 : tl ≠ il := hold _ (.head _) _ (.head _)
    have tl2 : tl ≠ sl := hold _ (.head _) _ (.tail _ (.tail _ (.tail _ (.head _))))
    have tl3 : tl ≠ nm := hold _ (.head _) _ (.tail _ (.tail _ (.tail _ (.tail _ (.head _)))))
    have il2 : ∀ p ∈ ν ++ κ, p.1 ≠ il := fun p hp => hold p (.tail _ hp) _ (.head _)
    have sl2 : ∀ p ∈ ν ++ κ, p.1 ≠ sl := fun p hp => hold p (.tail _ hp) _ (.tail _ (.tail _ (.tail _ (.head _))))
    have nm2 : ∀ p ∈ ν ++ κ, p.1 ≠ nm := fun p hp => hold p (.tail _ hp) _ (.tail _ (.tail _ (.tail _ (.tail _ (.head _)))))
    with_reducible refine gen fun GG kGG => ?_
    obtain ⟨tobj, htobj⟩ : ∃ tobj, tobj = listOf (xs.map Value.ref ++ [Value.ref x]).toArray (nl + 1) := ⟨_, rfl⟩
    with_reducible refine kGG ?_
    clear kGG GG
    rw [← htobj] at N
    have N1 := (show News (hideAll s.heap [tl]) L _ ((il, listOf #[] 0) :: (tl, tobj) :: (ul, oul) :: (gl, ogl) :: (sl, osl) :: (nm, listOf #[] 0) :: (x, instObj 92 dx) :: (dx, dictOf es n) :: (ν ++ κ)) from fun p hp => by
      refine all_cons ?_ (fun p hp => ?_) p hp
      · exact N _ (.tail _ (.head _))
      refine all_cons ?_ (fun p hp => ?_) p hp
      · exact N _ (.head _)
      · exact N p (.tail _ (.tail _ hp)))
    clear N
    have hil1 : ∀ p ∈ (tl, tobj) :: (ul, oul) :: (gl, ogl) :: (sl, osl) :: (nm, listOf #[] 0) :: (x, instObj 92 dx) :: (dx, dictOf es n) :: (ν ++ κ), p.1 ≠ il := fun p hp => by
      refine all_cons ?_ (fun p hp => ?_) p hp
      · exact tl1
      refine all_cons ?_ (fun p hp => ?_) p hp
      · exact s1
      refine all_cons ?_ (fun p hp => ?_) p hp
      · exact s2
      refine all_cons ?_ (fun p hp => ?_) p hp
      · exact s3
      refine all_cons ?_ (fun p hp => ?_) p hp
      · exact s4
      refine all_cons ?_ (fun p hp => ?_) p hp
      · exact s5
      refine all_cons ?_ (fun p hp => ?_) p hp
      · exact s6
      · exact il2 p hp
    have hbase : ∀ {a : Addr} {o : Obj}, (hideAll s.heap [tl]).get? a = some o → ∀ p ∈ (il, listOf #[] 0) :: (tl, tobj) :: (ul, oul) :: (gl, ogl) :: (sl, osl) :: (nm, listOf #[] 0) :: (x, instObj 92 dx) :: (dx, dictOf es n) :: (ν ++ κ), p.1 ≠ a := fun {a o} e p hp z => by
      have := (N1 p hp).2.2
      rw [z, e] at this; cases this
    refine For_invV (hideAll s.heap [tl]) rfl rfl ?_
    (((repeat' ((fail_if_success ((with_reducible (first | (show wpAny _ _ (call (Value.builtin "list.append") _) _ _ _) | (show wpAny _ _ (exec (Stmt.For _ _ _ _ _) _) _ _ _) | (show wpAny _ _ (pyIter _) _ _ _) | (show TurnPostG _ _ _ _ _ _ _ _))))); (first | walk1 | (dsimp only; walk1) | (k_unfold; (try dsimp only)) | (refine hKS _ _ ?_; clear hKS KS; (try dsimp only))))); (all_goals (try dsimp only)); (all_goals (repeat ((((fail_if_success (with_reducible show wpAny _ _ _ _ _ _)); (refine (‹∀ (x : _) (y : Shared), _ → _›) _ _ ?_); (try dsimp only))))))))
    rename Fr _ _ _ _ => F
    rename News _ _ _ _ => N
    with_reducible refine gen fun GG kGG => ?_
    obtain ⟨oit, hoit, hoit2⟩ := id e3
    obtain ⟨oow, _, _, hoow, _⟩ := id e4
    with_reducible refine kGG ?_
    clear kGG GG
    have hil : q.its.length = r.items.length := All2.len hRow.its
    have hitl : q.its.length ≤ 1000 := by rw [hil]; exact hits r (List.mem_of_getElem? hr)
    refine loop_grList (fun j m₁ μ₁ => ∃ (arr : Array Value) (na : Nat), μ₁ = (il, listOf arr na) :: (tl, tobj) :: (ul, oul) :: (gl, ogl) :: (sl, osl) :: (nm, listOf #[] 0) :: (x, instObj 92 dx) :: (dx, dictOf es n) :: (ν ++ κ) ∧ arr.toList = q.its.take j ∧
        m₁ (Str.ofString "heap") = some (.ref hp) ∧ m₁ (Str.ofString "rows") = some (.ref ra) ∧ m₁ (Str.ofString "row") = some (.ref y) ∧ m₁ (Str.ofString "thing") = some (.ref x))
      (Cb.hd C) (e3.at fun o e => F.keep _ o e) (fun z => by have z : it = L := z; rw [z, fr_none F] at hoit; cases hoit) (hbase hoit) F N ⟨#[], 0, rfl, by simp, m1, m2, rfl, rfl⟩ ?_ ?_
    · clear F N
      intro j v m₁ μ₁ h tk κ2 hv hRp1
      with_reducible refine gen fun GG kGG => ?_
      obtain ⟨arr, na, rfl, harr, q1, q2, q3, q4⟩ := hRp1
      with_reducible refine kGG ?_
      clear kGG GG
      intro F N hκ2
      with_reducible refine hideQ fun KK hKK => ?_
      have N := (show News (hideAll s.heap [tl]) _ h ((il, listOf arr na) :: (tl, tobj) :: (ul, oul) :: (gl, ogl) :: (sl, osl) :: (nm, listOf #[] 0) :: (x, instObj 92 dx) :: (dx, dictOf es n) :: ((ν ++ κ) ++ κ2)) from N)
      (((repeat' ((fail_if_success ((with_reducible (first | (show wpAny _ _ (call (Value.builtin "list.append") _) _ _ _) | (show wpAny _ _ (exec (Stmt.For _ _ _ _ _) _) _ _ _) | (show wpAny _ _ (pyIter _) _ _ _) | (show TurnPostG _ _ _ _ _ _ _ _))))); (first | walk1 | (dsimp only; walk1) | (k_unfold; (try dsimp only)) | (refine hKS _ _ ?_; clear hKS KS; (try dsimp only))))); (all_goals (try dsimp only)); (all_goals (repeat ((((fail_if_success (with_reducible show wpAny _ _ _ _ _ _)); (refine (‹∀ (x : _) (y : Shared), _ → _›) _ _ ?_); (try dsimp only))))))))
      rename Fr _ _ _ _ => F
      rename News _ _ _ _ => N
      have hjl : j < q.its.length := (List.getElem?_eq_some_iff.mp hv).1
      have hsz : arr.size ≤ j := by
        have := congrArg List.length harr
        rw [Array.length_toList, List.length_take] at this
        (first | lia | omega)
      refine append_K F N (.head fun p hp => ?_) (fun h₃ F₃ N₃ => ?_) (by rw [sizeLine_eq]; (first | lia | omega))
      · rcases List.mem_append.mp (show p ∈ ((tl, tobj) :: (ul, oul) :: (gl, ogl) :: (sl, osl) :: (nm, listOf #[] 0) :: (x, instObj 92 dx) :: (dx, dictOf es n) :: (ν ++ κ)) ++ κ2 from hp) with hp | hp
        · exact hil1 p hp
        · exact hκ2 p hp _ (.head _)
      clear F N
      (((repeat' ((fail_if_success ((with_reducible (first | (show wpAny _ _ (call (Value.builtin "list.append") _) _ _ _) | (show wpAny _ _ (exec (Stmt.For _ _ _ _ _) _) _ _ _) | (show wpAny _ _ (pyIter _) _ _ _) | (show TurnPostG _ _ _ _ _ _ _ _))))); (first | walk1 | (dsimp only; walk1) | (k_unfold; (try dsimp only)) | (refine hKS _ _ ?_; clear hKS KS; (try dsimp only))))); (all_goals (try dsimp only)); (all_goals (repeat ((((fail_if_success (with_reducible show wpAny _ _ _ _ _ _)); (refine (‹∀ (x : _) (y : Shared), _ → _›) _ _ ?_); (try dsimp only))))))))
      refine ⟨_, _, _, (il, listOf (arr.push v) (na + 1)) :: (tl, tobj) :: (ul, oul) :: (gl, ogl) :: (sl, osl) :: (nm, listOf #[] 0) :: (x, instObj 92 dx) :: (dx, dictOf es n) :: (ν ++ κ), rfl, F₃, N₃, ?_, arr.push v, na + 1, rfl, ?_, q1, q2, q3, q4⟩
      · intro p hp q' hq'
        refine all_cons ?_ (fun q' hq' => ?_) q' hq'
        · exact hκ2 p hp (il, listOf arr na) (.head _)
        · exact hκ2 p hp q' (.tail _ hq')
      · rw [Array.toList_push, harr, take_one hv]
    · clear F N
      intro m₃ μ₃ h tk hRp1
      with_reducible refine gen fun GG kGG => ?_
      obtain ⟨arr, na, rfl, harr, q1, q2, q3, q4⟩ := hRp1
      with_reducible refine kGG ?_
      clear kGG GG
      intro F N
      rw [List.take_length] at harr
      (((repeat' ((fail_if_success ((with_reducible (first | (show wpAny _ _ (call (Value.builtin "list.append") _) _ _ _) | (show wpAny _ _ (exec (Stmt.For _ _ _ _ _) _) _ _ _) | (show wpAny _ _ (pyIter _) _ _ _) | (show TurnPostG _ _ _ _ _ _ _ _))))); (first | walk1 | (dsimp only; walk1) | (k_unfold; (try dsimp only)) | (refine hKS _ _ ?_; clear hKS KS; (try dsimp only))))); (all_goals (try dsimp only)); (all_goals (repeat ((((fail_if_success (with_reducible show wpAny _ _ _ _ _ _)); (refine (‹∀ (x : _) (y : Shared), _ → _›) _ _ ?_); (try dsimp only))))))))
      rename Fr _ _ _ _ => F
      rename News _ _ _ _ => N
      have N2 := (show News (hideAll s.heap [tl]) L _ ((nm, listOf #[] 0) :: (sl, osl) :: (il, listOf arr na) :: (tl, tobj) :: (ul, oul) :: (gl, ogl) :: (x, instObj 92 dx) :: (dx, dictOf es n) :: (ν ++ κ)) from fun p hp => by
        refine all_cons ?_ (fun p hp => ?_) p hp
        · exact N _ (.tail _ (.tail _ (.tail _ (.tail _ (.tail _ (.head _))))))
        refine all_cons ?_ (fun p hp => ?_) p hp
        · exact N _ (.tail _ (.tail _ (.tail _ (.tail _ (.head _)))))
        refine all_cons ?_ (fun p hp => ?_) p hp
        · exact N _ (.head _)
        refine all_cons ?_ (fun p hp => ?_) p hp
        · exact N _ (.tail _ (.head _))
        refine all_cons ?_ (fun p hp => ?_) p hp
        · exact N _ (.tail _ (.tail _ (.head _)))
        refine all_cons ?_ (fun p hp => ?_) p hp
        · exact N _ (.tail _ (.tail _ (.tail _ (.head _))))
        · exact N p (.tail _ (.tail _ (.tail _ (.tail _ (.tail _ (.tail _ hp)))))))
      clear N
      have hrest : ∀ p ∈ (il, listOf arr na) :: (tl, tobj) :: (ul, oul) :: (gl, ogl) :: (x, instObj 92 dx) :: (dx, dictOf es n) :: (ν ++ κ), p.1 ≠ nm ∧ p.1 ≠ sl := fun p hp => by
        refine all_cons ?_ (fun p hp => ?_) p hp
        · exact ⟨n4, p3⟩
        refine all_cons ?_ (fun p hp => ?_) p hp
        · exact ⟨tl3, tl2⟩
        refine all_cons ?_ (fun p hp => ?_) p hp
        · exact ⟨n3, p2⟩
        refine all_cons ?_ (fun p hp => ?_) p hp
        · exact ⟨n2, p1⟩
        refine all_cons ?_ (fun p hp => ?_) p hp
        · exact ⟨n5, p4⟩
        refine all_cons ?_ (fun p hp => ?_) p hp
        · exact ⟨n6, p5⟩
        · exact ⟨nm2 p hp, sl2 p hp⟩
      have hbase2 : ∀ {a : Addr} {o : Obj}, (hideAll s.heap [tl]).get? a = some o → ∀ p ∈ (nm, listOf #[] 0) :: (sl, osl) :: (il, listOf arr na) :: (tl, tobj) :: (ul, oul) :: (gl, ogl) :: (x, instObj 92 dx) :: (dx, dictOf es n) :: (ν ++ κ), p.1 ≠ a := fun {a o} e p hp z => by
        have := (N2 p hp).2.2
        rw [z, e] at this; cases this
      have hrown : r.own.length ≤ 900 := hol r (List.mem_of_getElem? hr)
      have hql : q.own.length = r.own.length := All2.len hRow.own
      refine For_invV (hideAll s.heap [tl]) rfl rfl ?_
      (((repeat' ((fail_if_success ((with_reducible (first | (show wpAny _ _ (call (Value.builtin "list.append") _) _ _ _) | (show wpAny _ _ (exec (Stmt.For _ _ _ _ _) _) _ _ _) | (show wpAny _ _ (pyIter _) _ _ _) | (show TurnPostG _ _ _ _ _ _ _ _))))); (first | walk1 | (dsimp only; walk1) | (k_unfold; (try dsimp only)) | (refine hKS _ _ ?_; clear hKS KS; (try dsimp only))))); (all_goals (try dsimp only)); (all_goals (repeat ((((fail_if_success (with_reducible show wpAny _ _ _ _ _ _)); (refine (‹∀ (x : _) (y : Shared), _ → _›) _ _ ?_); (try dsimp only))))))))
      rename Fr _ _ _ _ => F
      rename News _ _ _ _ => N
      refine loop_grDict (fun j m₁ μ₁ => ∃ (nv : Array Value) (nn : Nat) (os' : Obj), μ₁ = (nm, listOf nv nn) :: (sl, os') :: (il, listOf arr na) :: (tl, tobj) :: (ul, oul) :: (gl, ogl) :: (x, instObj 92 dx) :: (dx, dictOf es n) :: (ν ++ κ) ∧ os'.IsDictOf (PySem.strKind prog w) (q.own.take j) ∧ nv.size = j ∧
          m₁ (Str.ofString "heap") = some (.ref hp) ∧ m₁ (Str.ofString "rows") = some (.ref ra) ∧ m₁ (Str.ofString "row") = some (.ref y) ∧ m₁ (Str.ofString "thing") = some (.ref x))
        (Cb.hd C) (e4.keep F.keep) e5 (fun z => by have e : (hideAll s.heap [tl]).get? ow = none := (show ow = _ from z) ▸ fr_none F; rw [hoow] at e; cases e) (hbase2 hoow) F N ⟨#[], 0, osl, rfl, by simpa using o1, rfl, q1, q2, q3, q4⟩ ?_ ?_
      · clear F N
        intro j word vv tw m₁ μ₁ h tk κ2 hv hRp1
        with_reducible refine gen fun GG kGG => ?_
        obtain ⟨nv, nn, os', rfl, hos, hnv, q1, q2, q3, q4⟩ := hRp1
        with_reducible refine kGG ?_
        clear kGG GG
        intro F N hκ2
        with_reducible refine hideQ fun KK hKK => ?_
        have N := (show News (hideAll s.heap [tl]) _ h ((nm, listOf nv nn) :: (sl, os') :: (il, listOf arr na) :: (tl, tobj) :: (ul, oul) :: (gl, ogl) :: (x, instObj 92 dx) :: (dx, dictOf es n) :: ((ν ++ κ) ++ κ2)) from N)
        have hjl : j < q.own.length := (List.getElem?_eq_some_iff.mp hv).1
        have hnd : (q.own.map (·.1)).Nodup := by
          with_reducible refine gen fun GG kGG => ?_
          obtain ⟨_, _, _, _, _, _, _, _, hnd⟩ := e4
          with_reducible refine kGG ?_
          clear kGG GG
          exact hnd
        with_reducible refine gen fun GG kGG => ?_
        obtain ⟨hva, hva0⟩ := valueAt_nodup hnd hv
        with_reducible refine kGG ?_
        clear kGG GG
        have hsort : r.sort ≠ 1 := fun z => by
          have z := hown r (List.mem_of_getElem? hr) z
          rw [z] at hql
          rw [hql] at hjl
          exact Nat.not_lt_zero _ hjl
        (((repeat' ((fail_if_success ((with_reducible (first | (show wpAny _ _ (call (Value.builtin "list.append") _) _ _ _) | (show wpAny _ _ (exec (Stmt.For _ _ _ _ _) _) _ _ _) | (show wpAny _ _ (pyIter _) _ _ _) | (show TurnPostG _ _ _ _ _ _ _ _))))); (first | walk1 | (dsimp only; walk1) | (k_unfold; (try dsimp only)) | (refine hKS _ _ ?_; clear hKS KS; (try dsimp only))))); (all_goals (try dsimp only)); (all_goals (repeat ((((fail_if_success (with_reducible show wpAny _ _ _ _ _ _)); (refine (‹∀ (x : _) (y : Shared), _ → _›) _ _ ?_); (try dsimp only))))))))
        rename Fr _ _ _ _ => F
        rename News _ _ _ _ => N
        have hgb : ∀ a ∈ [nm, sl], (hideAll s.heap [tl]).get? a = none := fun a z => by
          rcases List.mem_cons.mp z with rfl | z
          · exact (N _ (.head _)).2.2
          · rw [List.mem_singleton.mp z]; exact (N _ (.tail _ (.head _))).2.2
        have hLb : L ∉ [nm, sl] := fun z => by
          rcases List.mem_cons.mp z with z | z
          · exact (N _ (.head _)).2.1 z.symm
          · exact (N _ (.tail _ (.head _))).2.1 (List.mem_singleton.mp z).symm
        have hκn : ∀ p ∈ κ2, p.1 ≠ nm ∧ p.1 ≠ sl := fun p hp => ⟨hκ2 p hp (nm, listOf nv nn) (.head _), hκ2 p hp (sl, os') (.tail _ (.head _))⟩
        have hoff : ∀ p ∈ (il, listOf arr na) :: (tl, tobj) :: (ul, oul) :: (gl, ogl) :: (x, instObj 92 dx) :: (dx, dictOf es n) :: ((ν ++ κ) ++ κ2), p.1 ∉ [nm, sl] := fun p hp z => by
          have hh : p.1 ≠ nm ∧ p.1 ≠ sl := by
            rcases List.mem_append.mp (show p ∈ ((il, listOf arr na) :: (tl, tobj) :: (ul, oul) :: (gl, ogl) :: (x, instObj 92 dx) :: (dx, dictOf es n) :: (ν ++ κ)) ++ κ2 from hp) with hp | hp
            · exact hrest p hp
            · exact hκn p hp
          rcases List.mem_cons.mp z with z | z
          · exact hh.1 z
          · exact hh.2 (List.mem_singleton.mp z)
        have up := under_hide F hgb
        have at_ : ∀ p ∈ (il, listOf arr na) :: (tl, tobj) :: (ul, oul) :: (gl, ogl) :: (x, instObj 92 dx) :: (dx, dictOf es n) :: ((ν ++ κ) ++ κ2), (hideAll _ [nm, sl]).get? p.1 = some p.2 := fun p hp => hideAll_get _ (N p (.tail _ (.tail _ hp))).1 (hoff p hp)
        have htlist := at_ (tl, tobj) (.tail _ (.head _))
        rw [htobj] at htlist
        refine set_own_spec (k := (xs.map Value.ref).length) (up _ _ h1) (up _ _ h2) h3 (xs := xs.map Value.ref ++ [Value.ref x]) ⟨_, htlist, rfl, _, rfl⟩ (by rw [Int.toNat_natCast, List.getElem?_append_right (Nat.le_refl _), Nat.sub_self]; rfl) (by rw [List.length_map]; (first | lia | omega))
          (at_ (x, instObj 92 dx) (.tail _ (.tail _ (.tail _ (.tail _ (.head _)))))) (at_ (dx, dictOf es n) (.tail _ (.tail _ (.tail _ (.tail _ (.tail _ (.head _))))))) g2 g3 g4 g5 g6 o2
          (Heap.dictOf_iff.mpr ⟨ogl, at_ (gl, ogl) (.tail _ (.tail _ (.tail _ (.head _)))), o3⟩) o4 (Heap.dictOf_iff.mpr ⟨oul, at_ (ul, oul) (.tail _ (.tail _ (.head _))), o5⟩) o6
          (N _ (.head _)).1 (N _ (.tail _ (.head _))).1 hos n1 (by first | exact Nat.le_of_ble_eq_true rfl | assumption | (first | lia | omega)) (by rw [List.length_take]; (first | lia | omega)) hva0 hsort (Cb.at C F hgb hLb (by first | exact Nat.le_of_ble_eq_true rfl | assumption | (first | lia | omega)) (by first | exact Nat.le_of_ble_eq_true rfl | assumption | (first | lia | omega))) (fun h₃ tk₃ os'' S hn3 hs3 hd3 => ?_)
        have F₃ := Fr.st F S hLb hgb
        have N₃ := (show News (hideAll s.heap [tl]) L h₃ ((nm, listOf (nv.push (.str word tw)) (nn + 1)) :: (sl, os'') :: (il, listOf arr na) :: (tl, tobj) :: (ul, oul) :: (gl, ogl) :: (x, instObj 92 dx) :: (dx, dictOf es n) :: ((ν ++ κ) ++ κ2)) from fun p hp => by
          refine all_cons ?_ (fun p hp => ?_) p hp
          · exact ⟨hn3, (N _ (.head _)).2⟩
          refine all_cons ?_ (fun p hp => ?_) p hp
          · exact ⟨hs3, (N _ (.tail _ (.head _))).2⟩
          · have z := N p (.tail _ (.tail _ hp))
            exact ⟨S _ _ (hoff p hp) z.1, z.2⟩)
        clear F N at_ up htlist
        (((repeat' ((fail_if_success ((with_reducible (first | (show wpAny _ _ (call (Value.builtin "list.append") _) _ _ _) | (show wpAny _ _ (exec (Stmt.For _ _ _ _ _) _) _ _ _) | (show wpAny _ _ (pyIter _) _ _ _) | (show TurnPostG _ _ _ _ _ _ _ _))))); (first | walk1 | (dsimp only; walk1) | (k_unfold; (try dsimp only)) | (refine hKS _ _ ?_; clear hKS KS; (try dsimp only))))); (all_goals (try dsimp only)); (all_goals (repeat ((((fail_if_success (with_reducible show wpAny _ _ _ _ _ _)); (refine (‹∀ (x : _) (y : Shared), _ → _›) _ _ ?_); (try dsimp only))))))))
        refine ⟨_, _, _, (nm, listOf (nv.push (.str word tw)) (nn + 1)) :: (sl, os'') :: (il, listOf arr na) :: (tl, tobj) :: (ul, oul) :: (gl, ogl) :: (x, instObj 92 dx) :: (dx, dictOf es n) :: (ν ++ κ), rfl, F₃, N₃, ?_, nv.push (.str word tw), nn + 1, os'', rfl, ?_, by rw [Array.size_push, hnv], q1, q2, q3, q4⟩
        · intro p hp q' hq'
          refine all_cons ?_ (fun q' hq' => ?_) q' hq'
          · exact (hκn p hp).1
          refine all_cons ?_ (fun q' hq' => ?_) q' hq'
          · exact (hκn p hp).2
          · exact hκ2 p hp q' (.tail _ (.tail _ hq'))
        · rw [take_one hv]; exact hd3
      · clear F N
        intro m₄ μ₄ h tk hRp1
        with_reducible refine gen fun GG kGG => ?_
        obtain ⟨nv, nn, os', rfl, hos, hnv, q1, q2, q3, q4⟩ := hRp1
        with_reducible refine kGG ?_
        clear kGG GG
        intro F N
        rw [List.take_length] at hos
        (((repeat' ((fail_if_success ((with_reducible (first | (show wpAny _ _ (call (Value.builtin "list.append") _) _ _ _) | (show wpAny _ _ (exec (Stmt.For _ _ _ _ _) _) _ _ _) | (show wpAny _ _ (pyIter _) _ _ _) | (show TurnPostG _ _ _ _ _ _ _ _))))); (first | walk1 | (dsimp only; walk1) | (k_unfold; (try dsimp only)) | (refine hKS _ _ ?_; clear hKS KS; (try dsimp only))))); (all_goals (try dsimp only)); (all_goals (repeat ((((fail_if_success (with_reducible show wpAny _ _ _ _ _ _)); (refine (‹∀ (x : _) (y : Shared), _ → _›) _ _ ?_); (try dsimp only))))))))
        have eT : (xs ++ [x]).map Value.ref = xs.map Value.ref ++ [Value.ref x] := by rw [List.map_append]; rfl
        have eA : arr = q.its.toArray := by rw [← harr]
        have eK : (((xs.map Value.ref).length : Nat) : Int) = (i : Int) := by rw [List.length_map, hxl]
        rw [eK] at g1
        have hκp : ∀ p ∈ κ, p.1 ≠ il ∧ p.1 ≠ ul ∧ p.1 ≠ gl ∧ p.1 ≠ sl ∧ p.1 ≠ nm ∧ p.1 ≠ x ∧ p.1 ≠ dx := fun p hp =>
          have z := hold p (.tail _ (List.mem_append_right _ hp))
          ⟨z _ (.head _), z _ (.tail _ (.head _)), z _ (.tail _ (.tail _ (.head _))), z _ (.tail _ (.tail _ (.tail _ (.head _)))), z _ (.tail _ (.tail _ (.tail _ (.tail _ (.head _))))), z _ (.tail _ (.tail _ (.tail _ (.tail _ (.tail _ (.head _)))))), z _ (.tail _ (.tail _ (.tail _ (.tail _ (.tail _ (.tail _ (.head _))))))) ⟩
        refine ⟨_, _, _, (tl, listOf ((xs ++ [x]).map Value.ref).toArray (nl + 1)) :: ((nm, listOf nv nn) :: (sl, os') :: (il, listOf arr na) :: (ul, oul) :: (gl, ogl) :: (x, instObj 92 dx) :: (dx, dictOf es n) :: ν), rfl, F, (fun p hp => N p ?_), ?_, xs ++ [x], nl + 1, _, rfl, (by rw [List.length_append, hxl]; rfl), ?_, ?_, q1, q2⟩
        · rw [eT, ← htobj] at hp
          have hp : p ∈ (tl, tobj) :: (nm, listOf nv nn) :: (sl, os') :: (il, listOf arr na) :: (ul, oul) :: (gl, ogl) :: (x, instObj 92 dx) :: (dx, dictOf es n) :: (ν ++ κ) := hp
          refine all_cons ?_ (fun p hp => ?_) p hp
          · exact .tail _ (.tail _ (.tail _ (.head _)))
          refine all_cons ?_ (fun p hp => ?_) p hp
          · exact .head _
          refine all_cons ?_ (fun p hp => ?_) p hp
          · exact .tail _ (.head _)
          refine all_cons ?_ (fun p hp => ?_) p hp
          · exact .tail _ (.tail _ (.head _))
          · exact .tail _ (.tail _ (.tail _ (.tail _ hp)))
        · intro p hp q' hq'
          with_reducible refine gen fun GG kGG => ?_
          obtain ⟨z1, z2, z3, z4, z5, z6, z7⟩ := hκp p hp
          with_reducible refine kGG ?_
          clear kGG GG
          refine all_cons ?_ (fun q' hq' => ?_) q' hq'
          · exact hκ p hp (tl, listOf (xs.map Value.ref).toArray nl) (.head _)
          refine all_cons ?_ (fun q' hq' => ?_) q' hq'
          · exact z5
          refine all_cons ?_ (fun q' hq' => ?_) q' hq'
          · exact z4
          refine all_cons ?_ (fun q' hq' => ?_) q' hq'
          · exact z1
          refine all_cons ?_ (fun q' hq' => ?_) q' hq'
          · exact z2
          refine all_cons ?_ (fun q' hq' => ?_) q' hq'
          · exact z3
          refine all_cons ?_ (fun q' hq' => ?_) q' hq'
          · exact z6
          refine all_cons ?_ (fun q' hq' => ?_) q' hq'
          · exact z7
          · exact hκ p hp q' (.tail _ hq')
        · intro H R B k x' q' r' hx' hq' hr'
          by_cases hk : k < xs.length
          · rw [List.getElem?_append_left hk] at hx'
            exact hT H R (fun p hp => B p (.tail _ (.tail _ (.tail _ (.tail _ (.tail _ (.tail _ (.tail _ hp)))))))) k x' q' r' hx' hq' hr'
          · rw [List.getElem?_append_right (Nat.le_of_not_lt hk)] at hx'
            have hk2 : k = i := by
              have := (List.getElem?_eq_some_iff.mp hx').1
              simp only [List.length_cons, List.length_nil] at this
              (first | lia | omega)
            subst hk2
            rw [hxl, Nat.sub_self] at hx'
            cases hx'
            rw [hq] at hq'; cases hq'
            rw [hr] at hr'; cases hr'
            have hRw := R.2.2 k y q r hy hq hr
            exact ⟨⟨dx, es, n, sl, gl, ul, il, w1, w2, w3, B _ (.tail _ (.tail _ (.tail _ (.tail _ (.tail _ (.head _)))))), B _ (.tail _ (.tail _ (.tail _ (.tail _ (.tail _ (.tail _ (.head _))))))), g1, g2, g4, g5, g6, g7, g8,
              Heap.dictOf_iff.mpr ⟨os', B _ (.tail _ (.head _)), hos⟩, o2, Heap.dictOf_iff.mpr ⟨ogl, B _ (.tail _ (.tail _ (.tail _ (.tail _ (.head _))))), o3⟩, o4, Heap.dictOf_iff.mpr ⟨oul, B _ (.tail _ (.tail _ (.tail _ (.head _)))), o5⟩, o6,
              eA ▸ ⟨_, B _ (.tail _ (.tail _ (.head _))), rfl, _, rfl⟩⟩, hRw.its, hRw.own⟩
        · intro p hp
          have zt := hold (tl, listOf (xs.map Value.ref).toArray nl) (.head _)
          refine all_cons ?_ (fun p hp => ?_) p hp
          · exact tl3.symm
          refine all_cons ?_ (fun p hp => ?_) p hp
          · exact tl2.symm
          refine all_cons ?_ (fun p hp => ?_) p hp
          · exact tl1.symm
          refine all_cons ?_ (fun p hp => ?_) p hp
          · exact (zt _ (.tail _ (.head _))).symm
          refine all_cons ?_ (fun p hp => ?_) p hp
          · exact (zt _ (.tail _ (.tail _ (.head _)))).symm
          refine all_cons ?_ (fun p hp => ?_) p hp
          · exact (zt _ (.tail _ (.tail _ (.tail _ (.tail _ (.tail _ (.head _))))))).symm
          refine all_cons ?_ (fun p hp => ?_) p hp
          · exact (zt _ (.tail _ (.tail _ (.tail _ (.tail _ (.tail _ (.tail _ (.head _)))))))).symm
          · exact hne p hp
  · clear F N
    intro m₁ μ₁ h tk hRp1
    with_reducible refine gen fun GG kGG => ?_
    obtain ⟨xs, nl, ν, rfl, hxl, hT, hne, m1, m2⟩ := hRp1
    with_reducible refine kGG ?_
    clear kGG GG
    intro F N
    rw [List.length_map] at hxl
    (((repeat' ((fail_if_success ((with_reducible (first | (show wpAny _ _ (call (Value.builtin "list.append") _) _ _ _) | (show wpAny _ _ (exec (Stmt.For _ _ _ _ _) _) _ _ _) | (show wpAny _ _ (pyIter _) _ _ _) | (show TurnPostG _ _ _ _ _ _ _ _))))); (first | walk1 | (dsimp only; walk1) | (k_unfold; (try dsimp only)) | (refine hKS _ _ ?_; clear hKS KS; (try dsimp only))))); (all_goals (try dsimp only)); (all_goals (repeat ((((fail_if_success (with_reducible show wpAny _ _ _ _ _ _)); (refine (‹∀ (x : _) (y : Shared), _ → _›) _ _ ?_); (try dsimp only))))))))
    rename Fr _ _ _ _ => F
    rename News _ _ _ _ => N
    repeat ((((fail_if_success (with_reducible show wpAny _ _ _ _ _ _)); (refine (‹∀ (x : _) (y : Shared), _ → _›) _ _ ?_); (try dsimp only))))
    exact hQ _ _ xs nl ν (Fr.out F) (N _ (.head _)).1 (by rw [hxl, hR.1]) (fun p hp => new_of N (.tail _ hp) (fun q => hne p hp (List.mem_singleton.mp q))) (fun p hp => (N p (.tail _ hp)).1) hT
end
end
section
variable {prog : Program} {w : World} {mg mb : Str → Option Value} {A : Around} {s : Shared} {Q E : Value → Shared → Prop} {g : Heap} {L st num : Addr} {m : Str → Option Value} {μ : List (Addr × Obj)} {o : Obj} {us : List Value} {ms : List Int} {n r d u d' u' : Nat} {t1 t2 : Tok}
theorem st_g (N : News g L s.heap ((st, o) :: μ)) : ∀ a ∈ [st], g.get? a = none := fun a q => by rw [List.mem_singleton.mp q]; exact (N _ (.head _)).2.2
theorem st_L (N : News g L s.heap ((st, o) :: μ)) : L ∉ [st] := fun q => (N _ (.head _)).2.1 (List.mem_singleton.mp q).symm
theorem st_blk (N : News g L s.heap ((st, o) :: μ)) (hμ : ∀ p ∈ μ, p.1 ≠ st) : Blk (hideAll s.heap [st]) μ := fun p hp => hideAll_get _ (N p (.tail _ hp)).1 fun q => hμ p hp (List.mem_singleton.mp q)
theorem pull_L (C : Cb w mg mb A g L d u) (F : Fr g L s.heap m) (N : News g L s.heap ((st, o) :: μ)) (hμ : ∀ p ∈ μ, p.1 ≠ st)
   (hd : o.IsDictOf (PySem.strKind prog w) [(Str.ofString "nums", .ref num), (Str.ofString "next", .int (n : Int) t1), (Str.ofString "refs", .int (r : Int) t2)]) (hs2 : (st == sysModules) = false)
   (hn : ∀ H, Blk H μ → NumsAt H num us ms) (hb : n ≤ 1000) (hd1 : 1 ≤ d) (hu1 : 3 ≤ u)
   (hQ : ∀ h' tk' v t o' t1 t2, 0 ≤ v → v < 5040 → Fr g L h' m → News g L h' ((st, o') :: μ) →
     o'.IsDictOf (PySem.strKind prog w) [(Str.ofString "nums", .ref num), (Str.ofString "next", .int ((n + 1 : Nat) : Int) t1), (Str.ofString "refs", .int (r : Int) t2)] → Q (.int v t) { s with heap := h', toks := tk' }) :
   wpAny (model prog w) A (call (.ref 243) [.ref st]) Q E s := by
  refine pull_spec ⟨⟨_, _, Heap.dictOf_iff.mpr ⟨o, (N _ (.head _)).1, hd⟩⟩, hs2⟩ (hn _ (st_blk N hμ)) hb (Cb.at C F (st_g N) (st_L N) hd1 hu1) (fun h' tk' v t h0 h1 S hs' => ?_)
  with_reducible refine gen fun GG kGG => ?_
  obtain ⟨⟨t1, t2, hs1⟩, _⟩ := hs'
  obtain ⟨o', ho', hd'⟩ := Heap.dictOf_iff.mp hs1
  with_reducible refine kGG ?_
  clear kGG GG
  repeat ((((fail_if_success (with_reducible show wpAny _ _ _ _ _ _)); (refine (‹∀ (x : _) (y : Shared), _ → _›) _ _ ?_); (try dsimp only))))
  exact hQ h' tk' v t o' t1 t2 h0 h1 (Fr.st F S (st_L N) (st_g N)) (News.st1 N S hμ ho') hd'
theorem value_L {count : Nat} {tc : Tok} (C : Cb w mg mb A g L d u) (F : Fr g L s.heap m) (N : News g L s.heap ((st, o) :: μ)) (hμ : ∀ p ∈ μ, p.1 ≠ st)
   (hd : o.IsDictOf (PySem.strKind prog w) [(Str.ofString "nums", .ref num), (Str.ofString "next", .int (n : Int) t1), (Str.ofString "refs", .int (r : Int) t2)]) (hs2 : (st == sysModules) = false)
   (hn : ∀ H, Blk H μ → NumsAt H num us ms) (hb : n ≤ 1000) (hr : r ≤ 1000) (hc : count ≤ 10) (hd1 : 2 ≤ d) (hu1 : 6 ≤ u)
   (hQ : ∀ h' tk' a x o' (r' : Nat) t1 t2 ta tb, VOk (count + 2) x → (∀ b ob, s.heap.get? b = some ob → b ≠ a) → Fr g L h' m → News g L h' ((st, o') :: (a, tupOf [.int x.tag ta, x.pay tb]) :: μ) →
     o'.IsDictOf (PySem.strKind prog w) [(Str.ofString "nums", .ref num), (Str.ofString "next", .int ((n + 1 : Nat) : Int) t1), (Str.ofString "refs", .int (r' : Int) t2)] → Q (.ref a) { s with heap := h', toks := tk' }) :
   wpAny (model prog w) A (call (.ref 250) [.ref st, .int (count : Int) tc]) Q E s := by
  refine value_spec ⟨⟨_, _, Heap.dictOf_iff.mpr ⟨o, (N _ (.head _)).1, hd⟩⟩, hs2⟩ (hn _ (st_blk N hμ)) hb hr hc (Cb.at C F (st_g N) (st_L N) hd1 hu1) (fun h' tk' a x r' hx hr' M S hs' => ?_)
  with_reducible refine gen fun GG kGG => ?_
  obtain ⟨⟨t1, t2, hs1⟩, _⟩ := hs'
  obtain ⟨o', ho', hd'⟩ := Heap.dictOf_iff.mp hs1
  obtain ⟨hna, ta, tb, ha⟩ := M
  with_reducible refine kGG ?_
  clear kGG GG
  have hne : ∀ b ob, s.heap.get? b = some ob → b ≠ a := fun b ob e q => by rw [q, hna] at e; cases e
  have hN := news_new (h' := h') (ν := [(a, tupOf [.int x.tag ta, x.pay tb])]) F (fun p hp => by rw [List.mem_singleton.mp hp]; exact hna) (fun p hp => by rw [List.mem_singleton.mp hp]; exact ha)
  have N1 := News.st1 N S hμ ho'
  repeat ((((fail_if_success (with_reducible show wpAny _ _ _ _ _ _)); (refine (‹∀ (x : _) (y : Shared), _ → _›) _ _ ?_); (try dsimp only))))
  refine hQ h' tk' a x o' r' t1 t2 ta tb hx hne (Fr.st F S (st_L N) (st_g N)) (fun p hp => ?_) hd'
  refine all_cons ?_ (fun p hp => ?_) p hp
  · exact N1 _ (.head _)
  refine all_cons ?_ (fun p hp => ?_) p hp
  · repeat ((((fail_if_success (with_reducible show wpAny _ _ _ _ _ _)); (refine (‹∀ (x : _) (y : Shared), _ → _›) _ _ ?_); (try dsimp only))))
    exact hN _ (.head _)
  · exact N1 p (.tail _ hp)
theorem first_L {v : Int} {tv : Tok} (h0 : 0 ≤ v) (h1 : v < 5040) (C : Cb w mg mb A g L d u) (F : Fr g L s.heap m) (N : News g L s.heap ((st, o) :: μ)) (hd1 : 2 ≤ d) (hu1 : 6 ≤ u)
   (hQ : ∀ h' tk' a q rw ν, Fr g L h' m → News g L h' ((st, o) :: (ν ++ μ)) → (∀ b ob, s.heap.get? b = some ob → ∀ p ∈ ν, b ≠ p.1) → (∀ H, Blk H ν → RowAt prog w H a q rw) → rw.sort = 0 → rw.up = -1 → rw.items = [] → (∀ p ∈ rw.own, VOk 0 p.2 ∧ p.1 ∈ words) → Q (.ref a) { s with heap := h', toks := tk' }) :
   wpAny (model prog w) A (call (.ref 264) [.int v tv]) Q E s := by
  refine first_spec h0 h1 (Cb.at0 C F hd1 hu1) (fun h' tk' a q rw ν S R e1 e2 e3 e4 => ?_)
  have N1 := News.st0 N S
  have N2 := news_new F R.1 R.2.1
  repeat ((((fail_if_success (with_reducible show wpAny _ _ _ _ _ _)); (refine (‹∀ (x : _) (y : Shared), _ → _›) _ _ ?_); (try dsimp only))))
  refine hQ h' tk' a q rw ν (Fr.st0 F S) (fun p hp => ?_) (fun b ob e p hp z => ?_) R.2.2 e1 e2 e3 e4
  · refine all_cons ?_ (fun p hp => ?_) p hp
    · exact N1 _ (.head _)
    refine all_app (fun p hp => ?_) (fun p hp => ?_) p hp
    · exact N2 p hp
    · exact N1 p (.tail _ hp)
  · have := R.1 p hp
    rw [← z, e] at this; cases this
theorem drawn_L {count k : Nat} {tc tk0 : Tok} (C : Cb w mg mb A g L d u) (F : Fr g L s.heap m) (N : News g L s.heap ((st, o) :: μ)) (hμ : ∀ p ∈ μ, p.1 ≠ st)
   (hd : o.IsDictOf (PySem.strKind prog w) [(Str.ofString "nums", .ref num), (Str.ofString "next", .int (n : Int) t1), (Str.ofString "refs", .int (r : Int) t2)]) (hs2 : (st == sysModules) = false)
   (hn : ∀ H, Blk H μ → NumsAt H num us ms) (hb : n ≤ 900) (hr : r ≤ 1000) (hc : count ≤ 10) (hk1 : 1 ≤ k) (hk2 : k ≤ count) (hd1 : 4 ≤ d) (hu1 : 12 ≤ u)
   (hQ : ∀ h' tk' a q rw ν n' r' o' t1 t2, Fr g L h' m → News g L h' ((st, o') :: (ν ++ μ)) → (∀ b ob, s.heap.get? b = some ob → ∀ p ∈ ν, b ≠ p.1) → (∀ H, Blk H ν → RowAt prog w H a q rw) →
     o'.IsDictOf (PySem.strKind prog w) [(Str.ofString "nums", .ref num), (Str.ofString "next", .int ((n' : Nat) : Int) t1), (Str.ofString "refs", .int ((r' : Nat) : Int) t2)] → n' ≤ n + 6 → r' ≤ r →
     (rw.sort = 0 ∨ rw.sort = 1 ∨ rw.sort = 2 ∨ rw.sort = 3) → -1 ≤ rw.up → rw.up < k → rw.items.length ≤ 3 → (∀ y ∈ rw.items, VOk (count + 2) y) → (∀ p ∈ rw.own, VOk (count + 2) p.2 ∧ p.1 ∈ words) → (rw.sort = 1 → rw.own = []) → Q (.ref a) { s with heap := h', toks := tk' }) :
   wpAny (model prog w) A (call (.ref 269) [.ref st, .int (k : Int) tk0, .int (count : Int) tc]) Q E s := by
  refine drawn_spec ⟨⟨_, _, Heap.dictOf_iff.mpr ⟨o, (N _ (.head _)).1, hd⟩⟩, hs2⟩ (hn _ (st_blk N hμ)) hb hr hc hk1 hk2 (Cb.at C F (st_g N) (st_L N) hd1 hu1) (fun h' tk' a q rw ν n' r' S hs' hn' hr' R e1 e2 e3 e4 e5 e6 e7 => ?_)
  with_reducible refine gen fun GG kGG => ?_
  obtain ⟨⟨t1, t2, hs1⟩, _⟩ := hs'
  obtain ⟨o', ho', hd'⟩ := Heap.dictOf_iff.mp hs1
  with_reducible refine kGG ?_
  clear kGG GG
  have N1 := News.st1 N S hμ ho'
  have N2 := news_new F R.1 R.2.1
  repeat ((((fail_if_success (with_reducible show wpAny _ _ _ _ _ _)); (refine (‹∀ (x : _) (y : Shared), _ → _›) _ _ ?_); (try dsimp only))))
  refine hQ h' tk' a q rw ν n' r' o' t1 t2 (Fr.st F S (st_L N) (st_g N)) (fun p hp => ?_) (fun b ob e p hp z => ?_) R.2.2 hd' hn' hr' e1 e2 e3 e4 e5 e6 e7
  · refine all_cons ?_ (fun p hp => ?_) p hp
    · exact N1 _ (.head _)
    refine all_app (fun p hp => ?_) (fun p hp => ?_) p hp
    · exact N2 p hp
    · exact N1 p (.tail _ hp)
  · have := R.1 p hp
    rw [← z, e] at this; cases this
theorem nest_L {v : Int} {start : Nat} {ta tb : Tok} (h0 : 0 ≤ v) (h1 : v < 5040) (hst : start ≤ 50) (C : Cb w mg mb A g L d u) (F : Fr g L s.heap m) (N : News g L s.heap μ) (hd1 : 3 ≤ d) (hu1 : 9 ≤ u)
   (hQ : ∀ h' tk' lr xs qs rs ν, Fr g L h' m → News g L h' (ν ++ μ) → (∀ b ob, s.heap.get? b = some ob → ∀ p ∈ ν, b ≠ p.1) → (∀ b ob, s.heap.get? b = some ob → b ≠ lr) → (∀ p ∈ ν, p.1 ≠ lr) → h'.IsList lr (xs.map Value.ref).toArray → (∀ H, Blk H ν → RowsL prog w H xs qs rs) → rs.length = 16 → (∀ r ∈ rs, NestRow start r) → Q (.ref lr) { s with heap := h', toks := tk' }) :
   wpAny (model prog w) A (call (.ref 283) [.int v ta, .int (start : Int) tb]) Q E s := by
  refine nest_spec h0 h1 hst (Cb.at0 C F hd1 hu1) (fun h' tk' lr xs qs rs ν S hn hb hl hln hne hR e1 e2 => ?_)
  repeat ((((fail_if_success (with_reducible show wpAny _ _ _ _ _ _)); (refine (‹∀ (x : _) (y : Shared), _ → _›) _ _ ?_); (try dsimp only))))
  refine hQ h' tk' lr xs qs rs ν (Fr.st0 F S) (News.append (news_new F hn hb) (News.st0 N S)) (fun b ob e p hp z => ?_) (fun b ob e z => ?_) hne hl hR e1 e2
  · have := hn p hp
    rw [← z, e] at this; cases this
  · rw [z, hln] at e; cases e
end
section
variable {prog : Program} {w : World} {mg mb : Str → Option Value} {A : Around} {s : Shared} {Q E : Value → Shared → Prop}
theorem heap_init_spec {x dx : Addr} {R : Result → Shared → Prop} (C0 : Cx w mg mb A s.heap [x, dx] 1 3) (hx : s.heap.get? x = some (instObj 113 dx)) (hdx : s.heap.get? dx = some (dictOf [] 0)) (hne : @LT.lt Nat _ dx x)
   (hR : ∀ h' tk' tl es n, getL (Str.ofString "things") es = some (some (.ref tl)) → Stays [x, dx] s.heap h' → Blk h' [(tl, listOf #[] 0), (x, instObj 113 dx), (dx, dictOf es n)] → s.heap.get? tl = none → R (.ok (.ret .none)) { s with heap := h', toks := tk' }) :
   codeAny (model prog w) A (.call (.ref 110) ⟨[.ref x], []⟩) R s := by
  refine code_rule (d := 0) (u := 0) (binds := [(Str.ofString "self", .ref x)]) C0 (by k_is) (by k_is) (BindsTo.of_eq rfl) (locs rfl) (fun L h₁ tk F hk' C => ?_) (by decide)
  with_reducible refine hideQ fun KK hKK => ?_
  have X := C.X
  have T := C.T
  have N : News (hideAll s.heap [x, dx]) L h₁ [(x, instObj 113 dx), (dx, dictOf [] 0)] := fun p hp => by
    refine all_cons ?_ (fun p hp => ?_) p hp
    · exact ⟨(hk' _ _ hx).1, (hk' _ _ hx).2, hideAll_none _ (.head _)⟩
    · rw [List.mem_singleton.mp hp]; exact ⟨(hk' _ _ hdx).1, (hk' _ _ hdx).2, hideAll_none _ (.tail _ (.head _))⟩
  clear hk' hx hdx
  (((repeat' ((fail_if_success ((with_reducible (first | (show wpAny _ _ (exec (Stmt.While _ _ _ _) _) _ _ _) | (show wpAny _ _ (exec (Stmt.For _ _ _ _ _) _) _ _ _) | (show wpAny _ _ (eval (PySem.Expr.ListComp _ _ _ _) _) _ _ _) | (show wpAny _ _ (exec (Stmt.Try _ _ _ _ _) _) _ _ _))))); (first | walk1 | (dsimp only; walk1) | (k_unfold; (try dsimp only)) | (refine hKS _ _ ?_; clear hKS KS; (try dsimp only))))); (all_goals (try dsimp only)); (all_goals (repeat ((((fail_if_success (with_reducible show wpAny _ _ _ _ _ _)); (refine (‹∀ (x : _) (y : Shared), _ → _›) _ _ ?_); (try dsimp only))))))))
  rename Fr _ _ _ _ => F
  rename News _ _ _ _ => N
  rename_i tl _ c1 _ nt _ on _ _ _ _ _ _ hh
  refine hR hh _ tl _ _ rfl (Fr.out F) (fun p hp => (N p (.tail _ hp)).1) (new_of N (.tail _ (.head _)) fun q => ?_)
  rcases List.mem_cons.mp q with q | q
  · exact Nat.ne_of_gt c1.1 q
  · exact Nat.ne_of_gt c1.2 (List.mem_singleton.mp q)
theorem heap_L {g : Heap} {L : Addr} {m : Str → Option Value} {μ : List (Addr × Obj)} {d u : Nat} {pos : List Value} (hpos : pos = []) (C : Cb w mg mb A g L d u) (hd2 : 3 ≤ d) (hu2 : 6 ≤ u) (F : Fr g L s.heap m) (N : News g L s.heap μ)
   (hQ : ∀ h' tk' x dx tl es n, getL (Str.ofString "things") es = some (some (.ref tl)) → Fr g L h' m → News g L h' ((tl, listOf #[] 0) :: (x, instObj 113 dx) :: (dx, dictOf es n) :: μ) → (∀ p ∈ μ, p.1 ≠ tl ∧ p.1 ≠ x ∧ p.1 ≠ dx) → x ≠ tl → dx ≠ tl → Q (.ref x) { s with heap := h', toks := tk' }) :
   wpAny (model prog w) A (call (.ref 113) pos) Q E s := by
  subst hpos
  have X := C.X
  refine call_cls F X N (by k_is) (by k_is) (by k_is) (fun x dx h' F' N' l1 l2 => ?_)
  have hgb : ∀ a ∈ [x, dx], g.get? a = none := fun a q => by
    rcases List.mem_cons.mp q with rfl | q
    · exact (N' _ (.head _)).2.2
    · rw [List.mem_singleton.mp q]; exact (N' _ (.tail _ (.head _))).2.2
  have hLb : L ∉ [x, dx] := fun q => by
    rcases List.mem_cons.mp q with q | q
    · exact (N' _ (.head _)).2.1 q.symm
    · exact (N' _ (.tail _ (.head _))).2.1 (List.mem_singleton.mp q).symm
  have hμx : ∀ p ∈ μ, p.1 ∉ [x, dx] := fun p hp q => by
    have h3 : p.1 ≠ dx := Nat.ne_of_lt (l1 p hp)
    have h4 : p.1 ≠ x := Nat.ne_of_lt (Nat.lt_trans (l1 p hp) l2)
    rcases List.mem_cons.mp q with q | q
    · exact h4 q
    · exact h3 (List.mem_singleton.mp q)
  refine heap_init_spec (Cb.at (Cb.make (Cb.weaken C (d' := 1 + 1) (u' := 3 + 1) (by first | exact Nat.le_of_ble_eq_true rfl | assumption | (first | lia | omega)) (by first | exact Nat.le_of_ble_eq_true rfl | assumption | (first | lia | omega)))) F' hgb hLb (Nat.le_refl _) (Nat.le_refl _)) (N' _ (.head _)).1 (N' _ (.tail _ (.head _))).1 l2 (fun h'' tk'' tl es n hg S B hn => ?_)
  refine ⟨rfl, ?_⟩
  have F2 := Fr.st F' S hLb hgb
  have htl := news_new (h' := h'') (ν := [(tl, listOf #[] 0)]) F' (fun p hp => by rw [List.mem_singleton.mp hp]; exact hn) (fun p hp => by rw [List.mem_singleton.mp hp]; exact B _ (.head _))
  repeat ((((fail_if_success (with_reducible show wpAny _ _ _ _ _ _)); (refine (‹∀ (x : _) (y : Shared), _ → _›) _ _ ?_); (try dsimp only))))
  refine hQ h'' tk'' x dx tl es n hg F2 (fun p hp => ?_) (fun p hp => ⟨fun q => ?_, fun q => hμx p hp (by rw [q]; exact .head _), fun q => hμx p hp (by rw [q]; exact .tail _ (.head _))⟩) (fun q => ?_) (fun q => ?_)
  · refine all_cons ?_ (fun p hp => ?_) p hp
    · exact htl _ (.head _)
    refine all_cons ?_ (fun p hp => ?_) p hp
    · exact ⟨B _ (.tail _ (.head _)), (N' _ (.head _)).2⟩
    refine all_cons ?_ (fun p hp => ?_) p hp
    · exact ⟨B _ (.tail _ (.tail _ (.head _))), (N' _ (.tail _ (.head _))).2⟩
    · have z := N' p (.tail _ (.tail _ hp))
      exact ⟨S _ _ (hμx p hp) z.1, z.2⟩
  · have := (N' p (.tail _ (.tail _ hp))).1
    rw [q, hn] at this; cases this
  · have := (N' _ (.head _)).1
    rw [q, hn] at this; cases this
  · have := (N' _ (.tail _ (.head _))).1
    rw [q, hn] at this; cases this
end
section
variable {prog : Program} {w : World} {mg mb : Str → Option Value} {A : Around} {s : Shared} {Q E : Value → Shared → Prop}
theorem laid_L {g : Heap} {L hp dh tl ra : Addr} {eh : List DictEntry} {nh d u nr : Nat} {m : Str → Option Value} {μ : List (Addr × Obj)} {arr : Array Value} {ys : List Addr} {qs : List Raw} {rs : List Rw} (C : Cb w mg mb A g L d u) (hd6 : 6 ≤ d) (hu6 : 18 ≤ u) (F : Fr g L s.heap m) (N : News g L s.heap ((tl, listOf #[] 0) :: μ)) (hμ : ∀ p ∈ μ, p.1 ≠ tl)
   (h1 : (hp, instObj 113 dh) ∈ μ) (h2 : (dh, dictOf eh nh) ∈ μ) (h3 : getL (Str.ofString "things") eh = some (some (.ref tl))) (hr : (ra, listOf arr nr) ∈ μ) (har : arr.toList = ys.map Value.ref) (hR : ∀ H, Blk H μ → RowsL prog w H ys qs rs)
   (hlen : rs.length ≤ 100) (hits : ∀ r ∈ rs, r.items.length ≤ 1000) (hown : ∀ r ∈ rs, r.sort = 1 → r.own = []) (hol : ∀ r ∈ rs, r.own.length ≤ 900)
   (hQ : ∀ h' tk' (xs : List Addr) nl ν, Fr g L h' m → News g L h' ((tl, listOf (xs.map Value.ref).toArray nl) :: (ν ++ μ)) → (∀ b ob, s.heap.get? b = some ob → ∀ p ∈ ν, b ≠ p.1) → xs.length = rs.length →
     (∀ H, RowsL prog w H ys qs rs → Blk H ν → ∀ (k : Nat) (x : Addr) (q : Raw) (r : Rw), xs[k]? = some x → qs[k]? = some q → rs[k]? = some r → ThingAt prog w H x k q r) → Q .none { s with heap := h', toks := tk' }) :
   wpAny (model prog w) A (call (.ref 290) [.ref hp, .ref ra]) Q E s := by
  have hgb : ∀ a ∈ [tl], g.get? a = none := fun a q => by rw [List.mem_singleton.mp q]; exact (N _ (.head _)).2.2
  have hLb : L ∉ [tl] := fun q => (N _ (.head _)).2.1 (List.mem_singleton.mp q).symm
  have B : Blk (hideAll s.heap [tl]) μ := fun p hp => hideAll_get _ (N p (.tail _ hp)).1 fun q => hμ p hp (List.mem_singleton.mp q)
  have e : arr = (ys.map Value.ref).toArray := by rw [← har]
  refine laid_spec (B _ h1) (B _ h2) h3 (N _ (.head _)).1 ⟨_, B _ hr, rfl, _, by rw [e]⟩ (hR _ B) hlen hits hown hol (Cb.at C F hgb hLb hd6 hu6) (fun h' tk' xs nl ν S ht hxl hn hb hT => ?_)
  have N2 := news_new F hn hb
  repeat ((((fail_if_success (with_reducible show wpAny _ _ _ _ _ _)); (refine (‹∀ (x : _) (y : Shared), _ → _›) _ _ ?_); (try dsimp only))))
  refine hQ h' tk' xs nl ν (Fr.st F S hLb hgb) (fun p hp => ?_) (fun b ob e p hp z => ?_) hxl hT
  · refine all_cons ?_ (fun p hp => ?_) p hp
    · exact ⟨ht, (N _ (.head _)).2⟩
    refine all_app (fun p hp => ?_) (fun p hp => ?_) p hp
    · exact N2 p hp
    · have z := N p (.tail _ hp)
      exact ⟨S _ _ (fun q => hμ p hp (List.mem_singleton.mp q)) z.1, z.2⟩
  · have := hn p hp
    rw [← z, e] at this; cases this
end
section
variable {prog : Program} {w : World} {mg mb : Str → Option Value} {A : Around} {s : Shared} {Q E : Value → Shared → Prop} {g : Heap} {L a wd ra hp bg : Addr} {name : Str} {scope : Scope} {cd : Value} {m : Str → Option Value} {μ : List (Addr × Obj)} {ow : Obj} {z d u : Nat} {tf : Tok} {rows : List Rw} {qs qs' : List Raw} {v : Value} {vs : List Value} {ns : List Int} {sep : Str} {t1 t2 : Tok}
theorem fl_one (b : Addr) (h : b ∈ fl [envOf name scope L a cd]) : b = L := by
  with_reducible refine gen fun GG kGG => ?_
  obtain ⟨x, hx, hy⟩ := List.mem_filterMap.mp h
  with_reducible refine kGG ?_
  clear kGG GG
  rw [List.mem_singleton.mp hx] at hy
  exact (Option.some.inj hy).symm
theorem ag_hide (F : Fr g L s.heap m) (N : News g L s.heap ((wd, ow) :: μ)) : g.StaysIn (hideAll s.heap (wd :: fl [envOf name scope L a cd])) := under_hide F fun b q => by
  rcases List.mem_cons.mp q with rfl | q
  · exact (N _ (.head _)).2.2
  · rw [fl_one b q]; exact fr_none F
theorem ag_off (N : News g L s.heap ((wd, ow) :: μ)) : wd ∉ fl [envOf name scope L a cd] := fun q => (N _ (.head _)).2.1 (fl_one wd q)
theorem ag_after {h' : Heap} {z' : Nat} (F : Fr g L s.heap m) (N : News g L s.heap ((wd, ow) :: μ)) (hμ : ∀ p ∈ μ, p.1 ≠ wd) (P : AgPost [envOf name scope L a cd] wd s.heap h') (hw : WAt prog w h' wd ra z') :
    ∃ ow' t', Fr g L h' m ∧ News g L h' ((wd, ow') :: μ) ∧ ow'.IsDictOf (PySem.strKind prog w) [(Str.ofString "rows", .ref ra), (Str.ofString "far", .int (z' : Int) t')] := by
  with_reducible refine gen fun GG kGG => ?_
  obtain ⟨⟨t', hw1⟩, _⟩ := hw
  obtain ⟨ow', ho', hd'⟩ := Heap.dictOf_iff.mp hw1
  with_reducible refine kGG ?_
  clear kGG GG
  have hwd := N _ (.head _)
  refine ⟨ow', t', ⟨?_, fun b o e => P.1 b o (fun q => ?_) (F.keep _ _ e), F.above⟩, fun p hp => ?_, hd'⟩
  · obtain ⟨oL, es, ep, hL, hLd, r⟩ := F.ns
    obtain ⟨sl, e⟩ := P.2 L (List.mem_filterMap.mpr ⟨_, .head _, rfl⟩) hwd.2.1.symm oL hL fun vs q => by rw [hLd] at q; cases q
    exact ⟨_, es, ep, e, hLd, r⟩
  · rcases List.mem_cons.mp q with rfl | q
    · rw [hwd.2.2] at e; cases e
    · rw [fl_one b q, fr_none F] at e; cases e
  · refine all_cons ?_ (fun p hp => ?_) p hp
    · exact ⟨ho', hwd.2⟩
    · have y := N p (.tail _ hp)
      refine ⟨P.1 _ _ (fun q => ?_) y.1, y.2⟩
      rcases List.mem_cons.mp q with q | q
      · exact hμ p hp q
      · exact y.2.1 (fl_one _ q)
theorem ag_blk (N : News g L s.heap ((wd, ow) :: μ)) (hμ : ∀ p ∈ μ, p.1 ≠ wd) : Blk (hideAll s.heap [wd]) μ := fun p hp => hideAll_get _ (N p (.tail _ hp)).1 fun q => hμ p hp (List.mem_singleton.mp q)
variable (C : Cb w mg mb (A.deeper (envOf name scope L a cd)) g L d u) (hd3 : 300 ≤ d) (hu3 : 1000 ≤ u) (hA : A.frames = some []) (F : Fr g L s.heap m) (N : News g L s.heap ((wd, ow) :: μ)) (hμ : ∀ p ∈ μ, p.1 ≠ wd)
  (hd : ow.IsDictOf (PySem.strKind prog w) [(Str.ofString "rows", .ref ra), (Str.ofString "far", .int (z : Int) tf)]) (hw2 : (wd == sysModules) = false) (W : WFR rows) (B : Bd rows)
  (hT : ∀ H, Blk H μ → ThingsAt prog w H hp qs rows) (hR : ∀ H, Blk H μ → RowsAt prog w H ra qs' rows) (hbg : ∀ H : Heap, Blk H μ → H.IsList bg vs.toArray) (hi : IntsAre vs ns) (hl : ns.length ≤ 40)
include C hd3 hu3 hA F N hμ hd hw2 W B hT hR hbg hi hl
theorem agrees_L1 {x : Vl} (hv : ∀ H, Blk H μ → ValAt H v x) (hok : VOk rows.length x)
  (hQ : ∀ h' tk' z' ow' t', Fr g L h' m → News g L h' ((wd, ow') :: μ) → ow'.IsDictOf (PySem.strKind prog w) [(Str.ofString "rows", .ref ra), (Str.ofString "far", .int ((z' : Nat) : Int) t')] → Q (.bool true) { s with heap := h', toks := tk' }) :
  wpAny (model prog w) (A.deeper (envOf name scope L a cd)) (call (.ref 323) [.ref hp, .ref wd, .int 1 t1, v, .str sep t2, .ref bg]) Q E s := by
  have b := ag_blk N hμ
  have up := ag_hide (a := a) (name := name) (scope := scope) (cd := cd) F N
  refine agrees_1 W B (Around.frames_deeper hA) (C.X.keeps up) (C.T.keeps up) (ag_off N) (hT _ b) (hR _ b) ⟨⟨_, Heap.dictOf_iff.mpr ⟨ow, (N _ (.head _)).1, hd⟩⟩, hw2⟩ (hv _ b) hok (hbg _ b) hi hl (Cb.at C F (st_g N) (st_L N) hd3 hu3) (fun h' tk' z' P hw => ?_)
  with_reducible refine gen fun GG kGG => ?_
  obtain ⟨ow', t', F', N', hd'⟩ := ag_after F N hμ P hw
  with_reducible refine kGG ?_
  clear kGG GG
  repeat ((((fail_if_success (with_reducible show wpAny _ _ _ _ _ _)); (refine (‹∀ (x : _) (y : Shared), _ → _›) _ _ ?_); (try dsimp only))))
  exact hQ h' tk' z' ow' t' F' N' hd'
theorem agrees_L0 {x : Vl} (hns : ns = []) (hv : ∀ H, Blk H μ → ValAt H v x) (hok : VOk rows.length x)
  (hQ : ∀ h' tk' z' ow' t', Fr g L h' m → News g L h' ((wd, ow') :: μ) → ow'.IsDictOf (PySem.strKind prog w) [(Str.ofString "rows", .ref ra), (Str.ofString "far", .int ((z' : Nat) : Int) t')] → Q (.bool true) { s with heap := h', toks := tk' }) :
  wpAny (model prog w) (A.deeper (envOf name scope L a cd)) (call (.ref 323) [.ref hp, .ref wd, .int 0 t1, v, .str sep t2, .ref bg]) Q E s := by
  have b := ag_blk N hμ
  have up := ag_hide (a := a) (name := name) (scope := scope) (cd := cd) F N
  refine agrees_0 W B (Around.frames_deeper hA) (C.X.keeps up) (C.T.keeps up) (ag_off N) (hT _ b) (hR _ b) ⟨⟨_, Heap.dictOf_iff.mpr ⟨ow, (N _ (.head _)).1, hd⟩⟩, hw2⟩ (hv _ b) hok (hbg _ b) hi hl hns (Cb.at C F (st_g N) (st_L N) hd3 hu3) (fun h' tk' z' P hw => ?_)
  with_reducible refine gen fun GG kGG => ?_
  obtain ⟨ow', t', F', N', hd'⟩ := ag_after F N hμ P hw
  with_reducible refine kGG ?_
  clear kGG GG
  repeat ((((fail_if_success (with_reducible show wpAny _ _ _ _ _ _)); (refine (‹∀ (x : _) (y : Shared), _ → _›) _ _ ?_); (try dsimp only))))
  exact hQ h' tk' z' ow' t' F' N' hd'
theorem agrees_L2 {k : Nat} {r : Rw} (hv : ∀ H, Blk H μ → ValAt H v (.obj k)) (hk : k < rows.length) (hr : rows[k]? = some r) (hsort : r.sort = 1) (hsep : sep.length ≤ 2)
  (hQ : ∀ h' tk' z' ow' t', Fr g L h' m → News g L h' ((wd, ow') :: μ) → ow'.IsDictOf (PySem.strKind prog w) [(Str.ofString "rows", .ref ra), (Str.ofString "far", .int ((z' : Nat) : Int) t')] → Q (.bool true) { s with heap := h', toks := tk' }) :
  wpAny (model prog w) (A.deeper (envOf name scope L a cd)) (call (.ref 323) [.ref hp, .ref wd, .int 2 t1, v, .str sep t2, .ref bg]) Q E s := by
  have b := ag_blk N hμ
  have up := ag_hide (a := a) (name := name) (scope := scope) (cd := cd) F N
  refine agrees_2 W B (Around.frames_deeper hA) (C.X.keeps up) (C.T.keeps up) (ag_off N) (hT _ b) (hR _ b) ⟨⟨_, Heap.dictOf_iff.mpr ⟨ow, (N _ (.head _)).1, hd⟩⟩, hw2⟩ (hv _ b) hk hr hsort hsep (hbg _ b) hi hl (Cb.at C F (st_g N) (st_L N) hd3 hu3) (fun h' tk' z' P hw => ?_)
  with_reducible refine gen fun GG kGG => ?_
  obtain ⟨ow', t', F', N', hd'⟩ := ag_after F N hμ P hw
  with_reducible refine kGG ?_
  clear kGG GG
  repeat ((((fail_if_success (with_reducible show wpAny _ _ _ _ _ _)); (refine (‹∀ (x : _) (y : Shared), _ → _›) _ _ ?_); (try dsimp only))))
  exact hQ h' tk' z' ow' t' F' N' hd'
end
noncomputable def DRow (count k : Nat) (r : Rw) : Prop := (r.sort = 0 ∨ r.sort = 1 ∨ r.sort = 2 ∨ r.sort = 3) ∧ -1 ≤ r.up ∧ r.up < (k : Int) ∧ r.items.length ≤ 5 ∧ (∀ y ∈ r.items, VOk count y) ∧ (∀ p ∈ r.own, VOk count p.2 ∧ p.1 ∈ words) ∧ (r.sort = 1 → r.own = [])
noncomputable def row5 (o : Nat) : Rw := ⟨1, 0, [.obj 1, .obj o, .obj 2, .obj 1, .obj 2], []⟩
structure LawRows (cnt : Nat) (rs rn RS : List Rw) (oth : Nat) : Prop where
  is : RS = rs ++ [row5 oth] ++ rn
  c3 : 3 ≤ cnt
  c5 : cnt ≤ 5
  len : rs.length = cnt + 1
  dr : ∀ k r, rs[k]? = some r → DRow (cnt + 2) k r
  zero : ∀ r, rs[0]? = some r → r.sort = 0 ∧ ∀ p ∈ r.own, VOk 0 p.2
  o1 : oth ≤ cnt
  nlen : rn.length = 16
  nest : ∀ r ∈ rn, NestRow (cnt + 2) r
theorem LawRows.length {cnt rs rn RS oth} (h : LawRows cnt rs rn RS oth) : RS.length = cnt + 18 := by
  rw [h.is, List.length_append, List.length_append, h.len, h.nlen]; rfl
theorem row5_d {cnt oth : Nat} (h3 : 3 ≤ cnt) (ho : oth ≤ cnt) : DRow (cnt + 2) (cnt + 1) (row5 oth) := by
  refine ⟨.inr (.inl rfl), by show (-1 : Int) ≤ 0; decide, by show (0 : Int) < _; (first | lia | omega), by show (5 : Nat) ≤ 5; decide, fun y hy => ?_, (fun p hp => nomatch hp), fun _ => rfl⟩
  simp only [row5, List.mem_cons, List.not_mem_nil, or_false] at hy
  rcases hy with rfl | rfl | rfl | rfl | rfl <;> show (_ : Nat) < cnt + 2 <;> (first | lia | omega)
theorem LawRows.mem {cnt rs rn RS oth} (h : LawRows cnt rs rn RS oth) {r : Rw} (hr : r ∈ RS) : (∃ k, k ≤ cnt + 1 ∧ DRow (cnt + 2) k r) ∨ NestRow (cnt + 2) r := by
  rw [h.is] at hr
  refine all_app (fun r hr => ?_) (fun r hr => ?_) r hr
  · refine all_app (fun r hr => ?_) (fun r hr => ?_) r hr
    · with_reducible refine gen fun GG kGG => ?_
      obtain ⟨k, hk⟩ := List.getElem?_of_mem hr
      with_reducible refine kGG ?_
      clear kGG GG
      have := (List.getElem?_eq_some_iff.mp hk).1
      exact .inl ⟨k, by have := h.len; (first | lia | omega), h.dr k r hk⟩
    · rw [List.mem_singleton.mp hr]; exact .inl ⟨cnt + 1, Nat.le_refl _, row5_d h.c3 h.o1⟩
  · exact .inr (h.nest r hr)
theorem NestRow.own1 {start : Nat} {r : Rw} (h : NestRow start r) : (r.sort = 1 → r.own = []) ∧ r.items.length ≤ 3 ∧ (∀ p ∈ r.own, p.1 ∈ words) := by
  rcases h with ⟨x, hl, _⟩ | ⟨_, _, h1, h2⟩
  · rcases hl with rfl | rfl | rfl | rfl | rfl | rfl
    · exact ⟨fun _ => rfl, by show 1 ≤ 3; decide, fun p hp => nomatch hp⟩
    · exact ⟨fun _ => rfl, by show 2 ≤ 3; decide, fun p hp => nomatch hp⟩
    · exact ⟨fun h => absurd (show (3 : Int) = 1 from h) (by decide), Nat.zero_le _, fun p hp => by rw [List.mem_singleton.mp hp]; exact .tail _ (.head _)⟩
    · exact ⟨fun h => absurd (show (3 : Int) = 1 from h) (by decide), Nat.zero_le _, fun p hp => by
        refine all_cons ?_ (fun p hp => ?_) p hp
        · exact .head _
        · rw [List.mem_singleton.mp hp]; exact .tail _ (.head _)⟩
    · exact ⟨fun _ => rfl, by show 3 ≤ 3; decide, fun p hp => nomatch hp⟩
    · exact ⟨fun h => absurd (show (3 : Int) = 1 from h) (by decide), Nat.zero_le _, fun p hp => by
        refine all_cons ?_ (fun p hp => ?_) p hp
        · exact .tail _ (.head _)
        · rw [List.mem_singleton.mp hp]; exact .head _⟩
  · exact ⟨fun _ => h2, by rw [h1]; exact Nat.zero_le _, fun p hp => by rw [h2] at hp; cases hp⟩
theorem LawRows.own1 {cnt rs rn RS oth} (h : LawRows cnt rs rn RS oth) {r : Rw} (hr : r ∈ RS) : (r.sort = 1 → r.own = []) ∧ r.items.length ≤ 5 ∧ (∀ p ∈ r.own, p.1 ∈ words) := by
  rcases h.mem hr with ⟨k, _, d⟩ | n
  · exact ⟨d.2.2.2.2.2.2, d.2.2.2.1, fun p hp => (d.2.2.2.2.2.1 p hp).2⟩
  · exact ⟨n.own1.1, Nat.le_trans n.own1.2.1 (by decide), n.own1.2.2⟩
theorem two_words : ∀ l : List Str, l.Nodup → (∀ x ∈ l, x ∈ words) → l.length ≤ 2
  | [], _, _ => Nat.zero_le _
  | [_], _, _ => by show 1 ≤ 2; decide
  | [_, _], _, _ => Nat.le_refl _
  | x :: y :: z :: t, hn, hw => by
    have hx := hw x (.head _)
    have hy := hw y (.tail _ (.head _))
    have hz := hw z (.tail _ (.tail _ (.head _)))
    simp only [words, List.mem_cons, List.not_mem_nil, or_false] at hx hy hz
    simp only [List.nodup_cons, List.mem_cons, not_or] at hn
    with_reducible refine gen fun GG kGG => ?_
    obtain ⟨⟨n1, n2, _⟩, ⟨n3, _⟩, _⟩ := hn
    with_reducible refine kGG ?_
    clear kGG GG
    rcases hx with rfl | rfl <;> rcases hy with rfl | rfl <;> rcases hz with rfl | rfl <;> first | exact absurd rfl n1 | exact absurd rfl n2 | exact absurd rfl n3
theorem own_len {prog : Program} {w : World} {h : Heap} {y : Addr} {q : Raw} {r : Rw} (H : RowAt prog w h y q r) (hw : ∀ p ∈ r.own, p.1 ∈ words) : r.own.length ≤ 2 := by
  with_reducible refine gen fun GG kGG => ?_
  obtain ⟨_, _, _, _, _, _, _, hd, _⟩ := H.ex
  obtain ⟨_, _, _, _, _, _, _, _, hn⟩ := hd
  with_reducible refine kGG ?_
  clear kGG GG
  have e := OwnAt.keys H.own
  rw [e] at hn
  have := two_words _ hn fun x hx => by
    with_reducible refine gen fun GG kGG => ?_
    obtain ⟨p, hp, rfl⟩ := List.mem_map.mp hx
    with_reducible refine kGG ?_
    clear kGG GG
    exact hw p hp
  rw [List.length_map] at this
  exact this
theorem LawRows.at5 {cnt rs rn RS oth} (h : LawRows cnt rs rn RS oth) : RS[cnt + 1]? = some (row5 oth) := by
  rw [h.is, List.append_assoc, List.getElem?_append_right (by rw [h.len]; exact Nat.le_refl _), h.len, Nat.sub_self]; rfl
theorem stored_refs {a b c v : Value} : stored [(Str.ofString "nums", a), (Str.ofString "next", b), (Str.ofString "refs", c)] (Str.ofString "refs") v = [(Str.ofString "nums", a), (Str.ofString "next", b), (Str.ofString "refs", v)] := by
  have h : ([(Str.ofString "nums", a), (Str.ofString "next", b), (Str.ofString "refs", c)] : List (Str × Value)).any (fun kv => decide (kv.1 = Str.ofString "refs")) = true := List.any_eq_true.mpr ⟨(Str.ofString "refs", c), .tail _ (.tail _ (.head _)), decide_eq_true rfl⟩
  unfold stored
  rw [if_pos h]
  simp only [List.map_cons, List.map_nil]
  rw [if_neg (by decide), if_neg (by decide)]
  rfl
theorem vok_le {n n' : Nat} {x : Vl} (h : VOk n x) (hn : n ≤ n') : VOk n' x := by
  cases x with
  | obj j => exact Nat.lt_of_lt_of_le h hn
  | num i => exact h
  | str x => exact h
  | _ => trivial
theorem nb_vok {start n : Nat} {x : Vl} (h : NB start x) (hn : start + 16 ≤ n) : VOk n x := by
  rcases h with ⟨j, rfl, h | ⟨h1, h2⟩⟩ | rfl | rfl
  · show j < n; (first | lia | omega)
  · show j < n; (first | lia | omega)
  · show (Str.ofString "z").length ≤ 9; decide
  · trivial
theorem link_vok {n : Nat} {x : Vl} {r : Rw} (h : LinkRow x r) (hx : VOk n x) : (∀ y ∈ r.items, VOk n y) ∧ (∀ p ∈ r.own, VOk n p.2) ∧ (r.sort = 1 ∨ r.sort = 3) ∧ (r.up = -1 ∨ r.up = 0) := by
  have ha : VOk n (.str (Str.ofString "a")) := show (Str.ofString "a").length ≤ 9 by decide
  have hm : VOk n (.str (Str.ofString "m")) := show (Str.ofString "m").length ≤ 9 by decide
  have he : VOk n (.str (Str.ofString "")) := show (Str.ofString "").length ≤ 9 by decide
  rcases h with rfl | rfl | rfl | rfl | rfl | rfl
  · exact ⟨fun y hy => by rw [List.mem_singleton.mp hy]; exact hx, (fun p hp => nomatch hp), .inl rfl, .inl rfl⟩
  · refine ⟨fun y hy => ?_, (fun p hp => nomatch hp), .inl rfl, .inr rfl⟩
    refine all_cons ?_ (fun y hy => ?_) y hy
    · exact ha
    · rw [List.mem_singleton.mp hy]; exact hx
  · exact ⟨(fun y hy => nomatch hy), fun p hp => by rw [List.mem_singleton.mp hp]; exact hx, .inr rfl, .inr rfl⟩
  · refine ⟨(fun y hy => nomatch hy), fun p hp => ?_, .inr rfl, .inl rfl⟩
    refine all_cons ?_ (fun p hp => ?_) p hp
    · exact hx
    · rw [List.mem_singleton.mp hp]; exact hm
  · refine ⟨fun y hy => ?_, (fun p hp => nomatch hp), .inl rfl, .inl rfl⟩
    refine all_cons ?_ (fun y hy => ?_) y hy
    · trivial
    refine all_cons ?_ (fun y hy => ?_) y hy
    · exact hx
    · rw [List.mem_singleton.mp hy]; trivial
  · refine ⟨(fun y hy => nomatch hy), fun p hp => ?_, .inr rfl, .inl rfl⟩
    refine all_cons ?_ (fun p hp => ?_) p hp
    · exact hx
    · rw [List.mem_singleton.mp hp]; exact he
/-- a place in the rows: low, or in the nest -/
theorem LawRows.place {cnt rs rn RS oth} (h : LawRows cnt rs rn RS oth) {k : Nat} {r : Rw} (hk : RS[k]? = some r) : (k ≤ cnt + 1 ∧ DRow (cnt + 2) k r) ∨ (cnt + 2 ≤ k ∧ NestRow (cnt + 2) r) := by
  rw [h.is, List.append_assoc] at hk
  by_cases h1 : k < rs.length
  · rw [List.getElem?_append_left h1] at hk
    exact .inl ⟨by have := h.len; (first | lia | omega), h.dr k r hk⟩
  · rw [List.getElem?_append_right (by first | exact Nat.le_of_ble_eq_true rfl | assumption | (first | lia | omega))] at hk
    cases hk0 : k - rs.length with
    | zero =>
      rw [hk0] at hk
      cases hk
      have : k = cnt + 1 := by have := h.len; (first | lia | omega)
      rw [this]
      exact .inl ⟨Nat.le_refl _, row5_d h.c3 h.o1⟩
    | succ j =>
      rw [hk0] at hk
      have hk : rn[j]? = some r := hk
      exact .inr ⟨by have := h.len; (first | lia | omega), h.nest r (List.mem_of_getElem? hk)⟩
theorem wfr_of {cnt rs rn RS oth} (h : LawRows cnt rs rn RS oth) : WFR RS where
  sort := fun k r hk => by
    rcases h.place hk with ⟨_, d⟩ | ⟨_, ⟨x, l, b⟩ | ⟨s, _⟩⟩
    · exact d.1
    · rcases (link_vok l (nb_vok b (Nat.le_refl _))).2.2.1 with e | e
      · exact .inr (.inl e)
      · exact .inr (.inr (.inr e))
    · rcases s with e | e
      · exact .inr (.inl e)
      · exact .inr (.inr (.inr e))
  up := fun k r hk => by
    rcases h.place hk with ⟨_, d⟩ | ⟨hk2, ⟨x, l, b⟩ | ⟨_, u, _⟩⟩
    · exact ⟨d.2.1, d.2.2.1⟩
    · rcases (link_vok l (nb_vok b (Nat.le_refl _))).2.2.2 with e | e <;> rw [e] <;> (first | lia | omega)
    · rw [u]; (first | lia | omega)
  item := fun k r v hk hv => by
    have hl := h.length
    rcases h.place hk with ⟨_, d⟩ | ⟨hk2, ⟨x, l, b⟩ | ⟨_, _, u, _⟩⟩
    · exact vok_le (d.2.2.2.2.1 v hv) (by first | exact Nat.le_of_ble_eq_true rfl | assumption | (first | lia | omega))
    · exact (link_vok l (nb_vok b (by first | exact Nat.le_of_ble_eq_true rfl | assumption | (first | lia | omega)))).1 v hv
    · rw [u] at hv; cases hv
  ownv := fun k r p hk hp => by
    have hl := h.length
    rcases h.place hk with ⟨_, d⟩ | ⟨hk2, ⟨x, l, b⟩ | ⟨_, _, _, u⟩⟩
    · exact vok_le (d.2.2.2.2.2.1 p hp).1 (by first | exact Nat.le_of_ble_eq_true rfl | assumption | (first | lia | omega))
    · exact (link_vok l (nb_vok b (by first | exact Nat.le_of_ble_eq_true rfl | assumption | (first | lia | omega)))).2.1 p hp
    · rw [u] at hp; cases hp
  len := by have := h.length; have := h.c5; (first | lia | omega)
  its := fun k r hk => Nat.le_trans (h.own1 (List.mem_of_getElem? hk)).2.1 (by decide)
noncomputable def fr (l : List Nat) (P : List Int) : Nat := l.countP fun k : Nat => decide ((k : Int) ∉ P)
theorem fr_lt {l : List Nat} {P : List Int} {k : Nat} (hk : k ∈ l) (h : (k : Int) ∉ P) : fr l (P ++ [(k : Int)]) < fr l P := by
  unfold fr
  have le : ∀ l : List Nat, l.countP (fun j : Nat => decide ((j : Int) ∉ P ++ [(k : Int)])) ≤ l.countP (fun j : Nat => decide ((j : Int) ∉ P)) := fun l =>
    List.countP_mono_left fun x _ hx => by
      have := of_decide_eq_true hx
      exact decide_eq_true fun q => this (List.mem_append_left _ q)
  induction l with
  | nil => cases hk
  | cons x r ih =>
    rw [List.countP_cons, List.countP_cons]
    have hle := le r
    by_cases hxk : x = k
    · subst hxk
      have e1 : decide ((x : Int) ∉ P ++ [(x : Int)]) = false := decide_eq_false (fun q => q (List.mem_append_right _ (List.mem_singleton.mpr rfl)))
      have e2 : decide ((x : Int) ∉ P) = true := decide_eq_true h
      rw [e1, e2]
      simp only [Bool.false_eq_true, if_false, if_true]
      (first | lia | omega)
    · have hr : k ∈ r := by
        rcases List.mem_cons.mp hk with e | e
        · exact absurd e.symm hxk
        · exact e
      have ih' := ih hr
      have e : decide ((x : Int) ∉ P ++ [(k : Int)]) = decide ((x : Int) ∉ P) := by
        apply decide_eq_decide.mpr
        constructor
        · intro q z; exact q (List.mem_append_left _ z)
        · intro q z
          rcases List.mem_append.mp z with z | z
          · exact q z
          · have := List.mem_singleton.mp z
            (first | lia | omega)
      rw [e]
      (first | lia | omega)
theorem fr_len (l : List Nat) (P : List Int) : fr l P ≤ l.length := List.countP_le_length
theorem len_app (a b : Str) : (a ++ b).length = a.length + b.length := Array.size_append
theorem join_len (sep : Str) : ∀ l : List Str, (Str.join sep l).length ≤ (l.map fun p => p.length + sep.length + 1).sum
  | [] => Nat.zero_le _
  | [x] => by show x.length ≤ _; simp; (first | lia | omega)
  | x :: y :: r => by
    have ih := join_len sep (y :: r)
    show (x ++ sep ++ Str.join sep (y :: r)).length ≤ _
    rw [len_app, len_app, List.map_cons, List.sum_cons]
    (first | lia | omega)
theorem err_len (n m : Str) : (err n m).length ≤ n.length + m.length + 2 := by
  unfold err
  split
  · (first | lia | omega)
  · split
    · (first | lia | omega)
    · rw [len_app, len_app]
      have : (Str.ofString ": ").length = 2 := by decide
      (first | lia | omega)
theorem sum_len {α : Type} {l : List α} {f : α → Nat} {b : Nat} (h : ∀ x ∈ l, f x ≤ b) : (l.map f).sum ≤ l.length * b := by
  induction l with
  | nil => exact Nat.zero_le _
  | cons x r ih =>
    rw [List.map_cons, List.sum_cons, List.length_cons, Nat.add_mul, Nat.one_mul]
    have := h x (.head _)
    have := ih fun y hy => h y (.tail _ hy)
    (first | lia | omega)
theorem num_len {i : Int} (h : -9 ≤ i ∧ i ≤ 9) : (Str.ofString (toString i)).length ≤ 15 := by
  have key : ∀ j : Nat, j ≤ 18 → (Str.ofString (toString ((j : Int) - 9))).length ≤ 15 := by decide +kernel
  have := key (i + 9).toNat (by first | exact Nat.le_of_ble_eq_true rfl | assumption | (first | lia | omega))
  rw [show (((i + 9).toNat : Nat) : Int) - 9 = i by (first | lia | omega)] at this
  exact this
theorem leaf_len {n : Nat} {x : Vl} (h : VOk n x) : (leaf x).length ≤ 15 := by
  cases x with
  | bool b => cases b <;> (show (Str.ofString _).length ≤ 15; decide)
  | num i => exact num_len h
  | str x => exact Nat.le_trans (show x.length ≤ 9 from h) (by decide)
  | _ => show (Str.ofString _).length ≤ 15; decide
theorem piece_len {t : Vl → Str} {v : Vl} {b : Nat} (h : (t v).length ≤ b) : (piece t v).length ≤ b := by
  unfold piece
  split
  · exact Nat.zero_le _
  · exact h
theorem told_len {d : Str} {t : Vl → Str} {v : Vl} {b : Nat} (hd : d.length ≤ b) (h : (t v).length ≤ b) : (told d t v).length ≤ b := by
  cases v <;> first | exact hd | exact h
noncomputable def TT : Nat → Nat
  | 0 => 15
  | m + 1 => 5 * TT m + 15
theorem TT_15 : ∀ m, 15 ≤ TT m
  | 0 => Nat.le_refl _
  | m + 1 => by show 15 ≤ 5 * TT m + 15; (first | lia | omega)
section
variable {cnt oth : Nat} {rs rn RS : List Rw} (h : LawRows cnt rs rn RS oth)
include h
theorem row0_sort {r : Rw} (hr : RS[0]? = some r) : r.sort = 0 ∧ ∀ p ∈ r.own, VOk 0 p.2 := by
  refine h.zero r ?_
  rw [h.is, List.append_assoc, List.getElem?_append_left (by rw [h.len]; (first | lia | omega))] at hr
  exact hr
theorem nearF_low {n : Str} : ∀ f (k : Int), k ≤ cnt + 1 → VOk (cnt + 2) (nearF RS n f k)
  | 0, _, _ => trivial
  | f + 1, k, hk => by
    unfold nearF
    split
    · trivial
    · rename_i hk0
      split
      · trivial
      · rename_i r hr
        rcases h.place hr with ⟨h1, d⟩ | ⟨h1, _⟩
        · split
          · rename_i v hv
            unfold own? at hv
            with_reducible refine gen fun GG kGG => ?_
            obtain ⟨p, hp, rfl⟩ := Option.map_eq_some_iff.mp hv
            with_reducible refine kGG ?_
            clear kGG GG
            exact (d.2.2.2.2.2.1 p (List.mem_of_find?_eq_some hp)).1
          · exact nearF_low f r.up (by have := d.2.2.1; (first | lia | omega))
        · (first | lia | omega)
theorem near_low {k : Nat} {n : Str} (hk : k ≤ cnt + 1) : VOk (cnt + 2) (near RS k n) := nearF_low h _ _ (by first | exact Nat.le_of_ble_eq_true rfl | assumption | (first | lia | omega))
end
noncomputable def lows (cnt : Nat) : List Nat := (List.range (cnt + 1)).map (· + 1)
theorem lows_mem {cnt k : Nat} (h1 : 1 ≤ k) (h2 : k ≤ cnt + 1) : k ∈ lows cnt := List.mem_map.mpr ⟨k - 1, List.mem_range.mpr (by first | exact Nat.le_of_ble_eq_true rfl | assumption | (first | lia | omega)), by (first | lia | omega)⟩
theorem lows_len {cnt : Nat} (P : List Int) : fr (lows cnt) P ≤ cnt + 1 := Nat.le_trans (fr_len _ _) (by simp [lows])
section
variable {cnt oth : Nat} {rs rn RS : List Rw} (h : LawRows cnt rs rn RS oth)
include h
theorem low_sum {f k m : Nat} {r : Rw} {P : List Int} {sep : Str} (ih : ∀ v, VOk (cnt + 2) v → (txt RS f v (P ++ [(k : Int)])).length ≤ TT m) (hs : sep.length ≤ 2) (d : DRow (cnt + 2) k r) :
    ((r.items.map (piece fun v => txt RS f v (P ++ [(k : Int)]))).map (fun p => p.length + sep.length + 1)).sum ≤ TT (m + 1) := by
  rw [List.map_map]
  refine Nat.le_trans (sum_len (b := TT m + 3) fun v hv => ?_) ?_
  · have := piece_len (t := fun v => txt RS f v (P ++ [(k : Int)])) (ih v (d.2.2.2.2.1 v hv))
    show (piece _ v).length + sep.length + 1 ≤ _
    (first | lia | omega)
  · have h5 := d.2.2.2.1
    show _ ≤ 5 * TT m + 15
    calc r.items.length * (TT m + 3) ≤ 5 * (TT m + 3) := Nat.mul_le_mul_right _ h5
      _ = 5 * TT m + 15 := by (first | lia | omega)
theorem txt_low : ∀ f m v (P : List Int), VOk (cnt + 2) v → fr (lows cnt) P ≤ m → (txt RS f v P).length ≤ TT m
  | 0, _, _, _, _, _ => Nat.zero_le _
  | f + 1, m, v, P, hv, hm => by
    have h15 := TT_15 m
    cases v with
    | obj k =>
      have hk : k < cnt + 2 := hv
      show (thg (txt RS f) RS k P (Str.ofString ",")).length ≤ _
      unfold thg
      split
      · exact Nat.zero_le _
      · rename_i r hr
        split
        · exact Nat.le_trans (show (Str.ofString "[object Object]").length ≤ 15 by decide) h15
        · rename_i hs0
          split
          · exact Nat.le_trans (show (Str.ofString "function").length ≤ 15 by decide) h15
          · split
            · exact Nat.zero_le _
            · rename_i hP
              have hk1 : 1 ≤ k := by
                cases k with
                | zero => exact absurd (row0_sort h hr).1 hs0
                | succ k => exact Nat.le_add_left _ _
              have hlt := fr_lt (lows_mem (cnt := cnt) hk1 (by first | exact Nat.le_of_ble_eq_true rfl | assumption | (first | lia | omega))) hP
              cases m with
              | zero => (first | lia | omega)
              | succ m =>
                have ih : ∀ v, VOk (cnt + 2) v → (txt RS f v (P ++ [(k : Int)])).length ≤ TT m := fun v hv => txt_low f m v _ hv (by first | exact Nat.le_of_ble_eq_true rfl | assumption | (first | lia | omega))
                have d : DRow (cnt + 2) k r := by
                  rcases h.place hr with ⟨_, d⟩ | ⟨h1, _⟩
                  · exact d
                  · (first | lia | omega)
                have hm15 := TT_15 m
                split
                · exact Nat.le_trans (join_len _ _) (low_sum h ih (show (Str.ofString ",").length ≤ 2 by decide) d)
                · refine Nat.le_trans (err_len _ _) ?_
                  have e1 := told_len (d := Str.ofString "Error") (t := fun v => txt RS f v (P ++ [(k : Int)])) (Nat.le_trans (show (Str.ofString "Error").length ≤ 15 by decide) hm15) (ih _ (near_low h (n := Str.ofString "name") (k := k) (by first | exact Nat.le_of_ble_eq_true rfl | assumption | (first | lia | omega))))
                  have e2 := told_len (d := Str.ofString "") (t := fun v => txt RS f v (P ++ [(k : Int)])) (Nat.le_trans (show (Str.ofString "").length ≤ 15 by decide) hm15) (ih _ (near_low h (n := Str.ofString "message") (k := k) (by first | exact Nat.le_of_ble_eq_true rfl | assumption | (first | lia | omega))))
                  show _ ≤ 5 * TT m + 15
                  (first | lia | omega)
    | _ => exact Nat.le_trans (leaf_len hv) h15
theorem txt_low6 {f : Nat} {v : Vl} {P : List Int} (hv : VOk (cnt + 2) v) : (txt RS f v P).length ≤ TT 6 := txt_low h f 6 v P hv (Nat.le_trans (lows_len P) (by have := h.c5; (first | lia | omega)))
end
noncomputable def nests (cnt : Nat) : List Nat := (List.range 16).map (· + (cnt + 2))
theorem nests_mem {cnt k : Nat} (h1 : cnt + 2 ≤ k) (h2 : k < cnt + 18) : k ∈ nests cnt := List.mem_map.mpr ⟨k - (cnt + 2), List.mem_range.mpr (by first | exact Nat.le_of_ble_eq_true rfl | assumption | (first | lia | omega)), by (first | lia | omega)⟩
theorem nests_len {cnt : Nat} (P : List Int) : fr (nests cnt) P ≤ 16 := Nat.le_trans (fr_len _ _) (by simp [nests])
section
variable {cnt oth : Nat} {rs rn RS : List Rw} (h : LawRows cnt rs rn RS oth)
include h
theorem own_of {n : Str} {l : List (Str × Vl)} {v : Vl} (hv : own? l n = some v) : ∃ p ∈ l, p.2 = v := by
  unfold own? at hv
  with_reducible refine gen fun GG kGG => ?_
  obtain ⟨p, hp, rfl⟩ := Option.map_eq_some_iff.mp hv
  with_reducible refine kGG ?_
  clear kGG GG
  exact ⟨p, List.mem_of_find?_eq_some hp, rfl⟩
/-- what is near at row 0, or below all -/
theorem near_up0 {n : Str} {k : Int} (hk : k = -1 ∨ k = 0) : VOk 0 (nearI RS n k) := by
  have W := wfr_of h
  rcases hk with rfl | rfl
  · rw [nearI_neg (by decide)]; trivial
  · cases hr : RS[(0 : Int).toNat]? with
    | none => unfold nearI nearF; rw [if_neg (by decide), hr]; trivial
    | some r =>
      cases hv : own? r.own n with
      | some v =>
        rw [nearI_some (by decide) hr hv]
        with_reducible refine gen fun GG kGG => ?_
        obtain ⟨p, hp, rfl⟩ := own_of h hv
        with_reducible refine kGG ?_
        clear kGG GG
        exact (row0_sort h hr).2 p hp
      | none =>
        have := W.up _ r hr
        rw [nearI_up W (by decide) hr hv, nearI_neg (by have := this.2; simp at this; (first | lia | omega))]
        trivial
end
theorem own_hit {n : Str} {x : Vl} {l : List (Str × Vl)} : own? ((n, x) :: l) n = some x := by simp [own?]
theorem own_miss {m n : Str} {x : Vl} {l : List (Str × Vl)} (hne : m ≠ n) : own? ((m, x) :: l) n = own? l n := by simp [own?, hne]
noncomputable def UU (m : Nat) : Nat := 15 + 20 * m
noncomputable def NV (cnt : Nat) (x : Vl) : Prop := VOk 0 x ∨ x = .obj 0 ∨ ∃ j, x = .obj j ∧ cnt + 2 ≤ j ∧ j < cnt + 18
theorem nb_nv {cnt : Nat} {x : Vl} (h : NB (cnt + 2) x) : NV cnt x := by
  rcases h with ⟨j, rfl, rfl | ⟨h1, h2⟩⟩ | rfl | rfl
  · exact .inr (.inl rfl)
  · exact .inr (.inr ⟨j, rfl, h1, by (first | lia | omega)⟩)
  · exact .inl (show (Str.ofString "z").length ≤ 9 by decide)
  · exact .inl trivial
theorem txt_leaf {RS : List Rw} {x : Vl} (hx : VOk 0 x) (f : Nat) (P : List Int) : (txt RS f x P).length ≤ 15 := by
  cases f with
  | zero => exact Nat.zero_le _
  | succ f => cases x <;> first | exact absurd hx (Nat.not_lt_zero _) | exact leaf_len hx
section
variable {cnt oth : Nat} {rs rn RS : List Rw} (h : LawRows cnt rs rn RS oth)
include h
theorem near_own {k : Nat} {n : Str} {r : Rw} {v : Vl} (hr : RS[k]? = some r) (hv : own? r.own n = some v) : near RS k n = v := by
  rw [near_is]; exact nearI_some (Int.natCast_nonneg _) (by rw [Int.toNat_natCast]; exact hr) hv
theorem near_miss {k : Nat} {n : Str} {r : Rw} (hr : RS[k]? = some r) (hv : own? r.own n = none) (hu : r.up = -1 ∨ r.up = 0) : VOk 0 (near RS k n) := by
  rw [near_is, nearI_up (wfr_of h) (Int.natCast_nonneg _) (by rw [Int.toNat_natCast]; exact hr) hv]
  exact near_up0 h hu
theorem nest_err {k : Nat} {r : Rw} {x : Vl} (hr : RS[k]? = some r) (hl : LinkRow x r) (hs : r.sort ≠ 1) :
    (near RS k (Str.ofString "name") = x ∧ VOk 0 (near RS k (Str.ofString "message"))) ∨ (VOk 0 (near RS k (Str.ofString "name")) ∧ near RS k (Str.ofString "message") = x) := by
  have hmn : Str.ofString "message" ≠ Str.ofString "name" := by decide
  have hnm : Str.ofString "name" ≠ Str.ofString "message" := by decide
  rcases hl with rfl | rfl | rfl | rfl | rfl | rfl
  · exact absurd rfl hs
  · exact absurd rfl hs
  · exact .inr ⟨near_miss h hr ((own_miss hmn).trans rfl) (.inr rfl), near_own h hr own_hit⟩
  · refine .inl ⟨near_own h hr own_hit, ?_⟩
    rw [near_own h hr ((own_miss hnm).trans own_hit)]
    exact (show (Str.ofString "m").length ≤ 9 by decide)
  · exact absurd rfl hs
  · refine .inr ⟨?_, near_own h hr own_hit⟩
    rw [near_own h hr ((own_miss hmn).trans own_hit)]
    exact (show (Str.ofString "").length ≤ 9 by decide)
theorem nest_sum {f k m : Nat} {r : Rw} {P : List Int} {sep : Str} {x : Vl} (ih : (txt RS f x (P ++ [(k : Int)])).length ≤ UU m) (hs : sep.length ≤ 2) (hl : LinkRow x r) (h1 : r.sort = 1) :
    ((r.items.map (piece fun v => txt RS f v (P ++ [(k : Int)]))).map (fun p => p.length + sep.length + 1)).sum ≤ UU (m + 1) := by
  have e := piece_len (t := fun v => txt RS f v (P ++ [(k : Int)])) ih
  have ha := piece_len (t := fun v => txt RS f v (P ++ [(k : Int)])) (v := .str (Str.ofString "a")) (b := 1) (by
    cases f with
    | zero => exact Nat.zero_le _
    | succ f => show (Str.ofString "a").length ≤ 1; decide)
  have hn : (piece (fun v => txt RS f v (P ++ [(k : Int)])) .null).length = 0 := rfl
  have hu : (piece (fun v => txt RS f v (P ++ [(k : Int)])) .undef).length = 0 := rfl
  unfold UU at e ⊢
  rcases hl with rfl | rfl | rfl | rfl | rfl | rfl
  · simp only [List.map_cons, List.map_nil, List.sum_cons, List.sum_nil]; (first | lia | omega)
  · simp only [List.map_cons, List.map_nil, List.sum_cons, List.sum_nil]; (first | lia | omega)
  · exact absurd (show (3 : Int) = 1 from h1) (by decide)
  · exact absurd (show (3 : Int) = 1 from h1) (by decide)
  · simp only [List.map_cons, List.map_nil, List.sum_cons, List.sum_nil]; (first | lia | omega)
  · exact absurd (show (3 : Int) = 1 from h1) (by decide)
theorem txt_nest : ∀ f m v (P : List Int), NV cnt v → fr (nests cnt) P ≤ m → (txt RS f v P).length ≤ UU m
  | 0, _, _, _, _, _ => Nat.zero_le _
  | f + 1, m, v, P, hv, hm => by
    have h15 : 15 ≤ UU m := by unfold UU; (first | lia | omega)
    rcases hv with hv | rfl | ⟨k, rfl, h1, h2⟩
    · exact Nat.le_trans (txt_leaf hv _ _) h15
    · show (thg (txt RS f) RS 0 P (Str.ofString ",")).length ≤ _
      unfold thg
      split
      · exact Nat.zero_le _
      · rename_i r hr
        rw [if_pos (row0_sort h hr).1]
        exact Nat.le_trans (show (Str.ofString "[object Object]").length ≤ 15 by decide) h15
    · show (thg (txt RS f) RS k P (Str.ofString ",")).length ≤ _
      unfold thg
      split
      · exact Nat.zero_le _
      · rename_i r hr
        split
        · exact Nat.le_trans (show (Str.ofString "[object Object]").length ≤ 15 by decide) h15
        · split
          · exact Nat.le_trans (show (Str.ofString "function").length ≤ 15 by decide) h15
          · split
            · exact Nat.zero_le _
            · rename_i hP
              have hlt := fr_lt (nests_mem h1 h2) hP
              cases m with
              | zero => (first | lia | omega)
              | succ m =>
                have hN : NestRow (cnt + 2) r := by
                  rcases h.place hr with ⟨z, _⟩ | ⟨_, d⟩
                  · (first | lia | omega)
                  · exact d
                rcases hN with ⟨x, hl, hx⟩ | ⟨hs, hu, hi, ho⟩
                · have ih := txt_nest f m x (P ++ [(k : Int)]) (nb_nv hx) (by first | exact Nat.le_of_ble_eq_true rfl | assumption | (first | lia | omega))
                  split
                  · rename_i hs
                    exact Nat.le_trans (join_len _ _) (nest_sum h ih (show (Str.ofString ",").length ≤ 2 by decide) hl hs)
                  · rename_i hs
                    refine Nat.le_trans (err_len _ _) ?_
                    have hU : UU (m + 1) = UU m + 20 := by unfold UU; (first | lia | omega)
                    have hU2 : 15 ≤ UU m := by unfold UU; (first | lia | omega)
                    have hE : (Str.ofString "Error").length ≤ 15 := by decide
                    have hZ : (Str.ofString "").length ≤ 15 := by decide
                    rcases nest_err h hr hl hs with ⟨e1, e2⟩ | ⟨e1, e2⟩
                    · have a1 := told_len (d := Str.ofString "Error") (t := fun v => txt RS f v (P ++ [(k : Int)])) (Nat.le_trans hE hU2) ih
                      have a2 := told_len (d := Str.ofString "") (t := fun v => txt RS f v (P ++ [(k : Int)])) hZ (txt_leaf e2 f (P ++ [(k : Int)]))
                      rw [← e1] at a1
                      (first | lia | omega)
                    · have a1 := told_len (d := Str.ofString "Error") (t := fun v => txt RS f v (P ++ [(k : Int)])) hE (txt_leaf e1 f (P ++ [(k : Int)]))
                      have a2 := told_len (d := Str.ofString "") (t := fun v => txt RS f v (P ++ [(k : Int)])) (Nat.le_trans hZ hU2) ih
                      rw [← e2] at a2
                      (first | lia | omega)
                · split
                  · rw [hi]; exact Nat.zero_le _
                  · refine Nat.le_trans (err_len _ _) ?_
                    have hE : (Str.ofString "Error").length ≤ 15 := by decide
                    have hZ : (Str.ofString "").length ≤ 15 := by decide
                    have n1 := near_miss h (n := Str.ofString "name") hr (by rw [ho]; rfl) (.inl hu)
                    have n2 := near_miss h (n := Str.ofString "message") hr (by rw [ho]; rfl) (.inl hu)
                    have a1 := told_len (d := Str.ofString "Error") (t := fun v => txt RS f v (P ++ [(k : Int)])) hE (txt_leaf n1 f (P ++ [(k : Int)]))
                    have a2 := told_len (d := Str.ofString "") (t := fun v => txt RS f v (P ++ [(k : Int)])) hZ (txt_leaf n2 f (P ++ [(k : Int)]))
                    have hU : UU (m + 1) = 15 + 20 * (m + 1) := rfl
                    (first | lia | omega)
theorem txt_nest16 {f : Nat} {v : Vl} {P : List Int} (hv : NV cnt v) : (txt RS f v P).length ≤ UU 16 := txt_nest h f 16 v P hv (nests_len P)
theorem bd_of : Bd RS where
  sum := fun f k r P sep hr hs hP hsep => by
    rcases h.place hr with ⟨hk, d⟩ | ⟨hk, ⟨x, hl, hx⟩ | ⟨_, _, hi, _⟩⟩
    · have hk1 : 1 ≤ k := by
        cases k with
        | zero => have := (row0_sort h hr).1; rw [this] at hs; exact absurd hs (by decide)
        | succ k => exact Nat.le_add_left _ _
      have hlt := fr_lt (lows_mem hk1 hk) hP
      have hle := lows_len (cnt := cnt) P
      have := low_sum h (f := f) (P := P) (m := 5) (fun v hv => txt_low h f 5 v _ hv (by have := h.c5; (first | lia | omega))) hsep d
      exact Nat.le_trans this (by decide)
    · have := nest_sum h (f := f) (k := k) (P := P) (m := 16) (txt_nest16 h (nb_nv hx)) hsep hl hs
      exact Nat.le_trans this (by decide)
    · rw [hi]; exact Nat.zero_le _
  all := fun f v P hv => by
    have key : VOk (cnt + 2) v ∨ NV cnt v := by
      cases v with
      | obj j =>
        have hj : j < RS.length := hv
        rw [h.length] at hj
        by_cases h2 : j < cnt + 2
        · exact .inl h2
        · exact .inr (.inr (.inr ⟨j, rfl, by (first | lia | omega), hj⟩))
      | num i => exact .inl hv
      | str x => exact .inl hv
      | _ => exact .inl trivial
    rcases key with hv | hv
    · exact Nat.le_trans (txt_low6 h hv) (by decide)
    · exact Nat.le_trans (txt_nest16 h hv) (by decide)
end
section
variable {prog : Program} {w : World} {A : Around} {E : Value → Shared → Prop} {s₁ : Shared} {h₀ : Heap} {L : Addr} {m : Str → Option Value} {news : List (Addr × Obj)}
theorem paired_ints {vs ys : List Value} : Paired (fun _ b => ∃ (z : Int) (t : Tok), b = Value.int z t) vs ys → ∃ ns, IntsAre ys ns ∧ ns.length = vs.length := by
  intro h
  induction h with
  | nil => exact ⟨[], .nil, rfl⟩
  | cons h1 _ ih =>
    obtain ⟨ns, h2, h3⟩ := ih
    obtain ⟨z, t, rfl⟩ := h1
    exact ⟨z :: ns, .cons _ _ h2, by rw [List.length_cons, List.length_cons, h3]⟩
theorem bg_new {D : Addr} {h' : Heap} {ys : Array Value} {nD : Nat} (F : Fr h₀ L s₁.heap m) (N : News h₀ L s₁.heap news) (hD : s₁.heap.get? D = none) (hd : h'.get? D = some (listOf ys nD))
    (hk : ∀ b o, b ∉ [s₁.heap.objs.size] → b ≠ L → s₁.heap.get? b = some o → h'.get? b = some o) : News h₀ L h' ((D, listOf ys nD) :: news) := fun p hp => by
  rcases List.mem_cons.mp hp with rfl | hp
  · refine ⟨hd, fun e => ?_, ?_⟩
    · obtain ⟨o, _, _, ho, _⟩ := F.ns
      rw [show D = L from e, ho] at hD; cases hD
    · cases e : h₀.get? D with
      | none => rfl
      | some o' => rw [F.keep _ _ e] at hD; cases hD
  · exact ⟨hk _ _ (fun q => absurd (Heap.lt_size (N p hp).1) ((List.mem_singleton.mp q) ▸ Nat.lt_irrefl _)) (N p hp).2.1 (N p hp).1, (N p hp).2⟩
theorem old_not {h : Heap} {b : Addr} {o : Obj} (e : h.get? b = some o) : b ∉ [h.objs.size] := fun hb => absurd (Heap.lt_size e) ((List.mem_singleton.mp hb) ▸ Nat.lt_irrefl _)

theorem srcA_range {name : Str} {fscope : Scope} {a : Addr} {cd : Value} {elt : PySem.Expr} {x z : Str} {scope : Scope} {Q : Flow → Shared → Prop} {r : Addr} {n : Nat} {t₀ u₀ v₀ : Tok}
    (hh : A.handled = none) (hr : IsRange s₁.heap r 0 (n : Int) 1 t₀ u₀ v₀) (hsmall : Builtin.Range.small 0 (n : Int) 1 = true) (hrn : Builtin.Range.rangeSize 0 (n : Int) 1 = (n : Int)) (hn : n ≤ 100) (F : Fr h₀ L s₁.heap m) (N : News h₀ L s₁.heap news)
    (g2 : ∀ C i t s₂ m₂ E', s₂.heap.Ns (compEnv scope C (envOf name fscope L a cd)).locals m₂ → m₂ x = some (.int i t) → wpAny (model prog w) A (eval elt (compEnv scope C (envOf name fscope L a cd))) (fun r s₃ => (∃ (z : Int) (t : Tok), r = .int z t) ∧ Keeps s₂ s₃) E' s₂)
    (g3 : ∀ D ys nD ns h' tk, Fr h₀ L h' (fun q => if q = z then some (.ref D) else m q) → News h₀ L h' ((D, listOf ys nD) :: news) → (∀ p ∈ news, p.1 ≠ D) → IntsAre ys.toList ns → ns.length = n → Q .next { s₁ with heap := h', toks := tk }) :
    wpAny (model prog w) A (pyIter (.ref r)) (CompPostA prog w A (envOf name fscope L a cd) scope x z [] elt Q) E s₁ := by
  refine wpAny_pyIter_range hr hsmall ?_
  refine ⟨fun _ => true, fun _ b => ∃ (z : Int) (t : Tok), b = Value.int z t, s₁.heap.objs.size, [s₁.heap.objs.size], [s₁.heap.objs.size], n, _, _, m, rfl, Walks.range hh _ 0 1 n, by rw [sizeLine_eq]; omega,
    (by show IsRangeIter _ _ _ _ _; rw [hrn]; simpa using Heap.get?_push_size _ rfl), ?_, ?_, (F.push _).ns, ⟨?_, ?_⟩, ?_⟩
  · intro b hb
    show b < (s₁.heap.push _).objs.size
    rw [Heap.size_push, List.mem_singleton.mp hb]
    exact Nat.lt_succ_self _
  · intro hm
    exact absurd F.ns.lt ((List.mem_singleton.mp hm) ▸ Nat.lt_irrefl _)
  · intro C i v s₃ m₃ E' hP hn hm _ htk
    exact wpAny_tests_nil ⟨rfl, _, _, rfl, fun _ _ e => e⟩
  · intro C i v s₃ m₃ E' hP _ hn hm _ htk
    obtain ⟨t, rfl⟩ := hP
    exact g2 C _ _ s₃ m₃ E' hn hm
  · intro D h' tk ys vs' hnew hlD hplD hlen hP hF hn' hk
    obtain ⟨nD, hpl⟩ := hplD
    rw [List.filter_eq_self.mpr (fun _ _ => rfl)] at hF
    obtain ⟨ns, h1, h2⟩ := paired_ints hF
    have hD : s₁.heap.get? D = none := by
      cases e : s₁.heap.get? D with
      | none => rfl
      | some o' => rw [Heap.get?_push_of_some _ e] at hnew; cases hnew
    refine g3 D ys nD ns h' tk ⟨hn', fun b o' e => hk b o' (Nat.ne_of_lt (Nat.lt_of_lt_of_le (Heap.lt_size e) F.above)) (old_not (F.keep b o' e)) (Heap.get?_push_of_some _ (F.keep b o' e)), F.above⟩
      (bg_new F N hD hpl fun b o hb hbL e => hk b o hbL hb (Heap.get?_push_of_some _ e)) (fun p hp e => by rw [← e, (N p hp).1] at hD; cases hD) h1 (by rw [h2, hlen])

theorem srcC_range {env : Env} {elt : PySem.Expr} {x : Str} {scope : Scope} {Q : Value → Shared → Prop} {r : Addr} {n : Nat} {t₀ u₀ v₀ : Tok}
    (hh : A.handled = none) (hr : IsRange s₁.heap r 0 (n : Int) 1 t₀ u₀ v₀) (hsmall : Builtin.Range.small 0 (n : Int) 1 = true) (hrn : Builtin.Range.rangeSize 0 (n : Int) 1 = (n : Int)) (hn : n ≤ 100) (F : Fr h₀ L s₁.heap m) (N : News h₀ L s₁.heap news)
    (g2 : ∀ C i t s₂ m₂ E', s₂.heap.Ns (compEnv scope C env).locals m₂ → m₂ x = some (.int i t) → wpAny (model prog w) A (eval elt (compEnv scope C env)) (fun r s₃ => (∃ (z : Int) (t : Tok), r = .int z t) ∧ Keeps s₂ s₃) E' s₂)
    (g3 : ∀ D ys nD ns h' tk, Fr h₀ L h' m → News h₀ L h' ((D, listOf ys nD) :: news) → (∀ p ∈ news, p.1 ≠ D) → IntsAre ys.toList ns → ns.length = n → Q (.ref D) { s₁ with heap := h', toks := tk }) :
    wpAny (model prog w) A (pyIter (.ref r)) (CompPost prog w A env scope x [] elt Q) E s₁ := by
  refine wpAny_pyIter_range hr hsmall ?_
  refine ⟨fun _ => true, fun _ b => ∃ (z : Int) (t : Tok), b = Value.int z t, s₁.heap.objs.size, [s₁.heap.objs.size], [s₁.heap.objs.size], n, _, _, rfl, Walks.range hh _ 0 1 n, by rw [sizeLine_eq]; omega,
    (by show IsRangeIter _ _ _ _ _; rw [hrn]; simpa using Heap.get?_push_size _ rfl), ?_, ⟨?_, ?_⟩, ?_⟩
  · intro b hb
    show b < (s₁.heap.push _).objs.size
    rw [Heap.size_push, List.mem_singleton.mp hb]
    exact Nat.lt_succ_self _
  · intro C i v s₃ m₃ E' hP hn hm _ htk
    exact wpAny_tests_nil ⟨rfl, _, _, rfl, fun _ _ e => e⟩
  · intro C i v s₃ m₃ E' hP _ hn hm _ htk
    obtain ⟨t, rfl⟩ := hP
    exact g2 C _ _ s₃ m₃ E' hn hm
  · intro D h' tk ys vs' hnew hlD hplD hlen hP hF hk
    obtain ⟨nD, hpl⟩ := hplD
    rw [List.filter_eq_self.mpr (fun _ _ => rfl)] at hF
    obtain ⟨ns, h1, h2⟩ := paired_ints hF
    have hD : s₁.heap.get? D = none := by
      cases e : s₁.heap.get? D with
      | none => rfl
      | some o' => rw [Heap.get?_push_of_some _ e] at hnew; cases hnew
    have hk' : ∀ b o, b ∉ [s₁.heap.objs.size] → s₁.heap.get? b = some o → h'.get? b = some o := fun b o hb e => hk b o hb (Heap.get?_push_of_some _ e)
    have F' : Fr h₀ L h' m := F.keeps fun b o e => hk' b o (old_not e) e
    exact g3 D ys nD ns h' tk F' (bg_new F N hD hpl fun b o hb _ e => hk' b o hb e) (fun p hp e => by rw [← e, (N p hp).1] at hD; cases hD) h1 (by rw [h2, hlen])
end
section
variable {prog : Program} {w : World} {mg mb : Str → Option Value} {A : Around} {s : Shared} {Q E : Value → Shared → Prop}
theorem paired_mod {ws ys : List Value} {ms : List Int} (h : IntsAre ws ms) : Paired (fun a b => ∀ i t, a = Value.int i t → ∃ t', b = Value.int (i.fmod 5040) t') ws ys → ∃ ns, IntsAre ys ns ∧ (∀ v ∈ ns, 0 ≤ v ∧ v < 5040) ∧ ns.length = ms.length := by
  induction h generalizing ys with
  | nil => intro p; cases p; exact ⟨[], .nil, (fun _ h => nomatch h), rfl⟩
  | cons n t _ ih =>
    intro p
    cases p with
    | cons hF p =>
      with_reducible refine gen fun GG kGG => ?_
      obtain ⟨ns, h1, h2, h3⟩ := ih p
      obtain ⟨t', rfl⟩ := hF _ _ rfl
      with_reducible refine kGG ?_
      clear kGG GG
      refine ⟨n.fmod 5040 :: ns, .cons _ _ h1, fun v hv => ?_, by rw [List.length_cons, List.length_cons, h3]⟩
      refine all_cons ?_ (fun v hv => ?_) v hv
      · exact ⟨Int.fmod_nonneg_of_pos _ (by decide), Int.fmod_lt_of_pos _ (by decide)⟩
      · exact h2 v hv
theorem intsAre_mem {ws : List Value} {ms : List Int} (h : IntsAre ws ms) : ∀ v ∈ ws, ∃ i t, v = Value.int i t := by
  induction h with
  | nil => intro v hv; cases hv
  | cons n t _ ih =>
    intro v hv
    refine all_cons ?_ (fun v hv => ?_) v hv
    · exact ⟨_, _, rfl⟩
    · exact ih v hv
theorem vok0 {n : Nat} {x : Vl} (h : VOk 0 x) : VOk n x := by cases x <;> first | exact h | exact absurd h (Nat.not_lt_zero _) | trivial
theorem other_f {v : Int} {c : Nat} (h : (0 : Int) < (c : Int)) : 0 ≤ 1 + v.fmod (c : Int) ∧ 1 + v.fmod (c : Int) ≤ (c : Int) := by
  have h1 := Int.fmod_nonneg_of_pos v h
  have h2 := Int.fmod_lt_of_pos v h
  (first | lia | omega)
theorem ints_push {ys : Array Value} {bs : List Int} {i : Int} {t : Tok} (h : IntsAre ys.toList bs) : IntsAre (ys.push (.int i t)).toList (bs ++ [i]) := by
  rw [Array.toList_push]
  generalize ys.toList = l at h
  induction h with
  | nil => exact .cons _ _ .nil
  | cons n t _ ih => exact .cons _ _ ih
theorem getD6 : ∀ i : Nat, 0 ≤ ([0, 1, 12, 13, 14, 15] : List Int).getD i 0 ∧ ([0, 1, 12, 13, 14, 15] : List Int).getD i 0 ≤ 15
  | 0 => by decide
  | 1 => by decide
  | 2 => by decide
  | 3 => by decide
  | 4 => by decide
  | 5 => by decide
  | _ + 6 => by simp
theorem dict_tup_ne {g h : Heap} {L a d : Addr} {o : Obj} {μ : List (Addr × Obj)} {l : List Value} {kvs : List (Str × Value)} (N : News g L h μ) (ha : (a, tupOf l) ∈ μ) (hd : (d, o) ∈ μ) (hk : o.IsDictOf (PySem.strKind prog w) kvs) : a ≠ d :=
  News.twoPlaces N ha hd fun e => by
    with_reducible refine gen fun GG kGG => ?_
    obtain ⟨_, _, _, hd2, _⟩ := hk
    with_reducible refine kGG ?_
    clear kGG GG
    rw [← show tupOf l = o from e] at hd2
    cases hd2
theorem news_pick5 {g h : Heap} {L : Addr} {a1 a2 a3 a4 a5 : Addr × Obj} {r : List (Addr × Obj)} (N : News g L h (a1 :: a2 :: a3 :: a4 :: a5 :: r)) : News g L h (a5 :: a1 :: a3 :: r) := fun p hp => by
  refine all_cons ?_ (fun p hp => ?_) p hp
  · exact N _ (.tail _ (.tail _ (.tail _ (.tail _ (.head _)))))
  refine all_cons ?_ (fun p hp => ?_) p hp
  · exact N _ (.head _)
  refine all_cons ?_ (fun p hp => ?_) p hp
  · exact N _ (.tail _ (.tail _ (.head _)))
  · exact N p (.tail _ (.tail _ (.tail _ (.tail _ (.tail _ hp)))))
theorem news_drop23 {g h : Heap} {L : Addr} {a1 a2 a3 : Addr × Obj} {r : List (Addr × Obj)} (N : News g L h (a1 :: a2 :: a3 :: r)) : News g L h (a1 :: r) := fun p hp => by
  refine all_cons ?_ (fun p hp => ?_) p hp
  · exact N _ (.head _)
  · exact N p (.tail _ (.tail _ (.tail _ hp)))
theorem news_pick3 {g h : Heap} {L : Addr} {a1 a2 a3 : Addr × Obj} {r : List (Addr × Obj)} (N : News g L h (a1 :: a2 :: a3 :: r)) : News g L h (a3 :: a1 :: a2 :: r) := fun p hp => by
  refine all_cons ?_ (fun p hp => ?_) p hp
  · exact N _ (.tail _ (.tail _ (.head _)))
  refine all_cons ?_ (fun p hp => ?_) p hp
  · exact N _ (.head _)
  refine all_cons ?_ (fun p hp => ?_) p hp
  · exact N _ (.tail _ (.head _))
  · exact N p (.tail _ (.tail _ (.tail _ hp)))
theorem sep_len {x : Str} (h : x ∈ [Str.ofString ",", Str.ofString "-", Str.ofString "", Str.ofString "; "]) : x.length ≤ 2 := by
  simp only [List.mem_cons, List.not_mem_nil, or_false] at h
  rcases h with rfl | rfl | rfl | rfl <;> decide
theorem nine_f {v : Int} : ∃ n : Nat, (9 + v.fmod 2 : Int) = (n : Int) ∧ n ≤ 10 := by
  have := Int.fmod_nonneg_of_pos v (show (0 : Int) < 2 by decide)
  have := Int.fmod_lt_of_pos v (show (0 : Int) < 2 by decide)
  exact ⟨(9 + v.fmod 2).toNat, by (first | lia | omega), by (first | lia | omega)⟩
noncomputable def CntOk (c : Nat) : Prop := 3 ≤ c ∧ c ≤ 5
theorem tup_valN {H : Heap} {a : Addr} {n : Nat} {i : Int} {t t' : Tok} (h : H.get? a = some (tupOf [.int 6 t, .int i t'])) (e : i = (n : Int)) : ValAt H (.ref a) (.obj n) := by
  subst e
  exact ⟨a, t, t', rfl, _, h, rfl, _, rfl⟩
theorem obj_f {c m : Nat} {v : Int} (h : c + 2 ≤ m) : ∃ n : Nat, (c : Int) + v.fmod 2 = (n : Int) ∧ n < m := by
  have h1 := Int.fmod_nonneg_of_pos v (show (0 : Int) < 2 by decide)
  have h2 := Int.fmod_lt_of_pos v (show (0 : Int) < 2 by decide)
  exact ⟨((c : Int) + v.fmod 2).toNat, by (first | lia | omega), by (first | lia | omega)⟩
structure LawJ (prog : Program) (w : World) (st rl num : Addr) (us : List Value) (ms : List Int) (cnt i : Nat) (m₁ : Str → Option Value) (μ₁ : List (Addr × Obj)) (o : Obj) (n' r' : Nat) (t1 t2 : Tok) (arr : Array Value) (xs : List Addr) (qs : List Raw) (rs : List Rw) (ν : List (Addr × Obj)) (nl : Nat) : Prop where
  f1 : μ₁ = (st, o) :: (rl, listOf arr nl) :: ν
  f2 : o.IsDictOf (PySem.strKind prog w) [(Str.ofString "nums", .ref num), (Str.ofString "next", .int ((n' : Nat) : Int) t1), (Str.ofString "refs", .int ((r' : Nat) : Int) t2)]
  f3 : n' ≤ 2 + 6 * i
  f4 : r' ≤ 6
  f5 : arr.toList = xs.map Value.ref
  f6 : rs.length = i + 1
  f7 : ∀ H, Blk H ν → NumsAt H num us ms
  f8 : ∀ H, Blk H ν → RowsL prog w H xs qs rs
  f9 : ∀ p ∈ ν, p.1 ≠ st ∧ p.1 ≠ rl
  f10 : ∀ k r, rs[k]? = some r → DRow (cnt + 2) k r
  f11 : ∀ r, rs[0]? = some r → r.sort = 0 ∧ ∀ p ∈ r.own, VOk 0 p.2
  f12 : m₁ (Str.ofString "st") = some (.ref st)
  f13 : m₁ (Str.ofString "rows") = some (.ref rl)
  f14 : ∃ tc, m₁ (Str.ofString "count") = some (.int (cnt : Int) tc)
theorem law_spec {sc : Addr} {vs : List Value} {ns : List Int} (hl : s.heap.IsList sc vs.toArray) (hi : IntsAre vs ns) (hn : ns.length ≤ 63) (C0 : Cx w mg mb A s.heap [] 400 1500) (hA : A.frames = some [])
   (hQ : ∀ h' tk', Stays [] s.heap h' → Q (.bool true) { s with heap := h', toks := tk' }) :
   wpAny (model prog w) A (call (.ref 328) [.ref sc]) Q E s := by
  refine call_rule0 (d := 399) (u := 1497) (binds := [(Str.ofString "script", .ref sc)]) C0 (by k_is) (by k_is) (BindsTo.of_eq rfl) (locs rfl) (fun L h₁ tk F N C => ?_) (by decide)
  with_reducible refine hideQ fun KK hKK => ?_
  have X := C.X
  have T := C.T
  (((repeat' ((fail_if_success ((with_reducible (first | (show wpAny _ _ (pyIter _) _ _ _) | (show wpAny _ _ (call (Value.builtin "list.append") _) _ _ _) | (show wpAny _ _ (eval (PySem.Expr.ListComp _ _ _ _) _) _ _ _) | (show wpAny _ _ (eval (PySem.Expr.Dict (_ :: _) _ _) _) _ _ _) | (show CutAt _ _ _ _ _ _ _) | (show CutSt _ _ _ _ _ _ _) | (show wpAny _ _ (exec (Stmt.If _ _ _ _) _) _ _ _) | (show wpAny _ _ (exec (Stmt.For _ _ _ _ _) _) _ _ _) | (show TurnPostG _ _ _ _ _ _ _ _))))); (first | walk1 | (dsimp only; walk1) | (k_unfold; (try dsimp only)) | (refine hKS _ _ ?_; clear hKS KS; (try dsimp only))))); (all_goals (try dsimp only)); (all_goals (repeat ((((fail_if_success (with_reducible show wpAny _ _ _ _ _ _)); (refine (‹∀ (x : _) (y : Shared), _ → _›) _ _ ?_); (try dsimp only))))))))
  rename Fr _ _ _ _ => F
  refine cut_fr F (fun z h' => ∃ st num o oN t1 t2 us ms, z = .ref st ∧ News s.heap L h' [(st, o), (num, oN)] ∧ o.IsDictOf (PySem.strKind prog w) [(Str.ofString "nums", .ref num), (Str.ofString "next", .int ((0 : Nat) : Int) t1), (Str.ofString "refs", .int ((6 : Nat) : Int) t2)] ∧ (st == sysModules) = false ∧
      num ≠ st ∧ (∀ H, Blk H [(num, oN)] → NumsAt H num us ms)) ?_ ?_
  · walk1
    (((repeat' ((fail_if_success ((with_reducible (first | (show wpAny _ _ (pyIter _) _ _ _) | (show wpAny _ _ (call (Value.builtin "list.append") _) _ _ _) | (show wpAny _ _ (eval (PySem.Expr.ListComp _ _ _ _) _) _ _ _) | (show wpAny _ _ (eval (PySem.Expr.Dict (_ :: _) _ _) _) _ _ _) | (show CutAt _ _ _ _ _ _ _) | (show CutSt _ _ _ _ _ _ _) | (show wpAny _ _ (exec (Stmt.If _ _ _ _) _) _ _ _) | (show wpAny _ _ (exec (Stmt.For _ _ _ _ _) _) _ _ _) | (show TurnPostG _ _ _ _ _ _ _ _))))); (first | walk1 | (dsimp only; walk1) | (k_unfold; (try dsimp only)) | (refine hKS _ _ ?_; clear hKS KS; (try dsimp only))))); (all_goals (try dsimp only)); (all_goals (repeat ((((fail_if_success (with_reducible show wpAny _ _ _ _ _ _)); (refine (‹∀ (x : _) (y : Shared), _ → _›) _ _ ?_); (try dsimp only))))))))
    rename Fr _ _ _ _ => F
    rename News _ _ _ _ => N
    rename Obj.IsDictOf _ _ _ => hd
    rename (_ == sysModules) = false => lo
    rename_i st _ od _
    refine wpAny_ListComp_map (fun _ => true) (fun a b => ∀ i t, a = Value.int i t → ∃ t', b = Value.int (i.fmod 5040) t') (Cb.hd C) (by decide) (by decide) rfl (by decide) (by rfl)
      (cut_fr F (fun z h' => ∃ D ws, z = .ref D ∧ IntsAre ws (ns.take 40) ∧ News s.heap L h' [(D, listOf ws.toArray 0), (st, od)]) ?_ ?_) (fun _ => rfl)
    · with_reducible refine hideQ fun KK hKK => ?_
      (((repeat' ((fail_if_success ((with_reducible (first | (show wpAny _ _ (pyIter _) _ _ _) | (show wpAny _ _ (call (Value.builtin "list.append") _) _ _ _) | (show wpAny _ _ (eval (PySem.Expr.ListComp _ _ _ _) _) _ _ _) | (show wpAny _ _ (eval (PySem.Expr.Dict (_ :: _) _ _) _) _ _ _) | (show CutAt _ _ _ _ _ _ _) | (show CutSt _ _ _ _ _ _ _) | (show wpAny _ _ (exec (Stmt.If _ _ _ _) _) _ _ _) | (show wpAny _ _ (exec (Stmt.For _ _ _ _ _) _) _ _ _) | (show TurnPostG _ _ _ _ _ _ _ _))))); (first | walk1 | (dsimp only; walk1) | (k_unfold; (try dsimp only)) | (refine hKS _ _ ?_; clear hKS KS; (try dsimp only))))); (all_goals (try dsimp only)); (all_goals (repeat ((((fail_if_success (with_reducible show wpAny _ _ _ _ _ _)); (refine (‹∀ (x : _) (y : Shared), _ → _›) _ _ ?_); (try dsimp only))))))))
      rename Fr _ _ _ _ => F
      rename News _ _ _ _ => N
      rename IntsAre _ (List.take _ _) => hI
      exact ⟨_, _, rfl, F, _, _, rfl, hI, N⟩
    intro z h' tk' F' hRp1
    with_reducible refine gen fun GG kGG => ?_
    obtain ⟨D, ws, rfl, hI, N'⟩ := hRp1
    with_reducible refine kGG ?_
    clear kGG GG
    clear F N
    have hwl := IntsAre.length hI
    have hwl2 : ws.length ≤ 40 := by rw [hwl, List.length_take]; (first | lia | omega)
    refine ⟨D, ws.toArray, rfl, News.isList N' (.head _), (by rw [List.size_toArray, sizeLine_eq]; (first | lia | omega)), ?_, ?_, ?_⟩
    · intro C' v s₂ m₂ E' hv hn hm hk
      exact wpAny_mono (wpAny_tests_nil (Q := fun ok s₃ => ok = true ∧ Keeps s₂ s₃) ⟨rfl, _, _, rfl, fun _ _ e => e⟩) (fun _ _ x => x) fun _ _ x => x
    · intro C' v s₂ m₂ E' hv _ hn2 hm hk
      with_reducible refine gen fun GG kGG => ?_
      obtain ⟨i, t, rfl⟩ := intsAre_mem hI v (Array.mem_toList_iff.mpr hv)
      with_reducible refine kGG ?_
      clear kGG GG
      clear F' N'
      (((repeat' ((fail_if_success ((with_reducible (first | (show wpAny _ _ (pyIter _) _ _ _) | (show wpAny _ _ (call (Value.builtin "list.append") _) _ _ _) | (show wpAny _ _ (eval (PySem.Expr.ListComp _ _ _ _) _) _ _ _) | (show wpAny _ _ (eval (PySem.Expr.Dict (_ :: _) _ _) _) _ _ _) | (show CutAt _ _ _ _ _ _ _) | (show CutSt _ _ _ _ _ _ _) | (show wpAny _ _ (exec (Stmt.If _ _ _ _) _) _ _ _) | (show wpAny _ _ (exec (Stmt.For _ _ _ _ _) _) _ _ _) | (show TurnPostG _ _ _ _ _ _ _ _))))); (first | walk1 | (dsimp only; walk1) | (k_unfold; (try dsimp only)) | (refine hKS _ _ ?_; clear hKS KS; (try dsimp only))))); (all_goals (try dsimp only)); (all_goals (repeat ((((fail_if_success (with_reducible show wpAny _ _ _ _ _ _)); (refine (‹∀ (x : _) (y : Shared), _ → _›) _ _ ?_); (try dsimp only))))))))
      · rename Value.int i t = Value.int _ _ => e
        cases e
        rfl
      · exact ⟨_, _, rfl, fun _ _ e => e⟩
    · intro D2 h2 tk2 ys hDn hDl hys hk
      have S : Stays [] _ h2 := Stays.of hk
      have F2 := Fr.st0 F' S
      have N2 := News.st0 N' S
      with_reducible refine gen fun GG kGG => ?_
      obtain ⟨oN, hoN, hoc, no, hod⟩ := id hDl
      with_reducible refine kGG ?_
      clear kGG GG
      have hD2 := news_new (ν := [(D2, oN)]) F' (fun p hp => by rw [List.mem_singleton.mp hp]; exact hDn) (fun p hp => by rw [List.mem_singleton.mp hp]; exact hoN)
      have hDst : D2 ≠ st := fun e => by
        have := (N' (st, od) (.tail _ (.head _))).1
        rw [← e, hDn] at this; cases this
      obtain ⟨ms, hms, hmb, hml⟩ := paired_mod hI (show Paired _ ws ys.toList from by rw [List.filter_eq_self.mpr (fun _ _ => rfl)] at hys; exact hys)
      have hnums : ∀ H, Blk H [(D2, oN)] → NumsAt H D2 ys.toList ms := fun H B => ⟨⟨oN, B _ (.head _), hoc, no, by rw [Array.toArray_toList]; exact hod⟩, hms, hmb, by rw [hml, List.length_take]; (first | lia | omega)⟩
      have N := (show News s.heap L h2 [(st, od), (D2, oN)] from fun p hp => by
        refine all_cons ?_ (fun p hp => ?_) p hp
        · exact N2 _ (.tail _ (.head _))
        · exact hD2 p hp)
      clear F' N' N2 hD2 hk S
      have hlt2 : @Ne Nat D2 st := hDst
      (((repeat' ((fail_if_success ((with_reducible (first | (show wpAny _ _ (pyIter _) _ _ _) | (show wpAny _ _ (call (Value.builtin "list.append") _) _ _ _) | (show wpAny _ _ (eval (PySem.Expr.ListComp _ _ _ _) _) _ _ _) | (show wpAny _ _ (eval (PySem.Expr.Dict (_ :: _) _ _) _) _ _ _) | (show CutAt _ _ _ _ _ _ _) | (show CutSt _ _ _ _ _ _ _) | (show wpAny _ _ (exec (Stmt.If _ _ _ _) _) _ _ _) | (show wpAny _ _ (exec (Stmt.For _ _ _ _ _) _) _ _ _) | (show TurnPostG _ _ _ _ _ _ _ _))))); (first | walk1 | (dsimp only; walk1) | (k_unfold; (try dsimp only)) | (refine hKS _ _ ?_; clear hKS KS; (try dsimp only))))); (all_goals (try dsimp only)); (all_goals (repeat ((((fail_if_success (with_reducible show wpAny _ _ _ _ _ _)); (refine (‹∀ (x : _) (y : Shared), _ → _›) _ _ ?_); (try dsimp only))))))))
      rename Fr _ _ _ _ => F
      rename News _ _ _ _ => N
      rename Obj.IsDictOf _ _ _ => hd
      exact ⟨_, _, rfl, F, st, D2, _, oN, _, _, ys.toList, ms, rfl, N, hd, lo, hDst, hnums⟩
  intro z h' tk' F' hRp1
  with_reducible refine gen fun GG kGG => ?_
  obtain ⟨st, num, o, oN, t1, t2, us, ms, rfl, N', hdo, hs2, hnst, hnums⟩ := hRp1
  with_reducible refine kGG ?_
  clear kGG GG
  clear F
  (((repeat' ((fail_if_success ((with_reducible (first | (show wpAny _ _ (pyIter _) _ _ _) | (show wpAny _ _ (call (Value.builtin "list.append") _) _ _ _) | (show wpAny _ _ (eval (PySem.Expr.ListComp _ _ _ _) _) _ _ _) | (show wpAny _ _ (eval (PySem.Expr.Dict (_ :: _) _ _) _) _ _ _) | (show CutAt _ _ _ _ _ _ _) | (show CutSt _ _ _ _ _ _ _) | (show wpAny _ _ (exec (Stmt.If _ _ _ _) _) _ _ _) | (show wpAny _ _ (exec (Stmt.For _ _ _ _ _) _) _ _ _) | (show TurnPostG _ _ _ _ _ _ _ _))))); (first | walk1 | (dsimp only; walk1) | (k_unfold; (try dsimp only)) | (refine hKS _ _ ?_; clear hKS KS; (try dsimp only))))); (all_goals (try dsimp only)); (all_goals (repeat ((((fail_if_success (with_reducible show wpAny _ _ _ _ _ _)); (refine (‹∀ (x : _) (y : Shared), _ → _›) _ _ ?_); (try dsimp only))))))))
  rename Fr _ _ _ _ => F
  rename News _ _ _ _ => N
  refine pull_L C F N (fun p hp => by rw [List.mem_singleton.mp hp]; exact hnst) hdo hs2 hnums (by first | exact Nat.le_of_ble_eq_true rfl | assumption | (first | lia | omega)) (by first | exact Nat.le_of_ble_eq_true rfl | assumption | (first | lia | omega)) (by first | exact Nat.le_of_ble_eq_true rfl | assumption | (first | lia | omega)) (fun h' tk' v0 tv o1 t1 t2 v00 v01 F' N' hd1 => ?_)
  clear F N hdo
  (((repeat' ((fail_if_success ((with_reducible (first | (show wpAny _ _ (pyIter _) _ _ _) | (show wpAny _ _ (call (Value.builtin "list.append") _) _ _ _) | (show wpAny _ _ (eval (PySem.Expr.ListComp _ _ _ _) _) _ _ _) | (show wpAny _ _ (eval (PySem.Expr.Dict (_ :: _) _ _) _) _ _ _) | (show CutAt _ _ _ _ _ _ _) | (show CutSt _ _ _ _ _ _ _) | (show wpAny _ _ (exec (Stmt.If _ _ _ _) _) _ _ _) | (show wpAny _ _ (exec (Stmt.For _ _ _ _ _) _) _ _ _) | (show TurnPostG _ _ _ _ _ _ _ _))))); (first | walk1 | (dsimp only; walk1) | (k_unfold; (try dsimp only)) | (refine hKS _ _ ?_; clear hKS KS; (try dsimp only))))); (all_goals (try dsimp only)); (all_goals (repeat ((((fail_if_success (with_reducible show wpAny _ _ _ _ _ _)); (refine (‹∀ (x : _) (y : Shared), _ → _›) _ _ ?_); (try dsimp only))))))))
  rename Fr _ _ _ _ => F
  rename News _ _ _ _ => N
  refine first_L v00 v01 C F N (by first | exact Nat.le_of_ble_eq_true rfl | assumption | (first | lia | omega)) (by first | exact Nat.le_of_ble_eq_true rfl | assumption | (first | lia | omega)) (fun h' tk' a q0 r0 ν0 F' N' hnew hrow e1 e2 e3 e4 => ?_)
  have hst0 : ∀ p ∈ ν0, p.1 ≠ st := fun p hp => (hnew _ _ (N _ (.head _)).1 p hp).symm
  clear F N hnew
  (((repeat' ((fail_if_success ((with_reducible (first | (show wpAny _ _ (pyIter _) _ _ _) | (show wpAny _ _ (call (Value.builtin "list.append") _) _ _ _) | (show wpAny _ _ (eval (PySem.Expr.ListComp _ _ _ _) _) _ _ _) | (show wpAny _ _ (eval (PySem.Expr.Dict (_ :: _) _ _) _) _ _ _) | (show CutAt _ _ _ _ _ _ _) | (show CutSt _ _ _ _ _ _ _) | (show wpAny _ _ (exec (Stmt.If _ _ _ _) _) _ _ _) | (show wpAny _ _ (exec (Stmt.For _ _ _ _ _) _) _ _ _) | (show TurnPostG _ _ _ _ _ _ _ _))))); (first | walk1 | (dsimp only; walk1) | (k_unfold; (try dsimp only)) | (refine hKS _ _ ?_; clear hKS KS; (try dsimp only))))); (all_goals (try dsimp only)); (all_goals (repeat ((((fail_if_success (with_reducible show wpAny _ _ _ _ _ _)); (refine (‹∀ (x : _) (y : Shared), _ → _›) _ _ ?_); (try dsimp only))))))))
  rename Fr _ _ _ _ => F
  rename News _ _ _ _ => N
  rename _ < _ ∧ _ => hlt
  rename_i rl _ _
  have hrst : rl ≠ st := Nat.ne_of_gt hlt.1
  have hν1 : ∀ p ∈ ν0 ++ [(num, oN)], p.1 ≠ st ∧ p.1 ≠ rl := fun p hp => by
    refine ⟨?_, allLt_mem hlt.2 p hp⟩
    refine all_app (fun p hp => ?_) (fun p hp => ?_) p hp
    · exact hst0 p hp
    · rw [List.mem_singleton.mp hp]; exact hnst
  have hnum1 : ∀ H, Blk H (ν0 ++ [(num, oN)]) → NumsAt H num us ms := fun H B => hnums H fun p hp => B p (List.mem_append_right _ hp)
  have hrows1 : ∀ H, Blk H (ν0 ++ [(num, oN)]) → RowsL prog w H [a] [q0] [r0] := fun H B => RowsL.one (hrow H fun p hp => B p (List.mem_append_left _ hp))
  have hdr0 : DRow 0 0 r0 ∧ r0.sort = 0 := ⟨⟨.inl e1, by (first | lia | omega), by (first | lia | omega), by rw [e3]; exact Nat.zero_le _, (fun y hy => by rw [e3] at hy; cases hy), e4, fun z => by (first | lia | omega)⟩, e1⟩
  have N1 := (show News s.heap L _ ((st, o1) :: (rl, listOf #[Value.ref a] 0) :: (ν0 ++ [(num, oN)])) from fun p hp => by
    refine all_cons ?_ (fun p hp => ?_) p hp
    · exact N _ (.tail _ (.head _))
    refine all_cons ?_ (fun p hp => ?_) p hp
    · exact N _ (.head _)
    · exact N p (.tail _ (.tail _ hp)))
  clear N hlt hnums hst0 hrow e1 e2 e3 e4
  generalize ν0 ++ [(num, oN)] = ν at N1 hν1 hnum1 hrows1
  clear ν0
  rename News _ _ _ _ => N
  have hμ : ∀ p ∈ (rl, listOf #[Value.ref a] 0) :: ν, p.1 ≠ st := fun p hp => by
    refine all_cons ?_ (fun p hp => ?_) p hp
    · exact hrst
    · exact (hν1 p hp).1
  refine pull_L C F N hμ hd1 hs2 (fun H B => hnum1 H fun p hp => B p (.tail _ hp)) (by first | exact Nat.le_of_ble_eq_true rfl | assumption | (first | lia | omega)) (by first | exact Nat.le_of_ble_eq_true rfl | assumption | (first | lia | omega)) (by first | exact Nat.le_of_ble_eq_true rfl | assumption | (first | lia | omega)) (fun h' tk' v1 tv1 o2 t1 t2 v10 v11 F' N' hd2 => ?_)
  clear F N hd1
  (((repeat' ((fail_if_success ((with_reducible (first | (show wpAny _ _ (pyIter _) _ _ _) | (show wpAny _ _ (call (Value.builtin "list.append") _) _ _ _) | (show wpAny _ _ (eval (PySem.Expr.ListComp _ _ _ _) _) _ _ _) | (show wpAny _ _ (eval (PySem.Expr.Dict (_ :: _) _ _) _) _ _ _) | (show CutAt _ _ _ _ _ _ _) | (show CutSt _ _ _ _ _ _ _) | (show wpAny _ _ (exec (Stmt.If _ _ _ _) _) _ _ _) | (show wpAny _ _ (exec (Stmt.For _ _ _ _ _) _) _ _ _) | (show TurnPostG _ _ _ _ _ _ _ _))))); (first | walk1 | (dsimp only; walk1) | (k_unfold; (try dsimp only)) | (refine hKS _ _ ?_; clear hKS KS; (try dsimp only))))); (all_goals (try dsimp only)); (all_goals (repeat ((((fail_if_success (with_reducible show wpAny _ _ _ _ _ _)); (refine (‹∀ (x : _) (y : Shared), _ → _›) _ _ ?_); (try dsimp only))))))))
  rename Fr _ _ _ _ => F
  rename News _ _ _ _ => N
  obtain ⟨cnt, hcnt, hc3, hc5⟩ : ∃ c : Nat, (3 + v1.fmod 3 : Int) = (c : Int) ∧ 3 ≤ c ∧ c ≤ 5 := by
    have z1 := Int.fmod_nonneg_of_pos v1 (show (0 : Int) < 3 by decide)
    have z2 := Int.fmod_lt_of_pos v1 (show (0 : Int) < 3 by decide)
    exact ⟨(3 + v1.fmod 3).toNat, by (first | lia | omega), by (first | lia | omega), by (first | lia | omega)⟩
  rw [hcnt] at F
  have hcB : CntOk cnt := ⟨hc3, hc5⟩
  clear hcnt hc3 hc5
  refine For_invV s.heap rfl rfl ?_
  (((repeat' ((fail_if_success ((with_reducible (first | (show wpAny _ _ (exec (Stmt.While _ _ _ _) _) _ _ _) | (show wpAny _ _ (exec (Stmt.For _ _ _ _ _) _) _ _ _) | (show wpAny _ _ (eval (PySem.Expr.ListComp _ _ _ _) _) _ _ _) | (show wpAny _ _ (exec (Stmt.Try _ _ _ _ _) _) _ _ _))))); (first | walk1 | (dsimp only; walk1) | (k_unfold; (try dsimp only)) | (refine hKS _ _ ?_; clear hKS KS; (try dsimp only))))); (all_goals (try dsimp only)); (all_goals (repeat ((((fail_if_success (with_reducible show wpAny _ _ _ _ _ _)); (refine (‹∀ (x : _) (y : Shared), _ → _›) _ _ ?_); (try dsimp only))))))))
  rename Fr _ _ _ _ => F
  rename News _ _ _ _ => N
  rename IsRange _ _ _ _ _ _ _ _ => hR
  rw [show (cnt : Int) + 1 = 1 + (cnt : Int) from Int.add_comm _ _] at hR
  refine loop_grRange (n := cnt) (fun i m₁ μ₁ => ∃ (o : Obj) (n' r' : Nat) (t1 t2 : Tok) (arr : Array Value) (xs : List Addr) (qs : List Raw) (rs : List Rw) (ν : List (Addr × Obj)) (nl : Nat), LawJ prog w st rl num us ms cnt i m₁ μ₁ o n' r' t1 t2 arr xs qs rs ν nl)
    (Cb.hd C) hR (range_smallA (by decide) (by decide) (by have := hcB.2; (first | lia | omega))) (range_sizeA _ _) F N ⟨o2, 2, 6, _, _, #[.ref a], [a], [q0], [r0], ν, 0, rfl, hd2, Nat.le_refl _, Nat.le_refl _, rfl, rfl, hnum1, hrows1, hν1, ?_, ?_, rfl, rfl, _, rfl⟩ ?_ ?_
  · intro k r hk
    cases k with
    | zero =>
      cases hk
      with_reducible refine gen fun GG kGG => ?_
      obtain ⟨⟨z1, z2, z3, z4, z5, z6, z7⟩, z8⟩ := hdr0
      with_reducible refine kGG ?_
      clear kGG GG
      exact ⟨z1, z2, z3, z4, fun y hy => vok0 (z5 y hy), fun p hp => ⟨vok0 (z6 p hp).1, (z6 p hp).2⟩, z7⟩
    | succ k => simp at hk
  · intro r hk; cases hk; exact ⟨hdr0.2, fun p hp => (hdr0.1.2.2.2.2.2.1 p hp).1⟩
  · clear F N hR hd2 hnum1 hrows1 hν1 hμ
    intro i t m₁ μ₁ h tk κ hi hRp1
    with_reducible refine gen fun GG kGG => ?_
    obtain ⟨o, n', r', t1, t2, arr, xs, qs, rs, ν, nl, rfl, hdo, hn', hr', harr, hrl, hnum1, hrows1, hν1, hDR, hD0, m1, m2, tc, m3⟩ := hRp1
    with_reducible refine kGG ?_
    clear kGG GG
    intro F N hκ
    with_reducible refine hideQ fun KK hKK => ?_
    have N := (show News s.heap _ h ((st, o) :: (rl, listOf arr nl) :: (ν ++ κ)) from N)
    have eI : (1 : Int) + (i : Int) = ((i + 1 : Nat) : Int) := by push_cast; exact Int.add_comm _ _
    rw [eI] at F
    (((repeat' ((fail_if_success ((with_reducible (first | (show wpAny _ _ (exec (Stmt.While _ _ _ _) _) _ _ _) | (show wpAny _ _ (exec (Stmt.For _ _ _ _ _) _) _ _ _) | (show wpAny _ _ (eval (PySem.Expr.ListComp _ _ _ _) _) _ _ _) | (show wpAny _ _ (exec (Stmt.Try _ _ _ _ _) _) _ _ _))))); (first | walk1 | (dsimp only; walk1) | (k_unfold; (try dsimp only)) | (refine hKS _ _ ?_; clear hKS KS; (try dsimp only))))); (all_goals (try dsimp only)); (all_goals (repeat ((((fail_if_success (with_reducible show wpAny _ _ _ _ _ _)); (refine (‹∀ (x : _) (y : Shared), _ → _›) _ _ ?_); (try dsimp only))))))))
    rename Fr _ _ _ _ => F
    rename News _ _ _ _ => N
    have hBν : Blk _ ν := fun p hp => (N p (.tail _ (.tail _ (List.mem_append_left _ hp)))).1
    with_reducible refine gen fun GG kGG => ?_
    obtain ⟨hB3, hB5⟩ := id hcB
    with_reducible refine kGG ?_
    clear kGG GG
    have hμ : ∀ p ∈ (rl, listOf arr nl) :: (ν ++ κ), p.1 ≠ st := fun p hp => by
      refine all_cons ?_ (fun p hp => ?_) p hp
      · exact hrst
      refine all_app (fun p hp => ?_) (fun p hp => ?_) p hp
      · exact (hν1 p hp).1
      · exact hκ p hp _ (.head _)
    refine drawn_L C F N hμ hdo hs2 (fun H B => hnum1 H fun p hp => B p (.tail _ (List.mem_append_left _ hp))) (by first | exact Nat.le_of_ble_eq_true rfl | assumption | (first | lia | omega)) (by first | exact Nat.le_of_ble_eq_true rfl | assumption | (first | lia | omega)) (by first | exact Nat.le_of_ble_eq_true rfl | assumption | (first | lia | omega)) (by first | exact Nat.le_of_ble_eq_true rfl | assumption | (first | lia | omega)) (by first | exact Nat.le_of_ble_eq_true rfl | assumption | (first | lia | omega)) (by first | exact Nat.le_of_ble_eq_true rfl | assumption | (first | lia | omega)) (by first | exact Nat.le_of_ble_eq_true rfl | assumption | (first | lia | omega)) (fun h' tk' a' q r νd n'' r'' o' t1 t2 F' N' hnew hrow hdo' hn'' hr'' e1 e2 e3 e4 e5 e6 e7 => ?_)
    have hnst' : ∀ p ∈ νd, p.1 ≠ st := fun p hp => (hnew _ _ (N _ (.head _)).1 p hp).symm
    have hnrl' : ∀ p ∈ νd, p.1 ≠ rl := fun p hp => (hnew _ _ (N _ (.tail _ (.head _))).1 p hp).symm
    have hnκ : ∀ p ∈ κ, ∀ p' ∈ νd, p.1 ≠ p'.1 := fun p hp => hnew _ _ (N p (.tail _ (.tail _ (List.mem_append_right _ hp)))).1
    have hxa : arr.size = rs.length := by
      have h1 := (hrows1 _ hBν).1
      have h2 := congrArg List.length harr
      rw [List.length_map, Array.length_toList] at h2
      (first | lia | omega)
    have N2 := (show News s.heap L h' ((rl, listOf arr nl) :: (st, o') :: (νd ++ (ν ++ κ))) from fun p hp => by
      refine all_cons ?_ (fun p hp => ?_) p hp
      · exact N' _ (.tail _ (List.mem_append_right _ (.head _)))
      refine all_cons ?_ (fun p hp => ?_) p hp
      · exact N' _ (.head _)
      refine all_app (fun p hp => ?_) (fun p hp => ?_) p hp
      · exact N' p (.tail _ (List.mem_append_left _ hp))
      · exact N' p (.tail _ (List.mem_append_right _ (.tail _ hp))))
    have hTrl : ∀ p ∈ (st, o') :: (νd ++ (ν ++ κ)), p.1 ≠ rl := fun p hp => by
      refine all_cons ?_ (fun p hp => ?_) p hp
      · exact hrst.symm
      refine all_app (fun p hp => ?_) (fun p hp => ?_) p hp
      · exact hnrl' p hp
      refine all_app (fun p hp => ?_) (fun p hp => ?_) p hp
      · exact (hν1 p hp).2
      · exact hκ p hp _ (.tail _ (.head _))
    clear F N N' hnew
    (((repeat' ((fail_if_success ((with_reducible (first | (show wpAny _ _ (pyIter _) _ _ _) | (show wpAny _ _ (call (Value.builtin "list.append") _) _ _ _) | (show wpAny _ _ (eval (PySem.Expr.ListComp _ _ _ _) _) _ _ _) | (show wpAny _ _ (eval (PySem.Expr.Dict (_ :: _) _ _) _) _ _ _) | (show CutAt _ _ _ _ _ _ _) | (show CutSt _ _ _ _ _ _ _) | (show wpAny _ _ (exec (Stmt.If _ _ _ _) _) _ _ _) | (show wpAny _ _ (exec (Stmt.For _ _ _ _ _) _) _ _ _) | (show TurnPostG _ _ _ _ _ _ _ _))))); (first | walk1 | (dsimp only; walk1) | (k_unfold; (try dsimp only)) | (refine hKS _ _ ?_; clear hKS KS; (try dsimp only))))); (all_goals (try dsimp only)); (all_goals (repeat ((((fail_if_success (with_reducible show wpAny _ _ _ _ _ _)); (refine (‹∀ (x : _) (y : Shared), _ → _›) _ _ ?_); (try dsimp only))))))))
    rename Fr _ _ _ _ => F
    rename News _ _ _ _ => N
    refine append_K F N (.head hTrl) (fun h₃ F₃ N₃ => ?_) (by rw [sizeLine_eq]; (first | lia | omega))
    clear F N
    (((repeat' ((fail_if_success ((with_reducible (first | (show wpAny _ _ (pyIter _) _ _ _) | (show wpAny _ _ (call (Value.builtin "list.append") _) _ _ _) | (show wpAny _ _ (eval (PySem.Expr.ListComp _ _ _ _) _) _ _ _) | (show wpAny _ _ (eval (PySem.Expr.Dict (_ :: _) _ _) _) _ _ _) | (show CutAt _ _ _ _ _ _ _) | (show CutSt _ _ _ _ _ _ _) | (show wpAny _ _ (exec (Stmt.If _ _ _ _) _) _ _ _) | (show wpAny _ _ (exec (Stmt.For _ _ _ _ _) _) _ _ _) | (show TurnPostG _ _ _ _ _ _ _ _))))); (first | walk1 | (dsimp only; walk1) | (k_unfold; (try dsimp only)) | (refine hKS _ _ ?_; clear hKS KS; (try dsimp only))))); (all_goals (try dsimp only)); (all_goals (repeat ((((fail_if_success (with_reducible show wpAny _ _ _ _ _ _)); (refine (‹∀ (x : _) (y : Shared), _ → _›) _ _ ?_); (try dsimp only))))))))
    refine ⟨_, _, _, (st, o') :: (rl, listOf (arr.push (.ref a')) (nl + 1)) :: (νd ++ ν), rfl, F₃, (fun p hp => ?_), ?_, o', n'', r'', t1, t2, arr.push (.ref a'), xs ++ [a'], qs ++ [q], rs ++ [r], νd ++ ν, nl + 1, rfl, hdo', by (first | lia | omega), by (first | lia | omega), ?_, ?_, (fun H B => hnum1 H fun p hp => B p (List.mem_append_right _ hp)), (fun H B => ?_), (fun p hp => ?_), ?_, ?_, m1, m2, tc, m3⟩
    · have hp : p ∈ (st, o') :: (rl, listOf (arr.push (.ref a')) (nl + 1)) :: ((νd ++ ν) ++ κ) := hp
      refine all_cons ?_ (fun p hp => ?_) p hp
      · exact N₃ _ (.tail _ (.head _))
      refine all_cons ?_ (fun p hp => ?_) p hp
      · exact N₃ _ (.head _)
      · rw [List.append_assoc] at hp
        exact N₃ p (.tail _ (.tail _ hp))
    · intro p hp q' hq'
      refine all_cons ?_ (fun q' hq' => ?_) q' hq'
      · exact hκ p hp (st, o) (.head _)
      refine all_cons ?_ (fun q' hq' => ?_) q' hq'
      · exact hκ p hp (rl, listOf arr nl) (.tail _ (.head _))
      refine all_app (fun q' hq' => ?_) (fun q' hq' => ?_) q' hq'
      · exact hnκ p hp q' hq'
      · exact hκ p hp q' (.tail _ (.tail _ hq'))
    · rw [Array.toList_push, harr, List.map_append]; rfl
    · rw [List.length_append, hrl]; rfl
    · exact (hrows1 H fun p hp => B p (List.mem_append_right _ hp)).app (RowsL.one (hrow H fun p hp => B p (List.mem_append_left _ hp)))
    · refine all_app (fun p hp => ?_) (fun p hp => ?_) p hp
      · exact ⟨hnst' p hp, hnrl' p hp⟩
      · exact hν1 p hp
    · intro k r' hk
      by_cases hkl : k < rs.length
      · rw [List.getElem?_append_left hkl] at hk
        exact hDR k r' hk
      · rw [List.getElem?_append_right (Nat.le_of_not_lt hkl)] at hk
        have hk2 : k = i + 1 := by
          have := (List.getElem?_eq_some_iff.mp hk).1
          simp only [List.length_cons, List.length_nil] at this
          (first | lia | omega)
        rw [hk2, hrl, Nat.sub_self] at hk
        cases hk
        rw [hk2]
        exact ⟨e1, e2, e3, Nat.le_trans e4 (by decide), e5, e6, e7⟩
    · intro r' hr'
      rw [List.getElem?_append_left (by first | exact Nat.le_of_ble_eq_true rfl | assumption | (first | lia | omega))] at hr'
      exact hD0 r' hr'
  · clear F N hR hd2 hnum1 hrows1 hν1 hμ
    intro m₁ μ₁ h tk hRp1
    with_reducible refine gen fun GG kGG => ?_
    obtain ⟨o, n', r', t1, t2, arr, xs, qs, rs, ν, nl, rfl, hdo, hn', hr', harr, hrl, hnum1, hrows1, hν1, hDR, hD0, m1, m2, tc, m3⟩ := hRp1
    with_reducible refine kGG ?_
    clear kGG GG
    intro F N
    (((repeat' ((fail_if_success ((with_reducible (first | (show wpAny _ _ (pyIter _) _ _ _) | (show wpAny _ _ (call (Value.builtin "list.append") _) _ _ _) | (show wpAny _ _ (eval (PySem.Expr.ListComp _ _ _ _) _) _ _ _) | (show wpAny _ _ (eval (PySem.Expr.Dict (_ :: _) _ _) _) _ _ _) | (show CutAt _ _ _ _ _ _ _) | (show CutSt _ _ _ _ _ _ _) | (show wpAny _ _ (exec (Stmt.If _ _ _ _) _) _ _ _) | (show wpAny _ _ (exec (Stmt.For _ _ _ _ _) _) _ _ _) | (show TurnPostG _ _ _ _ _ _ _ _))))); (first | walk1 | (dsimp only; walk1) | (k_unfold; (try dsimp only)) | (refine hKS _ _ ?_; clear hKS KS; (try dsimp only))))); (all_goals (try dsimp only)); (all_goals (repeat ((((fail_if_success (with_reducible show wpAny _ _ _ _ _ _)); (refine (‹∀ (x : _) (y : Shared), _ → _›) _ _ ?_); (try dsimp only))))))))
    with_reducible refine gen fun GG kGG => ?_
    obtain ⟨hB3, hB5⟩ := id hcB
    with_reducible refine kGG ?_
    clear kGG GG
    rename Fr _ _ _ _ => F
    rename News _ _ _ _ => N
    have hμ : ∀ p ∈ (rl, listOf arr nl) :: ν, p.1 ≠ st := fun p hp => by
      refine all_cons ?_ (fun p hp => ?_) p hp
      · exact hrst
      · exact (hν1 p hp).1
    refine pull_L C F N hμ hdo hs2 (fun H B => hnum1 H fun p hp => B p (.tail _ hp)) (by first | exact Nat.le_of_ble_eq_true rfl | assumption | (first | lia | omega)) (by first | exact Nat.le_of_ble_eq_true rfl | assumption | (first | lia | omega)) (by first | exact Nat.le_of_ble_eq_true rfl | assumption | (first | lia | omega)) (fun h' tk' v2 tv2 o3 t1 t2 v20 v21 F' N' hd3 => ?_)
    clear F N hdo hμ
    have hc0 : (0 : Int) < (cnt : Int) := by (first | lia | omega)
    (((repeat' ((fail_if_success ((with_reducible (first | (show wpAny _ _ (pyIter _) _ _ _) | (show wpAny _ _ (call (Value.builtin "list.append") _) _ _ _) | (show wpAny _ _ (eval (PySem.Expr.ListComp _ _ _ _) _) _ _ _) | (show wpAny _ _ (eval (PySem.Expr.Dict (_ :: _) _ _) _) _ _ _) | (show CutAt _ _ _ _ _ _ _) | (show CutSt _ _ _ _ _ _ _) | (show wpAny _ _ (exec (Stmt.If _ _ _ _) _) _ _ _) | (show wpAny _ _ (exec (Stmt.For _ _ _ _ _) _) _ _ _) | (show TurnPostG _ _ _ _ _ _ _ _))))); (first | walk1 | (dsimp only; walk1) | (k_unfold; (try dsimp only)) | (refine hKS _ _ ?_; clear hKS KS; (try dsimp only))))); (all_goals (try dsimp only)); (all_goals (repeat ((((fail_if_success (with_reducible show wpAny _ _ _ _ _ _)); (refine (‹∀ (x : _) (y : Shared), _ → _›) _ _ ?_); (try dsimp only))))))))
    rename Fr _ _ _ _ => F
    rename News _ _ _ _ => N
    rename Obj.IsDictOf (PySem.strKind _ _) _ [] => hdd
    rename (_ == sysModules) = false => lod
    rename_i D4 _ z4 D3 _ z3 D2 _ z2 D1 _ z1 D0 _ z0 li _ zl d' hh od _ _ _ zd
    have hoth0 := other_f (v := v2) (c := cnt) hc0
    have hne5 : (d' ≠ st ∧ d' ≠ rl) ∧ (li ≠ st ∧ li ≠ rl) ∧ (D0 ≠ st ∧ D0 ≠ rl) ∧ (D1 ≠ st ∧ D1 ≠ rl) ∧ (D2 ≠ st ∧ D2 ≠ rl) ∧ (D3 ≠ st ∧ D3 ≠ rl) ∧ (D4 ≠ st ∧ D4 ≠ rl) :=
      ⟨⟨Nat.ne_of_gt zd.2.2.2.2.2.2.1, Nat.ne_of_gt zd.2.2.2.2.2.2.2.1⟩, ⟨Nat.ne_of_gt zl.2.2.2.2.2.1, Nat.ne_of_gt zl.2.2.2.2.2.2.1⟩, ⟨Nat.ne_of_gt z0.2.2.2.2.1, Nat.ne_of_gt z0.2.2.2.2.2.1⟩, ⟨Nat.ne_of_gt z1.2.2.2.1, Nat.ne_of_gt z1.2.2.2.2.1⟩,
       ⟨Nat.ne_of_gt z2.2.2.1, Nat.ne_of_gt z2.2.2.2.1⟩, ⟨Nat.ne_of_gt z3.2.1, Nat.ne_of_gt z3.2.2.1⟩, ⟨Nat.ne_of_gt z4.1, Nat.ne_of_gt z4.2.1⟩⟩
    clear z4 z3 z2 z1 z0 zl zd
    obtain ⟨b4, b3, b2, b1, b0, N, B4, B3, B2, B1, B0⟩ : ∃ b4 b3 b2 b1 b0 : Obj, News s.heap L hh ((d', od) :: (li, listOf ([.ref D4, .ref D3, .ref D2, .ref D1, .ref D0] : List Value).toArray 0) :: (D0, b0) :: (D1, b1) :: (D2, b2) :: (D3, b3) :: (D4, b4) :: (st, o3) :: (rl, listOf arr nl) :: ν) ∧
        (∀ H : Heap, H.get? D4 = some b4 → ValAt H (.ref D4) (.obj (1 : Int).toNat)) ∧ (∀ H : Heap, H.get? D3 = some b3 → ValAt H (.ref D3) (.obj (1 + v2.fmod (cnt : Int)).toNat)) ∧ (∀ H : Heap, H.get? D2 = some b2 → ValAt H (.ref D2) (.obj (2 : Int).toNat)) ∧
        (∀ H : Heap, H.get? D1 = some b1 → ValAt H (.ref D1) (.obj (1 : Int).toNat)) ∧ (∀ H : Heap, H.get? D0 = some b0 → ValAt H (.ref D0) (.obj (2 : Int).toNat)) :=
      ⟨_, _, _, _, _, N, fun H h => tup_valI h (by decide), fun H h => tup_valI h hoth0.1, fun H h => tup_valI h (by decide), fun H h => tup_valI h (by decide), fun H h => tup_valI h (by decide)⟩
    refine row_spec (Cb.at0 C F (by first | exact Nat.le_of_ble_eq_true rfl | assumption | (first | lia | omega)) (by first | exact Nat.le_of_ble_eq_true rfl | assumption | (first | lia | omega))) (fun h' tk' a o4 t1' t2' M hdr lor => ?_)
    have N' := News.made F N M
    have F' := Fr.made F M
    have hast : a ≠ st := fun q => by
      have z := (N (st, o3) (.tail _ (.tail _ (.tail _ (.tail _ (.tail _ (.tail _ (.tail _ (.head _))))))))).1
      have y := M.2.1
      rw [show a = st from q, z] at y; cases y
    have harl : a ≠ rl := fun q => by
      have z := (N (rl, listOf arr nl) (.tail _ (.tail _ (.tail _ (.tail _ (.tail _ (.tail _ (.tail _ (.tail _ (.head _)))))))))).1
      have y := M.2.1
      rw [show a = rl from q, z] at y; cases y
    clear F N M
    with_reducible refine gen fun GG kGG => ?_
    obtain ⟨νr, hνr⟩ : ∃ νr : List (Addr × Obj), νr = [(a, o4), (d', od), (li, listOf ([.ref D4, .ref D3, .ref D2, .ref D1, .ref D0] : List Value).toArray 0), (D0, b0), (D1, b1), (D2, b2), (D3, b3), (D4, b4)] := ⟨_, rfl⟩
    with_reducible refine kGG ?_
    clear kGG GG
    have hrow5 : ∀ H, Blk H νr → RowAt prog w H a ⟨[.ref D4, .ref D3, .ref D2, .ref D1, .ref D0], []⟩ ⟨1, 0, [.obj (1 : Int).toNat, .obj (1 + v2.fmod (cnt : Int)).toNat, .obj (2 : Int).toNat, .obj (1 : Int).toNat, .obj (2 : Int).toNat], []⟩ := fun H B => by
      rw [hνr] at B
      exact ⟨⟨li, d', t1', t2', Heap.dictOf_iff.mpr ⟨o4, B _ (.head _), hdr⟩, lor, ⟨_, B _ (.tail _ (.tail _ (.head _))), rfl, _, rfl⟩, Heap.dictOf_iff.mpr ⟨od, B _ (.tail _ (.head _)), hdd⟩, lod⟩,
        .cons (B4 H (B _ (.tail _ (.tail _ (.tail _ (.tail _ (.tail _ (.tail _ (.tail _ (.head _)))))))))) (.cons (B3 H (B _ (.tail _ (.tail _ (.tail _ (.tail _ (.tail _ (.tail _ (.head _))))))))) (.cons (B2 H (B _ (.tail _ (.tail _ (.tail _ (.tail _ (.tail _ (.head _)))))))) (.cons (B1 H (B _ (.tail _ (.tail _ (.tail _ (.tail _ (.head _))))))) (.cons (B0 H (B _ (.tail _ (.tail _ (.tail _ (.head _)))))) .nil)))), .nil⟩
    have hνr1 : ∀ p ∈ νr, p.1 ≠ st ∧ p.1 ≠ rl := fun p hp => by
      rw [hνr] at hp
      simp only [List.mem_cons, List.not_mem_nil, or_false] at hp
      with_reducible refine gen fun GG kGG => ?_
      obtain ⟨y1, y2, y3, y4, y5, y6, y7⟩ := hne5
      with_reducible refine kGG ?_
      clear kGG GG
      rcases hp with rfl | rfl | rfl | rfl | rfl | rfl | rfl | rfl
      · exact ⟨hast, harl⟩
      · exact y1
      · exact y2
      · exact y3
      · exact y4
      · exact y5
      · exact y6
      · exact y7
    have N2 := (show News s.heap L h' ((rl, listOf arr nl) :: (st, o3) :: (νr ++ ν)) from fun p hp => by
      refine all_cons ?_ (fun p hp => ?_) p hp
      · exact N' _ (.tail _ (.tail _ (.tail _ (.tail _ (.tail _ (.tail _ (.tail _ (.tail _ (.tail _ (.head _))))))))))
      refine all_cons ?_ (fun p hp => ?_) p hp
      · exact N' _ (.tail _ (.tail _ (.tail _ (.tail _ (.tail _ (.tail _ (.tail _ (.tail _ (.head _)))))))))
      refine all_app (fun p hp => ?_) (fun p hp => ?_) p hp
      · rw [hνr] at hp
        exact N' p (List.mem_append_left ((st, o3) :: (rl, listOf arr nl) :: ν) hp)
      · exact N' p (.tail _ (.tail _ (.tail _ (.tail _ (.tail _ (.tail _ (.tail _ (.tail _ (.tail _ (.tail _ hp)))))))))))
    have hBν : Blk h' ν := fun p hp => (N2 p (.tail _ (.tail _ (List.mem_append_right _ hp)))).1
    have hxa : arr.size = rs.length := by
      have h1 := (hrows1 _ hBν).1
      have h2 := congrArg List.length harr
      rw [List.length_map, Array.length_toList] at h2
      (first | lia | omega)
    clear N' hast harl hne5 hνr B0 B1 B2 B3 B4 hdd lod hdr lor hBν
    (((repeat' ((fail_if_success ((with_reducible (first | (show wpAny _ _ (pyIter _) _ _ _) | (show wpAny _ _ (call (Value.builtin "list.append") _) _ _ _) | (show wpAny _ _ (eval (PySem.Expr.ListComp _ _ _ _) _) _ _ _) | (show wpAny _ _ (eval (PySem.Expr.Dict (_ :: _) _ _) _) _ _ _) | (show CutAt _ _ _ _ _ _ _) | (show CutSt _ _ _ _ _ _ _) | (show wpAny _ _ (exec (Stmt.If _ _ _ _) _) _ _ _) | (show wpAny _ _ (exec (Stmt.For _ _ _ _ _) _) _ _ _) | (show TurnPostG _ _ _ _ _ _ _ _))))); (first | walk1 | (dsimp only; walk1) | (k_unfold; (try dsimp only)) | (refine hKS _ _ ?_; clear hKS KS; (try dsimp only))))); (all_goals (try dsimp only)); (all_goals (repeat ((((fail_if_success (with_reducible show wpAny _ _ _ _ _ _)); (refine (‹∀ (x : _) (y : Shared), _ → _›) _ _ ?_); (try dsimp only))))))))
    rename Fr _ _ _ _ => F
    rename News _ _ _ _ => N
    refine append_K F N (.head fun p hp => ?_) (fun h₃ F₃ N₃ => ?_) (by rw [sizeLine_eq]; (first | lia | omega))
    · refine all_cons ?_ (fun p hp => ?_) p hp
      · exact hrst.symm
      refine all_app (fun p hp => ?_) (fun p hp => ?_) p hp
      · exact (hνr1 p hp).2
      · exact (hν1 p hp).2
    clear F N
    have N := (show News s.heap L h₃ ((st, o3) :: (rl, listOf (arr.push (.ref a)) (nl + 1)) :: (νr ++ ν)) from fun p hp => by
      refine all_cons ?_ (fun p hp => ?_) p hp
      · exact N₃ _ (.tail _ (.head _))
      refine all_cons ?_ (fun p hp => ?_) p hp
      · exact N₃ _ (.head _)
      · exact N₃ p (.tail _ (.tail _ hp)))
    clear N₃
    (((repeat' ((fail_if_success ((with_reducible (first | (show wpAny _ _ (pyIter _) _ _ _) | (show wpAny _ _ (call (Value.builtin "list.append") _) _ _ _) | (show wpAny _ _ (eval (PySem.Expr.ListComp _ _ _ _) _) _ _ _) | (show wpAny _ _ (eval (PySem.Expr.Dict (_ :: _) _ _) _) _ _ _) | (show CutAt _ _ _ _ _ _ _) | (show CutSt _ _ _ _ _ _ _) | (show wpAny _ _ (exec (Stmt.If _ _ _ _) _) _ _ _) | (show wpAny _ _ (exec (Stmt.For _ _ _ _ _) _) _ _ _) | (show TurnPostG _ _ _ _ _ _ _ _))))); (first | walk1 | (dsimp only; walk1) | (k_unfold; (try dsimp only)) | (refine hKS _ _ ?_; clear hKS KS; (try dsimp only))))); (all_goals (try dsimp only)); (all_goals (repeat ((((fail_if_success (with_reducible show wpAny _ _ _ _ _ _)); (refine (‹∀ (x : _) (y : Shared), _ → _›) _ _ ?_); (try dsimp only))))))))
    rename Fr _ _ _ _ => F
    rename News _ _ _ _ => N
    have hnumR : ∀ H, Blk H (νr ++ ν) → NumsAt H num us ms := fun H B => hnum1 H fun p hp => B p (List.mem_append_right _ hp)
    have hrowsR : ∀ H, Blk H (νr ++ ν) → RowsL prog w H (xs ++ [a]) (qs ++ [⟨[.ref D4, .ref D3, .ref D2, .ref D1, .ref D0], []⟩]) (rs ++ [⟨1, 0, [.obj (1 : Int).toNat, .obj (1 + v2.fmod (cnt : Int)).toNat, .obj (2 : Int).toNat, .obj (1 : Int).toNat, .obj (2 : Int).toNat], []⟩]) := fun H B =>
      (hrows1 H fun p hp => B p (List.mem_append_right _ hp)).app (RowsL.one (hrow5 H fun p hp => B p (List.mem_append_left _ hp)))
    have hνR : ∀ p ∈ νr ++ ν, p.1 ≠ st ∧ p.1 ≠ rl := fun p hp => by
      refine all_app (fun p hp => ?_) (fun p hp => ?_) p hp
      · exact hνr1 p hp
      · exact hν1 p hp
    have harrR : (arr.push (.ref a)).toList = (xs ++ [a]).map Value.ref := by rw [Array.toList_push, harr, List.map_append]; rfl
    generalize νr ++ ν = νR at N hnumR hrowsR hνR
    clear hrow5 hνr1 hν1 hnum1 hrows1 harr hxa
    have hμ : ∀ p ∈ (rl, listOf (arr.push (.ref a)) (nl + 1)) :: νR, p.1 ≠ st := fun p hp => by
      refine all_cons ?_ (fun p hp => ?_) p hp
      · exact hrst
      · exact (hνR p hp).1
    rw [show (cnt : Int) + 2 = ((cnt + 2 : Nat) : Int) from by push_cast; rfl] at F
    refine For_invV s.heap rfl rfl ?_
    (((repeat' ((fail_if_success ((with_reducible (first | (show wpAny _ _ (pyIter _) _ _ _) | (show wpAny _ _ (call (Value.builtin "list.append") _) _ _ _) | (show wpAny _ _ (eval (PySem.Expr.ListComp _ _ _ _) _) _ _ _) | (show wpAny _ _ (eval (PySem.Expr.Dict (_ :: _) _ _) _) _ _ _) | (show CutAt _ _ _ _ _ _ _) | (show CutSt _ _ _ _ _ _ _) | (show wpAny _ _ (exec (Stmt.If _ _ _ _) _) _ _ _) | (show wpAny _ _ (exec (Stmt.For _ _ _ _ _) _) _ _ _) | (show TurnPostG _ _ _ _ _ _ _ _))))); (first | walk1 | (dsimp only; walk1) | (k_unfold; (try dsimp only)) | (refine hKS _ _ ?_; clear hKS KS; (try dsimp only))))); (all_goals (try dsimp only)); (all_goals (repeat ((((fail_if_success (with_reducible show wpAny _ _ _ _ _ _)); (refine (‹∀ (x : _) (y : Shared), _ → _›) _ _ ?_); (try dsimp only))))))))
    rename Fr _ _ _ _ => F
    rename News _ _ _ _ => N
    refine pull_L C F N hμ hd3 hs2 (fun H B => hnumR H fun p hp => B p (.tail _ hp)) (by first | exact Nat.le_of_ble_eq_true rfl | assumption | (first | lia | omega)) (by first | exact Nat.le_of_ble_eq_true rfl | assumption | (first | lia | omega)) (by first | exact Nat.le_of_ble_eq_true rfl | assumption | (first | lia | omega)) (fun h' tk' v3 tv3 o5 t1 t2 v30 v31 F' N' hd5 => ?_)
    clear F N hd3 hμ
    (((repeat' ((fail_if_success ((with_reducible (first | (show wpAny _ _ (pyIter _) _ _ _) | (show wpAny _ _ (call (Value.builtin "list.append") _) _ _ _) | (show wpAny _ _ (eval (PySem.Expr.ListComp _ _ _ _) _) _ _ _) | (show wpAny _ _ (eval (PySem.Expr.Dict (_ :: _) _ _) _) _ _ _) | (show CutAt _ _ _ _ _ _ _) | (show CutSt _ _ _ _ _ _ _) | (show wpAny _ _ (exec (Stmt.If _ _ _ _) _) _ _ _) | (show wpAny _ _ (exec (Stmt.For _ _ _ _ _) _) _ _ _) | (show TurnPostG _ _ _ _ _ _ _ _))))); (first | walk1 | (dsimp only; walk1) | (k_unfold; (try dsimp only)) | (refine hKS _ _ ?_; clear hKS KS; (try dsimp only))))); (all_goals (try dsimp only)); (all_goals (repeat ((((fail_if_success (with_reducible show wpAny _ _ _ _ _ _)); (refine (‹∀ (x : _) (y : Shared), _ → _›) _ _ ?_); (try dsimp only))))))))
    rename Fr _ _ _ _ => F
    rename News _ _ _ _ => N
    refine nest_L v30 v31 (by first | exact Nat.le_of_ble_eq_true rfl | assumption | (first | lia | omega)) C F N (by first | exact Nat.le_of_ble_eq_true rfl | assumption | (first | lia | omega)) (by first | exact Nat.le_of_ble_eq_true rfl | assumption | (first | lia | omega)) (fun h' tk' lr xn qn rn νn F' N' hnew hnlr hlrn hlist hrowsN hlen16 hNR => ?_)
    have hνn : ∀ p ∈ νn, p.1 ≠ st ∧ p.1 ≠ rl := fun p hp => ⟨(hnew _ _ (N _ (.head _)).1 p hp).symm, (hnew _ _ (N _ (.tail _ (.head _))).1 p hp).symm⟩
    have hlr1 : st ≠ lr := hnlr _ _ (N _ (.head _)).1
    have hlr2 : rl ≠ lr := hnlr _ _ (N _ (.tail _ (.head _))).1
    have hlr3 : ∀ p ∈ νR, p.1 ≠ lr := fun p hp => hnlr _ _ (N p (.tail _ (.tail _ hp))).1
    have hlrL : lr ≠ L := fun q => by
      obtain ⟨oL, _, _, hL, _⟩ := F.ns
      exact hnlr _ _ hL q.symm
    clear F N hnew hnlr
    have N := (show News s.heap L h' ((st, o5) :: (rl, listOf (arr.push (.ref a)) (nl + 1)) :: (νn ++ νR)) from fun p hp => by
      refine all_cons ?_ (fun p hp => ?_) p hp
      · exact N' _ (List.mem_append_right _ (.head _))
      refine all_cons ?_ (fun p hp => ?_) p hp
      · exact N' _ (List.mem_append_right _ (.tail _ (.head _)))
      refine all_app (fun p hp => ?_) (fun p hp => ?_) p hp
      · exact N' p (List.mem_append_left _ hp)
      · exact N' p (List.mem_append_right _ (.tail _ (.tail _ hp))))
    have F := F'
    clear F' N'
    (((repeat' ((fail_if_success ((with_reducible (first | (show wpAny _ _ (pyIter _) _ _ _) | (show wpAny _ _ (call (Value.builtin "list.append") _) _ _ _) | (show wpAny _ _ (eval (PySem.Expr.ListComp _ _ _ _) _) _ _ _) | (show wpAny _ _ (eval (PySem.Expr.Dict (_ :: _) _ _) _) _ _ _) | (show CutAt _ _ _ _ _ _ _) | (show CutSt _ _ _ _ _ _ _) | (show wpAny _ _ (exec (Stmt.If _ _ _ _) _) _ _ _) | (show wpAny _ _ (exec (Stmt.For _ _ _ _ _) _) _ _ _) | (show TurnPostG _ _ _ _ _ _ _ _))))); (first | walk1 | (dsimp only; walk1) | (k_unfold; (try dsimp only)) | (refine hKS _ _ ?_; clear hKS KS; (try dsimp only))))); (all_goals (try dsimp only)); (all_goals (repeat ((((fail_if_success (with_reducible show wpAny _ _ _ _ _ _)); (refine (‹∀ (x : _) (y : Shared), _ → _›) _ _ ?_); (try dsimp only))))))))
    rename Fr _ _ _ _ => F
    rename News _ _ _ _ => N
    have hxn : xn.length = 16 := by
      rw [← hlen16]; exact (hrowsN _ fun p hp => (N p (.tail _ (.tail _ (List.mem_append_left _ hp)))).1).1
    have hxR : (xs ++ [a]).length = (rs ++ [(⟨1, 0, [.obj (1 : Int).toNat, .obj (1 + v2.fmod (cnt : Int)).toNat, .obj (2 : Int).toNat, .obj (1 : Int).toNat, .obj (2 : Int).toNat], []⟩ : Rw)]).length := (hrowsR _ fun p hp => (N p (.tail _ (.tail _ (List.mem_append_right _ hp)))).1).1
    have hxR2 : (xs ++ [a]).length = cnt + 2 := by rw [hxR, List.length_append, hrl]; rfl
    refine loop_grList (fun j m₁ μ₁ => ∃ (ar : Array Value) (na : Nat), μ₁ = (st, o5) :: (rl, listOf ar na) :: (νn ++ νR) ∧ ar.toList = (xs ++ [a] ++ xn.take j).map Value.ref ∧
        m₁ (Str.ofString "st") = some (.ref st) ∧ m₁ (Str.ofString "rows") = some (.ref rl) ∧ (∃ tc, m₁ (Str.ofString "count") = some (.int (cnt : Int) tc)) ∧ (∃ tc, m₁ (Str.ofString "start") = some (.int ((cnt + 2 : Nat) : Int) tc)))
      (Cb.hd C) hlist hlrL ?_ F N ⟨_, _, rfl, by rw [List.take_zero, List.append_nil]; exact harrR, m1, m2, ⟨_, m3⟩, _, rfl⟩ ?_ ?_
    · intro p hp
      refine all_cons ?_ (fun p hp => ?_) p hp
      · exact hlr1
      refine all_cons ?_ (fun p hp => ?_) p hp
      · exact hlr2
      refine all_app (fun p hp => ?_) (fun p hp => ?_) p hp
      · exact hlrn p hp
      · exact hlr3 p hp
    · clear F N m1 m2 m3
      intro j v m₁ μ₁ h tk κ hv hRp1
      with_reducible refine gen fun GG kGG => ?_
      obtain ⟨ar, na, rfl, har, m1, m2, ⟨tc1, m3⟩, tc2, m4⟩ := hRp1
      with_reducible refine kGG ?_
      clear kGG GG
      intro F N hκ
      with_reducible refine hideQ fun KK hKK => ?_
      rw [List.getElem?_map] at hv
      with_reducible refine gen fun GG kGG => ?_
      obtain ⟨y, hy, rfl⟩ := Option.map_eq_some_iff.mp hv
      with_reducible refine kGG ?_
      clear kGG GG
      have hj : j < 16 := by rw [← hxn]; exact (List.getElem?_eq_some_iff.mp hy).1
      have N := (show News s.heap _ h ((st, o5) :: (rl, listOf ar na) :: ((νn ++ νR) ++ κ)) from N)
      (((repeat' ((fail_if_success ((with_reducible (first | (show wpAny _ _ (pyIter _) _ _ _) | (show wpAny _ _ (call (Value.builtin "list.append") _) _ _ _) | (show wpAny _ _ (eval (PySem.Expr.ListComp _ _ _ _) _) _ _ _) | (show wpAny _ _ (eval (PySem.Expr.Dict (_ :: _) _ _) _) _ _ _) | (show CutAt _ _ _ _ _ _ _) | (show CutSt _ _ _ _ _ _ _) | (show wpAny _ _ (exec (Stmt.If _ _ _ _) _) _ _ _) | (show wpAny _ _ (exec (Stmt.For _ _ _ _ _) _) _ _ _) | (show TurnPostG _ _ _ _ _ _ _ _))))); (first | walk1 | (dsimp only; walk1) | (k_unfold; (try dsimp only)) | (refine hKS _ _ ?_; clear hKS KS; (try dsimp only))))); (all_goals (try dsimp only)); (all_goals (repeat ((((fail_if_success (with_reducible show wpAny _ _ _ _ _ _)); (refine (‹∀ (x : _) (y : Shared), _ → _›) _ _ ?_); (try dsimp only))))))))
      rename Fr _ _ _ _ => F
      rename News _ _ _ _ => N
      have N2 := (show News s.heap L _ ((rl, listOf ar na) :: (st, o5) :: ((νn ++ νR) ++ κ)) from fun p hp => by
        refine all_cons ?_ (fun p hp => ?_) p hp
        · exact N _ (.tail _ (.head _))
        refine all_cons ?_ (fun p hp => ?_) p hp
        · exact N _ (.head _)
        · exact N p (.tail _ (.tail _ hp)))
      have hsz : ar.size ≤ 100 := by
        have h2 := congrArg List.length har
        rw [List.length_map, Array.length_toList, List.length_append, List.length_take, hxR2] at h2
        (first | lia | omega)
      refine append_K F N2 (.head fun p hp => ?_) (fun h₃ F₃ N₃ => ?_) (by rw [sizeLine_eq]; (first | lia | omega))
      · refine all_cons ?_ (fun p hp => ?_) p hp
        · exact hrst.symm
        refine all_app (fun p hp => ?_) (fun p hp => ?_) p hp
        · refine all_app (fun p hp => ?_) (fun p hp => ?_) p hp
          · exact (hνn p hp).2
          · exact (hνR p hp).2
        · exact hκ p hp _ (.tail _ (.head _))
      clear F N N2
      (((repeat' ((fail_if_success ((with_reducible (first | (show wpAny _ _ (pyIter _) _ _ _) | (show wpAny _ _ (call (Value.builtin "list.append") _) _ _ _) | (show wpAny _ _ (eval (PySem.Expr.ListComp _ _ _ _) _) _ _ _) | (show wpAny _ _ (eval (PySem.Expr.Dict (_ :: _) _ _) _) _ _ _) | (show CutAt _ _ _ _ _ _ _) | (show CutSt _ _ _ _ _ _ _) | (show wpAny _ _ (exec (Stmt.If _ _ _ _) _) _ _ _) | (show wpAny _ _ (exec (Stmt.For _ _ _ _ _) _) _ _ _) | (show TurnPostG _ _ _ _ _ _ _ _))))); (first | walk1 | (dsimp only; walk1) | (k_unfold; (try dsimp only)) | (refine hKS _ _ ?_; clear hKS KS; (try dsimp only))))); (all_goals (try dsimp only)); (all_goals (repeat ((((fail_if_success (with_reducible show wpAny _ _ _ _ _ _)); (refine (‹∀ (x : _) (y : Shared), _ → _›) _ _ ?_); (try dsimp only))))))))
      refine ⟨_, _, _, (st, o5) :: (rl, listOf (ar.push (.ref y)) (na + 1)) :: (νn ++ νR), rfl, F₃, (fun p hp => ?_), ?_, ar.push (.ref y), na + 1, rfl, ?_, m1, m2, ⟨tc1, m3⟩, tc2, m4⟩
      · have hp : p ∈ (st, o5) :: (rl, listOf (ar.push (.ref y)) (na + 1)) :: ((νn ++ νR) ++ κ) := hp
        refine all_cons ?_ (fun p hp => ?_) p hp
        · exact N₃ _ (.tail _ (.head _))
        refine all_cons ?_ (fun p hp => ?_) p hp
        · exact N₃ _ (.head _)
        · exact N₃ p (.tail _ (.tail _ hp))
      · intro p hp q' hq'
        refine all_cons ?_ (fun q' hq' => ?_) q' hq'
        · exact hκ p hp (st, o5) (.head _)
        refine all_cons ?_ (fun q' hq' => ?_) q' hq'
        · exact hκ p hp (rl, listOf ar na) (.tail _ (.head _))
        · exact hκ p hp q' (.tail _ (.tail _ hq'))
      · rw [Array.toList_push, har, take_one hy, ← List.append_assoc, List.map_append (l₂ := [y])]; rfl
    · clear F N m1 m2 m3
      intro m₁ μ₁ h tk hRp1
      with_reducible refine gen fun GG kGG => ?_
      obtain ⟨ar, na, rfl, har, m1, m2, ⟨tc1, m3⟩, tc2, m4⟩ := hRp1
      with_reducible refine kGG ?_
      clear kGG GG
      intro F N
      rw [List.length_map, List.take_length] at har
      (((repeat' ((fail_if_success ((with_reducible (first | (show wpAny _ _ (pyIter _) _ _ _) | (show wpAny _ _ (call (Value.builtin "list.append") _) _ _ _) | (show wpAny _ _ (eval (PySem.Expr.ListComp _ _ _ _) _) _ _ _) | (show wpAny _ _ (eval (PySem.Expr.Dict (_ :: _) _ _) _) _ _ _) | (show CutAt _ _ _ _ _ _ _) | (show CutSt _ _ _ _ _ _ _) | (show wpAny _ _ (exec (Stmt.If _ _ _ _) _) _ _ _) | (show wpAny _ _ (exec (Stmt.For _ _ _ _ _) _) _ _ _) | (show TurnPostG _ _ _ _ _ _ _ _))))); (first | walk1 | (dsimp only; walk1) | (k_unfold; (try dsimp only)) | (refine hKS _ _ ?_; clear hKS KS; (try dsimp only))))); (all_goals (try dsimp only)); (all_goals (repeat ((((fail_if_success (with_reducible show wpAny _ _ _ _ _ _)); (refine (‹∀ (x : _) (y : Shared), _ → _›) _ _ ?_); (try dsimp only))))))))
      rename Fr _ _ _ _ => F
      rename News _ _ _ _ => N
      refine heap_L (by rfl) C (by first | exact Nat.le_of_ble_eq_true rfl | assumption | (first | lia | omega)) (by first | exact Nat.le_of_ble_eq_true rfl | assumption | (first | lia | omega)) F N (fun h' tk' hx dh tl eh nh h3 F' N' hoff hxt hdt => ?_)
      clear F N
      with_reducible refine gen fun GG kGG => ?_
      obtain ⟨oth, hoth⟩ : ∃ oth : Nat, oth = (1 + v2.fmod (cnt : Int)).toNat := ⟨_, rfl⟩
      with_reducible refine kGG ?_
      clear kGG GG
      have hothc : oth ≤ cnt := by have := other_f (v := v2) (c := cnt) hc0; (first | lia | omega)
      have LR : LawRows cnt rs rn (rs ++ [row5 oth] ++ rn) oth := ⟨rfl, hB3, hB5, hrl, hDR, hD0, hothc, hlen16, hNR⟩
      have hrowsA : ∀ H, Blk H (νn ++ νR) → RowsL prog w H (xs ++ [a] ++ xn) (qs ++ [⟨[.ref D4, .ref D3, .ref D2, .ref D1, .ref D0], []⟩] ++ qn) (rs ++ [row5 oth] ++ rn) := fun H B => by
        rw [hoth]
        exact (hrowsR H fun p hp => B p (List.mem_append_right _ hp)).app (hrowsN H fun p hp => B p (List.mem_append_left _ hp))
      have hnumA : ∀ H, Blk H (νn ++ νR) → NumsAt H num us ms := fun H B => hnumR H fun p hp => B p (List.mem_append_right _ hp)
      have hνA : ∀ p ∈ νn ++ νR, p.1 ≠ st ∧ p.1 ≠ rl := fun p hp => by
        refine all_app (fun p hp => ?_) (fun p hp => ?_) p hp
        · exact hνn p hp
        · exact hνR p hp
      generalize xs ++ [a] ++ xn = XS at har hrowsA
      generalize qs ++ [⟨[.ref D4, .ref D3, .ref D2, .ref D1, .ref D0], []⟩] ++ qn = QS at hrowsA
      generalize rs ++ [row5 oth] ++ rn = RS at LR hrowsA
      generalize νn ++ νR = νA at N' hnumA hνA hrowsA hoff
      clear hrowsR hrowsN hnumR hνn hνR hDR hD0 hNR hlist hlr1 hlr2 hlr3 hlrn hlrL hxR hxR2 hxn harrR
      (((repeat' ((fail_if_success ((with_reducible (first | (show wpAny _ _ (pyIter _) _ _ _) | (show wpAny _ _ (call (Value.builtin "list.append") _) _ _ _) | (show wpAny _ _ (eval (PySem.Expr.ListComp _ _ _ _) _) _ _ _) | (show wpAny _ _ (eval (PySem.Expr.Dict (_ :: _) _ _) _) _ _ _) | (show CutAt _ _ _ _ _ _ _) | (show CutSt _ _ _ _ _ _ _) | (show wpAny _ _ (exec (Stmt.If _ _ _ _) _) _ _ _) | (show wpAny _ _ (exec (Stmt.For _ _ _ _ _) _) _ _ _) | (show TurnPostG _ _ _ _ _ _ _ _))))); (first | walk1 | (dsimp only; walk1) | (k_unfold; (try dsimp only)) | (refine hKS _ _ ?_; clear hKS KS; (try dsimp only))))); (all_goals (try dsimp only)); (all_goals (repeat ((((fail_if_success (with_reducible show wpAny _ _ _ _ _ _)); (refine (‹∀ (x : _) (y : Shared), _ → _›) _ _ ?_); (try dsimp only))))))))
      rename Fr _ _ _ _ => F
      rename News _ _ _ _ => N
      have hBA : Blk _ νA := fun p hp => (N p (.tail _ (.tail _ (.tail _ (.tail _ (.tail _ hp)))))).1
      have hRLn := hrowsA _ hBA
      have hsts : ∀ p ∈ (hx, instObj 113 dh) :: (dh, dictOf eh nh) :: (st, o5) :: (rl, listOf ar na) :: νA, p.1 ≠ tl := fun p hp => by
        refine all_cons ?_ (fun p hp => ?_) p hp
        · exact hxt
        refine all_cons ?_ (fun p hp => ?_) p hp
        · exact hdt
        · exact (hoff p hp).1
      have hsx := hoff (st, o5) (.head _)
      refine laid_L C (by first | exact Nat.le_of_ble_eq_true rfl | assumption | (first | lia | omega)) (by first | exact Nat.le_of_ble_eq_true rfl | assumption | (first | lia | omega)) F N hsts (.head _) (.tail _ (.head _)) h3 (.tail _ (.tail _ (.tail _ (.head _)))) har (fun H B => hrowsA H fun p hp => B p (.tail _ (.tail _ (.tail _ (.tail _ hp)))))
        (by rw [LR.length]; (first | lia | omega)) (fun r hr => Nat.le_trans (LR.own1 hr).2.1 (by decide)) (fun r hr => (LR.own1 hr).1) (fun r hr => ?_) (fun h' tk' XT nT νt F' N' hnewt hXT hTh => ?_)
      · with_reducible refine gen fun GG kGG => ?_
        obtain ⟨k, hk⟩ := List.getElem?_of_mem hr
        with_reducible refine kGG ?_
        clear kGG GG
        have hkl := (List.getElem?_eq_some_iff.mp hk).1
        obtain ⟨y, hy⟩ : ∃ y, XS[k]? = some y := ⟨_, List.getElem?_eq_getElem (by rw [hRLn.1]; exact hkl)⟩
        obtain ⟨q, hq⟩ : ∃ q, QS[k]? = some q := ⟨_, List.getElem?_eq_getElem (by rw [hRLn.2.1]; exact hkl)⟩
        exact Nat.le_trans (own_len (hRLn.2.2 k y q r hy hq hk) (LR.own1 hr).2.2) (by decide)
      with_reducible refine gen fun GG kGG => ?_
      obtain ⟨νB, hνB⟩ : ∃ νB : List (Addr × Obj), νB = (tl, listOf (XT.map Value.ref).toArray nT) :: (hx, instObj 113 dh) :: (dh, dictOf eh nh) :: (rl, listOf ar na) :: (νt ++ νA) := ⟨_, rfl⟩
      with_reducible refine kGG ?_
      clear kGG GG
      have harT : ar = (XS.map Value.ref).toArray := by rw [← har]
      have hB1 : ∀ H, Blk H νB → Blk H νA := fun H B p hp => B p (by rw [hνB]; exact .tail _ (.tail _ (.tail _ (.tail _ (List.mem_append_right _ hp)))))
      have hRa : ∀ H, Blk H νB → RowsAt prog w H rl QS RS := fun H B => by
        have hR := hrowsA H (hB1 H B)
        exact ⟨XS, ⟨_, B _ (by rw [hνB]; exact .tail _ (.tail _ (.tail _ (.head _)))), rfl, _, by rw [harT]⟩, hR.1, hR.2.1, hR.2.2⟩
      have hTa : ∀ H, Blk H νB → ThingsAt prog w H hx QS RS := fun H B => by
        have hR := hrowsA H (hB1 H B)
        exact ⟨dh, eh, nh, tl, XT, B _ (by rw [hνB]; exact .tail _ (.head _)), B _ (by rw [hνB]; exact .tail _ (.tail _ (.head _))), h3, ⟨_, B _ (by rw [hνB]; exact .head _), rfl, _, rfl⟩, hXT, hR.2.1,
          hTh H hR fun p hp => B p (by rw [hνB]; exact .tail _ (.tail _ (.tail _ (.tail _ (List.mem_append_left _ hp)))))⟩
      have hnumB : ∀ H, Blk H νB → NumsAt H num us ms := fun H B => hnumA H (hB1 H B)
      have hνBst : ∀ p ∈ νB, p.1 ≠ st := fun p hp => by
        rw [hνB] at hp
        refine all_cons ?_ (fun p hp => ?_) p hp
        · exact hsx.1.symm
        refine all_cons ?_ (fun p hp => ?_) p hp
        · exact hsx.2.1.symm
        refine all_cons ?_ (fun p hp => ?_) p hp
        · exact hsx.2.2.symm
        refine all_cons ?_ (fun p hp => ?_) p hp
        · exact hrst
        refine all_app (fun p hp => ?_) (fun p hp => ?_) p hp
        · exact (hnewt _ _ (N (st, o5) (.tail _ (.tail _ (.tail _ (.head _))))).1 p hp).symm
        · exact (hνA p hp).1
      clear F N
      have N := (show News s.heap L h' ((st, o5) :: νB) from fun p hp => by
        refine all_cons ?_ (fun p hp => ?_) p hp
        · exact N' _ (.tail _ (List.mem_append_right _ (.tail _ (.tail _ (.head _)))))
        rw [hνB] at hp
        refine all_cons ?_ (fun p hp => ?_) p hp
        · exact N' _ (.head _)
        refine all_cons ?_ (fun p hp => ?_) p hp
        · exact N' _ (.tail _ (List.mem_append_right _ (.head _)))
        refine all_cons ?_ (fun p hp => ?_) p hp
        · exact N' _ (.tail _ (List.mem_append_right _ (.tail _ (.head _))))
        refine all_cons ?_ (fun p hp => ?_) p hp
        · exact N' _ (.tail _ (List.mem_append_right _ (.tail _ (.tail _ (.tail _ (.head _))))))
        refine all_app (fun p hp => ?_) (fun p hp => ?_) p hp
        · exact N' p (.tail _ (List.mem_append_left _ hp))
        · exact N' p (.tail _ (List.mem_append_right _ (.tail _ (.tail _ (.tail _ (.tail _ hp))))))) 
      have F := F'
      have hRSl := LR.length
      clear F' N' hνB hnewt hTh hrowsA hnumA hνA hoff hsts hsx hRLn hBA har harT h3 hxt hdt hB1 hXT
      (((repeat' ((fail_if_success ((with_reducible (first | (show wpAny _ _ (pyIter _) _ _ _) | (show wpAny _ _ (call (Value.builtin "list.append") _) _ _ _) | (show wpAny _ _ (eval (PySem.Expr.ListComp _ _ _ _) _) _ _ _) | (show wpAny _ _ (eval (PySem.Expr.Dict (_ :: _) _ _) _) _ _ _) | (show CutAt _ _ _ _ _ _ _) | (show CutSt _ _ _ _ _ _ _) | (show wpAny _ _ (exec (Stmt.If _ _ _ _) _) _ _ _) | (show wpAny _ _ (exec (Stmt.For _ _ _ _ _) _) _ _ _) | (show TurnPostG _ _ _ _ _ _ _ _))))); (first | walk1 | (dsimp only; walk1) | (k_unfold; (try dsimp only)) | (refine hKS _ _ ?_; clear hKS KS; (try dsimp only))))); (all_goals (try dsimp only)); (all_goals (repeat ((((fail_if_success (with_reducible show wpAny _ _ _ _ _ _)); (refine (‹∀ (x : _) (y : Shared), _ → _›) _ _ ?_); (try dsimp only))))))))
      walk1
      (((repeat' ((fail_if_success ((with_reducible (first | (show wpAny _ _ (pyIter _) _ _ _) | (show wpAny _ _ (call (Value.builtin "list.append") _) _ _ _) | (show wpAny _ _ (eval (PySem.Expr.ListComp _ _ _ _) _) _ _ _) | (show wpAny _ _ (eval (PySem.Expr.Dict (_ :: _) _ _) _) _ _ _) | (show CutAt _ _ _ _ _ _ _) | (show CutSt _ _ _ _ _ _ _) | (show wpAny _ _ (exec (Stmt.If _ _ _ _) _) _ _ _) | (show wpAny _ _ (exec (Stmt.For _ _ _ _ _) _) _ _ _) | (show TurnPostG _ _ _ _ _ _ _ _))))); (first | walk1 | (dsimp only; walk1) | (k_unfold; (try dsimp only)) | (refine hKS _ _ ?_; clear hKS KS; (try dsimp only))))); (all_goals (try dsimp only)); (all_goals (repeat ((((fail_if_success (with_reducible show wpAny _ _ _ _ _ _)); (refine (‹∀ (x : _) (y : Shared), _ → _›) _ _ ?_); (try dsimp only))))))))
      rename Fr _ _ _ _ => F
      rename News _ _ _ _ => N
      rename Obj.IsDictOf _ _ _ => hdw
      rename (_ == sysModules) = false => low
      rename st < _ ∧ _ => hlt
      rename_i wd _ _ _ _ ow hh
      have hwst : wd ≠ st := Nat.ne_of_gt hlt.1
      have hνBwd : ∀ p ∈ νB, p.1 ≠ wd := allLt_mem hlt.2
      clear hlt
      refine d_set F N (.tail _ (.head _)) hd5 (by show (3 : Nat) ≤ 1000; decide) (fun h' o6 F' Nf hd6 => ?_)
      rw [stored_refs] at hd6
      have N' := Nf ((wd, ow) :: νB) (fun q hq => by
        refine all_cons ?_ (fun q hq => ?_) q hq
        · exact .head _
        · exact .tail _ (.tail _ hq)) (fun q hq => by
        refine all_cons ?_ (fun q hq => ?_) q hq
        · exact hwst
        · exact hνBst q hq)
      clear F N Nf hd5
      (((repeat' ((fail_if_success ((with_reducible (first | (show wpAny _ _ (pyIter _) _ _ _) | (show wpAny _ _ (call (Value.builtin "list.append") _) _ _ _) | (show wpAny _ _ (eval (PySem.Expr.ListComp _ _ _ _) _) _ _ _) | (show wpAny _ _ (eval (PySem.Expr.Dict (_ :: _) _ _) _) _ _ _) | (show CutAt _ _ _ _ _ _ _) | (show CutSt _ _ _ _ _ _ _) | (show wpAny _ _ (exec (Stmt.If _ _ _ _) _) _ _ _) | (show wpAny _ _ (exec (Stmt.For _ _ _ _ _) _) _ _ _) | (show TurnPostG _ _ _ _ _ _ _ _))))); (first | walk1 | (dsimp only; walk1) | (k_unfold; (try dsimp only)) | (refine hKS _ _ ?_; clear hKS KS; (try dsimp only))))); (all_goals (try dsimp only)); (all_goals (repeat ((((fail_if_success (with_reducible show wpAny _ _ _ _ _ _)); (refine (‹∀ (x : _) (y : Shared), _ → _›) _ _ ?_); (try dsimp only))))))))
      rename Fr _ _ _ _ => F
      rename News _ _ _ _ => N
      have hμ : ∀ p ∈ (wd, ow) :: νB, p.1 ≠ st := fun p hp => by
        refine all_cons ?_ (fun p hp => ?_) p hp
        · exact hwst
        · exact hνBst p hp
      refine value_L (n := n' + 1 + 1) (r := 1) C F N hμ hd6 hs2 (fun H B => hnumB H fun p hp => B p (.tail _ hp)) (by first | exact Nat.le_of_ble_eq_true rfl | assumption | (first | lia | omega)) (by first | exact Nat.le_of_ble_eq_true rfl | assumption | (first | lia | omega)) (by first | exact Nat.le_of_ble_eq_true rfl | assumption | (first | lia | omega)) (by first | exact Nat.le_of_ble_eq_true rfl | assumption | (first | lia | omega)) (by first | exact Nat.le_of_ble_eq_true rfl | assumption | (first | lia | omega)) (fun h' tk' va x o7 r7 t1 t2 ta tb hxv hvn F' N' hd7 => ?_)
      have hvst : va ≠ st := (hvn _ _ (N _ (.head _)).1).symm
      have hvwd : va ≠ wd := (hvn _ _ (N _ (.tail _ (.head _))).1).symm
      clear F N hμ hd6 hvn
      have N := (show News s.heap L h' ((st, o7) :: (wd, ow) :: (va, tupOf [.int x.tag ta, x.pay tb]) :: νB) from fun p hp => by
        refine all_cons ?_ (fun p hp => ?_) p hp
        · exact N' _ (.head _)
        refine all_cons ?_ (fun p hp => ?_) p hp
        · exact N' _ (.tail _ (.tail _ (.head _)))
        refine all_cons ?_ (fun p hp => ?_) p hp
        · exact N' _ (.tail _ (.head _))
        · exact N' p (.tail _ (.tail _ (.tail _ hp))))
      have F := F'
      clear F' N'
      (((repeat' ((fail_if_success ((with_reducible (first | (show wpAny _ _ (pyIter _) _ _ _) | (show wpAny _ _ (call (Value.builtin "list.append") _) _ _ _) | (show wpAny _ _ (eval (PySem.Expr.ListComp _ _ _ _) _) _ _ _) | (show wpAny _ _ (eval (PySem.Expr.Dict (_ :: _) _ _) _) _ _ _) | (show CutAt _ _ _ _ _ _ _) | (show CutSt _ _ _ _ _ _ _) | (show wpAny _ _ (exec (Stmt.If _ _ _ _) _) _ _ _) | (show wpAny _ _ (exec (Stmt.For _ _ _ _ _) _) _ _ _) | (show TurnPostG _ _ _ _ _ _ _ _))))); (first | walk1 | (dsimp only; walk1) | (k_unfold; (try dsimp only)) | (refine hKS _ _ ?_; clear hKS KS; (try dsimp only))))); (all_goals (try dsimp only)); (all_goals (repeat ((((fail_if_success (with_reducible show wpAny _ _ _ _ _ _)); (refine (‹∀ (x : _) (y : Shared), _ → _›) _ _ ?_); (try dsimp only))))))))
      rename Fr _ _ _ _ => F
      rename News _ _ _ _ => N
      have hμ : ∀ p ∈ (wd, ow) :: (va, tupOf [.int x.tag ta, x.pay tb]) :: νB, p.1 ≠ st := fun p hp => by
        refine all_cons ?_ (fun p hp => ?_) p hp
        · exact hwst
        refine all_cons ?_ (fun p hp => ?_) p hp
        · exact hvst
        · exact hνBst p hp
      refine pull_L (n := n' + 1 + 1 + 1) (r := r7) C F N hμ hd7 hs2 (fun H B => hnumB H fun p hp => B p (.tail _ (.tail _ hp))) (by first | exact Nat.le_of_ble_eq_true rfl | assumption | (first | lia | omega)) (by first | exact Nat.le_of_ble_eq_true rfl | assumption | (first | lia | omega)) (by first | exact Nat.le_of_ble_eq_true rfl | assumption | (first | lia | omega)) (fun h' tk' q1 tq1 o8 t1 t2 q10 q11 F' N' hd8 => ?_)
      clear F N hd7
      (((repeat' ((fail_if_success ((with_reducible (first | (show wpAny _ _ (pyIter _) _ _ _) | (show wpAny _ _ (call (Value.builtin "list.append") _) _ _ _) | (show wpAny _ _ (eval (PySem.Expr.ListComp _ _ _ _) _) _ _ _) | (show wpAny _ _ (eval (PySem.Expr.Dict (_ :: _) _ _) _) _ _ _) | (show CutAt _ _ _ _ _ _ _) | (show CutSt _ _ _ _ _ _ _) | (show wpAny _ _ (exec (Stmt.If _ _ _ _) _) _ _ _) | (show wpAny _ _ (exec (Stmt.For _ _ _ _ _) _) _ _ _) | (show TurnPostG _ _ _ _ _ _ _ _))))); (first | walk1 | (dsimp only; walk1) | (k_unfold; (try dsimp only)) | (refine hKS _ _ ?_; clear hKS KS; (try dsimp only))))); (all_goals (try dsimp only)); (all_goals (repeat ((((fail_if_success (with_reducible show wpAny _ _ _ _ _ _)); (refine (‹∀ (x : _) (y : Shared), _ → _›) _ _ ?_); (try dsimp only))))))))
      rename Fr _ _ _ _ => F
      rename News _ _ _ _ => N
      rename IsRange _ _ _ _ _ _ _ _ => hR
      have hy2 := getD6 (q1.fmod 6).toNat
      generalize ([0, 1, 12, 13, 14, 15] : List Int).getD (q1.fmod 6).toNat 0 = y6 at hR hy2
      rename Fr _ _ _ _ => F
      rename News _ _ _ _ => N
      have N := (show News s.heap L _ ((st, o8) :: (wd, ow) :: (va, tupOf [.int x.tag ta, x.pay tb]) :: νB) from fun p hp => N p (.tail _ hp))
      with_reducible refine gen fun GG kGG => ?_
      obtain ⟨nb, hnb⟩ := Int.eq_ofNat_of_zero_le hy2.1
      with_reducible refine kGG ?_
      clear kGG GG
      rw [hnb] at hR hy2
      clear hnb
      have hnb16 : nb ≤ 15 := by (first | lia | omega)
      have hrs := range_sizeA 0 nb
      have hsm := range_smallA (a := 0) (n := nb) (by decide) (by decide) (by first | exact Nat.le_of_ble_eq_true rfl | assumption | (first | lia | omega))
      rw [Int.zero_add] at hrs hsm
      refine srcA_range (Cb.hd C) hR hsm hrs (by first | exact Nat.le_of_ble_eq_true rfl | assumption | (first | lia | omega)) F N ?_ (fun D ys nD bs h' tk' F' N' hDn hbs hbl => ?_)
      · intro C' i t s₂ m₂ E' hn2 hm2
        clear F N
        (((repeat' ((fail_if_success ((with_reducible (first | (show wpAny _ _ (pyIter _) _ _ _) | (show wpAny _ _ (call (Value.builtin "list.append") _) _ _ _) | (show wpAny _ _ (eval (PySem.Expr.ListComp _ _ _ _) _) _ _ _) | (show wpAny _ _ (eval (PySem.Expr.Dict (_ :: _) _ _) _) _ _ _) | (show CutAt _ _ _ _ _ _ _) | (show CutSt _ _ _ _ _ _ _) | (show wpAny _ _ (exec (Stmt.If _ _ _ _) _) _ _ _) | (show wpAny _ _ (exec (Stmt.For _ _ _ _ _) _) _ _ _) | (show TurnPostG _ _ _ _ _ _ _ _))))); (first | walk1 | (dsimp only; walk1) | (k_unfold; (try dsimp only)) | (refine hKS _ _ ?_; clear hKS KS; (try dsimp only))))); (all_goals (try dsimp only)); (all_goals (repeat ((((fail_if_success (with_reducible show wpAny _ _ _ _ _ _)); (refine (‹∀ (x : _) (y : Shared), _ → _›) _ _ ?_); (try dsimp only))))))))
        all_goals first | exact ⟨_, _, rfl, fun _ _ e => e⟩ | exact ⟨_, _, rfl⟩ | exact ⟨⟨_, _, rfl⟩, _, _, rfl, fun _ _ e => e⟩
      clear F N hR hrs hsm hy2
      have hys : ys.size ≤ 15 := by rw [← Array.length_toList, IntsAre.length hbs, hbl]; exact hnb16
      (((repeat' ((fail_if_success ((with_reducible (first | (show wpAny _ _ (pyIter _) _ _ _) | (show wpAny _ _ (call (Value.builtin "list.append") _) _ _ _) | (show wpAny _ _ (eval (PySem.Expr.ListComp _ _ _ _) _) _ _ _) | (show wpAny _ _ (eval (PySem.Expr.Dict (_ :: _) _ _) _) _ _ _) | (show CutAt _ _ _ _ _ _ _) | (show CutSt _ _ _ _ _ _ _) | (show wpAny _ _ (exec (Stmt.If _ _ _ _) _) _ _ _) | (show wpAny _ _ (exec (Stmt.For _ _ _ _ _) _) _ _ _) | (show TurnPostG _ _ _ _ _ _ _ _))))); (first | walk1 | (dsimp only; walk1) | (k_unfold; (try dsimp only)) | (refine hKS _ _ ?_; clear hKS KS; (try dsimp only))))); (all_goals (try dsimp only)); (all_goals (repeat ((((fail_if_success (with_reducible show wpAny _ _ _ _ _ _)); (refine (‹∀ (x : _) (y : Shared), _ → _›) _ _ ?_); (try dsimp only))))))))
      rename Fr _ _ _ _ => F
      rename News _ _ _ _ => N
      have hDst : D ≠ st := (hDn (st, o8) (.head _)).symm
      have hDwd : D ≠ wd := (hDn (wd, ow) (.tail _ (.head _))).symm
      refine cut_st F (fun h' => ∃ (ys : Array Value) (nD : Nat) (bs : List Int), News s.heap L h' ((st, o8) :: (wd, ow) :: (D, listOf ys nD) :: (va, tupOf [.int x.tag ta, x.pay tb]) :: νB) ∧ IntsAre ys.toList bs ∧ bs.length ≤ 16) ?_ ?_
      · with_reducible refine hideQ fun KK hKK => ?_
        walk1
        (((repeat' ((fail_if_success ((with_reducible (first | (show wpAny _ _ (pyIter _) _ _ _) | (show wpAny _ _ (call (Value.builtin "list.append") _) _ _ _) | (show wpAny _ _ (eval (PySem.Expr.ListComp _ _ _ _) _) _ _ _) | (show wpAny _ _ (eval (PySem.Expr.Dict (_ :: _) _ _) _) _ _ _) | (show CutAt _ _ _ _ _ _ _) | (show CutSt _ _ _ _ _ _ _) | (show wpAny _ _ (exec (Stmt.If _ _ _ _) _) _ _ _) | (show wpAny _ _ (exec (Stmt.For _ _ _ _ _) _) _ _ _) | (show TurnPostG _ _ _ _ _ _ _ _))))); (first | walk1 | (dsimp only; walk1) | (k_unfold; (try dsimp only)) | (refine hKS _ _ ?_; clear hKS KS; (try dsimp only))))); (all_goals (try dsimp only)); (all_goals (repeat ((((fail_if_success (with_reducible show wpAny _ _ _ _ _ _)); (refine (‹∀ (x : _) (y : Shared), _ → _›) _ _ ?_); (try dsimp only))))))))
        all_goals (rename Fr _ _ _ _ => F)
        all_goals (rename News _ _ _ _ => N)
        · refine append_K F N (.head hDn) (fun h₃ F₃ N₃ => ?_) (by rw [sizeLine_eq]; (first | lia | omega))
          (((repeat' ((fail_if_success ((with_reducible (first | (show wpAny _ _ (pyIter _) _ _ _) | (show wpAny _ _ (call (Value.builtin "list.append") _) _ _ _) | (show wpAny _ _ (eval (PySem.Expr.ListComp _ _ _ _) _) _ _ _) | (show wpAny _ _ (eval (PySem.Expr.Dict (_ :: _) _ _) _) _ _ _) | (show CutAt _ _ _ _ _ _ _) | (show CutSt _ _ _ _ _ _ _) | (show wpAny _ _ (exec (Stmt.If _ _ _ _) _) _ _ _) | (show wpAny _ _ (exec (Stmt.For _ _ _ _ _) _) _ _ _) | (show TurnPostG _ _ _ _ _ _ _ _))))); (first | walk1 | (dsimp only; walk1) | (k_unfold; (try dsimp only)) | (refine hKS _ _ ?_; clear hKS KS; (try dsimp only))))); (all_goals (try dsimp only)); (all_goals (repeat ((((fail_if_success (with_reducible show wpAny _ _ _ _ _ _)); (refine (‹∀ (x : _) (y : Shared), _ → _›) _ _ ?_); (try dsimp only))))))))
          exact ⟨rfl, _, _, rfl, F₃, _, _, bs ++ [_], (fun p hp => by
            refine all_cons ?_ (fun p hp => ?_) p hp
            · exact N₃ _ (.tail _ (.head _))
            refine all_cons ?_ (fun p hp => ?_) p hp
            · exact N₃ _ (.tail _ (.tail _ (.head _)))
            refine all_cons ?_ (fun p hp => ?_) p hp
            · exact N₃ _ (.head _)
            · exact N₃ p (.tail _ (.tail _ (.tail _ hp)))), ints_push hbs, by rw [List.length_append, hbl]; exact Nat.succ_le_succ hnb16⟩
        · exact ⟨rfl, _, _, rfl, F, ys, nD, bs, (fun p hp => by
            refine all_cons ?_ (fun p hp => ?_) p hp
            · exact N _ (.tail _ (.head _))
            refine all_cons ?_ (fun p hp => ?_) p hp
            · exact N _ (.tail _ (.tail _ (.head _)))
            refine all_cons ?_ (fun p hp => ?_) p hp
            · exact N _ (.head _)
            · exact N p (.tail _ (.tail _ (.tail _ hp)))), hbs, by (first | lia | omega)⟩
      intro h' tk' F' hRp1
      with_reducible refine gen fun GG kGG => ?_
      obtain ⟨ys, nD, bs, N', hbs, hbl⟩ := hRp1
      with_reducible refine kGG ?_
      clear kGG GG
      clear F N
      (((repeat' ((fail_if_success ((with_reducible (first | (show wpAny _ _ (pyIter _) _ _ _) | (show wpAny _ _ (call (Value.builtin "list.append") _) _ _ _) | (show wpAny _ _ (eval (PySem.Expr.ListComp _ _ _ _) _) _ _ _) | (show wpAny _ _ (eval (PySem.Expr.Dict (_ :: _) _ _) _) _ _ _) | (show CutAt _ _ _ _ _ _ _) | (show CutSt _ _ _ _ _ _ _) | (show wpAny _ _ (exec (Stmt.If _ _ _ _) _) _ _ _) | (show wpAny _ _ (exec (Stmt.For _ _ _ _ _) _) _ _ _) | (show TurnPostG _ _ _ _ _ _ _ _))))); (first | walk1 | (dsimp only; walk1) | (k_unfold; (try dsimp only)) | (refine hKS _ _ ?_; clear hKS KS; (try dsimp only))))); (all_goals (try dsimp only)); (all_goals (repeat ((((fail_if_success (with_reducible show wpAny _ _ _ _ _ _)); (refine (‹∀ (x : _) (y : Shared), _ → _›) _ _ ?_); (try dsimp only))))))))
      rename Fr _ _ _ _ => F
      rename News _ _ _ _ => N
      have hμ : ∀ p ∈ (wd, ow) :: (D, listOf ys nD) :: (va, tupOf [.int x.tag ta, x.pay tb]) :: νB, p.1 ≠ st := fun p hp => by
        refine all_cons ?_ (fun p hp => ?_) p hp
        · exact hwst
        refine all_cons ?_ (fun p hp => ?_) p hp
        · exact hDst
        refine all_cons ?_ (fun p hp => ?_) p hp
        · exact hvst
        · exact hνBst p hp
      refine pull_L (n := n' + 1 + 1 + 1 + 1) (r := r7) C F N hμ hd8 hs2 (fun H B => hnumB H fun p hp => B p (.tail _ (.tail _ (.tail _ hp)))) (by first | exact Nat.le_of_ble_eq_true rfl | assumption | (first | lia | omega)) (by first | exact Nat.le_of_ble_eq_true rfl | assumption | (first | lia | omega)) (by first | exact Nat.le_of_ble_eq_true rfl | assumption | (first | lia | omega)) (fun h' tk' q2 tq2 o9 t1 t2 q20 q21 F' N' hd9 => ?_)
      clear F N hd8
      (((repeat' ((fail_if_success ((with_reducible (first | (show wpAny _ _ (pyIter _) _ _ _) | (show wpAny _ _ (call (Value.builtin "list.append") _) _ _ _) | (show wpAny _ _ (eval (PySem.Expr.ListComp _ _ _ _) _) _ _ _) | (show wpAny _ _ (eval (PySem.Expr.Dict (_ :: _) _ _) _) _ _ _) | (show CutAt _ _ _ _ _ _ _) | (show CutSt _ _ _ _ _ _ _) | (show wpAny _ _ (exec (Stmt.If _ _ _ _) _) _ _ _) | (show wpAny _ _ (exec (Stmt.For _ _ _ _ _) _) _ _ _) | (show TurnPostG _ _ _ _ _ _ _ _))))); (first | walk1 | (dsimp only; walk1) | (k_unfold; (try dsimp only)) | (refine hKS _ _ ?_; clear hKS KS; (try dsimp only))))); (all_goals (try dsimp only)); (all_goals (repeat ((((fail_if_success (with_reducible show wpAny _ _ _ _ _ _)); (refine (‹∀ (x : _) (y : Shared), _ → _›) _ _ ?_); (try dsimp only))))))))
      walk1
      (((repeat' ((fail_if_success ((with_reducible (first | (show wpAny _ _ (pyIter _) _ _ _) | (show wpAny _ _ (call (Value.builtin "list.append") _) _ _ _) | (show wpAny _ _ (eval (PySem.Expr.ListComp _ _ _ _) _) _ _ _) | (show wpAny _ _ (eval (PySem.Expr.Dict (_ :: _) _ _) _) _ _ _) | (show CutAt _ _ _ _ _ _ _) | (show CutSt _ _ _ _ _ _ _) | (show wpAny _ _ (exec (Stmt.If _ _ _ _) _) _ _ _) | (show wpAny _ _ (exec (Stmt.For _ _ _ _ _) _) _ _ _) | (show TurnPostG _ _ _ _ _ _ _ _))))); (first | walk1 | (dsimp only; walk1) | (k_unfold; (try dsimp only)) | (refine hKS _ _ ?_; clear hKS KS; (try dsimp only))))); (all_goals (try dsimp only)); (all_goals (repeat ((((fail_if_success (with_reducible show wpAny _ _ _ _ _ _)); (refine (‹∀ (x : _) (y : Shared), _ → _›) _ _ ?_); (try dsimp only))))))))
      rename Fr _ _ _ _ => F
      rename News _ _ _ _ => N
      rename _ ∈ [Str.ofString ",", Str.ofString "-", Str.ofString "", Str.ofString "; "] => hsep
      with_reducible refine gen fun GG kGG => ?_
      obtain ⟨tf0, hdw0⟩ : ∃ t, ow.IsDictOf (PySem.strKind prog w) [(Str.ofString "rows", .ref rl), (Str.ofString "far", .int ((0 : Nat) : Int) t)] := ⟨_, hdw⟩
      with_reducible refine kGG ?_
      clear kGG GG
      clear hdw
      rename _ < _ ∧ _ => hl1
      rename_i h3 _ _ _ _ _ ls _ hl0 sep ts l0 hh4
      have W := wfr_of LR
      have BD := bd_of LR
      have htw := dict_tup_ne N (.tail _ (.tail _ (.head _))) (.tail _ (.tail _ (.tail _ (.tail _ (.head _))))) hdw0
      have hlw : l0 ≠ wd := Nat.ne_of_gt hl1.2.2.2.1
      have N1 := news_pick5 N
      have F1 := F
      clear hl1 hl0 hd9 hμ hrst hnumB hνBst hDn m1 F N
      refine agrees_L2 (k := cnt + 1) (r := row5 oth) (vs := []) (ns := []) C (by first | exact Nat.le_of_ble_eq_true rfl | assumption | (first | lia | omega)) (by first | exact Nat.le_of_ble_eq_true rfl | assumption | (first | lia | omega)) hA F1 N1 (fun p hp => ?_) hdw0 low W BD (fun H B => hTa H fun p hp => B p (.tail _ (.tail _ (.tail _ (.tail _ hp))))) (fun H B => hRa H fun p hp => B p (.tail _ (.tail _ (.tail _ (.tail _ hp))))) (fun H B => ⟨_, B _ (.head _), rfl, _, rfl⟩) .nil (Nat.zero_le _)
        (fun H B => tup_valN (B _ (.tail _ (.head _))) rfl) (by rw [hRSl]; (first | lia | omega)) LR.at5 rfl (sep_len hsep) (fun h' tk' z' ow1 t1 F N hd1 => ?_)
      · refine all_cons ?_ (fun p hp => ?_) p hp
        · exact hlw
        refine all_cons ?_ (fun p hp => ?_) p hp
        · exact htw
        refine all_cons ?_ (fun p hp => ?_) p hp
        · exact hDwd
        refine all_cons ?_ (fun p hp => ?_) p hp
        · exact hvwd
        · exact hνBwd p hp
      have N := news_drop23 N
      clear F1 N1 hdw0 htw hlw hsep
      (((repeat' ((fail_if_success ((with_reducible (first | (show wpAny _ _ (pyIter _) _ _ _) | (show wpAny _ _ (call (Value.builtin "list.append") _) _ _ _) | (show wpAny _ _ (eval (PySem.Expr.ListComp _ _ _ _) _) _ _ _) | (show wpAny _ _ (eval (PySem.Expr.Dict (_ :: _) _ _) _) _ _ _) | (show CutAt _ _ _ _ _ _ _) | (show CutSt _ _ _ _ _ _ _) | (show wpAny _ _ (exec (Stmt.If _ _ _ _) _) _ _ _) | (show wpAny _ _ (exec (Stmt.For _ _ _ _ _) _) _ _ _) | (show TurnPostG _ _ _ _ _ _ _ _))))); (first | walk1 | (dsimp only; walk1) | (k_unfold; (try dsimp only)) | (refine hKS _ _ ?_; clear hKS KS; (try dsimp only))))); (all_goals (try dsimp only)); (all_goals (repeat ((((fail_if_success (with_reducible show wpAny _ _ _ _ _ _)); (refine (‹∀ (x : _) (y : Shared), _ → _›) _ _ ?_); (try dsimp only))))))))
      walk1
      (((repeat' ((fail_if_success ((with_reducible (first | (show wpAny _ _ (pyIter _) _ _ _) | (show wpAny _ _ (call (Value.builtin "list.append") _) _ _ _) | (show wpAny _ _ (eval (PySem.Expr.ListComp _ _ _ _) _) _ _ _) | (show wpAny _ _ (eval (PySem.Expr.Dict (_ :: _) _ _) _) _ _ _) | (show CutAt _ _ _ _ _ _ _) | (show CutSt _ _ _ _ _ _ _) | (show wpAny _ _ (exec (Stmt.If _ _ _ _) _) _ _ _) | (show wpAny _ _ (exec (Stmt.For _ _ _ _ _) _) _ _ _) | (show TurnPostG _ _ _ _ _ _ _ _))))); (first | walk1 | (dsimp only; walk1) | (k_unfold; (try dsimp only)) | (refine hKS _ _ ?_; clear hKS KS; (try dsimp only))))); (all_goals (try dsimp only)); (all_goals (repeat ((((fail_if_success (with_reducible show wpAny _ _ _ _ _ _)); (refine (‹∀ (x : _) (y : Shared), _ → _›) _ _ ?_); (try dsimp only))))))))
      rename Fr _ _ _ _ => F
      rename News _ _ _ _ => N
      have hμ1 : ∀ p ∈ (D, listOf ys nD) :: (va, tupOf [.int x.tag ta, x.pay tb]) :: νB, p.1 ≠ wd := fun p hp => by
        refine all_cons ?_ (fun p hp => ?_) p hp
        · exact hDwd
        refine all_cons ?_ (fun p hp => ?_) p hp
        · exact hvwd
        · exact hνBwd p hp
      refine agrees_L1 (x := x) (vs := ys.toList) (ns := bs) C (by first | exact Nat.le_of_ble_eq_true rfl | assumption | (first | lia | omega)) (by first | exact Nat.le_of_ble_eq_true rfl | assumption | (first | lia | omega)) hA F N hμ1 hd1 low W BD (fun H B => hTa H fun p hp => B p (.tail _ (.tail _ hp))) (fun H B => hRa H fun p hp => B p (.tail _ (.tail _ hp))) (fun H B => ⟨_, B _ (.head _), rfl, _, by rw [Array.toArray_toList]⟩) hbs (by first | exact Nat.le_of_ble_eq_true rfl | assumption | (first | lia | omega))
        (fun H B => tup_val (B _ (.tail _ (.head _)))) (vok_le hxv (by first | exact Nat.le_of_ble_eq_true rfl | assumption | (first | lia | omega))) (fun h' tk' z' ow2 t2 F' N' hd2 => ?_)
      clear F N hd1 hμ1
      have N := news_drop23 N'
      have F := F'
      clear F' N' hbs hbl hxv hvwd hvst hDst hDwd
      (((repeat' ((fail_if_success ((with_reducible (first | (show wpAny _ _ (pyIter _) _ _ _) | (show wpAny _ _ (call (Value.builtin "list.append") _) _ _ _) | (show wpAny _ _ (eval (PySem.Expr.ListComp _ _ _ _) _) _ _ _) | (show wpAny _ _ (eval (PySem.Expr.Dict (_ :: _) _ _) _) _ _ _) | (show CutAt _ _ _ _ _ _ _) | (show CutSt _ _ _ _ _ _ _) | (show wpAny _ _ (exec (Stmt.If _ _ _ _) _) _ _ _) | (show wpAny _ _ (exec (Stmt.For _ _ _ _ _) _) _ _ _) | (show TurnPostG _ _ _ _ _ _ _ _))))); (first | walk1 | (dsimp only; walk1) | (k_unfold; (try dsimp only)) | (refine hKS _ _ ?_; clear hKS KS; (try dsimp only))))); (all_goals (try dsimp only)); (all_goals (repeat ((((fail_if_success (with_reducible show wpAny _ _ _ _ _ _)); (refine (‹∀ (x : _) (y : Shared), _ → _›) _ _ ?_); (try dsimp only))))))))
      walk1
      (((repeat' ((fail_if_success ((with_reducible (first | (show wpAny _ _ (pyIter _) _ _ _) | (show wpAny _ _ (call (Value.builtin "list.append") _) _ _ _) | (show wpAny _ _ (eval (PySem.Expr.ListComp _ _ _ _) _) _ _ _) | (show wpAny _ _ (eval (PySem.Expr.Dict (_ :: _) _ _) _) _ _ _) | (show CutAt _ _ _ _ _ _ _) | (show CutSt _ _ _ _ _ _ _) | (show wpAny _ _ (exec (Stmt.If _ _ _ _) _) _ _ _) | (show wpAny _ _ (exec (Stmt.For _ _ _ _ _) _) _ _ _) | (show TurnPostG _ _ _ _ _ _ _ _))))); (first | walk1 | (dsimp only; walk1) | (k_unfold; (try dsimp only)) | (refine hKS _ _ ?_; clear hKS KS; (try dsimp only))))); (all_goals (try dsimp only)); (all_goals (repeat ((((fail_if_success (with_reducible show wpAny _ _ _ _ _ _)); (refine (‹∀ (x : _) (y : Shared), _ → _›) _ _ ?_); (try dsimp only))))))))
      rename Fr _ _ _ _ => F
      rename News _ _ _ _ => N
      rename _ < _ ∧ _ => hl1
      rename_i l9 hh9
      have htw := dict_tup_ne N (.tail _ (.head _)) (.tail _ (.tail _ (.head _))) hd2
      have hlw : l9 ≠ wd := Nat.ne_of_gt hl1.2.1
      have N1 := news_pick3 N
      have F1 := F
      clear hl1 F N
      with_reducible refine gen fun GG kGG => ?_
      obtain ⟨n0, hn0, hn1⟩ := obj_f (c := cnt + 2) (m := RS.length) (v := q2.fdiv 8) (by first | exact Nat.le_of_ble_eq_true rfl | assumption | (first | lia | omega))
      with_reducible refine kGG ?_
      clear kGG GG
      refine agrees_L0 (x := .obj n0) (vs := []) (ns := []) C (by first | exact Nat.le_of_ble_eq_true rfl | assumption | (first | lia | omega)) (by first | exact Nat.le_of_ble_eq_true rfl | assumption | (first | lia | omega)) hA F1 N1 (fun p hp => ?_) hd2 low W BD (fun H B => hTa H fun p hp => B p (.tail _ (.tail _ hp))) (fun H B => hRa H fun p hp => B p (.tail _ (.tail _ hp))) (fun H B => ⟨_, B _ (.head _), rfl, _, rfl⟩) .nil (Nat.zero_le _) rfl
        (fun H B => tup_valN (B _ (.tail _ (.head _))) hn0) hn1 (fun h' tk' z' ow3 t3 F N hd3 => ?_)
      · refine all_cons ?_ (fun p hp => ?_) p hp
        · exact hlw
        refine all_cons ?_ (fun p hp => ?_) p hp
        · exact htw
        · exact hνBwd p hp
      have N := news_drop23 N
      clear F1 N1 hd2 htw hlw
      (((repeat' ((fail_if_success ((with_reducible (first | (show wpAny _ _ (pyIter _) _ _ _) | (show wpAny _ _ (call (Value.builtin "list.append") _) _ _ _) | (show wpAny _ _ (eval (PySem.Expr.ListComp _ _ _ _) _) _ _ _) | (show wpAny _ _ (eval (PySem.Expr.Dict (_ :: _) _ _) _) _ _ _) | (show CutAt _ _ _ _ _ _ _) | (show CutSt _ _ _ _ _ _ _) | (show wpAny _ _ (exec (Stmt.If _ _ _ _) _) _ _ _) | (show wpAny _ _ (exec (Stmt.For _ _ _ _ _) _) _ _ _) | (show TurnPostG _ _ _ _ _ _ _ _))))); (first | walk1 | (dsimp only; walk1) | (k_unfold; (try dsimp only)) | (refine hKS _ _ ?_; clear hKS KS; (try dsimp only))))); (all_goals (try dsimp only)); (all_goals (repeat ((((fail_if_success (with_reducible show wpAny _ _ _ _ _ _)); (refine (‹∀ (x : _) (y : Shared), _ → _›) _ _ ?_); (try dsimp only))))))))
      walk1
      (((repeat' ((fail_if_success ((with_reducible (first | (show wpAny _ _ (pyIter _) _ _ _) | (show wpAny _ _ (call (Value.builtin "list.append") _) _ _ _) | (show wpAny _ _ (eval (PySem.Expr.ListComp _ _ _ _) _) _ _ _) | (show wpAny _ _ (eval (PySem.Expr.Dict (_ :: _) _ _) _) _ _ _) | (show CutAt _ _ _ _ _ _ _) | (show CutSt _ _ _ _ _ _ _) | (show wpAny _ _ (exec (Stmt.If _ _ _ _) _) _ _ _) | (show wpAny _ _ (exec (Stmt.For _ _ _ _ _) _) _ _ _) | (show TurnPostG _ _ _ _ _ _ _ _))))); (first | walk1 | (dsimp only; walk1) | (k_unfold; (try dsimp only)) | (refine hKS _ _ ?_; clear hKS KS; (try dsimp only))))); (all_goals (try dsimp only)); (all_goals (repeat ((((fail_if_success (with_reducible show wpAny _ _ _ _ _ _)); (refine (‹∀ (x : _) (y : Shared), _ → _›) _ _ ?_); (try dsimp only))))))))
      walk1
      (((repeat' ((fail_if_success ((with_reducible (first | (show wpAny _ _ (pyIter _) _ _ _) | (show wpAny _ _ (call (Value.builtin "list.append") _) _ _ _) | (show wpAny _ _ (eval (PySem.Expr.ListComp _ _ _ _) _) _ _ _) | (show wpAny _ _ (eval (PySem.Expr.Dict (_ :: _) _ _) _) _ _ _) | (show CutAt _ _ _ _ _ _ _) | (show CutSt _ _ _ _ _ _ _) | (show wpAny _ _ (exec (Stmt.If _ _ _ _) _) _ _ _) | (show wpAny _ _ (exec (Stmt.For _ _ _ _ _) _) _ _ _) | (show TurnPostG _ _ _ _ _ _ _ _))))); (first | walk1 | (dsimp only; walk1) | (k_unfold; (try dsimp only)) | (refine hKS _ _ ?_; clear hKS KS; (try dsimp only))))); (all_goals (try dsimp only)); (all_goals (repeat ((((fail_if_success (with_reducible show wpAny _ _ _ _ _ _)); (refine (‹∀ (x : _) (y : Shared), _ → _›) _ _ ?_); (try dsimp only))))))))
      rename Fr _ _ _ _ => F
      rename News _ _ _ _ => N
      rename IsRange _ _ _ _ _ _ _ _ => hR
      with_reducible refine gen fun GG kGG => ?_
      obtain ⟨n9, hn9, hn9b⟩ := nine_f (v := q2.fdiv 4)
      with_reducible refine kGG ?_
      clear kGG GG
      rw [hn9] at hR
      clear hn9
      have hrs := range_sizeA 0 n9
      have hsm := range_smallA (a := 0) (n := n9) (by decide) (by decide) (by first | exact Nat.le_of_ble_eq_true rfl | assumption | (first | lia | omega))
      rw [Int.zero_add] at hrs hsm
      refine srcC_range (Cb.hd C) hR hsm hrs (by first | exact Nat.le_of_ble_eq_true rfl | assumption | (first | lia | omega)) F N ?_ (fun D2 ys2 nD2 bs2 h' tk' F1 N1 hDn2 hbs2 hbl2 => ?_)
      · intro C' i t s₂ m₂ E' hn2 hm2
        clear F N
        (((repeat' ((fail_if_success ((with_reducible (first | (show wpAny _ _ (pyIter _) _ _ _) | (show wpAny _ _ (call (Value.builtin "list.append") _) _ _ _) | (show wpAny _ _ (eval (PySem.Expr.ListComp _ _ _ _) _) _ _ _) | (show wpAny _ _ (eval (PySem.Expr.Dict (_ :: _) _ _) _) _ _ _) | (show CutAt _ _ _ _ _ _ _) | (show CutSt _ _ _ _ _ _ _) | (show wpAny _ _ (exec (Stmt.If _ _ _ _) _) _ _ _) | (show wpAny _ _ (exec (Stmt.For _ _ _ _ _) _) _ _ _) | (show TurnPostG _ _ _ _ _ _ _ _))))); (first | walk1 | (dsimp only; walk1) | (k_unfold; (try dsimp only)) | (refine hKS _ _ ?_; clear hKS KS; (try dsimp only))))); (all_goals (try dsimp only)); (all_goals (repeat ((((fail_if_success (with_reducible show wpAny _ _ _ _ _ _)); (refine (‹∀ (x : _) (y : Shared), _ → _›) _ _ ?_); (try dsimp only))))))))
        all_goals first | exact ⟨_, _, rfl, fun _ _ e => e⟩ | exact ⟨_, _, rfl⟩ | exact ⟨⟨_, _, rfl⟩, _, _, rfl, fun _ _ e => e⟩
      clear F N hR hrs hsm
      have htw := dict_tup_ne N1 (.tail _ (.head _)) (.tail _ (.tail _ (.head _))) hd3
      have hlw : D2 ≠ wd := (hDn2 _ (.tail _ (.head _))).symm
      have N2 := news_pick3 N1
      clear N1 hDn2
      (((repeat' ((fail_if_success ((with_reducible (first | (show wpAny _ _ (pyIter _) _ _ _) | (show wpAny _ _ (call (Value.builtin "list.append") _) _ _ _) | (show wpAny _ _ (eval (PySem.Expr.ListComp _ _ _ _) _) _ _ _) | (show wpAny _ _ (eval (PySem.Expr.Dict (_ :: _) _ _) _) _ _ _) | (show CutAt _ _ _ _ _ _ _) | (show CutSt _ _ _ _ _ _ _) | (show wpAny _ _ (exec (Stmt.If _ _ _ _) _) _ _ _) | (show wpAny _ _ (exec (Stmt.For _ _ _ _ _) _) _ _ _) | (show TurnPostG _ _ _ _ _ _ _ _))))); (first | walk1 | (dsimp only; walk1) | (k_unfold; (try dsimp only)) | (refine hKS _ _ ?_; clear hKS KS; (try dsimp only))))); (all_goals (try dsimp only)); (all_goals (repeat ((((fail_if_success (with_reducible show wpAny _ _ _ _ _ _)); (refine (‹∀ (x : _) (y : Shared), _ → _›) _ _ ?_); (try dsimp only))))))))
      have hn2 : ((cnt + 2 : Nat) : Int) + 10 = ((cnt + 12 : Nat) : Int) := by (first | lia | omega)
      have hn3 : cnt + 12 < RS.length := by (first | lia | omega)
      refine agrees_L1 (x := .obj (cnt + 12)) (vs := ys2.toList) (ns := bs2) C (by first | exact Nat.le_of_ble_eq_true rfl | assumption | (first | lia | omega)) (by first | exact Nat.le_of_ble_eq_true rfl | assumption | (first | lia | omega)) hA F1 N2 (fun p hp => ?_) hd3 low W BD (fun H B => hTa H fun p hp => B p (.tail _ (.tail _ hp))) (fun H B => hRa H fun p hp => B p (.tail _ (.tail _ hp))) (fun H B => ⟨_, B _ (.head _), rfl, _, by rw [Array.toArray_toList]⟩) hbs2 (by first | exact Nat.le_of_ble_eq_true rfl | assumption | (first | lia | omega))
        (fun H B => tup_valN (B _ (.tail _ (.head _))) hn2) hn3 (fun h' tk' z' ow4 t4 F N hd4 => ?_)
      · refine all_cons ?_ (fun p hp => ?_) p hp
        · exact hlw
        refine all_cons ?_ (fun p hp => ?_) p hp
        · exact htw
        · exact hνBwd p hp
      have N := news_drop23 N
      clear F1 N2 hd3 htw hlw hbs2 hbl2
      (((repeat' ((fail_if_success ((with_reducible (first | (show wpAny _ _ (pyIter _) _ _ _) | (show wpAny _ _ (call (Value.builtin "list.append") _) _ _ _) | (show wpAny _ _ (eval (PySem.Expr.ListComp _ _ _ _) _) _ _ _) | (show wpAny _ _ (eval (PySem.Expr.Dict (_ :: _) _ _) _) _ _ _) | (show CutAt _ _ _ _ _ _ _) | (show CutSt _ _ _ _ _ _ _) | (show wpAny _ _ (exec (Stmt.If _ _ _ _) _) _ _ _) | (show wpAny _ _ (exec (Stmt.For _ _ _ _ _) _) _ _ _) | (show TurnPostG _ _ _ _ _ _ _ _))))); (first | walk1 | (dsimp only; walk1) | (k_unfold; (try dsimp only)) | (refine hKS _ _ ?_; clear hKS KS; (try dsimp only))))); (all_goals (try dsimp only)); (all_goals (repeat ((((fail_if_success (with_reducible show wpAny _ _ _ _ _ _)); (refine (‹∀ (x : _) (y : Shared), _ → _›) _ _ ?_); (try dsimp only))))))))
      rename Fr _ _ _ _ => F
      rename News _ _ _ _ => N
      refine stands_spec (rows := RS) W (hTa _ fun p hp => (N p (.tail _ hp)).1) (hRa _ fun p hp => (N p (.tail _ hp)).1) (Cb.at0 C F (by first | exact Nat.le_of_ble_eq_true rfl | assumption | (first | lia | omega)) (by first | exact Nat.le_of_ble_eq_true rfl | assumption | (first | lia | omega))) (fun h' tk' S => ?_)
      have F' := Fr.st0 F S
      clear F N
      (((repeat' ((fail_if_success ((with_reducible (first | (show wpAny _ _ (pyIter _) _ _ _) | (show wpAny _ _ (call (Value.builtin "list.append") _) _ _ _) | (show wpAny _ _ (eval (PySem.Expr.ListComp _ _ _ _) _) _ _ _) | (show wpAny _ _ (eval (PySem.Expr.Dict (_ :: _) _ _) _) _ _ _) | (show CutAt _ _ _ _ _ _ _) | (show CutSt _ _ _ _ _ _ _) | (show wpAny _ _ (exec (Stmt.If _ _ _ _) _) _ _ _) | (show wpAny _ _ (exec (Stmt.For _ _ _ _ _) _) _ _ _) | (show TurnPostG _ _ _ _ _ _ _ _))))); (first | walk1 | (dsimp only; walk1) | (k_unfold; (try dsimp only)) | (refine hKS _ _ ?_; clear hKS KS; (try dsimp only))))); (all_goals (try dsimp only)); (all_goals (repeat ((((fail_if_success (with_reducible show wpAny _ _ _ _ _ _)); (refine (‹∀ (x : _) (y : Shared), _ → _›) _ _ ?_); (try dsimp only))))))))
      repeat ((((fail_if_success (with_reducible show wpAny _ _ _ _ _ _)); (refine (‹∀ (x : _) (y : Shared), _ → _›) _ _ ?_); (try dsimp only))))
      exact hQ _ _ (Fr.out0 F')
end
theorem main_ : PySem.Challenge.rw_xm0498_01.Holds := by
  refine Mine.head._proof_1_448 ?_
  k_fill
  intro w s₀ s₁ mg mb G Y fa o pm cd doc dV kV ho hd hcd hD hmg hg args vals as hpre hlay hrd hwl hlo
  have KX := kIn_of Y
  have X := (Ground.X G).1
  refine Ground.open G ?_
  intro T B D TE TW
  have h328 : mg (Str.ofString "law") = some (.ref 328) := mg_of KX T.g (by k_is)
  have hfa : fa = 328 := by
    have e := Option.some.inj (hmg.symm.trans h328)
    exact Value.ref.inj e
  subst hfa
  wrow_args hpre hlay hrd hwl hlo
  all_goals (clear D B TE TW ho hd hcd hD)
  · rename IntsAre _ _ => hi
    rename Heap.IsList _ _ _ => hl
    rename ¬ _ => hn
    dsimp only
    refine law_spec (mg := mg) (mb := mb) hl hi (by first | exact Nat.le_of_ble_eq_true rfl | assumption | (first | lia | omega)) ⟨KX, topRead_of T, rfl, by decide, by decide, [], rfl, trivial⟩ rfl ?_
    intro h' tk' S
    refine GoodW.toG ⟨.inl ⟨.bool true, ofPy (.bool true), [], rfl, fun _ => rfl, ?_, ?_, fun _ => ⟨List.nodup_nil, fun _ h => nomatch h⟩⟩, S.all, rfl, hg⟩
    · exact .bool _
    · wrow_post
end Mine
theorem PySem.Challenge.cw_xm0498_01_holds : PySem.Challenge.rw_xm0498_01.Holds :=
  Mine.main_
