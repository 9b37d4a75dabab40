import PyProof.Rows.All
import Wide.All
import OpenK.AllK
import Wide.FinOn
import Lean
import PySem.Challenge.RW_nz0327_01
open PySem PySem.W PyProof.Rows
set_option Elab.async false
set_option maxRecDepth 100000
set_option maxHeartbeats 8000000
set_option rowWalk.seconds 0
set_option linter.unusedVariables false
namespace Mine
local macro_rules | `(tactic| walk_at $s:str) => `(tactic| k_extra $s)
section PartX0
variable {prog : Program} {w : World} {A : Around} {E : Value → Shared → Prop} {s : Shared}
theorem no_item_int : typeLookup (.type "int") "__getitem__" = pure none := by kernel_rfl
theorem getItem_int {k : Int} {t : Tok} {i : Value} {Q : Value → Shared → Prop} (hA : A.handled = none) (h : ∀ h' tk e, Heap.NewExc s.heap h' e "TypeError" → E (.ref e) { s with heap := h', toks := tk }) :
    wpAny (model prog w) A (getItem (.int k t) i) Q E s := by
  have hT : s.TypeIs (.int k t) "int" := typeIs_int s k t
  have e1 : sequenceKey (.int k t) i "__getitem__" = pure i := by
    with_unfolding_all rfl
  have e2 : isType (.int k t) = pure false := by with_unfolding_all rfl
  have e3 : typeNameOf (.int k t) = pure "int" := by with_unfolding_all rfl
  unfold getItem
  rw [e1, e2, e3]
  refine wpAny_holding (wpAny_bind (wpAny_pure (wpAny_bind ?_)))
  unfold callSpecial?
  refine wpAny_bind (wpAny_specialOf hT no_item_int (wpAny_pure ?_))
  exact wpAny_bind (wpAny_pure (wpAny_bind (wpAny_pure (wpAny_raiseErrorMade plainExc_TypeError hA h (by decide +kernel)))))
theorem sub_int {value slice : PySem.Expr} {k : Int} {t : Tok} {i : Value} {Q : Value → Shared → Prop} (hA : A.handled = none) (h : ∀ h' tk e, Heap.NewExc s.heap h' e "TypeError" → E (.ref e) { s with heap := h', toks := tk })
    (hs : ∃ vs, subscripted slice false (.int k t) i = operate vs (getItem (.int k t) i)) :
    wpAny (model prog w) A (subscriptTail value slice (.int k t) i) Q E s := by
  have hT : s.TypeIs (.int k t) "int" := typeIs_int s k t
  obtain ⟨vs, hs⟩ := hs
  unfold subscriptTail
  rw [getitemInPython_of_ne hT.not_modules]
  refine wpAny_bind (wpAny_bind (wpAny_specialOf hT no_item_int (wpAny_pure ?_)))
  refine wpAny_bind ?_
  rw [hs]
  exact wpAny_operating (getItem_int hA h)
theorem unpush {h h' : Heap} {ob : Obj} {e : Addr} {c : String} (X : (h.push ob).NewExc h' e c) : h.NewExc h' e c := by
  refine ⟨fun b o hb => X.1 b o (Heap.get?_push_of_some _ hb), ?_, X.3⟩
  cases q : h.get? e with
  | none => rfl
  | some o =>
    have q2 := Heap.get?_push_of_some ob q
    rw [X.new] at q2
    cases q2
theorem leave_onX {M : Model} {base g g₂ : Heap} {outer : List Env} {L e : Addr} {m : Str → Option Value} {env : Env} {cls : Value} {news : List (Addr × Obj)} {s' : Shared} {Q : Unit → Shared → Prop} (hf : env.frame = some L) (K : Below A base outer g) (F : Fr g L g₂ m) (R : RaisedN base (env :: outer) e cls news s'.heap) (hsm : g₂.UpToSlots s'.heap)
    (hQ : ∀ h', RaisedN base outer e cls news h' → g.UpToSlots h' → Q () { s' with heap := h' }) : wpAny M (A.deeper env) (leaving env (.ref e)) Q E s' := by
  obtain ⟨B, a0, hB, hl, hfl⟩ := R
  exact wpAny_leaves_onW (Around.frames_deeper K.stack) hf hfl fun h' x1 x2 => hQ h' ⟨B, a0, hB, hl, x1⟩ ((Heap.UpToSlots.of_keeps F.keep).trans (hsm.trans x2))
theorem good_err {c : ClaimW} {cl : Str → Option Addr} {h₀ : Heap} {args : List WData} {s₁ s' : Shared} {e : Addr} {news : List (Addr × Obj)} (R : RaisedN s₁.heap [] e (.type "TypeError") news s'.heap) (hg : s'.gens = #[]) (hr : c.raises args (.builtin "TypeError") = true) (hos : s'.os = s₁.os) :
    GoodW c cl (ExcName.means h₀) args s₁ (.error (.ref e)) s' := by
  obtain ⟨B, a0, hB, hl, hfl⟩ := R
  have hfl' := flyingW_base hB hfl
  obtain ⟨ob, hob, hobc⟩ := hfl'.there
  exact ⟨.inr ⟨e, ob, .builtin "TypeError", rfl, hob, by rw [hobc]; rfl, hr, hfl'.2.1⟩, hfl'.1, hos, hg⟩
end PartX0
theorem hd.tw12590977762386282803 : True := trivial
theorem hd.tw2480057099694739299 : True := trivial
theorem hd.tw9499510787657705874 : True := trivial
theorem hd.tw15643275761693703936 : True := trivial
theorem hd.tw2608437505485318709 : True := trivial
theorem hd.tw2252305205657439004 : True := trivial
theorem hd.tw11117797201346649052 : True := trivial
theorem hd.tw15790720579355451973 : True := trivial
theorem hd.tw2887051446865420828 : True := trivial
theorem hd.tw12112201142124510154 : True := trivial
theorem hd.tw3434918251397683217 : True := trivial
theorem hd.tw6407587892757256292 : True := trivial
theorem hd.tw17007115810718279150 : True := trivial
theorem hd.tw4233181963852624665 : True := trivial
theorem hd.tw1865391376527767206 : True := trivial
theorem hd.tw4494801613693538912 : True := trivial
theorem hd.tw9013056391748086436 : True := trivial
theorem hd.tw3451239065008710300 : True := trivial
theorem hd.tw8086110750863094267 : True := trivial
theorem hd.tw13790719812936386609 : True := trivial
theorem hd.tw7085514621470718492 : True := trivial
theorem hd.tw15910714762333108613 : True := trivial
theorem hd.tw8381844023166312768 : True := trivial
theorem hd.tw7880807054014371918 : True := trivial
theorem hd.tw9741134391959003819 : True := trivial
theorem hd.tw14772383043592177042 : True := trivial
theorem hd.tw7372000682148998216 : True := trivial
theorem hd.tw9731375825926819010 : True := trivial
theorem hd.tw6320253292602491972 : True := trivial
theorem hd.tw8228950375871286339 : True := trivial
theorem hd.tw7292484366425897655 : True := trivial
theorem hd.tw17650839729002327288 : True := trivial
theorem hd.tw16357263729072622229 : True := trivial
theorem hd.tw6231332230080974397 : True := trivial
theorem hd.tw12414669353804360901 : True := trivial
theorem hd.tw9141302689577602353 : True := trivial
theorem hd.tw7379015992945566340 : True := trivial
theorem hd.tw11249132867342737325 : True := trivial
theorem hd.tw6060742912462422084 : True := trivial
theorem hd.tw7317836474542784337 : True := trivial
theorem hd.tw4159134105002834734 : True := trivial
theorem hd.tw10012880186880212623 : True := trivial
theorem hd.tw14896477498954680388 : True := trivial
theorem hd.tw15616948245753086127 : True := trivial
theorem hd.tw9577689765879766989 : True := trivial
theorem hd.tw14713601330101548304 : True := trivial
theorem hd.tw5366084841770067474 : True := trivial
theorem hd.tw15463257786427224491 : True := trivial
theorem hd.tw16473244170626142550 : True := trivial
theorem hd.tw262745018181394680 : True := trivial
theorem hd.tw9427301549700849589 : True := trivial
theorem hd.tw14439243815434019604 : True := trivial
theorem hd.tw17429513623812275283 : True := trivial
theorem hd.tw15987713032478767096 : True := trivial
theorem hd.tw15615537253650120727 : True := trivial
theorem hd.tw1589133516308662214 : True := trivial
theorem hd.tw18268791191939849864 : True := trivial
theorem hd.tw14176624398918483544 : True := trivial
theorem hd.tw7914949630228597729 : True := trivial
theorem hd.tw6308581086252854402 : True := trivial
theorem hd.tw15852365999677673905 : True := trivial
theorem hd.tw11128854368766332075 : True := trivial
theorem hd.tw14859038896228082724 : True := trivial
theorem hd.tw6627881031435992008 : True := trivial
theorem hd.tw17070941380808615275 : True := trivial
theorem hd.tw17599816209265215132 : True := trivial
theorem hd.tw395138700845864316 : True := trivial
theorem hd.tw6957150274394394060 : True := trivial
theorem hd.tw4990156530697904881 : True := trivial
theorem hd.tw4643362625855044894 : True := trivial
theorem hd.tw10246146449241189800 : True := trivial
theorem hd.tw8015326511298524721 : True := trivial
theorem hd.tw6082411064634330575 : True := trivial
theorem hd.tw68257221557315278 : True := trivial
theorem hd.tw15967140613478806237 : True := trivial
theorem hd.tw18343703819029505601 : True := trivial
theorem hd.tw12591134339009171964 : True := trivial
theorem hd.tw1997569388931296116 : True := trivial
theorem hd.tw8789358453043137523 : True := trivial
theorem hd.tw11232374478483605306 : True := trivial
theorem hd.tw11251137523995926341 : True := trivial
theorem hd.tw16299908979028503884 : True := trivial
theorem hd.tw11709330566771433103 : True := trivial
theorem hd.tw9908193460736022307 : True := trivial
theorem hd.tw9132557439983319658 : True := trivial
theorem hd.tw13409441903868389331 : True := trivial
theorem hd.tw3466211350497874900 : True := trivial
theorem hd.tw5282504435634884242 : True := trivial
theorem hd.tw5247051413645994129 : True := trivial
theorem hd.tw17491280204586788870 : True := trivial
theorem hd.tw7510230149288206974 : True := trivial
theorem hd.tw5608270528595127837 : True := trivial
theorem hd.tw10879034167726328663 : True := trivial
theorem hd.tw4367231431732253908 : True := trivial
theorem hd.tw18293851220164018083 : True := trivial
theorem hd.tw5549315172176941698 : True := trivial
theorem hd.tw5283464899586487735 : True := trivial
theorem hd.tw6804821044290156842 : True := trivial
theorem hd.tw2167537188350426706 : True := trivial
theorem hd.tw16006246977917349235 : True := trivial
theorem hd.tw7891253978561527248 : True := trivial
theorem hd.tw10860895700388868024 : True := trivial
theorem hd.tw1005483496087919985 : True := trivial
theorem hd.tw12647368939536790636 : True := trivial
theorem hd.tw15813434630575017362 : True := trivial
theorem hd.tw18129098259903571784 : True := trivial
theorem hd.tw3309697970292668127 : True := trivial
theorem hd.tw1452849714261714991 : True := trivial
theorem hd.tw17471934795394947791 : True := trivial
theorem hd.tw12598724348716800887 : True := trivial
theorem hd.tw10949625832625181284 : True := trivial
theorem hd.tw17177331786930743035 : True := trivial
theorem hd.tw7369741819223213686 : True := trivial
theorem hd.tw11053918530259517922 : True := trivial
theorem hd.tw5318216170032084099 : True := trivial
theorem hd.tw17447410573909459338 : True := trivial
theorem hd.tw7793673504863384051 : True := trivial
theorem hd.tw13566260322249332789 : True := trivial
theorem hd.tw7270182246851987180 : True := trivial
theorem hd.tw15642763164714097627 : True := trivial
theorem hd.tw17948085552500728524 : True := trivial
theorem hd.tw3085183777334472315 : True := trivial
theorem hd.tw13372043803930879067 : True := trivial
theorem hd.tw14984183105004643987 : True := trivial
theorem hd.tw12870888531099404533 : True := trivial
theorem hd.tw16412773359747925120 : True := trivial
theorem hd.tw3381375190539634487 : True := trivial
theorem hd.tw10905682514733158466 : True := trivial
theorem hd.tw15179676742415161110 : True := trivial
theorem hd.tw4182648748547736412 : True := trivial
theorem hd.tw368366308016060594 : True := trivial
theorem hd.tw9153386212771759811 : True := trivial
theorem hd.tw11319097763535126812 : True := trivial
theorem hd.tw15673258824015622330 : True := trivial
theorem hd.tw15422856539912107476 : True := trivial
theorem hd.tw5559893004638984873 : True := trivial
theorem hd.tw17054507655720011243 : True := trivial
theorem hd.tw9557236495431379559 : True := trivial
theorem hd.tw13132618709999183898 : True := trivial
theorem hd.tw15043168886218598503 : True := trivial
theorem hd.tw17588044629489971554 : True := trivial
theorem hd.tw6882427118574961969 : True := trivial
theorem hd.tw4870687313549177768 : True := trivial
theorem hd.tw1011335219593555734 : True := trivial
theorem hd.tw2799067240506288376 : True := trivial
theorem hd.tw7031273417212677730 : True := trivial
theorem hd.tw10601615944963115059 : True := trivial
theorem hd.tw13893168526513508166 : True := trivial
theorem hd.tw2595994805191909183 : True := trivial
theorem hd.tw13038990169509382042 : True := trivial
theorem hd.tw12769127236821124696 : True := trivial
theorem hd.tw16155205043701107222 : True := trivial
theorem hd.tw5629675986466331604 : True := trivial
theorem hd.tw3484992998616243462 : True := trivial
theorem hd.tw9566141503761928105 : True := trivial
theorem hd.tw1147470481896660410 : True := trivial
theorem hd.tw10030107230732127627 : True := trivial
theorem hd.tw15040182064412255696 : True := trivial
theorem hd.tw17843490464661113860 : True := trivial
theorem hd.tw250903467453971090 : True := trivial
theorem hd.tw6982297934935202809 : True := trivial
theorem hd.tw17714235663813219645 : True := trivial
theorem hd.tw4478166936697009375 : True := trivial
theorem hd.tw2448417245163862455 : True := trivial
theorem hd.tw3182187488490625086 : True := trivial
theorem hd.tw17312999752573914782 : True := trivial
theorem hd.tw8428860471423672150 : True := trivial
theorem hd.tw7752569895197466512 : True := trivial
theorem hd.tw11136197038861592535 : True := trivial
theorem hd.tw5961118342813265553 : True := trivial
theorem hd.tw7080932558258925280 : True := trivial
theorem hd.tw9783614193127449063 : True := trivial
theorem hd.tw11399449904127653305 : True := trivial
theorem hd.tw8770205317985620760 : True := trivial
theorem hd.tw12393119488966705847 : True := trivial
theorem hd.tw14400467628812073631 : True := trivial
theorem hd.tw4630532409368889967 : True := trivial
theorem hd.tw526207354791536317 : True := trivial
theorem hd.tw9271970288684553227 : True := trivial
theorem hd.tw10743916045514856203 : True := trivial
theorem hd.tw1425423193147277237 : True := trivial
theorem hd.tw3673020696563887462 : True := trivial
theorem hd.tw9459050058782445324 : True := trivial
theorem hd.tw14980023328507725902 : True := trivial
theorem hd.tw14015909994521340511 : True := trivial
theorem hd.tw13368278939475635651 : True := trivial
theorem hd.tw18300207936620678264 : True := trivial
theorem hd.tw6449127861642672459 : True := trivial
theorem hd.tw12994019391074448376 : True := trivial
theorem hd.tw5148922909946612681 : True := trivial
theorem hd.tw8684328023851190084 : True := trivial
theorem hd.tw17903497710992402801 : True := trivial
theorem hd.tw11778180911958503814 : True := trivial
theorem hd.tw6423634429210846174 : True := trivial
theorem hd.tw4065347644161347641 : True := trivial
theorem hd.tw13181220554201973888 : True := trivial
theorem hd.tw17925215291927510665 : True := trivial
theorem hd.tw6924109203229866365 : True := trivial
theorem hd.tw18293732401869909652 : True := trivial
theorem hd.tw12631932088317031055 : True := trivial
theorem hd.tw11151547217846952531 : True := trivial
theorem hd.tw3229955645248102723 : True := trivial
theorem hd.tw7519716089354478335 : True := trivial
theorem hd.tw17491317419825422843 : True := trivial
theorem hd.tw4068527845204499245 : True := trivial
theorem hd.tw1515107057699969499 : True := trivial
theorem hd.tw11652457597714270106 : True := trivial
theorem hd.tw3337201187396946394 : True := trivial
theorem hd.tw7269190750281295013 : True := trivial
theorem hd.tw8004679753235328684 : True := trivial
theorem hd.tw2295870552580634182 : True := trivial
theorem hd.tw6038821095411175016 : True := trivial
theorem hd.tw16064382804478563927 : True := trivial
theorem hd.tw2315301623876862497 : True := trivial
theorem hd.tw15344866539931968096 : True := trivial
theorem hd.tw15042006015671813226 : True := trivial
theorem hd.tw3404104791013757517 : True := trivial
theorem hd.tw16853341256802265648 : True := trivial
theorem hd.tw8269573656231971908 : True := trivial
theorem hd.tw6965799899956892507 : True := trivial
theorem hd.tw4172343393113369950 : True := trivial
theorem hd.tw13315533130655954831 : True := trivial
theorem hd.tw9990345226319884068 : True := trivial
theorem hd.tw15675198926951892251 : True := trivial
theorem hd.tw11893437276241958245 : True := trivial
theorem hd.tw2051048951616859547 : True := trivial
theorem hd.tw16157073509204512506 : True := trivial
theorem hd.tw17130151131035750659 : True := trivial
theorem hd.tw8242931771332617035 : True := trivial
theorem hd.tw6297665217685582802 : True := trivial
theorem hd.tw6906073325868019850 : True := trivial
theorem hd.tw18322514126500204803 : True := trivial
theorem hd.tw3480954088277226078 : True := trivial
theorem hd.tw7610815399733428385 : True := trivial
theorem hd.tw11402939732021071671 : True := trivial
theorem hd.tw663384727985864361 : True := trivial
theorem hd.tw6578402527460240241 : True := trivial
theorem hd.tw7927469264209771579 : True := trivial
theorem hd.tw2442259710966052079 : True := trivial
theorem hd.tw3941438180925939637 : True := trivial
theorem hd.tw16194383521188589630 : True := trivial
theorem hd.tw5513025101015932971 : True := trivial
theorem hd.tw3259873300814134281 : True := trivial
theorem hd.tw17739348878880393726 : True := trivial
theorem hd.tw7721951785955056133 : True := trivial
theorem hd.tw12685813987229840507 : True := trivial
theorem hd.tw13363553139645760527 : True := trivial
theorem hd.tw190519026028168232 : True := trivial
theorem hd.tw11063760108456719545 : True := trivial
theorem hd.tw7746578258024575070 : True := trivial
theorem hd.tw12070654863422294720 : True := trivial
theorem hd.tw402640490398009360 : True := trivial
theorem hd.tw8545014587354053640 : True := trivial
theorem hd.tw9386895884608548742 : True := trivial
theorem hd.tw9077708301081682751 : True := trivial
theorem hd.tw9244321171653502345 : True := trivial
theorem hd.tw18176940659606848779 : True := trivial
theorem hd.tw6123773746684550334 : True := trivial
theorem hd.tw5635641802508607975 : True := trivial
theorem hd.tw13267510147771200024 : True := trivial
theorem hd.tw10583446816852156582 : True := trivial
theorem hd.tw17808607793243039243 : True := trivial
theorem hd.tw16772102934027710169 : True := trivial
theorem hd.tw6264232113106981867 : True := trivial
theorem hd.tw8191903926673212241 : True := trivial
theorem hd.tw10024716035694756283 : True := trivial
theorem hd.tw14560493823538711346 : True := trivial
theorem hd.tw6164396464334811476 : True := trivial
theorem hd.tw18350433093344046624 : True := trivial
theorem hd.tw8934143017859847078 : True := trivial
theorem hd.tw11387694631328260470 : True := trivial
theorem hd.tw12952509933414984302 : True := trivial
theorem hd.tw6442067068224118133 : True := trivial
theorem hd.tw2068664650715991707 : True := trivial
theorem hd.tw14478148883734587675 : True := trivial
theorem hd.tw541196102884509978 : True := trivial
theorem hd.tw17989097746536338734 : True := trivial
theorem hd.tw8068729725432388964 : True := trivial
theorem hd.tw9719896912496429819 : True := trivial
theorem hd.tw15946388913382835224 : True := trivial
theorem hd.tw2274498078352570744 : True := trivial
theorem hd.tw6838551448383532254 : True := trivial
theorem hd.tw11660266114150955751 : True := trivial
theorem hd.tw17213754286329925777 : True := trivial
theorem hd.tw12614811148066621264 : True := trivial
theorem hd.tw7541792107247259296 : True := trivial
theorem hd.tw18103739167541040201 : True := trivial
theorem hd.tw15948780112781908787 : True := trivial
theorem hd.tw1792636949448641307 : True := trivial
theorem hd.tw5433107678231618845 : True := trivial
theorem hd.tw7355570028127101125 : True := trivial
theorem hd.tw8589211134812392127 : True := trivial
theorem hd.tw6136932545381038964 : True := trivial
theorem hd.tw11672842613191775419 : True := trivial
theorem hd.tw16904818350239718627 : True := trivial
theorem hd.tw4993660671451451078 : True := trivial
theorem hd.tw17606422857730326317 : True := trivial
theorem hd.tw8025032847418708242 : True := trivial
theorem hd.tw6755925336976613232 : True := trivial
theorem hd.tw11801993109049149486 : True := trivial
theorem hd.tw11256106856564762260 : True := trivial
theorem hd.tw12058812876911547015 : True := trivial
theorem hd.tw4086058157674990017 : True := trivial
theorem hd.tw4851647983119433812 : True := trivial
theorem hd.tw307737655149646647 : True := trivial
theorem hd.tw14685462170515437407 : True := trivial
theorem hd.tw4383666589626881386 : True := trivial
theorem hd.tw2457190517430149469 : True := trivial
theorem hd.tw9702936160620672325 : True := trivial
theorem hd.tw15207398651663016943 : True := trivial
theorem hd.tw5781342201191254626 : True := trivial
theorem hd.tw7525542149764818722 : True := trivial
theorem hd.tw11319892378374348655 : True := trivial
theorem hd.tw10264135568141901301 : True := trivial
theorem hd.tw12271959270614036898 : True := trivial
theorem hd.tw12602439190401603521 : True := trivial
theorem hd.tw13047593935725612058 : True := trivial
theorem hd.tw7109450275434161582 : True := trivial
theorem hd.tw13466754112058979494 : True := trivial
theorem hd.tw4136554803537287180 : True := trivial
theorem hd.tw11467801299996457980 : True := trivial
theorem hd.tw10111801491309104144 : True := trivial
theorem hd.tw4363365295628954845 : True := trivial
theorem hd.tw10525666975642140466 : True := trivial
theorem hd.tw6184208073178115725 : True := trivial
theorem hd.tw12940713784782232206 : True := trivial
theorem hd.tw11364443708160879001 : True := trivial
theorem hd.tw16828841361933241965 : True := trivial
theorem hd.tw15089522573102190283 : True := trivial
theorem hd.tw10788059911547816233 : True := trivial
theorem hd.tw3058821109629397610 : True := trivial
theorem hd.tw11032806212648032379 : True := trivial
theorem hd.tw2783992281797965187 : True := trivial
theorem hd.tw16919406825032445293 : True := trivial
theorem hd.tw17047115858639842297 : True := trivial
theorem hd.tw13342606739435360313 : True := trivial
theorem hd.tw13217827037086042188 : True := trivial
theorem hd.tw3452082135128663414 : True := trivial
theorem hd.tw13285133528070534704 : True := trivial
theorem hd.tw9430268157657104642 : True := trivial
theorem hd.tw12070051907170230399 : True := trivial
theorem hd.tw15992342658441690333 : True := trivial
theorem hd.tw16091413853298234908 : True := trivial
theorem hd.tw7654286748164834634 : True := trivial
theorem hd.tw13293453174229064190 : True := trivial
theorem hd.tw17950676927832955104 : True := trivial
theorem hd.tw8308617851876039765 : True := trivial
theorem hd.tw1241404454085649124 : True := trivial
theorem hd.tw10216474801634566288 : True := trivial
theorem hd.tw4541989651271479744 : True := trivial
theorem hd.tw6598312636042714100 : True := trivial
theorem hd.tw5559951931751713254 : True := trivial
theorem hd.tw1382963296337349011 : True := trivial
theorem hd.tw17183224562656869120 : True := trivial
theorem hd.tw5715356086224469760 : True := trivial
theorem hd.tw13825509269061658866 : True := trivial
theorem hd.tw2284436838669742495 : True := trivial
theorem hd.tw4402725079659364252 : True := trivial
theorem hd.tw13365295217650922812 : True := trivial
theorem hd.tw12173100003817136821 : True := trivial
theorem hd.tw7598622570094877466 : True := trivial
theorem hd.tw5036846961687405229 : True := trivial
theorem hd.tw14620637471214046174 : True := trivial
theorem hd.tw5238241317806426387 : True := trivial
theorem hd.tw18093812233618175256 : True := trivial
theorem hd.tw13753220567063992666 : True := trivial
theorem hd.tw9170477692918782315 : True := trivial
theorem hd.tw7191455744419660376 : True := trivial
theorem hd.tw17377529257436501650 : True := trivial
theorem hd.tw845060206244984605 : True := trivial
theorem hd.tw728884934406724761 : True := trivial
theorem hd.tw7523672394736509286 : True := trivial
theorem hd.tw5461583852855630226 : True := trivial
theorem hd.tw4115565904173853331 : True := trivial
theorem hd.tw5190246844813560578 : True := trivial
theorem hd.tw17234923516513369237 : True := trivial
theorem hd.tw5245234834050458271 : True := trivial
theorem hd.tw7296583596125217682 : True := trivial
theorem hd.tw5486487638281291605 : True := trivial
theorem hd.tw13431754692932380062 : True := trivial
theorem hd.tw17001982702790524580 : True := trivial
theorem hd.tw11375277706881905925 : True := trivial
theorem hd.tw3219085151875037572 : True := trivial
theorem hd.tw17420951861521290806 : True := trivial
theorem hd.tw11631869004601391166 : True := trivial
theorem hd.tw17696971302532935780 : True := trivial
theorem hd.tw13225837485096350037 : True := trivial
theorem hd.tw4856431653887292112 : True := trivial
theorem hd.tw9406673726873002282 : True := trivial
theorem hd.tw9345929723534960622 : True := trivial
theorem hd.tw12832683148521936107 : True := trivial
theorem hd.tw5363564295841288755 : True := trivial
theorem hd.tw14029546391885035639 : True := trivial
theorem hd.tw1043307727769730188 : True := trivial
theorem hd.tw6046454685291232161 : True := trivial
theorem hd.tw2603259988358896889 : True := trivial
theorem hd.tw7345208892882624808 : True := trivial
theorem hd.tw16634568088961857937 : True := trivial
theorem hd.tw8990313861142287110 : True := trivial
theorem hd.tw15527848837575444561 : True := trivial
theorem hd.tw8493152586797012548 : True := trivial
theorem hd.tw11953376511379268794 : True := trivial
theorem hd.tw16456969618363192440 : True := trivial
theorem hd.tw18103342009636024947 : True := trivial
theorem hd.tw16007149819294483003 : True := trivial
theorem hd.tw1013155817946168525 : True := trivial
theorem hd.tw4654797750381630734 : True := trivial
theorem hd.tw16259696140248634718 : True := trivial
theorem hd.tw1847840615245081061 : True := trivial
theorem hd.tw14060154772996877548 : True := trivial
theorem hd.tw4225703048834024713 : True := trivial
theorem hd.tw2951005344575393816 : True := trivial
theorem hd.tw10170382586518783626 : True := trivial
theorem hd.tw3429492842335990350 : True := trivial
theorem hd.tw9763420282994701918 : True := trivial
theorem hd.tw15922378485020513543 : True := trivial
theorem hd.tw2895019672242215742 : True := trivial
theorem hd.tw1535757262459896012 : True := trivial
theorem hd.tw5416991563250132298 : True := trivial
theorem hd.tw14294001040229213422 : True := trivial
theorem hd.tw1506431575118746342 : True := trivial
theorem hd.tw4845836938831722396 : True := trivial
theorem hd.tw8356816923877370021 : True := trivial
theorem hd.tw10404513684093684653 : True := trivial
theorem hd.tw13322179722446271537 : True := trivial
theorem hd.tw18163647496604598072 : True := trivial
theorem hd.tw9449672872311958731 : True := trivial
theorem hd.tw3919010098100093602 : True := trivial
theorem hd.tw9277588360372424766 : True := trivial
theorem hd.tw3922637787740509324 : True := trivial
theorem hd.tw13770079208771991547 : True := trivial
theorem hd.tw13066319289922817542 : True := trivial
theorem hd.tw8117029840178788049 : True := trivial
theorem hd.tw1781861727890032366 : True := trivial
theorem hd.tw14567429538950270057 : True := trivial
theorem hd.tw4278124947684190350 : True := trivial
theorem hd.tw15416985209724490359 : True := trivial
theorem hd.tw16053994301053490033 : True := trivial
theorem hd.tw15837987909243819085 : True := trivial
theorem hd.tw13929354066492186541 : True := trivial
theorem hd.tw13289513938125300765 : True := trivial
theorem hd.tw14667805832236412624 : True := trivial
theorem hd.tw17895171251205151618 : True := trivial
theorem hd.tw15759970867653108152 : True := trivial
theorem hd.tw7152984921513172624 : True := trivial
theorem hd.tw16154546982801380032 : True := trivial
theorem hd.tw10603584201595350602 : True := trivial
theorem hd.tw8414420238210853183 : True := trivial
theorem hd.tw2444328922836773594 : True := trivial
theorem hd.tw12588582704262371052 : True := trivial
theorem hd.tw14852329139284432860 : True := trivial
theorem hd.tw17711083657039698284 : True := trivial
theorem hd.tw6759412095888398321 : True := trivial
theorem hd.tw2323474266016966308 : True := trivial
theorem hd.tw17628472586750557451 : True := trivial
theorem hd.tw1413172679324656950 : True := trivial
theorem hd.tw12629568148972539762 : True := trivial
theorem hd.tw10806950440038215891 : True := trivial
theorem hd.tw7578210074245671484 : True := trivial
theorem hd.tw4015398097383911347 : True := trivial
theorem hd.tw10296555574160606952 : True := trivial
theorem hd.tw8965841893048198262 : True := trivial
theorem hd.tw4449123307109862055 : True := trivial
theorem hd.tw922143313871775805 : True := trivial
theorem hd.tw12797040952259185971 : True := trivial
theorem hd.tw6767318904944593275 : True := trivial
theorem hd.tw10784824025267889561 : True := trivial
theorem hd.tw15564728929539428999 : True := trivial
theorem hd.tw16257038226119295666 : True := trivial
theorem hd.tw15610959940260225430 : True := trivial
theorem hd.tw10117440562283002822 : True := trivial
theorem hd.tw4282304852377368616 : True := trivial
theorem hd.tw14438451200097066615 : True := trivial
theorem hd.tw5732804406350252772 : True := trivial
theorem hd.tw18185175575083235020 : True := trivial
theorem hd.tw17673860158736603733 : True := trivial
theorem hd.tw12399718760709695909 : True := trivial
theorem hd.tw12092154237167983948 : True := trivial
theorem hd.tw7068711184596962023 : True := trivial
theorem hd.tw9345676750909349944 : True := trivial
theorem hd.tw12451258846644117672 : True := trivial
theorem hd.tw6469175993241445255 : True := trivial
theorem hd.tw6528754448969337418 : True := trivial
theorem hd.tw7526368328331116154 : True := trivial
theorem hd.tw2999033326186475339 : True := trivial
theorem hd.tw8134915037123179040 : True := trivial
theorem hd.tw8538877666451538035 : True := trivial
theorem hd.tw6394381022753523788 : True := trivial
theorem hd.tw17902569758825723728 : True := trivial
theorem hd.tw14705683404202351889 : True := trivial
theorem hd.tw12487502673411948298 : True := trivial
theorem hd.tw1194904439430580092 : True := trivial
theorem hd.tw11713075325732132258 : True := trivial
theorem hd.tw6293948785866598258 : True := trivial
theorem hd.tw212345690472687942 : True := trivial
theorem hd.tw10738003575532504788 : True := trivial
theorem hd.tw18103420901670897651 : True := trivial
theorem hd.tw4478964076566166474 : True := trivial
theorem hd.tw9582238327629474750 : True := trivial
theorem hd.tw16211521421427940678 : True := trivial
theorem hd.tw16178712458983371728 : True := trivial
theorem hd.tw1860674893733999873 : True := trivial
theorem hd.tw18245042118932799458 : True := trivial
theorem hd.tw3795277891434052102 : True := trivial
theorem hd.tw6998783941825042932 : True := trivial
theorem hd.tw2134215046882385847 : True := trivial
theorem hd.tw1439246655266547700 : True := trivial
theorem hd.tw128412058910260475 : True := trivial
theorem hd.tw17062030032774818151 : True := trivial
theorem hd.tw10258999931320997221 : True := trivial
theorem hd.tw14246236162039180721 : True := trivial
theorem hd.tw11513968764499736323 : True := trivial
theorem hd.tw11551083187376567056 : True := trivial
theorem hd.tw15578025631644234493 : True := trivial
theorem hd.tw1409312971732116557 : True := trivial
theorem hd.tw432457690288141553 : True := trivial
theorem hd.tw461538923250603899 : True := trivial
theorem hd.tw12023040214023829324 : True := trivial
theorem hd.tw6196171512934965099 : True := trivial
theorem hd.tw17577478241444706838 : True := trivial
theorem hd.tw4138081844389336918 : True := trivial
theorem hd.tw10543509907540572799 : True := trivial
theorem hd.tw7854228177987924090 : True := trivial
theorem hd.tw6819123309680001836 : True := trivial
theorem hd.tw876933089483189297 : True := trivial
theorem hd.tw17449393022594162991 : True := trivial
theorem hd.tw16868993833207775613 : True := trivial
theorem hd.tw9298403506768410418 : True := trivial
theorem hd.tw8735263284916673568 : True := trivial
theorem hd.tw16945582573551092051 : True := trivial
theorem hd.tw13783031573616600631 : True := trivial
theorem hd.tw17893044597097874663 : True := trivial
theorem hd.tw2788664435532181463 : True := trivial
theorem hd.tw5167245352685981253 : True := trivial
theorem hd.tw1882180444382439491 : True := trivial
theorem hd.tw11587034568685482758 : True := trivial
theorem hd.tw14955159897011116063 : True := trivial
theorem hd.tw10258225898301398825 : True := trivial
theorem hd.tw11060259720502869834 : True := trivial
theorem hd.tw6990203504111849199 : True := trivial
theorem hd.tw16345102440705955213 : True := trivial
theorem hd.tw5716766192118558609 : True := trivial
theorem hd.tw10465514089279642386 : True := trivial
theorem hd.tw15153279154761372571 : True := trivial
theorem hd.tw12131494931117144662 : True := trivial
theorem hd.tw13919464512627920130 : True := trivial
theorem hd.tw17087091549796120035 : True := trivial
theorem hd.tw3828038474966422129 : True := trivial
theorem hd.tw13217225542625558698 : True := trivial
theorem hd.tw9813476730208780421 : True := trivial
theorem hd.tw7752767780024739350 : True := trivial
theorem hd.tw16302227732802510677 : True := trivial
theorem hd.tw16858285156579221889 : True := trivial
theorem hd.tw11754176132448286083 : True := trivial
theorem hd.tw9960721518486171458 : True := trivial
theorem hd.tw17336936450418997793 : True := trivial
theorem hd.tw1563692795949630186 : True := trivial
theorem hd.tw758273949599710562 : True := trivial
theorem hd.tw5976792059365374437 : True := trivial
theorem hd.tw5899666649113621702 : True := trivial
theorem hd.tw5054737718236178183 : True := trivial
theorem hd.tw12575139184659369484 : True := trivial
theorem hd.tw9330943631129107780 : True := trivial
theorem hd.tw1129884963351977449 : True := trivial
theorem hd.tw1118553966540926140 : True := trivial
theorem hd.tw1359830224848277088 : True := trivial
theorem hd.tw13609717118414637909 : True := trivial
theorem hd.tw8959176491354863721 : True := trivial
theorem hd.tw16794629799341752650 : True := trivial
theorem hd.tw5562173858411828344 : True := trivial
theorem hd.tw6482722132109649516 : True := trivial
theorem hd.tw16332348944364537037 : True := trivial
theorem hd.tw11917015161858427179 : True := trivial
theorem hd.tw2502866573005156581 : True := trivial
theorem hd.tw10340054900329768720 : True := trivial
theorem hd.tw6818987989461384207 : True := trivial
theorem hd.tw17975533764899295144 : True := trivial
theorem hd.tw12127338746724423809 : True := trivial
theorem hd.tw17252143746492648416 : True := trivial
theorem hd.tw14457593812595234344 : True := trivial
theorem hd.tw16376525773666504680 : True := trivial
theorem hd.tw7354087734392854552 : True := trivial
theorem hd.tw1222794163293265305 : True := trivial
theorem hd.tw16222499966895952523 : True := trivial
theorem hd.tw18291419657060728153 : True := trivial
theorem hd.tw15279998641719260112 : True := trivial
theorem hd.tw6186238094035137676 : True := trivial
theorem hd.tw3953601041324332601 : True := trivial
theorem hd.tw5688689073270430877 : True := trivial
theorem hd.tw7120233287515763914 : True := trivial
theorem hd.tw15152743547302097792 : True := trivial
theorem hd.tw14598272352848978880 : True := trivial
theorem hd.tw1666387254794493845 : True := trivial
theorem hd.tw4478177076189095293 : True := trivial
theorem hd.tw13122850982685727845 : True := trivial
theorem hd.tw100483095206116625 : True := trivial
theorem hd.tw7492773218913965947 : True := trivial
theorem hd.tw12459740579856956213 : True := trivial
theorem hd.tw17330132731328240911 : True := trivial
theorem hd.tw17397052962432165270 : True := trivial
theorem hd.tw12050417470231563642 : True := trivial
theorem hd.tw697623264460660564 : True := trivial
theorem hd.tw6820862383352777685 : True := trivial
theorem hd.tw10678649693572172417 : True := trivial
theorem hd.tw15890378047532165470 : True := trivial
theorem hd.tw8112040973832200146 : True := trivial
theorem hd.tw10844753989422098599 : True := trivial
theorem hd.tw7628703163842673926 : True := trivial
theorem hd.tw12268275109542032366 : True := trivial
theorem hd.tw2327210489368252092 : True := trivial
theorem hd.tw8587404781116728655 : True := trivial
theorem hd.tw9673543361469618366 : True := trivial
theorem hd.tw2304311442786299043 : True := trivial
theorem hd.tw11210553801493137410 : True := trivial
theorem hd.tw2845679848157327705 : True := trivial
theorem hd.tw8960069828448710407 : True := trivial
theorem hd.tw15411387601460861337 : True := trivial
theorem hd.tw7028611270464810887 : True := trivial
theorem hd.tw1836080755315867724 : True := trivial
theorem hd.tw54727356038600574 : True := trivial
theorem hd.tw15368132723985388332 : True := trivial
theorem hd.tw16432713993328977331 : True := trivial
theorem hd.tw4523669819894539328 : True := trivial
theorem hd.tw881767010812075491 : True := trivial
theorem hd.tw881544763273948857 : True := trivial
theorem hd.tw14353793391729792155 : True := trivial
theorem hd.tw13518370688599389936 : True := trivial
theorem hd.tw6154236146145331571 : True := trivial
theorem hd.tw5130813555471234732 : True := trivial
theorem hd.tw17574625026820762457 : True := trivial
theorem hd.tw7534799579077118603 : True := trivial
theorem hd.tw6305734824756694309 : True := trivial
theorem hd.tw1712922718373300912 : True := trivial
theorem hd.tw16684818696116721337 : True := trivial
theorem hd.tw8664936974563722654 : True := trivial
theorem hd.tw2855845756224970109 : True := trivial
theorem hd.tw7763873220885509757 : True := trivial
theorem hd.tw8458067239894703972 : True := trivial
theorem hd.tw17454471701868102899 : True := trivial
theorem hd.tw10491609206876299696 : True := trivial
theorem hd.tw6276725880618359904 : True := trivial
theorem hd.tw11912922877643110818 : True := trivial
theorem hd.tw14168552714766633299 : True := trivial
theorem hd.tw7366208706002141716 : True := trivial
theorem hd.tw4021928978595405253 : True := trivial
theorem hd.tw280609765759037681 : True := trivial
theorem hd.tw10781468475247234061 : True := trivial
theorem hd.tw13855946660403688772 : True := trivial
theorem hd.tw17672654358674132775 : True := trivial
theorem hd.tw7540741092611519060 : True := trivial
theorem hd.tw14492701947808656938 : True := trivial
theorem hd.tw920214292312260371 : True := trivial
theorem hd.tw13437302318768402701 : True := trivial
theorem hd.tw9657781627882305391 : True := trivial
theorem hd.tw12364972598781006883 : True := trivial
theorem hd.tw3694398316872202419 : True := trivial
theorem hd.tw10507497572311344420 : True := trivial
theorem hd.tw15213948185873263833 : True := trivial
theorem hd.tw10403243965636340961 : True := trivial
theorem hd.tw18219297243305740317 : True := trivial
theorem hd.tw5505332120971382143 : True := trivial
theorem hd.tw13321331477185743149 : True := trivial
theorem hd.tw9073681462420916055 : True := trivial
theorem hd.tw15595854959937240912 : True := trivial
theorem hd.tw7955510936560370401 : True := trivial
theorem hd.tw16056359734778111409 : True := trivial
theorem hd.tw2781682124601125471 : True := trivial
theorem hd.tw13280443560766958183 : True := trivial
theorem hd.tw7494724483528729301 : True := trivial
theorem hd.tw6898005170327248138 : True := trivial
theorem hd.tw8841187974860818712 : True := trivial
theorem hd.tw4819202231147424091 : True := trivial
theorem hd.tw4111692666942324129 : True := trivial
theorem hd.tw4325921153153474475 : True := trivial
theorem hd.tw11631947586910100387 : True := trivial
theorem hd.tw4642405928176397000 : True := trivial
theorem hd.tw8832402302947667407 : True := trivial
theorem hd.tw8652628183442184457 : True := trivial
theorem hd.tw1800889605409440832 : True := trivial
theorem hd.tw12744807935193187038 : True := trivial
theorem hd.tw12936449754285732098 : True := trivial
theorem hd.tw16920754564084929960 : True := trivial
theorem hd.tw9228397985900620932 : True := trivial
theorem hd.tw185848376630758926 : True := trivial
theorem hd.tw13277076834127875243 : True := trivial
theorem hd.tw17076082267592564974 : True := trivial
theorem hd.tw4360684699965382250 : True := trivial
theorem hd.tw6868836192036940282 : True := trivial
theorem hd.tw14137390275340422267 : True := trivial
theorem hd.tw1088296927520436173 : True := trivial
theorem hd.tw6545403380812914513 : True := trivial
theorem hd.tw4315991029959535628 : True := trivial
theorem hd.tw12677348761684209422 : True := trivial
theorem hd.tw4292457097857839397 : True := trivial
theorem hd.tw8879563391730754479 : True := trivial
theorem hd.tw4817003022231809500 : True := trivial
theorem hd.tw2040990291671593033 : True := trivial
theorem hd.tw9748044761591592747 : True := trivial
theorem hd.tw15048261121198461528 : True := trivial
theorem hd.tw12611767792052310623 : True := trivial
theorem hd.tw8727321023445011275 : True := trivial
theorem hd.tw8516288146210602744 : True := trivial
theorem hd.tw17542962492245011380 : True := trivial
theorem hd.tw14906377314874228009 : True := trivial
theorem hd.tw1760603350576429475 : True := trivial
theorem hd.tw3443669649825651883 : True := trivial
theorem hd.tw4788038989552484473 : True := trivial
theorem hd.tw257007361410690125 : True := trivial
theorem hd.tw4377701919642642989 : True := trivial
theorem hd.tw9325612240067072397 : True := trivial
theorem hd.tw15114108414909977919 : True := trivial
theorem hd.tw6761669909254768831 : True := trivial
theorem hd.tw4702841417184801058 : True := trivial
theorem hd.tw15083628210047938546 : True := trivial
theorem hd.tw14892549342360969540 : True := trivial
theorem hd.tw9237616624170024493 : True := trivial
theorem hd.tw6663896369628448293 : True := trivial
theorem hd.tw15529170255622000948 : True := trivial
theorem hd.tw11905163887095721015 : True := trivial
theorem hd.tw7540655947842036084 : True := trivial
theorem hd.tw6931407450589930559 : True := trivial
theorem hd.tw13903934854276604550 : True := trivial
theorem hd.tw1033889070964956483 : True := trivial
theorem hd.tw940617070666608080 : True := trivial
theorem hd.tw10292235466723388172 : True := trivial
theorem hd.tw5511420028821071320 : True := trivial
theorem hd.tw6555240042291301478 : True := trivial
theorem hd.tw16640546478005224243 : True := trivial
theorem hd.tw8226494294326810461 : True := trivial
theorem hd.tw6830512106363814048 : True := trivial
theorem hd.tw2000490053193787569 : True := trivial
theorem hd.tw15833661619300960221 : True := trivial
theorem hd.tw5592360268479517082 : True := trivial
theorem hd.tw18264374347568628810 : True := trivial
theorem hd.tw8053944837975664402 : True := trivial
theorem hd.tw11389486352061984695 : True := trivial
theorem hd.tw13994979335412520660 : True := trivial
theorem hd.tw17681399029576232318 : True := trivial
theorem hd.tw7023726343779634624 : True := trivial
theorem hd.tw11162318198679636149 : True := trivial
theorem hd.tw5567388512258382067 : True := trivial
theorem hd.tw7082855905992002993 : True := trivial
theorem hd.tw3704167492566942397 : True := trivial
theorem hd.tw2780625817919758106 : True := trivial
theorem hd.tw1610171440888473627 : True := trivial
theorem hd.tw13638418597567726942 : True := trivial
theorem hd.tw5174551420813472067 : True := trivial
theorem hd.tw9184186324627900627 : True := trivial
theorem hd.tw8457440626546761165 : True := trivial
theorem hd.tw2391449824757734642 : True := trivial
theorem hd.tw13642289790063256904 : True := trivial
theorem hd.tw226724450230711188 : True := trivial
theorem hd.tw13330244855972007585 : True := trivial
theorem hd.tw3196399650302076718 : True := trivial
theorem hd.tw17325209927041812611 : True := trivial
theorem hd.tw7512474625130614241 : True := trivial
theorem hd.tw16029623286316568529 : True := trivial
theorem hd.tw14462709497994964445 : True := trivial
theorem hd.tw1699103778626983548 : True := trivial
theorem hd.tw13532847315355080253 : True := trivial
theorem hd.tw1331086792558400476 : True := trivial
section PartHD
open PySem.Calls
/-- the law's def, called with an int: it raises at once. A row for the head alone: its by-products are the written heap and the top's run -/
abbrev rX : OpenRow := { PySem.Challenge.rw_nz0327_01.row with args := [.int], pre := .lit (.bool true), post := .lit (.bool true), raises := [(.builtin "TypeError", .lit (.bool true))] }
theorem say_HD_0 : True := by
  k_with "subscriptTail" => (k_here; (with_reducible show wpAny _ _ (subscriptTail _ _ (Value.int _ _) _) _ _ _); (refine sub_int rfl ?_ ⟨_, rfl⟩); k_whole; intro h_wz tk e X; (try dsimp only at X ⊢); replace X := unpush X)
  trivial
set_option Elab.async true in
theorem hd (hs : OpenRow.wellSaid rX = true) : OpenRow.Holds rX := by
  w_on
  k_head
  (case hw => w_witness2)
  k_fill
  intro w s₀ s₁ mg mb G Y fa o pm cd doc dV kV ho hd' hcd hD hmg hg args vals as hpre hlay hrd hwl hlo
  have KX := kIn_of Y
  refine Ground.open G ?_
  intro T B D TE TW
  obtain ⟨_, _, M⟩ := bmod_of_top T
  have TA := at_of_top T
  try (obtain ⟨_, _, he, B0⟩ := based_of_top T rfl hmg ho hd'; have he' : cd = _ := he; subst he'; clear he)
  clear hmg
  wrow_args hpre hlay hrd hwl hlo
  all_goals (
    first | refine callC_kw (enter_call ?_) | refine enter_call ?_ | refine callC_kw (enter_callW ?_) | refine enter_callW ?_ | w_how
    w_top on
    try refine codeAny_mono ?_ (fun _ _ g => GoodW.toG g)
    have K0 := below_caller (Top.heap T)
    w_call any ho hd' hcd hD T F
    clear hd' TA
    k_drop
    skip)
  all_goals try k_fold
  k_steps
  refine leave_onX rfl K0 (by assumption) (by assumption) (by assumption) ?_
  intro h' R' U'
  try dsimp only at R' U' ⊢
  w_top off
  exact good_err R' hg (by rfl) rfl
end PartHD
#print axioms hd

theorem asLaw.tw881767010812075491 : True := trivial
theorem asLaw.tw1515107057699969499 : True := trivial
set_option Elab.async true in
theorem asLaw (h : PySem.Challenge.rw_nz0327_01.row.wellSaid = true → PySem.Challenge.rw_nz0327_01.row.Holds) : PySem.Challenge.rw_nz0327_01.Holds := by
  w_on
  o_law
  w_top off
  exact h (by assumption)
#print axioms asLaw
theorem tidy_PA : True := by
  w_top off
  trivial
/-! elimination by continuation: the goal is named once, not once a level -/
theorem ex1 {α : Sort _} {p : α → Prop} {G : Prop} (h : ∃ a, p a) (k : ∀ a, p a → G) : G := h.elim k
theorem ex2 {α β : Sort _} {p : α → β → Prop} {G : Prop} (h : ∃ a b, p a b) (k : ∀ a b, p a b → G) : G := h.elim fun a h => h.elim (k a)
theorem ex3 {α β γ : Sort _} {p : α → β → γ → Prop} {G : Prop} (h : ∃ a b c, p a b c) (k : ∀ a b c, p a b c → G) : G := h.elim fun a h => ex2 h (k a)
theorem ex4 {α β γ δ : Sort _} {p : α → β → γ → δ → Prop} {G : Prop} (h : ∃ a b c d, p a b c d) (k : ∀ a b c d, p a b c d → G) : G := h.elim fun a h => ex3 h (k a)
theorem ex5 {α β γ δ ε : Sort _} {p : α → β → γ → δ → ε → Prop} {G : Prop} (h : ∃ a b c d e, p a b c d e) (k : ∀ a b c d e, p a b c d e → G) : G := h.elim fun a h => ex4 h (k a)
theorem ex6 {α β γ δ ε ζ : Sort _} {p : α → β → γ → δ → ε → ζ → Prop} {G : Prop} (h : ∃ a b c d e f, p a b c d e f) (k : ∀ a b c d e f, p a b c d e f → G) : G := h.elim fun a h => ex5 h (k a)
theorem ex7 {α β γ δ ε ζ η : Sort _} {p : α → β → γ → δ → ε → ζ → η → Prop} {G : Prop} (h : ∃ a b c d e f g, p a b c d e f g) (k : ∀ a b c d e f g, p a b c d e f g → G) : G := h.elim fun a h => ex6 h (k a)
theorem ex8 {α β γ δ ε ζ η θ : Sort _} {p : α → β → γ → δ → ε → ζ → η → θ → Prop} {G : Prop} (h : ∃ a b c d e f g i, p a b c d e f g i) (k : ∀ a b c d e f g i, p a b c d e f g i → G) : G := h.elim fun a h => ex7 h (k a)
theorem an2 {a b G : Prop} (h : a ∧ b) (k : a → b → G) : G := k h.1 h.2
theorem an3 {a b c G : Prop} (h : a ∧ b ∧ c) (k : a → b → c → G) : G := an2 h.2 (k h.1)
theorem an4 {a b c d G : Prop} (h : a ∧ b ∧ c ∧ d) (k : a → b → c → d → G) : G := an3 h.2 (k h.1)
theorem an5 {a b c d e G : Prop} (h : a ∧ b ∧ c ∧ d ∧ e) (k : a → b → c → d → e → G) : G := an4 h.2 (k h.1)
theorem an6 {a b c d e f G : Prop} (h : a ∧ b ∧ c ∧ d ∧ e ∧ f) (k : a → b → c → d → e → f → G) : G := an5 h.2 (k h.1)
theorem an7 {a b c d e f g G : Prop} (h : a ∧ b ∧ c ∧ d ∧ e ∧ f ∧ g) (k : a → b → c → d → e → f → g → G) : G := an6 h.2 (k h.1)
theorem an8 {a b c d e f g i G : Prop} (h : a ∧ b ∧ c ∧ d ∧ e ∧ f ∧ g ∧ i) (k : a → b → c → d → e → f → g → i → G) : G := an7 h.2 (k h.1)
theorem an9 {a b c d e f g i j G : Prop} (h : a ∧ b ∧ c ∧ d ∧ e ∧ f ∧ g ∧ i ∧ j) (k : a → b → c → d → e → f → g → i → j → G) : G := an8 h.2 (k h.1)
theorem anX {a b c d e f g i j l G : Prop} (h : a ∧ b ∧ c ∧ d ∧ e ∧ f ∧ g ∧ i ∧ j ∧ l) (k : a → b → c → d → e → f → g → i → j → l → G) : G := an9 h.2 (k h.1)
section PartA
open PySem.Calls Builtin Builtin.ObjectAttr PyProof.Rows.LCg
section
variable {prog : Program} {w : World} {A : Around} {E : Value → Shared → Prop} {R : Result → Shared → Prop} {h : Heap} {g : Array GenState} {d : Drawn} {t : Nat} {os : OsState}
variable {nm q : Str} {C N : Addr} {bs bm : List Value} {hdct : Bool} {sn : List Str} {sub : List Value} {ab : Bool} {col : Option Bool} {dd : Option Addr} {k0 k1 k2 k3 k5 : Option Value}
variable {bmB : List Value} {newId initId : String}

structure TailOk (bm : List Value) : Prop where
  e : bm.contains (.type "Exception") = true
  b : bm.contains (.type "BaseException") = true
  a : bm.contains (.type "AttributeError") = false
  n : bm.contains (.type "NameError") = false

theorem exc_check (F : ExcBaseFacts "Exception" newId initId bmB) (T : TailOk bm) {M : Model} {rest : List Value} {Q : Unit → Shared → Prop} (hC : h.get? C = some (excClassObj nm q C N bs bm hdct sn sub ab col dd k0 k1 k2 k3 k5 newId))
    (hq : Q () ⟨h, g, d, t, os⟩) : wpAny M A (checkBuiltinCall newId ⟨.ref C :: rest, []⟩) Q E ⟨h, g, d, t, os⟩ := by
  have hcont : (Value.ref C :: bm).contains (.type "Exception") = true := by rw [List.contains_cons, T.e, Bool.or_true]
  have hstar := F.noStar
  simp only [checkBuiltinCall, F.newKind, F.newSplit, F.newRow]
  repeat (first | refine wpAny_loadPart_at hC ?_ | (refine wpAny_isSubtype_exc hC ?_; rw [hcont]) | refine wpAny_staticBase_exc hC ?_ | refine wpAny_madeBy_exc hC ?_ | simp only [bne_self_eq_false, Bool.false_eq_true, if_false] | wp_step)
  exact hq

theorem exc_new (F : ExcBaseFacts "Exception" newId initId bmB) (T : TailOk bm) {rest : List Value} (hC : h.get? C = some (excClassObj nm q C N bs bm hdct sn sub ab col dd k0 k1 k2 k3 k5 newId))
    (hq : R (.ok (.ret (.ref (h.objs.size + 1)))) ⟨(h.push { cls := .type "tuple", data := .seq rest.toArray }).push
      { cls := .ref C, data := .fields #[.ref h.objs.size, .none, .none, .none, .bool false, .none] }, g, d, t, os⟩) (hrest : rest.length ≤ sizeLine) :
    codeAny (model prog w) A (.builtin newId ⟨.ref C :: rest, []⟩) R ⟨h, g, d, t, os⟩ := by
  have hends := F.ends
  have hcB : (Value.ref C :: bm).contains (.type "Exception") = true := by rw [List.contains_cons, T.e, Bool.or_true]
  have hcA : (Value.ref C :: bm).contains (.type "AttributeError") = false := by rw [List.contains_cons, T.a]; rfl
  have hcN : (Value.ref C :: bm).contains (.type "NameError") = false := by rw [List.contains_cons, T.n]; rfl
  refine codeAny_builtinAt F.entry ?_
  unfold Builtin.«BaseException.__new__»
  refine PySem.wpAt_bind ?_
  show PySem.wpAt _ _ _ (stack >>= _) _ _ _
  refine PySem.wpAt_bind (PySem.wpAt_stack fun p below => PySem.wpAt_of_wpAny ?_)
  wp_walk
  refine PySem.wpAt_of_wpAny ?_
  rw [F.owner]
  repeat (first | with_reducible refine wpAny_madeHere_exc F.canon hC ?_ | with_reducible refine wpAny_loadPart_at hC ?_ | (with_reducible refine wpAny_isSubtype_exc hC ?_; first | rw [hcB] | rw [hcA] | rw [hcN]) | wp_step)
  show R _ _
  rw [Heap.size_push]
  exact hq

theorem exc_type_call (F : ExcBaseFacts "Exception" newId initId bmB) (T : TailOk bm) {rest : List Value} {fI : Addr} {oI : Obj} {Q : Fin → Shared → Prop}
    (hC : h.get? C = some (excClassObj nm q C N bs bm hdct sn sub ab col dd k0 k1 k2 k3 k5 newId)) (hi : Looks (model prog w) h (typeLookup (.ref C) "__init__") (some (.ref fI)))
    (hfI : h.get? fI = some oI) (hfc : oI.cls = .type "function")
    (hq : ∀ h' e, Heap.MadeExcOf h h' e (.ref C) rest →
      wpAny (model prog w) A (call (.ref fI) (.ref e :: rest)) (fun r s' => r = .none ∧ Q (.done (.ret (.ref e))) s') E ⟨h', g, d, t, os⟩) (hrest : rest.length ≤ sizeLine) :
    wpAny (model prog w) A (Builtin.«type.__call__» ⟨.ref C :: rest, []⟩) Q E ⟨h, g, d, t, os⟩ := by
  repeat (first | with_reducible refine wpAny_loadPart_at hC ?_ | with_reducible refine wpAny_madeBy_exc hC ?_ | wp_step)
  refine codeAny_call_builtin_code (Code.quiet_builtin _ F.quiet) (exc_check F T hC ?_)
  refine exc_new F T hC ?_ hrest
  show wpAny _ _ _ _ _ _
  have kp : ∀ b o, h.get? b = some o → ((h.push { cls := .type "tuple", data := .seq rest.toArray }).push
      { cls := .ref C, data := .fields #[.ref h.objs.size, .none, .none, .none, .bool false, .none] }).get? b = some o := fun b o e => Heap.get?_push_of_some _ (Heap.get?_push_of_some _ e)
  have hC₁ := kp _ _ hC
  have hfI₁ := kp _ _ hfI
  have hget : ((h.push { cls := .type "tuple", data := .seq rest.toArray }).push
      { cls := .ref C, data := .fields #[.ref h.objs.size, .none, .none, .none, .bool false, .none] }).get? (h.objs.size + 1) = some
      { cls := .ref C, data := .fields #[.ref h.objs.size, .none, .none, .none, .bool false, .none] } := by heap_get
  have hcC : (Value.ref C :: bm).contains (.ref C) = true := by simp
  unfold isInstance
  repeat (first | with_reducible refine wpAny_loadPart_at hget ?_ | (with_reducible refine wpAny_isSubtype_exc hC₁ ?_; rw [hcC]) | wp_step)
  show wpAny _ _ (typeLookup (.ref C) _) _ _ _
  refine (hi.keeps kp).here ?_
  refine wpAny_holding (wpAny_bind ?_)
  unfold bindSpecial
  refine wpAny_bind (wpAny_typeOf (T := "function") ⟨_, hfI₁, hfc⟩ ?_)
  rw [if_pos (by decide)]
  refine wpAny_pure (wpAny_bind (wpAny_mono (hq _ (h.objs.size + 1) ⟨kp, Heap.get?_none_of_le (Nat.le_succ _), h.objs.size, hget, Heap.get?_none_of_le (Nat.le_refl _), ?_⟩) (fun r s' hr => ?_) fun _ _ x => x))
  · exact Heap.get?_push_of_some _ (Heap.get?_push_at rfl rfl)
  · obtain ⟨rfl, hQ⟩ := hr
    wp_walk
    exact hQ

theorem exc_call (F : ExcBaseFacts "Exception" newId initId bmB) (T : TailOk bm) {rest : List Value} {fI : Addr} {oI : Obj} {Q : Value → Shared → Prop}
    (hC : h.get? C = some (excClassObj nm q C N bs bm hdct sn sub ab col dd k0 k1 k2 k3 k5 newId)) (hi : Looks (model prog w) h (typeLookup (.ref C) "__init__") (some (.ref fI)))
    (hfI : h.get? fI = some oI) (hfc : oI.cls = .type "function")
    (hq : ∀ h' e, Heap.MadeExcOf h h' e (.ref C) rest →
      wpAny (model prog w) (A.under (.builtin "type.__call__" ⟨.ref C :: rest, []⟩)) (call (.ref fI) (.ref e :: rest)) (fun r s' => r = .none ∧ Q (.ref e) s') E ⟨h', g, d, t, os⟩) (hrest : rest.length ≤ sizeLine) :
    wpAny (model prog w) A (call (.ref C) rest) Q E ⟨h, g, d, t, os⟩ := by
  have f1 := tc_lookup
  have f2 := tc_bind (.ref C)
  have hT : (⟨h, g, d, t, os⟩ : Shared).TypeIs (.ref C) "type" := ⟨_, hC, rfl⟩
  refine wpAny_call (codeAny_of_tree ?_)
  show wpAny _ _ (callAny (.ref C) _) _ _ _
  repeat (any_goals (first | assumption | with_reducible refine wpAny_loadPart_at hC ?_ | wp_step))
  refine ⟨rfl, ?_⟩
  refine codeAny_call_builtin_at (Code.quiet_builtin _ (by decide +kernel)) entry_typeCall (wpAny_check_type_call_sub hC (exc_type_call F T (hrest := hrest) hC hi hfI hfc fun h' e hm => ?_))
  exact hq h' e hm
end
theorem meta_Exc : typeOf (.type "Exception") = pure (.type "type") := by kernel_rfl
noncomputable abbrev eObj (C : Addr) (t : Addr) : Obj := { cls := .ref C, data := .fields #[.ref t, .none, .none, .none, .bool false, .none] }
noncomputable abbrev tupObj (vs : List Value) : Obj := { cls := .type "tuple", data := .seq vs.toArray }
section
variable {prog : Program} {w : World} {A : Around} {E : Value → Shared → Prop} {s : Shared}
variable {nm q : Str} {C N : Addr} {bs bm : List Value} {hdct : Bool} {sn : List Str} {sub : List Value} {ab : Bool} {col : Option Bool} {dd : Option Addr} {k0 k1 k2 k3 k5 : Option Value}

theorem exc_check_init {h : Heap} {g : Array GenState} {d : Drawn} {t : Nat} {os : OsState} (T : TailOk bm) {M : Model} {e : Addr} {oe : Obj} {rest : List Value} {Q : Unit → Shared → Prop}
    (hC : h.get? C = some (excClassObj nm q C N bs bm hdct sn sub ab col dd k0 k1 k2 k3 k5 "Exception.__new__")) (he : h.get? e = some oe) (hcls : oe.cls = .ref C) (hq : Q () ⟨h, g, d, t, os⟩) :
    wpAny M A (checkBuiltinCall "Exception.__init__" ⟨.ref e :: rest, []⟩) Q E ⟨h, g, d, t, os⟩ := by
  have F := PySem.F.excCall_Exception
  have hcB : (Value.ref C :: bm).contains (.type "Exception") = true := by rw [List.contains_cons, T.e, Bool.or_true]
  have hshort := F.noStar
  simp only [checkBuiltinCall, F.initKind, F.initSplit, F.initRow]
  repeat (first | (with_reducible refine wpAny_loadPart_at he ?_; rw [hcls]) | with_reducible refine wpAny_loadPart_at hC ?_ | (with_reducible refine wpAny_isSubtype_exc hC ?_; rw [hcB]) | wp_step)
  refine wpAny_onRaise ?_
  rw [show ∀ (a b : String) (n : Nat), Bind.check ⟨.positional, "*", "Exception", .self, [⟨"args", .varPos, false⟩]⟩ a b n (List.map (fun x => x.fst) ({ pos := Value.ref e :: rest } : Args).kw) = pure () from
    fun a b n => check_star_args _ _ _ _ _ _]
  exact wpAny_pure hq

theorem exc_base_init {e t0 : Addr} {x : Value} {Q : Fin → Shared → Prop} (he : s.heap.get? e = some (eObj C t0))
    (h : Q (.done (.ret .none)) { s with heap := (s.heap.push (tupObj [x])).update e (Obj.mapFields (·.setIfInBounds 0 (.ref s.heap.objs.size))) }) :
    wpAny (model prog w) A (Builtin.«BaseException.__init__» ⟨[.ref e, x], []⟩) Q E s := by
  unfold Builtin.«BaseException.__init__»
  dsimp only
  rw [if_neg (by simp)]
  unfold newTuple Builtin.BaseException.bexcPut
  have he₁ := Heap.get?_push_of_some (h := s.heap) (tupObj [x]) he
  refine wpAny_bind (wpAny_newObj_type (wpAny_bind (wpAny_bind (wpAny_field he₁ rfl rfl (wpAny_bind (wpAny_setField he₁ rfl (by show 0 < 6; decide) ?_))))) (by size_fits))
  exact wpAny_letGo (wpAny_pure h)

theorem exc_init_K {K : Frag} {h₀ : Heap} {L : Addr} {m : Str → Option Value} {rest : List (Addr × Obj)} {e t0 : Addr} {x : Value} {Q : Value → Shared → Prop}
    (T : TailOk bm) (F : Fr h₀ L s.heap m) (X : K.In h₀) (N : News h₀ L s.heap ((e, eObj C t0) :: rest)) (hr : ∀ q ∈ rest, q.1 ≠ e)
    (hC : K.lookup C = some (excClassObj nm q C N' bs bm hdct sn sub ab col dd k0 k1 k2 k3 k5 "Exception.__new__"))
    (hq : ∀ h' T, Fr h₀ L h' m → News h₀ L h' ((T, tupObj [x]) :: (e, eObj C T) :: rest) → (∀ q ∈ (e, eObj C t0) :: rest, q.1 < T) → Q .none { s with heap := h' }) :
    wpAny (model prog w) A (call (.builtin "Exception.__init__") [.ref e, x]) Q E s := by
  have F9 := PySem.F.excCall_Exception
  have he : s.heap.get? e = some (eObj C t0) := News.get N (.head _)
  have hC' := F.keep _ _ (X _ _ hC)
  have hlt := Heap.lt_size he
  obtain ⟨hp, g, d, tk, os⟩ := s
  refine wpAny_call (codeAny_call_builtin F9.init.plain F9.initEntry (exc_check_init T hC' he rfl ?_))
  refine exc_base_init he ?_
  have FP := F.push (tupObj [x])
  have NP := N.push F (tupObj [x])
  obtain ⟨F2, N2⟩ := news_upd (pre := [(hp.objs.size, tupObj [x])]) (post := rest) (o' := eObj C hp.objs.size) (f := Obj.mapFields (·.setIfInBounds 0 (.ref hp.objs.size))) FP NP
    (fun p hp' => by rw [List.mem_singleton.mp hp']; exact Nat.ne_of_gt hlt) hr rfl rfl
  exact hq _ _ F2 N2 fun q hq => Heap.lt_size (N q hq).1
end
noncomputable abbrev eObjD (C : Addr) (t : Addr) (d : Addr) : Obj := { cls := .ref C, dict := some d, data := .fields #[.ref t, .none, .none, .none, .bool false, .none] }
section
variable {prog : Program} {w : World} {A : Around} {E : Value → Shared → Prop} {s : Shared} {K : Frag} {C B x L : Addr} {h₀ : Heap} {m : Str → Option Value}

theorem exc_refuse (self : Value) (C B : Addr) : refuseLoop self "__setattr__" [.ref C, .ref B, .type "Exception", .type "BaseException", .type "object"] = pure () := by
  rw [refuseLoop_ref, refuseLoop_ref]
  exact PySem.F.store_Exception.passes self

theorem exc_osa_open {R : Result → Shared → Prop} {ox : Obj} {od : Option Obj} {name : Str} {tk : Tok} {v : Value} {cd : ClassData} (X : K.In s.heap) (I : InstAt s.heap x ox C od)
    (hc : clsIn K C = some cd) (hm : cd.mro = [.ref C, .ref B, .type "Exception", .type "BaseException", .type "object"]) (ht : takerIn K C name = some none)
    (h : ∀ b, wpAny (model prog w) A.in1 (storeInOwnDict (.ref x) (.ref C) (.str name tk) name v b)
      (fun fin s' => match fin with | .done f => R (.ok f) s' | .again c' => c'.quiet = true ∧ codeAny (model prog w) A c' R s') (fun e s' => R (.error e) s') s) :
    codeAny (model prog w) A (.call (.builtin "object.__setattr__") ⟨[.ref x, .str name tk, v], []⟩) R s := by
  have SF := PySem.F.store_object
  have sub : Looks (model prog w) s.heap (isInstance (.ref x) (.type "object")) true := I.type.andThen (looks_mroIn X (by
    unfold mroIn; rw [hc, Option.bind_some, hm]; rfl))
  refine codeAny_call_builtin SF.slot.plain SF.entry (@check_slot (model prog w) _ _ s "object.__setattr__" "object" "__setattr__" (.ref x) [.str name tk, v] [] _ SF.kind SF.split sub (SF.args (.ref x) (.str name tk) v) ?_)
  obtain ⟨attr, ha, hr⟩ := Option.bind_eq_some_iff.mp ht
  have hm' : Looks (model prog w) s.heap (mroOf (.ref C)) cd.mro := (looks_clsIn X hc).andThen .now
  have L3 : Looks (model prog w) s.heap (storeTaker? attr) none := by
    cases attr with
    | none => exact .now
    | some a =>
      obtain ⟨b, hb, hb'⟩ := Option.map_eq_some_iff.mp hr
      refine (looks_takesIn X hb).andThen ?_
      cases b
      · exact .now
      · cases hb'
  rw [osa_eq, refuse_eq]
  refine wpAny_bind (wpAny_bind (I.type.here (wpAny_bind (hm'.here ?_))))
  rw [hm, exc_refuse]
  refine wpAny_pure (wpAny_bind (I.type.here (wpAny_bind ((looks_findIn X ha).here (wpAny_bind (L3.here ?_))))))
  exact h _

theorem exc_first {t : Addr} {name : Str} {v : Value} {cd : ClassData} {pre post : List (Addr × Obj)} {Q : Unit → Shared → Prop}
    (F : Fr h₀ L s.heap m) (X₀ : K.In h₀) (N : News h₀ L s.heap (pre ++ (x, eObj C t) :: post)) (h1 : ∀ p ∈ pre, p.1 ≠ x) (h2 : ∀ p ∈ post, p.1 ≠ x)
    (hs : findIn K (.ref C) "__setattr__" = some (some (.builtin "object.__setattr__")))
    (hc : clsIn K C = some cd) (hm : cd.mro = [.ref C, .ref B, .type "Exception", .type "BaseException", .type "object"]) (hd : cd.hasDict = true) (ht : takerIn K C name = some none)
    (h : ∀ h' d tk tk', Fr h₀ L h' m → News h₀ L h' ((d, dictOf [⟨PyData.keyHash w.params name, .str name tk, v⟩] 1) :: pre ++ (x, eObjD C t d) :: post) → (∀ p ∈ pre ++ (x, eObj C t) :: post, p.1 < d) → Q () { s with heap := h', toks := tk' }) :
    wpAny (model prog w) A (setAttr (.ref x) name v) Q E s := by
  have X := X₀.keeps F.keep
  have hx : s.heap.get? x = some (eObj C t) := News.get N (List.mem_append_right _ (.head _))
  have I : InstAt s.heap x (eObj C t) C none := ⟨hx, rfl, rfl, trivial⟩
  refine set_plain X I hs ?_
  have I' : InstAt ({ s with toks := s.toks + 1 } : Shared).heap x (eObj C t) C none := I
  refine exc_osa_open (s := { s with toks := s.toks + 1 }) X I' hc hm ht fun b => ?_
  have FP := F.push emptyDict
  have NP := N.push F emptyDict
  have hlt : x < s.heap.objs.size := Heap.lt_size hx
  have hlts : ∀ p ∈ pre ++ (x, eObj C t) :: post, p.1 < s.heap.objs.size := fun p hp => Heap.lt_size (N p hp).1
  obtain ⟨F1, N1⟩ := news_upd (pre := (s.heap.objs.size, emptyDict) :: pre) (post := post) (d := x) (o := eObj C t) (o' := eObjD C t s.heap.objs.size) (f := fun o => { o with dict := some s.heap.objs.size }) FP NP
    (fun p hp => by
      rcases List.mem_cons.mp hp with rfl | hp
      · exact Nat.ne_of_gt hlt
      · exact h1 p hp) h2 rfl rfl
  have D := News.get N1 (.head _)
  obtain ⟨F2, N2⟩ := news_upd (pre := []) (post := pre ++ (x, eObjD C t s.heap.objs.size) :: post) (d := s.heap.objs.size) (o := emptyDict)
    (o' := dictOf [⟨PyData.keyHash w.params name, .str name (s.toks + 1), v⟩] 1) (f := Obj.putName name (PyData.keyHash w.params name) (.str name (s.toks + 1)) v) F1 N1 (fun p hp => nomatch hp)
    (fun p hp => by
      rcases List.mem_append.mp hp with hp | hp
      · exact Nat.ne_of_lt (hlts p (List.mem_append_left _ hp))
      · rcases List.mem_cons.mp hp with rfl | hp
        · exact Nat.ne_of_lt hlt
        · exact Nat.ne_of_lt (hlts p (List.mem_append_right _ (.tail _ hp)))) (putName_dict _ _ _ _ _ _) rfl
  have D2 := News.get N2 (.head _)
  refine wpAny_bind (wpAny_pure (wpAny_bind (wpAny_bind (wpAny_loadPart hx (wpAny_bind (looks_clsIn X hc _ _ _ _ (fun _ _ e => e) ?_))))))
  rw [hd]
  simp only [Bool.not_true, Bool.false_eq_true, if_false]
  show wpAny _ _ (if (!true || !typeHasDict (Value.ref C)) = true then _ else _) _ _ _
  rw [if_neg (by simp [typeHasDict])]
  refine wpAny_bind (wpAny_alloc ?_)
  refine wpAny_bind (wpAny_update (Heap.get?_push_of_some _ hx) ?_)
  refine wpAny_pure ?_
  refine wpAny_bind (wpAny_pure (wpAny_bind ?_))
  unfold nsSet
  refine wpAny_bind (wpAny_bind (wpAny_askSetting (wpAny_pure (wpAny_bind (wpAny_mkText (wpAny_bind (wpAny_loadPart D ?_)))))))
  dsimp only
  have c : (!(#[] : Array DictEntry).any (·.key.isStr name) && (#[] : Array DictEntry).any (·.refKey)) = false := by simp
  rw [aRefKeyMayBeTheName_at, c]
  refine wpAny_updatePart D ?_
  refine wpAny_bind (wpAny_lookBehind D2 (pastItsLine_dict (by show 1 ≤ sizeLine + 1; omega)) ?_)
  exact wpAny_pure (h _ _ _ _ F2 N2 hlts)

theorem exc_more {t d : Addr} {name : Str} {v : Value} {cd : ClassData} {es : List DictEntry} {n : Nat} {od' : Obj} {pre post : List (Addr × Obj)} {Q : Unit → Shared → Prop}
    (F : Fr h₀ L s.heap m) (X₀ : K.In h₀) (N : News h₀ L s.heap (pre ++ (d, dictOf es n) :: post)) (hm1 : (x, eObjD C t d) ∈ pre ++ (d, dictOf es n) :: post) (h1 : ∀ p ∈ pre, p.1 ≠ d) (h2 : ∀ p ∈ post, p.1 ≠ d)
    (hs : findIn K (.ref C) "__setattr__" = some (some (.builtin "object.__setattr__")))
    (hc : clsIn K C = some cd) (hm : cd.mro = [.ref C, .ref B, .type "Exception", .type "BaseException", .type "object"]) (hd : cd.hasDict = true) (ht : takerIn K C name = some none)
    (hl : (getL name es).isSome = true) (e : dictOf (putL name (PyData.keyHash w.params name) (.str name (s.toks + 1)) v es) (putN name es n) = od') (hz : (putL name (PyData.keyHash w.params name) (.str name (s.toks + 1)) v es).length ≤ 1000)
    (h : ∀ h' tk', Fr h₀ L h' m → News h₀ L h' (pre ++ (d, od') :: post) → Q () { s with heap := h', toks := tk' }) :
    wpAny (model prog w) A (setAttr (.ref x) name v) Q E s := by
  have X := X₀.keeps F.keep
  have hx : s.heap.get? x = some (eObjD C t d) := News.get N hm1
  have hD : s.heap.get? d = some (dictOf es n) := News.get N (List.mem_append_right _ (.head _))
  have I : InstAt s.heap x (eObjD C t d) C (some (dictOf es n)) := ⟨hx, rfl, rfl, hD⟩
  refine set_plain X I hs ?_
  have I' : InstAt ({ s with toks := s.toks + 1 } : Shared).heap x (eObjD C t d) C (some (dictOf es n)) := I
  refine exc_osa_open (s := { s with toks := s.toks + 1 }) X I' hc hm ht fun b => ?_
  obtain ⟨U1, U2⟩ := news_upd (f := Obj.putName name (PyData.keyHash w.params name) (.str name (s.toks + 1)) v) (o' := od') F N h1 h2 ((putName_dict _ _ _ _ _ _).trans e) (by rw [← e]; rfl)
  have D' := (U2 (d, od') (by simp)).1
  refine wpAny_bind (wpAny_pure (wpAny_bind (wpAny_bind (wpAny_loadPart hx (wpAny_bind (looks_clsIn X hc _ _ _ _ (fun _ _ e => e) ?_))))))
  rw [hd]
  refine wpAny_pure (a := some d) (wpAny_bind (wpAny_pure (wpAny_bind ?_)))
  unfold nsSet
  refine wpAny_bind (wpAny_bind (wpAny_askSetting (wpAny_pure (wpAny_bind (wpAny_mkText (wpAny_bind (wpAny_loadPart hD ?_)))))))
  dsimp only
  have c : (!es.toArray.any (·.key.isStr name) && es.toArray.any (·.refKey)) = false := by
    rw [← Array.any_toList, ← Array.any_toList]
    unfold getL at hl
    split at hl
    · rename_i en he
      rw [List.any_eq_true.mpr ⟨en, List.mem_of_find?_eq_some he, List.find?_some he⟩]; rfl
    · split at hl
      · cases hl
      · rename_i z; rw [Bool.not_eq_true] at z; rw [z, Bool.and_false]
  rw [aRefKeyMayBeTheName_at, c]
  refine wpAny_updatePart hD ?_
  refine wpAny_bind (wpAny_lookBehind D' (by rw [← e]; exact pastItsLine_dict (by rw [List.size_toArray, sizeLine_eq]; omega)) ?_)
  exact wpAny_pure (h _ _ U1 U2)
end
section
variable {prog : Program} {w : World} {A : Around} {E : Value → Shared → Prop} {s : Shared} {h₀ : Heap} {L : Addr} {m : Str → Option Value} {env : Env}
/-- a comprehension without a test over whatever its iterator walks -/
theorem comp_W {elt iter : Expr} {x : Str} {px : Pos} {scope : Scope} {cl : List (Str × Addr)} {pos : Pos} {Q : Value → Shared → Prop}
    (hclos : closureFor scope env = pure cl) (hcell : ∀ y ∈ scope.names, y.2 ≠ .cell) (hkind : scope.kind = .function)
    (hnames : ∀ y ∈ scope.names, y.2 = .local → scope.names.lookup y.1 = some .local) (hx : scope.names.lookup x = some .local)
    (h : wpAny (model prog w) A (eval iter env) (fun xv s₁ => ∃ oI n P St news, (∀ (Q' : Value → Shared → Prop), Q' (.ref s₁.heap.objs.size) { s₁ with heap := s₁.heap.push oI } → wpAny (model prog w) A (pyIter xv) Q' E s₁) ∧
      Walks prog w A s₁.heap.objs.size [s₁.heap.objs.size] [s₁.heap.objs.size] n P St ∧ n ≤ sizeLine ∧ (∀ i h, St i h → ∃ o, h.get? s₁.heap.objs.size = some o) ∧ St 0 (s₁.heap.push oI) ∧
      Fr h₀ L s₁.heap m ∧ News h₀ L s₁.heap news ∧
      CompRest prog w A h₀ L m env elt x scope cl { s₁ with heap := s₁.heap.push oI } (fun _ => True) P (FinE h₀ L m { s₁ with heap := s₁.heap.push oI } Q) n 0 [] news) E s)
    (hs : ∀ x, foldedSetIterable iter env x = pure x := by intro _; rfl) :
    wpAny (model prog w) A (eval (.ListComp elt [⟨.Name x px, iter, [], 0⟩] scope pos) env) Q E s := by
  rw [eval_ListComp]
  refine wpAny_comprehension_free (use := none) rfl hs hclos hkind hnames (wpAny_mono h (fun xv s₁ h₁ => ?_) fun _ _ e => e)
  refine @ex5 _ _ _ _ _ _ _ h₁ fun oI n P St news hz => @an8 _ _ _ _ _ _ _ _ _ hz fun hit W hsz hIo hst F N R => ?_
  clear hz h₁
  refine hit _ ?_
  have up : ∀ b o, s₁.heap.get? b = some o → (s₁.heap.push oI).get? b = some o := fun b o e => Heap.get?_push_of_some _ e
  refine block_U (s₂ := { s₁ with heap := s₁.heap.push oI }) W hsz hIo (fun i h h' o nw st e e' _ _ _ => W.frame i h h' st fun b hb o' eo => by
      rw [List.mem_singleton.mp hb] at eo ⊢
      rw [e] at eo
      cases eo
      exact e') hcell hkind hx hst (fun b hb => ?_)
      (F.keeps up) (N.grown up) (Nat.ne_of_lt F.ns.lt) (next_is_new F) (fun p hp => Nat.ne_of_lt (Heap.lt_size (N p hp).1)) trivial R ?_
  · show b < (s₁.heap.push _).objs.size
    rw [Heap.size_push, List.mem_singleton.mp hb]
    exact Nat.lt_succ_self _
  · intro D C h tk m' ys news' F' N' o1 hn hC₀ hD₀ hCL hDL hCD offC fin
    refine ⟨m', hn, fun h'' hs'' => fin D h'' tk (F'.change hs'' hCL hC₀) (fun p hp => ?_) o1⟩
    refine ⟨hs''.extBut _ _ ?_ (N' p hp).1, (N' p hp).2⟩
    rcases List.mem_cons.mp hp with rfl | hp
    · exact Ne.symm hCD
    · exact offC p hp

/-- the turns of a comprehension whose elements leave the ledger as it is: by the turn's number -/
theorem rest_of {elt : Expr} {x : Str} {scope : Scope} {cl : List (Str × Addr)} {P : Nat → Value → Prop} {Fin : List Value → List (Addr × Obj) → Prop} {news : List (Addr × Obj)} {n : Nat} (G : Nat → Value → Prop)
    (turn : ∀ i v I oI C oC D m₂ ys h tk (E' : Value → Shared → Prop), i < n → P i v → NsObj oC m₂ → m₂ x = some v → Fr h₀ L h m → News h₀ L h ((I, oI) :: (C, oC) :: (D, lst ys) :: news) → Off3 I C D news → ((@Ne Nat I C) ∧ (@Ne Nat I D) ∧ (@Ne Nat C D)) →
      wpAny (model prog w) A (eval elt (compEnvC scope cl C env)) (fun y s₂ => ∃ h' tk', s₂ = { s with heap := h', toks := tk' } ∧ Fr h₀ L h' m ∧ News h₀ L h' ((I, oI) :: (C, oC) :: (D, lst ys) :: news) ∧ G i y) E' { s with heap := h, toks := tk })
    (fin : ∀ ys, ys.length = n → (∀ i y, ys[i]? = some y → G i y) → Fin ys news) : CompRest prog w A h₀ L m env elt x scope cl s (fun _ => True) P Fin n 0 [] news := by
  have key : ∀ (j i : Nat) (ys : List Value), i + j = n → ys.length = i → (∀ k y, ys[k]? = some y → G k y) → CompRest prog w A h₀ L m env elt x scope cl s (fun _ => True) P Fin j i ys news := by
    intro j
    induction j with
    | zero =>
      intro i ys hi hl hy
      exact CompRest.zero (fin ys (by omega) hy)
    | succ j ih =>
      intro i ys hi hl hy
      refine CompRest.succ ?_
      intro v I oI C oC D m₂ h tk E' hv hC hx F N off ne
      refine wpAny_mono (turn i v I oI C oC D m₂ ys h tk E' (by omega) hv hC hx F N off ne) (fun y s₂ hq => ?_) fun _ _ e => e
      refine @ex2 _ _ _ _ hq fun h' tk' hz => @an4 _ _ _ _ _ hz fun e F' N' hG => ?_
      clear hz hq
      refine ⟨h', tk', news, e, F', N', off, trivial, ih (i + 1) _ (by omega) (by rw [List.length_append, hl]; rfl) ?_⟩
      intro k y' hk
      by_cases hki : k < ys.length
      · rw [List.getElem?_append_left hki] at hk
        exact hy k y' hk
      · rw [List.getElem?_append_right (by omega)] at hk
        have : k - ys.length = 0 := by
          cases q : k - ys.length with
          | zero => rfl
          | succ z => rw [q] at hk; simp at hk
        rw [this] at hk
        have e2 : y = y' := by simpa using hk
        have e3 : k = i := by omega
        rw [← e2, e3]
        exact hG
  exact key n 0 [] (by omega) rfl (fun k y hk => by simp at hk)
end
theorem carried_of (g : Nat → Str) : ∀ (ys : List Value) (cs : List Nat), ys.length = cs.length → (∀ (i : Nat) (y : Value), ys[i]? = some y → ∃ c t, cs[i]? = some c ∧ y = .str (g c) t) → CarriedAll ys (cs.map fun c => PyData.str (g c))
  | [], [], _, _ => .nil
  | y :: ys, c :: cs, hl, h => by
    obtain ⟨c', t, e1, e2⟩ := h 0 y rfl
    have : c = c' := by simpa using e1
    subst this
    rw [e2]
    refine .cons (.str _ _) (carried_of g ys cs (by simpa using hl) fun i y' hy => ?_)
    have := h (i + 1) y' (by simpa using hy)
    simpa using this
  | [], _ :: _, hl, _ => by simp at hl
  | _ :: _, [], hl, _ => by simp at hl
section
variable {prog : Program} {w : World} {A : Around} {E : Value → Shared → Prop} {s : Shared} {h₀ : Heap} {L a : Addr} {m : Str → Option Value} {name : Str} {fscope : Scope} {cd : Value} {news : List (Addr × Obj)}
noncomputable def ElEnd (h₀ : Heap) (L : Addr) (m : Str → Option Value) (s : Shared) (news : List (Addr × Obj)) (G : Value → Prop) (y : Value) (s₂ : Shared) : Prop :=
  ∃ h' tk', s₂ = { s with heap := h', toks := tk' } ∧ Fr h₀ L h' m ∧ News h₀ L h' news ∧ G y
theorem ElEnd.mk {h' : Heap} {tk' : Nat} {G : Value → Prop} {y : Value} (F : Fr h₀ L h' m) (N : News h₀ L h' news) (g : G y) : ElEnd h₀ L m s news G y { s with heap := h', toks := tk' } := ⟨h', tk', rfl, F, N, g⟩
/-- a comprehension over the signs of a text that a local holds -/
theorem comp_text {elt : Expr} {xn y : Str} {px py : Pos} {scope : Scope} {pos : Pos} {Q : Value → Shared → Prop} {x : Str} {t : Tok} (g : Nat → Str)
    (F : Fr h₀ L s.heap m) (N : News h₀ L s.heap news) (hh : A.handled = none) (hy : m y = some (.str x t)) (asc : ∀ c ∈ x.cps.toList, c < 128) (hsz : x.cps.size ≤ 10000)
    (turn : ∀ c u I oI C oC D m₂ ys h tk (E' : Value → Shared → Prop), c ∈ x.cps.toList → NsObj oC m₂ → m₂ xn = some (.str ⟨#[c]⟩ u) → Fr h₀ L h m → News h₀ L h ((I, oI) :: (C, oC) :: (D, lst ys) :: news) → Off3 I C D news → ((@Ne Nat I C) ∧ (@Ne Nat I D) ∧ (@Ne Nat C D)) →
      wpAny (model prog w) A (eval elt (compEnvC scope [] C (envOf name fscope L a cd))) (ElEnd h₀ L m s ((I, oI) :: (C, oC) :: (D, lst ys) :: news) (fun y => ∃ t', y = .str (g c) t')) E' { s with heap := h, toks := tk })
    (fin : ∀ D ys h tk, Fr h₀ L h m → News h₀ L h ((D, lst ys) :: news) → Off1 D news → CarriedAll ys (x.cps.toList.map fun c => PyData.str (g c)) → Q (.ref D) { s with heap := h, toks := tk })
    (hclos : closureFor scope (envOf name fscope L a cd) = pure []) (hcell : ∀ y ∈ scope.names, y.2 ≠ .cell) (hkind : scope.kind = .function)
    (hnames : ∀ y ∈ scope.names, y.2 = .local → scope.names.lookup y.1 = some .local) (hx : scope.names.lookup xn = some .local)
    (hk : fscope.kind = .function) (hl : (envOf name fscope L a cd).kindOf y = some .local) (hd : (y == ("__debug__" : Str)) = false) (hs : ∀ x, foldedSetIterable (.Name y py) (envOf name fscope L a cd) x = pure x) :
    wpAny (model prog w) A (eval (.ListComp elt [⟨.Name xn px, .Name y py, [], 0⟩] scope pos) (envOf name fscope L a cd)) Q E s := by
  refine comp_W (h₀ := h₀) (L := L) (m := m) hclos hcell hkind hnames hx (ld F hy ?_ hk hl hd) hs
  have hasc : x.cps.all (· < 128) = true := by
    rw [← Array.all_toList, List.all_eq_true]
    intro c hc
    exact decide_eq_true (asc c hc)
  refine ⟨_, x.cps.size, SignAt x, fun i h => h.IsStrIter s.heap.objs.size "str_ascii_iterator" x t i, news, fun Q' q => wpAny_pyIter_ascii hasc q, Walks.strAscii hh _ x t, by rw [sizeLine_eq]; omega, fun i h st => let ⟨o, e, _⟩ := st; ⟨o, e⟩,
    ⟨_, Heap.get?_push_size _ rfl, rfl, rfl⟩, F, N, ?_⟩
  refine rest_of (fun i v => ∃ c t', x.cps.toList[i]? = some c ∧ v = .str (g c) t') ?_ ?_
  · intro i v I oI C oC D m₂ ys h tk E' hi hv hC hx2 F1 N1 off ne
    obtain ⟨c, u, hc, rfl⟩ := hv
    have hc' : x.cps.toList[i]? = some c := by rw [Array.getElem?_toList]; exact hc
    refine wpAny_mono (turn c u I oI C oC D m₂ ys h tk E' (List.mem_of_getElem? hc') hC hx2 F1 N1 off ne) (fun y s₂ hq => ?_) fun _ _ e => e
    obtain ⟨h', tk', e, F', N', t', ey⟩ := hq
    exact ⟨h', tk', e, F', N', c, t', hc', ey⟩
  · intro ys hl hg D h tk F' N' o1
    exact fin D ys h tk F' N' o1 (carried_of g ys _ (by rw [hl, Array.length_toList]) hg)
end
section
variable {prog : Program} {w : World} {A : Around} {E : Value → Shared → Prop} {s : Shared} {h₀ : Heap} {L a : Addr} {m : Str → Option Value} {name : Str} {fscope : Scope} {cd : Value} {news : List (Addr × Obj)}
/-- a comprehension over the octets that a local holds -/
theorem comp_bytes {elt : Expr} {xn y : Str} {px py : Pos} {scope : Scope} {pos : Pos} {Q : Value → Shared → Prop} {b : Array UInt8} {t : Tok} {ks : List Int} (g : Nat → Str)
    (F : Fr h₀ L s.heap m) (N : News h₀ L s.heap news) (hh : A.handled = none) (hy : m y = some (.bytes b t)) (hb : KBw.bInts b = ks) (hsz : ks.length ≤ 10000)
    (turn : ∀ (c : Int) u I oI C oC D m₂ ys h tk (E' : Value → Shared → Prop), c ∈ ks → NsObj oC m₂ → m₂ xn = some (.int c u) → Fr h₀ L h m → News h₀ L h ((I, oI) :: (C, oC) :: (D, lst ys) :: news) → Off3 I C D news → ((@Ne Nat I C) ∧ (@Ne Nat I D) ∧ (@Ne Nat C D)) →
      wpAny (model prog w) A (eval elt (compEnvC scope [] C (envOf name fscope L a cd))) (ElEnd h₀ L m s ((I, oI) :: (C, oC) :: (D, lst ys) :: news) (fun y => ∃ t', y = .str (g c.toNat) t')) E' { s with heap := h, toks := tk })
    (fin : ∀ D ys h tk, Fr h₀ L h m → News h₀ L h ((D, lst ys) :: news) → Off1 D news → CarriedAll ys ((ks.map Int.toNat).map fun c => PyData.str (g c)) → Q (.ref D) { s with heap := h, toks := tk })
    (hclos : closureFor scope (envOf name fscope L a cd) = pure []) (hcell : ∀ y ∈ scope.names, y.2 ≠ .cell) (hkind : scope.kind = .function)
    (hnames : ∀ y ∈ scope.names, y.2 = .local → scope.names.lookup y.1 = some .local) (hx : scope.names.lookup xn = some .local)
    (hk : fscope.kind = .function) (hl : (envOf name fscope L a cd).kindOf y = some .local) (hd : (y == ("__debug__" : Str)) = false) (hs : ∀ x, foldedSetIterable (.Name y py) (envOf name fscope L a cd) x = pure x) :
    wpAny (model prog w) A (eval (.ListComp elt [⟨.Name xn px, .Name y py, [], 0⟩] scope pos) (envOf name fscope L a cd)) Q E s := by
  refine comp_W (h₀ := h₀) (L := L) (m := m) hclos hcell hkind hnames hx (ld F hy ?_ hk hl hd) hs
  have hsize : b.size = ks.length := by rw [← hb]; exact (KBw.ints_length b).symm
  refine ⟨_, b.size, fun i v => ∃ c u, b[i]? = some c ∧ v = .int (c.toNat : Int) u, fun i h => KBw.IsBytesIter h s.heap.objs.size b t i, news, fun Q' q => KBw.pyIter_bytes q, KBw.walks hh _ b t, by rw [sizeLine_eq]; omega, fun i h st => let ⟨o, e, _⟩ := st; ⟨o, e⟩,
    ⟨_, Heap.get?_push_size _ rfl, rfl, rfl⟩, F, N, ?_⟩
  refine rest_of (fun i v => ∃ c t', (ks.map Int.toNat)[i]? = some c ∧ v = .str (g c) t') ?_ ?_
  · intro i v I oI C oC D m₂ ys h tk E' hi hv hC hx2 F1 N1 off ne
    obtain ⟨c, u, hc, rfl⟩ := hv
    have hc' : ks[i]? = some (c.toNat : Int) := hb ▸ KBw.ints_get hc
    refine wpAny_mono (turn (c.toNat : Int) u I oI C oC D m₂ ys h tk E' (List.mem_of_getElem? hc') hC hx2 F1 N1 off ne) (fun y s₂ hq => ?_) fun _ _ e => e
    obtain ⟨h', tk', e, F', N', t', ey⟩ := hq
    exact ⟨h', tk', e, F', N', c.toNat, t', by rw [List.getElem?_map, hc']; rfl, ey⟩
  · intro ys hl hg D h tk F' N' o1
    exact fin D ys h tk F' N' o1 (carried_of g ys _ (by rw [hl, List.length_map, hsize]) hg)
end
theorem join_nil_signs (l : List Nat) (g : Nat → Nat) : Txt.join (Str.ofString "") (l.map fun c => (⟨#[g c]⟩ : Str)) = ⟨(l.map g).toArray⟩ := by
  show Builtin.Str.glued (Str.ofString "") _ = _
  rw [StrLaws.glued_eq_join]
  induction l with
  | nil => rfl
  | cons a r ih =>
    cases r with
    | nil => rfl
    | cons b r =>
      show (⟨#[g a]⟩ : Str) ++ Str.ofString "" ++ Str.join (Str.ofString "") _ = _
      rw [ih]
      apply congrArg Str.mk
      simp [Str.cps_append]
      rfl
theorem lt1 {c d : Nat} : (([c] : List Nat) < [d]) ↔ c < d := by
  constructor
  · intro h
    cases h with
    | rel h => exact h
    | cons h => cases h
  · exact fun h => .rel h
noncomputable def Hold (P : Prop) : Prop := P
theorem Hold.out {P : Prop} (h : Hold P) : P := h
theorem Hold.mk {P : Prop} (h : P) : Hold P := h
end PartA
/-- a contract of the def at f, called upon vs with the ledger news: rk frames of room; it hands back r and a ledger by P, or raises a fault of the package (under R) -/
noncomputable abbrev Ctr (w : World) (mean : ExcName → Option Value) (mg mb : Str → Option Value) (rk : Nat) (f : Addr) (vs : List Value) (news : CbLed) (P : Value → CbLed → Prop) (R : Prop) : Prop :=
  ∀ (dp un : Nat) (gd : Option (List Code)) (cn : Str) (cs : Scope) (a : Addr) (ccd : Value) (cl : List (Str × Addr)) (outer : List Env) (A₀ : Around) (base h₀ : Heap) (L : Addr) (m : Str → Option Value) (s : Shared) (Q E : Value → Shared → Prop),
    Below A₀ base outer h₀ → Fr h₀ L s.heap m → (hd.heap_1_1 w.params).In h₀ → News h₀ L s.heap news →
    Top hd.view_1_2 (looseW hd.view_1_2 [Str.ofString "PostError", Str.ofString "CHARSETS"]) mean mg mb h₀ → cs.kind = .function →
    dp + rk < recursionLimit → un + 8 * rk < cLine →
    (∀ r nx h' tk', Fr h₀ L h' m → News h₀ L h' nx → P r nx → Q r { s with heap := h', toks := tk' }) →
    (∀ e t vs C lg h' tk' g, R → Fr h₀ L g m → RaisedK base (envX cn cs L a ccd cl :: outer) e (.ref C) t vs lg h' → g.UpToSlots h' → (C = 95 ∨ C = 119) → E (.ref e) { s with heap := h', toks := tk' }) →
    wpAny (model PySem.Challenge.rw_nz0327_01.row.prog w) (ktrTop dp un gd cn cs L a ccd cl outer) (call (.ref f) vs) Q E s


theorem tidy_P0 : True := by
  w_top off
  trivial
section PartP0
open LCg
variable {prog : Program} {w : World} {A : Around} {s : Shared} {env : Env} {h₀ : Heap}
/-- the loop of a for over any iterator of the ledger, whose turns may change the ledger -/
theorem loop_W {R : Result → Shared → Prop} {x : Str} {px : Pos} {body : List Stmt} (J : Nat → (Str → Option Value) → CbLed → Prop) {I : Addr} {fp : List Addr} {n : Nat} {P : Nat → Value → Prop} {St : Nat → Heap → Prop} (fix : CbLed) {H1 : Heap} {tk1 : Nat} {m : Str → Option Value} {news : CbLed}
    (W : Walks prog w A I fp [I] n P St) (hx : env.kindOf x = some .local) (hp : (env.scope.kind == .class || (env.scope.kind == .module && env.locals != env.globals)) = false)
    (hLI : env.locals ≠ I) (hI₀ : h₀.get? I = none) (hfix : ∀ p ∈ fix, p.1 ≠ I)
    (hSt : ∀ i h, St i h → ∃ oI, h.get? I = some oI ∧ ∀ h' l, News h₀ env.locals h' ((I, oI) :: (fix ++ l)) → St i h')
    (st0 : St 0 H1) (F0 : Fr h₀ env.locals H1 m) (N0 : News h₀ env.locals H1 (fix ++ news)) (off0 : ∀ p ∈ news, p.1 ≠ I) (j0 : J 0 m news)
    (step : ∀ (i : Nat) (v : Value) (m₁ : Str → Option Value) (news₁ : CbLed) (h : Heap) (tk : Nat) (oI : Obj), i < n → P i v → J i m₁ news₁ → (∀ p ∈ news₁, p.1 ≠ I) → Fr h₀ env.locals h (fun y => if y = x then some v else m₁ y) →
      News h₀ env.locals h ((I, oI) :: (fix ++ news₁)) →
      wpAny (model prog w) A (execs body env) (fun f s' => Hold (∃ (h' : Heap) (tk' : Nat) (m' : Str → Option Value) (news' : CbLed), f = .next ∧ s' = { s with heap := h', toks := tk' } ∧ Fr h₀ env.locals h' m' ∧
        News h₀ env.locals h' ((I, oI) :: (fix ++ news')) ∧ (∀ p ∈ news', p.1 ≠ I) ∧ J (i + 1) m' news')) (notedBy (model prog w) A env fun e s' => R (.error e) s') { s with heap := h, toks := tk })
    (fin : ∀ (h' : Heap) (tk' : Nat) (m' : Str → Option Value) (news' : CbLed), Fr h₀ env.locals h' m' → News h₀ env.locals h' (fix ++ news') → J n m' news' → R (.ok .next) { s with heap := h', toks := tk' }) :
    codeAny (model prog w) A (.forLoop (.Name x px) (.ref I) body [] env) R { s with heap := H1, toks := tk1 } := by
  have offF : ∀ l : CbLed, (∀ p ∈ l, p.1 ≠ I) → ∀ p ∈ fix ++ l, p.1 ≠ I := fun l hl p hp => (List.mem_append.mp hp).elim (hfix p) (hl p)
  refine codeAny_forLoop (fun k s' => ∃ (h' : Heap) (tk i : Nat) (m' : Str → Option Value) (news' : CbLed), s' = { s with heap := h', toks := tk } ∧ (i ≤ n ∧ k = n + 1 - i) ∧ St i h' ∧ Fr h₀ env.locals h' m' ∧
      News h₀ env.locals h' (fix ++ news') ∧ (∀ p ∈ news', p.1 ≠ I) ∧ J i m' news') ?_ (n + 1) ⟨H1, tk1, 0, m, news, rfl, ⟨Nat.zero_le _, rfl⟩, st0, F0, N0, off0, j0⟩
  intro k s' hz
  refine @ex5 _ _ _ _ _ _ _ hz fun h' tk i m' news' hz => @an7 _ _ _ _ _ _ _ _ hz fun e hik st' F' N' off' hJ => ?_
  subst e
  by_cases hlt : i < n
  · refine W.item i _ _ _ hlt st' fun v h₂ tk₂ hPv hst₂ hk₂ => ?_
    refine wpAny_assign_Name (wpAny_storeName_local hx (fr_but F' hk₂ hLI hI₀).ns (fun h₃ hn₃ hs₃ => ?_) hp)
    refine @ex1 _ _ _ (hSt (i + 1) h₂ hst₂) fun oI hz => ?_
    have N4 : News h₀ env.locals h₃ ((I, oI) :: (fix ++ news')) := fun p hp => by
      rcases List.mem_cons.mp hp with rfl | hp
      · exact ⟨(hs₃.2 I (Ne.symm hLI)).trans hz.1, Ne.symm hLI, hI₀⟩
      · exact (news_but N' hk₂ (offF _ off')).set hs₃ p hp
    refine wpAny_mono (step i v m' news' h₃ _ oI hlt hPv hJ off' ((fr_but F' hk₂ hLI hI₀).set hn₃ hs₃) N4) (fun f s₄ h₄ => ?_) fun _ _ e => e
    refine @ex4 _ _ _ _ _ _ (Hold.out h₄) fun h₅ tk₄ m₄ news₄ hz4 => @an6 _ _ _ _ _ _ _ hz4 fun e1 e2 F₄ N₄ off₄ J₄ => ?_
    subst e1
    subst e2
    exact ⟨n + 1 - (i + 1), hik.2.symm ▸ Nat.sub_lt_sub_left (Nat.lt_succ_of_lt hlt) (Nat.lt_succ_self i), h₅, tk₄, i + 1, m₄, news₄, rfl, ⟨hlt, rfl⟩, hz.2 _ _ N₄, F₄, fun p hp => N₄ p (.tail _ hp), off₄, J₄⟩
  · obtain rfl : i = n := Nat.le_antisymm hik.1 (Nat.not_lt.mp hlt)
    refine W.done _ _ _ st' fun h₂ tk₂ hk₂ => wpAny_execs_nil ?_
    exact fin h₂ tk₂ m' news' (fr_but F' hk₂ hLI hI₀) (news_but N' hk₂ (offF _ off')) hJ
/-- what the iterator of a list needs to go on -/
theorem list_go {vs : Array Value} {I T : Addr} {kk : Nat} {L : Addr} : ∀ i (h : Heap), (h.IsListIter I T i ∧ h.IsList T vs) → ∃ oI, h.get? I = some oI ∧ ∀ h' l, News h₀ L h' ((I, oI) :: ([(T, listOf vs kk)] ++ l)) → (h'.IsListIter I T i ∧ h'.IsList T vs) :=
  fun _ _ st => st.1.elim fun o hz => ⟨o, hz.1, fun _ _ N => ⟨⟨o, (N _ (.head _)).1, hz.2⟩, ⟨_, (N _ (.tail _ (.head _))).1, rfl, _, rfl⟩⟩⟩
theorem tup_go {vs : List Value} {I T : Addr} {L : Addr} : ∀ i (h : Heap), (h.IsTupleIter I T i ∧ h.IsTuple T vs.toArray) → ∃ oI, h.get? I = some oI ∧ ∀ h' l, News h₀ L h' ((I, oI) :: ([(T, tupObj vs)] ++ l)) → (h'.IsTupleIter I T i ∧ h'.IsTuple T vs.toArray) :=
  fun _ _ st => st.1.elim fun o hz => ⟨o, hz.1, fun _ _ N => ⟨⟨o, (N _ (.head _)).1, hz.2⟩, ⟨_, (N _ (.tail _ (.head _))).1, rfl, _, rfl⟩⟩⟩
theorem rng_go {n : Nat} {a : Int} {I : Addr} {L : Addr} : ∀ i (h : Heap), IsRangeIter h I (a + (i : Nat) * 1) ((n : Int) - (i : Nat)) 1 → ∃ oI, h.get? I = some oI ∧ ∀ h' l, News h₀ L h' ((I, oI) :: (([] : CbLed) ++ l)) → IsRangeIter h' I (a + (i : Nat) * 1) ((n : Int) - (i : Nat)) 1 :=
  fun _ _ st => ⟨_, st, fun _ _ N => (N _ (.head _)).1⟩
end PartP0


theorem tidy_PA2 : True := by
  w_top off
  trivial
theorem room0 {dp rk a R : Nat} (h : dp + rk < R) (e : Nat.ble a rk = true) : dp + a < R := Nat.lt_of_le_of_lt (Nat.add_le_add_left (Nat.le_of_ble_eq_true e) dp) h
theorem room1 {dp rk a b R : Nat} (h : dp + rk < R) (e : Nat.ble (a + b) rk = true) : dp + a + b < R := by rw [Nat.add_assoc]; exact room0 h e
local macro_rules | `(tactic| ktr_room) => `(tactic| first | exact room1 (by assumption) rfl | exact room0 (by assumption) rfl | decide)
local macro_rules | `(tactic| ktr_units) => `(tactic| first | exact room1 (by assumption) rfl | exact room0 (by assumption) rfl | decide)
local macro_rules | `(tactic| k_all) => `(tactic| assumption)
local macro_rules | `(tactic| k_room) => `(tactic| ktr_room)
local macro_rules | `(tactic| cell_enter) => `(tactic| (k_extra "cellE"; intro g' L' h' FG' F' N' B' X' T'; (try dsimp only); (try k_lift B'); (try k_fold)))
theorem say_PA2_0 : True := by
  k_with "cellE" => (refine' code_def ?k1 ?k2 ?k3 ?k4 ?k5 ?kA ?kF ?kK ?k6 ?k7 ?k8 ?k9 ?kB ?_ ?c2 ?c3 ?c4 ?c5; (case kA => exact rfl); (case kF => exact rfl); (case kK => assumption); (case k1 => k_asm); (case k2 => k_asm); (case k3 => k_asm); (case k4 => k_asm); (case k5 => k_asm); (case k6 => k_is); (case k7 => k_is); (case k8 => ktr_room); (case k9 => first | exact BindsTo.of_eq rfl | exact binds_K (by k_in) rfl (by k_is) rfl rfl rfl); (case c5 => decide); (case kB => exact locs rfl); (case c2 => exact rfl); (case c3 => exact rfl); (case c4 => exact rfl); k_whole)
  k_with "eval Name" => (k_here; k_dflt (refine' nameX_K ?F ?X ?T ?e ?_ ?a ?b; (case F => k_asm); (case X => k_asm); (case T => k_asm); (case a => exact Eq.refl ScopeKind.function); (case b => exact Eq.refl (some NameKind.globalImplicit)); (case e => k_is); k_whole))
  k_with "eval Name" => (k_here; k_dflt (refine' nameX_B ?F ?X ?T ?e ?v ?n ?_ ?a ?b; (case F => k_asm); (case X => k_asm); (case T => k_asm); (case a => exact Eq.refl ScopeKind.function); (case b => exact Eq.refl (some NameKind.globalImplicit)); (case e => k_is); (case v => boot_fast); (case n => decide); k_whole))
  k_with "eval Name" => (k_here; k_dflt (refine' nameX_L ?F ?v ?_ ?a ?b; (case F => k_asm); (case a => exact Eq.refl ScopeKind.function); (case b => exact Eq.refl (some NameKind.local)); (case v => exact Eq.refl (some _)); k_whole))
  trivial
theorem cst_str {M : Model} {A : Around} {env : Env} {E : Value → Shared → Prop} {x : Str} {k : Nat} {pos : Pos} {Q : Value → Shared → Prop} {h : Heap} {g : Array GenState} {d : Drawn} {t : Nat} {o : OsState} (q : Q (.str x t) ⟨h, g, d, t + 1, o⟩) : wpAny M A (eval (.Constant (.str x) k pos) env) Q E ⟨h, g, d, t, o⟩ := Calls.Constant_str q
theorem cst_int {M : Model} {A : Around} {env : Env} {E : Value → Shared → Prop} {i : Int} {k : Nat} {pos : Pos} {Q : Value → Shared → Prop} {h : Heap} {g : Array GenState} {d : Drawn} {t : Nat} {o : OsState} (q : Q (.int i t) ⟨h, g, d, t + 1, o⟩) : wpAny M A (eval (.Constant (.int i) k pos) env) Q E ⟨h, g, d, t, o⟩ := wpAny_Constant_int q
theorem st_L {M : Model} {A : Around} {E : Value → Shared → Prop} {h₀ : Heap} {L a : Addr} {m : Str → Option Value} {cn : Str} {cs : Scope} {ccd : Value} {cl : List (Str × Addr)} {x : Str} {v : Value} {Q : Unit → Shared → Prop} {news : List (Addr × Obj)} {h1 : Heap} {g : Array GenState} {d : Drawn} {t : Nat} {o : OsState}
    (F : Fr h₀ L h1 m) (N : News h₀ L h1 news) (h : ∀ h', Fr h₀ L h' (fun y => if y = x then some v else m y) → News h₀ L h' news → Q () ⟨h', g, d, t + 1, o⟩) (hk : cs.kind = .function) (hx : (envX cn cs L a ccd cl).kindOf x = some .local) :
    wpAny M A (storeName (envX cn cs L a ccd cl) x v) Q E ⟨h1, g, d, t, o⟩ := storeX_L F N h hk hx
theorem say_PA2_1 : True := by
  k_with "eval Constant str" => refine cst_str ?_
  k_with "eval Constant int" => refine cst_int ?_
  k_with "stX" => (k_here; k_dflt (refine' st_L ?F ?N ?_ ?a ?b; (case F => k_asm); (case N => k_asm); (case a => exact Eq.refl ScopeKind.function); (case b => exact Eq.refl (some NameKind.local)); k_whole))
  trivial
local macro_rules | `(tactic| walk_at "storeName") => `(tactic| (k_extra "stX"; intro h' F' N'; (try k_sweep)))
local macro_rules | `(tactic| k_ne) => `(tactic| k_extra "kNe")
theorem say_PA2_2 : True := by
  k_with "kNe" => (first | with_reducible assumption | exact Ne.symm (by with_reducible assumption) | exact Nat.ne_of_lt (by with_reducible assumption) | exact Nat.ne_of_gt (by with_reducible assumption) | exact Nat.ne_of_gt (And.left (by with_reducible assumption)) | exact Nat.ne_of_lt (And.left (by with_reducible assumption)) | exact Nat.ne_of_gt (And.left (And.right (by with_reducible assumption))) | exact Nat.ne_of_lt (And.left (And.right (by with_reducible assumption))) | exact Nat.ne_of_gt (And.left (And.right (And.right (by with_reducible assumption)))) | exact Nat.ne_of_lt (And.left (And.right (And.right (by with_reducible assumption)))) | exact Nat.ne_of_gt (And.left (And.right (And.right (And.right (by with_reducible assumption))))) | exact Nat.ne_of_lt (And.left (And.right (And.right (And.right (by with_reducible assumption))))) | exact Nat.ne_of_gt (And.left (And.right (And.right (And.right (And.right (by with_reducible assumption)))))) | exact Nat.ne_of_lt (And.left (And.right (And.right (And.right (And.right (by with_reducible assumption)))))) | exact Nat.ne_of_gt (And.left (And.right (And.right (And.right (And.right (And.right (by with_reducible assumption))))))) | exact Nat.ne_of_lt (And.left (And.right (And.right (And.right (And.right (And.right (by with_reducible assumption))))))) | exact Nat.ne_of_gt (And.left (And.right (And.right (And.right (And.right (And.right (And.right (by with_reducible assumption)))))))) | exact Nat.ne_of_lt (And.left (And.right (And.right (And.right (And.right (And.right (And.right (by with_reducible assumption)))))))) | exact Nat.ne_of_gt (And.left (And.right (And.right (And.right (And.right (And.right (And.right (And.right (by with_reducible assumption))))))))) | exact Nat.ne_of_lt (And.left (And.right (And.right (And.right (And.right (And.right (And.right (And.right (by with_reducible assumption))))))))) | exact Nat.ne_of_gt (And.right (by with_reducible assumption)) | exact Nat.ne_of_gt (And.right (And.right (by with_reducible assumption))) | exact Nat.ne_of_gt (And.right (And.right (And.right (by with_reducible assumption)))) | exact Nat.ne_of_gt (And.right (And.right (And.right (And.right (by with_reducible assumption))))) | exact Nat.ne_of_gt (And.right (And.right (And.right (And.right (And.right (by with_reducible assumption)))))) | exact Nat.ne_of_gt (And.right (And.right (And.right (And.right (And.right (And.right (by with_reducible assumption))))))) | exact Nat.ne_of_gt (And.right (And.right (And.right (And.right (And.right (And.right (And.right (by with_reducible assumption)))))))))
  trivial
section PartA2
open LCg
variable {prog : Program} {w : World} {A : Around} {s : Shared} {env : Env} {h₀ : Heap}
/-- a for over a list of the ledger that leaves in its first turn -/
theorem For_first {E : Value → Shared → Prop} {Q : Flow → Shared → Prop} {x : Str} {px pos : Pos} {iter : Expr} {body : List Stmt} {m₀ : Str → Option Value} (_F : Fr h₀ env.locals s.heap m₀)
    (hh : A.handled = none) (hx : env.kindOf x = some .local) (hp : (env.scope.kind == .class || (env.scope.kind == .module && env.locals != env.globals)) = false)
    (h : wpAny (model prog w) A (eval iter env) (fun xv s₁ => Hold (∃ (l : Addr) (v : Value) (vs : List Value) (k : Nat) (m : Str → Option Value) (news : List (Addr × Obj)) (h1 : Heap) (tk1 : Nat), xv = .ref l ∧ s₁ = { s with heap := h1, toks := tk1 } ∧ Fr h₀ env.locals h1 m ∧
      News h₀ env.locals h1 ((l, listOf (v :: vs).toArray k) :: news) ∧
      (∀ (h : Heap) (tk : Nat), Fr h₀ env.locals h (fun y => if y = x then some v else m y) → News h₀ env.locals h ((l, listOf (v :: vs).toArray k) :: news) →
        wpAny (model prog w) A (execs body env) (fun f s' => ∃ r, f = .ret r ∧ Q (.ret r) s') E { s with heap := h, toks := tk }))) E s)
    (hs : ∀ x, foldedSetIterable iter env x = pure x := by intro _; rfl)
    (hE : PassesOwn (model prog w) A env E := by passes_own) :
    wpAny (model prog w) A (exec (.For (.Name x px) iter body [] pos) env) Q E s := by
  refine wpAny_For (wpAny_mono h (fun xv s₁ h₁ => ?_) fun _ _ e => e) hs
  obtain ⟨l, v, vs, k, m, news, h1, tk1, rfl, rfl, F0, N0, step⟩ := Hold.out h₁
  have isL : ∀ h' r, News h₀ env.locals h' ((l, listOf (v :: vs).toArray k) :: r) → h'.IsList l (v :: vs).toArray := fun h' r N => ⟨_, (N _ (.head _)).1, rfl, _, rfl⟩
  refine wpAny_pyIter_list (isL _ _ N0) ?_
  have hlI : l ≠ h1.objs.size := Nat.ne_of_lt (Heap.lt_size (N0 _ (.head _)).1)
  have hLI : env.locals ≠ h1.objs.size := Nat.ne_of_lt F0.ns.lt
  have hI₀ : h₀.get? h1.objs.size = none := next_is_new F0
  have offI : ∀ p ∈ (l, listOf (v :: vs).toArray k) :: news, p.1 ≠ h1.objs.size := fun p hp => Nat.ne_of_lt (Heap.lt_size (N0 p hp).1)
  have up1 : ∀ b o, h1.get? b = some o → (h1.push { cls := .type "list_iterator", data := .fields #[.ref l, .int 0 0] }).get? b = some o := fun b o e => Heap.get?_push_of_some _ e
  have hit : (h1.push { cls := .type "list_iterator", data := .fields #[.ref l, .int 0 0] }).IsListIter h1.objs.size l 0 := ⟨_, Heap.get?_push_size _ rfl, rfl, rfl⟩
  have F1 := F0.keeps up1
  have N1 := N0.grown up1
  generalize (h1.push { cls := .type "list_iterator", data := .fields #[.ref l, .int 0 0] }) = H1 at *
  generalize h1.objs.size = I at *
  have W := Walks.list (prog := prog) (w := w) hh I l hlI (v :: vs).toArray
  refine codeAny_forLoop (fun k' s' => s' = { s with heap := H1, toks := tk1 }) ?_ 0 rfl
  rintro k' s' rfl
  refine W.item 0 _ _ _ (by simp) ⟨hit, isL _ _ N1⟩ fun v' h₂ tk₂ hPv hst₂ hk₂ => ?_
  have hv : v' = v := by
    have : (v :: vs).toArray[0]? = some v' := hPv
    simpa using this.symm
  subst hv
  have F2 : Fr h₀ env.locals h₂ m := fr_but F1 hk₂ hLI hI₀
  have N2 := news_but N1 hk₂ offI
  refine wpAny_assign_Name (wpAny_storeName_local hx F2.ns (fun h₃ hn₃ hs₃ => ?_) hp)
  have F3 := F2.set hn₃ hs₃
  have N3 := N2.set hs₃
  refine wpAny_mono (wpAny_passesOwn hE (step h₃ _ F3 N3)) (fun f s₄ h₄ => ?_) fun _ _ e => e
  obtain ⟨r, rfl, hQ⟩ := h₄
  exact hQ
end PartA2
theorem cb_take1 {h₀ h : Heap} {L : Addr} {a : Addr × Obj} {l rest : CbLed} (N : News h₀ L h (a :: l)) (hs : ∀ q ∈ rest, q ∈ l) : News h₀ L h (a :: rest) := fun q hq => by
  rcases List.mem_cons.mp hq with rfl | hq
  · exact N _ (.head _)
  · exact N _ (.tail _ (hs q hq))
theorem cb_take2 {h₀ h : Heap} {L : Addr} {a b : Addr × Obj} {l rest : CbLed} (N : News h₀ L h (a :: b :: l)) (hs : ∀ q ∈ rest, q ∈ l) : News h₀ L h (a :: b :: rest) := fun q hq => by
  rcases List.mem_cons.mp hq with rfl | hq
  · exact N _ (.head _)
  · exact cb_take1 (fun q hq => N q (.tail _ hq)) hs q hq
theorem cb_ints {h₀ h : Heap} {L T1 T2 : Addr} {a b : Int} {t1 t2 : Tok} {l : CbLed} (N : News h₀ L h ((T2, tupObj [.ref T1]) :: (T1, tupObj [.int a t1, .int b t2]) :: l)) (ha : a = 1) (hb : b = 2) : News h₀ L h ((T2, tupObj [.ref T1]) :: (T1, tupObj [.int 1 t1, .int 2 t2]) :: l) := by
  subst ha; subst hb; exact N
theorem ctr_use {w : World} {mean : ExcName → Option Value} {mg mb : Str → Option Value} {rk : Nat} {f : Addr} {vs : List Value} {news : CbLed} {P : Value → CbLed → Prop} {R : Prop} (c : Ctr w mean mg mb rk f vs news P R)
    {dp un : Nat} {gd : Option (List Code)} {cn : Str} {cs : Scope} {a : Addr} {ccd : Value} {cl : List (Str × Addr)} {outer : List Env} {A₀ : Around} {base h₀ : Heap} {L : Addr} {m : Str → Option Value} {s : Shared} {Q E : Value → Shared → Prop}
    (B : Below A₀ base outer h₀) (F : Fr h₀ L s.heap m) (X : (hd.heap_1_1 w.params).In h₀) (N : News h₀ L s.heap news)
    (T : Top hd.view_1_2 (looseW hd.view_1_2 [Str.ofString "PostError", Str.ofString "CHARSETS"]) mean mg mb h₀) (hk : cs.kind = .function)
    (hdp : dp + rk < recursionLimit) (hun : un + 8 * rk < cLine)
    (ret : ∀ r nx h' tk', Fr h₀ L h' m → News h₀ L h' nx → P r nx → Q r { s with heap := h', toks := tk' })
    (exc : ∀ e t vs C lg h' tk' g, R → Fr h₀ L g m → RaisedK base (envX cn cs L a ccd cl :: outer) e (.ref C) t vs lg h' → g.UpToSlots h' → (C = 95 ∨ C = 119) → E (.ref e) { s with heap := h', toks := tk' }) :
    wpAny (model PySem.Challenge.rw_nz0327_01.row.prog w) (ktrTop dp un gd cn cs L a ccd cl outer) (call (.ref f) vs) Q E s :=
  c dp un gd cn cs a ccd cl outer A₀ base h₀ L m s Q E B F X N T hk hdp hun ret exc
theorem ctr_useN {w : World} {mean : ExcName → Option Value} {mg mb : Str → Option Value} {rk : Nat} {f : Addr} {vs : List Value} {news : CbLed} {P : Value → CbLed → Prop} (c : Ctr w mean mg mb rk f vs news P False)
    {dp un : Nat} {gd : Option (List Code)} {cn : Str} {cs : Scope} {a : Addr} {ccd : Value} {cl : List (Str × Addr)} {outer : List Env} {A₀ : Around} {base h₀ : Heap} {L : Addr} {m : Str → Option Value} {s : Shared} {Q E : Value → Shared → Prop}
    (B : Below A₀ base outer h₀) (F : Fr h₀ L s.heap m) (X : (hd.heap_1_1 w.params).In h₀) (N : News h₀ L s.heap news)
    (T : Top hd.view_1_2 (looseW hd.view_1_2 [Str.ofString "PostError", Str.ofString "CHARSETS"]) mean mg mb h₀) (hk : cs.kind = .function)
    (hdp : dp + rk < recursionLimit) (hun : un + 8 * rk < cLine)
    (ret : ∀ r nx h' tk', Fr h₀ L h' m → News h₀ L h' nx → P r nx → Q r { s with heap := h', toks := tk' }) :
    wpAny (model PySem.Challenge.rw_nz0327_01.row.prog w) (ktrTop dp un gd cn cs L a ccd cl outer) (call (.ref f) vs) Q E s :=
  c dp un gd cn cs a ccd cl outer A₀ base h₀ L m s Q E B F X N T hk hdp hun ret fun _ _ _ _ _ _ _ _ h => h.elim
/-- a contract told by telescope -/
noncomputable abbrev CtrK (w : World) (mean : ExcName → Option Value) (mg mb : Str → Option Value) (rk : Nat) (f : Addr) (vs : List Value) (news : CbLed) (Φ : (Value → CbLed → Prop) → Prop) : Prop :=
  ∀ (dp un : Nat) (gd : Option (List Code)) (cn : Str) (cs : Scope) (a : Addr) (ccd : Value) (cl : List (Str × Addr)) (outer : List Env) (A₀ : Around) (base h₀ : Heap) (L : Addr) (m : Str → Option Value) (s : Shared) (Q E : Value → Shared → Prop),
    Below A₀ base outer h₀ → Fr h₀ L s.heap m → (hd.heap_1_1 w.params).In h₀ → News h₀ L s.heap news →
    Top hd.view_1_2 (looseW hd.view_1_2 [Str.ofString "PostError", Str.ofString "CHARSETS"]) mean mg mb h₀ → cs.kind = .function →
    dp + rk < recursionLimit → un + 8 * rk < cLine →
    Φ (fun r nx => ∀ h' tk', Fr h₀ L h' m → News h₀ L h' nx → Q r { s with heap := h', toks := tk' }) →
    wpAny (model PySem.Challenge.rw_nz0327_01.row.prog w) (ktrTop dp un gd cn cs L a ccd cl outer) (call (.ref f) vs) Q E s
theorem CtrK.of {w : World} {mean : ExcName → Option Value} {mg mb : Str → Option Value} {rk : Nat} {f : Addr} {vs : List Value} {news : CbLed} {P : Value → CbLed → Prop} {Φ : (Value → CbLed → Prop) → Prop} (c : Ctr w mean mg mb rk f vs news P False)
    (el : ∀ G : Value → CbLed → Prop, Φ G → ∀ r nx, P r nx → G r nx) : CtrK w mean mg mb rk f vs news Φ :=
  fun dp un gd cn cs a ccd cl outer A₀ base h₀ L m s Q E B F X N T hk hdp hun k =>
    c dp un gd cn cs a ccd cl outer A₀ base h₀ L m s Q E B F X N T hk hdp hun (fun r nx h' tk' F' N' p => el _ k r nx p h' tk' F' N') fun _ _ _ _ _ _ _ _ h => h.elim
theorem ctr_useK {w : World} {mean : ExcName → Option Value} {mg mb : Str → Option Value} {rk : Nat} {f : Addr} {vs : List Value} {news : CbLed} {Φ : (Value → CbLed → Prop) → Prop} (c : CtrK w mean mg mb rk f vs news Φ)
    {dp un : Nat} {gd : Option (List Code)} {cn : Str} {cs : Scope} {a : Addr} {ccd : Value} {cl : List (Str × Addr)} {outer : List Env} {A₀ : Around} {base h₀ : Heap} {L : Addr} {m : Str → Option Value} {h1 : Heap} {gs : Array GenState} {dr : Drawn} {t : Nat} {os : OsState} {Q E : Value → Shared → Prop}
    (B : Below A₀ base outer h₀) (F : Fr h₀ L h1 m) (X : (hd.heap_1_1 w.params).In h₀) (N : News h₀ L h1 news)
    (T : Top hd.view_1_2 (looseW hd.view_1_2 [Str.ofString "PostError", Str.ofString "CHARSETS"]) mean mg mb h₀) (hk : cs.kind = .function)
    (hdp : dp + rk < recursionLimit) (hun : un + 8 * rk < cLine)
    (k : Φ (fun r nx => ∀ h' tk', Fr h₀ L h' m → News h₀ L h' nx → Q r ⟨h', gs, dr, tk', os⟩)) :
    wpAny (model PySem.Challenge.rw_nz0327_01.row.prog w) (ktrTop dp un gd cn cs L a ccd cl outer) (call (.ref f) vs) Q E ⟨h1, gs, dr, t, os⟩ :=
  c dp un gd cn cs a ccd cl outer A₀ base h₀ L m ⟨h1, gs, dr, t, os⟩ Q E B F X N T hk hdp hun k
theorem allLt_to {d : Nat} {l : CbLed} (h : AllLt d l) : ∀ p ∈ l, p.1 < d := by
  induction l with
  | nil => exact fun q hq => nomatch hq
  | cons p r ih =>
    intro q hq
    rcases List.mem_cons.mp hq with rfl | hq
    · exact h.1
    · exact ih h.2 q hq
theorem cb_int2 {h₀ h : Heap} {L T1 : Addr} {a b c d : Int} {t1 t2 : Tok} {l : CbLed} (N : News h₀ L h ((T1, tupObj [.int a t1, .int b t2]) :: l)) (ha : a = c) (hb : b = d) : News h₀ L h ((T1, tupObj [.int c t1, .int d t2]) :: l) := by
  subst ha; subst hb; exact N
theorem rend0_c (w : World) (mean : ExcName → Option Value) (mg mb : Str → Option Value) (rest : CbLed) (t ta : Tok) :
   Ctr w mean mg mb 4 298 [.str (Str.ofString "1:2") t, .int 0 ta] rest (fun r nx => ∃ T t1 t2, (∀ q ∈ rest, @LT.lt Nat _ q.1 T) ∧ r = .ref T ∧ nx = (T, tupObj [.int 1 t1, .int 1 t2]) :: rest) False := by
  unfold Ctr
  k_fill
  intro dp un gd cn cs a ccd cl outer A₀ base h₀ L m s Q E B F X N T hk hdp hun hret hexc
  refine wpAny_call ?_
  k_dflt cell_enter
  have hl3 : (Str.ofString "1:2").length = 3 := by decide +kernel
  k_steps
  rename News _ _ _ _ => N5
  rename ∀ q ∈ rest, _ => hlt
  exact hret _ _ _ _ (by assumption) (cb_take1 (cb_int2 N5 (by decide +kernel) (by decide +kernel)) fun q hq => by repeat (first | assumption | apply List.Mem.tail)) ⟨_, _, _, fun q hq => hlt q hq, rfl, rfl⟩
theorem rend0_c_k (w : World) (mean : ExcName → Option Value) (mg mb : Str → Option Value) (rest : CbLed) (t ta : Tok) :
   CtrK w mean mg mb 4 298 [.str (Str.ofString "1:2") t, .int 0 ta] rest (fun G => ∀ T t1 t2, ((∀ q ∈ rest, @LT.lt Nat _ q.1 T)) → G (.ref T) ((T, tupObj [.int 1 t1, .int 1 t2]) :: rest)) :=
  CtrK.of (rend0_c w mean mg mb rest t ta) (by intro G k; rintro r nx ⟨T, t1, t2, hc0, rfl, rfl⟩; exact k _ _ _ hc0)
theorem rend2_c (w : World) (mean : ExcName → Option Value) (mg mb : Str → Option Value) (rest : CbLed) (t ta : Tok) (at2 : Int) (hat2 : at2 = 2) :
   Ctr w mean mg mb 4 298 [.str (Str.ofString "1:2") t, .int at2 ta] rest (fun r nx => ∃ T t1 t2, (∀ q ∈ rest, @LT.lt Nat _ q.1 T) ∧ r = .ref T ∧ nx = (T, tupObj [.int 2 t1, .int 3 t2]) :: rest) False := by
  subst hat2
  unfold Ctr
  k_fill
  intro dp un gd cn cs a ccd cl outer A₀ base h₀ L m s Q E B F X N T hk hdp hun hret hexc
  refine wpAny_call ?_
  k_dflt cell_enter
  have hl3 : (Str.ofString "1:2").length = 3 := by decide +kernel
  k_steps
  rename News _ _ _ _ => N5
  rename ∀ q ∈ rest, _ => hlt
  exact hret _ _ _ _ (by assumption) (cb_take1 (cb_int2 N5 (by decide +kernel) (by decide +kernel)) fun q hq => by repeat (first | assumption | apply List.Mem.tail)) ⟨_, _, _, fun q hq => hlt q hq, rfl, rfl⟩
theorem rend2_c_k (w : World) (mean : ExcName → Option Value) (mg mb : Str → Option Value) (rest : CbLed) (t ta : Tok) (at2 : Int) (hat2 : at2 = 2) :
   CtrK w mean mg mb 4 298 [.str (Str.ofString "1:2") t, .int at2 ta] rest (fun G => ∀ T t1 t2, ((∀ q ∈ rest, @LT.lt Nat _ q.1 T)) → G (.ref T) ((T, tupObj [.int 2 t1, .int 3 t2]) :: rest)) :=
  CtrK.of (rend2_c w mean mg mb rest t ta at2 hat2) (by intro G k; rintro r nx ⟨T, t1, t2, hc0, rfl, rfl⟩; exact k _ _ _ hc0)
theorem say_PA2_3 : True := by
  k_with "call ref" => (k_here; (with_reducible show wpAny _ _ (call (Value.ref 298) [Value.str _ _, Value.int 0 _]) _ _ _); k_dflt (refine' ctr_useK (rend0_c_k _ _ _ _ _ _ _) ?k1 ?k2 ?k3 ?k4 ?k5 ?kK ?kd ?ku ?_; (case k2 => k_asm); (case k4 => k_asm); (case k1 => k_asm); (case k3 => k_asm); (case k5 => k_asm); (case kK => first | exact rfl | assumption); (case kd => ktr_room); (case ku => ktr_units)); (intro T_wz t1_wz t2_wz l1wz h_wz tk_wz F_wz N_wz; (try dsimp only); (try k_lt l1wz); (try k_fold)))
  k_with "call ref" => (k_here; (with_reducible show wpAny _ _ (call (Value.ref 298) [Value.str _ _, Value.int (_ + _) _]) _ _ _); k_dflt (refine' ctr_useK (rend2_c_k _ _ _ _ _ _ _ _ ?p1) ?k1 ?k2 ?k3 ?k4 ?k5 ?kK ?kd ?ku ?_; (case p1 => decide); (case k2 => k_asm); (case k4 => k_asm); (case k1 => k_asm); (case k3 => k_asm); (case k5 => k_asm); (case kK => first | exact rfl | assumption); (case kd => ktr_room); (case ku => ktr_units)); (intro T_wz t1_wz t2_wz l1wz h_wz tk_wz F_wz N_wz; (try dsimp only); (try k_lt l1wz); (try k_fold)))
  trivial
theorem rset_c (w : World) (mean : ExcName → Option Value) (mg mb : Str → Option Value) (rest : CbLed) (t : Tok) :
   Ctr w mean mg mb 8 305 [.str (Str.ofString "1:2") t] rest (fun r nx => ∃ T1 T2 t1 t2, r = .ref T2 ∧ nx = (T2, tupObj [.ref T1]) :: (T1, tupObj [.int 1 t1, .int 2 t2]) :: rest) False := by
  unfold Ctr
  k_fill
  intro dp un gd cn cs a ccd cl outer A₀ base h₀ L m s Q E B F X N T hk hdp hun hret hexc
  refine wpAny_call ?_
  k_dflt cell_enter
  have hl3 : (Str.ofString "1:2").length = 3 := by decide +kernel
  k_steps
  rename News _ _ _ _ => N5
  exact hret _ _ _ _ (by assumption) (cb_take2 (cb_ints N5 (by decide +kernel) (by decide +kernel)) fun q hq => by repeat (first | assumption | apply List.Mem.tail)) ⟨_, _, _, _, rfl, rfl⟩
theorem rset_c_k (w : World) (mean : ExcName → Option Value) (mg mb : Str → Option Value) (rest : CbLed) (t : Tok) :
   CtrK w mean mg mb 8 305 [.str (Str.ofString "1:2") t] rest (fun G => ∀ T1 T2 t1 t2, G (.ref T2) ((T2, tupObj [.ref T1]) :: (T1, tupObj [.int 1 t1, .int 2 t2]) :: rest)) :=
  CtrK.of (rset_c w mean mg mb rest t) (by intro G k; rintro r nx ⟨T1, T2, t1, t2, rfl, rfl⟩; exact k _ _ _ _)
theorem kspl0 {α β : Type} {l : List (α × β)} {G : Prop} (e : l.map (·.1) = []) (k : l = [] → G) : G := k (KSpl.nil_of e)
theorem ksplS {α β : Type} {l : List (α × β)} {a : α} {r : List α} {G : Prop} (e : l.map (·.1) = a :: r) (k : ∀ t l', l = (a, t) :: l' → l'.map (·.1) = r → G) : G := (KSpl.cons_of e).elim fun t h => h.elim fun l' h => k t l' h.1 h.2
theorem kspl1 {α β : Type} {l : List (α × β)} {a1 : α} {G : Prop} (e : l.map (·.1) = [a1]) (k : ∀ t1 : β, l = [(a1, t1)] → G) : G :=
  ksplS e fun t _ q e => kspl0 e fun  q2 => k t  (q.trans (congrArg (List.cons _) q2))
theorem kspl2 {α β : Type} {l : List (α × β)} {a1 a2 : α} {G : Prop} (e : l.map (·.1) = [a1, a2]) (k : ∀ t1 t2 : β, l = [(a1, t1), (a2, t2)] → G) : G :=
  ksplS e fun t _ q e => kspl1 e fun t1 q2 => k t t1 (q.trans (congrArg (List.cons _) q2))
theorem kspl3 {α β : Type} {l : List (α × β)} {a1 a2 a3 : α} {G : Prop} (e : l.map (·.1) = [a1, a2, a3]) (k : ∀ t1 t2 t3 : β, l = [(a1, t1), (a2, t2), (a3, t3)] → G) : G :=
  ksplS e fun t _ q e => kspl2 e fun t1 t2 q2 => k t t1 t2 (q.trans (congrArg (List.cons _) q2))
theorem kspl4 {α β : Type} {l : List (α × β)} {a1 a2 a3 a4 : α} {G : Prop} (e : l.map (·.1) = [a1, a2, a3, a4]) (k : ∀ t1 t2 t3 t4 : β, l = [(a1, t1), (a2, t2), (a3, t3), (a4, t4)] → G) : G :=
  ksplS e fun t _ q e => kspl3 e fun t1 t2 t3 q2 => k t t1 t2 t3 (q.trans (congrArg (List.cons _) q2))
theorem kspl5 {α β : Type} {l : List (α × β)} {a1 a2 a3 a4 a5 : α} {G : Prop} (e : l.map (·.1) = [a1, a2, a3, a4, a5]) (k : ∀ t1 t2 t3 t4 t5 : β, l = [(a1, t1), (a2, t2), (a3, t3), (a4, t4), (a5, t5)] → G) : G :=
  ksplS e fun t _ q e => kspl4 e fun t1 t2 t3 t4 q2 => k t t1 t2 t3 t4 (q.trans (congrArg (List.cons _) q2))
theorem kspl6 {α β : Type} {l : List (α × β)} {a1 a2 a3 a4 a5 a6 : α} {G : Prop} (e : l.map (·.1) = [a1, a2, a3, a4, a5, a6]) (k : ∀ t1 t2 t3 t4 t5 t6 : β, l = [(a1, t1), (a2, t2), (a3, t3), (a4, t4), (a5, t5), (a6, t6)] → G) : G :=
  ksplS e fun t _ q e => kspl5 e fun t1 t2 t3 t4 t5 q2 => k t t1 t2 t3 t4 t5 (q.trans (congrArg (List.cons _) q2))
theorem kspl7 {α β : Type} {l : List (α × β)} {a1 a2 a3 a4 a5 a6 a7 : α} {G : Prop} (e : l.map (·.1) = [a1, a2, a3, a4, a5, a6, a7]) (k : ∀ t1 t2 t3 t4 t5 t6 t7 : β, l = [(a1, t1), (a2, t2), (a3, t3), (a4, t4), (a5, t5), (a6, t6), (a7, t7)] → G) : G :=
  ksplS e fun t _ q e => kspl6 e fun t1 t2 t3 t4 t5 t6 q2 => k t t1 t2 t3 t4 t5 t6 (q.trans (congrArg (List.cons _) q2))
theorem kspl8 {α β : Type} {l : List (α × β)} {a1 a2 a3 a4 a5 a6 a7 a8 : α} {G : Prop} (e : l.map (·.1) = [a1, a2, a3, a4, a5, a6, a7, a8]) (k : ∀ t1 t2 t3 t4 t5 t6 t7 t8 : β, l = [(a1, t1), (a2, t2), (a3, t3), (a4, t4), (a5, t5), (a6, t6), (a7, t7), (a8, t8)] → G) : G :=
  ksplS e fun t _ q e => kspl7 e fun t1 t2 t3 t4 t5 t6 t7 q2 => k t t1 t2 t3 t4 t5 t6 t7 (q.trans (congrArg (List.cons _) q2))
theorem kspl9 {α β : Type} {l : List (α × β)} {a1 a2 a3 a4 a5 a6 a7 a8 a9 : α} {G : Prop} (e : l.map (·.1) = [a1, a2, a3, a4, a5, a6, a7, a8, a9]) (k : ∀ t1 t2 t3 t4 t5 t6 t7 t8 t9 : β, l = [(a1, t1), (a2, t2), (a3, t3), (a4, t4), (a5, t5), (a6, t6), (a7, t7), (a8, t8), (a9, t9)] → G) : G :=
  ksplS e fun t _ q e => kspl8 e fun t1 t2 t3 t4 t5 t6 t7 t8 q2 => k t t1 t2 t3 t4 t5 t6 t7 t8 (q.trans (congrArg (List.cons _) q2))
theorem kspl10 {α β : Type} {l : List (α × β)} {a1 a2 a3 a4 a5 a6 a7 a8 a9 a10 : α} {G : Prop} (e : l.map (·.1) = [a1, a2, a3, a4, a5, a6, a7, a8, a9, a10]) (k : ∀ t1 t2 t3 t4 t5 t6 t7 t8 t9 t10 : β, l = [(a1, t1), (a2, t2), (a3, t3), (a4, t4), (a5, t5), (a6, t6), (a7, t7), (a8, t8), (a9, t9), (a10, t10)] → G) : G :=
  ksplS e fun t _ q e => kspl9 e fun t1 t2 t3 t4 t5 t6 t7 t8 t9 q2 => k t t1 t2 t3 t4 t5 t6 t7 t8 t9 (q.trans (congrArg (List.cons _) q2))
local macro_rules | `(tactic| kspl_open $e) => `(tactic| first | (refine kspl9 $e fun kt1 kt2 kt3 kt4 kt5 kt6 kt7 kt8 kt9 ksplQ => ?_; subst ksplQ) | (refine kspl10 $e fun kt1 kt2 kt3 kt4 kt5 kt6 kt7 kt8 kt9 kt10 ksplQ => ?_; subst ksplQ) | (refine kspl8 $e fun kt1 kt2 kt3 kt4 kt5 kt6 kt7 kt8 ksplQ => ?_; subst ksplQ) | (refine kspl5 $e fun kt1 kt2 kt3 kt4 kt5 ksplQ => ?_; subst ksplQ))
section PartA2b
  local macro_rules | `(tactic| walk_at "exec For Name Call cons nil") => `(tactic| (k_here; refine Hold.out ?_))
theorem leafS_c (w : World) (mean : ExcName → Option Value) (mg mb : Str → Option Value) (rest : CbLed) (t : Tok) :
   Ctr w mean mg mb 8 382 [.str (Str.ofString "SEEN") t] rest (fun r nx => ∃ T t1 t2, r = .ref T ∧ nx = (T, tupObj [.str (Str.ofString "flag") t1, .str ⟨#[92, 83, 101, 101, 110]⟩ t2]) :: rest) False := by
  unfold Ctr
  k_fill
  intro dp un gd cn cs a ccd cl outer A₀ base h₀ L m s Q E B F X N T hk hdp hun hret hexc
  refine wpAny_call ?_
  k_dflt cell_enter
  k_steps
  refine Hold.mk ?_
  rename Fr _ _ _ _ => F1
  refine For_first F1 rfl rfl rfl ?_ (by intro _; rfl)
  k_steps
  refine Hold.mk ?_
  rename Fr _ _ _ _ => F2
  rename News _ _ _ _ => N2
  refine ⟨_, _, _, _, _, _, _, _, rfl, rfl, F2, N2, ?_⟩
  intro h3 tk3 F3 N3
  k_steps
  rename News h₀ _ _ _ => N5
  exact hret _ _ _ _ (by assumption) (cb_take1 N5 fun q hq => by repeat (first | assumption | apply List.Mem.tail)) ⟨_, _, _, rfl, rfl⟩
theorem leafS_c_k (w : World) (mean : ExcName → Option Value) (mg mb : Str → Option Value) (rest : CbLed) (t : Tok) :
   CtrK w mean mg mb 8 382 [.str (Str.ofString "SEEN") t] rest (fun G => ∀ T t1 t2, G (.ref T) ((T, tupObj [.str (Str.ofString "flag") t1, .str ⟨#[92, 83, 101, 101, 110]⟩ t2]) :: rest)) :=
  CtrK.of (leafS_c w mean mg mb rest t) (by intro G k; rintro r nx ⟨T, t1, t2, rfl, rfl⟩; exact k _ _ _)
theorem leafA_c (w : World) (mean : ExcName → Option Value) (mg mb : Str → Option Value) (rest : CbLed) (t : Tok) :
   Ctr w mean mg mb 8 382 [.str (Str.ofString "ALL") t] rest (fun r nx => ∃ T t1, r = .ref T ∧ nx = (T, tupObj [.str (Str.ofString "all") t1]) :: rest) False := by
  unfold Ctr
  k_fill
  intro dp un gd cn cs a ccd cl outer A₀ base h₀ L m s Q E B F X N T hk hdp hun hret hexc
  refine wpAny_call ?_
  k_dflt cell_enter
  k_steps
  rename News h₀ _ _ _ => N5
  exact hret _ _ _ _ (by assumption) (cb_take1 N5 fun q hq => by repeat (first | assumption | apply List.Mem.tail)) ⟨_, _, rfl, rfl⟩
theorem leafA_c_k (w : World) (mean : ExcName → Option Value) (mg mb : Str → Option Value) (rest : CbLed) (t : Tok) :
   CtrK w mean mg mb 8 382 [.str (Str.ofString "ALL") t] rest (fun G => ∀ T t1, G (.ref T) ((T, tupObj [.str (Str.ofString "all") t1]) :: rest)) :=
  CtrK.of (leafA_c w mean mg mb rest t) (by intro G k; rintro r nx ⟨T, t1, rfl, rfl⟩; exact k _ _)
end PartA2b


theorem tidy_PB : True := by
  w_top off
  trivial
theorem say_PB_0 : True := by
  k_with "eval ListComp" => (k_here; refine Hold.out ?_)
  k_with "exec" => (k_here; (with_reducible show wpAny _ _ (exec (Stmt.While _ _ _ _) _) _ _ _); refine Hold.out ?_)
  k_with "exec While" => (k_here; refine Hold.out ?_)
  k_with "exec While BoolOp" => (k_here; refine Hold.out ?_)
  k_with "exec While UnaryOp" => (k_here; refine Hold.out ?_)
  k_with "exec Raise some none" => (k_here; refine Hold.out ?_)
  trivial
theorem tail_ok : TailOk [.ref 46, .type "Exception", .type "BaseException", .type "object"] := ⟨rfl, rfl, rfl, rfl⟩
structure ExC (w : World) (C : Addr) : Prop where
  lk : ∃ nm q N bs sn sub ab col dd k0 k1 k2 k3 k5, (hd.heap_1_1 w.params).lookup C = some (excClassObj nm q C N bs [.ref 46, .type "Exception", .type "BaseException", .type "object"] true sn sub ab col dd k0 k1 k2 k3 k5 "Exception.__new__")
  sa : findIn (hd.heap_1_1 w.params) (.ref C) "__setattr__" = some (some (.builtin "object.__setattr__"))
  ini : findIn (hd.heap_1_1 w.params) (.ref C) "__init__" = some (some (.ref 36))
  t1 : takerIn (hd.heap_1_1 w.params) C "what" = some none
  t2 : takerIn (hd.heap_1_1 w.params) C "at" = some none
theorem say_PB_1 : True := by
  k_with "getMethod" => (k_here; (with_reducible show wpAny _ _ (getMethod (Value.type "Exception") _ _) _ _ _); refine' method_type ?F ?X ?m (by decide +kernel) ?e ?h ?_; (case F => k_asm); (case X => k_asm); (case m => exact meta_Exc); (case e => k_dflt k_is); (case h => k_handed))
  trivial
theorem init_c (w : World) (mean : ExcName → Option Value) (mg mb : Str → Option Value) (rest : CbLed) (C e t0 : Nat) (p : Int) (x : Str) (tx tp : Tok) (hC : ExC w C) (hr : ∀ q ∈ rest, q.1 ≠ e) :
   Ctr w mean mg mb 2 36 [.ref e, .str x tx, .int p tp] ((e, eObj C t0) :: rest) (fun r nx => r = .none ∧ ∃ T d x', nx = (T, tupObj [x']) :: (e, eObjD C T d) :: rest) False := by
  unfold Ctr
  k_fill
  intro dp un gd cn cs a ccd cl outer A₀ base h₀ L m s Q E B F X N T hk hdp hun hret hexc
  refine wpAny_call ?_
  k_dflt cell_enter
  k_steps
  (try dsimp only)
  rename Fr _ _ _ _ => F0
  rename News _ _ _ _ => N0
  refine @ex8 _ _ _ _ _ _ _ _ _ _ hC.lk fun nm q NC bs sn sub ab col hz => @ex6 _ _ _ _ _ _ _ _ hz fun dd k0 k1 k2 k3 k5 hlk => ?_
  clear hz
  have hcl' : ∃ cd, clsIn (hd.heap_1_1 w.params) C = some cd ∧ cd.mro = [.ref C, .ref 46, .type "Exception", .type "BaseException", .type "object"] ∧ cd.hasDict = true := by
    unfold clsIn
    rw [hlk]
    exact ⟨_, rfl, rfl, rfl⟩
  obtain ⟨cd, hcl, hmro, hhd⟩ := hcl'
  refine exc_init_K tail_ok F0 (by k_asm) N0 hr hlk ?_
  intro h1 T1 F1 N1 l1
  have hTe := l1 _ (List.Mem.head _)
  (try dsimp only)
  k_steps
  (try dsimp only)
  rename Fr _ _ _ _ => F1'
  refine exc_first (pre := [_]) F1' (by k_asm) N1 ?_ hr hC.sa hcl hmro hhd hC.t1 ?_
  · intro q hq
    rw [List.mem_singleton.mp hq]
    exact Nat.ne_of_gt hTe
  intro h2 d tk2 tk3 F2 N2 l2
  (try dsimp only)
  simp only [List.cons_append, List.nil_append] at N2 l2
  k_steps
  (try dsimp only)
  rename Fr _ _ _ _ => F3
  refine exc_more (pre := []) (s := ⟨h2, _, _, _, _⟩) F3 (by k_asm) N2 (.tail _ (.tail _ (.head _))) (fun _ h => nomatch h) ?_ hC.sa hcl hmro hhd hC.t2 rfl rfl (Nat.le_of_ble_eq_true rfl) ?_
  · intro q hq
    rcases List.mem_cons.mp hq with rfl | hq
    · exact Nat.ne_of_lt (l2 _ (.head _))
    rcases List.mem_cons.mp hq with rfl | hq
    · have := l2 (e, eObj C _) (.tail _ (.head _))
      exact Nat.ne_of_lt this
    · exact Nat.ne_of_lt (l2 _ (.tail _ (.tail _ hq)))
  intro h3 tk4 F4 N4
  (try dsimp only)
  k_steps
  rename News _ _ _ _ => N5
  exact hret _ _ _ _ (by assumption) (cb_drop N5 fun q hq => .tail _ hq) ⟨rfl, _, _, _, rfl⟩

theorem mk_fault (w : World) (mean : ExcName → Option Value) (mg mb : Str → Option Value) (rest : CbLed) (C : Nat) (p : Int) (x : Str) (tx tp : Tok) (hC : ExC w C) :
   Ctr w mean mg mb 5 C [.str x tx, .int p tp] rest (fun r nx => ∃ e T d x', r = .ref e ∧ nx = (T, tupObj [x']) :: (e, eObjD C T d) :: rest ∧ ∀ q ∈ rest, q.1 ≠ e) False := by
  unfold Ctr
  intro dp un gd cn cs a ccd cl outer A₀ base h₀ L m s Q E B F X N T hk hdp hun hret hexc
  refine @ex8 _ _ _ _ _ _ _ _ _ _ hC.lk fun nm q NC bs sn sub ab col hz => @ex6 _ _ _ _ _ _ _ _ hz fun dd k0 k1 k2 k3 k5 hlk => ?_
  clear hz
  have h36 : ∃ o, (hd.heap_1_1 w.params).lookup 36 = some o ∧ o.cls = .type "function" := ⟨_, rfl, rfl⟩
  obtain ⟨o36, l36, c36⟩ := h36
  obtain ⟨hp, g, d, tk, os⟩ := s
  have XK := X.keeps F.keep
  refine exc_call PySem.F.excBase_Exception tail_ok (XK _ _ hlk) (looks_findIn XK hC.ini) (XK _ _ l36) c36 ?_ (by size_fits)
  intro h' e hm
  obtain ⟨t, he, htn, ht⟩ := hm.there
  have hn : hp.get? e = none := hm.new
  have F' := F.keeps hm.keeps
  have ne : ∀ q ∈ rest, q.1 ≠ e := fun q hq z => by
    have := (N q hq).1
    rw [z, hn] at this
    cases this
  have N' : News h₀ L h' ((e, eObj C t) :: rest) := fun q hq => by
    rcases List.mem_cons.mp hq with rfl | hq
    · refine ⟨he, fun z => ?_, ?_⟩
      · obtain ⟨oL, _, _, hL, _⟩ := F.ns
        have z' : e = L := z
        rw [z', hL] at hn
        cases hn
      · cases hq' : h₀.get? e with
        | none => rfl
        | some o => have := F.keep _ _ hq'; rw [hn] at this; cases this
    · exact ⟨hm.keeps _ _ (N q hq).1, (N q hq).2⟩
  have I := init_c w mean mg mb rest C e t p x tx tp hC ne
  unfold Ctr at I
  refine I (dp + 1) (un + 1) gd cn cs a ccd cl outer A₀ base h₀ L m ⟨h', g, d, tk, os⟩ _ _ B F' X N' T hk (by omega) (by omega) ?_ ?_
  · intro r nx h2 tk2 F2 N2 hP
    obtain ⟨rfl, T1, d1, x1, rfl⟩ := hP
    exact ⟨rfl, hret _ _ h2 tk2 F2 N2 ⟨e, T1, d1, x1, rfl, rfl, ne⟩⟩
  · intro _ _ _ _ _ _ _ _ h
    exact h.elim
theorem mk_fault_k (w : World) (mean : ExcName → Option Value) (mg mb : Str → Option Value) (rest : CbLed) (C : Nat) (p : Int) (x : Str) (tx tp : Tok) (hC : ExC w C) :
   CtrK w mean mg mb 5 C [.str x tx, .int p tp] rest (fun G => ∀ e T d x', (∀ q ∈ rest, q.1 ≠ e) → G (.ref e) ((T, tupObj [x']) :: (e, eObjD C T d) :: rest)) :=
  CtrK.of (mk_fault w mean mg mb rest C p x tx tp hC) (by intro G k; rintro r nx ⟨e, T, d, x', rfl, rfl, hc0⟩; exact k _ _ _ _ hc0)
theorem exC95 (w : World) : ExC w 95 := by
  refine ⟨⟨_, _, _, _, _, _, _, _, _, _, _, _, _, _, rfl⟩, by rfl, by rfl, by rfl, by rfl⟩
theorem exC119 (w : World) : ExC w 119 := by
  refine ⟨⟨_, _, _, _, _, _, _, _, _, _, _, _, _, _, rfl⟩, by rfl, by rfl, by rfl, by rfl⟩
section
variable {nm q : Str} {C N : Addr} {bs bm : List Value} {hdct : Bool} {sn : List Str} {sub : List Value} {ab : Bool} {col : Option Bool} {dd : Option Addr} {k0 k1 k2 k3 k5 : Option Value} {newId : String}
theorem raiseStmt_exc {M : Model} {A : Around} {E : Value → Shared → Prop} {env : Env} {s : Shared} {x : Sem Value} {Q : Flow → Shared → Prop} (hbase : bm.contains (.type "BaseException") = true) (hh : A.handled = none)
    (h : wpAny M A x (fun v s₁ => ∃ e t d, v = .ref e ∧ s₁.heap.get? C = some (excClassObj nm q C N bs bm hdct sn sub ab col dd k0 k1 k2 k3 k5 newId) ∧ s₁.heap.get? e = some (eObjD C t d) ∧ E (.ref e) s₁) E s) :
    wpAny M A (raiseStmt env (some x) none) Q E s := by
  have hcB : (Value.ref C :: bm).contains (.type "BaseException") = true := by rw [List.contains_cons, hbase, Bool.or_true]
  unfold raiseStmt
  refine wpAny_bind (wpAny_mono h (fun v s₁ h₁ => ?_) fun _ _ x => x)
  refine @ex3 _ _ _ _ _ h₁ fun e t d' hz => @an4 _ _ _ _ _ hz fun ehzq1 hC he hE => ?_
  clear hz h₁
  subst ehzq1
  obtain ⟨hp, g, d, tk, os⟩ := s₁
  repeat (first | with_reducible refine wpAny_loadPart_at he ?_ | with_reducible refine wpAny_loadPart_at hC ?_ | (with_reducible refine wpAny_isSubtype_exc hC ?_; rw [hcB]) | wp_step)
  exact wpAny_raiseNew_none hh hE
end
noncomputable def RaiseTo (w : World) (C : Addr) (E : Value → Shared → Prop) (v : Value) (s₁ : Shared) : Prop := ∃ e t d, v = .ref e ∧ (hd.heap_1_1 w.params).In s₁.heap ∧ s₁.heap.get? e = some (eObjD C t d) ∧ E (.ref e) s₁
theorem exec_raise {w : World} {M : Model} {A : Around} {E : Value → Shared → Prop} {env : Env} {s : Shared} {x : PySem.Expr} {pos : Pos} {C : Addr} {Q : Flow → Shared → Prop} (hC : ExC w C) (hh : A.handled = none)
    (h : wpAny M A (eval x env) (RaiseTo w C E) E s) :
    wpAny M A (exec (.Raise (some x) none pos) env) Q E s := by
  refine @ex8 _ _ _ _ _ _ _ _ _ _ hC.lk fun nm q NC bs sn sub ab col hz => @ex6 _ _ _ _ _ _ _ _ hz fun dd k0 k1 k2 k3 k5 hlk => ?_
  clear hz
  show wpAny M A (do standAt pos; raiseStmt env (some (do let v ← eval x env; standAt pos; pure v)) none) Q E s
  refine wpAny_bind (wpAny_standAt (raiseStmt_exc (C := C) (nm := nm) (q := q) (N := NC) (bs := bs) (hdct := true) (sn := sn) (sub := sub) (ab := ab) (col := col) (dd := dd) (k0 := k0) (k1 := k1) (k2 := k2) (k3 := k3) (k5 := k5) (newId := "Exception.__new__") tail_ok.b hh (wpAny_bind (wpAny_mono h (fun v s₁ h₁ => wpAny_bind (wpAny_standAt (wpAny_pure ?_))) fun _ _ x => x))))
  refine @ex3 _ _ _ _ _ h₁ fun e t d' hz => @an4 _ _ _ _ _ hz fun ehzq1 X he hE => ?_
  clear hz h₁
  subst ehzq1
  exact ⟨e, t, d', rfl, X _ _ hlk, he, hE⟩

theorem leave_fault {M : Model} {A : Around} {E : Value → Shared → Prop} {s' : Shared} {base g : Heap} {outer : List Env} {L a e t d C : Addr} {m : Str → Option Value} {name : Str} {scope : Scope} {cd x : Value} {Q : Unit → Shared → Prop} {news : List (Addr × Obj)}
    (K : Below A base outer g) (F : Fr g L s'.heap m) (N : News g L s'.heap news) (h1 : (e, eObjD C t d) ∈ news) (h2 : (t, tupObj [x]) ∈ news)
    (hQ : ∀ h', RaisedK base outer e (.ref C) t [x] [] h' → g.UpToSlots h' → Q () { s' with heap := h' }) (hk : scope.kind = .function := by rfl) :
    wpAny M (A.deeper (envOf name scope L a cd)) (leaving (envOf name scope L a cd) (.ref e)) Q E s' := by
  have K' := K.push (name := name) (a := a) (cd := cd) F hk
  have he := N.get h1
  have ht := N.get h2
  have fe : base.get? e = none := fresh_of_stays K.stays (N.fresh h1)
  have ft : base.get? t = none := fresh_of_stays K.stays (N.fresh h2)
  have hin : ∀ env ∈ (envOf name scope L a cd :: outer), ∀ b, env.frame = some b → b ∈ e :: t :: (envOf name scope L a cd :: outer).filterMap (·.frame) := fun env he b hb => .tail _ (.tail _ (List.mem_filterMap.mpr ⟨env, he, hb⟩))
  have st : base.StaysIn (hideAll s'.heap (e :: t :: (envOf name scope L a cd :: outer).filterMap (·.frame))) := fun b o q => hideAll_get _ (K'.stays b o q) fun hm => by
    rcases List.mem_cons.mp hm with rfl | hm
    · rw [fe] at q; cases q
    rcases List.mem_cons.mp hm with rfl | hm
    · rw [ft] at q; cases q
    rw [(K'.frames.mem hm).1] at q; cases q
  have hbe : (hideAll s'.heap (e :: t :: (envOf name scope L a cd :: outer).filterMap (·.frame))).get? e = none := hideAll_none _ (.head _)
  have hbt : (hideAll s'.heap (e :: t :: (envOf name scope L a cd :: outer).filterMap (·.frame))).get? t = none := hideAll_none _ (.tail _ (.head _))
  refine wpAny_leaving_firstW (base := hideAll s'.heap (e :: t :: (envOf name scope L a cd :: outer).filterMap (·.frame))) (a0 := .ref t) K'.stack (funFrames_hide K'.frames hin) rfl he (fun b o q => of_hideAll _ q) hbe rfl rfl rfl fun h' hL => ?_
  obtain ⟨k1, ⟨_, _, k2⟩, k3, k4⟩ := hL
  exact hQ h' ⟨⟨_, st, (fun q hq => nomatch hq), ⟨k1, hbe, k2, k3⟩, hbt⟩, Heap.TupAt.of_slots ⟨_, _, ht, rfl, rfl⟩ k4⟩ ((Heap.UpToSlots.of_keeps F.keep).trans k4)
theorem raise_to {w : World} {C : Addr} {E : Value → Shared → Prop} {s₁ : Shared} {h₀ : Heap} {L : Addr} {m : Str → Option Value} {news : List (Addr × Obj)} {e t d : Addr} (F : Fr h₀ L s₁.heap m) (X : (hd.heap_1_1 w.params).In h₀) (N : News h₀ L s₁.heap news) (hm : (e, eObjD C t d) ∈ news) (h : E (.ref e) s₁) :
    RaiseTo w C E (.ref e) s₁ := ⟨e, t, d, rfl, X.keeps F.keep, N.get hm, h⟩
theorem say_PB_2 : True := by
  k_with "leaving ref" => (k_here; k_dflt (refine' leave_fault ?K ?F ?N ?h1 ?h2 ?_ ?hk; (case K => assumption); (case F => k_asm); (case N => k_asm); (case h1 => exact .tail _ (.head _)); (case h2 => exact .head _); (case hk => exact rfl); k_whole); intro h_wz R_wz U_wz; (try dsimp only at R_wz U_wz ⊢))
  trivial


theorem tidy_PB1 : True := by
  w_top off
  trivial
section PartB1
open Builtin Builtin.Bytes
set_option linter.deprecated false
theorem buf_lookup : typeLookup (.type "bytes") "__buffer__" = pure (some (.builtin "bytes.__buffer__")) := by rw [typeLookup_type, builtinLookup_eq_fast]; kernel_rfl
theorem rel_lookup : typeLookup (.type "bytes") "__release_buffer__" = pure none := by rw [typeLookup_type, builtinLookup_eq_fast]; kernel_rfl
theorem slot_own {M : Model} {A : Around} {E : Value → Shared → Prop} {s : Shared} {b : Array UInt8} {t : Tok} {Q : Bool → Shared → Prop} (h : Q true s) : wpAny M A (slotIsOwn (.bytes b t) "__buffer__") Q E s := by
  unfold slotIsOwn
  refine wpAny_bind (wpAny_specialOf (typeIs_bytes s b t) buf_lookup ?_)
  dsimp only
  rw [if_neg (by decide +kernel)]
  rw [show ("bytes.__buffer__".dropRight ("__buffer__".length + 1)) = "bytes" from by decide +kernel]
  exact wpAny_isInstance (typeIs_bytes s b t) F.sub_bytes_bytes h
theorem gives_in (b : Array UInt8) (i : Int) (t u : Tok) (h0 : 0 ≤ i) (h1 : i < 256) : Gives («bytes.__contains__» ⟨[.bytes b t, .int i u], []⟩) (.val (.bool (b.contains i.toNat.toUInt8))) := by
  refine .of_wp fun M A E s Q hq => ?_
  show wpAny M A (containsIn "bytes.__contains__" (.bytes b t) (.int i u) >>= fun r => ret (.bool r)) _ E s
  unfold containsIn
  refine wpAny_bind (wpAny_bind (wpAny_attempt (show wpAny M A (asIndex (.int i u)) _ _ s from ?_)))
  unfold asIndex
  refine wpAny_bind (wpAny_of_eq (a := some i) rfl ?_)
  refine wpAny_pure ?_
  refine wpAny_bind ?_
  unfold buffer?
  refine wpAny_bind (wpAny_specialOf (typeIs_bytes s b t) buf_lookup ?_)
  (try dsimp only)
  refine wpAny_bind (slot_own ?_)
  rw [if_neg (by decide)]
  refine wpAny_bind (wpAny_specialOf (typeIs_bytes s b t) buf_lookup ?_)
  (try dsimp only)
  unfold ownRelease slotIsOwn
  refine wpAny_bind (wpAny_bind (wpAny_bind (wpAny_specialOf (typeIs_bytes s b t) rel_lookup ?_)))
  (try dsimp only)
  refine wpAny_pure (wpAny_pure ?_)
  rw [if_neg (by decide)]
  refine wpAny_bind (wpAny_of_eq (a := b) rfl (wpAny_pure ?_))
  (try dsimp only)
  rw [if_neg (by simp; omega)]
  exact wpAny_pure (wpAny_pure ⟨_, rfl, hq⟩)
section
variable {prog : Program} {w : World} {A : Around} {E : Value → Shared → Prop} {s : Shared} {Q : Value → Shared → Prop}
theorem in_bytes {b : Array UInt8} {i : Int} {t u : Tok} (h0 : 0 ≤ i) (h1 : i < 256) (h : Q (.bool (b.contains i.toNat.toUInt8)) s) : wpAny (model prog w) A (compareOp .In (.int i u) (.bytes b t)) Q E s :=
  in_gives (typeIs_bytes s b t) FB.slot_bytes_contains FB.entry_bytes_contains (FB.args_bytes_contains_2 _ _) (gives_in b i t u h0 h1) h
theorem notIn_bytes {b : Array UInt8} {i : Int} {t u : Tok} (h0 : 0 ≤ i) (h1 : i < 256) (h : Q (.bool (!b.contains i.toNat.toUInt8)) s) : wpAny (model prog w) A (compareOp .NotIn (.int i u) (.bytes b t)) Q E s :=
  notIn_gives (typeIs_bytes s b t) FB.slot_bytes_contains FB.entry_bytes_contains (FB.args_bytes_contains_2 _ _) (gives_in b i t u h0 h1) h
end
theorem contains_ints : ∀ (l : List UInt8) (i : Int), 0 ≤ i → i < 256 → l.contains i.toNat.toUInt8 = (l.map fun c => (c.toNat : Int)).contains i
  | [], _, _, _ => rfl
  | c :: l, i, h0, h1 => by
    rw [List.map_cons, List.contains_cons, List.contains_cons, contains_ints l i h0 h1]
    congr 1
    have e : (i.toNat.toUInt8 == c) = (i == (c.toNat : Int)) := by
      have hn : i.toNat.toUInt8.toNat = i.toNat := by
        show (UInt8.ofNat i.toNat).toNat = i.toNat
        rw [UInt8.toNat_ofNat']; omega
      rw [Bool.eq_iff_iff, beq_iff_eq, beq_iff_eq]
      constructor
      · intro e; rw [← e, hn]; omega
      · intro e; apply UInt8.toNat_inj.mp; rw [hn]; omega
    exact e
end PartB1
theorem contains_arr (l : List UInt8) (i : Int) (h0 : 0 ≤ i) (h1 : i < 256) : (l.toArray).contains i.toNat.toUInt8 = (l.map fun c => (c.toNat : Int)).contains i := by
  rw [List.contains_toArray]
  exact contains_ints l i h0 h1
theorem say_PB1_0 : True := by
  k_with "compareOp In int bytes" => (k_here; refine in_bytes (by omega) (by omega) ?_)
  k_with "compareOp NotIn int bytes" => (k_here; refine notIn_bytes (by omega) (by omega) ?_)
  trivial


theorem tidy_PC : True := by
  w_top off
  trivial
noncomputable def upc (c : Nat) : Nat := if 97 ≤ c ∧ c ≤ 122 then c - 32 else c
noncomputable def upS (x : Str) : Str := ⟨(x.cps.toList.map upc).toArray⟩
theorem up_c (w : World) (mean : ExcName → Option Value) (mg mb : Str → Option Value) (rest : CbLed) (x : Str) (tx : Tok) (hx : x.cps.size ≤ 10000) (ha : ∀ c ∈ x.cps.toList, c < 128) :
   Ctr w mean mg mb 3 143 [.str x tx] rest (fun r nx => nx = rest ∧ ∃ t, r = .str (upS x) t) False := by
  unfold Ctr
  k_fill
  intro dp un gd cn cs a ccd cl outer A₀ base h₀ L m s Q E B F X N T hk hdp hun hret hexc
  refine wpAny_call ?_
  k_dflt cell_enter
  k_steps
  refine Hold.mk ?_
  rename Fr _ _ _ _ => F1
  k_dflt (refine comp_text (fun c => ⟨#[upc c]⟩) F1 (by k_asm) rfl rfl ha hx ?_ ?_ rfl (by decide) rfl (by decide) rfl rfl rfl (by decide) (by intro _; rfl))
  · intro c u I oI C oC D m₂ ys h tk E' hc hC hx2 F2 N2 off ne
    have hc2 := ha c hc
    k_steps
    · rename (_ < _) => q
      have q' : c < 97 := lt1.mp q
      exact ElEnd.mk (by assumption) (by assumption) ⟨_, by rw [show upc c = c from if_neg (by omega)]⟩
    · rename ((Str.ofString "z").cps.toList < _) => q
      have q' : 122 < c := lt1.mp q
      exact ElEnd.mk (by assumption) (by assumption) ⟨_, by rw [show upc c = c from if_neg (by omega)]⟩
    · rename (¬ (Str.ofString "z").cps.toList < _) => q
      rename (¬ _ < (Str.ofString "a").cps.toList) => q2
      have q' : ¬ 122 < c := fun z => q (lt1.mpr z)
      have q2' : ¬ c < 97 := fun z => q2 (lt1.mpr z)
      refine chr_of_range (by omega) (by omega) ?_
      k_steps
      exact ElEnd.mk (by assumption) (by assumption) ⟨_, by rw [show upc c = ((c : Int) - 32).toNat from by unfold upc; rw [if_pos (by omega)]; omega]⟩
  · intro D ys h tk F2 N2 o1 hc
    have hlen : x.cps.toList.length ≤ 10000 := by rw [Array.length_toList]; exact hx
    k_steps
    rw [join_nil_signs]
    rename News h₀ _ _ _ => N5
    exact hret _ _ _ _ (by assumption) (cb_drop N5 fun q hq => .tail _ hq) ⟨rfl, _, rfl⟩
theorem up_c_k (w : World) (mean : ExcName → Option Value) (mg mb : Str → Option Value) (rest : CbLed) (x : Str) (tx : Tok) (hx : x.cps.size ≤ 10000) (ha : ∀ c ∈ x.cps.toList, c < 128) :
   CtrK w mean mg mb 3 143 [.str x tx] rest (fun G => ∀ t, G (.str (upS x) t) (rest)) :=
  CtrK.of (up_c w mean mg mb rest x tx hx ha) (by intro G k; rintro r nx ⟨rfl, t, rfl⟩; exact k _)
noncomputable def loc (c : Int) : Int := if 65 ≤ c ∧ c ≤ 90 then c + 32 else c
theorem loc_c (w : World) (mean : ExcName → Option Value) (mg mb : Str → Option Value) (rest : CbLed) (c : Int) (tx : Tok) (h0 : 0 ≤ c) (h1 : c < 128) :
   Ctr w mean mg mb 1 128 [.int c tx] rest (fun r nx => nx = rest ∧ ∃ t, r = .int (loc c) t) False := by
  unfold Ctr
  k_fill
  intro dp un gd cn cs a ccd cl outer A₀ base h₀ L m s Q E B F X N T hk hdp hun hret hexc
  refine wpAny_call ?_
  k_dflt cell_enter
  k_steps
  · exact hret _ _ _ _ (by assumption) (by assumption) ⟨rfl, _, by rw [show loc c = c + 32 from if_pos (by omega)]⟩
  · exact hret _ _ _ _ (by assumption) (by assumption) ⟨rfl, _, by rw [show loc c = c from if_neg (by omega)]⟩
  · exact hret _ _ _ _ (by assumption) (by assumption) ⟨rfl, _, by rw [show loc c = c from if_neg (by omega)]⟩
theorem loc_c_k (w : World) (mean : ExcName → Option Value) (mg mb : Str → Option Value) (rest : CbLed) (c : Int) (tx : Tok) (h0 : 0 ≤ c) (h1 : c < 128) :
   CtrK w mean mg mb 1 128 [.int c tx] rest (fun G => ∀ t, G (.int (loc c) t) (rest)) :=
  CtrK.of (loc_c w mean mg mb rest c tx h0 h1) (by intro G k; rintro r nx ⟨rfl, t, rfl⟩; exact k _)
theorem say_PC_0 : True := by
  k_with "call ref" => (k_here; (with_reducible show wpAny _ _ (call (Value.ref 128) [Value.int _ _]) _ _ _); k_dflt (refine' ctr_useK (loc_c_k _ _ _ _ _ _ _ ?p1 ?p2) ?k1 ?k2 ?k3 ?k4 ?k5 ?kK ?kd ?ku ?_; (case k2 => k_asm); (case k4 => k_asm); (case p1 => first | with_reducible assumption | omega); (case p2 => first | with_reducible assumption | omega); (case k1 => k_asm); (case k3 => k_asm); (case k5 => k_asm); (case kK => first | exact rfl | assumption); (case kd => ktr_room); (case ku => ktr_units)); (intro t_wz h_wz tk_wz F_wz N_wz; (try dsimp only); (try k_fold)))
  trivial
noncomputable def locN (c : Nat) : Nat := if 65 ≤ c ∧ c ≤ 90 then c + 32 else c
noncomputable def loS (x : Str) : Str := ⟨(x.cps.toList.map locN).toArray⟩
theorem low_c (w : World) (mean : ExcName → Option Value) (mg mb : Str → Option Value) (rest : CbLed) (x : Str) (tx : Tok) (hx : x.cps.size ≤ 10000) (ha : ∀ c ∈ x.cps.toList, c < 128) :
   Ctr w mean mg mb 3 138 [.str x tx] rest (fun r nx => nx = rest ∧ ∃ t, r = .str (loS x) t) False := by
  unfold Ctr
  k_fill
  intro dp un gd cn cs a ccd cl outer A₀ base h₀ L m s Q E B F X N T hk hdp hun hret hexc
  refine wpAny_call ?_
  k_dflt cell_enter
  k_steps
  refine Hold.mk ?_
  rename Fr _ _ _ _ => F1
  k_dflt (refine comp_text (fun c => ⟨#[locN c]⟩) F1 (by k_asm) rfl rfl ha hx ?_ ?_ rfl (by decide) rfl (by decide) rfl rfl rfl (by decide) (by intro _; rfl))
  · intro c u I oI C oC D m₂ ys h tk E' hc hC hx2 F2 N2 off ne
    have hc2 := ha c hc
    have hl0 : 0 ≤ loc (c : Int) := by unfold loc; split <;> omega
    have hl1 : loc (c : Int) < 1114112 := by unfold loc; split <;> omega
    k_steps
    exact ElEnd.mk (by assumption) (by assumption) ⟨_, by rw [show locN c = (loc (c : Int)).toNat from by unfold loc locN; split <;> split <;> omega]⟩
  · intro D ys h tk F2 N2 o1 hc
    have hlen : x.cps.toList.length ≤ 10000 := by rw [Array.length_toList]; exact hx
    k_steps
    rw [join_nil_signs]
    rename News h₀ _ _ _ => N5
    exact hret _ _ _ _ (by assumption) (cb_drop N5 fun q hq => .tail _ hq) ⟨rfl, _, rfl⟩
theorem low_c_k (w : World) (mean : ExcName → Option Value) (mg mb : Str → Option Value) (rest : CbLed) (x : Str) (tx : Tok) (hx : x.cps.size ≤ 10000) (ha : ∀ c ∈ x.cps.toList, c < 128) :
   CtrK w mean mg mb 3 138 [.str x tx] rest (fun G => ∀ t, G (.str (loS x) t) (rest)) :=
  CtrK.of (low_c w mean mg mb rest x tx hx ha) (by intro G k; rintro r nx ⟨rfl, t, rfl⟩; exact k _)
noncomputable def strOf (ks : List Int) : Str := ⟨(ks.map Int.toNat).toArray⟩
theorem getD_lt {ks : List Int} {n : Int} (h : ∀ c ∈ ks, c < n) (hn : 0 < n) (i : Nat) : ks.getD i 0 < n := by
  rw [List.getD_eq_getElem?_getD]
  cases e : ks[i]? with
  | none => exact hn
  | some c => exact h c (List.mem_of_getElem? e)
theorem asc_c (w : World) (mean : ExcName → Option Value) (mg mb : Str → Option Value) (rest : CbLed) (D : Array UInt8) (ks : List Int) (tx : Tok) (hD : KBw.bInts D = ks) (hx : ks.length ≤ 10000) (ha : ∀ c ∈ ks, 0 ≤ c ∧ c < 128) :
   Ctr w mean mg mb 3 148 [.bytes D tx] rest (fun r nx => nx = rest ∧ ∃ t, r = .str (strOf ks) t) False := by
  unfold Ctr
  k_fill
  intro dp un gd cn cs a ccd cl outer A₀ base h₀ L m s Q E B F X N T hk hdp hun hret hexc
  refine wpAny_call ?_
  k_dflt cell_enter
  k_steps
  all_goals (try (with_unfolding_all exact PUnit.unit))
  · refine Hold.mk ?_
    rename (_ < ks.getD _ _) => q
    exact absurd (Int.lt_of_lt_of_le q (Int.le_of_lt_add_one (getD_lt (n := 128) (fun c hc => (ha c hc).2) (by decide) _))) (Int.lt_irrefl _)
  refine Hold.mk ?_
  rename Fr _ _ _ _ => F1
  k_dflt (refine comp_bytes (fun c => ⟨#[id c]⟩) F1 (by k_asm) rfl rfl hD hx ?_ ?_ rfl (by decide) rfl (by decide) rfl rfl rfl (by decide) (by intro _; rfl))
  · intro c u I oI C oC D m₂ ys h tk E' hc hC hx2 F2 N2 off ne
    have hc2 := ha c hc
    k_steps
    exact ElEnd.mk (by assumption) (by assumption) ⟨_, rfl⟩
  · intro D ys h tk F2 N2 o1 hc
    have hlen : (ks.map Int.toNat).length ≤ 10000 := by rw [List.length_map]; exact hx
    k_steps
    rw [join_nil_signs, List.map_id]
    rename News h₀ _ _ _ => N5
    exact hret _ _ _ _ (by assumption) (cb_drop N5 fun q hq => .tail _ hq) ⟨rfl, _, rfl⟩
theorem asc_c_k (w : World) (mean : ExcName → Option Value) (mg mb : Str → Option Value) (rest : CbLed) (D : Array UInt8) (ks : List Int) (tx : Tok) (hD : KBw.bInts D = ks) (hx : ks.length ≤ 10000) (ha : ∀ c ∈ ks, 0 ≤ c ∧ c < 128) :
   CtrK w mean mg mb 3 148 [.bytes D tx] rest (fun G => ∀ t, G (.str (strOf ks) t) (rest)) :=
  CtrK.of (asc_c w mean mg mb rest D ks tx hD hx ha) (by intro G k; rintro r nx ⟨rfl, t, rfl⟩; exact k _)


theorem tidy_PD : True := by
  w_top off
  trivial
noncomputable def isPr (c : Int) : Bool := decide (33 ≤ c) && decide (c ≤ 126)
noncomputable def spec : List Int := [40, 41, 123, 37, 42, 34, 92, 93]
noncomputable def isAtomB (c : Int) : Bool := isPr c && !(spec.contains c)
noncomputable def isAst (c : Int) : Bool := isAtomB c || c == 93
noncomputable def isSetB (c : Int) : Bool := (decide (48 ≤ c) && decide (c ≤ 57)) || [58, 44, 42].contains c
noncomputable def isLet (c : Int) : Bool := (decide (65 ≤ c) && decide (c ≤ 90)) || (decide (97 ≤ c) && decide (c ≤ 122))
theorem set1 {c : Int} (h : 48 ≤ c) (h2 : c ≤ 57) : decide (c ≤ 57) = isSetB c := by rw [isSetB, decide_eq_true h, decide_eq_true h2]; rfl
theorem set2 {c : Int} (h0 : 0 ≤ c) (h1 : c < 256) (h : ¬ (48 ≤ c ∧ c ≤ 57)) : (#[58, 44, 42] : Array UInt8).contains c.toNat.toUInt8 = isSetB c := by
  have e : (decide (48 ≤ c) && decide (c ≤ 57)) = false := by
    rw [Bool.and_eq_false_iff]
    by_cases q : 48 ≤ c
    · exact .inr (decide_eq_false (by omega))
    · exact .inl (decide_eq_false q)
  rw [isSetB, e, Bool.false_or]
  exact contains_arr [58, 44, 42] c h0 h1
theorem let1 {c : Int} (h : 65 ≤ c) (h2 : c ≤ 90) : decide (c ≤ 90) = isLet c := by rw [isLet, decide_eq_true h, decide_eq_true h2]; rfl
theorem let0 {c : Int} (h : ¬ (65 ≤ c ∧ c ≤ 90)) : isLet c = (decide (97 ≤ c) && decide (c ≤ 122)) := by
  have e : (decide (65 ≤ c) && decide (c ≤ 90)) = false := by
    rw [Bool.and_eq_false_iff]
    by_cases q : 65 ≤ c
    · exact .inr (decide_eq_false (by omega))
    · exact .inl (decide_eq_false q)
  rw [isLet, e, Bool.false_or]
theorem let2 {c : Int} (h : 97 ≤ c) (h2 : ¬ (65 ≤ c ∧ c ≤ 90)) : decide (c ≤ 122) = isLet c := by rw [let0 h2, decide_eq_true h, Bool.true_and]
theorem let3 {c : Int} (h : ¬ 97 ≤ c) (h2 : ¬ (65 ≤ c ∧ c ≤ 90)) : decide (97 ≤ c) = isLet c := by rw [let0 h2, decide_eq_false h, Bool.false_and]
theorem pr_c (w : World) (mean : ExcName → Option Value) (mg mb : Str → Option Value) (rest : CbLed) (c : Int) (tx : Tok) (h0 : 0 ≤ c) (h1 : c < 256) :
   Ctr w mean mg mb 1 485 [.int c tx] rest (fun r nx => nx = rest ∧ r = .bool (isPr c)) False := by
  unfold Ctr
  k_fill
  intro dp un gd cn cs a ccd cl outer A₀ base h₀ L m s Q E B F X N T hk hdp hun hret hexc
  refine wpAny_call ?_
  k_dflt cell_enter
  k_steps
  · exact hret _ _ _ _ (by assumption) (by assumption) ⟨rfl, by rw [isPr, decide_eq_true (show 33 ≤ c by omega), Bool.true_and]⟩
  · exact hret _ _ _ _ (by assumption) (by assumption) ⟨rfl, by rw [isPr, decide_eq_false (show ¬ 33 ≤ c by omega), Bool.false_and]⟩
theorem pr_c_k (w : World) (mean : ExcName → Option Value) (mg mb : Str → Option Value) (rest : CbLed) (c : Int) (tx : Tok) (h0 : 0 ≤ c) (h1 : c < 256) :
   CtrK w mean mg mb 1 485 [.int c tx] rest (fun G => G (.bool (isPr c)) (rest)) :=
  CtrK.of (pr_c w mean mg mb rest c tx h0 h1) (by intro G k; rintro r nx ⟨rfl, rfl⟩; exact k )
theorem say_PD_0 : True := by
  k_with "call ref" => (k_here; (with_reducible show wpAny _ _ (call (Value.ref 485) [Value.int _ _]) _ _ _); k_dflt (refine' ctr_useK (pr_c_k _ _ _ _ _ _ _ ?p1 ?p2) ?k1 ?k2 ?k3 ?k4 ?k5 ?kK ?kd ?ku ?_; (case k2 => k_asm); (case k4 => k_asm); (case p1 => first | with_reducible assumption | omega); (case p2 => first | with_reducible assumption | omega); (case k1 => k_asm); (case k3 => k_asm); (case k5 => k_asm); (case kK => first | exact rfl | assumption); (case kd => ktr_room); (case ku => ktr_units)); (intro h_wz tk_wz F_wz N_wz; (try dsimp only); (try k_fold)))
  trivial
theorem atom_c (w : World) (mean : ExcName → Option Value) (mg mb : Str → Option Value) (rest : CbLed) (c : Int) (tx : Tok) (h0 : 0 ≤ c) (h1 : c < 256) :
   Ctr w mean mg mb 3 492 [.int c tx] rest (fun r nx => nx = rest ∧ r = .bool (isAtomB c)) False := by
  unfold Ctr
  k_fill
  intro dp un gd cn cs a ccd cl outer A₀ base h₀ L m s Q E B F X N T hk hdp hun hret hexc
  refine wpAny_call ?_
  k_dflt cell_enter
  k_steps
  · rename (isPr c = true) => q
    exact hret _ _ _ _ (by assumption) (by assumption) ⟨rfl, by rw [isAtomB, q, Bool.true_and]; exact congrArg (fun b => Value.bool (!b)) (contains_arr [40, 41, 123, 37, 42, 34, 92, 93] c h0 h1)⟩
  · rename (isPr c = false) => q
    exact hret _ _ _ _ (by assumption) (by assumption) ⟨rfl, by rw [isAtomB, q, Bool.false_and]⟩
theorem atom_c_k (w : World) (mean : ExcName → Option Value) (mg mb : Str → Option Value) (rest : CbLed) (c : Int) (tx : Tok) (h0 : 0 ≤ c) (h1 : c < 256) :
   CtrK w mean mg mb 3 492 [.int c tx] rest (fun G => G (.bool (isAtomB c)) (rest)) :=
  CtrK.of (atom_c w mean mg mb rest c tx h0 h1) (by intro G k; rintro r nx ⟨rfl, rfl⟩; exact k )
theorem say_PD_1 : True := by
  k_with "call ref" => (k_here; (with_reducible show wpAny _ _ (call (Value.ref 492) [Value.int _ _]) _ _ _); k_dflt (refine' ctr_useK (atom_c_k _ _ _ _ _ _ _ ?p1 ?p2) ?k1 ?k2 ?k3 ?k4 ?k5 ?kK ?kd ?ku ?_; (case k2 => k_asm); (case k4 => k_asm); (case p1 => first | with_reducible assumption | omega); (case p2 => first | with_reducible assumption | omega); (case k1 => k_asm); (case k3 => k_asm); (case k5 => k_asm); (case kK => first | exact rfl | assumption); (case kd => ktr_room); (case ku => ktr_units)); (intro h_wz tk_wz F_wz N_wz; (try dsimp only); (try k_fold)))
  trivial
theorem ast_c (w : World) (mean : ExcName → Option Value) (mg mb : Str → Option Value) (rest : CbLed) (c : Int) (tx : Tok) (h0 : 0 ≤ c) (h1 : c < 256) :
   Ctr w mean mg mb 5 499 [.int c tx] rest (fun r nx => nx = rest ∧ r = .bool (isAst c)) False := by
  unfold Ctr
  k_fill
  intro dp un gd cn cs a ccd cl outer A₀ base h₀ L m s Q E B F X N T hk hdp hun hret hexc
  refine wpAny_call ?_
  k_dflt cell_enter
  k_steps
  · rename (isAtomB c = true) => q
    exact hret _ _ _ _ (by assumption) (by assumption) ⟨rfl, by rw [isAst, q, Bool.true_or]⟩
  · rename (isAtomB c = false) => q
    exact hret _ _ _ _ (by assumption) (by assumption) ⟨rfl, by rw [isAst, q, Bool.false_or]⟩
theorem ast_c_k (w : World) (mean : ExcName → Option Value) (mg mb : Str → Option Value) (rest : CbLed) (c : Int) (tx : Tok) (h0 : 0 ≤ c) (h1 : c < 256) :
   CtrK w mean mg mb 5 499 [.int c tx] rest (fun G => G (.bool (isAst c)) (rest)) :=
  CtrK.of (ast_c w mean mg mb rest c tx h0 h1) (by intro G k; rintro r nx ⟨rfl, rfl⟩; exact k )
theorem say_PD_2 : True := by
  k_with "call ref" => (k_here; (with_reducible show wpAny _ _ (call (Value.ref 499) [Value.int _ _]) _ _ _); k_dflt (refine' ctr_useK (ast_c_k _ _ _ _ _ _ _ ?p1 ?p2) ?k1 ?k2 ?k3 ?k4 ?k5 ?kK ?kd ?ku ?_; (case k2 => k_asm); (case k4 => k_asm); (case p1 => first | with_reducible assumption | omega); (case p2 => first | with_reducible assumption | omega); (case k1 => k_asm); (case k3 => k_asm); (case k5 => k_asm); (case kK => first | exact rfl | assumption); (case kd => ktr_room); (case ku => ktr_units)); (intro h_wz tk_wz F_wz N_wz; (try dsimp only); (try k_fold)))
  trivial
theorem set_c (w : World) (mean : ExcName → Option Value) (mg mb : Str → Option Value) (rest : CbLed) (c : Int) (tx : Tok) (h0 : 0 ≤ c) (h1 : c < 256) :
   Ctr w mean mg mb 3 513 [.int c tx] rest (fun r nx => nx = rest ∧ r = .bool (isSetB c)) False := by
  unfold Ctr
  k_fill
  intro dp un gd cn cs a ccd cl outer A₀ base h₀ L m s Q E B F X N T hk hdp hun hret hexc
  refine wpAny_call ?_
  k_dflt cell_enter
  k_steps
  · exact hret _ _ _ _ (by assumption) (by assumption) ⟨rfl, congrArg Value.bool (set1 (by omega) (by omega))⟩
  · exact hret _ _ _ _ (by assumption) (by assumption) ⟨rfl, congrArg Value.bool (set2 h0 h1 (by omega))⟩
  · exact hret _ _ _ _ (by assumption) (by assumption) ⟨rfl, congrArg Value.bool (set2 h0 h1 (by omega))⟩
theorem set_c_k (w : World) (mean : ExcName → Option Value) (mg mb : Str → Option Value) (rest : CbLed) (c : Int) (tx : Tok) (h0 : 0 ≤ c) (h1 : c < 256) :
   CtrK w mean mg mb 3 513 [.int c tx] rest (fun G => G (.bool (isSetB c)) (rest)) :=
  CtrK.of (set_c w mean mg mb rest c tx h0 h1) (by intro G k; rintro r nx ⟨rfl, rfl⟩; exact k )
theorem say_PD_3 : True := by
  k_with "call ref" => (k_here; (with_reducible show wpAny _ _ (call (Value.ref 513) [Value.int _ _]) _ _ _); k_dflt (refine' ctr_useK (set_c_k _ _ _ _ _ _ _ ?p1 ?p2) ?k1 ?k2 ?k3 ?k4 ?k5 ?kK ?kd ?ku ?_; (case k2 => k_asm); (case k4 => k_asm); (case p1 => first | with_reducible assumption | omega); (case p2 => first | with_reducible assumption | omega); (case k1 => k_asm); (case k3 => k_asm); (case k5 => k_asm); (case kK => first | exact rfl | assumption); (case kd => ktr_room); (case ku => ktr_units)); (intro h_wz tk_wz F_wz N_wz; (try dsimp only); (try k_fold)))
  trivial
theorem let_c (w : World) (mean : ExcName → Option Value) (mg mb : Str → Option Value) (rest : CbLed) (c : Int) (tx : Tok) (h0 : 0 ≤ c) (h1 : c < 256) :
   Ctr w mean mg mb 3 326 [.int c tx] rest (fun r nx => nx = rest ∧ r = .bool (isLet c)) False := by
  unfold Ctr
  k_fill
  intro dp un gd cn cs a ccd cl outer A₀ base h₀ L m s Q E B F X N T hk hdp hun hret hexc
  refine wpAny_call ?_
  k_dflt cell_enter
  k_steps
  · exact hret _ _ _ _ (by assumption) (by assumption) ⟨rfl, congrArg Value.bool (let1 (by omega) (by omega))⟩
  · exact hret _ _ _ _ (by assumption) (by assumption) ⟨rfl, congrArg Value.bool (let2 (by omega) (by omega))⟩
  · exact hret _ _ _ _ (by assumption) (by assumption) ⟨rfl, congrArg Value.bool (let3 (by omega) (by omega))⟩
  · exact hret _ _ _ _ (by assumption) (by assumption) ⟨rfl, congrArg Value.bool (let3 (by omega) (by omega))⟩
theorem let_c_k (w : World) (mean : ExcName → Option Value) (mg mb : Str → Option Value) (rest : CbLed) (c : Int) (tx : Tok) (h0 : 0 ≤ c) (h1 : c < 256) :
   CtrK w mean mg mb 3 326 [.int c tx] rest (fun G => G (.bool (isLet c)) (rest)) :=
  CtrK.of (let_c w mean mg mb rest c tx h0 h1) (by intro G k; rintro r nx ⟨rfl, rfl⟩; exact k )
theorem say_PD_4 : True := by
  k_with "call ref" => (k_here; (with_reducible show wpAny _ _ (call (Value.ref 326) [Value.int _ _]) _ _ _); k_dflt (refine' ctr_useK (let_c_k _ _ _ _ _ _ _ ?p1 ?p2) ?k1 ?k2 ?k3 ?k4 ?k5 ?kK ?kd ?ku ?_; (case k2 => k_asm); (case k4 => k_asm); (case p1 => first | with_reducible assumption | omega); (case p2 => first | with_reducible assumption | omega); (case k1 => k_asm); (case k3 => k_asm); (case k5 => k_asm); (case kK => first | exact rfl | assumption); (case kd => ktr_room); (case ku => ktr_units)); (intro h_wz tk_wz F_wz N_wz; (try dsimp only); (try k_fold)))
  trivial


theorem tidy_PE : True := by
  w_top off
  trivial
structure WTok where
  h1 : Int
  h2 : Int
  k1 : Tok
  k2 : Tok
  td : Tok
  tp : Tok
noncomputable abbrev wObj (dx : Nat) : Obj := instObj 712 dx
noncomputable abbrev wDict (x : WTok) (D : Array UInt8) (p : Int) : Obj :=
  dictOf [⟨x.h1, .str (Str.ofString "data") x.k1, .bytes D x.td⟩, ⟨x.h2, .str (Str.ofString "at") x.k2, .int p x.tp⟩] 2
/-- the wire at the ledger's head -/
noncomputable abbrev WL (wa dx : Nat) (x : WTok) (D : Array UInt8) (p : Int) (rest : CbLed) : CbLed := (wa, wObj dx) :: (dx, wDict x D p) :: rest
theorem wl_pack {h₀ h : Heap} {L : Addr} {wa dx : Nat} {D : Array UInt8} {p : Int} {rest : CbLed} {h1 h2 : Int} {k1 k2 td tp : Tok}
    (N : News h₀ L h ((wa, wObj dx) :: (dx, dictOf [⟨h1, .str (Str.ofString "data") k1, .bytes D td⟩, ⟨h2, .str (Str.ofString "at") k2, .int p tp⟩] 2) :: rest)) : ∃ x', News h₀ L h (WL wa dx x' D p rest) := ⟨⟨h1, h2, k1, k2, td, tp⟩, N⟩
/-- what stands behind the place p is R -/
noncomputable def At (ks : List Int) (p : Int) (R : List Int) : Prop := 0 ≤ p ∧ p ≤ (ks.length : Int) ∧ ks.drop p.toNat = R
theorem clip_in {n : Nat} {p : Int} (h0 : 0 ≤ p) (h1 : p ≤ (n : Int)) : clipAt n p = p.toNat := by
  have e : p = ((p.toNat : Nat) : Int) := by omega
  rw [e, clipAt_nat]
  simp only [Int.toNat_natCast]
  omega
theorem toList_ints {b : Array UInt8} {c : UInt8} : b.toList = [c] ↔ KBw.bInts b = [(c.toNat : Int)] := by
  constructor
  · intro h; show b.toList.map _ = _; rw [h]; rfl
  · intro h
    have h' : b.toList.map (fun c => (c.toNat : Int)) = [(c.toNat : Int)] := h
    cases hl : b.toList with
    | nil => rw [hl] at h'; cases h'
    | cons a r =>
      rw [hl] at h'
      cases r with
      | nil =>
        have : (a.toNat : Int) = c.toNat := by simpa using h'
        have e : a = c := UInt8.toNat_inj.mp (by omega)
        rw [e]
      | cons b r => simp at h'
theorem pick1 {D : Array UInt8} {ks : List Int} {p : Int} {c : UInt8} (hD : KBw.bInts D = ks) (h0 : 0 ≤ p) (h1 : p ≤ (ks.length : Int)) :
    ((KBy.picked D (some p) (some (p + ((#[c] : Array UInt8).size : Nat)))).toList != (#[c] : Array UInt8).toList) = !(decide (ks[p.toNat]? = some (c.toNat : Int))) := by
  have hb := KBc.ints_picked hD (some p) (some (p + ((#[c] : Array UInt8).size : Nat)))
  simp only [Option.elim] at hb
  rw [clip_in h0 h1] at hb
  have key : KBw.bInts (KBy.picked D (some p) (some (p + ((#[c] : Array UInt8).size : Nat)))) = [(c.toNat : Int)] ↔ ks[p.toNat]? = some (c.toNat : Int) := by
    rw [hb]
    by_cases hlt : p < (ks.length : Int)
    · have h2 : clipAt ks.length (p + ((#[c] : Array UInt8).size : Nat)) = p.toNat + 1 := by
        rw [clip_in (by show 0 ≤ p + 1; omega) (by show p + 1 ≤ _; omega)]
        show (p + 1).toNat = _
        omega
      have hd : ks.drop p.toNat = ks[p.toNat]'(by omega) :: ks.drop (p.toNat + 1) := List.drop_eq_getElem_cons (by omega)
      rw [h2, hd, Nat.add_sub_cancel_left, List.getElem?_eq_getElem (by omega)]
      generalize ks[p.toNat]'_ = z
      generalize ks.drop (p.toNat + 1) = r
      simp
    · have : ks.drop p.toNat = [] := List.drop_eq_nil_of_le (by omega)
      rw [this, List.getElem?_eq_none (by omega)]
      simp
  refine congrArg not ?_
  rw [Bool.eq_iff_iff, beq_iff_eq, decide_eq_true_iff, ← key]
  exact toList_ints
theorem skip_c (w : World) (mean : ExcName → Option Value) (mg mb : Str → Option Value) (rest : CbLed) (wa dx : Nat) (x : WTok) (D : Array UInt8) (ks : List Int) (p : Int) (c : UInt8) (tc : Tok)
    (hne : dx ≠ wa) (hr : ∀ q ∈ rest, q.1 ≠ dx) (hD : KBw.bInts D = ks) (hlen : ks.length ≤ 10000) (hp0 : 0 ≤ p) (hp1 : p ≤ (ks.length : Int)) :
   Ctr w mean mg mb 1 563 [.ref wa, .bytes #[c] tc] (WL wa dx x D p rest) (fun r nx => ∃ x', (r = .bool true ∧ ks[p.toNat]? = some (c.toNat : Int) ∧ nx = WL wa dx x' D (p + 1) rest) ∨ (r = .bool false ∧ ks[p.toNat]? ≠ some (c.toNat : Int) ∧ nx = WL wa dx x' D p rest)) False := by
  unfold Ctr
  k_fill
  intro dp un gd cn cs a ccd cl outer A₀ base h₀ L m s Q E B F X N T hk hdp hun hret hexc
  refine wpAny_call ?_
  k_dflt cell_enter
  k_steps
  · rename ((_ != _) = true) => q
    rw [pick1 hD hp0 hp1] at q
    have q' : ks[p.toNat]? ≠ some (c.toNat : Int) := by simpa using q
    exact hret _ _ _ _ (by assumption) (by assumption) ⟨_, .inr ⟨rfl, q', rfl⟩⟩
  · rename ((_ != _) = false) => q
    rw [pick1 hD hp0 hp1] at q
    have q' : ks[p.toNat]? = some (c.toNat : Int) := by simpa using q
    rename News h₀ _ _ _ => N5
    have e : p + (((#[c] : Array UInt8).size : Nat) : Int) = p + 1 := rfl
    rw [e] at N5
    obtain ⟨x', N6⟩ := wl_pack N5
    exact hret _ _ _ _ (by assumption) N6 ⟨x', .inl ⟨rfl, q', rfl⟩⟩
theorem At.hit {ks R : List Int} {p c : Int} (h : At ks p (c :: R)) : ks[p.toNat]? = some c ∧ At ks (p + 1) R := by
  obtain ⟨h0, h1, h2⟩ := h
  have hl : p.toNat < ks.length := by
    rcases Nat.lt_or_ge p.toNat ks.length with q | q
    · exact q
    · rw [List.drop_eq_nil_of_le q] at h2; cases h2
  have hd := List.drop_eq_getElem_cons hl
  rw [hd] at h2
  have e1 := (List.cons.inj h2).1
  have e2 := (List.cons.inj h2).2
  refine ⟨by rw [List.getElem?_eq_getElem hl, e1], by omega, by omega, ?_⟩
  have : (p + 1).toNat = p.toNat + 1 := by omega
  rw [this]; exact e2
theorem At.head {ks R : List Int} {p : Int} (h : At ks p R) : ks[p.toNat]? = R.head? := by
  rw [← h.2.2, List.head?_drop]
theorem skip_hit (w : World) (mean : ExcName → Option Value) (mg mb : Str → Option Value) (rest : CbLed) (wa dx : Nat) (x : WTok) (D : Array UInt8) (ks : List Int) (p : Int) (R : List Int) (c : UInt8) (ci : Int) (tc : Tok)
    (hne : dx ≠ wa) (hr : ∀ q ∈ rest, q.1 ≠ dx) (hD : KBw.bInts D = ks) (hlen : ks.length ≤ 10000) (hat : At ks p (ci :: R)) (hci : (c.toNat : Int) = ci) :
   Ctr w mean mg mb 1 563 [.ref wa, .bytes #[c] tc] (WL wa dx x D p rest) (fun r nx => r = .bool true ∧ At ks (p + 1) R ∧ ∃ x', nx = WL wa dx x' D (p + 1) rest) False := by
  have c := skip_c w mean mg mb rest wa dx x D ks p c tc hne hr hD hlen hat.1 hat.2.1
  intro dp un gd cn cs a ccd cl outer A₀ base h₀ L m s Q E B F X N T hk hdp hun hret hexc
  refine c dp un gd cn cs a ccd cl outer A₀ base h₀ L m s Q E B F X N T hk hdp hun (fun r nx h' tk' F' N' hP => ?_) hexc
  obtain ⟨x', ⟨e1, e2, e3⟩ | ⟨e1, e2, e3⟩⟩ := hP
  · exact hret r nx h' tk' F' N' ⟨e1, hat.hit.2, x', e3⟩
  · exact absurd (hat.hit.1.trans (by rw [hci])) e2
theorem skip_hit_k (w : World) (mean : ExcName → Option Value) (mg mb : Str → Option Value) (rest : CbLed) (wa dx : Nat) (x : WTok) (D : Array UInt8) (ks : List Int) (p : Int) (R : List Int) (c : UInt8) (ci : Int) (tc : Tok)
    (hne : dx ≠ wa) (hr : ∀ q ∈ rest, q.1 ≠ dx) (hD : KBw.bInts D = ks) (hlen : ks.length ≤ 10000) (hat : At ks p (ci :: R)) (hci : (c.toNat : Int) = ci) :
   CtrK w mean mg mb 1 563 [.ref wa, .bytes #[c] tc] (WL wa dx x D p rest) (fun G => ∀ x', (At ks (p + 1) R) → G (.bool true) (WL wa dx x' D (p + 1) rest)) :=
  CtrK.of (skip_hit w mean mg mb rest wa dx x D ks p R c ci tc hne hr hD hlen hat hci) (by intro G k; rintro r nx ⟨rfl, hc0, x', rfl⟩; exact k _ hc0)
theorem skip_miss (w : World) (mean : ExcName → Option Value) (mg mb : Str → Option Value) (rest : CbLed) (wa dx : Nat) (x : WTok) (D : Array UInt8) (ks : List Int) (p : Int) (R : List Int) (c : UInt8) (ci : Int) (tc : Tok)
    (hne : dx ≠ wa) (hr : ∀ q ∈ rest, q.1 ≠ dx) (hD : KBw.bInts D = ks) (hlen : ks.length ≤ 10000) (hat : At ks p R) (hm : R.head? ≠ some ci) (hci : (c.toNat : Int) = ci) :
   Ctr w mean mg mb 1 563 [.ref wa, .bytes #[c] tc] (WL wa dx x D p rest) (fun r nx => r = .bool false ∧ ∃ x', nx = WL wa dx x' D p rest) False := by
  have c := skip_c w mean mg mb rest wa dx x D ks p c tc hne hr hD hlen hat.1 hat.2.1
  intro dp un gd cn cs a ccd cl outer A₀ base h₀ L m s Q E B F X N T hk hdp hun hret hexc
  refine c dp un gd cn cs a ccd cl outer A₀ base h₀ L m s Q E B F X N T hk hdp hun (fun r nx h' tk' F' N' hP => ?_) hexc
  obtain ⟨x', ⟨e1, e2, e3⟩ | ⟨e1, e2, e3⟩⟩ := hP
  · rw [hat.head, hci] at e2; exact absurd e2 hm
  · exact hret r nx h' tk' F' N' ⟨e1, x', e3⟩
theorem skip_miss_k (w : World) (mean : ExcName → Option Value) (mg mb : Str → Option Value) (rest : CbLed) (wa dx : Nat) (x : WTok) (D : Array UInt8) (ks : List Int) (p : Int) (R : List Int) (c : UInt8) (ci : Int) (tc : Tok)
    (hne : dx ≠ wa) (hr : ∀ q ∈ rest, q.1 ≠ dx) (hD : KBw.bInts D = ks) (hlen : ks.length ≤ 10000) (hat : At ks p R) (hm : R.head? ≠ some ci) (hci : (c.toNat : Int) = ci) :
   CtrK w mean mg mb 1 563 [.ref wa, .bytes #[c] tc] (WL wa dx x D p rest) (fun G => ∀ x', G (.bool false) (WL wa dx x' D p rest)) :=
  CtrK.of (skip_miss w mean mg mb rest wa dx x D ks p R c ci tc hne hr hD hlen hat hm hci) (by intro G k; rintro r nx ⟨rfl, x', rfl⟩; exact k _)
theorem say_PE_0 : True := by
  k_with "call ref" => (k_here; (with_reducible show wpAny _ _ (call (Value.ref 563) [Value.ref _, Value.bytes _ _]) _ _ _); k_dflt (refine' ctr_useK (skip_hit_k _ _ _ _ _ _ _ _ _ _ _ _ _ _ _ ?p1 ?p2 ?p3 ?p4 ?p5 ?p6) ?k1 ?k2 ?k3 ?k4 ?k5 ?kK ?kd ?ku ?_; (case k2 => k_asm); (case k4 => k_asm); (case p1 => first | assumption | exact Ne.symm (by assumption) | omega); (case p2 => assumption); (case p3 => assumption); (case p4 => assumption); (case p5 => assumption); (case p6 => first | assumption | rfl); (case k1 => k_asm); (case k3 => k_asm); (case k5 => k_asm); (case kK => first | exact rfl | assumption); (case kd => ktr_room); (case ku => ktr_units)); (intro x_wz hat_wz h_wz tk_wz F_wz N_wz; (try dsimp only); (try k_fold)))
  k_with "call ref" => (k_here; (with_reducible show wpAny _ _ (call (Value.ref 563) [Value.ref _, Value.bytes _ _]) _ _ _); k_dflt (refine' ctr_useK (skip_miss_k _ _ _ _ _ _ _ _ _ _ _ _ _ _ _ ?p1 ?p2 ?p3 ?p4 ?p5 ?p7 ?p6) ?k1 ?k2 ?k3 ?k4 ?k5 ?kK ?kd ?ku ?_; (case k2 => k_asm); (case k4 => k_asm); (case p1 => first | assumption | exact Ne.symm (by assumption) | omega); (case p2 => assumption); (case p3 => assumption); (case p4 => assumption); (case p5 => assumption); (case p6 => first | assumption | rfl); (case p7 => first | assumption | decide); (case k1 => k_asm); (case k3 => k_asm); (case k5 => k_asm); (case kK => first | exact rfl | assumption); (case kd => ktr_room); (case ku => ktr_units)); (intro x_wz h_wz tk_wz F_wz N_wz; (try dsimp only); (try k_fold)))
  k_with "call ref" => (k_here; (with_reducible show wpAny _ _ (call (Value.ref 95) [Value.str _ _, Value.int _ _]) _ _ _); k_dflt (refine' ctr_useK (mk_fault_k _ _ _ _ _ 95 _ _ _ _ (exC95 _)) ?k1 ?k2 ?k3 ?k4 ?k5 ?kK ?kd ?ku ?_; (case k2 => k_asm); (case k4 => k_asm); (case k1 => k_asm); (case k3 => k_asm); (case k5 => k_asm); (case kK => first | exact rfl | assumption); (case kd => ktr_room); (case ku => ktr_units)); (intro e_wz T_wz d_wz v_wz hfr_wz h_wz tk_wz F_wz N_wz; (try dsimp only); (try k_fold)))
  k_with "call ref" => (k_here; (with_reducible show wpAny _ _ (call (Value.ref 119) [Value.str _ _, Value.int _ _]) _ _ _); k_dflt (refine' ctr_useK (mk_fault_k _ _ _ _ _ 119 _ _ _ _ (exC119 _)) ?k1 ?k2 ?k3 ?k4 ?k5 ?kK ?kd ?ku ?_; (case k2 => k_asm); (case k4 => k_asm); (case k1 => k_asm); (case k3 => k_asm); (case k5 => k_asm); (case kK => first | exact rfl | assumption); (case kd => ktr_room); (case ku => ktr_units)); (intro e_wz T_wz d_wz v_wz hfr_wz h_wz tk_wz F_wz N_wz; (try dsimp only); (try k_fold)))
  trivial
theorem fault_c (w : World) (mean : ExcName → Option Value) (mg mb : Str → Option Value) (rest : CbLed) (wa dx : Nat) (x : WTok) (D : Array UInt8) (p : Int) (msg : Str) (tm : Tok) :
   Ctr w mean mg mb 8 549 [.ref wa, .str msg tm] (WL wa dx x D p rest) (fun r nx => ∃ e T d v, r = .ref e ∧ nx = (T, tupObj [v]) :: (e, eObjD 95 T d) :: WL wa dx x D p rest) False := by
  unfold Ctr
  k_fill
  intro dp un gd cn cs a ccd cl outer A₀ base h₀ L m s Q E B F X N T hk hdp hun hret hexc
  refine wpAny_call ?_
  k_dflt cell_enter
  k_steps
  exact hret _ _ _ _ (by assumption) (by assumption) ⟨_, _, _, _, rfl, rfl⟩
theorem fault_c_k (w : World) (mean : ExcName → Option Value) (mg mb : Str → Option Value) (rest : CbLed) (wa dx : Nat) (x : WTok) (D : Array UInt8) (p : Int) (msg : Str) (tm : Tok) :
   CtrK w mean mg mb 8 549 [.ref wa, .str msg tm] (WL wa dx x D p rest) (fun G => ∀ e T d v, G (.ref e) ((T, tupObj [v]) :: (e, eObjD 95 T d) :: WL wa dx x D p rest)) :=
  CtrK.of (fault_c w mean mg mb rest wa dx x D p msg tm) (by intro G k; rintro r nx ⟨e, T, d, v, rfl, rfl⟩; exact k _ _ _ _)
theorem say_PE_1 : True := by
  k_with "call ref" => (k_here; (with_reducible show wpAny _ _ (call (Value.ref 549) [Value.ref _, Value.str _ _]) _ _ _); k_dflt (refine' ctr_useK (fault_c_k _ _ _ _ _ _ _ _ _ _ _ _) ?k1 ?k2 ?k3 ?k4 ?k5 ?kK ?kd ?ku ?_; (case k2 => k_asm); (case k4 => k_asm); (case k1 => k_asm); (case k3 => k_asm); (case k5 => k_asm); (case kK => first | exact rfl | assumption); (case kd => ktr_room); (case ku => ktr_units)); (intro e_wz T_wz d_wz v_wz h_wz tk_wz F_wz N_wz; (try dsimp only); (try k_fold)))
  trivial
theorem ctr_useR {w : World} {mean : ExcName → Option Value} {mg mb : Str → Option Value} {rk : Nat} {f : Addr} {vs : List Value} {news : CbLed} (c : Ctr w mean mg mb rk f vs news (fun _ _ => False) True)
    {dp un : Nat} {gd : Option (List Code)} {cn : Str} {cs : Scope} {a : Addr} {ccd : Value} {cl : List (Str × Addr)} {outer : List Env} {A₀ : Around} {base h₀ : Heap} {L : Addr} {m : Str → Option Value} {s : Shared} {Q E : Value → Shared → Prop}
    (B : Below A₀ base outer h₀) (F : Fr h₀ L s.heap m) (X : (hd.heap_1_1 w.params).In h₀) (N : News h₀ L s.heap news)
    (T : Top hd.view_1_2 (looseW hd.view_1_2 [Str.ofString "PostError", Str.ofString "CHARSETS"]) mean mg mb h₀) (hk : cs.kind = .function)
    (hdp : dp + rk < recursionLimit) (hun : un + 8 * rk < cLine)
    (exc : ∀ e t vs C lg h' tk' g, Fr h₀ L g m → RaisedK base (envX cn cs L a ccd cl :: outer) e (.ref C) t vs lg h' → g.UpToSlots h' → (C = 95 ∨ C = 119) → E (.ref e) { s with heap := h', toks := tk' }) :
    wpAny (model PySem.Challenge.rw_nz0327_01.row.prog w) (ktrTop dp un gd cn cs L a ccd cl outer) (call (.ref f) vs) Q E s :=
  c dp un gd cn cs a ccd cl outer A₀ base h₀ L m s Q E B F X N T hk hdp hun (fun _ _ _ _ _ _ h => h.elim) fun e t vs C lg h' tk' g _ => exc e t vs C lg h' tk' g
theorem need_hit (w : World) (mean : ExcName → Option Value) (mg mb : Str → Option Value) (rest : CbLed) (wa dx : Nat) (x : WTok) (D : Array UInt8) (ks : List Int) (p : Int) (R : List Int) (c : UInt8) (ci : Int) (msg : Str) (tc tm : Tok)
    (hne : dx ≠ wa) (hr : ∀ q ∈ rest, q.1 ≠ dx) (hD : KBw.bInts D = ks) (hlen : ks.length ≤ 10000) (hat : At ks p (ci :: R)) (hci : (c.toNat : Int) = ci) :
   Ctr w mean mg mb 3 570 [.ref wa, .bytes #[c] tc, .str msg tm] (WL wa dx x D p rest) (fun r nx => r = .none ∧ At ks (p + 1) R ∧ ∃ x', nx = WL wa dx x' D (p + 1) rest) False := by
  unfold Ctr
  k_fill
  intro dp un gd cn cs a ccd cl outer A₀ base h₀ L m s Q E B F X N T hk hdp hun hret hexc
  refine wpAny_call ?_
  k_dflt cell_enter
  k_steps
  exact hret _ _ _ _ (by assumption) (by assumption) ⟨rfl, by assumption, _, rfl⟩
theorem need_hit_k (w : World) (mean : ExcName → Option Value) (mg mb : Str → Option Value) (rest : CbLed) (wa dx : Nat) (x : WTok) (D : Array UInt8) (ks : List Int) (p : Int) (R : List Int) (c : UInt8) (ci : Int) (msg : Str) (tc tm : Tok)
    (hne : dx ≠ wa) (hr : ∀ q ∈ rest, q.1 ≠ dx) (hD : KBw.bInts D = ks) (hlen : ks.length ≤ 10000) (hat : At ks p (ci :: R)) (hci : (c.toNat : Int) = ci) :
   CtrK w mean mg mb 3 570 [.ref wa, .bytes #[c] tc, .str msg tm] (WL wa dx x D p rest) (fun G => ∀ x', (At ks (p + 1) R) → G (.none) (WL wa dx x' D (p + 1) rest)) :=
  CtrK.of (need_hit w mean mg mb rest wa dx x D ks p R c ci msg tc tm hne hr hD hlen hat hci) (by intro G k; rintro r nx ⟨rfl, hc0, x', rfl⟩; exact k _ hc0)
theorem need_miss (w : World) (mean : ExcName → Option Value) (mg mb : Str → Option Value) (rest : CbLed) (wa dx : Nat) (x : WTok) (D : Array UInt8) (ks : List Int) (p : Int) (R : List Int) (c : UInt8) (ci : Int) (msg : Str) (tc tm : Tok)
    (hne : dx ≠ wa) (hr : ∀ q ∈ rest, q.1 ≠ dx) (hD : KBw.bInts D = ks) (hlen : ks.length ≤ 10000) (hat : At ks p R) (hm : R.head? ≠ some ci) (hci : (c.toNat : Int) = ci) :
   Ctr w mean mg mb 12 570 [.ref wa, .bytes #[c] tc, .str msg tm] (WL wa dx x D p rest) (fun _ _ => False) True := by
  unfold Ctr
  k_fill
  intro dp un gd cn cs a ccd cl outer A₀ base h₀ L m s Q E B F X N T hk hdp hun hret hexc
  refine wpAny_call ?_
  k_dflt cell_enter
  k_steps
  refine Hold.mk ?_
  refine exec_raise (exC95 w) rfl ?_
  k_steps
  refine raise_to (by k_asm) (by k_asm) (by k_asm) (.tail _ (.head _)) ?_
  k_steps
  exact hexc _ _ _ _ _ _ _ _ trivial (by assumption) (by assumption) (by assumption) (.inl rfl)
theorem say_PE_2 : True := by
  k_with "call ref" => (k_here; (with_reducible show wpAny _ _ (call (Value.ref 570) [Value.ref _, Value.bytes _ _, Value.str _ _]) _ _ _); k_dflt (refine' ctr_useK (need_hit_k _ _ _ _ _ _ _ _ _ _ _ _ _ _ _ _ _ ?p1 ?p2 ?p3 ?p4 ?p5 ?p6) ?k1 ?k2 ?k3 ?k4 ?k5 ?kK ?kd ?ku ?_; (case k2 => k_asm); (case k4 => k_asm); (case p1 => first | assumption | exact Ne.symm (by assumption) | omega); (case p2 => assumption); (case p3 => assumption); (case p4 => assumption); (case p5 => assumption); (case p6 => first | assumption | rfl); (case k1 => k_asm); (case k3 => k_asm); (case k5 => k_asm); (case kK => first | exact rfl | assumption); (case kd => ktr_room); (case ku => ktr_units)); (intro x_wz hat_wz h_wz tk_wz F_wz N_wz; (try dsimp only); (try k_fold)))
  k_with "call ref" => (k_here; (with_reducible show wpAny _ _ (call (Value.ref 570) [Value.ref _, Value.bytes _ _, Value.str _ _]) _ _ _); k_dflt (refine' ctr_useR (need_miss _ _ _ _ _ _ _ _ _ _ _ _ _ _ _ _ _ ?p1 ?p2 ?p3 ?p4 ?p5 ?p7 ?p6) ?k1 ?k2 ?k3 ?k4 ?k5 ?kK ?kd ?ku ?_; (case k2 => k_asm); (case k4 => k_asm); (case p1 => first | assumption | exact Ne.symm (by assumption) | omega); (case p2 => assumption); (case p3 => assumption); (case p4 => assumption); (case p5 => assumption); (case p6 => first | assumption | rfl); (case p7 => first | assumption | decide); (case k1 => k_asm); (case k3 => k_asm); (case k5 => k_asm); (case kK => first | exact rfl | assumption); (case kd => ktr_room); (case ku => ktr_units)); (intro e_wz t_wz vs_wz C_wz lg_wz h_wz tk_wz g_wz F_wz R_wz U_wz c_wz; (try dsimp only); (try k_fold)))
  trivial
theorem space_hit (w : World) (mean : ExcName → Option Value) (mg mb : Str → Option Value) (rest : CbLed) (wa dx : Nat) (x : WTok) (D : Array UInt8) (ks : List Int) (p : Int) (R : List Int)
    (hne : dx ≠ wa) (hr : ∀ q ∈ rest, q.1 ≠ dx) (hD : KBw.bInts D = ks) (hlen : ks.length ≤ 10000) (hat : At ks p (32 :: R)) :
   Ctr w mean mg mb 5 577 [.ref wa] (WL wa dx x D p rest) (fun r nx => r = .none ∧ At ks (p + 1) R ∧ ∃ x', nx = WL wa dx x' D (p + 1) rest) False := by
  unfold Ctr
  k_fill
  intro dp un gd cn cs a ccd cl outer A₀ base h₀ L m s Q E B F X N T hk hdp hun hret hexc
  refine wpAny_call ?_
  k_dflt cell_enter
  k_steps
  exact hret _ _ _ _ (by assumption) (by assumption) ⟨rfl, by assumption, _, rfl⟩
theorem space_hit_k (w : World) (mean : ExcName → Option Value) (mg mb : Str → Option Value) (rest : CbLed) (wa dx : Nat) (x : WTok) (D : Array UInt8) (ks : List Int) (p : Int) (R : List Int)
    (hne : dx ≠ wa) (hr : ∀ q ∈ rest, q.1 ≠ dx) (hD : KBw.bInts D = ks) (hlen : ks.length ≤ 10000) (hat : At ks p (32 :: R)) :
   CtrK w mean mg mb 5 577 [.ref wa] (WL wa dx x D p rest) (fun G => ∀ x', (At ks (p + 1) R) → G (.none) (WL wa dx x' D (p + 1) rest)) :=
  CtrK.of (space_hit w mean mg mb rest wa dx x D ks p R hne hr hD hlen hat) (by intro G k; rintro r nx ⟨rfl, hc0, x', rfl⟩; exact k _ hc0)
theorem space_miss (w : World) (mean : ExcName → Option Value) (mg mb : Str → Option Value) (rest : CbLed) (wa dx : Nat) (x : WTok) (D : Array UInt8) (ks : List Int) (p : Int) (R : List Int)
    (hne : dx ≠ wa) (hr : ∀ q ∈ rest, q.1 ≠ dx) (hD : KBw.bInts D = ks) (hlen : ks.length ≤ 10000) (hat : At ks p R) (hm : R.head? ≠ some 32) :
   Ctr w mean mg mb 14 577 [.ref wa] (WL wa dx x D p rest) (fun _ _ => False) True := by
  unfold Ctr
  k_fill
  intro dp un gd cn cs a ccd cl outer A₀ base h₀ L m s Q E B F X N T hk hdp hun hret hexc
  refine wpAny_call ?_
  k_dflt cell_enter
  k_steps
  exact hexc _ _ _ _ _ _ _ _ trivial (by assumption) (by assumption) (by assumption) (by assumption)
theorem say_PE_3 : True := by
  k_with "call ref" => (k_here; (with_reducible show wpAny _ _ (call (Value.ref 577) _) _ _ _); k_dflt (refine' ctr_useK (space_hit_k _ _ _ _ _ _ _ _ _ _ _ _ ?p1 ?p2 ?p3 ?p4 ?p5) ?k1 ?k2 ?k3 ?k4 ?k5 ?kK ?kd ?ku ?_; (case k2 => k_asm); (case k4 => k_asm); (case p1 => first | assumption | exact Ne.symm (by assumption) | omega); (case p2 => assumption); (case p3 => assumption); (case p4 => assumption); (case p5 => assumption); (case k1 => k_asm); (case k3 => k_asm); (case k5 => k_asm); (case kK => first | exact rfl | assumption); (case kd => ktr_room); (case ku => ktr_units)); (intro x_wz hat_wz h_wz tk_wz F_wz N_wz; (try dsimp only); (try k_fold)))
  k_with "call ref" => (k_here; (with_reducible show wpAny _ _ (call (Value.ref 577) _) _ _ _); k_dflt (refine' ctr_useR (space_miss _ _ _ _ _ _ _ _ _ _ _ _ ?p1 ?p2 ?p3 ?p4 ?p5 ?p7) ?k1 ?k2 ?k3 ?k4 ?k5 ?kK ?kd ?ku ?_; (case k2 => k_asm); (case k4 => k_asm); (case p1 => first | assumption | exact Ne.symm (by assumption) | omega); (case p2 => assumption); (case p3 => assumption); (case p4 => assumption); (case p5 => assumption); (case p7 => first | assumption | decide); (case k1 => k_asm); (case k3 => k_asm); (case k5 => k_asm); (case kK => first | exact rfl | assumption); (case kd => ktr_room); (case ku => ktr_units)); (intro e_wz t_wz vs_wz C_wz lg_wz h_wz tk_wz g_wz F_wz R_wz U_wz c_wz; (try dsimp only); (try k_fold)))
  trivial


theorem tidy_PF : True := by
  w_top off
  trivial
theorem At.peek {ks R : List Int} {p : Int} (h : At ks p R) : (p < (ks.length : Int) → ks.getD p.toNat 0 = R.headD (-1)) ∧ (¬ p < (ks.length : Int) → R.headD (-1) = -1) := by
  have hh := h.head
  obtain ⟨h0, h1, h2⟩ := h
  refine ⟨fun q => ?_, fun q => ?_⟩
  · rw [List.getElem?_eq_getElem (by omega)] at hh
    rw [List.getD_eq_getElem?_getD, List.getElem?_eq_getElem (by omega)]
    cases R with
    | nil => cases hh
    | cons c r => simpa using hh
  · rw [List.getElem?_eq_none (by omega)] at hh
    cases R with
    | nil => rfl
    | cons c r => cases hh
theorem peek_c (w : World) (mean : ExcName → Option Value) (mg mb : Str → Option Value) (rest : CbLed) (wa dx : Nat) (x : WTok) (D : Array UInt8) (ks : List Int) (p : Int) (R : List Int)
    (hne : dx ≠ wa) (hr : ∀ q ∈ rest, q.1 ≠ dx) (hD : KBw.bInts D = ks) (hlen : ks.length ≤ 10000) (hat : At ks p R) :
   Ctr w mean mg mb 1 556 [.ref wa] (WL wa dx x D p rest) (fun r nx => (∃ t, r = .int (R.headD (-1)) t) ∧ nx = WL wa dx x D p rest) False := by
  unfold Ctr
  k_fill
  intro dp un gd cn cs a ccd cl outer A₀ base h₀ L m s Q E B F X N T hk hdp hun hret hexc
  refine wpAny_call ?_
  k_dflt cell_enter
  have hp0 := hat.1
  have hp1 := hat.2.1
  k_steps
  · exact hret _ _ _ _ (by assumption) (by assumption) ⟨⟨_, congrArg (fun z => Value.int z _) (hat.peek.1 (by assumption))⟩, rfl⟩
  · exact hret _ _ _ _ (by assumption) (by assumption) ⟨⟨_, congrArg (fun z => Value.int z _) (hat.peek.2 (by omega)).symm⟩, rfl⟩
theorem peek_c_k (w : World) (mean : ExcName → Option Value) (mg mb : Str → Option Value) (rest : CbLed) (wa dx : Nat) (x : WTok) (D : Array UInt8) (ks : List Int) (p : Int) (R : List Int)
    (hne : dx ≠ wa) (hr : ∀ q ∈ rest, q.1 ≠ dx) (hD : KBw.bInts D = ks) (hlen : ks.length ≤ 10000) (hat : At ks p R) :
   CtrK w mean mg mb 1 556 [.ref wa] (WL wa dx x D p rest) (fun G => ∀ t, G (.int (R.headD (-1)) t) (WL wa dx x D p rest)) :=
  CtrK.of (peek_c w mean mg mb rest wa dx x D ks p R hne hr hD hlen hat) (by intro G k; rintro r nx ⟨⟨t, rfl⟩, rfl⟩; exact k _)
theorem say_PF_0 : True := by
  k_with "call ref" => (k_here; (with_reducible show wpAny _ _ (call (Value.ref 556) _) _ _ _); k_dflt (refine' ctr_useK (peek_c_k _ _ _ _ _ _ _ _ _ _ _ _ ?p1 ?p2 ?p3 ?p4 ?p5) ?k1 ?k2 ?k3 ?k4 ?k5 ?kK ?kd ?ku ?_; (case k2 => k_asm); (case k4 => k_asm); (case p1 => first | assumption | exact Ne.symm (by assumption) | omega); (case p2 => assumption); (case p3 => assumption); (case p4 => assumption); (case p5 => assumption); (case k1 => k_asm); (case k3 => k_asm); (case k5 => k_asm); (case kK => first | exact rfl | assumption); (case kd => ktr_room); (case ku => ktr_units)); (intro t_wz h_wz tk_wz F_wz N_wz; (try dsimp only [List.headD_cons, List.headD_nil]); (try k_fold)))
  trivial
theorem At.add {ks u v : List Int} {p : Int} (h : At ks p (u ++ v)) {i : Nat} (hi : i ≤ u.length) : At ks (p + i) (u.drop i ++ v) := by
  obtain ⟨h0, h1, h2⟩ := h
  have hl := congrArg List.length h2
  rw [List.length_drop, List.length_append] at hl
  refine ⟨by omega, by omega, ?_⟩
  have : (p + (i : Int)).toNat = p.toNat + i := by omega
  rw [this, ← List.drop_drop, h2, List.drop_append_of_le_length hi]
theorem At.turn {ks u v : List Int} {p : Int} {φ : Int → Bool} (h : At ks p (u ++ v)) (hu : ∀ c ∈ u, φ c = true) (hv : ∀ c, v.head? = some c → φ c = false) {i : Nat} (hi : i ≤ u.length) :
    (p + (i : Int) < (ks.length : Int) ∧ φ (ks.getD (p + i).toNat 0) = true) ↔ i < u.length := by
  have a := h.add hi
  have hk := a.head
  constructor
  · rintro ⟨q1, q2⟩
    rcases Nat.lt_or_ge i u.length with q | q
    · exact q
    · exfalso
      have e : i = u.length := by omega
      subst e
      rw [List.drop_length, List.nil_append] at hk
      rw [List.getElem?_eq_getElem (by have := a.1; omega)] at hk
      rw [List.getD_eq_getElem?_getD, List.getElem?_eq_getElem (by have := a.1; omega)] at q2
      have := hv _ hk.symm
      simp only [Option.getD_some] at q2
      rw [q2] at this
      cases this
  · intro q
    have hd : u.drop i = u[i] :: u.drop (i + 1) := List.drop_eq_getElem_cons q
    rw [hd] at hk
    have hlt : p + (i : Int) < (ks.length : Int) := by
      rcases Int.lt_or_le (p + i) ks.length with z | z
      · exact z
      · rw [List.getElem?_eq_none (by omega)] at hk; cases hk
    refine ⟨hlt, ?_⟩
    rw [List.getD_eq_getElem?_getD, hk]
    exact hu _ (List.getElem_mem q)
theorem pick_u {D : Array UInt8} {ks u v : List Int} {p : Int} (hD : KBw.bInts D = ks) (hat : At ks p (u ++ v)) : KBw.bInts (KBy.picked D (some p) (some (p + (u.length : Int)))) = u := by
  have hb := KBc.ints_picked hD (some p) (some (p + (u.length : Int)))
  simp only [Option.elim] at hb
  have ha := hat.add (Nat.le_refl u.length)
  rw [hb, clip_in hat.1 hat.2.1, clip_in ha.1 ha.2.1, hat.2.2]
  have : (p + (u.length : Int)).toNat - p.toNat = u.length := by have := hat.1; omega
  rw [this, List.take_left]
theorem At.end {ks u v : List Int} {p : Int} (h : At ks p (u ++ v)) : At ks (p + (u.length : Int)) v := by
  have := h.add (Nat.le_refl u.length)
  rwa [List.drop_length, List.nil_append] at this
theorem run_atom (w : World) (mean : ExcName → Option Value) (mg mb : Str → Option Value) (rest : CbLed) (wa dx : Nat) (x : WTok) (D : Array UInt8) (ks : List Int) (p : Int) (u v : List Int)
    (hne : dx ≠ wa) (hr : ∀ q ∈ rest, q.1 ≠ dx) (hD : KBw.bInts D = ks) (hlen : ks.length ≤ 10000) (hat : At ks p (u ++ v)) (hu : ∀ c ∈ u, isAtomB c = true) (hv : ∀ c, v.head? = some c → isAtomB c = false) :
   Ctr w mean mg mb 6 591 [.ref wa, .ref 492] (WL wa dx x D p rest) (fun r nx => ∃ U t x', r = .bytes U t ∧ KBw.bInts U = u ∧ At ks (p + u.length) v ∧ nx = WL wa dx x' D (p + u.length) rest) False := by
  unfold Ctr
  k_fill
  intro dp un gd cn cs a ccd cl outer A₀ base h₀ L m s Q E B F X N T hk hdp hun hret hexc
  refine wpAny_call ?_
  k_dflt cell_enter
  have hp0 := hat.1
  have hp1 := hat.2.1
  k_steps
  refine Hold.mk ?_
  rename Fr _ _ _ _ => F1
  rename News _ _ _ _ => N1
  k_dflt (refine ksw_while (σ := WTok × Nat) (fun c => WL wa dx c.1 D (p + c.2) rest) (fun _ => []) (fun _ => True) [] (fun c => c.2 ≤ u.length) (fun c => u.length - c.2) (x, 0) F1 ?_ trivial (fun _ h => nomatch h) (Nat.zero_le _) ?_)
  · have e : p + ((0 : Nat) : Int) = p := by omega
    rw [e]; exact N1
  intro c k h tk _ hP F2 N2
  obtain ⟨x2, i⟩ := c
  (try dsimp only at hP N2 ⊢)
  have ht := hat.turn hu hv hP
  have ha := hat.add hP
  have hq0 := ha.1
  have hq1 := ha.2.1
  k_steps
  · rename (isAtomB _ = true) => q
    have hlt := ht.mp ⟨by omega, q⟩
    rename News _ _ _ _ => N3
    obtain ⟨x3, N4⟩ := wl_pack N3
    have e : p + (i : Int) + 1 = p + ((i + 1 : Nat) : Int) := by omega
    rw [e] at N4
    rename Fr _ _ _ _ => F3
    exact ksw_end (x3, i + 1) F3 N4 (fun _ h => h) trivial (fun _ h => nomatch h) (fun _ _ _ => rfl) hlt (by show u.length - (i + 1) < u.length - i; omega)
  · rename (isAtomB _ = false) => q
    have e : i = u.length := by
      rcases Nat.lt_or_ge i u.length with z | z
      · have := (ht.mpr z).2
        rw [q] at this; cases this
      · have : i ≤ u.length := hP
        omega
    subst e
    exact hret _ _ _ _ (by assumption) (by assumption) ⟨_, _, _, rfl, pick_u hD hat, hat.end, rfl⟩
  · have e : i = u.length := by
      rcases Nat.lt_or_ge i u.length with z | z
      · have := (ht.mpr z).1
        omega
      · have : i ≤ u.length := hP
        omega
    subst e
    exact hret _ _ _ _ (by assumption) (by assumption) ⟨_, _, _, rfl, pick_u hD hat, hat.end, rfl⟩
theorem run_atom_k (w : World) (mean : ExcName → Option Value) (mg mb : Str → Option Value) (rest : CbLed) (wa dx : Nat) (x : WTok) (D : Array UInt8) (ks : List Int) (p : Int) (u v : List Int)
    (hne : dx ≠ wa) (hr : ∀ q ∈ rest, q.1 ≠ dx) (hD : KBw.bInts D = ks) (hlen : ks.length ≤ 10000) (hat : At ks p (u ++ v)) (hu : ∀ c ∈ u, isAtomB c = true) (hv : ∀ c, v.head? = some c → isAtomB c = false) :
   CtrK w mean mg mb 6 591 [.ref wa, .ref 492] (WL wa dx x D p rest) (fun G => ∀ U t x', (KBw.bInts U = u) → (At ks (p + u.length) v) → G (.bytes U t) (WL wa dx x' D (p + u.length) rest)) :=
  CtrK.of (run_atom w mean mg mb rest wa dx x D ks p u v hne hr hD hlen hat hu hv) (by intro G k; rintro r nx ⟨U, t, x', rfl, hc0, hc1, rfl⟩; exact k _ _ _ hc0 hc1)
theorem say_PF_1 : True := by
  k_with "call ref" => (k_here; (with_reducible show wpAny _ _ (call (Value.ref 591) [Value.ref _, Value.ref 492]) _ _ _); k_dflt (refine' ctr_useK (run_atom_k _ _ _ _ _ _ _ _ _ _ _ _ _ ?p1 ?p2 ?p3 ?p4 ?p5 ?p6 ?p7) ?k1 ?k2 ?k3 ?k4 ?k5 ?kK ?kd ?ku ?_; (case k2 => k_asm); (case k4 => k_asm); (case p1 => first | assumption | exact Ne.symm (by assumption) | omega); (case p2 => assumption); (case p3 => assumption); (case p4 => assumption); (case p5 => assumption); (case p6 => assumption); (case p7 => assumption); (case k1 => k_asm); (case k3 => k_asm); (case k5 => k_asm); (case kK => first | exact rfl | assumption); (case kd => ktr_room); (case ku => ktr_units)); (intro U_wz t_wz x_wz hU_wz hat_wz h_wz tk_wz F_wz N_wz; (try dsimp only); (try k_fold)))
  trivial
theorem run_ast (w : World) (mean : ExcName → Option Value) (mg mb : Str → Option Value) (rest : CbLed) (wa dx : Nat) (x : WTok) (D : Array UInt8) (ks : List Int) (p : Int) (u v : List Int)
    (hne : dx ≠ wa) (hr : ∀ q ∈ rest, q.1 ≠ dx) (hD : KBw.bInts D = ks) (hlen : ks.length ≤ 10000) (hat : At ks p (u ++ v)) (hu : ∀ c ∈ u, isAst c = true) (hv : ∀ c, v.head? = some c → isAst c = false) :
   Ctr w mean mg mb 8 591 [.ref wa, .ref 499] (WL wa dx x D p rest) (fun r nx => ∃ U t x', r = .bytes U t ∧ KBw.bInts U = u ∧ At ks (p + u.length) v ∧ nx = WL wa dx x' D (p + u.length) rest) False := by
  unfold Ctr
  k_fill
  intro dp un gd cn cs a ccd cl outer A₀ base h₀ L m s Q E B F X N T hk hdp hun hret hexc
  refine wpAny_call ?_
  k_dflt cell_enter
  have hp0 := hat.1
  have hp1 := hat.2.1
  k_steps
  refine Hold.mk ?_
  rename Fr _ _ _ _ => F1
  rename News _ _ _ _ => N1
  k_dflt (refine ksw_while (σ := WTok × Nat) (fun c => WL wa dx c.1 D (p + c.2) rest) (fun _ => []) (fun _ => True) [] (fun c => c.2 ≤ u.length) (fun c => u.length - c.2) (x, 0) F1 ?_ trivial (fun _ h => nomatch h) (Nat.zero_le _) ?_)
  · have e : p + ((0 : Nat) : Int) = p := by omega
    rw [e]; exact N1
  intro c k h tk _ hP F2 N2
  obtain ⟨x2, i⟩ := c
  (try dsimp only at hP N2 ⊢)
  have ht := hat.turn hu hv hP
  have ha := hat.add hP
  have hq0 := ha.1
  have hq1 := ha.2.1
  k_steps
  · rename (isAst _ = true) => q
    have hlt := ht.mp ⟨by omega, q⟩
    rename News _ _ _ _ => N3
    obtain ⟨x3, N4⟩ := wl_pack N3
    have e : p + (i : Int) + 1 = p + ((i + 1 : Nat) : Int) := by omega
    rw [e] at N4
    rename Fr _ _ _ _ => F3
    exact ksw_end (x3, i + 1) F3 N4 (fun _ h => h) trivial (fun _ h => nomatch h) (fun _ _ _ => rfl) hlt (by show u.length - (i + 1) < u.length - i; omega)
  · rename (isAst _ = false) => q
    have e : i = u.length := by
      rcases Nat.lt_or_ge i u.length with z | z
      · have := (ht.mpr z).2
        rw [q] at this; cases this
      · have : i ≤ u.length := hP
        omega
    subst e
    exact hret _ _ _ _ (by assumption) (by assumption) ⟨_, _, _, rfl, pick_u hD hat, hat.end, rfl⟩
  · have e : i = u.length := by
      rcases Nat.lt_or_ge i u.length with z | z
      · have := (ht.mpr z).1
        omega
      · have : i ≤ u.length := hP
        omega
    subst e
    exact hret _ _ _ _ (by assumption) (by assumption) ⟨_, _, _, rfl, pick_u hD hat, hat.end, rfl⟩
theorem run_ast_k (w : World) (mean : ExcName → Option Value) (mg mb : Str → Option Value) (rest : CbLed) (wa dx : Nat) (x : WTok) (D : Array UInt8) (ks : List Int) (p : Int) (u v : List Int)
    (hne : dx ≠ wa) (hr : ∀ q ∈ rest, q.1 ≠ dx) (hD : KBw.bInts D = ks) (hlen : ks.length ≤ 10000) (hat : At ks p (u ++ v)) (hu : ∀ c ∈ u, isAst c = true) (hv : ∀ c, v.head? = some c → isAst c = false) :
   CtrK w mean mg mb 8 591 [.ref wa, .ref 499] (WL wa dx x D p rest) (fun G => ∀ U t x', (KBw.bInts U = u) → (At ks (p + u.length) v) → G (.bytes U t) (WL wa dx x' D (p + u.length) rest)) :=
  CtrK.of (run_ast w mean mg mb rest wa dx x D ks p u v hne hr hD hlen hat hu hv) (by intro G k; rintro r nx ⟨U, t, x', rfl, hc0, hc1, rfl⟩; exact k _ _ _ hc0 hc1)
theorem say_PF_2 : True := by
  k_with "call ref" => (k_here; (with_reducible show wpAny _ _ (call (Value.ref 591) [Value.ref _, Value.ref 499]) _ _ _); k_dflt (refine' ctr_useK (run_ast_k _ _ _ _ _ _ _ _ _ _ _ _ _ ?p1 ?p2 ?p3 ?p4 ?p5 ?p6 ?p7) ?k1 ?k2 ?k3 ?k4 ?k5 ?kK ?kd ?ku ?_; (case k2 => k_asm); (case k4 => k_asm); (case p1 => first | assumption | exact Ne.symm (by assumption) | omega); (case p2 => assumption); (case p3 => assumption); (case p4 => assumption); (case p5 => assumption); (case p6 => assumption); (case p7 => assumption); (case k1 => k_asm); (case k3 => k_asm); (case k5 => k_asm); (case kK => first | exact rfl | assumption); (case kd => ktr_room); (case ku => ktr_units)); (intro U_wz t_wz x_wz hU_wz hat_wz h_wz tk_wz F_wz N_wz; (try dsimp only); (try k_fold)))
  trivial
theorem run_set (w : World) (mean : ExcName → Option Value) (mg mb : Str → Option Value) (rest : CbLed) (wa dx : Nat) (x : WTok) (D : Array UInt8) (ks : List Int) (p : Int) (u v : List Int)
    (hne : dx ≠ wa) (hr : ∀ q ∈ rest, q.1 ≠ dx) (hD : KBw.bInts D = ks) (hlen : ks.length ≤ 10000) (hat : At ks p (u ++ v)) (hu : ∀ c ∈ u, isSetB c = true) (hv : ∀ c, v.head? = some c → isSetB c = false) :
   Ctr w mean mg mb 6 591 [.ref wa, .ref 513] (WL wa dx x D p rest) (fun r nx => ∃ U t x', r = .bytes U t ∧ KBw.bInts U = u ∧ At ks (p + u.length) v ∧ nx = WL wa dx x' D (p + u.length) rest) False := by
  unfold Ctr
  k_fill
  intro dp un gd cn cs a ccd cl outer A₀ base h₀ L m s Q E B F X N T hk hdp hun hret hexc
  refine wpAny_call ?_
  k_dflt cell_enter
  have hp0 := hat.1
  have hp1 := hat.2.1
  k_steps
  refine Hold.mk ?_
  rename Fr _ _ _ _ => F1
  rename News _ _ _ _ => N1
  k_dflt (refine ksw_while (σ := WTok × Nat) (fun c => WL wa dx c.1 D (p + c.2) rest) (fun _ => []) (fun _ => True) [] (fun c => c.2 ≤ u.length) (fun c => u.length - c.2) (x, 0) F1 ?_ trivial (fun _ h => nomatch h) (Nat.zero_le _) ?_)
  · have e : p + ((0 : Nat) : Int) = p := by omega
    rw [e]; exact N1
  intro c k h tk _ hP F2 N2
  obtain ⟨x2, i⟩ := c
  (try dsimp only at hP N2 ⊢)
  have ht := hat.turn hu hv hP
  have ha := hat.add hP
  have hq0 := ha.1
  have hq1 := ha.2.1
  k_steps
  · rename (isSetB _ = true) => q
    have hlt := ht.mp ⟨by omega, q⟩
    rename News _ _ _ _ => N3
    obtain ⟨x3, N4⟩ := wl_pack N3
    have e : p + (i : Int) + 1 = p + ((i + 1 : Nat) : Int) := by omega
    rw [e] at N4
    rename Fr _ _ _ _ => F3
    exact ksw_end (x3, i + 1) F3 N4 (fun _ h => h) trivial (fun _ h => nomatch h) (fun _ _ _ => rfl) hlt (by show u.length - (i + 1) < u.length - i; omega)
  · rename (isSetB _ = false) => q
    have e : i = u.length := by
      rcases Nat.lt_or_ge i u.length with z | z
      · have := (ht.mpr z).2
        rw [q] at this; cases this
      · have : i ≤ u.length := hP
        omega
    subst e
    exact hret _ _ _ _ (by assumption) (by assumption) ⟨_, _, _, rfl, pick_u hD hat, hat.end, rfl⟩
  · have e : i = u.length := by
      rcases Nat.lt_or_ge i u.length with z | z
      · have := (ht.mpr z).1
        omega
      · have : i ≤ u.length := hP
        omega
    subst e
    exact hret _ _ _ _ (by assumption) (by assumption) ⟨_, _, _, rfl, pick_u hD hat, hat.end, rfl⟩
theorem run_set_k (w : World) (mean : ExcName → Option Value) (mg mb : Str → Option Value) (rest : CbLed) (wa dx : Nat) (x : WTok) (D : Array UInt8) (ks : List Int) (p : Int) (u v : List Int)
    (hne : dx ≠ wa) (hr : ∀ q ∈ rest, q.1 ≠ dx) (hD : KBw.bInts D = ks) (hlen : ks.length ≤ 10000) (hat : At ks p (u ++ v)) (hu : ∀ c ∈ u, isSetB c = true) (hv : ∀ c, v.head? = some c → isSetB c = false) :
   CtrK w mean mg mb 6 591 [.ref wa, .ref 513] (WL wa dx x D p rest) (fun G => ∀ U t x', (KBw.bInts U = u) → (At ks (p + u.length) v) → G (.bytes U t) (WL wa dx x' D (p + u.length) rest)) :=
  CtrK.of (run_set w mean mg mb rest wa dx x D ks p u v hne hr hD hlen hat hu hv) (by intro G k; rintro r nx ⟨U, t, x', rfl, hc0, hc1, rfl⟩; exact k _ _ _ hc0 hc1)
theorem say_PF_3 : True := by
  k_with "call ref" => (k_here; (with_reducible show wpAny _ _ (call (Value.ref 591) [Value.ref _, Value.ref 513]) _ _ _); k_dflt (refine' ctr_useK (run_set_k _ _ _ _ _ _ _ _ _ _ _ _ _ ?p1 ?p2 ?p3 ?p4 ?p5 ?p6 ?p7) ?k1 ?k2 ?k3 ?k4 ?k5 ?kK ?kd ?ku ?_; (case k2 => k_asm); (case k4 => k_asm); (case p1 => first | assumption | exact Ne.symm (by assumption) | omega); (case p2 => assumption); (case p3 => assumption); (case p4 => assumption); (case p5 => assumption); (case p6 => assumption); (case p7 => assumption); (case k1 => k_asm); (case k3 => k_asm); (case k5 => k_asm); (case kK => first | exact rfl | assumption); (case kd => ktr_room); (case ku => ktr_units)); (intro U_wz t_wz x_wz hU_wz hat_wz h_wz tk_wz F_wz N_wz; (try dsimp only); (try k_fold)))
  trivial
theorem run_let (w : World) (mean : ExcName → Option Value) (mg mb : Str → Option Value) (rest : CbLed) (wa dx : Nat) (x : WTok) (D : Array UInt8) (ks : List Int) (p : Int) (u v : List Int)
    (hne : dx ≠ wa) (hr : ∀ q ∈ rest, q.1 ≠ dx) (hD : KBw.bInts D = ks) (hlen : ks.length ≤ 10000) (hat : At ks p (u ++ v)) (hu : ∀ c ∈ u, isLet c = true) (hv : ∀ c, v.head? = some c → isLet c = false) :
   Ctr w mean mg mb 6 591 [.ref wa, .ref 326] (WL wa dx x D p rest) (fun r nx => ∃ U t x', r = .bytes U t ∧ KBw.bInts U = u ∧ At ks (p + u.length) v ∧ nx = WL wa dx x' D (p + u.length) rest) False := by
  unfold Ctr
  k_fill
  intro dp un gd cn cs a ccd cl outer A₀ base h₀ L m s Q E B F X N T hk hdp hun hret hexc
  refine wpAny_call ?_
  k_dflt cell_enter
  have hp0 := hat.1
  have hp1 := hat.2.1
  k_steps
  refine Hold.mk ?_
  rename Fr _ _ _ _ => F1
  rename News _ _ _ _ => N1
  k_dflt (refine ksw_while (σ := WTok × Nat) (fun c => WL wa dx c.1 D (p + c.2) rest) (fun _ => []) (fun _ => True) [] (fun c => c.2 ≤ u.length) (fun c => u.length - c.2) (x, 0) F1 ?_ trivial (fun _ h => nomatch h) (Nat.zero_le _) ?_)
  · have e : p + ((0 : Nat) : Int) = p := by omega
    rw [e]; exact N1
  intro c k h tk _ hP F2 N2
  obtain ⟨x2, i⟩ := c
  (try dsimp only at hP N2 ⊢)
  have ht := hat.turn hu hv hP
  have ha := hat.add hP
  have hq0 := ha.1
  have hq1 := ha.2.1
  k_steps
  · rename (isLet _ = true) => q
    have hlt := ht.mp ⟨by omega, q⟩
    rename News _ _ _ _ => N3
    obtain ⟨x3, N4⟩ := wl_pack N3
    have e : p + (i : Int) + 1 = p + ((i + 1 : Nat) : Int) := by omega
    rw [e] at N4
    rename Fr _ _ _ _ => F3
    exact ksw_end (x3, i + 1) F3 N4 (fun _ h => h) trivial (fun _ h => nomatch h) (fun _ _ _ => rfl) hlt (by show u.length - (i + 1) < u.length - i; omega)
  · rename (isLet _ = false) => q
    have e : i = u.length := by
      rcases Nat.lt_or_ge i u.length with z | z
      · have := (ht.mpr z).2
        rw [q] at this; cases this
      · have : i ≤ u.length := hP
        omega
    subst e
    exact hret _ _ _ _ (by assumption) (by assumption) ⟨_, _, _, rfl, pick_u hD hat, hat.end, rfl⟩
  · have e : i = u.length := by
      rcases Nat.lt_or_ge i u.length with z | z
      · have := (ht.mpr z).1
        omega
      · have : i ≤ u.length := hP
        omega
    subst e
    exact hret _ _ _ _ (by assumption) (by assumption) ⟨_, _, _, rfl, pick_u hD hat, hat.end, rfl⟩
theorem run_let_k (w : World) (mean : ExcName → Option Value) (mg mb : Str → Option Value) (rest : CbLed) (wa dx : Nat) (x : WTok) (D : Array UInt8) (ks : List Int) (p : Int) (u v : List Int)
    (hne : dx ≠ wa) (hr : ∀ q ∈ rest, q.1 ≠ dx) (hD : KBw.bInts D = ks) (hlen : ks.length ≤ 10000) (hat : At ks p (u ++ v)) (hu : ∀ c ∈ u, isLet c = true) (hv : ∀ c, v.head? = some c → isLet c = false) :
   CtrK w mean mg mb 6 591 [.ref wa, .ref 326] (WL wa dx x D p rest) (fun G => ∀ U t x', (KBw.bInts U = u) → (At ks (p + u.length) v) → G (.bytes U t) (WL wa dx x' D (p + u.length) rest)) :=
  CtrK.of (run_let w mean mg mb rest wa dx x D ks p u v hne hr hD hlen hat hu hv) (by intro G k; rintro r nx ⟨U, t, x', rfl, hc0, hc1, rfl⟩; exact k _ _ _ hc0 hc1)
theorem say_PF_4 : True := by
  k_with "call ref" => (k_here; (with_reducible show wpAny _ _ (call (Value.ref 591) [Value.ref _, Value.ref 326]) _ _ _); k_dflt (refine' ctr_useK (run_let_k _ _ _ _ _ _ _ _ _ _ _ _ _ ?p1 ?p2 ?p3 ?p4 ?p5 ?p6 ?p7) ?k1 ?k2 ?k3 ?k4 ?k5 ?kK ?kd ?ku ?_; (case k2 => k_asm); (case k4 => k_asm); (case p1 => first | assumption | exact Ne.symm (by assumption) | omega); (case p2 => assumption); (case p3 => assumption); (case p4 => assumption); (case p5 => assumption); (case p6 => assumption); (case p7 => assumption); (case k1 => k_asm); (case k3 => k_asm); (case k5 => k_asm); (case kK => first | exact rfl | assumption); (case kd => ktr_room); (case ku => ktr_units)); (intro U_wz t_wz x_wz hU_wz hat_wz h_wz tk_wz F_wz N_wz; (try dsimp only); (try k_fold)))
  trivial


theorem tidy_PG : True := by
  w_top off
  trivial
theorem atom_lt {u : List Int} (hu : ∀ c ∈ u, isAtomB c = true) : ∀ c ∈ u, 0 ≤ c ∧ c < 128 := by
  intro c hc
  have h := hu c hc
  rw [isAtomB, isPr, Bool.and_eq_true, Bool.and_eq_true, decide_eq_true_iff, decide_eq_true_iff] at h
  omega
theorem size_ints {U : Array UInt8} {u : List Int} (h : KBw.bInts U = u) : U.size = u.length := by rw [← h]; exact (KBw.ints_length U).symm
theorem say_PG_0 : True := by
  k_with "call ref" => (k_here; (with_reducible show wpAny _ _ (call (Value.ref 148) [Value.bytes _ _]) _ _ _); k_dflt (refine' ctr_useK (asc_c_k _ _ _ _ _ _ _ _ ?p1 ?p2 ?p3) ?k1 ?k2 ?k3 ?k4 ?k5 ?kK ?kd ?ku ?_; (case k2 => k_asm); (case k4 => k_asm); (case p1 => assumption); (case p2 => assumption); (case p3 => assumption); (case k1 => k_asm); (case k3 => k_asm); (case k5 => k_asm); (case kK => first | exact rfl | assumption); (case kd => ktr_room); (case ku => ktr_units)); (intro t_wz h_wz tk_wz F_wz N_wz; (try dsimp only); (try k_fold)))
  k_with "call ref" => (k_here; (with_reducible show wpAny _ _ (call (Value.ref 143) [Value.str _ _]) _ _ _); k_dflt (refine' ctr_useK (up_c_k _ _ _ _ _ _ _ ?p1 ?p2) ?k1 ?k2 ?k3 ?k4 ?k5 ?kK ?kd ?ku ?_; (case k2 => k_asm); (case k4 => k_asm); (case p1 => assumption); (case p2 => assumption); (case k1 => k_asm); (case k3 => k_asm); (case k5 => k_asm); (case kK => first | exact rfl | assumption); (case kd => ktr_room); (case ku => ktr_units)); (intro t_wz h_wz tk_wz F_wz N_wz; (try dsimp only); (try k_fold)))
  k_with "call ref" => (k_here; (with_reducible show wpAny _ _ (call (Value.ref 138) [Value.str _ _]) _ _ _); k_dflt (refine' ctr_useK (low_c_k _ _ _ _ _ _ _ ?p1 ?p2) ?k1 ?k2 ?k3 ?k4 ?k5 ?kK ?kd ?ku ?_; (case k2 => k_asm); (case k4 => k_asm); (case p1 => assumption); (case p2 => assumption); (case k1 => k_asm); (case k3 => k_asm); (case k5 => k_asm); (case kK => first | exact rfl | assumption); (case kd => ktr_room); (case ku => ktr_units)); (intro t_wz h_wz tk_wz F_wz N_wz; (try dsimp only); (try k_fold)))
  trivial
theorem atomw_c (w : World) (mean : ExcName → Option Value) (mg mb : Str → Option Value) (rest : CbLed) (wa dx : Nat) (x : WTok) (D : Array UInt8) (ks : List Int) (p : Int) (u v : List Int)
    (hne : dx ≠ wa) (hr : ∀ q ∈ rest, q.1 ≠ dx) (hD : KBw.bInts D = ks) (hlen : ks.length ≤ 10000) (hat : At ks p (u ++ v)) (hne0 : u ≠ []) (hu : ∀ c ∈ u, isAtomB c = true) (hv : ∀ c, v.head? = some c → isAtomB c = false) :
   Ctr w mean mg mb 10 605 [.ref wa] (WL wa dx x D p rest) (fun r nx => ∃ t x', r = .str (strOf u) t ∧ At ks (p + u.length) v ∧ nx = WL wa dx x' D (p + u.length) rest) False := by
  unfold Ctr
  k_fill
  intro dp un gd cn cs a ccd cl outer A₀ base h₀ L m s Q E B F X N T hk hdp hun hret hexc
  refine wpAny_call ?_
  k_dflt cell_enter
  have hlt := atom_lt hu
  have hul : u.length ≤ 10000 := by
    have := hat.add (Nat.le_refl u.length)
    have h1 := this.2.1
    have h0 := hat.1
    omega
  have hu0 : 0 < u.length := List.length_pos_iff.mpr hne0
  k_steps
  · exfalso
    omega
  · exact hret _ _ _ _ (by assumption) (by assumption) ⟨_, _, rfl, by assumption, rfl⟩
theorem atomw_c_k (w : World) (mean : ExcName → Option Value) (mg mb : Str → Option Value) (rest : CbLed) (wa dx : Nat) (x : WTok) (D : Array UInt8) (ks : List Int) (p : Int) (u v : List Int)
    (hne : dx ≠ wa) (hr : ∀ q ∈ rest, q.1 ≠ dx) (hD : KBw.bInts D = ks) (hlen : ks.length ≤ 10000) (hat : At ks p (u ++ v)) (hne0 : u ≠ []) (hu : ∀ c ∈ u, isAtomB c = true) (hv : ∀ c, v.head? = some c → isAtomB c = false) :
   CtrK w mean mg mb 10 605 [.ref wa] (WL wa dx x D p rest) (fun G => ∀ t x', (At ks (p + u.length) v) → G (.str (strOf u) t) (WL wa dx x' D (p + u.length) rest)) :=
  CtrK.of (atomw_c w mean mg mb rest wa dx x D ks p u v hne hr hD hlen hat hne0 hu hv) (by intro G k; rintro r nx ⟨t, x', rfl, hc0, rfl⟩; exact k _ _ hc0)
theorem say_PG_1 : True := by
  k_with "call ref" => (k_here; (with_reducible show wpAny _ _ (call (Value.ref 605) _) _ _ _); k_dflt (refine' ctr_useK (atomw_c_k _ _ _ _ _ _ _ _ _ _ _ _ _ ?p1 ?p2 ?p3 ?p4 ?p5 ?p8 ?p6 ?p7) ?k1 ?k2 ?k3 ?k4 ?k5 ?kK ?kd ?ku ?_; (case k2 => k_asm); (case k4 => k_asm); (case p1 => first | assumption | exact Ne.symm (by assumption) | omega); (case p2 => assumption); (case p3 => assumption); (case p4 => assumption); (case p5 => assumption); (case p8 => assumption); (case p6 => assumption); (case p7 => assumption); (case k1 => k_asm); (case k3 => k_asm); (case k5 => k_asm); (case kK => first | exact rfl | assumption); (case kd => ktr_room); (case ku => ktr_units)); (intro t_wz x_wz hat_wz h_wz tk_wz F_wz N_wz; (try dsimp only); (try k_fold)))
  trivial
theorem strOf_size (u : List Int) : (strOf u).cps.size = u.length := by
  show ((u.map Int.toNat).toArray).size = _
  rw [List.size_toArray, List.length_map]
theorem strOf_lt {u : List Int} (h : ∀ c ∈ u, 0 ≤ c ∧ c < 128) : ∀ c ∈ (strOf u).cps.toList, c < 128 := by
  intro c hc
  have hc' : c ∈ u.map Int.toNat := hc
  obtain ⟨a, ha, rfl⟩ := List.mem_map.mp hc'
  have := h a ha
  omega
noncomputable abbrev CtrC (w : World) (mean : ExcName → Option Value) (mg mb : Str → Option Value) (rk : Nat) (f : Addr) (vs : List Value) (news : CbLed) (P : Value → CbLed → Prop) (R : Prop) : Prop :=
  ∀ (dp un : Nat) (gd : Option (List Code)) (cn : Str) (cs : Scope) (a : Addr) (ccd : Value) (cl : List (Str × Addr)) (outer : List Env) (A₀ : Around) (base h₀ : Heap) (L : Addr) (m : Str → Option Value) (s : Shared) (Q E : Value → Shared → Prop),
    Below A₀ base outer h₀ → Fr h₀ L s.heap m → (hd.heap_1_1 w.params).In h₀ → News h₀ L s.heap news →
    Top hd.view_1_2 (looseW hd.view_1_2 [Str.ofString "PostError", Str.ofString "CHARSETS"]) mean mg mb h₀ → cs.kind = .function →
    dp + rk < recursionLimit → un + 8 * rk < cLine →
    (∀ r nx h' tk', Fr h₀ L h' m → News h₀ L h' nx → P r nx → Q r { s with heap := h', toks := tk' }) →
    (∀ e t vs C lg h' tk' g, R → Fr h₀ L g m → RaisedK base (envX cn cs L a ccd cl :: outer) e (.ref C) t vs lg h' → g.UpToSlots h' → (C = 95 ∨ C = 119) → E (.ref e) { s with heap := h', toks := tk' }) →
    codeAny (model PySem.Challenge.rw_nz0327_01.row.prog w) (ktrTop dp un gd cn cs L a ccd cl outer) (.call (.ref f) ⟨vs, []⟩) (fun r s' => match r with | .ok (.ret v) => Q v s' | .ok _ => False | .error e => E e s') s
theorem meth_use {w : World} {mean : ExcName → Option Value} {mg mb : Str → Option Value} {rk : Nat} {f q : Addr} {self : Value} {vs : List Value} {news : CbLed} {P : Value → CbLed → Prop} (c : CtrC w mean mg mb rk f (self :: vs) news P False)
    {dp un : Nat} {gd : Option (List Code)} {cn : Str} {cs : Scope} {a : Addr} {ccd : Value} {cl : List (Str × Addr)} {outer : List Env} {A₀ : Around} {base h₀ : Heap} {L : Addr} {m : Str → Option Value} {s : Shared} {Q E : Value → Shared → Prop}
    (B : Below A₀ base outer h₀) (F : Fr h₀ L s.heap m) (X : (hd.heap_1_1 w.params).In h₀) (N : News h₀ L s.heap news) (hq : (q, methodObj (.ref f) self) ∈ news)
    (T : Top hd.view_1_2 (looseW hd.view_1_2 [Str.ofString "PostError", Str.ofString "CHARSETS"]) mean mg mb h₀) (hk : cs.kind = .function)
    (hdp : dp + rk < recursionLimit) (hun : un + 8 * rk < cLine)
    (ret : ∀ r nx h' tk', Fr h₀ L h' m → News h₀ L h' nx → P r nx → Q r { s with heap := h', toks := tk' }) :
    wpAny (model PySem.Challenge.rw_nz0327_01.row.prog w) (ktrTop dp un gd cn cs L a ccd cl outer) (call (.ref q) vs) Q E s :=
  call_meth N hq (c dp un gd cn cs a ccd cl outer A₀ base h₀ L m s Q E B F X N T hk hdp hun ret fun _ _ _ _ _ _ _ _ h => h.elim)
theorem word_cc (w : World) (mean : ExcName → Option Value) (mg mb : Str → Option Value) (rest : CbLed) (wa dx : Nat) (x : WTok) (D : Array UInt8) (ks : List Int) (p : Int) (u v : List Int)
    (hne : dx ≠ wa) (hr : ∀ q ∈ rest, q.1 ≠ dx) (hD : KBw.bInts D = ks) (hlen : ks.length ≤ 10000) (hat : At ks p (u ++ v)) (hne0 : u ≠ []) (hu : ∀ c ∈ u, isAtomB c = true) (hv : ∀ c, v.head? = some c → isAtomB c = false) :
   CtrC w mean mg mb 12 612 [.ref wa] (WL wa dx x D p rest) (fun r nx => ∃ t x', r = .str (upS (strOf u)) t ∧ At ks (p + u.length) v ∧ nx = WL wa dx x' D (p + u.length) rest) False := by
  unfold CtrC
  k_fill
  intro dp un gd cn cs a ccd cl outer A₀ base h₀ L m s Q E B F X N T hk hdp hun hret hexc
  k_dflt cell_enter
  have hlt := atom_lt hu
  have hul : (strOf u).cps.size ≤ 10000 := by
    have := hat.add (Nat.le_refl u.length)
    have h1 := this.2.1
    have h0 := hat.1
    rw [strOf_size]
    omega
  have hsl := strOf_lt hlt
  k_steps
  exact hret _ _ _ _ (by assumption) (by assumption) ⟨_, _, rfl, by assumption, rfl⟩


theorem tidy_PH : True := by
  w_top off
  trivial
noncomputable def tailW : List (List Int) → List Int
  | [] => []
  | u :: us => 32 :: (u ++ tailW us)
noncomputable def encW : List (List Int) → List Int
  | [] => []
  | u :: us => u ++ tailW us
theorem newListW {M : Model} {A : Around} {E : Value → Shared → Prop} {s : Shared} {h₀ : Heap} {L : Addr} {m : Str → Option Value} {wa dx : Nat} {x : WTok} {D : Array UInt8} {p : Int} {rest : CbLed} {vs : List Value} {Q : Value → Shared → Prop}
    (F : Fr h₀ L s.heap m) (N : News h₀ L s.heap (WL wa dx x D p rest)) (hr : ∀ q ∈ rest, q.1 ≠ dx) (hsz : vs.length ≤ 1000)
    (h : ∀ (l : Nat) h', Fr h₀ L h' m → News h₀ L h' (WL wa dx x D p ((l, listOf vs.toArray 0) :: rest)) → wa < l → dx < l → (∀ q ∈ rest, q.1 ≠ l) → (∀ q ∈ (l, listOf vs.toArray 0) :: rest, q.1 ≠ dx) → Q (.ref l) { s with heap := h' }) :
    wpAny M A (newList vs) Q E s := by
  refine newList_K F N (fun l h' F' N' hl => ?_) (by rw [sizeLine_eq]; omega)
  have h1 : wa < l := hl _ (.head _)
  have h2 : dx < l := hl _ (.tail _ (.head _))
  refine h l h' F' (fun q hq => N' q ?_) h1 h2 (fun q hq => Nat.ne_of_lt (hl _ (.tail _ (.tail _ hq)))) fun q hq => ?_
  · rcases List.mem_cons.mp hq with rfl | hq
    · exact .tail _ (.head _)
    rcases List.mem_cons.mp hq with rfl | hq
    · exact .tail _ (.tail _ (.head _))
    rcases List.mem_cons.mp hq with rfl | hq
    · exact .head _
    · exact .tail _ (.tail _ (.tail _ hq))
  · rcases List.mem_cons.mp hq with rfl | hq
    · exact Nat.ne_of_gt h2
    · exact hr q hq
theorem say_PH_0 : True := by
  k_with "newList" => (k_here; k_dflt (refine' newListW ?F ?N ?r ?z ?_; (case F => k_asm); (case N => k_asm); (case r => assumption); (case z => exact Nat.le_of_ble_eq_true rfl); k_whole); intro l_wz h_wz F_wz N_wz l1_wz l2_wz l3_wz l4_wz)
  trivial
theorem list0_c (w : World) (mean : ExcName → Option Value) (mg mb : Str → Option Value) (rest : CbLed) (wa dx : Nat) (x : WTok) (D : Array UInt8) (ks : List Int) (p : Int) (v : List Int) (q : Nat)
    (hne : dx ≠ wa) (hr : ∀ q ∈ rest, q.1 ≠ dx) (hD : KBw.bInts D = ks) (hlen : ks.length ≤ 10000) (hat : At ks p (40 :: 41 :: v)) :
   Ctr w mean mg mb 16 696 [.ref wa, .ref q] (WL wa dx x D p rest) (fun r nx => ∃ l x', r = .ref l ∧ At ks (p + 1 + 1) v ∧ nx = WL wa dx x' D (p + 1 + 1) ((l, listOf #[] 0) :: rest)) False := by
  unfold Ctr
  k_fill
  intro dp un gd cn cs a ccd cl outer A₀ base h₀ L m s Q E B F X N T hk hdp hun hret hexc
  refine wpAny_call ?_
  k_dflt cell_enter
  k_steps
  exact hret _ _ _ _ (by assumption) (by assumption) ⟨_, _, rfl, by assumption, rfl⟩
theorem say_PH_1 : True := by
  k_with "methW" => (k_here; k_dflt (refine' meth_use (word_cc _ _ _ _ _ _ _ _ _ _ _ _ _ ?p1 ?p2 ?p3 ?p4 ?p5 ?p8 ?p6 ?p7) ?k1 ?k2 ?k3 ?k4 ?kq ?k5 ?kK ?kd ?ku ?_; (case k2 => k_asm); (case k4 => k_asm); (case kq => k_mem); (case p1 => first | assumption | exact Ne.symm (by assumption) | omega); (case p2 => assumption); (case p3 => assumption); (case p4 => assumption); (case p5 => assumption); (case p8 => assumption); (case p6 => assumption); (case p7 => assumption); (case k1 => k_asm); (case k3 => k_asm); (case k5 => k_asm); (case kK => first | exact rfl | assumption); (case kd => ktr_room); (case ku => ktr_units)))
  trivial
section PartH
  local macro_rules | `(tactic| k_mem) => `(tactic| assumption)
  local macro_rules | `(tactic| walk_at "call ref") => `(tactic| (k_extra "methW"; (intro r' n' h' tk' F' N' P'; obtain ⟨t', x', e2, hat', e1⟩ := P'; replace e1 := e1.symm; subst e1; subst e2; (try dsimp only); (try k_fold))))
theorem atom_head {u : List Int} (h0 : u ≠ []) (h : ∀ c ∈ u, isAtomB c = true) (v : List Int) (d : Int) (hd : isAtomB d = false) : (u ++ v).head? ≠ some d := by
  cases u with
  | nil => exact absurd rfl h0
  | cons c r =>
    intro e
    have : c = d := by simpa using e
    have h1 := h c (.head _)
    rw [this, hd] at h1
    cases h1
theorem tail_head (us : List (List Int)) (v : List Int) : ∀ c, (tailW us ++ 41 :: v).head? = some c → isAtomB c = false := by
  intro c hc
  cases us with
  | nil => have : 41 = c := by simpa [tailW] using hc
           rw [← this]; rfl
  | cons a r => have : 32 = c := by simpa [tailW] using hc
                rw [← this]; rfl
structure LSt where
  x : WTok
  k : Nat
  p : Int
  vs : List Value
  n : Nat
theorem lists_c (w : World) (mean : ExcName → Option Value) (mg mb : Str → Option Value) (rest : CbLed) (wa dx : Nat) (x : WTok) (D : Array UInt8) (ks : List Int) (p : Int) (u : List Int) (us : List (List Int)) (v : List Int) (q : Nat)
    (hne : dx ≠ wa) (hr : ∀ q ∈ rest, q.1 ≠ dx) (hD : KBw.bInts D = ks) (hlen : ks.length ≤ 10000) (hat : At ks p (40 :: (u ++ (tailW us ++ 41 :: v)))) (hus : ∀ z ∈ u :: us, z ≠ [] ∧ ∀ c ∈ z, isAtomB c = true) (hql : us.length ≤ 1000) (hq : (q, methodObj (.ref 612) (.ref wa)) ∈ rest) :
   Ctr w mean mg mb 18 696 [.ref wa, .ref q] (WL wa dx x D p rest) (fun r nx => ∃ l vs n x' p', r = .ref l ∧ StrsAre vs ((u :: us).map fun z => upS (strOf z)) ∧ At ks p' v ∧ nx = WL wa dx x' D p' ((l, listOf vs.toArray n) :: rest)) False := by
  unfold Ctr
  k_fill
  intro dp un gd cn cs a ccd cl outer A₀ base h₀ L m s Q E B F X N T hk hdp hun hret hexc
  refine wpAny_call ?_
  k_dflt cell_enter
  have hm0 := atom_head (hus u (.head _)).1 (hus u (.head _)).2 (tailW us ++ 41 :: v) 41 rfl
  have hu0 := (hus u (.head _)).1
  have hu1 := (hus u (.head _)).2
  have hu2 := tail_head us v
  k_steps
  refine Hold.mk ?_
  rename Fr _ _ _ _ => F1
  rename News _ _ _ _ => N1
  rename At _ _ _ => hat1
  rename (wa < _) => hwl
  rename (dx < _) => hdl
  rename (∀ q ∈ rest, q.1 ≠ _) => hrl
  rename (∀ q ∈ (_, _) :: rest, q.1 ≠ dx) => hrd
  rename_i tk4 t4 x4 h5
  obtain ⟨l, rfl⟩ : ∃ l, l = l_wz := ⟨_, rfl⟩
  let P : LSt → Prop := (fun c => c.k ≤ us.length ∧ At ks c.p (tailW (us.drop c.k) ++ 41 :: v) ∧ StrsAre c.vs ((u :: us.take c.k).map fun z => upS (strOf z)))
  have hp0 : P ⟨x4, 0, p + 1 + u.length, [.str (upS (strOf u)) t4], 1⟩ := ⟨Nat.zero_le _, hat1, .cons _ _ .nil⟩
  let LL : LSt → List (Addr × Obj) := (fun c => WL wa dx c.x D c.p ((l, listOf c.vs.toArray c.n) :: rest))
  have N1' : News _ _ _ (LL ⟨x4, 0, p + 1 + u.length, [.str (upS (strOf u)) t4], 1⟩) := N1
  refine ksw_while (σ := LSt) LL (fun _ => []) (fun _ => True) [] P (fun c => us.length - c.k) ⟨x4, 0, p + 1 + u.length, [.str (upS (strOf u)) t4], 1⟩ F1 N1' trivial (fun _ h => nomatch h) hp0 ?_ ?hE
  case hE => first | passes_own | with_unfolding_all passes_own | exact PySem.PassesOwn.leaving
  intro c k h tk _ hP F2 N2
  obtain ⟨x5, i, p5, vs5, n5⟩ := c
  obtain ⟨hi, hat5, hs5⟩ := hP
  (try dsimp only at hi hat5 hs5 N2 ⊢)
  have hrd5 : ∀ q ∈ (l, listOf vs5.toArray n5) :: rest, q.1 ≠ dx := fun q hq => by
    rcases List.mem_cons.mp hq with rfl | hq
    · exact Nat.ne_of_gt hdl
    · exact hr q hq
  clear hrd hat1 F1 N1 hm0 hat
  have hsz : vs5.length ≤ 1001 := by
    have : ∀ (vs : List Value) (ys : List Str), StrsAre vs ys → vs.length = ys.length := fun vs ys h => by
      induction h with
      | nil => rfl
      | cons _ _ _ ih => rw [List.length_cons, List.length_cons, ih]
    have := this _ _ hs5
    rw [List.length_map, List.length_cons, List.length_take] at this
    omega
  cases hd : us.drop i with
  | nil =>
    rw [hd] at hat5
    have hat6 : At ks p5 (41 :: v) := hat5
    clear hat5
    have hu5 : us.take i = us := by
      have := List.take_append_drop i us
      rw [hd, List.append_nil] at this
      exact this
    rw [hu5] at hs5
    k_steps
    exact hret _ _ _ _ (by assumption) (by assumption) ⟨l, vs5, n5, _, _, rfl, hs5, by assumption, rfl⟩
  | cons z zs =>
    rw [hd] at hat5
    have hat6 : At ks p5 (32 :: (z ++ (tailW zs ++ 41 :: v))) := by
      have e : tailW (z :: zs) ++ 41 :: v = 32 :: (z ++ (tailW zs ++ 41 :: v)) := by simp [tailW]
      rw [← e]; exact hat5
    clear hat5
    have hm5 : (32 :: (z ++ (tailW zs ++ 41 :: v))).head? ≠ some 41 := by simp
    have hz := hus z (.tail _ (List.mem_of_mem_drop (by rw [hd]; exact .head _)))
    have hz0 := hz.1
    have hz1 := hz.2
    have hz2 := tail_head zs v
    k_steps
    have hi1 : i < us.length := by
      have := congrArg List.length hd
      rw [List.length_drop, List.length_cons] at this
      omega
    have hzs : us.drop (i + 1) = zs := by
      have : us.drop (i + 1) = (us.drop i).tail := by rw [List.tail_drop]
      rw [this, hd]; rfl
    have htk : us.take (i + 1) = us.take i ++ [z] := by
      have : us[i]? = some z := by rw [← List.head?_drop, hd]; rfl
      rw [List.take_add_one, this]; rfl
    rename News _ _ _ _ => N3
    rename Fr _ _ _ _ => F3
    rename (At ks _ (tailW zs ++ 41 :: v)) => hat7
    rw [List.push_toArray] at N3
    refine ksw_end (σ := LSt) ⟨_, i + 1, _, vs5 ++ [.str (upS (strOf z)) _], n5 + 1⟩ F3 N3 (fun _ h => h) trivial (fun _ h => nomatch h) (fun _ _ _ => rfl) ⟨hi1, by (show At ks _ (tailW (us.drop (i + 1)) ++ 41 :: v)); rw [hzs]; exact hat7, ?_⟩ (by show us.length - (i + 1) < us.length - i; omega)
    have e8 : (u :: us.take (i + 1)).map (fun z => upS (strOf z)) = (u :: us.take i).map (fun z => upS (strOf z)) ++ [upS (strOf z)] := by
      rw [htk, ← List.cons_append, List.map_append]; rfl
    show StrsAre _ ((u :: us.take (i + 1)).map fun z => upS (strOf z))
    rw [e8]
    exact kct_snoc hs5
end PartH


theorem tidy_PI : True := by
  w_top off
  trivial
section PartI
variable {M : Model} {A : Around} {E : Value → Shared → Prop} {s : Shared}
theorem flight_held {base : Heap} {l : List Env} {e L : Addr} {cls a0 : Value} {Q : Unit → Shared → Prop} (hh : Heap.HeldW base l e cls a0 L s.heap)
    (hQ : ∀ h', Heap.HeldW base l e cls a0 L h' → s.heap.UpToSlots h' → Q () { s with heap := h' }) : wpAny M A (setFlight (.ref e) (some L)) Q E s := by
  obtain ⟨f1, f2, f3, oe, vs, T, oT, ts, he, hcls, hd, h1, hnT, hTe, hT, hdT, h3⟩ := hh
  have hsz3 : 3 < ts.size := (Array.getElem?_eq_some_iff.mp h3).1
  have other : ∀ b, b ≠ T → (s.heap.update T (Obj.mapFields (·.setIfInBounds 3 ((some L : Option Addr).elim Value.none fun f => rawInt f)))).get? b = s.heap.get? b :=
    fun b hb => Heap.get?_update_other _ _ (Ne.symm hb)
  have plain : ∀ b o, s.heap.get? b = some o → (∀ vs, o.data ≠ .fields vs) → b ≠ T := fun b o hb hnf q => by
    rw [q, hT] at hb; injection hb with hb; subst hb; exact hnf ts hdT
  unfold setFlight
  refine wpAny_bind (wpAny_field he hd h1 ?_)
  rw [if_pos (show (Value.ref T != Value.none) = true from by simp)]
  refine wpAny_setField hT hdT hsz3 (hQ _ ⟨fun b o hbo => (other b fun q => by rw [q, hnT] at hbo; cases hbo).trans (f1 b o hbo), f2,
    f3.of_keeps fun b o hb hnf => ⟨o, (other b (plain b o hb hnf)).trans hb, rfl⟩, ?_⟩ fun b o hb hnf => ⟨o.slots, (other b (plain b o hb hnf)).trans hb⟩)
  exact ⟨oe, vs, T, _, _, (other e (Ne.symm hTe)).trans he, hcls, hd, h1, hnT, hTe, Heap.get?_update_self _ hT (Obj.isFreed_of_fields (Obj.data_mapFields hdT _)), Obj.data_mapFields hdT _, by simp [hsz3]⟩
theorem pass_held {base : Heap} {l : List Env} {e L : Addr} {cls a0 : Value} {env : Env} {what : String} (hf : env.frame = some L) (hh : Heap.HeldW base l e cls a0 L s.heap)
    (hE : ∀ h', Heap.HeldW base l e cls a0 L h' → s.heap.UpToSlots h' → E (.ref e) { s with heap := h' }) : wpAny M A (PySem.passOn what (.ref e) env : Sem Value) (fun _ _ => False) E s := by
  have hh' := hh
  obtain ⟨_, _, _, oe, vs, T, oT, ts, he, hcls, hd, h1, _⟩ := hh'
  unfold PySem.passOn
  refine wpAny_bind (wpAny_field he hd h1 ?_)
  rw [if_neg (show ¬ ((Value.ref T == Value.none) = true) from by simp)]
  rw [hf]
  exact wpAny_bind (flight_held hh fun h' H U => wpAny_throw (hE h' H U))
/-- the exception e stands in the frame L -/
noncomputable def HeldR (base : Heap) (l : List Env) (e : Addr) (cls : Value) (t : Addr) (vs : List Value) (L : Addr) (h : Heap) : Prop :=
  (∃ B, base.StaysIn B ∧ Heap.HeldW B l e cls (.ref t) L h ∧ B.get? t = none) ∧ h.TupAt t vs
theorem leave_held {base g g₂ : Heap} {outer : List Env} {env : Env} {L e t : Addr} {m : Str → Option Value} {cls : Value} {vs : List Value} {Q : Unit → Shared → Prop}
    (hf : env.frame = some L) (F : Fr g L g₂ m) (R : HeldR base (env :: outer) e cls t vs L s.heap) (hsm : g₂.UpToSlots s.heap)
    (hQ : ∀ h', RaisedK base outer e cls t vs [] h' → g.UpToSlots h' → Q () { s with heap := h' }) : wpAny M A (leaving env (.ref e)) Q E s := by
  obtain ⟨⟨B, hB, hh, hn⟩, ht⟩ := R
  unfold leaving
  refine wpAny_bind (wpAny_noteFrame_againW hf hh.2.2.2 ?_)
  refine wpAny_landsW hh fun h' hfl hup => ?_
  obtain ⟨k1, k2, ⟨_, _, k3⟩, k4⟩ := hfl
  exact hQ h' ⟨⟨B, hB, (fun q hq => nomatch hq), ⟨k1, k2, k3, k4⟩, hn⟩, ht.of_slots hup⟩ ((Heap.UpToSlots.of_keeps F.keep).trans (hsm.trans hup))
theorem held_off {base : Heap} {l : List Env} {e L C : Addr} {cls a0 : Value} {h h' : Heap} {oC : Obj} (hh : Heap.HeldW base l e cls a0 L h) (hC : base.get? C = some oC) (hs : Heap.SameBut C h h') :
    Heap.HeldW (hideAll base [C]) l e cls a0 L h' := by
  obtain ⟨f1, f2, f3, oe, vs, T, oT, ts, he, hcls, hd, h1, hnT, hTe, hT, hdT, h3⟩ := hh
  have eC : e ≠ C := fun q => by rw [q, hC] at f2; cases f2
  have TC : T ≠ C := fun q => by rw [q, hC] at hnT; cases hnT
  have nn : ∀ b, base.get? b = none → (hideAll base [C]).get? b = none := fun b hb => by
    cases q : (hideAll base [C]).get? b with
    | none => rfl
    | some o => rw [of_hideAll _ q] at hb; cases hb
  refine ⟨fun b o hb => ?_, nn e f2, ?_, oe, vs, T, oT, ts, (hs.2 e eC).trans he, hcls, hd, h1, nn T hnT, hTe, (hs.2 T TC).trans hT, hdT, h3⟩
  · have bC : b ≠ C := fun q => by rw [q, hideAll_none _ (.head _)] at hb; cases hb
    exact (hs.2 b bC).trans (f1 b o (of_hideAll _ hb))
  · have : ∀ l, h.FunFrames base l → h'.FunFrames (hideAll base [C]) l := fun l => by
      induction l with
      | nil => exact fun _ => trivial
      | cons a r ih =>
        intro ⟨hk, ⟨L', o, hf, hn, ho, hd⟩, hr⟩
        have LC : L' ≠ C := fun q => by rw [q, hC] at hn; cases hn
        exact ⟨hk, ⟨L', o, hf, nn L' hn, (hs.2 L' LC).trans ho, hd⟩, ih hr⟩
    exact this l f3
end PartI
section PartI2
variable {M : Model} {A : Around} {E : Value → Shared → Prop} {s : Shared} {env : Env}
/-- a comprehension, a raise within it too -/
theorem comp_free_f {e : Expr} {scope : Scope} {pos : Pos} {newAcc first : Sem Value} {g : Comprehension} {gs : List Comprehension} {cl : List (Str × Addr)} {Q : Value → Shared → Prop}
    (hcl : clausesOf e = g :: gs) (hs : ∀ x, foldedSetIterable g.iter env x = pure x) (hclos : closureFor scope env = pure cl)
    (hkind : scope.kind = .function) (hnames : ∀ x ∈ scope.names, x.2 = .local → scope.names.lookup x.1 = some .local)
    (h : wpAny M A first (fun x s₁ => wpAny M A (pyIter x) (fun it s₂ => wpAny M A newAcc (fun acc s₃ =>
      wpAny M A (newFunctionEnv scope env.globals cl [] env.qual none .none (some env)) (fun cenv s₄ =>
        codeAny M A (.compStart e 0 it acc { cenv with scope := relabel scope env }) (fun r s' => match r with
          | .ok _ => ∃ m, s'.heap.Ns cenv.locals m ∧ ∀ h', Heap.SameBut cenv.locals s'.heap h' → Q acc { s' with heap := h' }
          | .error x => ∃ m, s'.heap.Ns cenv.locals m ∧ ∀ h', Heap.SameBut cenv.locals s'.heap h' → wpAny M A (PySem.passOn "comprehension.variables-let-go" x cenv : Sem Value) (fun _ _ => False) E { s' with heap := h' }) s₄) E s₃) E s₂) E s₁) E s) :
    wpAny M A (comprehension e scope env pos newAcc false first none) Q E s := by
  unfold comprehension
  rw [hclos, hcl]
  refine wpAny_bind (wpAny_mono h (fun x s₁ h₁ => wpAny_bind (wpAny_standAt (wpAny_bind (wpAny_of_eq (hs x) (wpAny_bind (wpAny_holding (wpAny_mono h₁ (fun it s₂ h₂ =>
    wpAny_standIf (wpAny_bind (wpAny_mono h₂ (fun acc s₃ h₃ => wpAny_bind (wpAny_pure (wpAny_bind (wpAny_mono h₃ (fun cenv s₄ h₄ => ?_) fun _ _ h' => h')))) fun _ _ h' => h')))
      fun _ _ h' => h'))))))) fun _ _ h' => h')
  dsimp only
  have hv : ∀ x ∈ (scope.names.filter fun x => (x.2 == .local || x.2 == .cell) && x.1 != (".0" : Str)).reverse, x.2 = .local →
      Env.kindOf { cenv with scope := relabel scope env } x.1 = some .local := fun x hx hl => lookup_relabel_local (hnames x (List.mem_filter.mp (List.mem_reverse.mp hx)).1 hl)
  refine wpAny_holding (wpAny_bind (wpAny_attempt (wpAny_holding (wpAny_run (codeAny_mono h₄ fun r s' hr => ?_)))))
  cases r with
  | ok f =>
    obtain ⟨m, hn, hr⟩ := hr
    exact wpAny_bind (wpAny_holding (wpAny_comp_letGo (cenv := { cenv with scope := relabel scope env }) hkind _ s' m hv hn fun h' m' _ hs' => wpAny_pure (hr h' hs')))
  | error x =>
    obtain ⟨m, hn, hr⟩ := hr
    exact wpAny_bind (wpAny_holding (wpAny_comp_letGo (cenv := { cenv with scope := relabel scope env }) hkind _ s' m hv hn fun h' m' _ hs' => wpAny_mono (hr h' hs') (fun _ _ f => f.elim) fun _ _ y => y))
end PartI2
section PartI3
open LCg
variable {prog : Program} {w : World} {A : Around} {E : Value → Shared → Prop} {s : Shared} {h₀ : Heap} {L : Addr} {m : Str → Option Value} {env : Env}
noncomputable def OkTurn (h₀ : Heap) (L : Addr) (m : Str → Option Value) (s : Shared) (all : List (Addr × Obj)) (G : Value → Prop) (y : Value) (s₂ : Shared) : Prop :=
  ∃ h' tk', s₂ = { s with heap := h', toks := tk' } ∧ Fr h₀ L h' m ∧ News h₀ L h' all ∧ G y
noncomputable def BadTurn (h₀ : Heap) (L : Addr) (m : Str → Option Value) (s : Shared) (base : Heap) (l : List Env) (R : Prop) (C : Addr) (oC : Obj) (v : Value) (s₂ : Shared) : Prop :=
  ∃ e cls t vs lg g h' tk', v = .ref e ∧ s₂ = { s with heap := h', toks := tk' } ∧ (C, oC) ∈ lg ∧ Fr h₀ L g m ∧ RaisedK base l e (.ref cls) t vs lg h' ∧ g.UpToSlots h' ∧ (cls = 95 ∨ cls = 119) ∧ R
noncomputable def CompOut (prog : Program) (w : World) (A : Around) (E : Value → Shared → Prop) (env' : Env) (C : Addr) (D : Value) (Q : Value → Shared → Prop) (r : Result) (s' : Shared) : Prop := match r with
  | .ok _ => ∃ m, s'.heap.Ns C m ∧ ∀ h', Heap.SameBut C s'.heap h' → Q D { s' with heap := h' }
  | .error x => ∃ m, s'.heap.Ns C m ∧ ∀ h', Heap.SameBut C s'.heap h' → wpAny (model prog w) A (PySem.passOn "comprehension.variables-let-go" x env' : Sem Value) (fun _ _ => False) E { s' with heap := h' }
/-- a comprehension over a list of the ledger, whose turns may raise -/
theorem comp_R {R : Prop} {base : Heap} {outer : List Env} {elt iter : Expr} {x : Str} {px : Pos} {scope : Scope} {cl : List (Str × Addr)} {pos : Pos} {Q : Value → Shared → Prop} (G : Nat → Value → Prop) (_F : Fr h₀ L s.heap m)
    (hfr : A.frames = some (env :: outer)) (hf : env.frame = some L) (hh : A.handled = none)
    (hclos : closureFor scope env = pure cl) (hcell : ∀ y ∈ scope.names, y.2 ≠ .cell) (hkind : scope.kind = .function)
    (hnames : ∀ y ∈ scope.names, y.2 = .local → scope.names.lookup y.1 = some .local) (hx : scope.names.lookup x = some .local)
    (h : wpAny (model prog w) A (eval iter env) (fun xv s₁ => ∃ (l : Addr) (vs : Array Value) (n : Nat) (news : List (Addr × Obj)) (h1 : Heap) (tk1 : Nat), xv = .ref l ∧ s₁ = { s with heap := h1, toks := tk1 } ∧ Fr h₀ L h1 m ∧ News h₀ L h1 ((l, listOf vs n) :: news) ∧ vs.size ≤ 10000 ∧
      (∀ (i : Nat) (v : Value) (I : Addr) (oI : Obj) (C : Addr) (oC : Obj) (D : Addr) (m₂ : Str → Option Value) (ys : List Value) (h : Heap) (tk : Nat), vs[i]? = some v → NsObj oC m₂ → m₂ x = some v → Fr h₀ L h m → News h₀ L h ((I, oI) :: (C, oC) :: (D, lst ys) :: (l, listOf vs n) :: news) →
        Off3 I C D ((l, listOf vs n) :: news) → ((@Ne Nat I C) ∧ (@Ne Nat I D) ∧ (@Ne Nat C D)) →
        wpAny (model prog w) A (eval elt (compEnvC scope cl C env)) (OkTurn h₀ L m s ((I, oI) :: (C, oC) :: (D, lst ys) :: (l, listOf vs n) :: news) (G i)) (BadTurn h₀ L m s base (env :: outer) R C oC) { s with heap := h, toks := tk }) ∧
      (∀ (D : Addr) (ys : List Value) (h : Heap) (tk : Nat), Fr h₀ L h m → News h₀ L h ((D, lst ys) :: (l, listOf vs n) :: news) → Off1 D ((l, listOf vs n) :: news) → ys.length = vs.size → (∀ i y, ys[i]? = some y → G i y) → Q (.ref D) { s with heap := h, toks := tk })) E s)
    (hb₀ : ∀ C, h₀.get? C = none → base.get? C = none)
    (hER : ∀ e cls t vs g h' tk', Fr h₀ L g m → HeldR base (env :: outer) e (.ref cls) t vs L h' → g.UpToSlots h' → (cls = 95 ∨ cls = 119) → R → E (.ref e) { s with heap := h', toks := tk' })
    (hs : ∀ x, foldedSetIterable iter env x = pure x := by intro _; rfl) :
    wpAny (model prog w) A (eval (.ListComp elt [⟨.Name x px, iter, [], 0⟩] scope pos) env) Q E s := by
  rw [eval_ListComp]
  refine comp_free_f rfl hs hclos hkind hnames (wpAny_mono h (fun xv s₁ h₁ => ?_) fun _ _ e => e)
  refine @ex6 _ _ _ _ _ _ _ _ h₁ fun l vs n news h1 tk1 hz => @an7 _ _ _ _ _ _ _ _ hz fun ehzq1 ehzq2 F0 N0 hsz turn fin => ?_
  clear hz h₁
  subst ehzq1
  subst ehzq2
  have hl0 : ∀ h', News h₀ L h' ((l, listOf vs n) :: news) → h'.IsList l vs := fun h' N => ⟨_, (N _ (.head _)).1, rfl, ⟨_, rfl⟩⟩
  refine wpAny_pyIter_list (hl0 _ N0) ?_
  have hlt : ∀ b o, h1.get? b = some o → b < h1.objs.size := fun b o e => Heap.lt_size e
  have hlI : l ≠ h1.objs.size := Nat.ne_of_lt (hlt _ _ (N0 _ (.head _)).1)
  have hLI : L ≠ h1.objs.size := Nat.ne_of_lt F0.ns.lt
  generalize hI2 : h1.push { cls := .type "list_iterator", data := .fields #[.ref l, .int 0 0] } = H1
  have hsz1 : H1.objs.size = h1.objs.size + 1 := by rw [← hI2, Heap.size_push]
  have up1 : ∀ b o, h1.get? b = some o → H1.get? b = some o := fun b o e => by rw [← hI2]; exact Heap.get?_push_of_some _ e
  have hIter : H1.IsListIter h1.objs.size l 0 := ⟨_, by rw [← hI2]; exact Heap.get?_push_size _ rfl, rfl, rfl⟩
  have F1 : Fr h₀ L H1 m := F0.keeps up1
  have N1 : News h₀ L H1 ((l, listOf vs n) :: news) := N0.grown up1
  have hI₀ : h₀.get? h1.objs.size = none := next_is_new F0
  have offI : ∀ p ∈ (l, listOf vs n) :: news, p.1 ≠ h1.objs.size := fun p hp => Nat.ne_of_lt (Heap.lt_size (N0 p hp).1)
  generalize hIa : h1.objs.size = I at *
  have W := Walks.list (prog := prog) (w := w) hh I l hlI vs
  refine wpAny_newObj_type (wpAny_newFunctionEnv hcell (by intro y hy; simp at hy) (fun h₁ hns₁ hsb₁ => ?_) hkind)
  dsimp only at hns₁ hsb₁ ⊢
  generalize hH2 : H1.push { cls := .type "list", dict := none, data := .seq ([] : List Value).toArray } = H2 at hns₁ hsb₁ ⊢
  have hC : H2.objs.size = H1.objs.size + 1 := by rw [← hH2, Heap.size_push]
  have below : ∀ b, b < H1.objs.size → b ≠ H2.objs.size ∧ b ≠ H1.objs.size := fun b hb => ⟨by rw [hC]; exact Nat.ne_of_lt (Nat.lt_succ_of_lt hb), Nat.ne_of_lt hb⟩
  have old : ∀ b o, H1.get? b = some o → h₁.get? b = some o := fun b o e => hsb₁.extBut b o (below b (Heap.lt_size e)).1 (Heap.get?_push_of_some _ (hH2 ▸ Heap.get?_push_of_some _ e))
  have hDC : H1.objs.size ≠ H2.objs.size := by rw [hC]; exact Nat.ne_of_lt (Nat.lt_succ_self _)
  have hacc : h₁.get? H1.objs.size = some (lst []) := hsb₁.extBut _ _ hDC (Heap.get?_push_of_some _ (hH2 ▸ Heap.get?_push_size _ rfl))
  have fresh₀ : ∀ a, H1.objs.size ≤ a → h₀.get? a = none := fun a ha => by
    cases e : h₀.get? a with
    | none => rfl
    | some o' =>
      have := F1.keep a o' e
      exact absurd (Heap.lt_size this) (Nat.not_lt.mpr ha)
  have hD₀ : h₀.get? H1.objs.size = none := fresh₀ _ (Nat.le_refl _)
  have hC₀ : h₀.get? H2.objs.size = none := fresh₀ _ (by rw [hC]; exact Nat.le_succ _)
  have hLlt : L < H1.objs.size := F1.ns.lt
  have hDL : H1.objs.size ≠ L := Ne.symm (below L hLlt).2
  have hCL : H2.objs.size ≠ L := Ne.symm (below L hLlt).1
  have hIlt : I < H1.objs.size := by rw [hsz1]; exact Nat.lt_succ_self _
  have hCI : I ≠ H2.objs.size := (below I hIlt).1
  have hDI : I ≠ H1.objs.size := (below I hIlt).2
  have off₀ : Off3 I H2.objs.size H1.objs.size ((l, listOf vs n) :: news) := Off3.of fun p hp => ⟨offI p hp, (below _ (Heap.lt_size (N1 p hp).1)).1, (below _ (Heap.lt_size (N1 p hp).1)).2⟩
  have off3 := off₀.mem
  have hns₂ : h₁.Ns H2.objs.size (fun x => ([] : List (Str × Value)).reverse.lookup x) := hns₁
  have F2 : Fr h₀ L h₁ m := F1.keeps old
  have N2 : News h₀ L h₁ ((l, listOf vs n) :: news) := N1.grown old
  have hIter2 : h₁.IsListIter I l 0 := hIter.at fun o e => old _ o e
  generalize H1.objs.size = D at *
  generalize H2.objs.size = C at *
  have loop : ∀ s₃ : Shared, s₃ = { s with heap := h₁, toks := tk1 + ([] : List (Str × Value)).length } →
      codeAny (model prog w) A (.compLoop (.ListComp elt [⟨.Name x px, iter, [], 0⟩] scope pos) 0 (.ref I) (.ref D) (compEnvC scope cl C env)) (CompOut prog w A E (compEnvC scope cl C env) C (.ref D) Q) s₃ := by
    rintro s₃ rfl
    refine codeAny_compLoop_tests
      (fun k s' => ∃ (h' : Heap) (tk i : Nat) (ys : List Value) (m' : Str → Option Value), s' = { s with heap := h', toks := tk } ∧ i ≤ vs.size ∧ k = vs.size + 1 - i ∧ ys.length = i ∧ h'.IsListIter I l i ∧ Fr h₀ L h' m ∧ h'.Ns C m' ∧
        News h₀ L h' ((D, lst ys) :: (l, listOf vs n) :: news) ∧ ∀ (j : Nat) (y : Value), ys[j]? = some y → G j y) ?_ (vs.size + 1)
      ⟨h₁, _, 0, [], _, rfl, Nat.zero_le _, rfl, rfl, hIter2, F2, hns₂, fun p hp => ?_, fun j y h => by simp at h⟩
    · intro k s' hz0
      refine @ex5 _ _ _ _ _ _ _ hz0 fun h' tk i ys m' hz => @an9 _ _ _ _ _ _ _ _ _ _ hz fun ehzq1 hi ehzq2 hyl hit F' hn' N' hG => ?_
      clear hz hz0
      subst ehzq1
      subst ehzq2
      have N'' : News h₀ L h' ((l, listOf vs n) :: news) := fun p hp => N' p (.tail _ hp)
      by_cases hlt2 : i < vs.size
      · refine W.item i _ _ _ hlt2 ⟨hit, hl0 _ N''⟩ fun v h₂ tk₂ hPv hst₂ hk₂ => ?_
        refine wpAny_assign_Name (wpAny_storeName_local (lookup_relabel_local hx) (hn'.at' fun o e => hk₂ _ o (by simpa using Ne.symm hCI) e) (fun h₃ hn₃ hs₃ => ?_) (by simp [compEnvC, relabel, hkind]))
        refine wpAny_tests_nil ?_
        simp only [if_true]
        obtain ⟨oC, heC, hoC⟩ := ns_obj hn₃
        have F₃ : Fr h₀ L h₃ m := (fr_but F' hk₂ hLI hI₀).change hs₃ hCL hC₀
        have N₂ : News h₀ L h₂ ((D, lst ys) :: (l, listOf vs n) :: news) := news_but N' hk₂ fun p hp => by
          rcases List.mem_cons.mp hp with rfl | hp
          · exact Ne.symm hDI
          · exact (off3 p hp).1
        have hit₃ : h₃.IsListIter I l (i + 1) := hst₂.1.at fun o e => hs₃.extBut I o hCI e
        obtain ⟨oI, heI, rI⟩ := id hit₃
        have N₃ : News h₀ L h₃ ((I, oI) :: (C, oC) :: (D, lst ys) :: (l, listOf vs n) :: news) := fun p hp => by
          rcases List.mem_cons.mp hp with rfl | hp
          · exact ⟨heI, Ne.symm hLI, hI₀⟩
          · rcases List.mem_cons.mp hp with rfl | hp
            · exact ⟨heC, hCL, hC₀⟩
            · have z := N₂ p hp
              refine ⟨hs₃.extBut _ _ ?_ z.1, z.2⟩
              rcases List.mem_cons.mp hp with rfl | hp
              · exact hDC
              · exact (off3 p hp).2.1
        refine wpAny_mono (turn i v I oI C oC D _ ys h₃ _ hPv hoC (by simp) F₃ N₃ off₀ ⟨hCI, hDI, Ne.symm hDC⟩) (fun y s₄ hok => ?_) fun ev s₄ he => ?_
        · refine @ex2 _ _ _ _ hok fun h₄ tk₄ hz => @an4 _ _ _ _ _ hz fun ehzq1 F₄ N₄ g₄ => ?_
          clear hz hok
          subst ehzq1
          have zD := (N₄ (D, lst ys) (.tail _ (.tail _ (.head _)))).1
          have zC := (N₄ (C, oC) (.tail _ (.head _))).1
          have zI := (N₄ (I, oI) (.head _)).1
          have N₄' : News h₀ L h₄ ((l, listOf vs n) :: news) := fun p hp => N₄ p (.tail _ (.tail _ (.tail _ hp)))
          refine append_at (hsz := by show ys.toArray.size ≤ sizeLine; rw [List.size_toArray, hyl, sizeLine_eq]; omega) zD fun h₅ hs₅ hD₅ => ?_
          refine ⟨vs.size + 1 - (i + 1), by omega, h₅, tk₄, i + 1, ys ++ [y], _, rfl, hlt2, rfl, by rw [List.length_append, List.length_singleton, hyl], ⟨oI, hs₅.extBut _ _ hDI zI, rI⟩, F₄.change hs₅ hDL hD₀,
            (hoC.ns zC).sameBut hs₅ (Ne.symm hDC), fun p hp => ?_, fun j y' hj => ?_⟩
          · rcases List.mem_cons.mp hp with rfl | hp
            · exact ⟨hD₅.trans (congrArg some (lst_snoc ys y)), hDL, hD₀⟩
            · exact ⟨hs₅.extBut _ _ (off3 p hp).2.2 (N₄' p hp).1, (N₄' p hp).2⟩
          · by_cases hki : j < ys.length
            · rw [List.getElem?_append_left hki] at hj
              exact hG j y' hj
            · rw [List.getElem?_append_right (by omega)] at hj
              have e0 : j - ys.length = 0 := by
                cases q : j - ys.length with
                | zero => rfl
                | succ z => rw [q] at hj; simp at hj
              rw [e0] at hj
              have e2 : y = y' := by simpa using hj
              have e3 : j = i := by omega
              rw [← e2, e3]
              exact g₄
        · refine @ex8 _ _ _ _ _ _ _ _ _ _ he fun e cls t vs' lg g h₄ tk₄ hz => @an8 _ _ _ _ _ _ _ _ _ hz fun ehzq1 ehzq2 hlg Fg R' U hcc hR => ?_
          clear hz he
          subst ehzq1
          subst ehzq2
          obtain ⟨⟨B, hB, hlB, hfl, hnew⟩, htup⟩ := R'
          have hCB : B.get? C = some oC := (hlB _ hlg).1
          show wpAny (model prog w) A (noteFrame (.ref e) (compEnvC scope cl C env)) _ _ _
          have eN : noteFrame (.ref e) (compEnvC scope cl C env) = noteFrame (.ref e) env := rfl
          rw [eN]
          refine wpAny_looks_onW hfr hf hfl fun h₅ hH U₅ => ?_
          have hC5 : h₅.get? C = some oC := hH.1 _ _ hCB
          refine ⟨_, hoC.ns hC5, fun h₆ hs₆ => ?_⟩
          have hH6 := held_off hH hCB hs₆
          have hf' : (compEnvC scope cl C env).frame = some L := hf
          refine pass_held hf' hH6 fun h₇ hH7 U7 => ?_
          have st : base.StaysIn (hideAll B [C]) := fun b o q => hideAll_get _ (hB b o q) fun hm => by
            rw [List.mem_singleton.mp hm, hb₀ C hC₀] at q; cases q
          have tC : t ≠ C := fun q => by rw [q, hCB] at hnew; cases hnew
          have tn : (hideAll B [C]).get? t = none := by
            cases q : (hideAll B [C]).get? t with
            | none => rfl
            | some o => rw [of_hideAll _ q] at hnew; cases hnew
          have up6 : ∀ k : Heap, k.UpToSlots h₅ → k.get? C = none → k.UpToSlots h₆ := fun k u kc b o hb hd => by
            obtain ⟨sl, z⟩ := u b o hb hd
            exact ⟨sl, (hs₆.2 b fun q => by rw [q, kc] at hb; cases hb).trans z⟩
          have gC : (hideAll g [C]).UpToSlots h₆ := up6 _ (fun b o hb hd => (U.trans U₅) b o (of_hideAll _ hb) hd) (hideAll_none _ (.head _))
          have F7 : Fr h₀ L (hideAll g [C]) m := by
            refine ⟨Fg.ns.at' fun o q => hideAll_get _ q (by simpa using Ne.symm hCL), fun b o q => hideAll_get _ (Fg.keep b o q) fun hm => ?_, Fg.above⟩
            rw [List.mem_singleton.mp hm, hC₀] at q; cases q
          have ht6 : h₆.TupAt t vs' := by
            obtain ⟨o, k, z1, z2⟩ := htup.of_slots U₅
            exact ⟨o, k, (hs₆.2 t tC).trans z1, z2⟩
          exact hER e cls t vs' _ h₇ tk₄ F7 ⟨⟨_, st, hH7, tn⟩, ht6.of_slots U7⟩ (gC.trans U7) hcc hR
      · obtain rfl : i = vs.size := Nat.le_antisymm hi (Nat.not_lt.mp hlt2)
        refine W.done _ _ _ ⟨hit, hl0 _ N''⟩ fun h₂ tk₂ hk₂ => ?_
        refine ⟨_, hn'.at' fun o e => hk₂ _ o (by simpa using Ne.symm hCI) e, fun h'' hs'' => ?_⟩
        refine fin D ys h'' tk₂ ((fr_but F' hk₂ hLI hI₀).change hs'' hCL hC₀) (fun p hp => ?_) off₀.one hyl hG
        have z := news_but N' hk₂ (fun p hp => by
          rcases List.mem_cons.mp hp with rfl | hp
          · exact Ne.symm hDI
          · exact (off3 p hp).1) p hp
        refine ⟨hs''.extBut _ _ ?_ z.1, z.2⟩
        rcases List.mem_cons.mp hp with rfl | hp
        · exact hDC
        · exact (off3 p hp).2.1
    · rcases List.mem_cons.mp hp with rfl | hp
      · exact ⟨hacc, hDL, hD₀⟩
      · exact ⟨(N2 p hp).1, (N2 p hp).2⟩
  exact codeAny_compStart_list (loop _ rfl) (W.self 0 _ _ _ ⟨hIter2, hl0 _ N2⟩ (loop _ rfl))
end PartI3


theorem tidy_PJ : True := by
  w_top off
  trivial
/-- what of a ledger must stay through a raise -/
noncomputable def Keep (keep rest : CbLed) : Prop := ∀ q ∈ keep, q ∈ rest ∧ (∀ vs n, q.2.data ≠ .seq vs n) ∧ (∀ vs, q.2.data ≠ .fields vs)
theorem Keep.more {keep rest : CbLed} {a : Addr × Obj} (h : Keep keep rest) : Keep keep (a :: rest) := fun q hq => ⟨.tail _ (h q hq).1, (h q hq).2⟩
theorem leave_faultL {M : Model} {A : Around} {E : Value → Shared → Prop} {s' : Shared} {base g : Heap} {outer : List Env} {L a e t d C : Addr} {m : Str → Option Value} {name : Str} {scope : Scope} {cd x : Value} {Q : Unit → Shared → Prop} {news keep : CbLed}
    (K : Below A base outer g) (F : Fr g L s'.heap m) (N : News g L s'.heap news) (h1 : (e, eObjD C t d) ∈ news) (h2 : (t, tupObj [x]) ∈ news) (hkp : Keep keep news)
    (hQ : ∀ h', RaisedK base outer e (.ref C) t [x] keep h' → g.UpToSlots h' → Q () { s' with heap := h' }) (hk : scope.kind = .function := by rfl) :
    wpAny M (A.deeper (envOf name scope L a cd)) (leaving (envOf name scope L a cd) (.ref e)) Q E s' := by
  have K' := K.push (name := name) (a := a) (cd := cd) F hk
  have he := N.get h1
  have ht := N.get h2
  have fe : base.get? e = none := fresh_of_stays K.stays (N.fresh h1)
  have ft : base.get? t = none := fresh_of_stays K.stays (N.fresh h2)
  have hin : ∀ env ∈ (envOf name scope L a cd :: outer), ∀ b, env.frame = some b → b ∈ e :: t :: (envOf name scope L a cd :: outer).filterMap (·.frame) := fun env he b hb => .tail _ (.tail _ (List.mem_filterMap.mpr ⟨env, he, hb⟩))
  have st : base.StaysIn (hideAll s'.heap (e :: t :: (envOf name scope L a cd :: outer).filterMap (·.frame))) := fun b o q => hideAll_get _ (K'.stays b o q) fun hm => by
    rcases List.mem_cons.mp hm with rfl | hm
    · rw [fe] at q; cases q
    rcases List.mem_cons.mp hm with rfl | hm
    · rw [ft] at q; cases q
    rw [(K'.frames.mem hm).1] at q; cases q
  have hl : ∀ q ∈ keep, (hideAll s'.heap (e :: t :: (envOf name scope L a cd :: outer).filterMap (·.frame))).get? q.1 = some q.2 ∧ base.get? q.1 = none := fun q hq => by
    obtain ⟨hqn, q1, q2⟩ := hkp q hq
    refine ⟨hideAll_get _ (N q hqn).1 fun hm => ?_, fresh_of_stays K.stays (N q hqn).2.2⟩
    rcases List.mem_cons.mp hm with z | hm
    · have := (N q hqn).1
      rw [z, he] at this
      exact q2 _ (congrArg Obj.data (Option.some.inj this).symm)
    rcases List.mem_cons.mp hm with z | hm
    · have := (N q hqn).1
      rw [z, ht] at this
      exact q1 _ _ (congrArg Obj.data (Option.some.inj this).symm)
    obtain ⟨env, he, hf⟩ := List.mem_filterMap.mp hm
    rcases List.mem_cons.mp he with rfl | he
    · exact (N q hqn).2.1 (Option.some.inj hf).symm
    · obtain ⟨o, ho, _⟩ := (K.frames.mem (List.mem_filterMap.mpr ⟨env, he, hf⟩)).2
      rw [(N q hqn).2.2] at ho; cases ho
  have hbe : (hideAll s'.heap (e :: t :: (envOf name scope L a cd :: outer).filterMap (·.frame))).get? e = none := hideAll_none _ (.head _)
  have hbt : (hideAll s'.heap (e :: t :: (envOf name scope L a cd :: outer).filterMap (·.frame))).get? t = none := hideAll_none _ (.tail _ (.head _))
  refine wpAny_leaving_firstW (base := hideAll s'.heap (e :: t :: (envOf name scope L a cd :: outer).filterMap (·.frame))) (a0 := .ref t) K'.stack (funFrames_hide K'.frames hin) rfl he (fun b o q => of_hideAll _ q) hbe rfl rfl rfl fun h' hL => ?_
  obtain ⟨k1, ⟨_, _, k2⟩, k3, k4⟩ := hL
  exact hQ h' ⟨⟨_, st, hl, ⟨k1, hbe, k2, k3⟩, hbt⟩, Heap.TupAt.of_slots ⟨_, _, ht, rfl, rfl⟩ k4⟩ ((Heap.UpToSlots.of_keeps F.keep).trans k4)
noncomputable def knS : List Str := [⟨#[65, 82, 82, 73, 86, 65, 76]⟩, ⟨#[67, 67]⟩, ⟨#[68, 65, 84, 69]⟩, ⟨#[70, 82, 79, 77]⟩, ⟨#[83, 73, 90, 69]⟩, ⟨#[83, 85, 66, 74, 69, 67, 84]⟩, ⟨#[84, 79]⟩, ⟨#[68, 73, 83, 80, 76, 65, 89, 70, 82, 79, 77]⟩, ⟨#[82, 69, 86, 69, 82, 83, 69]⟩]
noncomputable def isKn (W : Str) : Bool := knS.any fun x => x == W
theorem one_hit (w : World) (mean : ExcName → Option Value) (mg mb : Str → Option Value) (rest : CbLed) (W : Str) (t t2 : Tok) (wv : Value) (hW : isKn W = true) :
   Ctr w mean mg mb 2 431 [.str W t, .str (Str.ofString "ARRIVAL CC DATE FROM SIZE SUBJECT TO DISPLAYFROM REVERSE") t2, wv] rest (fun r nx => nx = rest ∧ ∃ t, r = .str W t) False := by
  unfold Ctr
  k_fill
  intro dp un gd cn cs a ccd cl outer A₀ base h₀ L m s Q E B F X N T hk hdp hun hret hexc
  refine wpAny_call ?_
  k_dflt cell_enter
  k_steps
  · rename News _ _ _ _ => N5
    exact hret _ _ _ _ (by assumption) (cb_drop N5 fun q hq => .tail _ hq) ⟨rfl, _, rfl⟩
  · rename (_ = false) => hf
    have hf' : isKn W = false := hf
    rw [hW] at hf'
    cases hf'
noncomputable abbrev CtrL (w : World) (mean : ExcName → Option Value) (mg mb : Str → Option Value) (rk : Nat) (f : Addr) (vs : List Value) (news keep : CbLed) : Prop :=
  ∀ (dp un : Nat) (gd : Option (List Code)) (cn : Str) (cs : Scope) (a : Addr) (ccd : Value) (cl : List (Str × Addr)) (outer : List Env) (A₀ : Around) (base h₀ : Heap) (L : Addr) (m : Str → Option Value) (s : Shared) (Q E : Value → Shared → Prop),
    Below A₀ base outer h₀ → Fr h₀ L s.heap m → (hd.heap_1_1 w.params).In h₀ → News h₀ L s.heap news →
    Top hd.view_1_2 (looseW hd.view_1_2 [Str.ofString "PostError", Str.ofString "CHARSETS"]) mean mg mb h₀ → cs.kind = .function →
    dp + rk < recursionLimit → un + 8 * rk < cLine →
    (∀ e t vs C h' tk' g, Fr h₀ L g m → RaisedK base (envX cn cs L a ccd cl :: outer) e (.ref C) t vs keep h' → g.UpToSlots h' → (C = 95 ∨ C = 119) → E (.ref e) { s with heap := h', toks := tk' }) →
    wpAny (model PySem.Challenge.rw_nz0327_01.row.prog w) (ktrTop dp un gd cn cs L a ccd cl outer) (call (.ref f) vs) Q E s
theorem say_PJ_0 : True := by
  k_with "lvFl" => (k_here; k_dflt (refine' leave_faultL ?K ?F ?N ?h1 ?h2 ?hkp ?_ ?hk; (case K => assumption); (case F => k_asm); (case N => k_asm); (case h1 => exact .tail _ (.head _)); (case h2 => exact .head _); (case hkp => (repeat (first | assumption | apply Keep.more))); (case hk => exact rfl); k_whole))
  trivial
section PartJ
  local macro_rules | `(tactic| walk_at "leaving ref") => `(tactic| (k_extra "lvFl"; intro h' R' U'; (try dsimp only at R' U' ⊢)))
theorem one_miss (w : World) (mean : ExcName → Option Value) (mg mb : Str → Option Value) (rest keep : CbLed) (wa dx : Nat) (x : WTok) (D : Array UInt8) (p : Int) (W : Str) (t t2 : Tok) (hkeep : Keep keep rest) (hW : isKn W = false) :
   CtrL w mean mg mb 13 431 [.str W t, .str (Str.ofString "ARRIVAL CC DATE FROM SIZE SUBJECT TO DISPLAYFROM REVERSE") t2, .ref wa] (WL wa dx x D p rest) keep := by
  unfold CtrL
  k_fill
  intro dp un gd cn cs a ccd cl outer A₀ base h₀ L m s Q E B F X N T hk hdp hun hexc
  refine wpAny_call ?_
  k_dflt cell_enter
  k_steps
  · rename (_ = true) => hf
    have hf' : isKn W = true := hf
    rw [hW] at hf'
    cases hf'
  · refine Hold.mk ?_
    refine exec_raise (exC95 w) rfl ?_
    k_steps
    refine raise_to (by k_asm) (by k_asm) (by k_asm) (.tail _ (.head _)) ?_
    k_steps
    exact hexc _ _ _ _ _ _ _ (by assumption) (by assumption) (by assumption) (.inl rfl)
end PartJ


theorem tidy_PK : True := by
  w_top off
  trivial
local macro_rules | `(tactic| cell_enter) => `(tactic| (refine' code_defC ?k1 ?k2 ?k3 ?k4 ?k5 ?kA ?kF ?kK ?k6 ?k7 ?k8 ?k9 ?kB ?kD ?_ ?c2 ?c3 ?c4; (case kA => exact rfl); (case kF => exact rfl); (case kK => first | assumption | exact rfl); (case k1 => k_asm); (case k2 => k_asm); (case k3 => k_asm); (case k4 => k_asm); (case k5 => k_asm); (case k6 => k_is); (case k7 => k_is); (case k8 => ktr_room); (case k9 => first | exact BindsTo.of_eq rfl | exact binds_K (by k_in) rfl (by k_is) rfl rfl rfl); (case kB => exact rfl); (case kD => decide +kernel); (case c2 => exact rfl); (case c3 => exact rfl); (case c4 => exact rfl); k_whole; intro g' L' h' tk' cells' FG' F' N' Y' B' X' T' l1; (try k_lt l1); k_cells Y'; (try simp only [List.cons_append, List.nil_append] at N'); (try dsimp only); (try k_lift B'); (try k_fold)))
theorem wl_front1 {h₀ h : Heap} {L : Addr} {a : Addr × Obj} {wa dx : Nat} {x : WTok} {D : Array UInt8} {p : Int} {rest : CbLed} (N : News h₀ L h (a :: WL wa dx x D p rest)) : News h₀ L h (WL wa dx x D p (a :: rest)) := fun q hq => by
  refine N q ?_
  rcases List.mem_cons.mp hq with rfl | hq
  · exact .tail _ (.head _)
  rcases List.mem_cons.mp hq with rfl | hq
  · exact .tail _ (.tail _ (.head _))
  rcases List.mem_cons.mp hq with rfl | hq
  · exact .head _
  · exact .tail _ (.tail _ (.tail _ hq))
theorem wl_front {h₀ h : Heap} {L : Addr} {pre : CbLed} {wa dx : Nat} {x : WTok} {D : Array UInt8} {p : Int} {rest : CbLed} (N : News h₀ L h (pre ++ WL wa dx x D p rest)) : News h₀ L h (WL wa dx x D p (pre ++ rest)) := fun q hq => by
  refine N q ?_
  rcases List.mem_cons.mp hq with rfl | hq
  · exact List.mem_append_right _ (.head _)
  rcases List.mem_cons.mp hq with rfl | hq
  · exact List.mem_append_right _ (.tail _ (.head _))
  rcases List.mem_append.mp hq with hq | hq
  · exact List.mem_append_left _ hq
  · exact List.mem_append_right _ (.tail _ (.tail _ hq))
theorem strs_at {vs : List Value} {ys : List Str} (h : StrsAre vs ys) : ∀ {i : Nat} {v : Value}, vs[i]? = some v → ∃ y t, ys[i]? = some y ∧ v = .str y t := by
  induction h with
  | nil => intro i v h; simp at h
  | cons y t _ ih =>
    intro i v h
    cases i with
    | zero => exact ⟨y, t, rfl, by simpa using h.symm⟩
    | succ j => exact ih (by simpa using h)
theorem ctrL_use {w : World} {mean : ExcName → Option Value} {mg mb : Str → Option Value} {rk : Nat} {f : Addr} {vs : List Value} {news keep : CbLed} (c : CtrL w mean mg mb rk f vs news keep)
    {dp un : Nat} {gd : Option (List Code)} {cn : Str} {cs : Scope} {a : Addr} {ccd : Value} {cl : List (Str × Addr)} {outer : List Env} {A₀ : Around} {base h₀ : Heap} {L : Addr} {m : Str → Option Value} {s : Shared} {Q E : Value → Shared → Prop}
    (B : Below A₀ base outer h₀) (F : Fr h₀ L s.heap m) (X : (hd.heap_1_1 w.params).In h₀) (N : News h₀ L s.heap news)
    (T : Top hd.view_1_2 (looseW hd.view_1_2 [Str.ofString "PostError", Str.ofString "CHARSETS"]) mean mg mb h₀) (hk : cs.kind = .function)
    (hdp : dp + rk < recursionLimit) (hun : un + 8 * rk < cLine)
    (exc : ∀ e t vs C h' tk' g, Fr h₀ L g m → RaisedK base (envX cn cs L a ccd cl :: outer) e (.ref C) t vs keep h' → g.UpToSlots h' → (C = 95 ∨ C = 119) → E (.ref e) { s with heap := h', toks := tk' }) :
    wpAny (model PySem.Challenge.rw_nz0327_01.row.prog w) (ktrTop dp un gd cn cs L a ccd cl outer) (call (.ref f) vs) Q E s :=
  c dp un gd cn cs a ccd cl outer A₀ base h₀ L m s Q E B F X N T hk hdp hun exc
theorem strs_of {vs : List Value} : ∀ {ys : List Str}, vs.length = ys.length → (∀ (i : Nat) (v : Value), vs[i]? = some v → ∃ y t, ys[i]? = some y ∧ v = .str y t) → StrsAre vs ys := by
  induction vs with
  | nil => intro ys hl _; cases ys with
    | nil => exact .nil
    | cons a r => simp at hl
  | cons v vs ih =>
    intro ys hl h
    cases ys with
    | nil => simp at hl
    | cons y ys =>
      obtain ⟨y', t, e1, e2⟩ := h 0 v rfl
      have : y = y' := by simpa using e1
      subst this
      subst e2
      exact .cons _ _ (ih (by simpa using hl) fun i v hv => by
        have := h (i + 1) v (by simpa using hv)
        simpa using this)
section PartK
  local macro_rules | `(tactic| walk_at "call ref") => `(tactic| (k_here; (with_reducible show wpAny _ _ (call (Value.ref 696) _) _ _ _); refine Hold.out ?_))
  local macro_rules | `(tactic| walk_at "call ref") => `(tactic| (k_here; (with_reducible show wpAny _ _ (call (Value.ref 431) _) _ _ _); refine Hold.out ?_))
theorem words_c (w : World) (mean : ExcName → Option Value) (mg mb : Str → Option Value) (rest : CbLed) (wa dx : Nat) (x : WTok) (D : Array UInt8) (ks : List Int) (p : Int) (u : List Int) (us : List (List Int)) (v : List Int) (t2 : Tok)
    (hne : dx ≠ wa) (hr : ∀ q ∈ rest, q.1 ≠ dx) (hD : KBw.bInts D = ks) (hlen : ks.length ≤ 10000) (hat : At ks p (40 :: (u ++ (tailW us ++ 41 :: v)))) (hus : ∀ z ∈ u :: us, z ≠ [] ∧ ∀ c ∈ z, isAtomB c = true) (hql : us.length ≤ 1000) :
   Ctr w mean mg mb 25 436 [.ref wa, .str (Str.ofString "ARRIVAL CC DATE FROM SIZE SUBJECT TO DISPLAYFROM REVERSE") t2] (WL wa dx x D p rest) (fun r nx => (∀ z ∈ u :: us, isKn (upS (strOf z)) = true) ∧ ∃ l vs x' p', r = .ref l ∧ StrsAre vs ((u :: us).map fun z => upS (strOf z)) ∧ At ks p' v ∧ nx = WL wa dx x' D p' ((l, tupObj vs) :: rest)) (∃ z ∈ u :: us, isKn (upS (strOf z)) = false) := by
  unfold Ctr
  k_fill
  intro dp un gd cn cs a ccd cl outer A₀ base h₀ L m s Q E B F X N T hk hdp hun hret hexc
  refine wpAny_call ?_
  k_dflt cell_enter
  k_steps
  refine Hold.mk ?_
  rename_i g5 L5 h5 tk5 FG5 F5 B5 X5 T5 l5 o1 o2 d1 d2 N5
  have N6 : News g5 L5 h5 (WL wa dx x D p ((L5 + 1 + 1, o1) :: (L5 + 1, o2) :: rest)) := fun q hq => N5 q (by
    rcases List.mem_cons.mp hq with rfl | hq
    · exact .tail _ (.tail _ (.head _))
    rcases List.mem_cons.mp hq with rfl | hq
    · exact .tail _ (.tail _ (.tail _ (.head _)))
    rcases List.mem_cons.mp hq with rfl | hq
    · exact .head _
    rcases List.mem_cons.mp hq with rfl | hq
    · exact .tail _ (.head _)
    · exact .tail _ (.tail _ (.tail _ (.tail _ hq))))
  clear N5
  have hL5 : dx < L5 := l5.2.1
  have hr6 : ∀ q ∈ (L5 + 1 + 1, o1) :: (L5 + 1, o2) :: rest, q.1 ≠ dx := fun q hq => by
    rcases List.mem_cons.mp hq with rfl | hq
    · exact Nat.ne_of_gt (Nat.lt_succ_of_lt (Nat.lt_succ_of_lt hL5))
    rcases List.mem_cons.mp hq with rfl | hq
    · exact Nat.ne_of_gt (Nat.lt_succ_of_lt hL5)
    · exact hr q hq
  refine' comp_R (R := ∃ z ∈ u :: us, isKn (upS (strOf z)) = false) (base := base) (outer := envX cn cs L a ccd cl :: outer) (fun i y => ∃ t z, (u :: us)[i]? = some z ∧ isKn (upS (strOf z)) = true ∧ y = .str (upS (strOf z)) t) F5 ?hfr ?hf ?hh ?hclos ?hcell ?hkind ?hnames ?hx ?_ ?hb0 ?hER ?hs
  case hf => exact rfl
  case hfr => exact rfl
  case hh => exact rfl
  case hclos => with_unfolding_all rfl
  case hcell => decide
  case hkind => rfl
  case hnames => decide
  case hx => rfl
  case hs => intro _; rfl
  case hb0 => exact fun C hC => fresh_of_stays B5.stays hC
  case hER =>
    intro e cls t vs g h' tk' Fg R U hcc hR
    exact leave_held rfl Fg R U fun h2 R2 U2 => hexc e t vs cls [] h2 _ g5 hR FG5 R2 U2 hcc
  k_steps
  refine Hold.mk ?_
  rename_i q7 h7 F7 N7 l7
  have hr7 : ∀ q ∈ (q7, methodObj (.ref 612) (.ref wa)) :: (L5 + 1 + 1, o1) :: (L5 + 1, o2) :: rest, q.1 ≠ dx := fun q hq => by
    rcases List.mem_cons.mp hq with rfl | hq
    · exact Nat.ne_of_gt l7.2.1
    · exact hr6 q hq
  k_dflt (refine' ctr_useN (lists_c w mean mg mb ((q7, methodObj (.ref 612) (.ref wa)) :: (L5 + 1 + 1, o1) :: (L5 + 1, o2) :: rest) wa dx x D ks p u us v q7 hne hr7 hD hlen hat hus hql (.head _)) ?k1 ?k2 ?k3 ?k4 ?k5 ?kK ?kd ?ku ?_)
  case k2 => exact F7
  case k4 => exact wl_front1 N7
  case k1 => k_asm
  case k3 => k_asm
  case k5 => k_asm
  case kK => first | exact rfl | assumption
  case kd => ktr_room
  case ku => ktr_units
  intro r nx h8 tk8 F8 N8 P8
  refine @ex5 _ _ _ _ _ _ _ P8 fun l vs n x8 p8 hz => @an4 _ _ _ _ _ hz fun ehzq1 hvs hat8 ehzq2 => ?_
  clear hz P8
  subst ehzq1
  subst ehzq2
  have hl8 : vs.length = (u :: us).length := by
    have : ∀ (vs : List Value) (ys : List Str), StrsAre vs ys → vs.length = ys.length := fun vs ys h => by
      induction h with
      | nil => rfl
      | cons _ _ _ ih => rw [List.length_cons, List.length_cons, ih]
    rw [this _ _ hvs, List.length_map]
  refine ⟨l, vs.toArray, n, WL wa dx x8 D p8 ((q7, methodObj (.ref 612) (.ref wa)) :: (L5 + 1 + 1, o1) :: (L5 + 1, o2) :: rest), h8, tk8, rfl, rfl, F8, ?_, ?_, ?_, ?_⟩
  · exact fun q hq => N8 q (by
      rcases List.mem_cons.mp hq with rfl | hq
      · exact .tail _ (.tail _ (.head _))
      rcases List.mem_cons.mp hq with rfl | hq
      · exact .head _
      rcases List.mem_cons.mp hq with rfl | hq
      · exact .tail _ (.head _)
      · exact .tail _ (.tail _ (.tail _ hq)))
  · rw [List.size_toArray, hl8, List.length_cons]; omega
  · intro i y I oI C oC DD m2 ys h9 tk9 hy hC hx9 F9 N9 off ne
    obtain ⟨W, t9, hW, rfl⟩ := strs_at hvs (i := i) (v := y) (by simpa using hy)
    obtain ⟨z, hz, rfl⟩ : ∃ z, (u :: us)[i]? = some z ∧ upS (strOf z) = W := by
      rw [List.getElem?_map] at hW
      cases q : (u :: us)[i]? with
      | none => rw [q] at hW; cases hW
      | some z => rw [q] at hW; exact ⟨z, rfl, by simpa using hW⟩
    have d1' : o1.data = .cell (some (.str (Str.ofString "ARRIVAL CC DATE FROM SIZE SUBJECT TO DISPLAYFROM REVERSE") t2)) := d1
    have d2' : o2.data = .cell (some (.ref wa)) := d2
    clear d1 d2
    k_steps
    refine Hold.mk ?_
    cases hk2 : isKn (upS (strOf z)) with
    | true =>
      k_dflt (refine' ctr_useN (one_hit w mean mg mb ((I, oI) :: (C, oC) :: (DD, LCg.lst ys) :: (l, listOf vs.toArray n) :: WL wa dx x8 D p8 ((q7, methodObj (.ref 612) (.ref wa)) :: (L5 + 1 + 1, o1) :: (L5 + 1, o2) :: rest)) (upS (strOf z)) t9 t2 (.ref wa) hk2) ?k1 ?k2 ?k3 ?k4 ?k5 ?kK ?kd ?ku ?_)
      case k2 => exact F9
      case k4 => exact N9
      case k1 => k_asm
      case k3 => k_asm
      case k5 => k_asm
      case kK => first | exact rfl | assumption
      case kd => ktr_room
      case ku => ktr_units
      intro r nx h10 tk10 F10 N10 P10
      obtain ⟨rfl, t10, rfl⟩ := P10
      exact ⟨h10, tk10, rfl, F10, N10, t10, z, hz, hk2, rfl⟩
    | false =>
      have hkeep : Keep [(C, oC)] ([(I, oI), (C, oC), (DD, LCg.lst ys), (l, listOf vs.toArray n)] ++ ((q7, methodObj (.ref 612) (.ref wa)) :: (L5 + 1 + 1, o1) :: (L5 + 1, o2) :: rest)) := fun q hq => by
        rw [List.mem_singleton.mp hq]
        refine ⟨.tail _ (.head _), fun vs n e => ?_, fun vs e => ?_⟩
        all_goals (obtain ⟨es, ep, h1, h2⟩ := hC; first | (rw [h1] at e; cases e) | (rw [h2.1] at e; cases e))
      k_dflt (refine' ctrL_use (one_miss w mean mg mb ([(I, oI), (C, oC), (DD, LCg.lst ys), (l, listOf vs.toArray n)] ++ ((q7, methodObj (.ref 612) (.ref wa)) :: (L5 + 1 + 1, o1) :: (L5 + 1, o2) :: rest)) [(C, oC)] wa dx x8 D p8 (upS (strOf z)) t9 t2 hkeep hk2) ?k1 ?k2 ?k3 ?k4 ?k5 ?kK ?kd ?ku ?_)
      case k2 => exact F9
      case k4 => exact wl_front (pre := [(I, oI), (C, oC), (DD, LCg.lst ys), (l, listOf vs.toArray n)]) N9
      case k1 => k_asm
      case k3 => k_asm
      case k5 => k_asm
      case kK => first | exact rfl | assumption
      case kd => ktr_room
      case ku => ktr_units
      intro e t vs' C' h10 tk10 g Fg R U hcc
      exact ⟨e, C', t, vs', _, g, h10, tk10, rfl, rfl, .head _, Fg, R, U, hcc, z, List.mem_of_getElem? hz, hk2⟩
  · intro DD ys h9 tk9 F9 N9 off hlen9 hG
    k_steps
    rename_i lT hT F10 N10 k10 F11 N11 T11 X11
    refine hret _ (WL wa dx x8 D p8 ((lT, tupObj ys) :: rest)) _ _ F11 (fun q hq => N11 q ?_) ⟨fun z hz => ?_, lT, ys, x8, p8, rfl, ?_, hat8, rfl⟩
    · rcases List.mem_cons.mp hq with rfl | hq
      · exact .tail _ (.tail _ (.tail _ (.head _)))
      rcases List.mem_cons.mp hq with rfl | hq
      · exact .tail _ (.tail _ (.tail _ (.tail _ (.head _))))
      rcases List.mem_cons.mp hq with rfl | hq
      · exact .head _
      · repeat (first | assumption | apply List.Mem.tail)
    · obtain ⟨i, hi, hi2⟩ := List.mem_iff_getElem.mp hz
      have hys : i < ys.length := by rw [hlen9, List.size_toArray, hl8]; exact hi
      obtain ⟨t, z', e1, e2, _⟩ := hG i ys[i] (List.getElem?_eq_getElem hys)
      rw [List.getElem?_eq_getElem hi, hi2] at e1
      rw [Option.some.inj e1]
      exact e2
    · refine strs_of (by rw [hlen9, List.size_toArray, hl8, List.length_map]) fun i y hy => ?_
      obtain ⟨t, z', e1, _, e2⟩ := hG i y hy
      exact ⟨_, t, by rw [List.getElem?_map, e1]; rfl, e2⟩
end PartK


theorem tidy_PL : True := by
  w_top off
  trivial
theorem leave_onC {M : Model} {A : Around} {E : Value → Shared → Prop} {s' : Shared} {base g g₂ : Heap} {outer : List Env} {env : Env} {L e t : Addr} {m : Str → Option Value} {Q : Unit → Shared → Prop} {news : List (Addr × Obj)} {cls : Value} {vs : List Value}
    (hfr : A.frames = some (env :: outer)) (hf : env.frame = some L) (F : Fr g L g₂ m) (R : RaisedK base (env :: outer) e cls t vs news s'.heap) (hsm : g₂.UpToSlots s'.heap)
    (hQ : ∀ h', RaisedK base outer e cls t vs news h' → g.UpToSlots h' → Q () { s' with heap := h' }) :
    wpAny M A (leaving env (.ref e)) Q E s' := by
  obtain ⟨⟨B, hB, hl, hfl, hnew⟩, htup⟩ := R
  exact wpAny_leaves_onW hfr hf hfl fun h' x1 x2 => hQ h' ⟨⟨B, hB, hl, x1, hnew⟩, htup.of_slots x2⟩ ((Heap.UpToSlots.of_keeps F.keep).trans (hsm.trans x2))
theorem lists_miss (w : World) (mean : ExcName → Option Value) (mg mb : Str → Option Value) (rest : CbLed) (wa dx : Nat) (x : WTok) (D : Array UInt8) (ks : List Int) (p : Int) (R : List Int) (q : Nat)
    (hne : dx ≠ wa) (hr : ∀ q ∈ rest, q.1 ≠ dx) (hD : KBw.bInts D = ks) (hlen : ks.length ≤ 10000) (hat : At ks p R) (hm : R.head? ≠ some 40) :
   Ctr w mean mg mb 16 696 [.ref wa, .ref q] (WL wa dx x D p rest) (fun _ _ => False) True := by
  unfold Ctr
  k_fill
  intro dp un gd cn cs a ccd cl outer A₀ base h₀ L m s Q E B F X N T hk hdp hun hret hexc
  refine wpAny_call ?_
  k_dflt cell_enter
  k_steps
  exact hexc _ _ _ _ _ _ _ _ trivial (by assumption) (by assumption) (by assumption) (by assumption)
section PartL
  local macro_rules | `(tactic| walk_at "call ref") => `(tactic| (k_here; (with_reducible show wpAny _ _ (call (Value.ref 696) _) _ _ _); refine Hold.out ?_))
theorem words_miss (w : World) (mean : ExcName → Option Value) (mg mb : Str → Option Value) (rest : CbLed) (wa dx : Nat) (x : WTok) (D : Array UInt8) (ks : List Int) (p : Int) (R : List Int) (t2 : Tok)
    (hne : dx ≠ wa) (hr : ∀ q ∈ rest, q.1 ≠ dx) (hD : KBw.bInts D = ks) (hlen : ks.length ≤ 10000) (hat : At ks p R) (hm : R.head? ≠ some 40) :
   Ctr w mean mg mb 25 436 [.ref wa, .str (Str.ofString "ARRIVAL CC DATE FROM SIZE SUBJECT TO DISPLAYFROM REVERSE") t2] (WL wa dx x D p rest) (fun _ _ => False) True := by
  unfold Ctr
  k_fill
  intro dp un gd cn cs a ccd cl outer A₀ base h₀ L m s Q E B F X N T hk hdp hun hret hexc
  refine wpAny_call ?_
  k_dflt cell_enter
  k_steps
  refine Hold.mk ?_
  rename_i g5 L5 h5 tk5 FG5 F5 B5 X5 T5 l5 o1 o2 d1 d2 N5
  have N6 : News g5 L5 h5 (WL wa dx x D p ((L5 + 1 + 1, o1) :: (L5 + 1, o2) :: rest)) := fun q hq => N5 q (by
    rcases List.mem_cons.mp hq with rfl | hq
    · exact .tail _ (.tail _ (.head _))
    rcases List.mem_cons.mp hq with rfl | hq
    · exact .tail _ (.tail _ (.tail _ (.head _)))
    rcases List.mem_cons.mp hq with rfl | hq
    · exact .head _
    rcases List.mem_cons.mp hq with rfl | hq
    · exact .tail _ (.head _)
    · exact .tail _ (.tail _ (.tail _ (.tail _ hq))))
  clear N5
  have hL5 : dx < L5 := l5.2.1
  have hr6 : ∀ q ∈ (L5 + 1 + 1, o1) :: (L5 + 1, o2) :: rest, q.1 ≠ dx := fun q hq => by
    rcases List.mem_cons.mp hq with rfl | hq
    · exact Nat.ne_of_gt (Nat.lt_succ_of_lt (Nat.lt_succ_of_lt hL5))
    rcases List.mem_cons.mp hq with rfl | hq
    · exact Nat.ne_of_gt (Nat.lt_succ_of_lt hL5)
    · exact hr q hq
  refine' comp_R (R := True) (base := base) (outer := envX cn cs L a ccd cl :: outer) (fun i y => True) F5 ?hfr ?hf ?hh ?hclos ?hcell ?hkind ?hnames ?hx ?_ ?hb0 ?hER ?hs
  case hf => exact rfl
  case hfr => exact rfl
  case hh => exact rfl
  case hclos => with_unfolding_all rfl
  case hcell => decide
  case hkind => rfl
  case hnames => decide
  case hx => rfl
  case hs => intro _; rfl
  case hb0 => exact fun C hC => fresh_of_stays B5.stays hC
  case hER =>
    intro e cls t vs g h' tk' Fg R U hcc hR
    exact leave_held rfl Fg R U fun h2 R2 U2 => hexc e t vs cls [] h2 _ g5 hR FG5 R2 U2 hcc
  k_steps
  refine Hold.mk ?_
  rename_i q7 h7 F7 N7 l7
  have hr7 : ∀ q ∈ (q7, methodObj (.ref 612) (.ref wa)) :: (L5 + 1 + 1, o1) :: (L5 + 1, o2) :: rest, q.1 ≠ dx := fun q hq => by
    rcases List.mem_cons.mp hq with rfl | hq
    · exact Nat.ne_of_gt l7.2.1
    · exact hr6 q hq
  k_dflt (refine' ctr_useR (lists_miss w mean mg mb ((q7, methodObj (.ref 612) (.ref wa)) :: (L5 + 1 + 1, o1) :: (L5 + 1, o2) :: rest) wa dx x D ks p R q7 hne hr7 hD hlen hat hm) ?k1 ?k2 ?k3 ?k4 ?k5 ?kK ?kd ?ku ?_)
  case k2 => exact F7
  case k4 => exact wl_front1 N7
  case k1 => k_asm
  case k3 => k_asm
  case k5 => k_asm
  case kK => first | exact rfl | assumption
  case kd => ktr_room
  case ku => ktr_units
  intro e' t' vs' C' lg' h' tk' g' F' R' U' c'
  exact leave_onC rfl rfl F' R' U' fun h2 R2 U2 => hexc _ _ _ _ _ _ _ _ trivial FG5 R2 U2 c'
theorem words0_c (w : World) (mean : ExcName → Option Value) (mg mb : Str → Option Value) (rest : CbLed) (wa dx : Nat) (x : WTok) (D : Array UInt8) (ks : List Int) (p : Int) (v : List Int) (t2 : Tok)
    (hne : dx ≠ wa) (hr : ∀ q ∈ rest, q.1 ≠ dx) (hD : KBw.bInts D = ks) (hlen : ks.length ≤ 10000) (hat : At ks p (40 :: 41 :: v)) :
   Ctr w mean mg mb 25 436 [.ref wa, .str (Str.ofString "ARRIVAL CC DATE FROM SIZE SUBJECT TO DISPLAYFROM REVERSE") t2] (WL wa dx x D p rest) (fun r nx => ∃ l x' p', r = .ref l ∧ At ks p' v ∧ nx = WL wa dx x' D p' ((l, tupObj []) :: rest)) False := by
  unfold Ctr
  k_fill
  intro dp un gd cn cs a ccd cl outer A₀ base h₀ L m s Q E B F X N T hk hdp hun hret hexc
  refine wpAny_call ?_
  k_dflt cell_enter
  k_steps
  refine Hold.mk ?_
  rename_i g5 L5 h5 tk5 FG5 F5 B5 X5 T5 l5 o1 o2 d1 d2 N5
  have N6 : News g5 L5 h5 (WL wa dx x D p ((L5 + 1 + 1, o1) :: (L5 + 1, o2) :: rest)) := fun q hq => N5 q (by
    rcases List.mem_cons.mp hq with rfl | hq
    · exact .tail _ (.tail _ (.head _))
    rcases List.mem_cons.mp hq with rfl | hq
    · exact .tail _ (.tail _ (.tail _ (.head _)))
    rcases List.mem_cons.mp hq with rfl | hq
    · exact .head _
    rcases List.mem_cons.mp hq with rfl | hq
    · exact .tail _ (.head _)
    · exact .tail _ (.tail _ (.tail _ (.tail _ hq))))
  clear N5
  have hL5 : dx < L5 := l5.2.1
  have hr6 : ∀ q ∈ (L5 + 1 + 1, o1) :: (L5 + 1, o2) :: rest, q.1 ≠ dx := fun q hq => by
    rcases List.mem_cons.mp hq with rfl | hq
    · exact Nat.ne_of_gt (Nat.lt_succ_of_lt (Nat.lt_succ_of_lt hL5))
    rcases List.mem_cons.mp hq with rfl | hq
    · exact Nat.ne_of_gt (Nat.lt_succ_of_lt hL5)
    · exact hr q hq
  refine' comp_R (R := False) (base := base) (outer := envX cn cs L a ccd cl :: outer) (fun i y => True) F5 ?hfr ?hf ?hh ?hclos ?hcell ?hkind ?hnames ?hx ?_ ?hb0 ?hER ?hs
  case hf => exact rfl
  case hfr => exact rfl
  case hh => exact rfl
  case hclos => with_unfolding_all rfl
  case hcell => decide
  case hkind => rfl
  case hnames => decide
  case hx => rfl
  case hs => intro _; rfl
  case hb0 => exact fun C hC => fresh_of_stays B5.stays hC
  case hER =>
    intro e cls t vs g h' tk' Fg R U hcc hR
    exact leave_held rfl Fg R U fun h2 R2 U2 => hexc e t vs cls [] h2 _ g5 hR FG5 R2 U2 hcc
  k_steps
  refine Hold.mk ?_
  rename_i q7 h7 F7 N7 l7
  have hr7 : ∀ q ∈ (q7, methodObj (.ref 612) (.ref wa)) :: (L5 + 1 + 1, o1) :: (L5 + 1, o2) :: rest, q.1 ≠ dx := fun q hq => by
    rcases List.mem_cons.mp hq with rfl | hq
    · exact Nat.ne_of_gt l7.2.1
    · exact hr6 q hq
  k_dflt (refine' ctr_useN (list0_c w mean mg mb ((q7, methodObj (.ref 612) (.ref wa)) :: (L5 + 1 + 1, o1) :: (L5 + 1, o2) :: rest) wa dx x D ks p v q7 hne hr7 hD hlen hat) ?k1 ?k2 ?k3 ?k4 ?k5 ?kK ?kd ?ku ?_)
  case k2 => exact F7
  case k4 => exact wl_front1 N7
  case k1 => k_asm
  case k3 => k_asm
  case k5 => k_asm
  case kK => first | exact rfl | assumption
  case kd => ktr_room
  case ku => ktr_units
  intro r nx h8 tk8 F8 N8 P8
  refine @ex2 _ _ _ _ P8 fun l x8 hz => @an3 _ _ _ _ hz fun ehzq1 hat8 ehzq2 => ?_
  clear hz P8
  subst ehzq1
  subst ehzq2
  refine ⟨l, #[], 0, WL wa dx x8 D (p + 1 + 1) ((q7, methodObj (.ref 612) (.ref wa)) :: (L5 + 1 + 1, o1) :: (L5 + 1, o2) :: rest), h8, tk8, rfl, rfl, F8, ?_, ?_, ?_, ?_⟩
  · exact fun q hq => N8 q (by
      rcases List.mem_cons.mp hq with rfl | hq
      · exact .tail _ (.tail _ (.head _))
      rcases List.mem_cons.mp hq with rfl | hq
      · exact .head _
      rcases List.mem_cons.mp hq with rfl | hq
      · exact .tail _ (.head _)
      · exact .tail _ (.tail _ (.tail _ hq)))
  · exact Nat.zero_le _
  · intro i y I oI C oC DD m2 ys h9 tk9 hy hC hx9 F9 N9 off ne
    simp at hy
  · intro DD ys h9 tk9 F9 N9 off hlen9 hG
    have hys : ys = [] := List.length_eq_zero_iff.mp hlen9
    subst hys
    k_steps
    rename_i lT hT F10 N10 k10 F11 N11 T11 X11
    refine hret _ (WL wa dx x8 D (p + 1 + 1) ((lT, tupObj []) :: rest)) _ _ F11 (fun q hq => N11 q ?_) ⟨lT, x8, _, rfl, hat8, rfl⟩
    rcases List.mem_cons.mp hq with rfl | hq
    · exact .tail _ (.tail _ (.tail _ (.head _)))
    rcases List.mem_cons.mp hq with rfl | hq
    · exact .tail _ (.tail _ (.tail _ (.tail _ (.head _))))
    rcases List.mem_cons.mp hq with rfl | hq
    · exact .head _
    · repeat (first | assumption | apply List.Mem.tail)
end PartL


theorem tidy_PN : True := by
  w_top off
  trivial
section
variable {prog : Program} {w : World} {A : Around} {E : Value → Shared → Prop} {s : Shared}
theorem bmb_look : typeLookup (.type "bytes") "__bytes__" = pure (some (.builtin "bytes.__bytes__")) := by rw [typeLookup_type, builtinLookup_eq_fast]; kernel_rfl
theorem bmb_new {U : Array UInt8} {t : Tok} {Q : Value → Shared → Prop} (hQ : Q (.bytes U t) s) :
    codeAny (model prog w) A (.call (.builtin "bytes.__new__") ⟨[.type "bytes", .bytes U t], []⟩) (wants Q E) s := by
  refine codeAny_of_tree ?_
  show wpAny _ A.in1 (do checkBuiltinCall "bytes.__new__" ⟨[.type "bytes", .bytes U t], []⟩; again (.builtin "bytes.__new__" ⟨[.type "bytes", .bytes U t], []⟩)) _ _ s
  refine wpAny_bind (wpAny_of_eq (F.bm_newCall _) (wpAny_pure ⟨plainId_quiet F.bm_plain _, codeAny_builtin F.bm_entry ?_⟩))
  rw [Around.under_plainId F.bm_plain _]
  have hT : s.TypeIs (.bytes U t) "bytes" := rfl
  unfold Builtin.«bytes.__new__»
  refine wpAny_bind (wpAny_of_eq (a := true) rfl ?_)
  refine bm_if_false rfl ?_
  refine wpAny_bind (wpAny_of_eq F.bm_sub ?_)
  refine bm_if_false rfl ?_
  refine wpAny_bind (wpAny_of_eq (F.bm_bind _) ?_)
  refine wpAny_bind (wpAny_of_eq (a := ()) rfl ?_)
  refine wpAny_bind (wpAny_of_eq (a := ()) rfl ?_)
  refine bm_if_false rfl ?_
  refine wpAny_bind (wpAny_specialOf hT bmb_look ?_)
  refine wpAny_bind (wpAny_rule ?_)
  refine wpAny_bind (wpAny_typeOf hT ?_)
  refine bm_if_true rfl ?_
  show wpAny _ _ (if (Value.type "bytes" == Value.type "bytes") = true then _ else _) _ _ _
  refine bm_if_true (by decide) ?_
  first
    | exact wpAny_pure hQ
    | exact wpAny_bind (wpAny_pure (wpAny_pure hQ))
theorem call_bytes_bytes {U : Array UInt8} {t : Tok} {Q : Value → Shared → Prop} (hQ : Q (.bytes U t) s) : wpAny (model prog w) A (call (.type "bytes") [.bytes U t]) Q E s := by
  refine callType_codes (Q₁ := fun obj s₁ => s₁.TypeIs obj "bytes" ∧ Q obj s₁) F.bm_called (F.bm_typeCall _) F.entry_object_init
    (bmb_new ⟨PySem.W.typeIs_bytes _ _ _, hQ⟩) fun obj s₁ h₁ => ?_
  exact ⟨h₁.1, F.args_object_init_2 obj _, object_init_meets F.bm_called.init.lookup F.bm_called.made (by decide) prog w A.in1 _ s₁ ⟨h₁.1, rfl, h₁.2⟩⟩
theorem bma_look : typeLookup (.type "bytearray") "__bytes__" = pure none := by rw [typeLookup_type, builtinLookup_eq_fast]; kernel_rfl
theorem bma_index : typeLookup (.type "bytearray") "__index__" = pure none := by rw [typeLookup_type, builtinLookup_eq_fast]; kernel_rfl
theorem bma_buffer : typeLookup (.type "bytearray") "__buffer__" = pure (some (.builtin "bytearray.__buffer__")) := by rw [typeLookup_type, builtinLookup_eq_fast]; kernel_rfl
theorem bma_rel : typeLookup (.type "bytearray") "__release_buffer__" = pure (some (.builtin "bytearray.__release_buffer__")) := by rw [typeLookup_type, builtinLookup_eq_fast]; kernel_rfl
theorem bma_sub : isSubtype (.type "bytearray") (.type "bytearray") = pure true := by rw [isSubtype_type]; kernel_rfl
theorem own_buf {a : Addr} {Q : Bool → Shared → Prop} (hT : s.TypeIs (.ref a) "bytearray") (h : Q true s) : wpAny (model prog w) A (Builtin.Bytes.slotIsOwn (.ref a) "__buffer__") Q E s := by
  unfold Builtin.Bytes.slotIsOwn
  refine wpAny_bind (wpAny_specialOf hT bma_buffer ?_)
  refine bm_if_false (by decide +kernel) ?_
  have e : ("bytearray.__buffer__".dropRight ("__buffer__".length + 1) : String) = "bytearray" := by decide +kernel
  rw [e]
  exact wpAny_isInstance hT bma_sub h
theorem own_rel {a : Addr} {Q : Bool → Shared → Prop} (hT : s.TypeIs (.ref a) "bytearray") (h : Q true s) : wpAny (model prog w) A (Builtin.Bytes.slotIsOwn (.ref a) "__release_buffer__") Q E s := by
  unfold Builtin.Bytes.slotIsOwn
  refine wpAny_bind (wpAny_specialOf hT bma_rel ?_)
  refine bm_if_false (by decide +kernel) ?_
  have e : ("bytearray.__release_buffer__".dropRight ("__release_buffer__".length + 1) : String) = "bytearray" := by decide +kernel
  rw [e]
  exact wpAny_isInstance hT bma_sub h
theorem bma_new {a : Addr} {o : Obj} {U : Array UInt8} {Q : Value → Shared → Prop} (ho : s.heap.get? a = some o) (hc : o.cls = .type "bytearray") (hd : o.data = .bytearray U) (hz : U.size ≤ sizeLine) (hQ : ∀ t k, Q (.bytes U t) { s with toks := k }) :
    codeAny (model prog w) A (.call (.builtin "bytes.__new__") ⟨[.type "bytes", .ref a], []⟩) (wants Q E) s := by
  refine codeAny_of_tree ?_
  show wpAny _ A.in1 (do checkBuiltinCall "bytes.__new__" ⟨[.type "bytes", .ref a], []⟩; again (.builtin "bytes.__new__" ⟨[.type "bytes", .ref a], []⟩)) _ _ s
  refine wpAny_bind (wpAny_of_eq (F.bm_newCall _) (wpAny_pure ⟨plainId_quiet F.bm_plain _, codeAny_builtin F.bm_entry ?_⟩))
  rw [Around.under_plainId F.bm_plain _]
  have hT : s.TypeIs (.ref a) "bytearray" := ⟨o, ho, hc⟩
  unfold Builtin.«bytes.__new__»
  refine wpAny_bind (wpAny_of_eq (a := true) rfl ?_)
  refine bm_if_false rfl ?_
  refine wpAny_bind (wpAny_of_eq F.bm_sub ?_)
  refine bm_if_false rfl ?_
  refine wpAny_bind (wpAny_of_eq (F.bm_bind _) ?_)
  refine wpAny_bind (wpAny_of_eq (a := ()) rfl ?_)
  refine wpAny_bind (wpAny_of_eq (a := ()) rfl ?_)
  refine bm_if_false rfl ?_
  refine wpAny_bind (wpAny_specialOf hT bma_look ?_)
  refine wpAny_bind (wpAny_bind ?_)
  show wpAny _ _ (load a >>= _) _ _ _
  refine wpAny_bind (wpAny_load ho ?_)
  rw [hd]
  refine wpAny_pure (wpAny_pure ?_)
  refine bm_if_false rfl ?_
  refine wpAny_bind (wpAny_specialOf hT bma_index ?_)
  refine bm_if_true rfl ?_
  first
    | show wpAny _ _ (Builtin.Bytes.buffer? "bytes.__new__" (.ref a) true >>= _) _ _ _
    | (refine wpAny_bind ?_; show wpAny _ _ (Builtin.Bytes.buffer? "bytes.__new__" (.ref a) true >>= _) _ _ _)
  refine wpAny_bind ?_
  unfold Builtin.Bytes.buffer?
  refine wpAny_bind (wpAny_specialOf hT bma_buffer ?_)
  refine wpAny_bind (own_buf hT ?_)
  refine bm_if_false rfl ?_
  refine wpAny_bind (wpAny_specialOf hT bma_buffer ?_)
  unfold Builtin.Bytes.ownRelease
  refine wpAny_bind (wpAny_bind (own_rel hT ?_))
  refine wpAny_pure ?_
  refine bm_if_false rfl ?_
  unfold Builtin.Bytes.payload Builtin.Bytes.payload?
  refine wpAny_bind (wpAny_bind (wpAny_bind (wpAny_load ho ?_)))
  rw [hd]
  refine wpAny_pure (wpAny_pure ?_)
  refine wpAny_pure ?_
  refine wpAny_bind (wpAny_rule ?_)
  refine wpAny_bind (wpAny_mkBytes ?_ hz)
  show wpAny _ _ (if (Value.type "bytes" == Value.type "bytes") = true then _ else _) _ _ _
  refine bm_if_true (by decide) ?_
  first
    | exact wpAny_pure (hQ _ _)
    | exact wpAny_bind (wpAny_pure (wpAny_pure (hQ _ _)))
end
theorem say_PN_0 : True := by
  k_with "call type:bytes" => (k_here; (with_reducible show wpAny _ _ (call (Value.type "bytes") [Value.bytes _ _]) _ _ _); refine call_bytes_bytes ?_)
  trivial
theorem ast_lt {c : Int} (h : isAst c = true) : 33 ≤ c ∧ c < 127 ∧ c ≠ 34 ∧ c ≠ 123 := by
  have h0 : 33 ≤ c ∧ c ≤ 126 := by
    simp only [isAst, isAtomB, isPr, Bool.or_eq_true, Bool.and_eq_true, decide_eq_true_iff] at h
    rcases h with h | h
    · exact ⟨by omega, by omega⟩
    · simp at h; omega
  refine ⟨h0.1, by omega, fun e => ?_, fun e => ?_⟩
  · subst e; revert h; decide
  · subst e; revert h; decide
section PartN
theorem astr_run (w : World) (mean : ExcName → Option Value) (mg mb : Str → Option Value) (rest : CbLed) (wa dx : Nat) (x : WTok) (D : Array UInt8) (ks : List Int) (p : Int) (c : Int) (u v R : List Int)
    (hne : dx ≠ wa) (hr : ∀ q ∈ rest, q.1 ≠ dx) (hD : KBw.bInts D = ks) (hlen : ks.length ≤ 10000) (hat2 : At ks p (u ++ v)) (hu : ∀ z ∈ u, isAst z = true) (hv : ∀ c, v.head? = some c → isAst c = false) (hc : c ∈ u) (hat : At ks p (c :: R)) :
   Ctr w mean mg mb 20 675 [.ref wa] (WL wa dx x D p rest) (fun r nx => ∃ U t x', r = .bytes U t ∧ KBw.bInts U = u ∧ At ks (p + u.length) v ∧ nx = WL wa dx x' D (p + u.length) rest) False := by
  unfold Ctr
  k_fill
  intro dp un gd cn cs a ccd cl outer A₀ base h₀ L m s Q E B F X N T hk hdp hun hret hexc
  refine wpAny_call ?_
  k_dflt cell_enter
  have hul : u.length ≤ 10000 := by
    have := hat2.add (Nat.le_refl u.length)
    have h1 := this.2.1
    have h0 := hat.1
    omega
  have hu0 : 0 < u.length := List.length_pos_iff.mpr (List.ne_nil_of_mem hc)
  obtain ⟨hc1, hc2, hc3, hc4⟩ := ast_lt (hu c hc)
  k_steps
  · exfalso; omega
  · exfalso; omega
  · exfalso; omega
  · exact hret _ _ _ _ (by assumption) (by assumption) ⟨_, _, _, rfl, by assumption, by assumption, rfl⟩
theorem astr_run_k (w : World) (mean : ExcName → Option Value) (mg mb : Str → Option Value) (rest : CbLed) (wa dx : Nat) (x : WTok) (D : Array UInt8) (ks : List Int) (p : Int) (c : Int) (u v R : List Int)
    (hne : dx ≠ wa) (hr : ∀ q ∈ rest, q.1 ≠ dx) (hD : KBw.bInts D = ks) (hlen : ks.length ≤ 10000) (hat2 : At ks p (u ++ v)) (hu : ∀ z ∈ u, isAst z = true) (hv : ∀ c, v.head? = some c → isAst c = false) (hc : c ∈ u) (hat : At ks p (c :: R)) :
   CtrK w mean mg mb 20 675 [.ref wa] (WL wa dx x D p rest) (fun G => ∀ U t x', (KBw.bInts U = u) → (At ks (p + u.length) v) → G (.bytes U t) (WL wa dx x' D (p + u.length) rest)) :=
  CtrK.of (astr_run w mean mg mb rest wa dx x D ks p c u v R hne hr hD hlen hat2 hu hv hc hat) (by intro G k; rintro r nx ⟨U, t, x', rfl, hc0, hc1, rfl⟩; exact k _ _ _ hc0 hc1)
theorem astr_miss (w : World) (mean : ExcName → Option Value) (mg mb : Str → Option Value) (rest : CbLed) (wa dx : Nat) (x : WTok) (D : Array UInt8) (ks : List Int) (p : Int) (u v : List Int)
    (hne : dx ≠ wa) (hr : ∀ q ∈ rest, q.1 ≠ dx) (hD : KBw.bInts D = ks) (hlen : ks.length ≤ 10000) (hat2 : At ks p (u ++ 32 :: v)) (hu2 : ∀ c ∈ u, isAst c = true) (hv2 : ∀ c, (32 :: v).head? = some c → isAst c = false) (hul : u.length = 0) (hat : At ks p (32 :: v)) :
   Ctr w mean mg mb 20 675 [.ref wa] (WL wa dx x D p rest) (fun _ _ => False) True := by
  unfold Ctr
  k_fill
  intro dp un gd cn cs a ccd cl outer A₀ base h₀ L m s Q E B F X N T hk hdp hun hret hexc
  refine wpAny_call ?_
  k_dflt cell_enter
  k_steps
  · refine Hold.mk ?_
    refine exec_raise (exC95 w) rfl ?_
    k_steps
    refine raise_to (by k_asm) (by k_asm) (by k_asm) (.tail _ (.head _)) ?_
    k_steps
    exact hexc _ _ _ _ _ _ _ _ trivial (by assumption) (by assumption) (by assumption) (.inl rfl)
  · exfalso; omega
end PartN


theorem tidy_PO : True := by
  w_top off
  trivial
theorem in1 {α : Sort _} {p : α → Prop} (a : α) (h : p a) : ∃ a, p a := ⟨a, h⟩
theorem in2 {α β : Sort _} {p : α → β → Prop} (a : α) (b : β) (h : p a b) : ∃ a b, p a b := ⟨a, b, h⟩
theorem in3 {α β γ : Sort _} {p : α → β → γ → Prop} (a : α) (b : β) (c : γ) (h : p a b c) : ∃ a b c, p a b c := ⟨a, b, c, h⟩
theorem in4 {α β γ δ : Sort _} {p : α → β → γ → δ → Prop} (a : α) (b : β) (c : γ) (d : δ) (h : p a b c d) : ∃ a b c d, p a b c d := ⟨a, b, c, d, h⟩
theorem in5 {α β γ δ ε : Sort _} {p : α → β → γ → δ → ε → Prop} (a : α) (b : β) (c : γ) (d : δ) (e : ε) (h : p a b c d e) : ∃ a b c d e, p a b c d e := ⟨a, b, c, d, e, h⟩
theorem in6 {α β γ δ ε ζ : Sort _} {p : α → β → γ → δ → ε → ζ → Prop} (a : α) (b : β) (c : γ) (d : δ) (e : ε) (f : ζ) (h : p a b c d e f) : ∃ a b c d e f, p a b c d e f := ⟨a, b, c, d, e, f, h⟩
theorem in7 {α β γ δ ε ζ η : Sort _} {p : α → β → γ → δ → ε → ζ → η → Prop} (a : α) (b : β) (c : γ) (d : δ) (e : ε) (f : ζ) (g : η) (h : p a b c d e f g) : ∃ a b c d e f g, p a b c d e f g := ⟨a, b, c, d, e, f, g, h⟩
theorem in8 {α β γ δ ε ζ η θ : Sort _} {p : α → β → γ → δ → ε → ζ → η → θ → Prop} (a : α) (b : β) (c : γ) (d : δ) (e : ε) (f : ζ) (g : η) (i : θ) (h : p a b c d e f g i) : ∃ a b c d e f g i, p a b c d e f g i := ⟨a, b, c, d, e, f, g, i, h⟩
theorem in9 {α β γ δ ε ζ η θ ι : Sort _} {p : α → β → γ → δ → ε → ζ → η → θ → ι → Prop} (a : α) (b : β) (c : γ) (d : δ) (e : ε) (f : ζ) (g : η) (i : θ) (j : ι) (h : p a b c d e f g i j) : ∃ a b c d e f g i j, p a b c d e f g i j := ⟨a, b, c, d, e, f, g, i, j, h⟩
section PartO1
open LCg
variable {prog : Program} {w : World} {A : Around} {s : Shared} {env : Env} {h₀ : Heap}
theorem For_tup {E : Value → Shared → Prop} {Q : Flow → Shared → Prop} {x : Str} {px pos : Pos} {iter : Expr} {body : List Stmt} (J : Nat → (Str → Option Value) → CbLed → Prop)
    (hh : A.handled = none) (hx : env.kindOf x = some .local) (hp : (env.scope.kind == .class || (env.scope.kind == .module && env.locals != env.globals)) = false)
    (h : wpAny (model prog w) A (eval iter env) (fun xv s₁ => Hold (∃ (T : Addr) (vs : List Value) (m : Str → Option Value) (news : CbLed) (h1 : Heap) (tk1 : Nat), xv = .ref T ∧ s₁ = { s with heap := h1, toks := tk1 } ∧ Fr h₀ env.locals h1 m ∧
      News h₀ env.locals h1 ((T, tupObj vs) :: news) ∧ J 0 m news ∧
      (∀ (i : Nat) (v : Value) (m₁ : Str → Option Value) (news₁ : CbLed) (h : Heap) (tk : Nat) (I : Addr) (oI : Obj), vs[i]? = some v → J i m₁ news₁ → (∀ p ∈ news₁, p.1 ≠ I) → T ≠ I → Fr h₀ env.locals h (fun y => if y = x then some v else m₁ y) →
        News h₀ env.locals h ((I, oI) :: (T, tupObj vs) :: news₁) →
        wpAny (model prog w) A (execs body env) (fun f s' => Hold (∃ (h' : Heap) (tk' : Nat) (m' : Str → Option Value) (news' : CbLed), f = .next ∧ s' = { s with heap := h', toks := tk' } ∧ Fr h₀ env.locals h' m' ∧
          News h₀ env.locals h' ((I, oI) :: (T, tupObj vs) :: news') ∧ (∀ p ∈ news', p.1 ≠ I) ∧ J (i + 1) m' news')) E { s with heap := h, toks := tk }) ∧
      (∀ (h' : Heap) (tk' : Nat) (m' : Str → Option Value) (news' : CbLed), Fr h₀ env.locals h' m' → News h₀ env.locals h' ((T, tupObj vs) :: news') → J vs.length m' news' → Q .next { s with heap := h', toks := tk' }))) E s)
    (hs : ∀ x, foldedSetIterable iter env x = pure x := by intro _; rfl)
    (hE : PassesOwn (model prog w) A env E := by passes_own) :
    wpAny (model prog w) A (exec (.For (.Name x px) iter body [] pos) env) Q E s := by
  refine wpAny_For (wpAny_mono h (fun xv s₁ h₁ => ?_) fun _ _ e => e) hs
  refine @ex6 _ _ _ _ _ _ _ _ (Hold.out h₁) fun T vs m news h1 tk1 hz => @an7 _ _ _ _ _ _ _ _ hz fun e1 e2 F0 N0 j0 step fin => ?_
  subst e1
  subst e2
  have hTI : T ≠ h1.objs.size := Nat.ne_of_lt (Heap.lt_size (N0 _ (.head _)).1)
  refine wpAny_pyIter_tuple ⟨_, (N0 _ (.head _)).1, rfl, ⟨_, rfl⟩⟩ ?_
  exact loop_W J [(T, tupObj vs)] (Walks.tuple (prog := prog) (w := w) hh h1.objs.size T hTI vs.toArray) hx hp (Nat.ne_of_lt F0.ns.lt) (next_is_new F0) (fun p hp => (List.mem_singleton.mp hp).symm ▸ hTI) tup_go
    ⟨⟨_, Heap.get?_push_size _ rfl, rfl, rfl⟩, ⟨_, Heap.get?_push_of_some _ (N0 _ (.head _)).1, rfl, ⟨_, rfl⟩⟩⟩ (F0.push _) (N0.grown fun _ _ e => Heap.get?_push_of_some _ e) (fun p hp => Nat.ne_of_lt (Heap.lt_size (N0 p (.tail _ hp)).1)) j0
    (fun i v m₁ news₁ h tk oI _ hP hJ off F N => wpAny_passesOwn hE (step i v m₁ news₁ h tk _ oI (by simpa using hP) hJ off hTI F N)) fin
end PartO1
theorem strs_len {vs : List Value} {ys : List Str} (h : StrsAre vs ys) : vs.length = ys.length := by
  induction h with
  | nil => rfl
  | cons _ _ _ ih => rw [List.length_cons, List.length_cons, ih]
theorem tup_strs {h₀ h : Heap} {L T : Addr} {vs : List Value} {news : CbLed} {l : List Str} (_ : News h₀ L h ((T, tupObj vs) :: news)) (a : StrsAre vs l) : StrsAre vs l := a
theorem fold0 {prog : Program} {w : World} {o : Obj} {κ : PySem.KeyKind prog w Str} {l : List Str} {f : List (Str × Value) → Str → List (Str × Value)} {kv : List (Str × Value)} (h : o.IsDictOf κ kv) : o.IsDictOf κ ((l.take 0).foldl f kv) := by rw [List.take_zero]; exact h
theorem foldL {prog : Program} {w : World} {o : Obj} {κ : PySem.KeyKind prog w Str} {l : List Str} {f : List (Str × Value) → Str → List (Str × Value)} {kv : List (Str × Value)} (h : o.IsDictOf κ ((l.take l.length).foldl f kv)) : o.IsDictOf κ (l.foldl f kv) := by rw [List.take_length] at h; exact h
theorem fold_len (X : Value) : ∀ (l : List Str) (kv : List (Str × Value)), (l.foldl (fun k a => stored k a X) kv).length ≤ kv.length + l.length
  | [], kv => Nat.le_refl _
  | a :: l, kv => by
    have h1 := fold_len X l (stored kv a X)
    have h2 := stored_length_le kv a X
    rw [List.foldl_cons, List.length_cons]
    omega
section PartO2
  local macro_rules | `(tactic| walk_at "exec For Name Tuple cons nil") => `(tactic| (k_here; refine Hold.out ?_))
  local macro_rules | `(tactic| walk_at "setItem ref str") => `(tactic| (k_here; refine Hold.out ?_))
noncomputable abbrev al1 : List Str := [Str.ofString "us-ascii", Str.ofString "ascii", Str.ofString "ansi_x3.4-1968", Str.ofString "iso_646.irv:1991", Str.ofString "iso-ir-6", Str.ofString "iso646-us", Str.ofString "us", Str.ofString "cp367", Str.ofString "ibm367"]
noncomputable abbrev al2 : List Str := [Str.ofString "iso-8859-1", Str.ofString "iso_8859-1", Str.ofString "iso_8859-1:1987", Str.ofString "iso-ir-100", Str.ofString "latin1", Str.ofString "l1", Str.ofString "cp819", Str.ofString "ibm819"]
noncomputable abbrev al3 : List Str := [Str.ofString "utf-8", Str.ofString "utf8"]
noncomputable abbrev cv1 : Value := .str (Str.ofString "us-ascii") 399
noncomputable abbrev cv2 : Value := .str (Str.ofString "iso-8859-1") 401
noncomputable abbrev cv3 : Value := .str (Str.ofString "utf-8") 403
noncomputable def kw1 : List (Str × Value) := al1.foldl (fun k a => stored k a cv1) []
noncomputable def kw2 : List (Str × Value) := al2.foldl (fun k a => stored k a cv2) kw1
noncomputable def kw3 : List (Str × Value) := al3.foldl (fun k a => stored k a cv3) kw2
theorem cnames_c (w : World) (mean : ExcName → Option Value) (mg mb : Str → Option Value) (rest : CbLed) :
   Ctr w mean mg mb 4 177 [] rest (fun r nx => ∃ d o, r = .ref d ∧ nx = (d, o) :: rest ∧ o.IsDictOf (PySem.strKind PySem.Challenge.rw_nz0327_01.row.prog w) kw3 ∧ (d == sysModules) = false) False := by
  unfold Ctr
  k_fill
  intro dp un gd cn cs a ccd cl outer A₀ base h₀ L m s Q E B F X N T hk hdp hun hret hexc
  refine wpAny_call ?_
  k_dflt cell_enter
  k_steps
  refine Hold.mk ?_
  rename_i g L1 h1 FG BB XX TT d h2 o hrd lo hs fs hi fi h3 F1 N1
  have hrd' : ∀ p ∈ rest, p.1 ≠ d := fun p hp => Nat.ne_of_lt (hrd p hp)
  refine @For_tup _ _ _ _ _ g _ _ _ _ _ _ _ (fun i m news => ∃ (mm : Str → Option Value) (o : Obj), m = (fun y => if y = Str.ofString "found" then some (Value.ref d) else mm y) ∧ news = (d, o) :: rest ∧ o.IsDictOf (PySem.strKind PySem.Challenge.rw_nz0327_01.row.prog w) ((al1.take i).foldl (fun k a => stored k a cv1) []))
    rfl rfl rfl ?_ (by intro _; rfl) (by passes_own)
  k_steps
  refine Hold.mk ?_
  rename_i D1 h12 F12 N12 l12
  have as1 := tup_strs N12 (l := al1) (by repeat (first | exact .nil | refine .cons _ _ ?_))
  refine in6 D1 _ _ ((d, o) :: rest) _ _ ⟨rfl, rfl, F12, N12, in2 _ o ⟨rfl, rfl, fold0 hs⟩, ?_, ?_⟩
  · intro i v m₁ news₁ h tk9 I oI hv hz0
    refine @ex2 _ _ _ _ hz0 fun mm o₁ hz => @an3 _ _ _ _ hz fun ehzq1 ehzq2 hd => ?_
    clear hz hz0
    subst ehzq1
    subst ehzq2
    intro hI hTI F N
    obtain ⟨a9, t9, ha9, rfl⟩ := strs_at as1 hv
    have hId : d ≠ I := hI (d, o₁) (.head _)
    have hTd : D1 ≠ d := Nat.ne_of_gt l12.1
    k_steps
    refine Hold.mk ?_
    have hlen9 : ((al1.take i).foldl (fun k a => stored k a cv1) []).length ≤ sizeLine := by
      have h1 := fold_len cv1 (al1.take i) []
      have h2 : (al1.take i).length ≤ 9 := by rw [List.length_take]; exact Nat.min_le_right _ _
      have h3 : ([] : List (Str × Value)).length ≤ 20 := by decide +kernel
      rw [sizeLine_eq]
      omega
    refine kda_set (knd := PySem.strKind _ _) F N (.tail (Ne.symm hId) (.tail hTd (.head hrd'))) hd (strKind_is _ _ _ _) hlen9 ?_
    intro h' o' F' N' hd'
    k_steps
    refine Hold.mk (in4 h' _ _ ((d, o') :: rest) ⟨rfl, rfl, F', N', ?_, in2 (fun y => if y = Str.ofString "alias" then some (.str a9 t9) else mm y) o' ⟨?_, rfl, ?_⟩⟩)
    · intro p hp
      rcases List.mem_cons.mp hp with rfl | hp
      · exact hId
      · exact hI p (.tail _ hp)
    · funext y
      by_cases hy : y = Str.ofString "found"
      · subst hy; rfl
      · simp only [hy, if_false]
    · rw [List.take_add_one, ha9]
      rw [List.foldl_append]
      exact hd'
  intro h13 tk13 m13 news13 F13 N13 hz0
  refine @ex2 _ _ _ _ hz0 fun mm13 o13 hz => @an3 _ _ _ _ hz fun ehzq1 ehzq2 hd13 => ?_
  clear hz hz0
  subst ehzq1
  subst ehzq2
  replace F13 : Fr g L1 h13 (fun y => if y = Str.ofString "found" then some (Value.ref d) else mm13 y) := F13
  replace hd13 : o13.IsDictOf (PySem.strKind PySem.Challenge.rw_nz0327_01.row.prog w) kw1 := foldL hd13
  replace N13 : News g L1 h13 ((d, o13) :: rest) := fun q hq => N13 q (.tail _ hq)
  clear as1 N12 F12 l12
  k_steps
  refine Hold.mk ?_
  clear hs fs hi fi
  refine @For_tup _ _ _ _ _ g _ _ _ _ _ _ _ (fun i m news => ∃ (mm : Str → Option Value) (o : Obj), m = (fun y => if y = Str.ofString "found" then some (Value.ref d) else mm y) ∧ news = (d, o) :: rest ∧ o.IsDictOf (PySem.strKind PySem.Challenge.rw_nz0327_01.row.prog w) ((al2.take i).foldl (fun k a => stored k a cv2) kw1))
    rfl rfl rfl ?_ (by intro _; rfl) (by passes_own)
  k_steps
  refine Hold.mk ?_
  rename_i D2 h22 F22 N22 l22
  have as2 := tup_strs N22 (l := al2) (by repeat (first | exact .nil | refine .cons _ _ ?_))
  refine in6 D2 _ _ ((d, o13) :: rest) _ _ ⟨rfl, rfl, F22, N22, in2 _ o13 ⟨rfl, rfl, fold0 hd13⟩, ?_, ?_⟩
  · intro i v m₁ news₁ h tk9 I oI hv hz0
    refine @ex2 _ _ _ _ hz0 fun mm o₁ hz => @an3 _ _ _ _ hz fun ehzq1 ehzq2 hd => ?_
    clear hz hz0
    subst ehzq1
    subst ehzq2
    intro hI hTI F N
    obtain ⟨a9, t9, ha9, rfl⟩ := strs_at as2 hv
    have hId : d ≠ I := hI (d, o₁) (.head _)
    have hTd : D2 ≠ d := Nat.ne_of_gt l22.1
    k_steps
    refine Hold.mk ?_
    have hlen9 : ((al2.take i).foldl (fun k a => stored k a cv2) kw1).length ≤ sizeLine := by
      have h1 := fold_len cv2 (al2.take i) kw1
      have h2 : (al2.take i).length ≤ 8 := by rw [List.length_take]; exact Nat.min_le_right _ _
      have h3 : (kw1 : List (Str × Value)).length ≤ 20 := by decide +kernel
      rw [sizeLine_eq]
      omega
    refine kda_set (knd := PySem.strKind _ _) F N (.tail (Ne.symm hId) (.tail hTd (.head hrd'))) hd (strKind_is _ _ _ _) hlen9 ?_
    intro h' o' F' N' hd'
    k_steps
    refine Hold.mk (in4 h' _ _ ((d, o') :: rest) ⟨rfl, rfl, F', N', ?_, in2 (fun y => if y = Str.ofString "alias" then some (.str a9 t9) else mm y) o' ⟨?_, rfl, ?_⟩⟩)
    · intro p hp
      rcases List.mem_cons.mp hp with rfl | hp
      · exact hId
      · exact hI p (.tail _ hp)
    · funext y
      by_cases hy : y = Str.ofString "found"
      · subst hy; rfl
      · simp only [hy, if_false]
    · rw [List.take_add_one, ha9]
      rw [List.foldl_append]
      exact hd'
  intro h23 tk23 m23 news23 F23 N23 hz0
  refine @ex2 _ _ _ _ hz0 fun mm23 o23 hz => @an3 _ _ _ _ hz fun ehzq1 ehzq2 hd23 => ?_
  clear hz hz0
  subst ehzq1
  subst ehzq2
  replace F23 : Fr g L1 h23 (fun y => if y = Str.ofString "found" then some (Value.ref d) else mm23 y) := F23
  replace hd23 : o23.IsDictOf (PySem.strKind PySem.Challenge.rw_nz0327_01.row.prog w) kw2 := foldL hd23
  replace N23 : News g L1 h23 ((d, o23) :: rest) := fun q hq => N23 q (.tail _ hq)
  clear as2 N22 F22 l22
  k_steps
  refine Hold.mk ?_
  clear hd13
  refine @For_tup _ _ _ _ _ g _ _ _ _ _ _ _ (fun i m news => ∃ (mm : Str → Option Value) (o : Obj), m = (fun y => if y = Str.ofString "found" then some (Value.ref d) else mm y) ∧ news = (d, o) :: rest ∧ o.IsDictOf (PySem.strKind PySem.Challenge.rw_nz0327_01.row.prog w) ((al3.take i).foldl (fun k a => stored k a cv3) kw2))
    rfl rfl rfl ?_ (by intro _; rfl) (by passes_own)
  k_steps
  refine Hold.mk ?_
  rename_i D3 h32 F32 N32 l32
  have as3 := tup_strs N32 (l := al3) (by repeat (first | exact .nil | refine .cons _ _ ?_))
  refine in6 D3 _ _ ((d, o23) :: rest) _ _ ⟨rfl, rfl, F32, N32, in2 _ o23 ⟨rfl, rfl, fold0 hd23⟩, ?_, ?_⟩
  · intro i v m₁ news₁ h tk9 I oI hv hz0
    refine @ex2 _ _ _ _ hz0 fun mm o₁ hz => @an3 _ _ _ _ hz fun ehzq1 ehzq2 hd => ?_
    clear hz hz0
    subst ehzq1
    subst ehzq2
    intro hI hTI F N
    obtain ⟨a9, t9, ha9, rfl⟩ := strs_at as3 hv
    have hId : d ≠ I := hI (d, o₁) (.head _)
    have hTd : D3 ≠ d := Nat.ne_of_gt l32.1
    k_steps
    refine Hold.mk ?_
    have hlen9 : ((al3.take i).foldl (fun k a => stored k a cv3) kw2).length ≤ sizeLine := by
      have h1 := fold_len cv3 (al3.take i) kw2
      have h2 : (al3.take i).length ≤ 2 := by rw [List.length_take]; exact Nat.min_le_right _ _
      have h3 : (kw2 : List (Str × Value)).length ≤ 20 := by decide +kernel
      rw [sizeLine_eq]
      omega
    refine kda_set (knd := PySem.strKind _ _) F N (.tail (Ne.symm hId) (.tail hTd (.head hrd'))) hd (strKind_is _ _ _ _) hlen9 ?_
    intro h' o' F' N' hd'
    k_steps
    refine Hold.mk (in4 h' _ _ ((d, o') :: rest) ⟨rfl, rfl, F', N', ?_, in2 (fun y => if y = Str.ofString "alias" then some (.str a9 t9) else mm y) o' ⟨?_, rfl, ?_⟩⟩)
    · intro p hp
      rcases List.mem_cons.mp hp with rfl | hp
      · exact hId
      · exact hI p (.tail _ hp)
    · funext y
      by_cases hy : y = Str.ofString "found"
      · subst hy; rfl
      · simp only [hy, if_false]
    · rw [List.take_add_one, ha9]
      rw [List.foldl_append]
      exact hd'
  intro h33 tk33 m33 news33 F33 N33 hz0
  refine @ex2 _ _ _ _ hz0 fun mm33 o33 hz => @an3 _ _ _ _ hz fun ehzq1 ehzq2 hd33 => ?_
  clear hz hz0
  subst ehzq1
  subst ehzq2
  replace F33 : Fr g L1 h33 (fun y => if y = Str.ofString "found" then some (Value.ref d) else mm33 y) := F33
  replace hd33 : o33.IsDictOf (PySem.strKind PySem.Challenge.rw_nz0327_01.row.prog w) kw3 := foldL hd33
  replace N33 : News g L1 h33 ((d, o33) :: rest) := fun q hq => N33 q (.tail _ hq)
  clear as3 N32 F32 l32
  k_steps
  exact hret _ _ _ _ (by assumption) (by assumption) ⟨d, o33, rfl, rfl, hd33, lo⟩
theorem cnames_c_k (w : World) (mean : ExcName → Option Value) (mg mb : Str → Option Value) (rest : CbLed) :
   CtrK w mean mg mb 4 177 [] rest (fun G => ∀ d o, (o.IsDictOf (PySem.strKind PySem.Challenge.rw_nz0327_01.row.prog w) kw3) → ((d == sysModules) = false) → G (.ref d) ((d, o) :: rest)) :=
  CtrK.of (cnames_c w mean mg mb rest) (by intro G k; rintro r nx ⟨d, o, rfl, rfl, hc0, hc1⟩; exact k _ _ hc0 hc1)
end PartO2


theorem tidy_PQ : True := by
  w_top off
  trivial
section PartQ1
open LCg
variable {prog : Program} {w : World} {A : Around} {s : Shared} {env : Env} {h₀ : Heap}
/-- a for over a range by ones -/
theorem For_rng {E : Value → Shared → Prop} {Q : Flow → Shared → Prop} {x : Str} {px pos : Pos} {iter : Expr} {body : List Stmt} (J : Nat → (Str → Option Value) → CbLed → Prop) (a : Int) (n : Nat) {m₀ : Str → Option Value} (_F : Fr h₀ env.locals s.heap m₀)
    (hh : A.handled = none) (hx : env.kindOf x = some .local) (hp : (env.scope.kind == .class || (env.scope.kind == .module && env.locals != env.globals)) = false)
    (h : wpAny (model prog w) A (eval iter env) (fun xv s₁ => Hold (∃ (T : Addr) (b : Int) (t u v : Tok) (m : Str → Option Value) (news : CbLed) (h1 : Heap) (tk1 : Nat), xv = .ref T ∧ s₁ = { s with heap := h1, toks := tk1 } ∧ IsRange h1 T a b 1 t u v ∧
      Builtin.Range.small a b 1 = true ∧ Builtin.Range.rangeSize a b 1 = (n : Int) ∧ Fr h₀ env.locals h1 m ∧ News h₀ env.locals h1 news ∧ J 0 m news ∧
      (∀ (i : Nat) (t : Tok) (m₁ : Str → Option Value) (news₁ : CbLed) (h : Heap) (tk : Nat) (I : Addr) (oI : Obj), i < n → J i m₁ news₁ → (∀ p ∈ news₁, p.1 ≠ I) → Fr h₀ env.locals h (fun y => if y = x then some (.int (a + i) t) else m₁ y) →
        News h₀ env.locals h ((I, oI) :: news₁) →
        wpAny (model prog w) A (execs body env) (fun f s' => Hold (∃ (h' : Heap) (tk' : Nat) (m' : Str → Option Value) (news' : CbLed), f = .next ∧ s' = { s with heap := h', toks := tk' } ∧ Fr h₀ env.locals h' m' ∧
          News h₀ env.locals h' ((I, oI) :: news') ∧ (∀ p ∈ news', p.1 ≠ I) ∧ J (i + 1) m' news')) E { s with heap := h, toks := tk }) ∧
      (∀ (h' : Heap) (tk' : Nat) (m' : Str → Option Value) (news' : CbLed), Fr h₀ env.locals h' m' → News h₀ env.locals h' news' → J n m' news' → Q .next { s with heap := h', toks := tk' }))) E s)
    (hs : ∀ x, foldedSetIterable iter env x = pure x := by intro _; rfl)
    (hE : PassesOwn (model prog w) A env E := by passes_own) :
    wpAny (model prog w) A (exec (.For (.Name x px) iter body [] pos) env) Q E s := by
  refine wpAny_For (wpAny_mono h (fun xv s₁ h₁ => ?_) fun _ _ e => e) hs
  refine @ex8 _ _ _ _ _ _ _ _ _ _ (Hold.out h₁) fun T b t0 u0 v0 m news h1 hz => @ex1 _ _ _ hz fun tk1 hz => @anX _ _ _ _ _ _ _ _ _ _ _ hz fun e1 e2 hr hsmall hn F0 N0 j0 step fin => ?_
  subst e1
  subst e2
  refine wpAny_pyIter_range hr hsmall ?_
  rw [hn]
  exact loop_W J [] (Walks.range (prog := prog) (w := w) hh h1.objs.size a 1 n) hx hp (Nat.ne_of_lt F0.ns.lt) (next_is_new F0) (fun _ h => nomatch h) rng_go
    (by simpa [IsRangeIter] using Heap.get?_push_size _ rfl) (F0.push _) (N0.grown fun _ _ e => Heap.get?_push_of_some _ e) (fun p hp => Nat.ne_of_lt (Heap.lt_size (N0 p hp).1)) j0
    (fun i v m₁ news₁ h tk oI hi hP hJ off F N => hP.elim fun t e => wpAny_passesOwn hE (step i t m₁ news₁ h tk _ oI hi hJ off (by subst e; simpa using F) N)) fin
end PartQ1
theorem toN0 (i : Nat) : (1 + (i : Int) - 1).toNat = i := by omega
theorem toN1 (i : Nat) : (1 + (i : Int)).toNat = i + 1 := by omega
theorem map2 (m : Str → Option Value) (a b : Str) (x y : Value) (h1 : m a = some x) (h2 : m b = some y) : m = fun z => if z = a then some x else if z = b then some y else m z := by
  funext z
  by_cases ha : z = a
  · rw [if_pos ha, ha, h1]
  · rw [if_neg ha]
    by_cases hb : z = b
    · rw [if_pos hb, hb, h2]
    · rw [if_neg hb]


theorem tidy_PM : True := by
  w_top off
  trivial
theorem sortWords : Str.ofString "ARRIVAL CC DATE FROM SIZE SUBJECT TO DISPLAYFROM" ++ Str.ofString " REVERSE" = Str.ofString "ARRIVAL CC DATE FROM SIZE SUBJECT TO DISPLAYFROM REVERSE" := by decide +kernel
noncomputable def revS : Str := ⟨#[82, 69, 86, 69, 82, 83, 69]⟩
theorem cb_tail {h₀ h : Heap} {L : Addr} {a : Addr × Obj} {l : CbLed} (N : News h₀ L h (a :: l)) : News h₀ L h l := fun q hq => N q (.tail _ hq)
local macro_rules | `(tactic| k_asm) => `(tactic| (goal_has Mine.WL; first | assumption | exact cb_tail (by assumption) | exact cb_tail (cb_tail (by assumption))))
theorem news_ne {h₀ h : Heap} {L : Addr} {news : CbLed} (N : News h₀ L h news) {a b : Addr} {oa ob : Obj} (ha : (a, oa) ∈ news) (hb : (b, ob) ∈ news) (ho : oa ≠ ob) : a ≠ b := fun e => ho (by
  have h1 := (N _ ha).1
  have h2 := (N _ hb).1
  subst e
  exact Option.some.inj (h1.symm.trans h2))
noncomputable def adjRev : List Str → Bool
  | a :: b :: r => (a == Str.ofString "REVERSE" && b == Str.ofString "REVERSE") || adjRev (b :: r)
  | _ => false
noncomputable def lastRev : List Str → Bool
  | [] => true
  | [a] => a == Str.ofString "REVERSE"
  | _ :: b :: r => lastRev (b :: r)
noncomputable def okW (l : List Str) : Bool := !lastRev l && !adjRev l
theorem lastRev_getD : ∀ (W : List Str), 0 < W.length → lastRev W = (W.getD (W.length - 1) Str.empty == Str.ofString "REVERSE")
  | [], h => absurd h (Nat.lt_irrefl _)
  | [a], _ => rfl
  | _ :: b :: r, _ => by
    rw [lastRev, lastRev_getD (b :: r) (by rw [List.length_cons]; omega)]
    rfl
theorem adj_true : ∀ (W : List Str) (i : Nat), i + 1 < W.length → (W.getD i Str.empty == Str.ofString "REVERSE") = true → (W.getD (i + 1) Str.empty == Str.ofString "REVERSE") = true → adjRev W = true
  | [], _, h, _, _ => absurd h (by simp)
  | [_], i, h, _, _ => absurd h (by simp)
  | a :: b :: r, 0, _, h1, h2 => by
    rw [adjRev, show (a == Str.ofString "REVERSE") = true from h1, show (b == Str.ofString "REVERSE") = true from h2]; rfl
  | a :: b :: r, i + 1, h, h1, h2 => by
    rw [adjRev, adj_true (b :: r) i (by simpa using h) h1 h2, Bool.or_true]
theorem adj_false : ∀ (W : List Str), (∀ j, j < W.length - 1 → (W.getD j Str.empty == Str.ofString "REVERSE" && W.getD (j + 1) Str.empty == Str.ofString "REVERSE") = false) → adjRev W = false
  | [], _ => rfl
  | [_], _ => rfl
  | a :: b :: r, h => by
    rw [adjRev, show (a == Str.ofString "REVERSE" && b == Str.ofString "REVERSE") = false from h 0 (by simp), Bool.false_or]
    exact adj_false (b :: r) fun j hj => h (j + 1) (by simp at hj ⊢; omega)
theorem kn_ok {W : Str} (h : isKn W = true) : PyData.strOk W = true := by
  obtain ⟨x, hx, e⟩ := List.any_eq_true.mp h
  have e' : x = W := eq_of_beq e
  subst e'
  have : knS.all (fun x => PyData.strOk x) = true := by decide +kernel
  exact List.all_eq_true.mp this x hx
theorem strs_reads {h : Heap} {vs : List Value} {ws : List Str} (a : StrsAre vs ws) : ReadsAll h vs (ws.map PyData.str) (List.flatten (ws.map fun _ => [])) := by
  induction a with
  | nil => exact ReadsAll.nil
  | cons y t _ ih => exact ReadsAll.cons (Reads.str _ _) ih
theorem shaped_strs {ws : List Str} (h : ∀ W ∈ ws, PyData.strOk W = true) : SeqAt.shaped (.tuple (ws.map PyData.str)) = true := by
  have h1 : PyData.canLayAll0 (ws.map PyData.str) = true := by
    induction ws with
    | nil => rfl
    | cons a r ih =>
      have ha := h a (.head _)
      have hr := ih fun W hW => h W (.tail _ hW)
      simp [PyData.canLayAll0, PyData.canLay0, hr, ha]
  have h2 : PyData.depthAll (ws.map PyData.str) = 0 := by
    clear h h1
    induction ws with
    | nil => rfl
    | cons a r ih => simp [PyData.depthAll, PyData.depth, ih]
  simp [SeqAt.shaped, PyData.canLay0, PyData.depth, h1, h2]
section PartM
  local macro_rules | `(tactic| walk_at "call ref") => `(tactic| (k_here; (with_reducible show wpAny _ _ (call (Value.ref 436) _) _ _ _); refine Hold.out ?_))
  local macro_rules | `(tactic| walk_at "call ref") => `(tactic| (k_here; (with_reducible show wpAny _ _ (call (Value.ref 443) _) _ _ _); refine Hold.out ?_))
theorem rs_bad0 (w : World) (mean : ExcName → Option Value) (mg mb : Str → Option Value) (rest : CbLed) (wa dx : Nat) (x : WTok) (D : Array UInt8) (ks : List Int) (p : Int) (R : List Int)
    (hne : dx ≠ wa) (hr : ∀ q ∈ rest, q.1 ≠ dx) (hD : KBw.bInts D = ks) (hlen : ks.length ≤ 10000) (hat : At ks p R) (hm : R.head? ≠ some 32) :
   Ctr w mean mg mb 40 450 [.ref wa] (WL wa dx x D p rest) (fun _ _ => False) True := by
  unfold Ctr
  k_fill
  intro dp un gd cn cs a ccd cl outer A₀ base h₀ L m s Q E B F X N T hk hdp hun hret hexc
  refine wpAny_call ?_
  k_dflt cell_enter
  k_steps
  exact hexc _ _ _ _ _ _ _ _ trivial (by assumption) (by assumption) (by assumption) (by assumption)
theorem rs_bad1 (w : World) (mean : ExcName → Option Value) (mg mb : Str → Option Value) (rest : CbLed) (wa dx : Nat) (x : WTok) (D : Array UInt8) (ks : List Int) (p : Int) (R : List Int)
    (hne : dx ≠ wa) (hr : ∀ q ∈ rest, q.1 ≠ dx) (hD : KBw.bInts D = ks) (hlen : ks.length ≤ 10000) (hat : At ks p (32 :: R)) (hm : R.head? ≠ some 40) :
   Ctr w mean mg mb 40 450 [.ref wa] (WL wa dx x D p rest) (fun _ _ => False) True := by
  unfold Ctr
  k_fill
  intro dp un gd cn cs a ccd cl outer A₀ base h₀ L m s Q E B F X N T hk hdp hun hret hexc
  refine wpAny_call ?_
  k_dflt cell_enter
  k_steps
  refine Hold.mk ?_
  rw [sortWords]
  rename At ks (p + 1) R => hat1
  k_dflt (refine' ctr_useR (words_miss w mean mg mb rest wa dx _ D ks (p + 1) R _ hne hr hD hlen hat1 hm) ?k1 ?k2 ?k3 ?k4 ?k5 ?kK ?kd ?ku ?_)
  case k2 => k_asm
  case k4 => k_asm
  case k1 => k_asm
  case k3 => k_asm
  case k5 => k_asm
  case kK => first | exact rfl | assumption
  case kd => ktr_room
  case ku => ktr_units
  intro e' t' vs' C' lg' h' tk' g' F' R' U' c'
  (try dsimp only)
  (try k_fold)
  k_steps
  exact hexc _ _ _ _ _ _ _ _ trivial (by assumption) (by assumption) (by assumption) (by assumption)
theorem rs_empty (w : World) (mean : ExcName → Option Value) (mg mb : Str → Option Value) (rest : CbLed) (wa dx : Nat) (x : WTok) (D : Array UInt8) (ks : List Int) (p : Int) (v : List Int)
    (hne : dx ≠ wa) (hr : ∀ q ∈ rest, q.1 ≠ dx) (hD : KBw.bInts D = ks) (hlen : ks.length ≤ 10000) (hat : At ks p (32 :: 40 :: 41 :: v)) :
   Ctr w mean mg mb 40 450 [.ref wa] (WL wa dx x D p rest) (fun _ _ => False) True := by
  unfold Ctr
  k_fill
  intro dp un gd cn cs a ccd cl outer A₀ base h₀ L m s Q E B F X N T hk hdp hun hret hexc
  refine wpAny_call ?_
  k_dflt cell_enter
  k_steps
  refine Hold.mk ?_
  rw [sortWords]
  rename At ks (p + 1) _ => hat1
  k_dflt (refine' ctr_useN (words0_c w mean mg mb rest wa dx _ D ks (p + 1) v _ hne hr hD hlen hat1) ?k1 ?k2 ?k3 ?k4 ?k5 ?kK ?kd ?ku ?_)
  case k2 => k_asm
  case k4 => k_asm
  case k1 => k_asm
  case k3 => k_asm
  case k5 => k_asm
  case kK => first | exact rfl | assumption
  case kd => ktr_room
  case ku => ktr_units
  intro r' n' h' tk' F' N' P'
  refine @ex3 _ _ _ _ _ P' fun l' x' p' hz => @an3 _ _ _ _ hz fun e2 hat' e1 => ?_
  clear hz P'
  replace e1 := e1.symm; subst e1; subst e2
  (try dsimp only)
  (try k_fold)
  k_steps
  refine Hold.mk ?_
  refine exec_raise (exC95 w) rfl ?_
  k_steps
  refine raise_to (by k_asm) (by k_asm) (by k_asm) (.tail _ (.head _)) ?_
  k_steps
  exact hexc _ _ _ _ _ _ _ _ trivial (by assumption) (by assumption) (by assumption) (.inl rfl)
  local macro_rules | `(tactic| walk_at "subscriptTail") => `(tactic| (k_here; (with_reducible show wpAny _ _ (subscriptTail _ _ (Value.ref _) (Value.int _ _)) _ _ _); refine Hold.out ?_))
  local macro_rules | `(tactic| walk_at "subscriptTail Name") => `(tactic| (k_here; (with_reducible show wpAny _ _ (subscriptTail _ _ (Value.ref _) (Value.int _ _)) _ _ _); refine Hold.out ?_))
  local macro_rules | `(tactic| walk_at "compareOp Eq ref ref") => `(tactic| (k_here; refine Hold.out ?_))
  local macro_rules | `(tactic| walk_at "exec For Name Call cons nil") => `(tactic| (k_here; refine Hold.out ?_))
  local macro_rules | `(tactic| walk_at "call builtin:len") => `(tactic| (k_here; (with_reducible show wpAny _ _ (call (Value.builtin "len") [Value.ref _]) _ _ _); refine Hold.out ?_))
end PartM


theorem tidy_QS : True := by
  w_top off
  trivial
section PartS
open Sem (wp)
/-- the codes that may look at a bytearray that is just made -/
noncomputable def holdIds : List String := Builtin.Bytes.decodersThatHold ++ ["bytearray.__contains__", "bytearray.__mod__", "bytearray.__rmod__", "_struct.pack_into.held", "bytearray.find.held"]
noncomputable def freeC : Code → Prop
  | .builtin id _ => holdIds.contains id = false
  | _ => True
noncomputable def freeL (l : List (Code × Pos)) : Prop := ∀ x ∈ l, freeC x.1
/-- a tree under stacks on which no such code lies -/
noncomputable def wpS {α : Type} (M : Model) (A : Around) (t : Sem α) (Q : α → Shared → Prop) (E : Value → Shared → Prop) (s : Shared) : Prop :=
  ∀ Γ p, Γ.In A → freeC Γ.code → freeL Γ.below → wp M Γ t (fun a _ s' => Q a s') (fun e _ s' => E e s') p s
noncomputable def codeS (M : Model) (A : Around) (c : Code) (R : Result → Shared → Prop) (s : Shared) : Prop :=
  ∀ Γ p, Γ.code = c → Γ.Below A → freeL Γ.below → wpCode M Γ R p s
section
variable {α β : Type} {M : Model} {A : Around} {E : Value → Shared → Prop} {s : Shared}
theorem wpS_of {t : Sem α} {Q : α → Shared → Prop} (h : wpAny M A t Q E s) : wpS M A t Q E s := fun Γ p hΓ _ _ => h Γ p hΓ
theorem codeS_of {c : Code} {R : Result → Shared → Prop} (h : codeAny M A c R s) : codeS M A c R s := fun Γ p hc hΓ _ => h Γ p hc hΓ
theorem wpS_mono {t : Sem α} {Q Q' : α → Shared → Prop} {E' : Value → Shared → Prop} (h : wpS M A t Q E s) (hQ : ∀ a s, Q a s → Q' a s) (hE : ∀ e s, E e s → E' e s) : wpS M A t Q' E' s :=
  fun Γ p hΓ h1 h2 => Sem.wp_mono M Γ t (fun a _ s => hQ a s) (fun e _ s => hE e s) p s (h Γ p hΓ h1 h2)
theorem codeS_mono {c : Code} {R R' : Result → Shared → Prop} (h : codeS M A c R s) (hR : ∀ r s, R r s → R' r s) : codeS M A c R' s := fun Γ p hc hΓ h1 => wpCode_mono hR (h Γ p hc hΓ h1)
theorem wpS_bind {m : Sem α} {f : α → Sem β} {Q : β → Shared → Prop} (h : wpS M A m (fun a s' => wpS M A (f a) Q E s') E s) : wpS M A (m >>= f) Q E s := fun Γ p hΓ h1 h2 => by
  rw [Sem.wp_bind']
  exact Sem.wp_mono M Γ m (fun a p' s' h' => h' Γ p' hΓ h1 h2) (fun _ _ _ h' => h') p s (h Γ p hΓ h1 h2)
/-- a first tree that looks at no stack, any road behind it -/
theorem wpS_first {m : Sem α} {f : α → Sem β} {Q : β → Shared → Prop} (h : wpAny M A m (fun a s' => wpS M A (f a) Q E s') E s) : wpS M A (m >>= f) Q E s := wpS_bind (wpS_of h)
theorem wpS_pure {a : α} {Q : α → Shared → Prop} (h : Q a s) : wpS M A (pure a) Q E s := wpS_of (wpAny_pure h)
theorem wpS_onRaise {m : Sem α} {k : Value → Sem Unit} {Q : α → Shared → Prop} (h : wpS M A m Q (fun e s' => wpS M A (k e) (fun _ s'' => E e s'') E s') s) : wpS M A (m.onRaise k) Q E s := fun Γ p hΓ h1 h2 => by
  rw [Sem.wp_onRaise]
  exact Sem.wp_mono M Γ m (fun _ _ _ h' => h') (fun e p' s' h' => h' Γ p' hΓ h1 h2) p s (h Γ p hΓ h1 h2)
theorem wpS_attempt {m : Sem α} {Q : Except Value α → Shared → Prop} (h : wpS M A m (fun a => Q (.ok a)) (fun e => Q (.error e)) s) : wpS M A m.attempt Q E s := fun Γ p hΓ h1 h2 => by
  rw [Sem.wp_attempt]; exact h Γ p hΓ h1 h2
theorem wpS_holding {vs : List Value} {m : Sem α} {Q : α → Shared → Prop} (h : wpS M A m Q E s) : wpS M A (holding vs m) Q E s := fun Γ p hΓ h1 h2 => by rw [Sem.wp_holding]; exact h Γ p hΓ h1 h2
theorem wpS_run {c : Code} {Q : Flow → Shared → Prop} (hc : codeS M A c (fun r s' => match r with | .ok f => Q f s' | .error e => E e s') s) : wpS M A (run c none) Q E s :=
  fun Γ p hΓ h1 h2 => by
    rw [Sem.wp_run]
    refine hc _ p rfl (hΓ.enter c none p (by intro x; cases x)) fun x hx => ?_
    rcases List.mem_cons.mp hx with rfl | hx
    · exact h1
    · exact h2 x hx
theorem wpS_runValue {c : Code} {Q : Value → Shared → Prop} (hc : codeS M A c (fun r s' => match r with | .ok (.ret v) => Q v s' | .ok _ => False | .error e => E e s') s) : wpS M A (runValue c) Q E s :=
  fun Γ p hΓ h1 h2 => by
    rw [Sem.wp_runValue]
    refine hc _ p rfl (hΓ.enter c none p (by intro x; cases x)) fun x hx => ?_
    rcases List.mem_cons.mp hx with rfl | hx
    · exact h1
    · exact h2 x hx
theorem wpS_call {f : Value} {pos : List Value} {kw : List (Str × Value)} {Q : Value → Shared → Prop}
    (hc : codeS M A (.call f ⟨pos, kw⟩) (fun r s' => match r with | .ok (.ret v) => Q v s' | .ok _ => False | .error e => E e s') s) : wpS M A (call f pos kw) Q E s := wpS_runValue hc
theorem codeS_of_tree {c : Code} {R : Result → Shared → Prop} (hf : freeC c)
    (h : wpS M (A.under c) (M.den c) (fun fin s' => match fin with | .done f => R (.ok f) s' | .again c' => c'.quiet = true ∧ codeS M A c' R s') (fun e s' => R (.error e) s') s) : codeS M A c R s := fun Γ p hc hΓ hb => by
  rw [wpCode_iff_wp, hc]
  refine Sem.wp_mono M Γ _ (fun fin p' s' h' => ?_) (fun _ _ _ h' => h') p s (h Γ p (hc ▸ hΓ.in) (hc ▸ hf) hb)
  cases fin with
  | done f => exact h'
  | again c' => exact ⟨h'.1, h'.2 (Γ.goto c') p' rfl (hΓ.goto c') hb⟩
theorem free_ne {id : String} {args : Args} (hc : freeC (.builtin id args)) {n : String} (hn : holdIds.contains n = true) : id ≠ n := fun e => by
  rw [← e, show holdIds.contains id = false from hc] at hn
  cases hn
theorem free_dec {id : String} {args : Args} (hc : freeC (.builtin id args)) : Builtin.Bytes.decodersThatHold.contains id = false := by
  cases h4 : Builtin.Bytes.decodersThatHold.contains id with
  | false => rfl
  | true =>
    have : holdIds.contains id = true := by
      rw [holdIds, List.contains_iff_mem]
      exact List.mem_append_left _ (List.contains_iff_mem.mp h4)
    rw [show holdIds.contains id = false from hc] at this
    cases this
theorem free_not (a : Addr) (x : Code × Pos) (hc : freeC x.1) : (Builtin.Bytes.exported.match_1 (fun _ => Bool) x (fun v _ _ _ => Builtin.Bytes.sameRef v (.ref a)) (fun v _ _ _ => Builtin.Bytes.sameRef v (.ref a)) (fun _ v _ _ _ => Builtin.Bytes.sameRef v (.ref a)) (fun v _ _ _ => Builtin.Bytes.sameRef v (.ref a)) (fun _ _ held _ _ => held.any (Builtin.Bytes.sameRef (.ref a))) (fun id v _ _ _ => Builtin.Bytes.sameRef v (.ref a) && Builtin.Bytes.decodersThatHold.contains id) (fun _ => false)) = false := by
  obtain ⟨c, q⟩ := x
  cases c
  case builtin id args =>
    obtain ⟨pos, kw⟩ := args
    delta Builtin.Bytes.exported.match_1
    refine (dif_neg (free_ne hc (n := "bytearray.__contains__") (by decide +kernel))).trans ?_
    refine (dif_neg (free_ne hc (n := "bytearray.__mod__") (by decide +kernel))).trans ?_
    refine (dif_neg (free_ne hc (n := "bytearray.__rmod__") (by decide +kernel))).trans ?_
    refine (dif_neg (free_ne hc (n := "_struct.pack_into.held") (by decide +kernel))).trans ?_
    refine (dif_neg (free_ne hc (n := "bytearray.find.held") (by decide +kernel))).trans ?_
    cases pos with
    | nil => rfl
    | cons v l => exact Bool.and_eq_false_iff.mpr (.inr (free_dec hc))
  all_goals rfl
/-- what a fresh bytearray asks of the stack -/
theorem wpS_exported {a : Addr} {Q : Bool → Shared → Prop} (h : Q false s) : wpS M A (Builtin.Bytes.exported (.ref a)) Q E s := fun Γ p _ h1 h2 => by
  unfold Builtin.Bytes.exported
  rw [Sem.wp_bind']
  unfold stack
  rw [Sem.wp_stack]
  show Q (((Γ.code, p) :: Γ.below).any _) s
  have e : ((Γ.code, p) :: Γ.below).any _ = false := List.any_eq_false.mpr fun x hx => by
    have hx' : freeC x.1 := by
      rcases List.mem_cons.mp hx with rfl | hx
      · exact h1
      · exact h2 x hx
    exact Bool.eq_false_iff.mp (free_not a x hx')
  exact cast (congrArg (fun b => Q b s) e.symm) h
end
end PartS


theorem tidy_QT : True := by
  w_top off
  trivial
section PartT
open Sem (wp)
open Builtin Builtin.Bytes
variable {prog : Program} {w : World} {A : Around} {E : Value → Shared → Prop} {s : Shared} {R : Result → Shared → Prop}
theorem codeS_builtin {id : String} {args : Args} {b : Builtin} (hf : holdIds.contains id = false) (hb : entryFor table id = some b)
    (h : wpS (model prog w) (A.under (.builtin id args)) (b args)
      (fun fin s' => match fin with | .done f => R (.ok f) s' | .again c' => c'.quiet = true ∧ codeS (model prog w) A c' R s') (fun e s' => R (.error e) s') s) :
    codeS (model prog w) A (.builtin id args) R s := by
  refine codeS_of_tree hf ?_
  show wpS _ _ (match entryFor table id with | some b => b args | none => unsupported ((withoutEnding? id "#data").getD id)) _ _ s
  rw [hb]; exact h
theorem codeS_call_builtin {id : String} {args : Args} {b : Builtin} (hf : holdIds.contains id = false) (hq : plainId id = true) (hb : entryFor table id = some b)
    (h : wpAny (model prog w) A.in1 (checkBuiltinCall id args) (fun _ s₁ => wpS (model prog w) A.in1 (b args)
      (fun fin s' => match fin with | .done f => R (.ok f) s' | .again c' => c'.quiet = true ∧ codeS (model prog w) A c' R s') (fun e s' => R (.error e) s') s₁)
      (fun e s' => R (.error e) s') s) : codeS (model prog w) A (.call (.builtin id) args) R s := by
  refine codeS_of_tree trivial ?_
  show wpS _ A.in1 (do checkBuiltinCall id args; again (.builtin id args)) _ _ s
  refine wpS_first (wpAny_mono h (fun _ s₁ h₁ => wpS_pure (And.intro (plainId_quiet hq args) (codeS_builtin hf hb ?_))) fun _ _ h' => h')
  rw [Around.under_plainId hq args]
  exact h₁
noncomputable abbrev baObj (U : Array UInt8) : Obj := { cls := .type "bytearray", data := .bytearray U }
theorem ba_write {M : Model} {a : Addr} {U : Array UInt8} {f : Array UInt8 → Array UInt8} {Q : Unit → Shared → Prop} (ha : s.heap.get? a = some (baObj U)) (hz : (f U).size ≤ sizeLine)
    (hQ : Q () { s with heap := s.heap.update a (Obj.mapBytearray f) }) : wpAny M A (Bytes.write (.ref a) f) Q E s := by
  show wpAny _ _ (updateBytearray a f) _ _ _
  unfold updateBytearray
  refine wpAny_bind (wpAny_load ha ?_)
  show wpAny _ _ (update a (Obj.mapBytearray f) >>= fun _ => lookBehind a) _ _ _
  refine wpAny_bind (wpAny_update ha ?_)
  have h2 : (s.heap.update a (Obj.mapBytearray f)).get? a = some (baObj (f U)) := Heap.get?_update_self (Obj.mapBytearray f) ha rfl
  refine wpAny_lookBehind h2 ?_ hQ
  show (if (f U).size > sizeLine then some "bytearray:memory" else none) = none
  rw [if_neg (Nat.not_lt.mpr hz)]
theorem baT {a : Addr} {U : Array UInt8} (ha : s.heap.get? a = some (baObj U)) : s.TypeIs (.ref a) "bytearray" := ⟨_, ha, rfl⟩
theorem wpS_orx {a : Addr} {p : Sem Bool} {Q : Bool → Shared → Prop} (h : wpS (model prog w) A p Q E s) : wpS (model prog w) A (orM (exported (.ref a)) p) Q E s := by
  unfold orM
  refine wpS_bind (m := exported (.ref a)) (wpS_exported ?_)
  exact h
theorem ba_orx {a : Addr} {U : Array UInt8} {Q : Bool → Shared → Prop} (ha : s.heap.get? a = some (baObj U)) (h : Q false s) :
    wpS (model prog w) A (orM (exported (.ref a)) (do return decide ((← exportsOf (.ref a)) > 0))) Q E s := by
  refine wpS_orx (wpS_of ?_)
  refine wpAny_bind (m := exportsOf (.ref a)) ?_
  show wpAny _ _ (load a >>= _) _ _ _
  refine wpAny_bind (wpAny_load ha ?_)
  exact wpAny_pure (wpAny_pure h)
theorem ba_resize {a : Addr} {U : Array UInt8} {Q : Unit → Shared → Prop} (ha : s.heap.get? a = some (baObj U)) (hQ : Q () s) : wpS (model prog w) A (checkResize (.ref a)) Q E s := by
  unfold checkResize
  refine wpS_bind (m := orM (exported (.ref a)) _) (ba_orx ha ?_)
  exact wpS_pure hQ
theorem ba_append {a : Addr} {U : Array UInt8} {c : Int} {t : Tok} {Q : Fin → Shared → Prop} (ha : s.heap.get? a = some (baObj U)) (h0 : 0 ≤ c) (h1 : c < 256) (hz : U.size < sizeLine)
    (hQ : Q (.done (.ret .none)) { s with heap := s.heap.update a (Obj.mapBytearray (·.push c.toNat.toUInt8)) }) : wpS (model prog w) A (Builtin.«bytearray.append» ⟨[.ref a, .int c t], []⟩) Q E s := by
  unfold Builtin.«bytearray.append»
  refine wpS_first (wpAny_of_eq (a := (.ref a, .int c t)) rfl ?_)
  refine wpS_first (m := byteValue _) ?_
  unfold byteValue
  refine wpAny_bind (wpAny_of_eq (rfl : asIndex (.int c t) = pure c) ?_)
  refine bm_if_false (by simp only [Bool.or_eq_false_iff, decide_eq_false_iff_not]; omega) ?_
  refine wpAny_pure ?_
  refine wpS_bind (ba_resize ha ?_)
  refine wpS_first (ba_write ha (by rw [Array.size_push]; exact hz) ?_)
  exact wpS_pure hQ
theorem ba_init {a : Addr} {U : Array UInt8} {Q : Fin → Shared → Prop} (ha : s.heap.get? a = some (baObj U))
    (hQ : Q (.done (.ret .none)) { s with heap := s.heap.update a (Obj.mapBytearray (fun _ => #[])) }) : wpS (model prog w) A (Builtin.«bytearray.__init__» ⟨[.ref a], []⟩) Q E s := by
  unfold Builtin.«bytearray.__init__»
  refine wpS_first (m := ownRelease _) ?_
  unfold ownRelease
  refine wpAny_bind (own_rel (baT ha) (wpAny_pure ?_))
  refine wpS_first (m := bindOptional _ _ _ _ _) (wpAny_of_eq (a := [none, none, none]) rfl ?_)
  refine wpS_first (wpAny_of_eq (a := ()) rfl ?_)
  refine wpS_first (wpAny_of_eq (a := ()) rfl ?_)
  refine wpS_bind (m := orM (exported (.ref a)) _) (ba_orx ha ?_)
  refine wpS_first (ba_write ha (by simp) ?_)
  exact wpS_of (wpAny_of_eq (a := Fin.done (.ret .none)) rfl hQ)
end PartT
section PartT2
open Sem (wp)
open Builtin Builtin.Bytes
theorem ba_plain : PlainAttrs "bytearray" := ⟨⟨"bytearray.__getattribute__", by rw [typeLookup_type, builtinLookup_eq_fast]; kernel_rfl, by decide +kernel⟩, by rw [typeLookup_type, builtinLookup_eq_fast]; kernel_rfl⟩
theorem slot_ba_append : Slot "bytearray" "append" "bytearray.append" :=
  .of (owner := "bytearray") (n := "append") (by rw [typeLookup_type, builtinLookup_eq_fast]; kernel_rfl) (by decide +kernel) (by decide +kernel) (by decide +kernel)
    (by first | exact .inl (by decide +kernel) | exact .inr (by decide +kernel)) (by rw [isSubtype_type]; kernel_rfl)
theorem slot_ba_init : Slot "bytearray" "__init__" "bytearray.__init__" :=
  .of (owner := "bytearray") (n := "__init__") (by rw [typeLookup_type, builtinLookup_eq_fast]; kernel_rfl) (by decide +kernel) (by decide +kernel) (by decide +kernel)
    (by first | exact .inl (by decide +kernel) | exact .inr (by decide +kernel)) (by rw [isSubtype_type]; kernel_rfl)
theorem type_ba_append : typeOf (.builtin "bytearray.append") = pure (.type "method_descriptor") := by show builtinType _ = _; rw [builtinType_eq_fast]; kernel_rfl
theorem entry_ba_append : entryFor table "bytearray.append" = some Builtin.«bytearray.append» := entryFor_of_tree (by kernel_rfl)
theorem entry_ba_init : entryFor table "bytearray.__init__" = some Builtin.«bytearray.__init__» := entryFor_of_tree (by kernel_rfl)
theorem mro_ba : mroOf (.type "bytearray") = pure [.type "bytearray", .type "object"] := by rw [mroOf_type]; kernel_rfl
theorem lookup_ba_new : typeLookup (.type "bytearray") "__new__" = pure (some (.builtin "bytearray.__new__")) := by rw [typeLookup_type, builtinLookup_eq_fast]; kernel_rfl
theorem called_ba : TypeCalled "bytearray" "bytearray.__new__" "bytearray.__init__" :=
  ⟨by decide +kernel, by decide +kernel, ⟨_, _, mro_ba⟩, madeBy_type mro_ba lookup_ba_new (by decide +kernel), by decide +kernel, by rw [isSubtype_type]; kernel_rfl, slot_ba_init⟩
theorem typeCall_ba : checkTypeCall "bytearray" ⟨[], []⟩ = pure () := by kernel_rfl
theorem newCall_ba : checkBuiltinCall "bytearray.__new__" ⟨[.type "bytearray"], []⟩ = pure () := by kernel_rfl
theorem entry_ba_new : entryFor table "bytearray.__new__" = some Builtin.«list.__new__» :=
  entryFor_alias (id' := "list.__new__") (by kernel_rfl) (by first | rfl | decide +kernel) (by decide +kernel) (by kernel_rfl)
theorem owner_ba_new : ("bytearray.__new__".splitOn ".__new__").headD "" = "bytearray" := by rw [split_bytearray]; rfl
theorem sub_ba_self : isSubtype (.type "bytearray") (.type "bytearray") = pure true := by rw [isSubtype_type]; kernel_rfl
theorem plain_ba_new : plainId "bytearray.__new__" = true := by decide +kernel
theorem plain_ba_init : plainId "bytearray.__init__" = true := by decide +kernel
theorem plain_ba_append : plainId "bytearray.append" = true := by decide +kernel
variable {prog : Program} {w : World} {A : Around} {E : Value → Shared → Prop} {s : Shared} {R : Result → Shared → Prop}
theorem ba_code_new {Q₁ : Value → Shared → Prop} (h : Q₁ (.ref s.heap.objs.size) { s with heap := s.heap.push (baObj #[]) }) :
    codeAny (model prog w) A (.call (.builtin "bytearray.__new__") ⟨[.type "bytearray"], []⟩) (wants Q₁ E) s := by
  refine codeAny_of_tree ?_
  show wpAny _ A.in1 (do checkBuiltinCall "bytearray.__new__" ⟨[.type "bytearray"], []⟩; again (.builtin "bytearray.__new__" ⟨[.type "bytearray"], []⟩)) _ _ s
  refine wpAny_bind (wpAny_of_eq newCall_ba (wpAny_pure ⟨plainId_quiet plain_ba_new _, codeAny_builtin_stack entry_ba_new rfl fun p st => ?_⟩))
  rw [Around.under_plainId plain_ba_new _]
  have hsub := sub_ba_self
  have hown := owner_ba_new
  obtain ⟨hp, g, d, tk, os⟩ := s
  simp only [hown]
  wp_walk
  exact h
theorem callS_append {a : Addr} {U : Array UInt8} {c : Int} {t : Tok} {Q : Value → Shared → Prop} (hargs : argsOk "bytearray.append" ⟨[.ref a, .int c t], []⟩) (ha : s.heap.get? a = some (baObj U)) (h0 : 0 ≤ c) (h1 : c < 256) (hz : U.size < sizeLine)
    (hQ : Q .none { s with heap := s.heap.update a (Obj.mapBytearray (·.push c.toNat.toUInt8)) }) : wpS (model prog w) A (call (.builtin "bytearray.append") [.ref a, .int c t]) Q E s :=
  wpS_call (codeS_call_builtin (by decide +kernel) plain_ba_append entry_ba_append (slot_ba_append.check _ _ _ _ _ _ _ _ (baT ha) hargs (ba_append ha h0 h1 hz hQ)))
theorem callS_bytearray {Q : Value → Shared → Prop} (hargs : ∀ a, argsOk "bytearray.__init__" ⟨[.ref a], []⟩)
    (hQ : Q (.ref s.heap.objs.size) { s with heap := (s.heap.push (baObj #[])).update s.heap.objs.size (Obj.mapBytearray (fun _ => #[])) }) : wpS (model prog w) A (call (.type "bytearray") []) Q E s := by
  refine wpS_call (codeS_of_tree trivial ?_)
  show wpS _ _ (callAny (.type "bytearray") _) _ _ _
  refine wpS_pure ⟨Code.quiet_builtin _ (by decide +kernel), codeS_builtin (by decide +kernel) F.entry_type_call ?_⟩
  rw [Around.under_plain (weight_type_call_type "bytearray" [] []) rfl]
  have ft := called_ba
  obtain ⟨c, tl, hmro⟩ := ft.mro
  have hmade := ft.made
  have hsub := ft.sub
  have h1 := ft.notType
  have h2 := ft.canCreate
  have hct := typeCall_ba
  unfold Builtin.«type.__call__»
  dsimp only
  rw [h1]
  simp only [Bool.false_eq_true, if_false]
  rw [h2]
  simp only [Bool.false_eq_true, if_false]
  refine wpS_first (wpAny_of_eq hct ?_)
  refine wpS_first (wpAny_of_eq hmro ?_)
  simp only [List.isEmpty_cons, Bool.false_eq_true, if_false]
  refine wpS_first (wpAny_of_eq hmade ?_)
  dsimp only
  refine wpS_first (wpAny_pure ?_)
  refine wpS_first (m := holding _ (call _ _)) (wpAny_holding (wpAny_call (ba_code_new (Q₁ := fun v s' => wpS _ _ _ _ _ s') ?_)))
  have ha : (s.heap.push (baObj #[])).get? s.heap.objs.size = some (baObj #[]) := Heap.get?_push_size _ rfl
  refine wpS_first (wpAny_isInstance (baT (s := { s with heap := s.heap.push (baObj #[]) }) ha) hsub ?_)
  simp only [Bool.not_true, Bool.false_eq_true, if_false]
  refine wpS_bind (wpS_holding ?_)
  unfold callSpecial?
  refine wpS_first (wpAny_specialOf (baT (s := { s with heap := s.heap.push (baObj #[]) }) ha) slot_ba_init.lookup ?_)
  dsimp only
  refine wpS_holding ?_
  refine wpS_first (wpAny_of_eq (slot_ba_init.bind _) ?_)
  refine wpS_bind (wpS_call (codeS_call_builtin (by decide +kernel) plain_ba_init entry_ba_init (slot_ba_init.check _ _ _ _ _ _ _ _ (baT (s := { s with heap := s.heap.push (baObj #[]) }) ha) (hargs _) (ba_init ha ?_))))
  refine wpS_pure ?_
  refine wpS_of ?_
  show wpAny _ _ (if (Value.none != Value.none) = true then _ else _) _ _ _
  rw [if_neg (by decide)]
  exact wpAny_pure hQ
theorem owner_ba : Manifest.owners.lookup (String.ofList ['y', 'a', 'r', 'r', 'a', 'e', 't', 'y', 'b'].reverse) = some Manifest.sig_bytearray := by kernel_rfl
theorem args_ba_append (a b : Value) : argsOk "bytearray.append" ⟨[a, b], []⟩ := by
  unfold argsOk; rw [signature?_of (id := "bytearray.append") (n := ['d', 'n', 'e', 'p', 'p', 'a']) (o := ['y', 'a', 'r', 'r', 'a', 'e', 't', 'y', 'b']) (by kernel_rfl) owner_ba]; kernel_rfl
theorem args_ba_init (a : Value) : argsOk "bytearray.__init__" ⟨[a], []⟩ := by
  unfold argsOk; rw [signature?_of (id := "bytearray.__init__") (n := ['_', '_', 't', 'i', 'n', 'i', '_', '_']) (o := ['y', 'a', 'r', 'r', 'a', 'e', 't', 'y', 'b']) (by kernel_rfl) owner_ba]; kernel_rfl
end PartT2


theorem tidy_QU : True := by
  w_top off
  trivial
section PartU
open PySem.Calls
variable {prog : Program} {w : World} {A : Around} {E : Value → Shared → Prop} {s : Shared} {R : Result → Shared → Prop}
theorem codeS_func {body : List Stmt} {env : Env}
    (h : wpS (model prog w) (A.deeper env) (execs body env) (fun f s' => R (.ok (.ret (match f with | .ret v => v | _ => .none))) s')
      (fun e s' => wpS (model prog w) (A.deeper env) (leaving env e) (fun _ s'' => R (.error e) s'') (fun e' s'' => R (.error e') s'') s') s) :
    codeS (model prog w) A (.func body env) R s := by
  refine codeS_of_tree trivial ?_
  show wpS _ (A.deeper env) (do point; match ← (execs body env).onRaise (leaving env) with | .ret v => ret v | _ => ret .none) _ _ s
  refine wpS_first (wpAny_point (wpS_bind (wpS_onRaise (wpS_mono h (fun f s' h' => ?_) fun _ _ h' => h'))))
  cases f <;> exact wpS_pure h'
theorem codeS_call_function {a : Addr} {args : Args} {o : Obj} {fd : FuncData} {body : List Stmt} (hroom : A.depth < recursionLimit) (ho : s.heap.get? a = some o)
    (hd' : o.data = .func fd) (hco : fd.scope.isCoroutine = false) (hgen : fd.scope.isGenerator = false) (hbody : fd.body = .stmts body) (hcd : s.heap.CodeRec fd.code fd.qualname)
    (h : wpAny (model prog w) A.in1 (bindArgs fd args) (fun binds s₁ =>
      wpAny (model prog w) A.in1 (newFunctionEnv fd.scope fd.globals fd.closure binds (fd.qualname ++ ".<locals>.") (some a) fd.code none fd.builtins)
        (fun env s₂ => s₂.heap.NoLimit ∧ codeS (model prog w) A (.func body env) R s₂) (fun e s' => R (.error e) s') s₁) (fun e s' => R (.error e) s') s) :
    codeS (model prog w) A (.call (.ref a) args) R s := by
  refine codeS_of_tree trivial ?_
  show wpS _ A.in1 (callAny (.ref a) args) _ _ s
  simp only [callAny]
  refine wpS_first (wpAny_load ho ?_)
  obtain ⟨c, oc, vs, tq, hc, hoc, hdc, hq⟩ := hcd
  simp only [hd', callFunction, hco, hgen, hbody, hc]
  rw [hc] at h
  refine wpS_first (m := field (.ref c) 1) (wpAny_field hoc hdc hq (wpS_first (wpAny_pure ?_)))
  exact wpS_first (wpAny_mono h (fun binds s₁ h₁ => wpS_first (wpAny_mono h₁ (fun env s₂ h₂ => wpS_first (wpAny_enterFrame h₂.1 hroom
    (wpS_pure (And.intro rfl h₂.2)))) fun _ _ h' => h')) fun _ _ h' => h')
theorem codeS_call_def {a : Addr} {o : Obj} {fd : FuncData} {body : List Stmt} {args : Args} {binds : List (Str × Value)}
    (hroom : A.depth < recursionLimit) (ho : s.heap.get? a = some o) (hdata : o.data = .func fd) (hlim : s.heap.NoLimit) (hcd : s.heap.CodeRec fd.code fd.qualname)
    (hbody : fd.body = .stmts body) (hbind : BindsTo s fd args binds)
    (hcell : ∀ x ∈ fd.scope.names, x.2 ≠ .cell) (hloc : ∀ x ∈ binds, fd.scope.names.lookup x.1 = some .local)
    (h : ∀ h₀, h₀.Ns s.heap.objs.size (fun x => binds.reverse.lookup x) → (∀ b o, s.heap.get? b = some o → h₀.get? b = some o) →
      wpS (model prog w) (A.deeper (callEnv fd s.heap.objs.size a)) (execs body (callEnv fd s.heap.objs.size a)) (fun f s' => R (.ok (.ret (match f with | .ret v => v | _ => .none))) s')
        (fun e s' => wpS (model prog w) (A.deeper (callEnv fd s.heap.objs.size a)) (leaving (callEnv fd s.heap.objs.size a) e) (fun _ s'' => R (.error e) s'') (fun e' s'' => R (.error e') s'') s')
        { s with heap := h₀, toks := s.toks + binds.length })
    (hco : fd.scope.isCoroutine = false) (hgen : fd.scope.isGenerator = false) (hk : fd.scope.kind = .function) :
    codeS (model prog w) A (.call (.ref a) args) R s := by
  refine codeS_call_function hroom ho hdata hco hgen hbody hcd (hbind _ _ _ _ ?_)
  refine wpAny_newFunctionEnv hcell hloc (fun h₀ hns₀ hsb₀ => ⟨hlim.fresh _ hsb₀, codeS_func (h h₀ hns₀ fun b o e => ?_)⟩) hk
  exact hsb₀.extBut b o (Nat.ne_of_lt (Heap.lt_size e)) (Heap.get?_push_of_some _ e)
end PartU
section PartU2
variable {prog : Program} {w : World} {A₀ A : Around} {s : Shared} {base h₀ : Heap} {outer : List Env} {L : Addr} {m : Str → Option Value} {env : Env} {news : List (Addr × Obj)} {K : Frag} {p : Program} {loose : List Str} {mean : ExcName → Option Value} {mg mb : Str → Option Value}
theorem code_defS {R : Result → Shared → Prop} {name qual : Str} {params : Arguments} {body : List Stmt} {scope : Scope} {dV kV doc pm cdv ct oc : Value} {an od : Option Addr} {osl : Array (Option Value)} {f : Addr} {args : Args} {binds : List (Str × Value)}
    (B : Below A₀ base outer h₀) (F : Fr h₀ L s.heap m) (X₀ : K.In h₀) (N : News h₀ L s.heap news) (T : Top p loose mean mg mb h₀) (hA : A.frames = some (env :: outer)) (hf : env.frame = some L) (hke : env.scope.kind = .function)
    (ho : K.lookup f = some ⟨oc, od, .func (fnOf name qual params body scope dV kV doc pm an cdv ct), osl⟩) (hcd : codeIn K cdv qual = true) (hroom : A.depth < recursionLimit)
    (hbind : BindsTo s (fnOf name qual params body scope dV kV doc pm an cdv ct) args binds) (hloc : ∀ y ∈ binds, scope.names.lookup y.1 = some .local)
    (h : ∀ g L' h₁, Fr h₀ L g m → Fr g L' h₁ (fun y => binds.reverse.lookup y) → News g L' h₁ news → Below A base (env :: outer) g → K.In g → Top p loose mean mg mb g →
      wpS (model prog w) (A.deeper (envOf qual scope L' f cdv)) (execs body (envOf qual scope L' f cdv))
        (fun fl s' => LeaveK h₀ L m g R (match fl with | .ret v => v | _ => .none) s')
        (fun e s' => wpAny (model prog w) (A.deeper (envOf qual scope L' f cdv)) (leaving (envOf qual scope L' f cdv) e) (fun _ s'' => R (.error e) s'') (fun e' s'' => R (.error e') s'') s')
        { s with heap := h₁, toks := s.toks + binds.length })
    (hco : scope.isCoroutine = false) (hgen : scope.isGenerator = false) (hk : scope.kind = .function)
    (hcell : ∀ x ∈ scope.names, x.2 ≠ .cell) : codeS (model prog w) A (.call (.ref f) args) R s := by
  obtain ⟨FG, BG, st, lv⟩ := groundX (R := R) B F N hA hf hke
  refine codeS_call_def (fd := fnX name qual params body scope [] dV kV doc pm an cdv ct) (body := body) (binds := binds) hroom ((X₀.keeps F.keep) _ _ ho) rfl (T.nolimit.keeps F.keep) (codeRec_of (X₀.keeps F.keep) hcd) rfl hbind hcell hloc (fun h₁ hns hk₁ => ?_) hco hgen hk
  exact wpS_mono (h _ s.heap.objs.size h₁ FG ⟨hns, fun b o e => hk₁ b o (of_hideAll _ e), Nat.le_of_eq (hideAll_size _ _)⟩
    (fun p hp => ⟨hk₁ _ _ (N p hp).1, Nat.ne_of_lt (Heap.lt_size (N p hp).1), hideAll_none _ (List.mem_map_of_mem hp)⟩) BG (X₀.keeps st) (T.keeps st)) (fun fl s' hl => lv _ _ hl) fun _ _ y => wpS_of y
end PartU2


theorem tidy_QV : True := by
  w_top off
  trivial
section PartV
variable {M : Model} {A : Around} {E : Value → Shared → Prop} {s : Shared} {env : Env}
theorem wpS_execs_cons {st : Stmt} {rest : List Stmt} {Q : Flow → Shared → Prop}
    (h : wpS M A (exec st env) (fun f s' => match f with | .next => wpS M A (execs rest env) Q E s' | f => Q f s') E s) : wpS M A (execs (st :: rest) env) Q E s := by
  rw [execs_cons]
  refine wpS_bind (wpS_mono h (fun f s' h' => ?_) fun _ _ x => x)
  cases f <;> first | exact h' | exact wpS_pure h'
theorem wpS_Assign_Name {x : Str} {pos' : Pos} {value : Expr} {pos : Pos} {Q : Flow → Shared → Prop}
    (h : wpS M A (eval value env) (fun v s₁ => wpAny M A (storeName env x v) (fun _ => Q .next) E s₁) E s)
    (hs : swapsWith value (some (.Name x pos')) pos.line env = pure false) : wpS M A (exec (.Assign [.Name x pos'] value pos) env) Q E s := by
  rw [exec_Assign_Name env x pos' value pos hs]
  refine wpS_first (wpAny_standAt (wpS_bind (wpS_mono h (fun v s₁ h₁ => wpS_of ?_) fun _ _ x => x)))
  refine wpAny_bind (wpAny_standAt (wpAny_bind ?_))
  unfold bindName
  exact wpAny_bind (wpAny_holding (wpAny_point (wpAny_bind (wpAny_mono h₁ (fun _ s₂ h₂ => wpAny_point (wpAny_pure h₂)) fun _ _ x => x))))
theorem wpS_Return_some {e : Expr} {pos : Pos} {Q : Flow → Shared → Prop} (h : wpS M A (eval e env) (fun v s₁ => Q (.ret v) s₁) E s) : wpS M A (exec (.Return (some e) pos) env) Q E s := by
  rw [exec_Return_some]
  exact wpS_first (wpAny_standAt (wpS_bind (wpS_mono h (fun v s₁ h₁ => wpS_pure h₁) fun _ _ x => x)))
theorem wpS_Expr {e : Expr} {pos : Pos} {Q : Flow → Shared → Prop} (hi : interactive env = false) (hs : swapsWith e none pos.line env = pure false)
    (h : wpS M A (eval e env) (fun v s₁ => wpAny M A (dropValue e pos v) Q E s₁) E s) : wpS M A (exec (.Expr e pos) env) Q E s := by
  rw [exec_Expr env e pos hi hs]
  exact wpS_first (wpAny_standAt (wpS_bind (wpS_mono h (fun v s₁ h₁ => wpS_of h₁) fun _ _ x => x)))
theorem wpS_If {test : Expr} {body orelse : List Stmt} {pos : Pos} {Q : Flow → Shared → Prop}
    (h : wpAny M A (isTrue test env (eval test env)) (fun b s₁ => if b then wpS M A (execs body env) Q E s₁ else wpS M A (execs orelse env) Q E s₁) E s) : wpS M A (exec (.If test body orelse pos) env) Q E s := by
  rw [exec_If]
  refine wpS_first (wpAny_standAt (wpS_first (wpAny_mono h (fun b s₁ h₁ => ?_) fun _ _ x => x)))
  cases b
  · exact h₁
  · exact h₁
theorem wpS_IfExp {test body orelse : Expr} {pos : Pos} {Q : Value → Shared → Prop}
    (h : wpAny M A (isTrue test env (eval test env)) (fun b s₁ => if b then wpS M A (eval body env) Q E s₁ else wpS M A (eval orelse env) Q E s₁) E s) : wpS M A (eval (.IfExp test body orelse pos) env) Q E s := by
  rw [arm_eval_IfExp]
  refine wpS_first (wpAny_mono h (fun b s₁ h₁ => ?_) fun _ _ x => x)
  cases b
  · exact h₁
  · exact h₁
theorem wpS_spliced1 {x : Sem Value} {Q : List Value → Shared → Prop} (h : wpS M A x (fun v s₁ => Q [v] s₁) E s) : wpS M A (spliced [(false, x)]) Q E s := by
  show wpS M A (do let v ← x; let here ← pure [v]; return here ++ (← holding here (spliced []))) Q E s
  exact wpS_bind (wpS_mono h (fun v s₁ h₁ => wpS_first (wpAny_pure (wpS_bind (wpS_holding (wpS_pure (wpS_pure h₁)))))) fun _ _ x => x)
theorem wpS_spliced2 {x y : Sem Value} {Q : List Value → Shared → Prop} (h : wpAny M A x (fun v s₁ => wpS M A y (fun u s₂ => Q [v, u] s₂) E s₁) E s) : wpS M A (spliced [(false, x), (false, y)]) Q E s := by
  show wpS M A (do let v ← x; let here ← pure [v]; return here ++ (← holding here (spliced [(false, y)]))) Q E s
  exact wpS_first (wpAny_mono h (fun v s₁ h₁ => wpS_first (wpAny_pure (wpS_bind (wpS_holding (wpS_spliced1 (wpS_mono h₁ (fun u s₂ h₂ => wpS_pure h₂) fun _ _ x => x)))))) fun _ _ x => x)
theorem wpS_evalArgs {f : Value} {args : List (Bool × Sem Value)} {Q : Args → Shared → Prop} (hp : args.any (·.1) = false) (h : wpS M A (spliced args) (fun vs s₁ => Q ⟨vs, []⟩ s₁) E s) : wpS M A (evalArgs f true args []) Q E s := by
  cases args with
  | nil =>
    unfold evalArgs
    show wpS M A (spliced [] >>= _) Q E s
    refine wpS_bind (wpS_mono h (fun vs s' h' => ?_) fun _ _ x => x)
    refine wpS_holding ?_
    exact wpS_first (wpAny_pure (wpS_first (wpAny_pure (wpS_pure h'))))
  | cons y rest =>
    obtain ⟨b, x⟩ := y
    have hb : b = false := by
      cases b
      · rfl
      · simp at hp
    subst hb
    unfold evalArgs
    show wpS M A (spliced ((false, x) :: rest) >>= _) Q E s
    refine wpS_bind (wpS_mono h (fun vs s' h' => ?_) fun _ _ x => x)
    refine wpS_holding ?_
    exact wpS_first (wpAny_pure (wpS_first (wpAny_pure (wpS_pure h'))))
theorem wpS_tail {t : Sem Value} {Q : Value → Shared → Prop} (h : wpS M A t Q E s) : wpS M A (t >>= fun r => holding [r] point >>= fun _ => pure r) Q E s :=
  wpS_bind (wpS_mono h (fun r s₂ hr => wpS_first (wpAny_holding (wpAny_point (wpS_pure hr)))) fun _ _ x => x)
theorem wpS_keep {α : Type} {t : Sem α} {vs : List Value} {Q : α → Shared → Prop} (h : wpS M A t Q E s) : wpS M A (t.keep vs) Q E s := fun Γ p hΓ h1 h2 => by rw [Sem.wp_keep]; exact h Γ p hΓ h1 h2
theorem wpS_callWith_fun {pos : Pos} {a : Addr} {o : Obj} {fd : FuncData} {first : List Value} {args : List (Bool × Sem Value)} {Q : Value → Shared → Prop} (hp : args.any (·.1) = false)
    (h : wpS M A (spliced args) (fun vs s₁ => (s₁.heap.get? a = some o ∧ o.data = .func fd) ∧ wpS M A (call (.ref a) (first ++ vs) []) Q E s₁) E s) :
    wpS M A (callWith pos (.ref a) first args []) Q E s := by
  unfold callWith
  refine wpS_bind (wpS_holding (wpS_evalArgs hp (wpS_mono h (fun x s₁ h₁ => wpS_first (wpAny_standAt ?_)) fun _ _ x => x)))
  simp only [hp, List.any_nil, Bool.or_false]
  refine wpS_first (m := keeperOf (.ref a)) ?_
  unfold keeperOf
  refine wpAny_bind (wpAny_load h₁.1.1 ?_)
  rw [h₁.1.2]
  refine wpAny_pure ?_
  dsimp only
  split
  · exact wpS_tail h₁.2
  · exact wpS_tail (by unfold callMarked; exact wpS_keep h₁.2)
theorem wpS_callWith_mach {pos : Pos} {f : Value} {first : List Value} {args : List (Bool × Sem Value)} {Q : Value → Shared → Prop} (hp : args.any (·.1) = false) (hk : keeperOf f = pure .machine)
    (h : wpS M A (spliced args) (fun vs s₁ => wpS M A (call f (first ++ vs) []) Q E s₁) E s) :
    wpS M A (callWith pos f first args []) Q E s := by
  unfold callWith
  refine wpS_bind (wpS_holding (wpS_evalArgs hp (wpS_mono h (fun x s₁ h₁ => wpS_first (wpAny_standAt ?_)) fun _ _ x => x)))
  simp only [hp, List.any_nil, Bool.or_false]
  rw [hk]
  refine wpS_first (wpAny_pure ?_)
  exact wpS_tail h₁
theorem wpS_Call_Name {id : Str} {p pos : Pos} {args : List Expr} {Q : Value → Shared → Prop}
    (h : wpAny M A (eval (.Name id p) env) (fun f s₁ => wpS M A (callWith pos f [] (backTo pos (starEach args env)) []) Q E s₁) E s) :
    wpS M A (eval (.Call (.Name id p) args [] pos) env) Q E s := by
  rw [arm_eval_Call_Name']
  exact wpS_first h
theorem wpS_Call_Attr {o : Expr} {name : Str} {apos pos : Pos} {args : List Expr} {Q : Value → Shared → Prop}
    (hbase : attributeBase o name env (eval o env) = eval o env)
    (hfew : ((backTo pos (starEach args env)).all (fun x => !x.1) && (backToKw pos (keywordEach [] env)).all (fun x => x.1.isSome)
      && decide (args.length + ([] : List Keyword).length + (if ([] : List Keyword).isEmpty then 0 else 1) < 30)) = true)
    (hline : (apos.endLine == pos.line) = true)
    (h : wpAny M A (eval o env) (fun ov s₁ => wpAny M A (getMethod ov name (do return (← importBound o env).getD true)) (fun r s₂ => wpS M A (callWith pos r.1 r.2 (backTo pos (starEach args env)) []) Q E s₂) E s₁) E s) :
    wpS M A (eval (.Call (.Attribute o name apos) args [] pos) env) Q E s := by
  rw [arm_eval_Call, hbase]
  refine wpS_first (wpAny_mono h (fun ov s₁ h₁ => ?_) fun _ _ e => e)
  refine wpS_first (wpAny_standAt ?_)
  have hform : methodCallForm (args.length + ([] : List Keyword).length) (backTo pos (starEach args env)) (backToKw pos (keywordEach [] env)) = true := hfew
  have hpos : methodCallPos true o env apos pos = pure pos := by unfold methodCallPos; simp [hline]
  unfold methodCall
  rw [hform, hpos]
  refine wpS_first (m := holding _ _) (wpAny_holding ?_)
  show wpAny _ _ (getMethod ov name _) _ _ _
  refine wpAny_mono h₁ (fun r s₂ h₂ => ?_) fun _ _ e => e
  obtain ⟨f, first⟩ := r
  exact wpS_first (wpAny_pure h₂)
theorem wpS_Tuple2 {x y : Expr} {k : Nat} {pos : Pos} {Q : Value → Shared → Prop} (ht : backTo pos (starEach [x, y] env) = [(false, eval x env), (false, eval y env)])
    (h : wpAny M A (eval x env) (fun v s₁ => wpS M A (eval y env) (fun u s₂ => wpAny M A (newTuple [v, u]) Q E s₂) E s₁) E s) : wpS M A (eval (.Tuple [x, y] k pos) env) Q E s := by
  rw [arm_eval_Tuple, ht]
  refine wpS_first (wpAny_standAt (wpS_bind (wpS_spliced2 ?_)))
  exact wpAny_mono h (fun v s₁ h₁ => wpS_mono h₁ (fun u s₂ h₂ => wpS_of h₂) fun _ _ x => x) fun _ _ x => x
end PartV


theorem tidy_QW : True := by
  w_top off
  trivial
section PartW
theorem codeS_loop {M : Model} {A : Around} {c : Code} {R : Result → Shared → Prop} (hf : freeC c) (hq : c.quiet = true) (I : Nat → Shared → Prop)
    (turn : ∀ n s, I n s → wpS M (A.under c) (M.den c) (fun fin s' => match fin with | .done f => R (.ok f) s' | .again c' => c' = c ∧ ∃ m, m < n ∧ I m s') (fun e s' => R (.error e) s') s)
    (n : Nat) {s : Shared} (h : I n s) : codeS M A c R s := by
  induction n using Nat.strongRecOn generalizing s with
  | ind n ih =>
    refine codeS_of_tree hf (wpS_mono (turn n s h) (fun fin s' hf => ?_) fun _ _ h' => h')
    cases fin with
    | done f => exact hf
    | again c' => obtain ⟨rfl, m, hm, hI⟩ := hf; exact ⟨hq, ih m hm hI⟩
/-- a while in which nothing raises -/
theorem wpS_While {prog : Program} {w : World} {A : Around} {E : Value → Shared → Prop} {s : Shared} {env : Env} {test : Expr} {body : List Stmt} {pos : Pos} {Q : Flow → Shared → Prop} (I : Nat → Shared → Prop)
    (turn : ∀ n s, I n s → wpAny (model prog w) A (isTrue test env (eval test env)) (fun b s₁ => if b then wpS (model prog w) A (execs body env) (fun f s₂ => Hold (f = .next ∧ ∃ m, m < n ∧ I m s₂)) (fun _ _ => False) s₁ else Q .next s₁) (fun _ _ => False) s)
    (n : Nat) (h : I n s) : wpS (model prog w) A (exec (.While test body [] pos) env) Q E s := by
  rw [exec_While]
  refine wpS_first (wpAny_standAt ?_)
  unfold runOwn
  refine wpS_mono (E := fun _ _ => False) (wpS_onRaise (wpS_mono (E := fun _ _ => False) (wpS_run (codeS_loop (c := .whileLoop test body [] env) (R := fun r s' => match r with | .ok f => Q f s' | .error _ => False) trivial rfl I (fun n s hI => ?_) n h)) (fun _ _ x => x) fun _ _ x => x.elim)) (fun _ _ x => x) fun _ _ x => x.elim
  show wpS _ (A.under (.whileLoop test body [] env)) ((whileTurn test body [] env).onRaise (fun x => do noteFrame x env; theTreesLotGoes x)) _ _ _
  rw [Around.under_of_weight rfl]
  refine wpS_onRaise (wpS_mono (E := fun _ _ => False) ?_ (fun _ _ x => x) fun _ _ x => x.elim)
  unfold whileTurn
  refine wpS_first (wpAny_mono (turn n s hI) (fun b s₁ h₁ => ?_) fun _ _ x => x)
  cases b with
  | true =>
    simp only [if_true] at h₁ ⊢
    refine wpS_bind (wpS_mono h₁ (fun f s₂ h₂ => ?_) fun _ _ x => x)
    obtain ⟨rfl, m, hm, hI2⟩ := Hold.out h₂
    exact wpS_pure ⟨rfl, m, hm, hI2⟩
  | false =>
    simp only [Bool.false_eq_true, if_false] at h₁ ⊢
    exact wpS_first (wpAny_of_eq (a := Flow.next) rfl (wpS_pure h₁))
theorem wpS_nil {M : Model} {A : Around} {E : Value → Shared → Prop} {s : Shared} {env : Env} {Q : Flow → Shared → Prop} (h : Q .next s) : wpS M A (execs [] env) Q E s := wpS_pure h
/-- the same with the frame and a ledger -/
theorem while_S {prog : Program} {w : World} {A : Around} {E : Value → Shared → Prop} {s : Shared} {env : Env} {test : Expr} {body : List Stmt} {pos : Pos} {Q : Flow → Shared → Prop} {g : Heap} {L : Addr} {m : Str → Option Value} {σ : Type} (led : σ → CbLed) (P : σ → Prop) (μ : σ → Nat) (c₀ : σ)
    (F : Fr g L s.heap m) (N : News g L s.heap (led c₀)) (h0 : P c₀)
    (turn : ∀ c h tk, P c → Fr g L h m → News g L h (led c) → wpAny (model prog w) A (isTrue test env (eval test env)) (fun b s₁ => if b then wpS (model prog w) A (execs body env) (fun f s₂ => Hold (f = .next ∧ ∃ c' h' tk', P c' ∧ μ c' < μ c ∧ s₂ = { s with heap := h', toks := tk' } ∧ Fr g L h' m ∧ News g L h' (led c'))) (fun _ _ => False) s₁ else Q .next s₁) (fun _ _ => False) { s with heap := h, toks := tk }) :
    wpS (model prog w) A (exec (.While test body [] pos) env) Q E s := by
  refine wpS_While (fun n s' => ∃ c h tk, n = μ c ∧ P c ∧ s' = { s with heap := h, toks := tk } ∧ Fr g L h m ∧ News g L h (led c)) (fun n s' hI => ?_) (μ c₀) ⟨c₀, s.heap, s.toks, rfl, h0, rfl, F, N⟩
  refine @ex3 _ _ _ _ _ hI fun c h tk hz => @an5 _ _ _ _ _ _ hz fun ehzq1 hP ehzq2 F' N' => ?_
  clear hz hI
  subst ehzq1
  subst ehzq2
  refine wpAny_mono (turn c h tk hP F' N') (fun b s₁ h₁ => ?_) fun _ _ x => x
  cases b with
  | true =>
    simp only [if_true] at h₁ ⊢
    refine wpS_mono h₁ (fun f s₂ h₂ => ?_) fun _ _ x => x
    obtain ⟨rfl, c', h', tk', hP', hm, rfl, F2, N2⟩ := Hold.out h₂
    exact Hold.mk ⟨rfl, _, hm, c', h', tk', rfl, hP', rfl, F2, N2⟩
  | false => exact h₁
noncomputable abbrev SCtr (w : World) (mean : ExcName → Option Value) (mg mb : Str → Option Value) (rk : Nat) (f : Addr) (vs : List Value) (news : CbLed) (P : Value → CbLed → Prop) (R : Prop) : Prop :=
  ∀ (dp un : Nat) (gd : Option (List Code)) (cn : Str) (cs : Scope) (a : Addr) (ccd : Value) (cl : List (Str × Addr)) (outer : List Env) (A₀ : Around) (base h₀ : Heap) (L : Addr) (m : Str → Option Value) (s : Shared) (Q E : Value → Shared → Prop),
    Below A₀ base outer h₀ → Fr h₀ L s.heap m → (hd.heap_1_1 w.params).In h₀ → News h₀ L s.heap news →
    Top hd.view_1_2 (looseW hd.view_1_2 [Str.ofString "PostError", Str.ofString "CHARSETS"]) mean mg mb h₀ → cs.kind = .function →
    dp + rk < recursionLimit → un + 8 * rk < cLine →
    (∀ r nx h' tk', Fr h₀ L h' m → News h₀ L h' nx → P r nx → Q r { s with heap := h', toks := tk' }) →
    (∀ e t vs C lg h' tk' g, R → Fr h₀ L g m → RaisedK base (envX cn cs L a ccd cl :: outer) e (.ref C) t vs lg h' → g.UpToSlots h' → (C = 95 ∨ C = 119) → E (.ref e) { s with heap := h', toks := tk' }) →
    wpS (model PySem.Challenge.rw_nz0327_01.row.prog w) (ktrTop dp un gd cn cs L a ccd cl outer) (call (.ref f) vs) Q E s
theorem SCtr.of {w : World} {mean : ExcName → Option Value} {mg mb : Str → Option Value} {rk : Nat} {f : Addr} {vs : List Value} {news : CbLed} {P : Value → CbLed → Prop} {R : Prop} (c : Ctr w mean mg mb rk f vs news P R) : SCtr w mean mg mb rk f vs news P R := by
  intro dp un gd cn cs a ccd cl outer A₀ base h₀ L m s Q E B F X N T hk hdp hun hret hexc
  exact wpS_of (c dp un gd cn cs a ccd cl outer A₀ base h₀ L m s Q E B F X N T hk hdp hun hret hexc)
end PartW
theorem say_QW_0 : True := by
  k_with "enterS" => (refine' code_defS ?k1 ?k2 ?k3 ?k4 ?k5 ?kA ?kF ?kK ?k6 ?k7 ?k8 ?k9 ?kB ?_ ?c2 ?c3 ?c4 ?c5; (case kA => exact rfl); (case kF => exact rfl); (case kK => assumption); (case k1 => k_asm); (case k2 => k_asm); (case k3 => k_asm); (case k4 => k_asm); (case k5 => k_asm); (case k6 => k_is); (case k7 => k_is); (case k8 => ktr_room); (case k9 => first | exact BindsTo.of_eq rfl | exact binds_K (by k_in) rfl (by k_is) rfl rfl rfl); (case c5 => decide); (case kB => exact locs rfl); (case c2 => exact rfl); (case c3 => exact rfl); (case c4 => exact rfl); k_whole; intro g_wz L_wz h_wz FG_wz F_wz N_wz B_wz X_wz T_wz; (try dsimp only); (try k_lift B_wz); (try k_fold))
  trivial
section PartW1
variable {prog : Program} {w : World} {A : Around} {E : Value → Shared → Prop} {s : Shared} {h₀ : Heap} {L : Addr} {m : Str → Option Value} {news : CbLed}
theorem ba_made {h : Heap} (F : Fr h₀ L h m) (N : News h₀ L h news) : Fr h₀ L ((h.push (baObj #[])).update h.objs.size (Obj.mapBytearray (fun _ => #[]))) m ∧
    News h₀ L ((h.push (baObj #[])).update h.objs.size (Obj.mapBytearray (fun _ => #[]))) ((h.objs.size, baObj #[]) :: news) :=
  news_upd (pre := []) (post := news) (d := h.objs.size) (o := baObj #[]) (o' := baObj #[]) (f := Obj.mapBytearray (fun _ => #[])) (F.push (baObj #[])) (N.push F (baObj #[])) (fun p hp => nomatch hp) (fun p hp => Nat.ne_of_lt (Heap.lt_size (N p hp).1)) rfl rfl
theorem ba_pushed {h : Heap} {B : Addr} {U : Array UInt8} {c : UInt8} {pre post : CbLed} (F : Fr h₀ L h m) (N : News h₀ L h (pre ++ (B, baObj U) :: post)) (h1 : ∀ p ∈ pre, p.1 ≠ B) (h2 : ∀ p ∈ post, p.1 ≠ B) :
    Fr h₀ L (h.update B (Obj.mapBytearray (·.push c))) m ∧ News h₀ L (h.update B (Obj.mapBytearray (·.push c))) (pre ++ (B, baObj (U.push c)) :: post) :=
  news_upd (f := Obj.mapBytearray (·.push c)) (o' := baObj (U.push c)) F N h1 h2 rfl rfl
theorem bInts_push {U : Array UInt8} {c : Int} (h0 : 0 ≤ c) (h1 : c < 256) : KBw.bInts (U.push c.toNat.toUInt8) = KBw.bInts U ++ [c] := by
  show (U.push c.toNat.toUInt8).toList.map (fun c => (c.toNat : Int)) = _
  rw [Array.toList_push, List.map_append]
  show _ ++ [((UInt8.ofNat c.toNat).toNat : Int)] = _
  rw [UInt8.toNat_ofNat']
  have : ((c.toNat % 2 ^ 8 : Nat) : Int) = c := by omega
  rw [this]; rfl
theorem call_bytes_ba {a : Addr} {U : Array UInt8} {Q : Value → Shared → Prop} (ha : s.heap.get? a = some (baObj U)) (hz : U.size ≤ sizeLine) (hQ : ∀ t k, Q (.bytes U t) { s with toks := k }) : wpAny (model prog w) A (call (.type "bytes") [.ref a]) Q E s := by
  refine callType_codes (Q₁ := fun obj s₁ => s₁.TypeIs obj "bytes" ∧ Q obj s₁) F.bm_called (F.bm_typeCall _) F.entry_object_init
    (bma_new ha rfl rfl hz fun t k => ⟨PySem.W.typeIs_bytes _ _ _, hQ t k⟩) fun obj s₁ h₁ => ?_
  exact ⟨h₁.1, F.args_object_init_2 obj _, object_init_meets F.bm_called.init.lookup F.bm_called.made (by decide) prog w A.in1 _ s₁ ⟨h₁.1, rfl, h₁.2⟩⟩
end PartW1
section PartW2
theorem quoted_s (w : World) (mean : ExcName → Option Value) (mg mb : Str → Option Value) (rest : CbLed) (wa dx : Nat) (x : WTok) (D : Array UInt8) (ks : List Int) (p : Int) (u v : List Int)
    (hne : dx ≠ wa) (hr : ∀ q ∈ rest, q.1 ≠ dx) (hD : KBw.bInts D = ks) (hlen : ks.length ≤ 10000) (hat : At ks p (34 :: (u ++ 34 :: v))) (hu : ∀ c ∈ u, 33 ≤ c ∧ c < 127 ∧ c ≠ 34 ∧ c ≠ 92) :
   SCtr w mean mg mb 15 647 [.ref wa] (WL wa dx x D p rest) (fun r nx => ∃ U t x' p', r = .bytes U t ∧ KBw.bInts U = u ∧ At ks p' v ∧ nx = WL wa dx x' D p' rest) False := by
  unfold SCtr
  k_fill
  intro dp un gd cn cs a ccd cl outer A₀ base h₀ L m s Q E B F X N T hk hdp hun hret hexc
  refine wpS_call ?_
  k_dflt walk_at "enterS"
  refine wpS_execs_cons (wpS_of ?_)
  k_steps
  refine wpS_execs_cons (wpS_Assign_Name ?_ rfl)
  refine wpS_Call_Name ?_
  k_steps
  refine wpS_callWith_mach rfl rfl ?_
  refine wpS_of (wpAny_pure ?_)
  refine callS_bytearray (fun a => args_ba_init (.ref a)) ?_
  rename Fr _ _ _ _ => F1
  rename News _ _ _ _ => N1
  refine @an2 _ _ _ (ba_made F1 N1) fun F2 N2 => ?_
  have l2 : ∀ q ∈ WL wa dx _ D (p + 1) rest, q.1 < _ := fun q hq => Heap.lt_size (N1 q hq).1
  have hB2 := l2 _ (.tail _ (.head _))
  have hB1 := l2 _ (.head _)
  have hBr : ∀ q ∈ rest, q.1 < _ := fun q hq => l2 q (.tail _ (.tail _ hq))
  replace N2 := wl_front1 N2
  clear l2
  (try dsimp only at F2 N2 hB2 hB1 hBr ⊢)
  generalize (Heap.update (Heap.push _ _) _ _) = H2 at *
  generalize (Array.size (Heap.objs _)) = B2 at *
  k_steps
  refine wpS_execs_cons ?_
  rename Fr _ _ _ _ => F3
  rename News _ _ _ _ => N3
  refine @ex1 _ _ _ (wl_pack N3) fun x3 N3 => ?_
  refine while_S (σ := WTok × Array UInt8 × Nat) (fun c => WL wa dx c.1 D (p + 1 + c.2.2) ((B2, baObj c.2.1) :: rest)) (fun c => KBw.bInts c.2.1 = u.take c.2.2 ∧ c.2.2 ≤ u.length) (fun c => u.length - c.2.2) (x3, #[], 0) F3 ?_ ⟨by rfl, Nat.zero_le _⟩ ?_
  · have e : p + 1 + ((0 : Nat) : Int) = p + 1 := by omega
    rw [e]; exact N3
  intro c h4 tk4 hP F4 N4
  obtain ⟨x4, U, i⟩ := c
  (try dsimp only at hP N4 ⊢)
  obtain ⟨hU, hi⟩ := hP
  have hq := hat.hit.2
  have hb := hq.add hi
  have hul : u.length ≤ ks.length := by have := congrArg List.length hq.2.2; simp at this; omega
  clear hat hq
  have hr2 : ∀ q ∈ (B2, baObj U) :: rest, q.1 ≠ dx := fun q hq => by
    rcases List.mem_cons.mp hq with rfl | hq
    · exact Ne.symm (Nat.ne_of_lt hB2)
    · exact hr q hq
  cases hd : u.drop i with
  | nil =>
    rw [hd] at hb
    replace hb : At ks (p + 1 + i) (34 :: v) := hb
    have hb2 := hb.hit.2
    have hie : i = u.length := by have := congrArg List.length hd; simp at this; omega
    have hUu : KBw.bInts U = u := by rw [hU, hie, List.take_length]
    k_steps
    refine wpS_execs_cons (wpS_of ?_)
    k_steps
    refine wpS_execs_cons (wpS_of ?_)
    k_steps
    rename Fr _ _ _ _ => F5
    rename News _ _ _ _ => N5
    have hUs : U.size ≤ u.length := by rw [← KBw.ints_length, hUu]; omega
    refine call_bytes_ba (N5.get (.tail _ (.tail _ (.head _)))) (by rw [sizeLine_eq]; omega) fun t9 k9 => ?_
    k_steps
    rename News h₀ _ _ _ => N8
    refine @ex1 _ _ _ (wl_pack N8) fun x9 N9 => ?_
    refine hret _ (WL wa dx x9 D _ rest) _ _ (by assumption) (fun q hq => N9 q ?_) ⟨U, t9, x9, _, rfl, hUu, hb2, rfl⟩
    rcases List.mem_cons.mp hq with rfl | hq
    · exact .head _
    rcases List.mem_cons.mp hq with rfl | hq
    · exact .tail _ (.head _)
    · exact .tail _ (.tail _ (.tail _ hq))
  | cons z zs =>
    rw [hd] at hb
    replace hb : At ks (p + 1 + i) (z :: (zs ++ 34 :: v)) := hb
    have hz := hu z (List.mem_of_mem_drop (by rw [hd]; exact .head _))
    refine @an4 _ _ _ _ _ hz fun hz1 hz2 hz3 hz4 => ?_
    clear hz
    k_steps
    refine wpS_execs_cons (wpS_If ?_)
    k_steps
    · exfalso; omega
    refine wpS_nil ?_
    refine wpS_execs_cons (wpS_If ?_)
    k_steps
    all_goals (try (exfalso; omega))
    · exfalso
      rename (Array.contains _ _ = true) => q
      rw [show (#[13, 10] : Array UInt8) = [13, 10].toArray from rfl, contains_arr _ z (by omega) (by omega)] at q
      simp at q
      omega
    refine wpS_nil ?_
    refine wpS_execs_cons (wpS_Expr rfl rfl ?_)
    refine wpS_Call_Attr rfl rfl rfl ?_
    walk1
    rename Fr _ _ _ _ => F5
    rename News _ _ _ _ => N5
    have hget := N5.get (.tail _ (.tail _ (.head _)))
    refine getMethod_builtin (baT hget) ba_plain slot_ba_append type_ba_append (fun a e => by cases e; exact ⟨_, hget, rfl⟩) ?_
    refine wpS_callWith_mach rfl rfl ?_
    refine wpS_spliced1 (wpS_of ?_)
    rw [if_neg (by decide)]
    k_steps
    rename Fr _ _ _ _ => F6
    rename News _ _ _ _ => N6
    have hUs : U.size ≤ u.length := by rw [← KBw.ints_length, hU, List.length_take]; omega
    refine callS_append (args_ba_append _ _) (N6.get (.tail _ (.tail _ (.head _)))) (by omega) (by omega) (by rw [sizeLine_eq]; omega) ?_
    obtain ⟨F7, N7⟩ := ba_pushed (c := z.toNat.toUInt8) (pre := [_, _]) F6 N6 (fun q hq => by
      rcases List.mem_cons.mp hq with rfl | hq
      · exact Nat.ne_of_lt hB1
      rw [List.mem_singleton.mp hq]; exact Nat.ne_of_lt hB2) (fun q hq => Nat.ne_of_lt (hBr q hq))
    (try dsimp only at F7 N7 ⊢)
    simp only [List.cons_append, List.nil_append] at N7
    generalize Heap.update _ _ _ = H7 at *
    replace N7 : News _ _ H7 (WL wa dx x4 D (p + 1 + i) ((B2, baObj (U.push z.toNat.toUInt8)) :: rest)) := N7
    have hr3 : ∀ q ∈ (B2, baObj (U.push z.toNat.toUInt8)) :: rest, q.1 ≠ dx := fun q hq => by
      rcases List.mem_cons.mp hq with rfl | hq
      · exact Ne.symm (Nat.ne_of_lt hB2)
      · exact hr q hq
    refine wpAny_of_eq (a := Flow.next) rfl ?_
    refine wpS_execs_cons (wpS_of ?_)
    k_steps
    refine wpS_nil ?_
    rename Fr _ _ _ _ => F8
    rename News _ _ _ _ => N8
    refine @ex1 _ _ _ (wl_pack N8) fun x8 N8 => ?_
    have e : p + 1 + (i : Int) + 1 = p + 1 + ((i + 1 : Nat) : Int) := by omega
    rw [e] at N8
    have hlt : i < u.length := by have := congrArg List.length hd; simp at this; omega
    refine Hold.mk ⟨rfl, (x8, U.push z.toNat.toUInt8, i + 1), _, _, ⟨?_, hlt⟩, ?_, rfl, F8, N8⟩
    · show KBw.bInts (U.push z.toNat.toUInt8) = u.take (i + 1)
      rw [bInts_push (by omega) (by omega), hU, List.take_add_one]
      have : u[i]? = some z := by
        have h9 : (u.drop i)[0]? = some z := by rw [hd]; rfl
        simpa using h9
      rw [this]; rfl
    · show u.length - (i + 1) < u.length - i
      omega
end PartW2


theorem tidy_QX : True := by
  w_top off
  trivial
theorem say_QX_0 : True := by
  k_with "argsS" => ((case k4 => k_asm); (case p1 => assumption); (case p2 => assumption); (case p3 => assumption); (case p4 => assumption); (case p5 => assumption); (case k1 => k_asm); (case k3 => k_asm); (case k5 => k_asm); (case kK => first | exact rfl | assumption); (case kd => ktr_room); (case ku => ktr_units))
  trivial
section PartX
theorem sctr_use {w : World} {mean : ExcName → Option Value} {mg mb : Str → Option Value} {rk : Nat} {f : Addr} {vs : List Value} {news : CbLed} {P : Value → CbLed → Prop} (c : SCtr w mean mg mb rk f vs news P False)
    {dp un : Nat} {gd : Option (List Code)} {cn : Str} {cs : Scope} {a : Addr} {ccd : Value} {cl : List (Str × Addr)} {outer : List Env} {A₀ : Around} {base h₀ : Heap} {L : Addr} {m : Str → Option Value} {s : Shared} {Q E : Value → Shared → Prop}
    (B : Below A₀ base outer h₀) (F : Fr h₀ L s.heap m) (X : (hd.heap_1_1 w.params).In h₀) (N : News h₀ L s.heap news)
    (T : Top hd.view_1_2 (looseW hd.view_1_2 [Str.ofString "PostError", Str.ofString "CHARSETS"]) mean mg mb h₀) (hk : cs.kind = .function)
    (hdp : dp + rk < recursionLimit) (hun : un + 8 * rk < cLine)
    (ret : ∀ r nx h' tk', Fr h₀ L h' m → News h₀ L h' nx → P r nx → Q r { s with heap := h', toks := tk' }) :
    wpS (model PySem.Challenge.rw_nz0327_01.row.prog w) (ktrTop dp un gd cn cs L a ccd cl outer) (call (.ref f) vs) Q E s :=
  c dp un gd cn cs a ccd cl outer A₀ base h₀ L m s Q E B F X N T hk hdp hun ret fun _ _ _ _ _ _ _ _ h => h.elim
theorem wpS_args0 {M : Model} {A : Around} {E : Value → Shared → Prop} {s : Shared} {Q : List Value → Shared → Prop} (h : Q [] s) : wpS M A (spliced []) Q E s := wpS_pure h
theorem wpS_callWith_funH {prog : Program} {w : World} {A : Around} {E : Value → Shared → Prop} {s : Shared} {pos : Pos} {a : Addr} {o : Obj} {fd : FuncData} {first : List Value} {args : List (Bool × Sem Value)} {Q : Value → Shared → Prop} (hp : args.any (·.1) = false)
    (h : wpS (model prog w) A (spliced args) (fun vs s₁ => Hold ((s₁.heap.get? a = some o ∧ o.data = .func fd) ∧ wpS (model prog w) A (call (.ref a) (first ++ vs) []) Q E s₁)) E s) :
    wpS (model prog w) A (callWith pos (.ref a) first args []) Q E s := wpS_callWith_fun hp (wpS_mono h (fun _ _ x => Hold.out x) fun _ _ x => x)
theorem string_s (w : World) (mean : ExcName → Option Value) (mg mb : Str → Option Value) (rest : CbLed) (wa dx : Nat) (x : WTok) (D : Array UInt8) (ks : List Int) (p : Int) (u v : List Int)
    (hne : dx ≠ wa) (hr : ∀ q ∈ rest, q.1 ≠ dx) (hD : KBw.bInts D = ks) (hlen : ks.length ≤ 10000) (hat : At ks p (34 :: (u ++ 34 :: v))) (hu : ∀ c ∈ u, 33 ≤ c ∧ c < 127 ∧ c ≠ 34 ∧ c ≠ 92) :
   SCtr w mean mg mb 20 661 [.ref wa] (WL wa dx x D p rest) (fun r nx => ∃ U t x' p', r = .bytes U t ∧ KBw.bInts U = u ∧ At ks p' v ∧ nx = WL wa dx x' D p' rest) False := by
  unfold SCtr
  k_fill
  intro dp un gd cn cs a ccd cl outer A₀ base h₀ L m s Q E B F X N T hk hdp hun hret hexc
  refine wpS_call ?_
  k_dflt walk_at "enterS"
  refine wpS_execs_cons (wpS_Return_some (wpS_IfExp ?_))
  k_steps
  refine wpS_Call_Attr rfl rfl rfl ?_
  k_steps
  have h647 : ∃ o fd, (hd.heap_1_1 w.params).lookup 647 = some o ∧ o.data = .func fd := ⟨_, _, rfl, rfl⟩
  refine @ex2 _ _ _ _ h647 fun o6 fd6 hz => @an2 _ _ _ hz fun l6 d6 => ?_
  clear hz h647
  rename Fr _ _ _ _ => F5
  refine wpS_callWith_fun (a := 647) rfl (wpS_args0 ⟨⟨((by k_asm : (hd.heap_1_1 w.params).In _).keeps F5.keep) _ _ l6, d6⟩, ?_⟩)
  k_dflt (refine' sctr_use (quoted_s w mean mg mb _ _ _ _ _ _ _ u v ?p1 ?p2 ?p3 ?p4 ?p5 hu) ?k1 F5 ?k3 ?k4 ?k5 ?kK ?kd ?ku ?_)
  walk_at "argsS"
  intro r' n' h' tk' F' N' P'
  refine @ex4 _ _ _ _ _ _ P' fun U' t' x' p' hz => @an4 _ _ _ _ _ hz fun e2 hU' hat' e1 => ?_
  clear hz P'
  replace e1 := e1.symm
  subst e1
  subst e2
  (try dsimp only)
  k_steps
  exact hret _ _ _ _ (by assumption) (by assumption) ⟨_, _, _, _, rfl, hU', hat', rfl⟩
theorem stror_s (w : World) (mean : ExcName → Option Value) (mg mb : Str → Option Value) (rest : CbLed) (wa dx : Nat) (x : WTok) (D : Array UInt8) (ks : List Int) (p : Int) (u v : List Int)
    (hne : dx ≠ wa) (hr : ∀ q ∈ rest, q.1 ≠ dx) (hD : KBw.bInts D = ks) (hlen : ks.length ≤ 10000) (hat : At ks p (34 :: (u ++ 34 :: v))) (hu : ∀ c ∈ u, 33 ≤ c ∧ c < 127 ∧ c ≠ 34 ∧ c ≠ 92) :
   SCtr w mean mg mb 24 668 [.ref wa, .ref 499] (WL wa dx x D p rest) (fun r nx => ∃ U t x' p', r = .bytes U t ∧ KBw.bInts U = u ∧ At ks p' v ∧ nx = WL wa dx x' D p' rest) False := by
  unfold SCtr
  k_fill
  intro dp un gd cn cs a ccd cl outer A₀ base h₀ L m s Q E B F X N T hk hdp hun hret hexc
  refine wpS_call ?_
  k_dflt walk_at "enterS"
  refine wpS_execs_cons (wpS_If ?_)
  k_steps
  refine wpS_execs_cons (wpS_Return_some (wpS_Call_Attr rfl rfl rfl ?_))
  k_steps
  have h6 : ∃ o fd, (hd.heap_1_1 w.params).lookup 661 = some o ∧ o.data = .func fd := ⟨_, _, rfl, rfl⟩
  refine @ex2 _ _ _ _ h6 fun o6 fd6 hz => @an2 _ _ _ hz fun l6 d6 => ?_
  clear hz h6
  rename Fr _ _ _ _ => F5
  refine wpS_callWith_fun (a := 661) rfl (wpS_args0 ⟨⟨((by k_asm : (hd.heap_1_1 w.params).In _).keeps F5.keep) _ _ l6, d6⟩, ?_⟩)
  k_dflt (refine' sctr_use (string_s w mean mg mb _ _ _ _ _ _ _ u v ?p1 ?p2 ?p3 ?p4 ?p5 hu) ?k1 F5 ?k3 ?k4 ?k5 ?kK ?kd ?ku ?_)
  walk_at "argsS"
  intro r' n' h' tk' F' N' P'
  refine @ex4 _ _ _ _ _ _ P' fun U' t' x' p' hz => @an4 _ _ _ _ _ hz fun e2 hU' hat' e1 => ?_
  clear hz P'
  replace e1 := e1.symm
  subst e1
  subst e2
  (try dsimp only)
  k_steps
  exact hret _ _ _ _ (by assumption) (by assumption) ⟨_, _, _, _, rfl, hU', hat', rfl⟩
theorem astr_s (w : World) (mean : ExcName → Option Value) (mg mb : Str → Option Value) (rest : CbLed) (wa dx : Nat) (x : WTok) (D : Array UInt8) (ks : List Int) (p : Int) (u v : List Int)
    (hne : dx ≠ wa) (hr : ∀ q ∈ rest, q.1 ≠ dx) (hD : KBw.bInts D = ks) (hlen : ks.length ≤ 10000) (hat : At ks p (34 :: (u ++ 34 :: v))) (hu : ∀ c ∈ u, 33 ≤ c ∧ c < 127 ∧ c ≠ 34 ∧ c ≠ 92) :
   SCtr w mean mg mb 28 675 [.ref wa] (WL wa dx x D p rest) (fun r nx => ∃ U t x' p', r = .bytes U t ∧ KBw.bInts U = u ∧ At ks p' v ∧ nx = WL wa dx x' D p' rest) False := by
  unfold SCtr
  k_fill
  intro dp un gd cn cs a ccd cl outer A₀ base h₀ L m s Q E B F X N T hk hdp hun hret hexc
  refine wpS_call ?_
  k_dflt walk_at "enterS"
  refine wpS_execs_cons (wpS_Return_some (wpS_Call_Attr rfl rfl rfl ?_))
  k_steps
  have h6 : ∃ o fd, (hd.heap_1_1 w.params).lookup 668 = some o ∧ o.data = .func fd := ⟨_, _, rfl, rfl⟩
  refine @ex2 _ _ _ _ h6 fun o6 fd6 hz => @an2 _ _ _ hz fun l6 d6 => ?_
  clear hz h6
  refine wpS_callWith_funH (a := 668) (o := o6) (fd := fd6) rfl (wpS_spliced1 (wpS_of ?_))
  rw [if_neg (by decide)]
  k_steps
  rename Fr _ _ _ _ => F5
  refine Hold.mk ⟨⟨((by k_asm : (hd.heap_1_1 w.params).In _).keeps F5.keep) _ _ l6, d6⟩, ?_⟩
  k_dflt (refine' sctr_use (stror_s w mean mg mb _ _ _ _ _ _ _ u v ?p1 ?p2 ?p3 ?p4 ?p5 hu) ?k1 F5 ?k3 ?k4 ?k5 ?kK ?kd ?ku ?_)
  walk_at "argsS"
  intro r' n' h' tk' F' N' P'
  refine @ex4 _ _ _ _ _ _ P' fun U' t' x' p' hz => @an4 _ _ _ _ _ hz fun e2 hU' hat' e1 => ?_
  clear hz P'
  replace e1 := e1.symm
  subst e1
  subst e2
  (try dsimp only)
  k_steps
  exact hret _ _ _ _ (by assumption) (by assumption) ⟨_, _, _, _, rfl, hU', hat', rfl⟩
end PartX


theorem tidy_PR : True := by
  w_top off
  trivial
theorem say_PR_0 : True := by
  k_with "call ref" => (k_here; (with_reducible show wpAny _ _ (call (Value.ref 177) _) _ _ _); k_dflt (refine' ctr_useK (cnames_c_k _ _ _ _ _) ?k1 ?k2 ?k3 ?k4 ?k5 ?kK ?kd ?ku ?_; (case k2 => k_asm); (case k4 => k_asm); (case k1 => k_asm); (case k3 => k_asm); (case k5 => k_asm); (case kK => first | exact rfl | assumption); (case kd => ktr_room); (case ku => ktr_units)); (intro d_wz o_wz hd_wz lo_wz h_wz tk_wz F_wz N_wz; (try dsimp only); (try k_fold)))
  trivial
section PartR
  local macro_rules | `(tactic| walk_at "call builtin:dict.get") => `(tactic| (k_here; refine Hold.out ?_))
theorem cname_c (w : World) (mean : ExcName → Option Value) (mg mb : Str → Option Value) (rest : CbLed) (x : Str) (tx : Tok) (v : Option Value) (hx : x.cps.size ≤ 10000) (ha : ∀ c ∈ x.cps.toList, c < 128) (hv : valueAt kw3 (loS x) = v) :
   Ctr w mean mg mb 8 184 [.str x tx] rest (fun r nx => nx = rest ∧ ∃ t, r = v.getD (.str (Str.ofString "") t)) False := by
  unfold Ctr
  k_fill
  intro dp un gd cn cs a ccd cl outer A₀ base h₀ L m s Q E B F X N T hk hdp hun hret hexc
  refine wpAny_call ?_
  k_dflt cell_enter
  k_steps
  refine Hold.mk ?_
  rename News _ _ _ _ => N5
  rename (_ == sysModules) = false => lo
  rename Obj.IsDictOf _ _ _ => hd5
  refine kdg_get2 (knd := PySem.strKind _ _) N5 (.head _) hd5 lo (strKind_is _ _ _ _) v hv ?_
  k_steps
  rename News h₀ _ _ _ => N8
  exact hret _ _ _ _ (by assumption) (fun q hq => N8 q (.tail _ hq)) ⟨rfl, _, rfl⟩
theorem cname_c_k (w : World) (mean : ExcName → Option Value) (mg mb : Str → Option Value) (rest : CbLed) (x : Str) (tx : Tok) (v : Option Value) (hx : x.cps.size ≤ 10000) (ha : ∀ c ∈ x.cps.toList, c < 128) (hv : valueAt kw3 (loS x) = v) :
   CtrK w mean mg mb 8 184 [.str x tx] rest (fun G => ∀ t, G (v.getD (.str (Str.ofString "") t)) (rest)) :=
  CtrK.of (cname_c w mean mg mb rest x tx v hx ha hv) (by intro G k; rintro r nx ⟨rfl, t, rfl⟩; exact k _)
end PartR


theorem tidy_PT : True := by
  w_top off
  trivial
theorem wl_front2 {h₀ h : Heap} {L : Addr} {a b : Addr × Obj} {wa dx : Nat} {x : WTok} {D : Array UInt8} {p : Int} {rest : CbLed} (N : News h₀ L h (a :: b :: WL wa dx x D p rest)) : News h₀ L h (WL wa dx x D p (a :: b :: rest)) := fun q hq => by
  refine N q ?_
  rcases List.mem_cons.mp hq with rfl | hq
  · exact .tail _ (.tail _ (.head _))
  rcases List.mem_cons.mp hq with rfl | hq
  · exact .tail _ (.tail _ (.tail _ (.head _)))
  rcases List.mem_cons.mp hq with rfl | hq
  · exact .head _
  rcases List.mem_cons.mp hq with rfl | hq
  · exact .tail _ (.head _)
  · exact .tail _ (.tail _ (.tail _ (.tail _ hq)))
theorem let_lt {u : List Int} (hu : ∀ c ∈ u, isLet c = true) : ∀ c ∈ u, 0 ≤ c ∧ c < 128 := by
  intro c hc
  have := hu c hc
  simp only [isLet, Bool.or_eq_true, Bool.and_eq_true, decide_eq_true_iff] at this
  omega
section PartT3
theorem kw_c (w : World) (mean : ExcName → Option Value) (mg mb : Str → Option Value) (rest : CbLed) (wa dx : Nat) (x : WTok) (D : Array UInt8) (ks : List Int) (p : Int) (u v : List Int)
    (hne : dx ≠ wa) (hr : ∀ q ∈ rest, q.1 ≠ dx) (hD : KBw.bInts D = ks) (hlen : ks.length ≤ 10000) (hat : At ks p (u ++ v)) (hu : ∀ c ∈ u, isLet c = true) (hv : ∀ c, v.head? = some c → isLet c = false) (hn : u ≠ []) (W : Str) (hW : upS (strOf u) = W) :
   Ctr w mean mg mb 10 333 [.ref wa] (WL wa dx x D p rest) (fun r nx => ∃ t x', r = .str W t ∧ At ks (p + u.length) v ∧ nx = WL wa dx x' D (p + u.length) rest) False := by
  unfold Ctr
  k_fill
  intro dp un gd cn cs a ccd cl outer A₀ base h₀ L m s Q E B F X N T hk hdp hun hret hexc
  refine wpAny_call ?_
  k_dflt cell_enter
  have hul : u.length ≤ 10000 := by
    have := hat.add (Nat.le_refl u.length)
    have h1 := this.2.1
    have h0 := hat.1
    omega
  have hlt := let_lt hu
  have hsz : (strOf u).cps.size ≤ 10000 := by rw [strOf_size]; exact hul
  have hlt2 := strOf_lt hlt
  subst hW
  k_steps
  · exfalso
    rename (_ == _) = true => q
    rename KBw.bInts _ = u => hU
    apply hn
    rw [← hU]
    show (Array.toList _).map _ = []
    rw [beq_iff_eq.mp q]
    rfl
  · exact hret _ _ _ _ (by assumption) (by assumption) ⟨_, _, rfl, by assumption, rfl⟩
theorem kw_c_k (w : World) (mean : ExcName → Option Value) (mg mb : Str → Option Value) (rest : CbLed) (wa dx : Nat) (x : WTok) (D : Array UInt8) (ks : List Int) (p : Int) (u v : List Int)
    (hne : dx ≠ wa) (hr : ∀ q ∈ rest, q.1 ≠ dx) (hD : KBw.bInts D = ks) (hlen : ks.length ≤ 10000) (hat : At ks p (u ++ v)) (hu : ∀ c ∈ u, isLet c = true) (hv : ∀ c, v.head? = some c → isLet c = false) (hn : u ≠ []) (W : Str) (hW : upS (strOf u) = W) :
   CtrK w mean mg mb 10 333 [.ref wa] (WL wa dx x D p rest) (fun G => ∀ t x', (At ks (p + u.length) v) → G (.str W t) (WL wa dx x' D (p + u.length) rest)) :=
  CtrK.of (kw_c w mean mg mb rest wa dx x D ks p u v hne hr hD hlen hat hu hv hn W hW) (by intro G k; rintro r nx ⟨t, x', rfl, hc0, rfl⟩; exact k _ _ hc0)
end PartT3
theorem say_PT_0 : True := by
  k_with "call ref" => (k_here; (with_reducible show wpAny _ _ (call (Value.ref 333) _) _ _ _); k_dflt (refine' ctr_useK (kw_c_k _ _ _ _ _ _ _ _ _ _ _ _ _ ?p1 ?p2 ?p3 ?p4 ?p5 ?p6 ?p7 ?p8 _ ?p9) ?k1 ?k2 ?k3 ?k4 ?k5 ?kK ?kd ?ku ?_; (case k2 => k_asm); (case k4 => k_asm); (case p1 => first | assumption | exact Ne.symm (by assumption) | omega); (case p2 => assumption); (case p3 => assumption); (case p4 => assumption); (case p5 => assumption); (case p6 => assumption); (case p7 => assumption); (case p8 => assumption); (case p9 => assumption); (case k1 => k_asm); (case k3 => k_asm); (case k5 => k_asm); (case kK => first | exact rfl | assumption); (case kd => ktr_room); (case ku => ktr_units)); (intro t_wz x_wz hat_wz h_wz tk_wz F_wz N_wz; (try dsimp only); (try k_fold)))
  k_with "call ref" => (k_here; (with_reducible show wpAny _ _ (call (Value.ref 305) _) _ _ _); k_dflt (refine' ctr_useK (rset_c_k _ _ _ _ _ _) ?k1 ?k2 ?k3 ?k4 ?k5 ?kK ?kd ?ku ?_; (case k2 => k_asm); (case k4 => k_asm); (case k1 => k_asm); (case k3 => k_asm); (case k5 => k_asm); (case kK => first | exact rfl | assumption); (case kd => ktr_room); (case ku => ktr_units)); (intro T1_wz T2_wz t1_wz t2_wz h_wz tk_wz F_wz N_wz; (try dsimp only); (try k_fold)))
  trivial
section PartT4
theorem seth_c (w : World) (mean : ExcName → Option Value) (mg mb : Str → Option Value) (rest : CbLed) (wa dx : Nat) (x : WTok) (D : Array UInt8) (ks : List Int) (p : Int) (v : List Int)
    (hne : dx ≠ wa) (hr : ∀ q ∈ rest, q.1 ≠ dx) (hD : KBw.bInts D = ks) (hlen : ks.length ≤ 10000) (hat : At ks p ([49, 58, 50] ++ v)) (hv : ∀ c, v.head? = some c → isSetB c = false) :
   Ctr w mean mg mb 14 340 [.ref wa] (WL wa dx x D p rest) (fun r nx => ∃ T1 T2 t1 t2 x', r = .ref T2 ∧ At ks (p + 3) v ∧ nx = WL wa dx x' D (p + 3) ((T2, tupObj [.ref T1]) :: (T1, tupObj [.int 1 t1, .int 2 t2]) :: rest)) False := by
  unfold Ctr
  k_fill
  intro dp un gd cn cs a ccd cl outer A₀ base h₀ L m s Q E B F X N T hk hdp hun hret hexc
  refine wpAny_call ?_
  k_dflt cell_enter
  have hu : ∀ c ∈ ([49, 58, 50] : List Int), isSetB c = true := by decide
  have hlt : ∀ c ∈ ([49, 58, 50] : List Int), 0 ≤ c ∧ c < 128 := by decide
  have hul : ([49, 58, 50] : List Int).length ≤ 10000 := by decide
  k_steps
  rename News h₀ _ _ _ => N8
  rename At _ (_ + _) v => hat8
  exact hret _ _ _ _ (by assumption) (wl_front2 N8) ⟨_, _, _, _, _, rfl, hat8, rfl⟩
theorem seth_c_k (w : World) (mean : ExcName → Option Value) (mg mb : Str → Option Value) (rest : CbLed) (wa dx : Nat) (x : WTok) (D : Array UInt8) (ks : List Int) (p : Int) (v : List Int)
    (hne : dx ≠ wa) (hr : ∀ q ∈ rest, q.1 ≠ dx) (hD : KBw.bInts D = ks) (hlen : ks.length ≤ 10000) (hat : At ks p ([49, 58, 50] ++ v)) (hv : ∀ c, v.head? = some c → isSetB c = false) :
   CtrK w mean mg mb 14 340 [.ref wa] (WL wa dx x D p rest) (fun G => ∀ T1 T2 t1 t2 x', (At ks (p + 3) v) → G (.ref T2) (WL wa dx x' D (p + 3) ((T2, tupObj [.ref T1]) :: (T1, tupObj [.int 1 t1, .int 2 t2]) :: rest))) :=
  CtrK.of (seth_c w mean mg mb rest wa dx x D ks p v hne hr hD hlen hat hv) (by intro G k; rintro r nx ⟨T1, T2, t1, t2, x', rfl, hc0, rfl⟩; exact k _ _ _ _ _ hc0)
end PartT4
theorem say_PT_1 : True := by
  k_with "call ref" => (k_here; (with_reducible show wpAny _ _ (call (Value.ref 382) _) _ _ _); k_dflt (refine' ctr_useK (leafA_c_k _ _ _ _ _ _) ?k1 ?k2 ?k3 ?k4 ?k5 ?kK ?kd ?ku ?_; (case k2 => k_asm); (case k4 => k_asm); (case k1 => k_asm); (case k3 => k_asm); (case k5 => k_asm); (case kK => first | exact rfl | assumption); (case kd => ktr_room); (case ku => ktr_units)); (intro T_wz t1_wz h_wz tk_wz F_wz N_wz; (try dsimp only); (try k_fold)))
  k_with "call ref" => (k_here; (with_reducible show wpAny _ _ (call (Value.ref 382) _) _ _ _); k_dflt (refine' ctr_useK (leafS_c_k _ _ _ _ _ _) ?k1 ?k2 ?k3 ?k4 ?k5 ?kK ?kd ?ku ?_; (case k2 => k_asm); (case k4 => k_asm); (case k1 => k_asm); (case k3 => k_asm); (case k5 => k_asm); (case kK => first | exact rfl | assumption); (case kd => ktr_room); (case ku => ktr_units)); (intro T_wz t1_wz t2_wz h_wz tk_wz F_wz N_wz; (try dsimp only); (try k_fold)))
  k_with "call ref" => (k_here; (with_reducible show wpAny _ _ (call (Value.ref 340) _) _ _ _); k_dflt (refine' ctr_useK (seth_c_k _ _ _ _ _ _ _ _ _ _ _ _ ?p1 ?p2 ?p3 ?p4 ?p5 ?p6) ?k1 ?k2 ?k3 ?k4 ?k5 ?kK ?kd ?ku ?_; (case k2 => k_asm); (case k4 => k_asm); (case p1 => first | assumption | exact Ne.symm (by assumption) | omega); (case p2 => assumption); (case p3 => assumption); (case p4 => assumption); (case p5 => assumption); (case p6 => assumption); (case k1 => k_asm); (case k3 => k_asm); (case k5 => k_asm); (case kK => first | exact rfl | assumption); (case kd => ktr_room); (case ku => ktr_units)); (intro T1_wz T2_wz t1_wz t2_wz x_wz hat_wz h_wz tk_wz F_wz N_wz; (try dsimp only); (try k_fold)))
  trivial
section PartT5
theorem contains_set (n : Int) (b : Bool) (h : (#[48, 49, 50, 51, 52, 53, 54, 55, 56, 57, 58, 42, 44] : Array UInt8).contains (Int.toNat n).toUInt8 = b) (h2 : (#[48, 49, 50, 51, 52, 53, 54, 55, 56, 57, 58, 42, 44] : Array UInt8).contains (Int.toNat n).toUInt8 = !b) : False := by
  rw [h] at h2
  cases b <;> cases h2
theorem rkS_c (w : World) (mean : ExcName → Option Value) (mg mb : Str → Option Value) (rest : CbLed) (wa dx : Nat) (x : WTok) (D : Array UInt8) (ks : List Int) (p : Int) (v : List Int) (c : Str) (tc td : Tok)
    (hne : dx ≠ wa) (hr : ∀ q ∈ rest, q.1 ≠ dx) (hD : KBw.bInts D = ks) (hlen : ks.length ≤ 10000) (hat : At ks p ([83, 69, 69, 78] ++ v)) (hv : ∀ c, v.head? = some c → isLet c = false) :
   Ctr w mean mg mb 20 410 [.ref wa, .str c tc, .int 0 td] (WL wa dx x D p rest) (fun r nx => ∃ T t1 t2 x', r = .ref T ∧ At ks (p + 4) v ∧ nx = WL wa dx x' D (p + 4) ((T, tupObj [.str (Str.ofString "flag") t1, .str ⟨#[92, 83, 101, 101, 110]⟩ t2]) :: rest)) False := by
  unfold Ctr
  k_fill
  intro dp un gd cn cs a ccd cl outer A₀ base h₀ L m s Q E B F X N T hk hdp hun hret hexc
  refine wpAny_call ?_
  k_dflt cell_enter
  have hu : ∀ c ∈ ([83, 69, 69, 78] : List Int), isLet c = true := by decide
  have hn : ([83, 69, 69, 78] : List Int) ≠ [] := by decide
  have hW : upS (strOf [83, 69, 69, 78]) = Str.ofString "SEEN" := by decide +kernel
  have hat2 : At ks p (83 :: ([ 69, 69, 78] ++ v)) := hat
  k_steps
  · exfalso
    rename (Array.contains _ _ = true) => q
    exact contains_set 83 false (by decide +kernel) q
  · rename News h₀ _ _ _ => N8
    rename At _ (_ + _) v => hat8
    exact hret _ _ _ _ (by assumption) (wl_front1 N8) ⟨_, _, _, _, rfl, hat8, rfl⟩
theorem rkA_c (w : World) (mean : ExcName → Option Value) (mg mb : Str → Option Value) (rest : CbLed) (wa dx : Nat) (x : WTok) (D : Array UInt8) (ks : List Int) (p : Int) (v : List Int) (c : Str) (tc td : Tok)
    (hne : dx ≠ wa) (hr : ∀ q ∈ rest, q.1 ≠ dx) (hD : KBw.bInts D = ks) (hlen : ks.length ≤ 10000) (hat : At ks p ([97, 108, 108] ++ v)) (hv : ∀ c, v.head? = some c → isLet c = false) :
   Ctr w mean mg mb 20 410 [.ref wa, .str c tc, .int 0 td] (WL wa dx x D p rest) (fun r nx => ∃ T t1 x', r = .ref T ∧ At ks (p + 3) v ∧ nx = WL wa dx x' D (p + 3) ((T, tupObj [.str (Str.ofString "all") t1]) :: rest)) False := by
  unfold Ctr
  k_fill
  intro dp un gd cn cs a ccd cl outer A₀ base h₀ L m s Q E B F X N T hk hdp hun hret hexc
  refine wpAny_call ?_
  k_dflt cell_enter
  have hu : ∀ c ∈ ([97, 108, 108] : List Int), isLet c = true := by decide
  have hn : ([97, 108, 108] : List Int) ≠ [] := by decide
  have hW : upS (strOf [97, 108, 108]) = Str.ofString "ALL" := by decide +kernel
  have hat2 : At ks p (97 :: ([ 108, 108] ++ v)) := hat
  k_steps
  · exfalso
    rename (Array.contains _ _ = true) => q
    exact contains_set 97 false (by decide +kernel) q
  · rename News h₀ _ _ _ => N8
    rename At _ (_ + _) v => hat8
    exact hret _ _ _ _ (by assumption) (wl_front1 N8) ⟨_, _, _, rfl, hat8, rfl⟩
theorem rkQ_c (w : World) (mean : ExcName → Option Value) (mg mb : Str → Option Value) (rest : CbLed) (wa dx : Nat) (x : WTok) (D : Array UInt8) (ks : List Int) (p : Int) (v : List Int) (c : Str) (tc td : Tok)
    (hne : dx ≠ wa) (hr : ∀ q ∈ rest, q.1 ≠ dx) (hD : KBw.bInts D = ks) (hlen : ks.length ≤ 10000) (hat : At ks p ([49, 58, 50] ++ v)) (hv : ∀ c, v.head? = some c → isSetB c = false) :
   Ctr w mean mg mb 20 410 [.ref wa, .str c tc, .int 0 td] (WL wa dx x D p rest) (fun r nx => ∃ T T1 T2 t t1 t2 x', r = .ref T ∧ At ks (p + 3) v ∧ nx = WL wa dx x' D (p + 3) ((T, tupObj [.str (Str.ofString "seq") t, .ref T2]) :: (T2, tupObj [.ref T1]) :: (T1, tupObj [.int 1 t1, .int 2 t2]) :: rest)) False := by
  unfold Ctr
  k_fill
  intro dp un gd cn cs a ccd cl outer A₀ base h₀ L m s Q E B F X N T hk hdp hun hret hexc
  refine wpAny_call ?_
  k_dflt cell_enter
  have hat2 : At ks p (49 :: ([ 58, 50] ++ v)) := hat
  k_steps
  · rename News h₀ _ _ _ => N8
    rename At _ (_ + _) v => hat8
    exact hret _ _ _ _ (by assumption) (wl_front1 N8) ⟨_, _, _, _, _, _, _, rfl, hat8, rfl⟩
  · exfalso
    rename (Array.contains _ _ = false) => q
    exact contains_set 49 true (by decide +kernel) q
end PartT5


theorem tidy_PU : True := by
  w_top off
  trivial
/-- the octets of the three keys -/
noncomputable def keyB : Nat → List Int
  | 0 => [83, 69, 69, 78]
  | 1 => [97, 108, 108]
  | _ => [49, 58, 50]
/-- what a key gives, and the objects that hold it -/
noncomputable def KeyLed : Nat → Value → CbLed → Prop
  | 0, r, own => ∃ T t1 t2, r = .ref T ∧ own = [(T, tupObj [.str (Str.ofString "flag") t1, .str ⟨#[92, 83, 101, 101, 110]⟩ t2])]
  | 1, r, own => ∃ T t1, r = .ref T ∧ own = [(T, tupObj [.str (Str.ofString "all") t1])]
  | _, r, own => ∃ T T1 T2 t t1 t2, r = .ref T ∧ own = [(T, tupObj [.str (Str.ofString "seq") t, .ref T2]), (T2, tupObj [.ref T1]), (T1, tupObj [.int 1 t1, .int 2 t2])]
theorem news_off {h₀ h : Heap} {L : Addr} {l : CbLed} {a b : Addr} {o o' : Obj} (N : News h₀ L h l) (h1 : (a, o) ∈ l) (h2 : (b, o') ∈ l) (hne : o.cls ≠ o'.cls) : a ≠ b := fun e => by
  have e1 := N.get h1
  have e2 := N.get h2
  rw [e, e2] at e1
  exact hne (congrArg Obj.cls (Option.some.inj e1).symm)
theorem keyLed_tup {k : Nat} {r : Value} {own : CbLed} (h : KeyLed k r own) : ∀ q ∈ own, q.2.cls = .type "tuple" := by
  unfold KeyLed at h
  split at h
  · obtain ⟨_, _, _, _, rfl⟩ := h
    intro q hq
    rw [List.mem_singleton.mp hq]
  · obtain ⟨_, _, _, rfl⟩ := h
    intro q hq
    rw [List.mem_singleton.mp hq]
  · obtain ⟨_, _, _, _, _, _, _, rfl⟩ := h
    intro q hq
    rcases List.mem_cons.mp hq with rfl | hq
    · rfl
    rcases List.mem_cons.mp hq with rfl | hq
    · rfl
    · rw [List.mem_singleton.mp hq]
theorem own_off {h₀ h : Heap} {L : Addr} {wa dx : Nat} {x : WTok} {D : Array UInt8} {p : Int} {own rest : CbLed} (N : News h₀ L h (WL wa dx x D p (own ++ rest))) (ho : ∀ q ∈ own, q.2.cls = .type "tuple") (hr : ∀ q ∈ rest, q.1 ≠ dx) : ∀ q ∈ own ++ rest, q.1 ≠ dx := fun q hq => by
  rcases List.mem_append.mp hq with hq' | hq'
  · exact news_off N (.tail _ (.tail _ hq)) (.tail _ (.head _)) (by rw [ho q hq']; show (_ : Value) ≠ Value.type "dict"; decide)
  · exact hr q hq'
theorem rk_c (k : Nat) (w : World) (mean : ExcName → Option Value) (mg mb : Str → Option Value) (rest : CbLed) (wa dx : Nat) (x : WTok) (D : Array UInt8) (ks : List Int) (p : Int) (c : Str) (tc td : Tok)
    (hne : dx ≠ wa) (hr : ∀ q ∈ rest, q.1 ≠ dx) (hD : KBw.bInts D = ks) (hlen : ks.length ≤ 10000) (hat : At ks p (keyB k ++ [13, 10])) :
   Ctr w mean mg mb 20 410 [.ref wa, .str c tc, .int 0 td] (WL wa dx x D p rest) (fun r nx => ∃ own x' p', KeyLed k r own ∧ At ks p' [13, 10] ∧ (∀ q ∈ own ++ rest, q.1 ≠ dx) ∧ nx = WL wa dx x' D p' (own ++ rest)) False := by
  intro dp un gd cn cs a ccd cl outer A₀ base h₀ L m s Q E B F X N T hk hdp hun hret hexc
  match k, hat with
  | 0, hat =>
    refine rkS_c w mean mg mb rest wa dx x D ks p [13, 10] c tc td hne hr hD hlen hat (by decide) dp un gd cn cs a ccd cl outer A₀ base h₀ L m s Q E B F X N T hk hdp hun (fun r nx h' tk' F' N' hP => ?_) hexc
    obtain ⟨T, t1, t2, x', rfl, hat', rfl⟩ := hP
    have hk : KeyLed 0 (.ref T) [(T, tupObj [.str (Str.ofString "flag") t1, .str ⟨#[92, 83, 101, 101, 110]⟩ t2])] := ⟨_, _, _, rfl, rfl⟩
    exact hret _ _ _ _ F' N' ⟨_, _, _, hk, hat', own_off N' (keyLed_tup hk) hr, rfl⟩
  | 1, hat =>
    refine rkA_c w mean mg mb rest wa dx x D ks p [13, 10] c tc td hne hr hD hlen hat (by decide) dp un gd cn cs a ccd cl outer A₀ base h₀ L m s Q E B F X N T hk hdp hun (fun r nx h' tk' F' N' hP => ?_) hexc
    obtain ⟨T, t1, x', rfl, hat', rfl⟩ := hP
    have hk : KeyLed 1 (.ref T) [(T, tupObj [.str (Str.ofString "all") t1])] := ⟨_, _, rfl, rfl⟩
    exact hret _ _ _ _ F' N' ⟨_, _, _, hk, hat', own_off N' (keyLed_tup hk) hr, rfl⟩
  | k + 2, hat =>
    refine rkQ_c w mean mg mb rest wa dx x D ks p [13, 10] c tc td hne hr hD hlen hat (by decide) dp un gd cn cs a ccd cl outer A₀ base h₀ L m s Q E B F X N T hk hdp hun (fun r nx h' tk' F' N' hP => ?_) hexc
    obtain ⟨T, T1, T2, t, t1, t2, x', rfl, hat', rfl⟩ := hP
    have hk : KeyLed (k + 2) (.ref T) [(T, tupObj [.str (Str.ofString "seq") t, .ref T2]), (T2, tupObj [.ref T1]), (T1, tupObj [.int 1 t1, .int 2 t2])] := ⟨_, _, _, _, _, _, rfl, rfl⟩
    exact hret _ _ _ _ F' N' ⟨_, _, _, hk, hat', own_off N' (keyLed_tup hk) hr, rfl⟩
theorem rk_c_k (k : Nat) (w : World) (mean : ExcName → Option Value) (mg mb : Str → Option Value) (rest : CbLed) (wa dx : Nat) (x : WTok) (D : Array UInt8) (ks : List Int) (p : Int) (c : Str) (tc td : Tok)
    (hne : dx ≠ wa) (hr : ∀ q ∈ rest, q.1 ≠ dx) (hD : KBw.bInts D = ks) (hlen : ks.length ≤ 10000) (hat : At ks p (keyB k ++ [13, 10])) :
   CtrK w mean mg mb 20 410 [.ref wa, .str c tc, .int 0 td] (WL wa dx x D p rest) (fun G => ∀ own x' p' r, (KeyLed k r own) → (At ks p' [13, 10]) → ((∀ q ∈ own ++ rest, q.1 ≠ dx)) → G (r) (WL wa dx x' D p' (own ++ rest))) :=
  CtrK.of (rk_c k w mean mg mb rest wa dx x D ks p c tc td hne hr hD hlen hat) (by intro G k; rintro r nx ⟨own, x', p', hc0, hc1, hc2, rfl⟩; exact k _ _ _ _ hc0 hc1 hc2)
theorem say_PU_0 : True := by
  k_with "call ref" => (k_here; (with_reducible show wpAny _ _ (call (Value.ref 410) _) _ _ _); k_dflt (refine' ctr_useK (rk_c_k _ _ _ _ _ _ _ _ _ _ _ _ _ _ _ ?p1 ?p2 ?p3 ?p4 ?p5) ?k1 ?k2 ?k3 ?k4 ?k5 ?kK ?kd ?ku ?_; (case k2 => k_asm); (case k4 => k_asm); (case p1 => first | assumption | exact Ne.symm (by assumption) | omega); (case p2 => assumption); (case p3 => assumption); (case p4 => assumption); (case p5 => assumption); (case k1 => k_asm); (case k3 => k_asm); (case k5 => k_asm); (case kK => first | exact rfl | assumption); (case kd => ktr_room); (case ku => ktr_units)); (intro own_wz x_wz p_wz r_wz hkl_wz hat_wz hoff_wz h_wz tk_wz F_wz N_wz; (try dsimp only); (try k_fold)))
  trivial
section PartU3
theorem rks_c (k : Nat) (w : World) (mean : ExcName → Option Value) (mg mb : Str → Option Value) (rest : CbLed) (wa dx : Nat) (x : WTok) (D : Array UInt8) (ks : List Int) (p : Int) (c : Str) (tc td : Tok)
    (hne : dx ≠ wa) (hr : ∀ q ∈ rest, q.1 ≠ dx) (hD : KBw.bInts D = ks) (hlen : ks.length ≤ 10000) (hat : At ks p (keyB k ++ [13, 10])) :
   Ctr w mean mg mb 24 417 [.ref wa, .str c tc, .int 0 td] (WL wa dx x D p rest) (fun r nx => ∃ own x' p', KeyLed k r own ∧ At ks p' [13, 10] ∧ (∀ q ∈ own ++ rest, q.1 ≠ dx) ∧ nx = WL wa dx x' D p' (own ++ rest)) False := by
  unfold Ctr
  k_fill
  intro dp un gd cn cs a ccd cl outer A₀ base h₀ L m s Q E B F X N T hk hdp hun hret hexc
  refine wpAny_call ?_
  k_dflt cell_enter
  k_steps
  refine Hold.mk ?_
  rename Fr _ _ _ _ => F1
  rename News _ _ _ _ => N1
  k_dflt (refine ksw_while (σ := Unit) (fun _ => WL wa dx _ D _ (_ ++ rest)) (fun _ => []) (fun _ => True) [] (fun _ => True) (fun _ => 0) () F1 N1 trivial (fun _ h => nomatch h) trivial ?_)
  intro c k h tk _ hP F2 N2
  (try dsimp only at hP N2 ⊢)
  k_steps
  rename KeyLed _ _ _ => hkl
  rename At _ _ [13, 10] => hat9
  rename ∀ q ∈ _ ++ rest, _ => hoff9
  exact hret _ _ _ _ (by assumption) (by assumption) ⟨_, _, _, hkl, hat9, hoff9, rfl⟩
theorem rks_c_k (k : Nat) (w : World) (mean : ExcName → Option Value) (mg mb : Str → Option Value) (rest : CbLed) (wa dx : Nat) (x : WTok) (D : Array UInt8) (ks : List Int) (p : Int) (c : Str) (tc td : Tok)
    (hne : dx ≠ wa) (hr : ∀ q ∈ rest, q.1 ≠ dx) (hD : KBw.bInts D = ks) (hlen : ks.length ≤ 10000) (hat : At ks p (keyB k ++ [13, 10])) :
   CtrK w mean mg mb 24 417 [.ref wa, .str c tc, .int 0 td] (WL wa dx x D p rest) (fun G => ∀ own x' p' r, (KeyLed k r own) → (At ks p' [13, 10]) → ((∀ q ∈ own ++ rest, q.1 ≠ dx)) → G (r) (WL wa dx x' D p' (own ++ rest))) :=
  CtrK.of (rks_c k w mean mg mb rest wa dx x D ks p c tc td hne hr hD hlen hat) (by intro G k; rintro r nx ⟨own, x', p', hc0, hc1, hc2, rfl⟩; exact k _ _ _ _ hc0 hc1 hc2)
end PartU3
theorem say_PU_1 : True := by
  k_with "call ref" => (k_here; (with_reducible show wpAny _ _ (call (Value.ref 417) _) _ _ _); k_dflt (refine' ctr_useK (rks_c_k _ _ _ _ _ _ _ _ _ _ _ _ _ _ _ ?p1 ?p2 ?p3 ?p4 ?p5) ?k1 ?k2 ?k3 ?k4 ?k5 ?kK ?kd ?ku ?_; (case k2 => k_asm); (case k4 => k_asm); (case p1 => first | assumption | exact Ne.symm (by assumption) | omega); (case p2 => assumption); (case p3 => assumption); (case p4 => assumption); (case p5 => assumption); (case k1 => k_asm); (case k3 => k_asm); (case k5 => k_asm); (case kK => first | exact rfl | assumption); (case kd => ktr_room); (case ku => ktr_units)); (intro own_wz x_wz p_wz r_wz hkl_wz hat_wz hoff_wz h_wz tk_wz F_wz N_wz; (try dsimp only); (try k_fold)))
  k_with "call ref" => (k_here; (with_reducible show wpAny _ _ (call (Value.ref 184) _) _ _ _); k_dflt (refine' ctr_useK (cname_c_k _ _ _ _ _ _ _ _ ?p1 ?p2 ?p3) ?k1 ?k2 ?k3 ?k4 ?k5 ?kK ?kd ?ku ?_; (case k2 => k_asm); (case k4 => k_asm); (case p1 => assumption); (case p2 => assumption); (case p3 => assumption); (case k1 => k_asm); (case k3 => k_asm); (case k5 => k_asm); (case kK => first | exact rfl | assumption); (case kd => ktr_room); (case ku => ktr_units)); (intro t_wz h_wz tk_wz F_wz N_wz; (try dsimp only [Option.getD]); (try k_fold)))
  trivial
section PartU4
theorem rq_c (k : Nat) (w : World) (mean : ExcName → Option Value) (mg mb : Str → Option Value) (rest : CbLed) (wa dx : Nat) (x : WTok) (D : Array UInt8) (ks : List Int) (p : Int) (c y : Str) (tc ty : Tok)
    (hne : dx ≠ wa) (hr : ∀ q ∈ rest, q.1 ≠ dx) (hD : KBw.bInts D = ks) (hlen : ks.length ≤ 10000) (hat : At ks p (keyB k ++ [13, 10])) (hx : y.cps.size ≤ 10000) (ha : ∀ c ∈ y.cps.toList, c < 128) (hv : valueAt kw3 (loS y) = some (.str c tc)) (hc : (c == Str.ofString "") = false) :
   Ctr w mean mg mb 28 424 [.ref wa, .str y ty] (WL wa dx x D p rest) (fun r nx => ∃ own x' p', KeyLed k r own ∧ At ks p' [13, 10] ∧ (∀ q ∈ own ++ rest, q.1 ≠ dx) ∧ nx = WL wa dx x' D p' (own ++ rest)) False := by
  unfold Ctr
  k_fill
  intro dp un gd cn cs a ccd cl outer A₀ base h₀ L m s Q E B F X N T hk hdp hun hret hexc
  refine wpAny_call ?_
  k_dflt cell_enter
  k_steps
  rename KeyLed _ _ _ => hkl
  rename At _ _ [13, 10] => hat9
  rename ∀ q ∈ _ ++ rest, _ => hoff9
  exact hret _ _ _ _ (by assumption) (by assumption) ⟨_, _, _, hkl, hat9, hoff9, rfl⟩
theorem rq_c_k (k : Nat) (w : World) (mean : ExcName → Option Value) (mg mb : Str → Option Value) (rest : CbLed) (wa dx : Nat) (x : WTok) (D : Array UInt8) (ks : List Int) (p : Int) (c y : Str) (tc ty : Tok)
    (hne : dx ≠ wa) (hr : ∀ q ∈ rest, q.1 ≠ dx) (hD : KBw.bInts D = ks) (hlen : ks.length ≤ 10000) (hat : At ks p (keyB k ++ [13, 10])) (hx : y.cps.size ≤ 10000) (ha : ∀ c ∈ y.cps.toList, c < 128) (hv : valueAt kw3 (loS y) = some (.str c tc)) (hc : (c == Str.ofString "") = false) :
   CtrK w mean mg mb 28 424 [.ref wa, .str y ty] (WL wa dx x D p rest) (fun G => ∀ own x' p' r, (KeyLed k r own) → (At ks p' [13, 10]) → ((∀ q ∈ own ++ rest, q.1 ≠ dx)) → G (r) (WL wa dx x' D p' (own ++ rest))) :=
  CtrK.of (rq_c k w mean mg mb rest wa dx x D ks p c y tc ty hne hr hD hlen hat hx ha hv hc) (by intro G k; rintro r nx ⟨own, x', p', hc0, hc1, hc2, rfl⟩; exact k _ _ _ _ hc0 hc1 hc2)
theorem rq_bad (w : World) (mean : ExcName → Option Value) (mg mb : Str → Option Value) (rest : CbLed) (wa dx : Nat) (x : WTok) (D : Array UInt8) (p : Int) (y : Str) (ty : Tok)
    (hx : y.cps.size ≤ 10000) (ha : ∀ c ∈ y.cps.toList, c < 128) (hv : valueAt kw3 (loS y) = none) :
   Ctr w mean mg mb 28 424 [.ref wa, .str y ty] (WL wa dx x D p rest) (fun r nx => False) True := by
  unfold Ctr
  k_fill
  intro dp un gd cn cs a ccd cl outer A₀ base h₀ L m s Q E B F X N T hk hdp hun hret hexc
  refine wpAny_call ?_
  k_dflt cell_enter
  k_steps
  refine Hold.mk ?_
  refine exec_raise (exC119 w) rfl ?_
  k_steps
  refine raise_to (by k_asm) (by k_asm) (by k_asm) (.tail _ (.head _)) ?_
  k_steps
  exact hexc _ _ _ _ _ _ _ _ trivial (by assumption) (by assumption) (by assumption) (.inr rfl)
end PartU4


theorem tidy_QY : True := by
  w_top off
  trivial
section PartY
theorem sctr_useR {w : World} {mean : ExcName → Option Value} {mg mb : Str → Option Value} {rk : Nat} {f : Addr} {vs : List Value} {news : CbLed} {P : Value → CbLed → Prop} {R : Prop} (c : SCtr w mean mg mb rk f vs news P R)
    {dp un : Nat} {gd : Option (List Code)} {cn : Str} {cs : Scope} {a : Addr} {ccd : Value} {cl : List (Str × Addr)} {outer : List Env} {A₀ : Around} {base h₀ : Heap} {L : Addr} {m : Str → Option Value} {s : Shared} {Q E : Value → Shared → Prop}
    (B : Below A₀ base outer h₀) (F : Fr h₀ L s.heap m) (X : (hd.heap_1_1 w.params).In h₀) (N : News h₀ L s.heap news)
    (T : Top hd.view_1_2 (looseW hd.view_1_2 [Str.ofString "PostError", Str.ofString "CHARSETS"]) mean mg mb h₀) (hk : cs.kind = .function)
    (hdp : dp + rk < recursionLimit) (hun : un + 8 * rk < cLine)
    (ret : ∀ r nx h' tk', Fr h₀ L h' m → News h₀ L h' nx → P r nx → Q r { s with heap := h', toks := tk' })
    (exc : ∀ e t vs C lg h' tk' g, R → Fr h₀ L g m → RaisedK base (envX cn cs L a ccd cl :: outer) e (.ref C) t vs lg h' → g.UpToSlots h' → (C = 95 ∨ C = 119) → E (.ref e) { s with heap := h', toks := tk' }) :
    wpS (model PySem.Challenge.rw_nz0327_01.row.prog w) (ktrTop dp un gd cn cs L a ccd cl outer) (call (.ref f) vs) Q E s :=
  c dp un gd cn cs a ccd cl outer A₀ base h₀ L m s Q E B F X N T hk hdp hun ret exc
end PartY
section PartM
  local macro_rules | `(tactic| walk_at "call ref") => `(tactic| (k_here; (with_reducible show wpAny _ _ (call (Value.ref 436) _) _ _ _); refine Hold.out ?_))
  local macro_rules | `(tactic| walk_at "call ref") => `(tactic| (k_here; (with_reducible show wpAny _ _ (call (Value.ref 443) _) _ _ _); refine Hold.out ?_))
  local macro_rules | `(tactic| walk_at "subscriptTail") => `(tactic| (k_here; (with_reducible show wpAny _ _ (subscriptTail _ _ (Value.ref _) (Value.int _ _)) _ _ _); refine Hold.out ?_))
  local macro_rules | `(tactic| walk_at "subscriptTail Name") => `(tactic| (k_here; (with_reducible show wpAny _ _ (subscriptTail _ _ (Value.ref _) (Value.int _ _)) _ _ _); refine Hold.out ?_))
  local macro_rules | `(tactic| walk_at "compareOp Eq ref ref") => `(tactic| (k_here; refine Hold.out ?_))
  local macro_rules | `(tactic| walk_at "exec For Name Call cons nil") => `(tactic| (k_here; refine Hold.out ?_))
  local macro_rules | `(tactic| walk_at "call builtin:len") => `(tactic| (k_here; (with_reducible show wpAny _ _ (call (Value.builtin "len") [Value.ref _]) _ _ _); refine Hold.out ?_))
theorem rs_s (w : World) (mean : ExcName → Option Value) (mg mb : Str → Option Value) (rest : CbLed) (wa dx : Nat) (x : WTok) (D : Array UInt8) (ks : List Int) (p : Int) (u : List Int) (us : List (List Int)) (W : List Str) (v : List Int) (pe : Int) (TT : Value → CbLed → Prop) (RQ : Prop)
    (hne : dx ≠ wa) (hr : ∀ q ∈ rest, q.1 ≠ dx) (hD : KBw.bInts D = ks) (hlen : ks.length ≤ 10000) (hat : At ks p (32 :: 40 :: (u ++ (tailW us ++ 41 :: v)))) (hus : ∀ z ∈ u :: us, z ≠ [] ∧ ∀ c ∈ z, isAtomB c = true) (hql : us.length ≤ 100) (hW : (u :: us).map (fun z => upS (strOf z)) = W)
    (hV : (v.head? ≠ some 32 ∧ RQ) ∨ ∃ v', v = 32 :: v' ∧ ∀ (rest' : CbLed) (x' : WTok) (p' : Int), (∀ q ∈ rest', q.1 ≠ dx) → At ks p' v' → SCtr w mean mg mb 35 443 [.ref wa] (WL wa dx x' D p' rest') (fun r nx => ∃ x'' ex, TT r ex ∧ nx = WL wa dx x'' D pe (ex ++ rest')) RQ) :
   SCtr w mean mg mb 40 450 [.ref wa] (WL wa dx x D p rest) (fun r nx => okW W = true ∧ (∀ z ∈ W, isKn z = true) ∧ ∃ lr l vs r' x'' ex, r = .ref lr ∧ StrsAre vs W ∧ TT r' ex ∧ nx = WL wa dx x'' D pe ((lr, tupObj [.ref l, r']) :: (ex ++ (l, tupObj vs) :: rest)))
     (okW W = false ∨ (∃ z ∈ W, isKn z = false) ∨ RQ) := by
  unfold SCtr
  k_fill
  intro dp un gd cn cs a ccd cl outer A₀ base h₀ L m s Q E B F X N T hk hdp hun hret hexc
  refine wpS_call ?_
  k_dflt walk_at "enterS"
  refine wpS_execs_cons (wpS_of ?_)
  k_steps
  refine wpS_execs_cons (wpS_of ?_)
  k_steps
  refine Hold.mk ?_
  rw [sortWords]
  rename At ks (p + 1) _ => hat1
  k_dflt (refine' ctr_use (words_c w mean mg mb rest wa dx _ D ks (p + 1) u us v _ hne hr hD hlen hat1 hus (by omega)) ?k1 ?k2 ?k3 ?k4 ?k5 ?kK ?kd ?ku ?rr ?re)
  case k2 => k_asm
  case k4 => k_asm
  case k1 => k_asm
  case k3 => k_asm
  case k5 => k_asm
  case kK => first | exact rfl | assumption
  case kd => ktr_room
  case ku => ktr_units
  case re =>
    intro e' t' vs' C' lg' h' tk' g' R0 F' R' U' c'
    (try dsimp only)
    (try k_fold)
    k_steps
    refine hexc _ _ _ _ _ _ _ _ (.inr (.inl ?_)) (by assumption) (by assumption) (by assumption) (by assumption)
    obtain ⟨z, hz, hz2⟩ := R0
    exact ⟨_, hW ▸ List.mem_map_of_mem (f := fun z => upS (strOf z)) hz, hz2⟩
  intro r' n' h' tk' F' N' P'
  refine @an2 _ _ _ P' fun hkn0 hz => @ex4 _ _ _ _ _ _ hz fun l' vs' x' p' hz => @an4 _ _ _ _ _ hz fun e2 hvs hat' e1 => ?_
  clear hz P'
  replace e1 := e1.symm; subst e1; subst e2
  rw [hW] at hvs
  have hkn : ∀ z ∈ W, isKn z = true := fun z hz => by
    rw [← hW] at hz
    obtain ⟨y, hy, rfl⟩ := List.mem_map.mp hz
    exact hkn0 y hy
  have hWl : 0 < W.length ∧ W.length ≤ 101 := by
    rw [← hW, List.length_map, List.length_cons]; omega
  have hvl := strs_len hvs
  have hld : l' ≠ dx := news_ne N' (.tail _ (.tail _ (.head _))) (.tail _ (.head _)) fun e => Data.noConfusion (congrArg Obj.data e)
  have hr' : ∀ q ∈ (l', tupObj vs') :: rest, q.1 ≠ dx := fun q hq => by
    rcases List.mem_cons.mp hq with rfl | hq
    · exact hld
    · exact hr q hq
  (try dsimp only)
  (try k_fold)
  have hsh := shaped_strs (ws := W) fun z hz => kn_ok (hkn z hz)
  k_steps
  refine wpS_execs_cons (wpS_of ?_)
  k_steps
  refine Hold.mk ?_
  rename News _ _ _ ((_, _) :: _) => N5
  refine eq_dataH (reads_tuple_at (News.get N5 (.tail _ (.tail _ (.tail _ (.head _))))) rfl rfl (strs_reads hvs)) (reads_tuple_at (News.get N5 (.head _)) rfl rfl ReadsAll.nil) hsh rfl (by ke_room) ?_
  have ev : PyData.eqv (.tuple (W.map PyData.str)) (.tuple []) = false := by
    cases W with
    | nil => exact absurd hWl.1 (Nat.lt_irrefl _)
    | cons a r => rfl
  rw [ev]
  k_steps
  refine Hold.mk ?_
  rename News _ _ _ ((_, _) :: _) => N6
  refine len_tuple (N6.isTup (.tail _ (.tail _ (.tail _ (.head _))))) (by rw [List.size_toArray, hvl]; omega) ?_
  rw [List.size_toArray, hvl]
  k_steps
  · rename (_ == Str.ofString "REVERSE") = true => hq
    refine Hold.mk ?_
    refine exec_raise (exC95 w) rfl ?_
    k_steps
    refine raise_to (by k_asm) (by k_asm) (by k_asm) (.tail _ (.head _)) ?_
    k_steps
    refine hexc _ _ _ _ _ _ _ _ (.inl ?_) (by assumption) (by assumption) (by assumption) (.inl rfl)
    rw [show ((W.length : Int) - 1).toNat = W.length - 1 by omega] at hq
    rw [okW, lastRev_getD W hWl.1, hq]; rfl
  rename (_ == Str.ofString "REVERSE") = false => hq
  refine wpS_execs_cons (wpS_of ?_)
  k_steps
  refine Hold.mk ?_
  rename StrsAre vs' W => hvs
  rename Fr _ _ _ _ => F6
  replace N6 := cb_tail N6
  clear ev
  refine For_rng (fun i m news => ∃ (mm : Str → Option Value), m = (fun y => if y = Str.ofString "words" then some (Value.ref l') else if y = Str.ofString "wire" then some (.ref wa) else mm y) ∧ news = WL wa dx x' D p' ((l', tupObj vs') :: rest) ∧ ∀ j, j < i → (W.getD j Str.empty == Str.ofString "REVERSE" && W.getD (j + 1) Str.empty == Str.ofString "REVERSE") = false)
    1 (W.length - 1) F6 rfl rfl rfl ?_ (by intro _; rfl)
  k_steps
  refine Hold.mk ?_
  refine len_tuple (N6.isTup (.tail _ (.tail _ (.head _)))) (by rw [List.size_toArray, hvl]; omega) ?_
  rw [List.size_toArray, hvl]
  k_steps
  refine Hold.mk ?_
  rename IsRange _ _ _ _ _ _ _ _ => hR
  rename Fr _ _ _ _ => F7
  rename News _ _ _ _ => N7
  refine in9 _ _ _ _ _ _ _ _ _ ⟨rfl, rfl, hR, small_one (by omega) (by omega) (by omega) (by omega), by rw [rangeSize_one]; split <;> omega, F7, N7, ⟨_, map2 _ _ _ _ _ rfl rfl, rfl, fun j h => absurd h (Nat.not_lt_zero _)⟩, ?_, ?_⟩
  · intro i t m₁ news₁ h tk9 I oI hi hz0
    refine @ex1 _ _ _ hz0 fun mm hz => @an3 _ _ _ _ hz fun ehzq1 ehzq2 hJ => ?_
    clear hz hz0
    subst ehzq1
    subst ehzq2
    intro hI F N
    have hidx : dx ≠ I := hI (dx, _) (.tail _ (.head _))
    have hn : ∀ p ∈ WL wa dx x' D p' ((l', tupObj vs') :: rest), p.1 ≠ I := hI
    k_steps
    · rename (W.getD (1 + (i : Int) - 1).toNat _ == _) = true => q1
      rename (W.getD (1 + (i : Int)).toNat _ == _) = true => q2
      rw [toN0 i] at q1
      rw [toN1 i] at q2
      refine Hold.mk ?_
      refine exec_raise (exC95 w) rfl ?_
      k_steps
      refine raise_to (by k_asm) (by k_asm) (by k_asm) (.tail _ (.head _)) ?_
      k_steps
      refine hexc _ _ _ _ _ _ _ _ (.inl ?_) (by assumption) (by assumption) (by assumption) (.inl rfl)
      rw [okW, adj_true W i (by omega) q1 q2]; simp
    · rename (W.getD (1 + (i : Int) - 1).toNat _ == _) = true => q1
      rename (W.getD (1 + (i : Int)).toNat _ == _) = false => q2
      rw [toN1 i] at q2
      rename Fr _ _ _ _ => F8
      refine Hold.mk (in4 _ _ _ _ ⟨rfl, rfl, F8, by k_asm, hn, _, map2 _ _ _ _ _ rfl rfl, rfl, fun j hj => ?_⟩)
      rcases Nat.lt_or_ge j i with z | z
      · exact hJ j z
      · rw [show j = i by omega, q2, Bool.and_false]
    · rename (W.getD (1 + (i : Int) - 1).toNat _ == _) = false => q1
      rw [toN0 i] at q1
      rename Fr _ _ _ _ => F8
      refine Hold.mk (in4 _ _ _ _ ⟨rfl, rfl, F8, by k_asm, hn, _, map2 _ _ _ _ _ rfl rfl, rfl, fun j hj => ?_⟩)
      rcases Nat.lt_or_ge j i with z | z
      · exact hJ j z
      · rw [show j = i by omega, q1, Bool.false_and]
  intro h13 tk13 m13 news13 F13 N13 hz0
  refine @ex1 _ _ _ hz0 fun mm13 hz => @an3 _ _ _ _ hz fun ehzq1 ehzq2 hJ13 => ?_
  clear hz hz0
  subst ehzq1
  subst ehzq2
  clear F7 N7 hR
  have hok : okW W = true := by
    rw [show ((W.length : Int) - 1).toNat = W.length - 1 by omega] at hq
    rw [okW, lastRev_getD W hWl.1, hq, adj_false W hJ13]; rfl
  rcases hV with ⟨hv0, hRQ⟩ | ⟨v', rfl, hqc⟩
  · refine wpS_execs_cons (wpS_of ?_)
    k_steps
    exact hexc _ _ _ _ _ _ _ _ (.inr (.inr hRQ)) (by assumption) (by assumption) (by assumption) (by assumption)
  · refine wpS_execs_cons (wpS_of ?_)
    k_steps
    refine wpS_execs_cons (wpS_Return_some (wpS_Tuple2 rfl ?_))
    k_steps
    refine wpS_Call_Name ?_
    k_steps
    have h6 : ∃ o fd, (hd.heap_1_1 w.params).lookup 443 = some o ∧ o.data = .func fd := ⟨_, _, rfl, rfl⟩
    refine @ex2 _ _ _ _ h6 fun o6 fd6 hz => @an2 _ _ _ hz fun l6 d6 => ?_
    clear hz h6
    refine wpS_callWith_funH (a := 443) (o := o6) (fd := fd6) rfl (wpS_spliced1 (wpS_of ?_))
    rw [if_neg (by decide)]
    k_steps
    rename Fr _ _ _ _ => F15
    refine Hold.mk ⟨⟨((by k_asm : (hd.heap_1_1 w.params).In _).keeps F15.keep) _ _ l6, d6⟩, ?_⟩
    k_dflt (refine' sctr_useR (hqc _ _ _ hr' ?hat2) ?j1 ?j2 ?j3 ?j4 ?j5 ?jK ?jd ?ju ?_ ?re2)
    case j2 => k_asm
    case j4 => k_asm
    case hat2 => assumption
    case j1 => k_asm
    case j3 => k_asm
    case j5 => k_asm
    case jK => first | exact rfl | assumption
    case jd => ktr_room
    case ju => ktr_units
    case re2 =>
      intro e' t' vs' C' lg' h' tk' g' R0 F' R' U' c'
      (try dsimp only)
      (try k_fold)
      k_steps
      exact hexc _ _ _ _ _ _ _ _ (.inr (.inr R0)) (by assumption) (by assumption) (by assumption) (by assumption)
    intro r9 n9 h9 tk9 F9 N9 P9
    refine @ex2 _ _ _ _ P9 fun x9 ex9 hz => @an2 _ _ _ hz fun hTT9 e9 => ?_
    clear hz P9
    subst e9
    (try dsimp only)
    (try k_fold)
    k_steps
    rename Fr h₀ _ _ _ => F10
    rename News h₀ _ _ _ => N10
    exact hret _ _ _ _ F10 (wl_front1 N10) ⟨hok, hkn, _, l', _, r9, x9, ex9, rfl, hvs, hTT9, rfl⟩
end PartM


theorem tidy_QZ : True := by
  w_top off
  trivial
theorem At.pe {ks : List Int} {p : Int} (h : At ks p [13, 10]) : p = (ks.length : Int) - 2 := by
  obtain ⟨h0, h1, h2⟩ := h
  have := congrArg List.length h2
  rw [List.length_drop] at this
  simp at this
  omega
theorem say_QZ_0 : True := by
  k_with "call ref" => (k_here; (with_reducible show wpAny _ _ (call (Value.ref 424) _) _ _ _); k_dflt (refine' ctr_useK (rq_c_k _ _ _ _ _ _ _ _ _ _ _ _ _ _ _ _ ?p1 ?p2 ?p3 ?p4 ?p5 ?p6 ?p7 ?p8 ?p9) ?k1 ?k2 ?k3 ?k4 ?k5 ?kK ?kd ?ku ?_; (case k2 => k_asm); (case k4 => k_asm); (case p1 => first | assumption | exact Ne.symm (by assumption) | omega); (case p2 => assumption); (case p3 => assumption); (case p4 => assumption); (case p5 => assumption); (case p6 => assumption); (case p7 => assumption); (case p8 => assumption); (case p9 => assumption); (case k1 => k_asm); (case k3 => k_asm); (case k5 => k_asm); (case kK => first | exact rfl | assumption); (case kd => ktr_room); (case ku => ktr_units)); (intro own_wz x_wz p_wz r_wz hkl_wz hat_wz hoff_wz h_wz tk_wz F_wz N_wz; (try dsimp only); (try k_fold)))
  k_with "call ref" => (k_here; (with_reducible show wpAny _ _ (call (Value.ref 424) _) _ _ _); k_dflt (refine' ctr_useR (rq_bad _ _ _ _ _ _ _ _ _ _ _ _ ?p1 ?p2 ?p3) ?k1 ?k2 ?k3 ?k4 ?k5 ?kK ?kd ?ku ?_; (case k2 => k_asm); (case k4 => k_asm); (case p1 => assumption); (case p2 => assumption); (case p3 => assumption); (case k1 => k_asm); (case k3 => k_asm); (case k5 => k_asm); (case kK => first | exact rfl | assumption); (case kd => ktr_room); (case ku => ktr_units)); (intro e_wz t_wz vs_wz C_wz lg_wz h_wz tk_wz g_wz F_wz R_wz U_wz c_wz; (try dsimp only); (try k_fold)))
  k_with "call ref" => (k_here; (with_reducible show wpAny _ _ (call (Value.ref 675) _) _ _ _); k_dflt (refine' ctr_useK (astr_run_k _ _ _ _ _ _ _ _ _ _ _ _ _ _ _ ?p1 ?p2 ?p3 ?p4 ?p5 ?p6 ?p7 ?p8 ?p9) ?k1 ?k2 ?k3 ?k4 ?k5 ?kK ?kd ?ku ?_; (case k2 => k_asm); (case k4 => k_asm); (case p1 => first | assumption | exact Ne.symm (by assumption) | omega); (case p2 => assumption); (case p3 => assumption); (case p4 => assumption); (case p9 => assumption); (case p5 => assumption); (case p6 => assumption); (case p7 => assumption); (case p8 => assumption); (case k1 => k_asm); (case k3 => k_asm); (case k5 => k_asm); (case kK => first | exact rfl | assumption); (case kd => ktr_room); (case ku => ktr_units)); (intro U_wz t_wz x_wz hU_wz hat_wz h_wz tk_wz F_wz N_wz; (try dsimp only); (try k_fold)))
  trivial
theorem ast_lt2 {u : List Int} (hu : ∀ c ∈ u, isAst c = true) : ∀ c ∈ u, 0 ≤ c ∧ c < 128 := fun c hc => by have := ast_lt (hu c hc); omega
section PartZ1
theorem kw_miss (w : World) (mean : ExcName → Option Value) (mg mb : Str → Option Value) (rest : CbLed) (wa dx : Nat) (x : WTok) (D : Array UInt8) (ks : List Int) (p : Int) (v : List Int)
    (hne : dx ≠ wa) (hr : ∀ q ∈ rest, q.1 ≠ dx) (hD : KBw.bInts D = ks) (hlen : ks.length ≤ 10000) (hat : At ks p (32 :: v)) :
   Ctr w mean mg mb 16 333 [.ref wa] (WL wa dx x D p rest) (fun _ _ => False) True := by
  unfold Ctr
  k_fill
  intro dp un gd cn cs a ccd cl outer A₀ base h₀ L m s Q E B F X N T hk hdp hun hret hexc
  refine wpAny_call ?_
  k_dflt cell_enter
  have hat2 : At ks p ([] ++ 32 :: v) := hat
  have hu : ∀ c ∈ ([] : List Int), isLet c = true := fun _ h => nomatch h
  have hvv : ∀ c, (32 :: v).head? = some c → isLet c = false := fun c h => by cases h; decide
  k_steps
  · refine Hold.mk ?_
    refine exec_raise (exC119 w) rfl ?_
    k_steps
    refine raise_to (by k_asm) (by k_asm) (by k_asm) (.tail _ (.head _)) ?_
    k_steps
    exact hexc _ _ _ _ _ _ _ _ trivial (by assumption) (by assumption) (by assumption) (.inr rfl)
  · exfalso
    rename (_ == _) = false => q
    rename KBw.bInts _ = [] => hU
    have hU2 : (Array.toList _).map (fun c : UInt8 => (c.toNat : Int)) = [] := hU
    rw [List.map_eq_nil_iff] at hU2
    rw [hU2] at q
    cases q
end PartZ1
theorem say_QZ_1 : True := by
  k_with "call ref" => (k_here; (with_reducible show wpAny _ _ (call (Value.ref 333) _) _ _ _); k_dflt (refine' ctr_useR (kw_miss _ _ _ _ _ _ _ _ _ _ _ _ ?p1 ?p2 ?p3 ?p4 ?p5) ?k1 ?k2 ?k3 ?k4 ?k5 ?kK ?kd ?ku ?_; (case k2 => k_asm); (case k4 => k_asm); (case p1 => first | assumption | exact Ne.symm (by assumption) | omega); (case p2 => assumption); (case p3 => assumption); (case p4 => assumption); (case p5 => assumption); (case k1 => k_asm); (case k3 => k_asm); (case k5 => k_asm); (case kK => first | exact rfl | assumption); (case kd => ktr_room); (case ku => ktr_units)); (intro e_wz t_wz vs_wz C_wz lg_wz h_wz tk_wz g_wz F_wz R_wz U_wz c_wz; (try dsimp only); (try k_fold)))
  trivial
section PartZ2
theorem rk_miss (w : World) (mean : ExcName → Option Value) (mg mb : Str → Option Value) (rest : CbLed) (wa dx : Nat) (x : WTok) (D : Array UInt8) (ks : List Int) (p : Int) (v : List Int) (c : Str) (tc td : Tok)
    (hne : dx ≠ wa) (hr : ∀ q ∈ rest, q.1 ≠ dx) (hD : KBw.bInts D = ks) (hlen : ks.length ≤ 10000) (hat : At ks p (32 :: v)) :
   Ctr w mean mg mb 20 410 [.ref wa, .str c tc, .int 0 td] (WL wa dx x D p rest) (fun _ _ => False) True := by
  unfold Ctr
  k_fill
  intro dp un gd cn cs a ccd cl outer A₀ base h₀ L m s Q E B F X N T hk hdp hun hret hexc
  refine wpAny_call ?_
  k_dflt cell_enter
  k_steps
  · exfalso
    rename (Array.contains _ _ = true) => q
    exact contains_set 32 false (by decide +kernel) q
  · exact hexc _ _ _ _ _ _ _ _ trivial (by assumption) (by assumption) (by assumption) (by assumption)
end PartZ2
theorem say_QZ_2 : True := by
  k_with "call ref" => (k_here; (with_reducible show wpAny _ _ (call (Value.ref 410) _) _ _ _); k_dflt (refine' ctr_useR (rk_miss _ _ _ _ _ _ _ _ _ _ _ _ _ _ _ ?p1 ?p2 ?p3 ?p4 ?p5) ?k1 ?k2 ?k3 ?k4 ?k5 ?kK ?kd ?ku ?_; (case k2 => k_asm); (case k4 => k_asm); (case p1 => first | assumption | exact Ne.symm (by assumption) | omega); (case p2 => assumption); (case p3 => assumption); (case p4 => assumption); (case p5 => assumption); (case k1 => k_asm); (case k3 => k_asm); (case k5 => k_asm); (case kK => first | exact rfl | assumption); (case kd => ktr_room); (case ku => ktr_units)); (intro e_wz t_wz vs_wz C_wz lg_wz h_wz tk_wz g_wz F_wz R_wz U_wz c_wz; (try dsimp only); (try k_fold)))
  trivial
section PartZ3
theorem rks_miss (w : World) (mean : ExcName → Option Value) (mg mb : Str → Option Value) (rest : CbLed) (wa dx : Nat) (x : WTok) (D : Array UInt8) (ks : List Int) (p : Int) (v : List Int) (c : Str) (tc td : Tok)
    (hne : dx ≠ wa) (hr : ∀ q ∈ rest, q.1 ≠ dx) (hD : KBw.bInts D = ks) (hlen : ks.length ≤ 10000) (hat : At ks p (32 :: v)) :
   Ctr w mean mg mb 23 417 [.ref wa, .str c tc, .int 0 td] (WL wa dx x D p rest) (fun _ _ => False) True := by
  unfold Ctr
  k_fill
  intro dp un gd cn cs a ccd cl outer A₀ base h₀ L m s Q E B F X N T hk hdp hun hret hexc
  refine wpAny_call ?_
  k_dflt cell_enter
  k_steps
  exact hexc _ _ _ _ _ _ _ _ trivial (by assumption) (by assumption) (by assumption) (by assumption)
end PartZ3
theorem say_QZ_3 : True := by
  k_with "call ref" => (k_here; (with_reducible show wpAny _ _ (call (Value.ref 417) _) _ _ _); k_dflt (refine' ctr_useR (rks_miss _ _ _ _ _ _ _ _ _ _ _ _ _ _ _ ?p1 ?p2 ?p3 ?p4 ?p5) ?k1 ?k2 ?k3 ?k4 ?k5 ?kK ?kd ?ku ?_; (case k2 => k_asm); (case k4 => k_asm); (case p1 => first | assumption | exact Ne.symm (by assumption) | omega); (case p2 => assumption); (case p3 => assumption); (case p4 => assumption); (case p5 => assumption); (case k1 => k_asm); (case k3 => k_asm); (case k5 => k_asm); (case kK => first | exact rfl | assumption); (case kd => ktr_room); (case ku => ktr_units)); (intro e_wz t_wz vs_wz C_wz lg_wz h_wz tk_wz g_wz F_wz R_wz U_wz c_wz; (try dsimp only); (try k_fold)))
  trivial
section PartZ4
theorem rq_miss (w : World) (mean : ExcName → Option Value) (mg mb : Str → Option Value) (rest : CbLed) (wa dx : Nat) (x : WTok) (D : Array UInt8) (ks : List Int) (p : Int) (v : List Int) (c y : Str) (tc ty : Tok)
    (hne : dx ≠ wa) (hr : ∀ q ∈ rest, q.1 ≠ dx) (hD : KBw.bInts D = ks) (hlen : ks.length ≤ 10000) (hat : At ks p (32 :: v)) (hx : y.cps.size ≤ 10000) (ha : ∀ c ∈ y.cps.toList, c < 128) (hv : valueAt kw3 (loS y) = some (.str c tc)) (hc : (c == Str.ofString "") = false) :
   Ctr w mean mg mb 26 424 [.ref wa, .str y ty] (WL wa dx x D p rest) (fun _ _ => False) True := by
  unfold Ctr
  k_fill
  intro dp un gd cn cs a ccd cl outer A₀ base h₀ L m s Q E B F X N T hk hdp hun hret hexc
  refine wpAny_call ?_
  k_dflt cell_enter
  k_steps
  exact hexc _ _ _ _ _ _ _ _ trivial (by assumption) (by assumption) (by assumption) (by assumption)
end PartZ4
theorem say_QZ_4 : True := by
  k_with "call ref" => (k_here; (with_reducible show wpAny _ _ (call (Value.ref 424) _) _ _ _); k_dflt (refine' ctr_useR (rq_miss _ _ _ _ _ _ _ _ _ _ _ _ _ _ _ _ ?p1 ?p2 ?p3 ?p4 ?p5 ?p6 ?p7 ?p8 ?p9) ?k1 ?k2 ?k3 ?k4 ?k5 ?kK ?kd ?ku ?_; (case k2 => k_asm); (case k4 => k_asm); (case p1 => first | assumption | exact Ne.symm (by assumption) | omega); (case p2 => assumption); (case p3 => assumption); (case p4 => assumption); (case p5 => assumption); (case p6 => assumption); (case p7 => assumption); (case p8 => assumption); (case p9 => assumption); (case k1 => k_asm); (case k3 => k_asm); (case k5 => k_asm); (case kK => first | exact rfl | assumption); (case kd => ktr_room); (case ku => ktr_units)); (intro e_wz t_wz vs_wz C_wz lg_wz h_wz tk_wz g_wz F_wz R_wz U_wz c_wz; (try dsimp only); (try k_fold)))
  trivial
section PartZ
theorem qc_ok (k : Nat) (w : World) (mean : ExcName → Option Value) (mg mb : Str → Option Value) (rest : CbLed) (wa dx : Nat) (x : WTok) (D : Array UInt8) (ks : List Int) (p : Int) (c0 : Int) (u0 : List Int) (c : Str) (tc : Tok)
    (hne : dx ≠ wa) (hr : ∀ q ∈ rest, q.1 ≠ dx) (hD : KBw.bInts D = ks) (hlen : ks.length ≤ 10000) (hat : At ks p ((c0 :: u0) ++ 32 :: (keyB k ++ [13, 10]))) (hu : ∀ z ∈ c0 :: u0, isAst z = true) (hv : valueAt kw3 (loS (strOf (c0 :: u0))) = some (.str c tc)) (hc : (c == Str.ofString "") = false) :
   Ctr w mean mg mb 32 443 [.ref wa] (WL wa dx x D p rest) (fun r nx => ∃ x' own, KeyLed k r own ∧ nx = WL wa dx x' D ((ks.length : Int) - 2) (own ++ rest)) False := by
  unfold Ctr
  k_fill
  intro dp un gd cn cs a ccd cl outer A₀ base h₀ L m s Q E B F X N T hk hdp hun hret hexc
  refine wpAny_call ?_
  k_dflt cell_enter
  have hlt := ast_lt2 hu
  have hul : (c0 :: u0).length ≤ 10000 := by
    have := hat.add (Nat.le_refl (c0 :: u0).length)
    have h1 := this.2.1
    have h0 := hat.1
    omega
  have hsz : (strOf (c0 :: u0)).cps.size ≤ 10000 := by rw [strOf_size]; exact hul
  have hlt2 := strOf_lt hlt
  have hcm : c0 ∈ c0 :: u0 := .head _
  have hvv : ∀ c, (32 :: (keyB k ++ [13, 10])).head? = some c → isAst c = false := fun c h => by cases h; decide
  have hat3 : At ks p (c0 :: (u0 ++ 32 :: (keyB k ++ [13, 10]))) := hat
  k_steps
  rename KeyLed _ _ _ => hkl
  rename At _ _ [13, 10] => hat9
  rename News h₀ _ _ _ => N9
  have e9 := hat9.pe
  subst e9
  exact hret _ _ _ _ (by assumption) N9 ⟨_, _, hkl, rfl⟩
end PartZ


theorem tidy_RA : True := by
  w_top off
  trivial
section PartRA
theorem qc_bad (w : World) (mean : ExcName → Option Value) (mg mb : Str → Option Value) (rest : CbLed) (wa dx : Nat) (x : WTok) (D : Array UInt8) (ks : List Int) (p : Int) (c0 : Int) (u0 v : List Int)
    (hne : dx ≠ wa) (hr : ∀ q ∈ rest, q.1 ≠ dx) (hD : KBw.bInts D = ks) (hlen : ks.length ≤ 10000) (hat : At ks p ((c0 :: u0) ++ 32 :: v)) (hu : ∀ z ∈ c0 :: u0, isAst z = true) (hv : valueAt kw3 (loS (strOf (c0 :: u0))) = none) :
   Ctr w mean mg mb 32 443 [.ref wa] (WL wa dx x D p rest) (fun _ _ => False) True := by
  unfold Ctr
  k_fill
  intro dp un gd cn cs a ccd cl outer A₀ base h₀ L m s Q E B F X N T hk hdp hun hret hexc
  refine wpAny_call ?_
  k_dflt cell_enter
  have hlt := ast_lt2 hu
  have hul : (c0 :: u0).length ≤ 10000 := by
    have := hat.add (Nat.le_refl (c0 :: u0).length)
    have h1 := this.2.1
    have h0 := hat.1
    omega
  have hsz : (strOf (c0 :: u0)).cps.size ≤ 10000 := by rw [strOf_size]; exact hul
  have hlt2 := strOf_lt hlt
  have hcm : c0 ∈ c0 :: u0 := .head _
  have hvv : ∀ c, (32 :: v).head? = some c → isAst c = false := fun c h => by cases h; decide
  have hat3 : At ks p (c0 :: (u0 ++ 32 :: v)) := hat
  k_steps
  exact hexc _ _ _ _ _ _ _ _ trivial (by assumption) (by assumption) (by assumption) (by assumption)
theorem qc_sp2 (w : World) (mean : ExcName → Option Value) (mg mb : Str → Option Value) (rest : CbLed) (wa dx : Nat) (x : WTok) (D : Array UInt8) (ks : List Int) (p : Int) (c0 : Int) (u0 v : List Int) (c : Str) (tc : Tok)
    (hne : dx ≠ wa) (hr : ∀ q ∈ rest, q.1 ≠ dx) (hD : KBw.bInts D = ks) (hlen : ks.length ≤ 10000) (hat : At ks p ((c0 :: u0) ++ 32 :: 32 :: v)) (hu : ∀ z ∈ c0 :: u0, isAst z = true) (hv : valueAt kw3 (loS (strOf (c0 :: u0))) = some (.str c tc)) (hc : (c == Str.ofString "") = false) :
   Ctr w mean mg mb 32 443 [.ref wa] (WL wa dx x D p rest) (fun _ _ => False) True := by
  unfold Ctr
  k_fill
  intro dp un gd cn cs a ccd cl outer A₀ base h₀ L m s Q E B F X N T hk hdp hun hret hexc
  refine wpAny_call ?_
  k_dflt cell_enter
  have hlt := ast_lt2 hu
  have hul : (c0 :: u0).length ≤ 10000 := by
    have := hat.add (Nat.le_refl (c0 :: u0).length)
    have h1 := this.2.1
    have h0 := hat.1
    omega
  have hsz : (strOf (c0 :: u0)).cps.size ≤ 10000 := by rw [strOf_size]; exact hul
  have hlt2 := strOf_lt hlt
  have hcm : c0 ∈ c0 :: u0 := .head _
  have hvv : ∀ c, (32 :: 32 :: v).head? = some c → isAst c = false := fun c h => by cases h; decide
  have hat3 : At ks p (c0 :: (u0 ++ 32 :: 32 :: v)) := hat
  k_steps
  exact hexc _ _ _ _ _ _ _ _ trivial (by assumption) (by assumption) (by assumption) (by assumption)
theorem qc_nosp (w : World) (mean : ExcName → Option Value) (mg mb : Str → Option Value) (rest : CbLed) (wa dx : Nat) (x : WTok) (D : Array UInt8) (ks : List Int) (p : Int) (c0 : Int) (u0 v : List Int)
    (hne : dx ≠ wa) (hr : ∀ q ∈ rest, q.1 ≠ dx) (hD : KBw.bInts D = ks) (hlen : ks.length ≤ 10000) (hat : At ks p ((c0 :: u0) ++ 13 :: v)) (hu : ∀ z ∈ c0 :: u0, isAst z = true) :
   Ctr w mean mg mb 32 443 [.ref wa] (WL wa dx x D p rest) (fun _ _ => False) True := by
  unfold Ctr
  k_fill
  intro dp un gd cn cs a ccd cl outer A₀ base h₀ L m s Q E B F X N T hk hdp hun hret hexc
  refine wpAny_call ?_
  k_dflt cell_enter
  have hlt := ast_lt2 hu
  have hul : (c0 :: u0).length ≤ 10000 := by
    have := hat.add (Nat.le_refl (c0 :: u0).length)
    have h1 := this.2.1
    have h0 := hat.1
    omega
  have hsz : (strOf (c0 :: u0)).cps.size ≤ 10000 := by rw [strOf_size]; exact hul
  have hlt2 := strOf_lt hlt
  have hcm : c0 ∈ c0 :: u0 := .head _
  have hvv : ∀ c, (13 :: v).head? = some c → isAst c = false := fun c h => by cases h; decide
  have hat3 : At ks p (c0 :: (u0 ++ 13 :: v)) := hat
  have hm13 : (13 :: v : List Int).head? ≠ some 32 := by simp
  k_steps
  exact hexc _ _ _ _ _ _ _ _ trivial (by assumption) (by assumption) (by assumption) (by assumption)
end PartRA
theorem say_RA_0 : True := by
  k_with "call ref" => (k_here; (with_reducible show wpAny _ _ (call (Value.ref 675) _) _ _ _); k_dflt (refine' ctr_useR (astr_miss _ _ _ _ _ _ _ _ _ _ _ _ _ ?p1 ?p2 ?p3 ?p4 ?p5 ?p6 ?p7 ?p8 ?p9) ?k1 ?k2 ?k3 ?k4 ?k5 ?kK ?kd ?ku ?_; (case k2 => k_asm); (case k4 => k_asm); (case p1 => first | assumption | exact Ne.symm (by assumption) | omega); (case p2 => assumption); (case p3 => assumption); (case p4 => assumption); (case p9 => assumption); (case p5 => assumption); (case p6 => assumption); (case p7 => assumption); (case p8 => assumption); (case k1 => k_asm); (case k3 => k_asm); (case k5 => k_asm); (case kK => first | exact rfl | assumption); (case kd => ktr_room); (case ku => ktr_units)); (intro e_wz t_wz vs_wz C_wz lg_wz h_wz tk_wz g_wz F_wz R_wz U_wz c_wz; (try dsimp only); (try k_fold)))
  trivial
section PartRA2
theorem qc_sp1 (w : World) (mean : ExcName → Option Value) (mg mb : Str → Option Value) (rest : CbLed) (wa dx : Nat) (x : WTok) (D : Array UInt8) (ks : List Int) (p : Int) (v : List Int)
    (hne : dx ≠ wa) (hr : ∀ q ∈ rest, q.1 ≠ dx) (hD : KBw.bInts D = ks) (hlen : ks.length ≤ 10000) (hat : At ks p (32 :: v)) :
   Ctr w mean mg mb 32 443 [.ref wa] (WL wa dx x D p rest) (fun _ _ => False) True := by
  unfold Ctr
  k_fill
  intro dp un gd cn cs a ccd cl outer A₀ base h₀ L m s Q E B F X N T hk hdp hun hret hexc
  refine wpAny_call ?_
  k_dflt cell_enter
  have hat2 : At ks p ([] ++ 32 :: v) := hat
  have hu : ∀ c ∈ ([] : List Int), isAst c = true := fun _ h => nomatch h
  have hvv : ∀ c, (32 :: v).head? = some c → isAst c = false := fun c h => by cases h; decide
  have hul : ([] : List Int).length = 0 := rfl
  k_steps
  exact hexc _ _ _ _ _ _ _ _ trivial (by assumption) (by assumption) (by assumption) (by assumption)
end PartRA2


theorem tidy_RB : True := by
  w_top off
  trivial
section PartRB
theorem qq_ok (k : Nat) (w : World) (mean : ExcName → Option Value) (mg mb : Str → Option Value) (rest : CbLed) (wa dx : Nat) (x : WTok) (D : Array UInt8) (ks : List Int) (p : Int) (u : List Int) (c : Str) (tc : Tok)
    (hne : dx ≠ wa) (hr : ∀ q ∈ rest, q.1 ≠ dx) (hD : KBw.bInts D = ks) (hlen : ks.length ≤ 10000) (hat : At ks p (34 :: (u ++ 34 :: 32 :: (keyB k ++ [13, 10])))) (hu : ∀ c ∈ u, 33 ≤ c ∧ c < 127 ∧ c ≠ 34 ∧ c ≠ 92) (hv : valueAt kw3 (loS (strOf u)) = some (.str c tc)) (hc : (c == Str.ofString "") = false) :
   SCtr w mean mg mb 34 443 [.ref wa] (WL wa dx x D p rest) (fun r nx => ∃ x' own, KeyLed k r own ∧ nx = WL wa dx x' D ((ks.length : Int) - 2) (own ++ rest)) False := by
  unfold SCtr
  k_fill
  intro dp un gd cn cs a ccd cl outer A₀ base h₀ L m s Q E B F X N T hk hdp hun hret hexc
  refine wpS_call ?_
  k_dflt walk_at "enterS"
  have hlt : ∀ c ∈ u, 0 ≤ c ∧ c < 128 := fun c hc => by have := hu c hc; omega
  have hul : u.length ≤ 10000 := by
    have := congrArg List.length hat.2.2
    rw [List.length_drop] at this
    simp at this
    omega
  have hsz : (strOf u).cps.size ≤ 10000 := by rw [strOf_size]; exact hul
  have hlt2 := strOf_lt hlt
  refine wpS_execs_cons (wpS_Assign_Name ?_ rfl)
  refine wpS_Call_Name ?_
  k_steps
  have h6 : ∃ o fd, (hd.heap_1_1 w.params).lookup 148 = some o ∧ o.data = .func fd := ⟨_, _, rfl, rfl⟩
  refine @ex2 _ _ _ _ h6 fun o6 fd6 hz => @an2 _ _ _ hz fun l6 d6 => ?_
  clear hz h6
  have h7 : ∃ o fd, (hd.heap_1_1 w.params).lookup 675 = some o ∧ o.data = .func fd := ⟨_, _, rfl, rfl⟩
  obtain ⟨o7, fd7, l7, d7⟩ := h7
  refine wpS_callWith_funH (a := 148) (o := o6) (fd := fd6) rfl (wpS_spliced1 ?_)
  rw [if_neg (by decide)]
  refine wpS_Call_Attr rfl rfl rfl ?_
  k_steps
  rename Fr _ _ _ _ => F5
  refine wpS_callWith_fun (a := 675) rfl (wpS_args0 ⟨⟨((by k_asm : (hd.heap_1_1 w.params).In _).keeps F5.keep) _ _ l7, d7⟩, ?_⟩)
  k_dflt (refine' sctr_use (astr_s w mean mg mb _ _ _ _ _ _ _ u (32 :: (keyB k ++ [13, 10])) ?p1 ?p2 ?p3 ?p4 ?p5 hu) ?k1 F5 ?k3 ?k4 ?k5 ?kK ?kd ?ku ?_)
  walk_at "argsS"
  intro r' n' h' tk' F' N' P'
  refine @ex4 _ _ _ _ _ _ P' fun U' t' x' p' hz => @an4 _ _ _ _ _ hz fun e2 hU' hat' e1 => ?_
  clear hz P'
  replace e1 := e1.symm
  subst e1
  subst e2
  (try dsimp only)
  refine Hold.mk ⟨⟨((by k_asm : (hd.heap_1_1 w.params).In _).keeps F'.keep) _ _ l6, d6⟩, wpS_of ?_⟩
  clear hat
  rw [List.nil_append]
  k_steps
  refine wpS_execs_cons (wpS_of ?_)
  k_steps
  refine wpS_execs_cons (wpS_of ?_)
  k_steps
  rename KeyLed _ _ _ => hkl
  rename At _ _ [13, 10] => hat9
  rename News h₀ _ _ _ => N9
  have e9 := hat9.pe
  subst e9
  exact hret _ _ _ _ (by assumption) N9 ⟨_, _, hkl, rfl⟩
theorem qq_sp2 (w : World) (mean : ExcName → Option Value) (mg mb : Str → Option Value) (rest : CbLed) (wa dx : Nat) (x : WTok) (D : Array UInt8) (ks : List Int) (p : Int) (u v : List Int) (c : Str) (tc : Tok)
    (hne : dx ≠ wa) (hr : ∀ q ∈ rest, q.1 ≠ dx) (hD : KBw.bInts D = ks) (hlen : ks.length ≤ 10000) (hat : At ks p (34 :: (u ++ 34 :: 32 :: 32 :: v))) (hu : ∀ c ∈ u, 33 ≤ c ∧ c < 127 ∧ c ≠ 34 ∧ c ≠ 92) (hv : valueAt kw3 (loS (strOf u)) = some (.str c tc)) (hc : (c == Str.ofString "") = false) :
   SCtr w mean mg mb 34 443 [.ref wa] (WL wa dx x D p rest) (fun _ _ => False) True := by
  unfold SCtr
  k_fill
  intro dp un gd cn cs a ccd cl outer A₀ base h₀ L m s Q E B F X N T hk hdp hun hret hexc
  refine wpS_call ?_
  k_dflt walk_at "enterS"
  have hlt : ∀ c ∈ u, 0 ≤ c ∧ c < 128 := fun c hc => by have := hu c hc; omega
  have hul : u.length ≤ 10000 := by
    have := congrArg List.length hat.2.2
    rw [List.length_drop] at this
    simp at this
    omega
  have hsz : (strOf u).cps.size ≤ 10000 := by rw [strOf_size]; exact hul
  have hlt2 := strOf_lt hlt
  refine wpS_execs_cons (wpS_Assign_Name ?_ rfl)
  refine wpS_Call_Name ?_
  k_steps
  have h6 : ∃ o fd, (hd.heap_1_1 w.params).lookup 148 = some o ∧ o.data = .func fd := ⟨_, _, rfl, rfl⟩
  refine @ex2 _ _ _ _ h6 fun o6 fd6 hz => @an2 _ _ _ hz fun l6 d6 => ?_
  clear hz h6
  have h7 : ∃ o fd, (hd.heap_1_1 w.params).lookup 675 = some o ∧ o.data = .func fd := ⟨_, _, rfl, rfl⟩
  obtain ⟨o7, fd7, l7, d7⟩ := h7
  refine wpS_callWith_funH (a := 148) (o := o6) (fd := fd6) rfl (wpS_spliced1 ?_)
  rw [if_neg (by decide)]
  refine wpS_Call_Attr rfl rfl rfl ?_
  k_steps
  rename Fr _ _ _ _ => F5
  refine wpS_callWith_fun (a := 675) rfl (wpS_args0 ⟨⟨((by k_asm : (hd.heap_1_1 w.params).In _).keeps F5.keep) _ _ l7, d7⟩, ?_⟩)
  k_dflt (refine' sctr_use (astr_s w mean mg mb _ _ _ _ _ _ _ u (32 :: 32 :: v) ?p1 ?p2 ?p3 ?p4 ?p5 hu) ?k1 F5 ?k3 ?k4 ?k5 ?kK ?kd ?ku ?_)
  walk_at "argsS"
  intro r' n' h' tk' F' N' P'
  refine @ex4 _ _ _ _ _ _ P' fun U' t' x' p' hz => @an4 _ _ _ _ _ hz fun e2 hU' hat' e1 => ?_
  clear hz P'
  replace e1 := e1.symm
  subst e1
  subst e2
  (try dsimp only)
  refine Hold.mk ⟨⟨((by k_asm : (hd.heap_1_1 w.params).In _).keeps F'.keep) _ _ l6, d6⟩, wpS_of ?_⟩
  clear hat
  rw [List.nil_append]
  k_steps
  refine wpS_execs_cons (wpS_of ?_)
  k_steps
  refine wpS_execs_cons (wpS_of ?_)
  k_steps
  exact hexc _ _ _ _ _ _ _ _ trivial (by assumption) (by assumption) (by assumption) (by assumption)
theorem qq_nosp (w : World) (mean : ExcName → Option Value) (mg mb : Str → Option Value) (rest : CbLed) (wa dx : Nat) (x : WTok) (D : Array UInt8) (ks : List Int) (p : Int) (u v : List Int)
    (hne : dx ≠ wa) (hr : ∀ q ∈ rest, q.1 ≠ dx) (hD : KBw.bInts D = ks) (hlen : ks.length ≤ 10000) (hat : At ks p (34 :: (u ++ 34 :: v))) (hu : ∀ c ∈ u, 33 ≤ c ∧ c < 127 ∧ c ≠ 34 ∧ c ≠ 92) (hm : v.head? ≠ some 32) :
   SCtr w mean mg mb 34 443 [.ref wa] (WL wa dx x D p rest) (fun _ _ => False) True := by
  unfold SCtr
  k_fill
  intro dp un gd cn cs a ccd cl outer A₀ base h₀ L m s Q E B F X N T hk hdp hun hret hexc
  refine wpS_call ?_
  k_dflt walk_at "enterS"
  have hlt : ∀ c ∈ u, 0 ≤ c ∧ c < 128 := fun c hc => by have := hu c hc; omega
  have hul : u.length ≤ 10000 := by
    have := congrArg List.length hat.2.2
    rw [List.length_drop] at this
    simp at this
    omega
  have hsz : (strOf u).cps.size ≤ 10000 := by rw [strOf_size]; exact hul
  have hlt2 := strOf_lt hlt
  refine wpS_execs_cons (wpS_Assign_Name ?_ rfl)
  refine wpS_Call_Name ?_
  k_steps
  have h6 : ∃ o fd, (hd.heap_1_1 w.params).lookup 148 = some o ∧ o.data = .func fd := ⟨_, _, rfl, rfl⟩
  refine @ex2 _ _ _ _ h6 fun o6 fd6 hz => @an2 _ _ _ hz fun l6 d6 => ?_
  clear hz h6
  have h7 : ∃ o fd, (hd.heap_1_1 w.params).lookup 675 = some o ∧ o.data = .func fd := ⟨_, _, rfl, rfl⟩
  obtain ⟨o7, fd7, l7, d7⟩ := h7
  refine wpS_callWith_funH (a := 148) (o := o6) (fd := fd6) rfl (wpS_spliced1 ?_)
  rw [if_neg (by decide)]
  refine wpS_Call_Attr rfl rfl rfl ?_
  k_steps
  rename Fr _ _ _ _ => F5
  refine wpS_callWith_fun (a := 675) rfl (wpS_args0 ⟨⟨((by k_asm : (hd.heap_1_1 w.params).In _).keeps F5.keep) _ _ l7, d7⟩, ?_⟩)
  k_dflt (refine' sctr_use (astr_s w mean mg mb _ _ _ _ _ _ _ u (v) ?p1 ?p2 ?p3 ?p4 ?p5 hu) ?k1 F5 ?k3 ?k4 ?k5 ?kK ?kd ?ku ?_)
  walk_at "argsS"
  intro r' n' h' tk' F' N' P'
  refine @ex4 _ _ _ _ _ _ P' fun U' t' x' p' hz => @an4 _ _ _ _ _ hz fun e2 hU' hat' e1 => ?_
  clear hz P'
  replace e1 := e1.symm
  subst e1
  subst e2
  (try dsimp only)
  refine Hold.mk ⟨⟨((by k_asm : (hd.heap_1_1 w.params).In _).keeps F'.keep) _ _ l6, d6⟩, wpS_of ?_⟩
  clear hat
  rw [List.nil_append]
  k_steps
  refine wpS_execs_cons (wpS_of ?_)
  k_steps
  exact hexc _ _ _ _ _ _ _ _ trivial (by assumption) (by assumption) (by assumption) (by assumption)
end PartRB


theorem tidy_RC : True := by
  w_top off
  trivial
noncomputable def gapB : Nat → List Int
  | 0 => [32]
  | 1 => []
  | _ => [32, 32]
/-- the octets of the six charsets -/
noncomputable def csB : Nat → List Int
  | 0 => [85, 84, 70, 45, 56]
  | 1 => [117, 116, 102, 45, 56]
  | 2 => [34, 85, 116, 102, 45, 56, 34]
  | 3 => [117, 115, 45, 97, 115, 99, 105, 105]
  | 4 => [75, 79, 73, 56, 45, 82]
  | _ => [120]
theorem SCtr.weaken {w : World} {mean : ExcName → Option Value} {mg mb : Str → Option Value} {rk rk' : Nat} {f : Addr} {vs : List Value} {news : CbLed} {P P' : Value → CbLed → Prop} {R R' : Prop} (c : SCtr w mean mg mb rk f vs news P R) (hrk : rk ≤ rk') (hP : ∀ r nx, P r nx → P' r nx) (hR : R → R') : SCtr w mean mg mb rk' f vs news P' R' := by
  intro dp un gd cn cs a ccd cl outer A₀ base h₀ L m s Q E B F X N T hk hdp hun hret hexc
  exact c dp un gd cn cs a ccd cl outer A₀ base h₀ L m s Q E B F X N T hk (by omega) (by omega) (fun r nx h' tk' F' N' hp => hret r nx h' tk' F' N' (hP r nx hp)) (fun e t vs C lg h' tk' g R0 => hexc e t vs C lg h' tk' g (hR R0))
theorem val0 : valueAt kw3 (loS (strOf [85, 84, 70, 45, 56])) = some (.str (Str.ofString "utf-8") 403) := by rfl
theorem val1 : valueAt kw3 (loS (strOf [117, 116, 102, 45, 56])) = some (.str (Str.ofString "utf-8") 403) := by rfl
theorem val2 : valueAt kw3 (loS (strOf [85, 116, 102, 45, 56])) = some (.str (Str.ofString "utf-8") 403) := by rfl
theorem val3 : valueAt kw3 (loS (strOf [117, 115, 45, 97, 115, 99, 105, 105])) = some (.str (Str.ofString "us-ascii") 399) := by rfl
theorem val4 : valueAt kw3 (loS (strOf [75, 79, 73, 56, 45, 82])) = none := by rfl
theorem val5 : valueAt kw3 (loS (strOf [120])) = none := by rfl
theorem key_ast (k : Nat) : ∀ z ∈ keyB k, isAst z = true := by
  unfold keyB
  split <;> decide
theorem cs_key {c0 : Int} {u0 : List Int} (k : Nat) (h : ∀ z ∈ c0 :: u0, isAst z = true) : ∀ z ∈ c0 :: (u0 ++ keyB k), isAst z = true := fun z hz => by
  rcases List.mem_cons.mp hz with rfl | hz
  · exact h _ (.head _)
  rcases List.mem_append.mp hz with hz | hz
  · exact h _ (.tail _ hz)
  · exact key_ast k z hz
section PartRC
variable (w : World) (mean : ExcName → Option Value) (mg mb : Str → Option Value) (rest : CbLed) (wa dx : Nat) (x : WTok) (D : Array UInt8) (ks : List Int) (p : Int)
theorem qg (k g c0 : _) (u0 : List Int) (c : Str) (tc : Tok) (hu : ∀ z ∈ c0 :: u0, isAst z = true) (hv : valueAt kw3 (loS (strOf (c0 :: u0))) = some (.str c tc)) (hc : (c == Str.ofString "") = false)
    (hne : dx ≠ wa) (hr : ∀ q ∈ rest, q.1 ≠ dx) (hD : KBw.bInts D = ks) (hlen : ks.length ≤ 10000) (hat : At ks p ((c0 :: u0) ++ (gapB g ++ (keyB k ++ [13, 10])))) :
   SCtr w mean mg mb 35 443 [.ref wa] (WL wa dx x D p rest) (fun r nx => g = 0 ∧ ∃ x' own, KeyLed k r own ∧ nx = WL wa dx x' D ((ks.length : Int) - 2) (own ++ rest)) (g ≠ 0) := by
  match g, hat with
  | 0, hat => exact (SCtr.of (qc_ok k w mean mg mb rest wa dx x D ks p c0 u0 c tc hne hr hD hlen hat hu hv hc)).weaken (by decide) (fun r nx h => ⟨rfl, h⟩) (fun h => h.elim)
  | 1, hat =>
    have hat' : At ks p ((c0 :: (u0 ++ keyB k)) ++ 13 :: [10]) := by
      have : (c0 :: (u0 ++ keyB k)) ++ 13 :: [10] = (c0 :: u0) ++ (gapB 1 ++ (keyB k ++ [13, 10])) := by simp [gapB]
      rw [this]; exact hat
    exact (SCtr.of (qc_nosp w mean mg mb rest wa dx x D ks p c0 (u0 ++ keyB k) [10] hne hr hD hlen hat' (cs_key k hu))).weaken (by decide) (fun r nx h => h.elim) (fun _ => by decide)
  | g + 2, hat => exact (SCtr.of (qc_sp2 w mean mg mb rest wa dx x D ks p c0 u0 (keyB k ++ [13, 10]) c tc hne hr hD hlen hat hu hv hc)).weaken (by decide) (fun r nx h => h.elim) (fun _ => by omega)
theorem qb (k g c0 : _) (u0 : List Int) (hu : ∀ z ∈ c0 :: u0, isAst z = true) (hv : valueAt kw3 (loS (strOf (c0 :: u0))) = none)
    (hne : dx ≠ wa) (hr : ∀ q ∈ rest, q.1 ≠ dx) (hD : KBw.bInts D = ks) (hlen : ks.length ≤ 10000) (hat : At ks p ((c0 :: u0) ++ (gapB g ++ (keyB k ++ [13, 10])))) :
   SCtr w mean mg mb 35 443 [.ref wa] (WL wa dx x D p rest) (fun r nx => False) True := by
  match g, hat with
  | 0, hat => exact (SCtr.of (qc_bad w mean mg mb rest wa dx x D ks p c0 u0 (keyB k ++ [13, 10]) hne hr hD hlen hat hu hv)).weaken (by decide) (fun r nx h => h) (fun h => h)
  | 1, hat =>
    have hat' : At ks p ((c0 :: (u0 ++ keyB k)) ++ 13 :: [10]) := by
      have : (c0 :: (u0 ++ keyB k)) ++ 13 :: [10] = (c0 :: u0) ++ (gapB 1 ++ (keyB k ++ [13, 10])) := by simp [gapB]
      rw [this]; exact hat
    exact (SCtr.of (qc_nosp w mean mg mb rest wa dx x D ks p c0 (u0 ++ keyB k) [10] hne hr hD hlen hat' (cs_key k hu))).weaken (by decide) (fun r nx h => h) (fun h => h)
  | g + 2, hat => exact (SCtr.of (qc_bad w mean mg mb rest wa dx x D ks p c0 u0 (32 :: (keyB k ++ [13, 10])) hne hr hD hlen hat hu hv)).weaken (by decide) (fun r nx h => h) (fun h => h)
theorem qq (k g : Nat) (u : List Int) (c : Str) (tc : Tok) (hu : ∀ c ∈ u, 33 ≤ c ∧ c < 127 ∧ c ≠ 34 ∧ c ≠ 92) (hv : valueAt kw3 (loS (strOf u)) = some (.str c tc)) (hc : (c == Str.ofString "") = false)
    (hne : dx ≠ wa) (hr : ∀ q ∈ rest, q.1 ≠ dx) (hD : KBw.bInts D = ks) (hlen : ks.length ≤ 10000) (hat : At ks p (34 :: (u ++ 34 :: (gapB g ++ (keyB k ++ [13, 10]))))) :
   SCtr w mean mg mb 35 443 [.ref wa] (WL wa dx x D p rest) (fun r nx => g = 0 ∧ ∃ x' own, KeyLed k r own ∧ nx = WL wa dx x' D ((ks.length : Int) - 2) (own ++ rest)) (g ≠ 0) := by
  match g, hat with
  | 0, hat => exact (qq_ok k w mean mg mb rest wa dx x D ks p u c tc hne hr hD hlen hat hu hv hc).weaken (by decide) (fun r nx h => ⟨rfl, h⟩) (fun h => h.elim)
  | 1, hat =>
    have hm : (keyB k ++ [13, 10]).head? ≠ some 32 := by unfold keyB; split <;> simp
    exact (qq_nosp w mean mg mb rest wa dx x D ks p u (keyB k ++ [13, 10]) hne hr hD hlen hat hu hm).weaken (by decide) (fun r nx h => h.elim) (fun _ => by decide)
  | g + 2, hat => exact (qq_sp2 w mean mg mb rest wa dx x D ks p u (keyB k ++ [13, 10]) c tc hne hr hD hlen hat hu hv hc).weaken (by decide) (fun r nx h => h.elim) (fun _ => by omega)
theorem qAll (k g i : Nat)
    (hne : dx ≠ wa) (hr : ∀ q ∈ rest, q.1 ≠ dx) (hD : KBw.bInts D = ks) (hlen : ks.length ≤ 10000) (hat : At ks p (csB i ++ (gapB g ++ (keyB k ++ [13, 10])))) :
   SCtr w mean mg mb 35 443 [.ref wa] (WL wa dx x D p rest) (fun r nx => (i < 4 ∧ g = 0) ∧ ∃ x' own, KeyLed k r own ∧ nx = WL wa dx x' D ((ks.length : Int) - 2) (own ++ rest)) (¬ (i < 4 ∧ g = 0)) := by
  match i, hat with
  | 0, hat => exact (qg w mean mg mb rest wa dx x D ks p k g 85 [84, 70, 45, 56] _ _ (by decide) val0 (by decide +kernel) hne hr hD hlen hat).weaken (by decide) (fun r nx h => ⟨⟨by decide, h.1⟩, h.2⟩) (fun h q => h q.2)
  | 1, hat => exact (qg w mean mg mb rest wa dx x D ks p k g 117 [116, 102, 45, 56] _ _ (by decide) val1 (by decide +kernel) hne hr hD hlen hat).weaken (by decide) (fun r nx h => ⟨⟨by decide, h.1⟩, h.2⟩) (fun h q => h q.2)
  | 2, hat => exact (qq w mean mg mb rest wa dx x D ks p k g [85, 116, 102, 45, 56] _ _ (by decide) val2 (by decide +kernel) hne hr hD hlen hat).weaken (by decide) (fun r nx h => ⟨⟨by decide, h.1⟩, h.2⟩) (fun h q => h q.2)
  | 3, hat => exact (qg w mean mg mb rest wa dx x D ks p k g 117 [115, 45, 97, 115, 99, 105, 105] _ _ (by decide) val3 (by decide +kernel) hne hr hD hlen hat).weaken (by decide) (fun r nx h => ⟨⟨by decide, h.1⟩, h.2⟩) (fun h q => h q.2)
  | 4, hat => exact (qb w mean mg mb rest wa dx x D ks p k g 75 [79, 73, 56, 45, 82] (by decide) val4 hne hr hD hlen hat).weaken (by decide) (fun r nx h => h.elim) (fun _ q => absurd q.1 (by decide))
  | i + 5, hat => exact (qb w mean mg mb rest wa dx x D ks p k g 120 [] (by decide) val5 hne hr hD hlen hat).weaken (by decide) (fun r nx h => h.elim) (fun _ q => absurd q.1 (by omega))
end PartRC


theorem tidy_RD : True := by
  w_top off
  trivial
/-- the octets of the law -/
noncomputable def ksOf (zs : List (List Int)) (g0 g1 g2 i k : Nat) : List Int := gapB g0 ++ 40 :: (encW zs ++ 41 :: (gapB g1 ++ (csB i ++ (gapB g2 ++ (keyB k ++ [13, 10])))))
noncomputable def wordsOf (zs : List (List Int)) : List Str := zs.map fun z => upS (strOf z)
noncomputable def Good (zs : List (List Int)) (g0 g1 g2 i : Nat) : Prop := zs ≠ [] ∧ okW (wordsOf zs) = true ∧ (∀ z ∈ wordsOf zs, isKn z = true) ∧ i < 4 ∧ g0 = 0 ∧ g1 = 0 ∧ g2 = 0
noncomputable def SortP (zs : List (List Int)) (g0 g1 g2 i k : Nat) (wa dx : Nat) (D : Array UInt8) (rest : CbLed) (r : Value) (nx : CbLed) : Prop :=
  Good zs g0 g1 g2 i ∧ ∃ lr l vs r' x own, r = .ref lr ∧ StrsAre vs (wordsOf zs) ∧ KeyLed k r' own ∧ nx = WL wa dx x D (((ksOf zs g0 g1 g2 i k).length : Int) - 2) ((lr, tupObj [.ref l, r']) :: (own ++ (l, tupObj vs) :: rest))
theorem csB_head (i : Nat) (v : List Int) : (csB i ++ v).head? ≠ some 32 := by
  unfold csB
  split <;> simp
theorem sort_all (w : World) (mean : ExcName → Option Value) (mg mb : Str → Option Value) (rest : CbLed) (wa dx : Nat) (x : WTok) (D : Array UInt8) (zs : List (List Int)) (g0 g1 g2 i k : Nat)
    (hne : dx ≠ wa) (hr : ∀ q ∈ rest, q.1 ≠ dx) (hD : KBw.bInts D = ksOf zs g0 g1 g2 i k) (hlen : (ksOf zs g0 g1 g2 i k).length ≤ 10000) (hus : ∀ z ∈ zs, z ≠ [] ∧ ∀ c ∈ z, isAtomB c = true) (hql : zs.length ≤ 100) :
   SCtr w mean mg mb 41 450 [.ref wa] (WL wa dx x D 0 rest) (SortP zs g0 g1 g2 i k wa dx D rest) (¬ Good zs g0 g1 g2 i) := by
  have hat : At (ksOf zs g0 g1 g2 i k) 0 (ksOf zs g0 g1 g2 i k) := ⟨by decide, by omega, rfl⟩
  match g0, hD, hlen, hat with
  | 1, hD, hlen, hat =>
    exact (SCtr.of (rs_bad0 w mean mg mb rest wa dx x D _ 0 _ hne hr hD hlen hat (by simp [ksOf, gapB]))).weaken (by decide) (fun r nx h => h.elim) (fun _ h => by have := h.2.2.2.2.1; omega)
  | g0 + 2, hD, hlen, hat =>
    exact (SCtr.of (rs_bad1 w mean mg mb rest wa dx x D _ 0 _ hne hr hD hlen hat (by simp))).weaken (by decide) (fun r nx h => h.elim) (fun _ h => by have := h.2.2.2.2.1; omega)
  | 0, hD, hlen, hat =>
    match zs, hD, hlen, hat, hus, hql with
    | [], hD, hlen, hat, hus, hql =>
      exact (SCtr.of (rs_empty w mean mg mb rest wa dx x D _ 0 _ hne hr hD hlen hat)).weaken (by decide) (fun r nx h => h.elim) (fun _ h => h.1 rfl)
    | u :: us, hD, hlen, hat, hus, hql =>
      have hat' : At (ksOf (u :: us) 0 g1 g2 i k) 0 (32 :: 40 :: (u ++ (tailW us ++ 41 :: (gapB g1 ++ (csB i ++ (gapB g2 ++ (keyB k ++ [13, 10]))))))) := by
        have : ksOf (u :: us) 0 g1 g2 i k = 32 :: 40 :: (u ++ (tailW us ++ 41 :: (gapB g1 ++ (csB i ++ (gapB g2 ++ (keyB k ++ [13, 10])))))) := by
          show 32 :: 40 :: ((u ++ tailW us) ++ _) = _
          rw [List.append_assoc]
        rw [← this]; exact hat
      refine (rs_s w mean mg mb rest wa dx x D _ 0 u us (wordsOf (u :: us)) _ (((ksOf (u :: us) 0 g1 g2 i k).length : Int) - 2) (fun r own => (i < 4 ∧ g1 = 0 ∧ g2 = 0) ∧ KeyLed k r own) (¬ (i < 4 ∧ g1 = 0 ∧ g2 = 0)) hne hr hD hlen hat' hus (by simp at hql; omega) rfl ?_).weaken (by decide) (fun r nx h => ?_) (fun h q => ?_)
      · match g1 with
        | 1 => exact .inl ⟨csB_head i _, fun h => absurd h.2.1 (by decide)⟩
        | g1 + 2 =>
          refine .inr ⟨_, rfl, fun rest' x' p' hr' ha => ?_⟩
          exact (SCtr.of (qc_sp1 w mean mg mb rest' wa dx x' D _ p' _ hne hr' hD hlen ha)).weaken (by decide) (fun r nx h => h.elim) (fun _ h => by have := h.2.1; omega)
        | 0 =>
          refine .inr ⟨_, rfl, fun rest' x' p' hr' ha => ?_⟩
          exact (qAll w mean mg mb rest' wa dx x' D _ p' k g2 i hne hr' hD hlen ha).weaken (by decide) (fun r nx h => by
            obtain ⟨⟨a, b⟩, x9, own, c, d⟩ := h
            exact ⟨x9, own, ⟨⟨a, rfl, b⟩, c⟩, d⟩) (fun h q => h ⟨q.1, q.2.2⟩)
      · obtain ⟨h1, h2, lr, l, vs, r', x9, ex, rfl, h3, ⟨⟨h4, h5, h6⟩, h7⟩, rfl⟩ := h
        exact ⟨⟨List.cons_ne_nil _ _, h1, h2, h4, rfl, h5, h6⟩, lr, l, vs, r', x9, ex, rfl, h3, h7, rfl⟩
      · obtain ⟨_, q1, q2, q3, _, q4, q5⟩ := q
        rcases h with h | ⟨z, hz, h⟩ | h
        · rw [q1] at h; cases h
        · rw [q2 z hz] at h; cases h
        · exact h ⟨q3, q4, q5⟩


theorem tidy_RE : True := by
  w_top off
  trivial
/-- the bag of the law -/
noncomputable abbrev bagO (N : Int) (t : Tok) (k : Nat) : Obj := listOf #[.int N t] k
section PartRE
  local macro_rules | `(tactic| walk_at "binaryOp FloorDiv int int") => `(tactic| (k_here; refine floordiv_int (by assumption) ?_ (Or.inl (PyProof.noPylong_of_log2 (by assumption)))))
theorem take_c (w : World) (mean : ExcName → Option Value) (mg mb : Str → Option Value) (rest : CbLed) (b : Addr) (n q : Int) (t tq : Tok) (k : Nat) (h0 : 0 ≤ n) (hq : 0 < q) (hq1 : q ≤ 100) (h1 : ∀ p ∈ rest, p.1 ≠ b) :
   Ctr w mean mg mb 3 723 [.ref b, .int q tq] ((b, bagO n t k) :: rest) (fun r nx => ∃ t1 t2, r = .int (n % q) t1 ∧ nx = (b, bagO (n / q) t2 k) :: rest) False := by
  unfold Ctr
  k_fill
  intro dp un gd cn cs a ccd cl outer A₀ base h₀ L m s Q E B F X N T hk hdp hun hret hexc
  refine wpAny_call ?_
  k_dflt cell_enter
  have hq0 : q ≠ 0 := by omega
  have hql : q.natAbs.log2 < 9000 := Nat.lt_of_le_of_lt (Nat.log2_le_self _) (by omega)
  k_steps
  rename News h₀ _ _ _ => N8
  have e1 : ([n].getD (Int.toNat 0) 0).fmod q = n % q := Int.fmod_eq_emod_of_nonneg _ (by omega)
  have e2 : ([n].getD (Int.toNat 0) 0).fdiv q = n / q := Int.fdiv_eq_ediv_of_nonneg _ (by omega)
  rw [e1]
  rw [e2] at N8
  exact hret _ _ _ _ (by assumption) N8 ⟨_, _, rfl, rfl⟩
end PartRE
theorem take_p (w : World) (mean : ExcName → Option Value) (mg mb : Str → Option Value) (pre post : CbLed) (b : Addr) (n q : Int) (t tq : Tok) (k : Nat) (h0 : 0 ≤ n) (hq : 0 < q) (hq1 : q ≤ 100) (h1 : ∀ p ∈ pre, p.1 ≠ b) (h2 : ∀ p ∈ post, p.1 ≠ b) :
   Ctr w mean mg mb 3 723 [.ref b, .int q tq] (pre ++ (b, bagO n t k) :: post) (fun r nx => ∃ t1 t2, r = .int (n % q) t1 ∧ nx = pre ++ (b, bagO (n / q) t2 k) :: post) False := by
  intro dp un gd cn cs a ccd cl outer A₀ base h₀ L m s Q E B F X N T hk hdp hun hret hexc
  refine take_c w mean mg mb (pre ++ post) b n q t tq k h0 hq hq1 (fun p hp => (List.mem_append.mp hp).elim (h1 p) (h2 p)) dp un gd cn cs a ccd cl outer A₀ base h₀ L m s Q E B F X (fun p hp => N p ?_) T hk hdp hun (fun r nx h' tk' F' N' hP => ?_) hexc
  · rcases List.mem_cons.mp hp with rfl | hp
    · exact List.mem_append_right _ (.head _)
    · rcases List.mem_append.mp hp with hp | hp
      · exact List.mem_append_left _ hp
      · exact List.mem_append_right _ (.tail _ hp)
  · obtain ⟨t1, t2, rfl, rfl⟩ := hP
    refine hret _ (pre ++ (b, bagO (n / q) t2 k) :: post) h' tk' F' (fun p hp => N' p ?_) ⟨t1, t2, rfl, rfl⟩
    rcases List.mem_append.mp hp with hp | hp
    · exact .tail _ (List.mem_append_left _ hp)
    rcases List.mem_cons.mp hp with rfl | hp
    · exact .head _
    · exact .tail _ (List.mem_append_right _ hp)
theorem take_p_k (w : World) (mean : ExcName → Option Value) (mg mb : Str → Option Value) (pre post : CbLed) (b : Addr) (n q : Int) (t tq : Tok) (k : Nat) (h0 : 0 ≤ n) (hq : 0 < q) (hq1 : q ≤ 100) (h1 : ∀ p ∈ pre, p.1 ≠ b) (h2 : ∀ p ∈ post, p.1 ≠ b) :
   CtrK w mean mg mb 3 723 [.ref b, .int q tq] (pre ++ (b, bagO n t k) :: post) (fun G => ∀ t1 t2, G (.int (n % q) t1) (pre ++ (b, bagO (n / q) t2 k) :: post)) :=
  CtrK.of (take_p w mean mg mb pre post b n q t tq k h0 hq hq1 h1 h2) (by intro G k; rintro r nx ⟨t1, t2, rfl, rfl⟩; exact k _ _)
theorem say_RE_0 : True := by
  k_with "call ref" => (k_here; (with_reducible show wpAny _ _ (call (Value.ref 723) _) _ _ _); k_dflt (refine' ctr_useK (take_p_k _ _ _ _ [_, _, _, _, _] _ _ _ _ _ _ _ ?p1 (by decide) (by decide) ?p4 ?p5) ?k1 ?k2 ?k3 ?k4 ?k5 ?kK ?kd ?ku ?_; (case k2 => k_asm); (case k4 => k_asm); (case p1 => first | assumption | omega); (case p4 => k_all); (case p5 => k_all); (case k1 => k_asm); (case k3 => k_asm); (case k5 => k_asm); (case kK => first | exact rfl | assumption); (case kd => ktr_room); (case ku => ktr_units)); (intro t1_wz t2_wz h_wz tk_wz F_wz N_wz; (try dsimp only [List.cons_append, List.nil_append] at N_wz); (try dsimp only); (try k_fold)))
  k_with "call ref" => (k_here; (with_reducible show wpAny _ _ (call (Value.ref 723) _) _ _ _); k_dflt (refine' ctr_useK (take_p_k _ _ _ _ [_, _, _, _] _ _ _ _ _ _ _ ?p1 (by decide) (by decide) ?p4 ?p5) ?k1 ?k2 ?k3 ?k4 ?k5 ?kK ?kd ?ku ?_; (case k2 => k_asm); (case k4 => k_asm); (case p1 => first | assumption | omega); (case p4 => k_all); (case p5 => k_all); (case k1 => k_asm); (case k3 => k_asm); (case k5 => k_asm); (case kK => first | exact rfl | assumption); (case kd => ktr_room); (case ku => ktr_units)); (intro t1_wz t2_wz h_wz tk_wz F_wz N_wz; (try dsimp only [List.cons_append, List.nil_append] at N_wz); (try dsimp only); (try k_fold)))
  k_with "call ref" => (k_here; (with_reducible show wpAny _ _ (call (Value.ref 723) _) _ _ _); k_dflt (refine' ctr_useK (take_p_k _ _ _ _ [_, _, _] _ _ _ _ _ _ _ ?p1 (by decide) (by decide) ?p4 ?p5) ?k1 ?k2 ?k3 ?k4 ?k5 ?kK ?kd ?ku ?_; (case k2 => k_asm); (case k4 => k_asm); (case p1 => first | assumption | omega); (case p4 => k_all); (case p5 => k_all); (case k1 => k_asm); (case k3 => k_asm); (case k5 => k_asm); (case kK => first | exact rfl | assumption); (case kd => ktr_room); (case ku => ktr_units)); (intro t1_wz t2_wz h_wz tk_wz F_wz N_wz; (try dsimp only [List.cons_append, List.nil_append] at N_wz); (try dsimp only); (try k_fold)))
  k_with "call ref" => (k_here; (with_reducible show wpAny _ _ (call (Value.ref 723) _) _ _ _); k_dflt (refine' ctr_useK (take_p_k _ _ _ _ [_, _] _ _ _ _ _ _ _ ?p1 (by decide) (by decide) ?p4 ?p5) ?k1 ?k2 ?k3 ?k4 ?k5 ?kK ?kd ?ku ?_; (case k2 => k_asm); (case k4 => k_asm); (case p1 => first | assumption | omega); (case p4 => k_all); (case p5 => k_all); (case k1 => k_asm); (case k3 => k_asm); (case k5 => k_asm); (case kK => first | exact rfl | assumption); (case kd => ktr_room); (case ku => ktr_units)); (intro t1_wz t2_wz h_wz tk_wz F_wz N_wz; (try dsimp only [List.cons_append, List.nil_append] at N_wz); (try dsimp only); (try k_fold)))
  k_with "call ref" => (k_here; (with_reducible show wpAny _ _ (call (Value.ref 723) _) _ _ _); k_dflt (refine' ctr_useK (take_p_k _ _ _ _ [_] _ _ _ _ _ _ _ ?p1 (by decide) (by decide) ?p4 ?p5) ?k1 ?k2 ?k3 ?k4 ?k5 ?kK ?kd ?ku ?_; (case k2 => k_asm); (case k4 => k_asm); (case p1 => first | assumption | omega); (case p4 => k_all); (case p5 => k_all); (case k1 => k_asm); (case k3 => k_asm); (case k5 => k_asm); (case kK => first | exact rfl | assumption); (case kd => ktr_room); (case ku => ktr_units)); (intro t1_wz t2_wz h_wz tk_wz F_wz N_wz; (try dsimp only [List.cons_append, List.nil_append] at N_wz); (try dsimp only); (try k_fold)))
  k_with "call ref" => (k_here; (with_reducible show wpAny _ _ (call (Value.ref 723) _) _ _ _); k_dflt (refine' ctr_useK (take_p_k _ _ _ _ [] _ _ _ _ _ _ _ ?p1 (by decide) (by decide) ?p4 ?p5) ?k1 ?k2 ?k3 ?k4 ?k5 ?kK ?kd ?ku ?_; (case k2 => k_asm); (case k4 => k_asm); (case p1 => first | assumption | omega); (case p4 => k_all); (case p5 => k_all); (case k1 => k_asm); (case k3 => k_asm); (case k5 => k_asm); (case kK => first | exact rfl | assumption); (case kd => ktr_room); (case ku => ktr_units)); (intro t1_wz t2_wz h_wz tk_wz F_wz N_wz; (try dsimp only [List.cons_append, List.nil_append] at N_wz); (try dsimp only); (try k_fold)))
  trivial


theorem tidy_RF : True := by
  w_top off
  trivial
section PartRF1
open LCg
variable {prog : Program} {w : World} {A : Around} {s : Shared} {env : Env} {h₀ : Heap}
theorem For_lst {E : Value → Shared → Prop} {Q : Flow → Shared → Prop} {x : Str} {px pos : Pos} {iter : Expr} {body : List Stmt} (J : Nat → (Str → Option Value) → CbLed → Prop) {m₀ : Str → Option Value} (_F : Fr h₀ env.locals s.heap m₀)
    (hh : A.handled = none) (hx : env.kindOf x = some .local) (hp : (env.scope.kind == .class || (env.scope.kind == .module && env.locals != env.globals)) = false)
    (h : wpAny (model prog w) A (eval iter env) (fun xv s₁ => Hold (∃ (T : Addr) (vs : List Value) (kk : Nat) (m : Str → Option Value) (news : CbLed) (h1 : Heap) (tk1 : Nat), xv = .ref T ∧ s₁ = { s with heap := h1, toks := tk1 } ∧ Fr h₀ env.locals h1 m ∧
      News h₀ env.locals h1 ((T, listOf vs.toArray kk) :: news) ∧ J 0 m news ∧
      (∀ (i : Nat) (v : Value) (m₁ : Str → Option Value) (news₁ : CbLed) (h : Heap) (tk : Nat) (I : Addr) (oI : Obj), vs[i]? = some v → J i m₁ news₁ → (∀ p ∈ news₁, p.1 ≠ I) → T ≠ I → Fr h₀ env.locals h (fun y => if y = x then some v else m₁ y) →
        News h₀ env.locals h ((I, oI) :: (T, listOf vs.toArray kk) :: news₁) →
        wpAny (model prog w) A (execs body env) (fun f s' => Hold (∃ (h' : Heap) (tk' : Nat) (m' : Str → Option Value) (news' : CbLed), f = .next ∧ s' = { s with heap := h', toks := tk' } ∧ Fr h₀ env.locals h' m' ∧
          News h₀ env.locals h' ((I, oI) :: (T, listOf vs.toArray kk) :: news') ∧ (∀ p ∈ news', p.1 ≠ I) ∧ J (i + 1) m' news')) E { s with heap := h, toks := tk }) ∧
      (∀ (h' : Heap) (tk' : Nat) (m' : Str → Option Value) (news' : CbLed), Fr h₀ env.locals h' m' → News h₀ env.locals h' ((T, listOf vs.toArray kk) :: news') → J vs.length m' news' → Q .next { s with heap := h', toks := tk' }))) E s)
    (hs : ∀ x, foldedSetIterable iter env x = pure x := by intro _; rfl)
    (hE : PassesOwn (model prog w) A env E := by passes_own) :
    wpAny (model prog w) A (exec (.For (.Name x px) iter body [] pos) env) Q E s := by
  refine wpAny_For (wpAny_mono h (fun xv s₁ h₁ => ?_) fun _ _ e => e) hs
  refine @ex7 _ _ _ _ _ _ _ _ _ (Hold.out h₁) fun T vs kk m news h1 tk1 hz => @an7 _ _ _ _ _ _ _ _ hz fun e1 e2 F0 N0 j0 step fin => ?_
  subst e1
  subst e2
  have hTI : T ≠ h1.objs.size := Nat.ne_of_lt (Heap.lt_size (N0 _ (.head _)).1)
  refine wpAny_pyIter_list ⟨_, (N0 _ (.head _)).1, rfl, _, rfl⟩ ?_
  exact loop_W J [(T, listOf vs.toArray kk)] (Walks.list (prog := prog) (w := w) hh h1.objs.size T hTI vs.toArray) hx hp (Nat.ne_of_lt F0.ns.lt) (next_is_new F0) (fun p hp => (List.mem_singleton.mp hp).symm ▸ hTI) list_go
    ⟨⟨_, Heap.get?_push_size _ rfl, rfl, rfl⟩, ⟨_, Heap.get?_push_of_some _ (N0 _ (.head _)).1, rfl, _, rfl⟩⟩ (F0.push _) (N0.grown fun _ _ e => Heap.get?_push_of_some _ e) (fun p hp => Nat.ne_of_lt (Heap.lt_size (N0 p (.tail _ hp)).1)) j0
    (fun i v m₁ news₁ h tk oI _ hP hJ off F N => wpAny_passesOwn hE (step i v m₁ news₁ h tk _ oI (by simpa using hP) hJ off hTI F N)) fin
end PartRF1
theorem pw_fit {n : Int} (h0 : 0 ≤ n) (h : n < 10 ^ Int.toNat 50) : (Builtin.Int.intBits n : Int) * 7 ≤ 2 ^ 27 := by
  have h1 : Builtin.Int.intBits n ≤ 200 := intBits_le_iff.mpr (by
    have e : (10 : Int) ^ Int.toNat 50 = ((10 ^ 50 : Nat) : Int) := by decide +kernel
    rw [e] at h
    have : n.natAbs < 10 ^ 50 := by omega
    exact Nat.lt_trans this (by decide +kernel))
  omega
theorem pow7 {n : Int} (h : 0 ≤ n) : 0 ≤ n ^ Int.toNat 7 := by
  generalize Int.toNat 7 = k
  exact Int.pow_nonneg h
theorem ints_at {vs : List Value} {ns : List Int} (h : IntsAre vs ns) : ∀ {i : Nat} {v : Value}, vs[i]? = some v → ∃ z t, v = .int z t := by
  induction h with
  | nil => intro i v h; simp at h
  | cons y t _ ih =>
    intro i v h
    cases i with
    | zero => exact ⟨_, _, (by simpa using h.symm)⟩
    | succ i => exact ih (by simpa using h)
section PartRF2
  local macro_rules | `(tactic| walk_at "binaryOp Pow int int") => `(tactic| (k_here; refine pow_int (by decide) (pw_fit (by assumption) (by assumption)) ?_))
  local macro_rules | `(tactic| walk_at "exec For Name Subscript cons nil") => `(tactic| (k_here; refine Hold.out ?_))
theorem bag_c (w : World) (mean : ExcName → Option Value) (mg mb : Str → Option Value) (rest : CbLed) (sc : Addr) (vs : List Value) (ns : List Int) (hvs : IntsAre vs ns) (hl : ns.length ≤ 63) (hl2 : vs.toArray.size ≤ sizeLine) :
   ∀ (dp un : Nat) (gd : Option (List Code)) (cn : Str) (cs : Scope) (a : Addr) (ccd : Value) (cl : List (Str × Addr)) (outer : List Env) (A₀ : Around) (base h₀ : Heap) (L : Addr) (m : Str → Option Value) (s : Shared) (Q E : Value → Shared → Prop),
    Below A₀ base outer h₀ → Fr h₀ L s.heap m → (hd.heap_1_1 w.params).In h₀ → News h₀ L s.heap rest → h₀.IsList sc vs.toArray →
    Top hd.view_1_2 (looseW hd.view_1_2 [Str.ofString "PostError", Str.ofString "CHARSETS"]) mean mg mb h₀ → cs.kind = .function →
    dp + 3 < recursionLimit → un + 8 * 3 < cLine →
    (∀ b n t k h' tk', Fr h₀ L h' m → News h₀ L h' ((b, bagO n t k) :: rest) → 0 ≤ n → (∀ p ∈ rest, p.1 ≠ b) → Q (.ref b) { s with heap := h', toks := tk' }) →
    wpAny (model PySem.Challenge.rw_nz0327_01.row.prog w) (ktrTop dp un gd cn cs L a ccd cl outer) (call (.ref 730) [.ref sc]) Q E s := by
  k_fill
  intro dp un gd cn cs a ccd cl outer A₀ base h₀ L m s Q E B F X N hsc T hk hdp hun hret
  refine wpAny_call ?_
  k_dflt cell_enter
  rename Fr h₀ _ _ _ => FG
  have hsc2 : Heap.IsList _ sc vs.toArray := let ⟨o, e, r⟩ := hsc; ⟨o, FG.keep _ _ e, r⟩
  k_steps
  refine Hold.mk ?_
  rename Fr _ _ _ _ => F1
  rename News _ _ _ _ => N1
  refine For_lst (fun i m₁ news₁ => ∃ (mm : Str → Option Value) (n : Int) (t : Tok), 0 ≤ n ∧ m₁ = (fun y => if y = Str.ofString "number" then some (Value.int n t) else mm y) ∧ news₁ = rest) F1 rfl rfl rfl ?_ (by intro _; rfl)
  k_steps
  refine Hold.mk ?_
  rename Fr _ _ _ _ => F2
  rename News _ _ _ _ => N2
  rename IntsAre _ (List.take 24 ns) => hI2
  refine in7 _ _ _ _ _ _ _ ⟨rfl, rfl, F2, N2, in3 _ 7 _ ⟨by decide, rfl, rfl⟩, ?_, ?_⟩
  · intro i v m₁ news₁ h tk9 I oI hv hz0
    refine @ex3 _ _ _ _ _ hz0 fun mm n t hz => @an3 _ _ _ _ hz fun hn ehzq1 ehzq2 => ?_
    clear hz hz0
    subst ehzq1
    subst ehzq2
    intro hI hTI F N
    obtain ⟨z, tz, rfl⟩ := ints_at hI2 hv
    k_steps
    rename Fr _ _ _ _ => F3
    rename News _ _ _ _ => N3
    refine Hold.mk (in4 _ _ _ _ ⟨rfl, rfl, F3, N3, hI, in3 _ _ _ ⟨?_, rfl, rfl⟩⟩)
    have h1 : (0 : Int) ≤ z.fmod (10 ^ Int.toNat 120) := by
      rw [Int.fmod_eq_emod_of_nonneg _ (by decide +kernel)]
      exact Int.emod_nonneg _ (by decide +kernel)
    have h2 : (0 : Int) ≤ n * 1000033 := by omega
    exact Int.add_nonneg h2 h1
  intro h13 tk13 m13 news13 F13 N13 hz0
  refine @ex3 _ _ _ _ _ hz0 fun mm13 n t hz => @an3 _ _ _ _ hz fun hn ehzq1 ehzq2 => ?_
  clear hz hz0
  subst ehzq1
  subst ehzq2
  clear N2 F2
  k_steps
  · rename News h₀ _ _ _ => N8
    rename (_ < _ ∧ AllLt _ _) => hlt
    rename Fr h₀ _ _ _ => F8
    refine hret _ _ _ _ _ _ F8 (cb_take1 N8 fun q hq => .tail _ hq) ?_ ?_
    · exact pow7 hn
    · exact fun q hq => Nat.ne_of_lt (allLt_to hlt.2 q hq)
  · rename News h₀ _ _ _ => N8
    rename (_ < _ ∧ AllLt _ _) => hlt
    rename Fr h₀ _ _ _ => F8
    refine hret _ _ _ _ _ _ F8 (cb_take1 N8 fun q hq => .tail _ hq) hn ?_
    exact fun q hq => Nat.ne_of_lt (allLt_to hlt.2 q hq)
end PartRF2


theorem tidy_RG : True := by
  w_top off
  trivial
section PartRG
open PySem.Calls
/-- a def with cells, called under S -/
theorem call_cellsS {prog : Program} {w : World} {A : Around} {R : Result → Shared → Prop} {s : Shared} {name : Str} {params : Arguments} {body : List Stmt} {scope : Scope}
    {pm cd doc : Value} {a : Addr} {o : Obj} {args : List Value} {binds : List (Str × Value)}
    (hroom : A.depth < recursionLimit) (ho : s.heap.get? a = some o) (hdata : o.data = .func (Calls.docDef name params body scope pm cd doc)) (hlim : s.heap.NoLimit) (hcd : s.heap.CodeRec cd name)
    (hbind : bindArgs (Calls.docDef name params body scope pm cd doc) ⟨args, []⟩ = pure binds)
    (hkind : ∀ x ∈ binds, scope.names.lookup x.1 = some .local ∨ (scope.names.lookup x.1 = some .cell ∧ ((cellsFrom (s.heap.objs.size + 1) scope.names []).lookup x.1).isSome = true))
    (hnd : ((cellsFrom 0 scope.names []).map (·.1)).Nodup)
    (h : ∀ h₁ tk cells, Fr s.heap s.heap.objs.size h₁ (bindL (envOfC name scope s.heap.objs.size a cd).kindOf binds fun _ => none) → News s.heap s.heap.objs.size h₁ cells →
      CellsAre (bindC (envOfC name scope s.heap.objs.size a cd).kindOf binds fun _ => none) (cellsFrom (s.heap.objs.size + 1) scope.names []) cells →
      wpS (model prog w) (A.deeper (envOfC name scope s.heap.objs.size a cd)) (execs body (envOfC name scope s.heap.objs.size a cd))
        (fun f s' => R (.ok (.ret (match f with | .ret v => v | _ => .none))) s')
        (fun e s' => wpAny (model prog w) (A.deeper (envOfC name scope s.heap.objs.size a cd)) (leaving (envOfC name scope s.heap.objs.size a cd) e)
          (fun _ s'' => R (.error e) s'') (fun e' s'' => R (.error e') s'') s')
        { s with heap := h₁, toks := tk })
    (hco : scope.isCoroutine = false := by rfl) (hgen : scope.isGenerator = false := by rfl) (hk : scope.kind = .function := by rfl) :
    codeS (model prog w) A (.call (.ref a) ⟨args, []⟩) R s := by
  refine codeS_call_function (fd := Calls.docDef name params body scope pm cd doc) hroom ho hdata hco hgen rfl hcd ?_
  rw [hbind]
  refine wpAny_pure (wpAny_newFunctionEnv_cells hk hkind fun env he s' x => ?_)
  subst he
  refine ⟨hlim.keeps x.toInCall.keep, codeS_func (wpS_mono ?_ (fun _ _ y => y) fun _ _ y => wpS_of y)⟩
  obtain ⟨h₁, tk, rfl, _⟩ := x.done
  have X : Cl s.heap.objs.size (cellsFrom (s.heap.objs.size + 1) scope.names []) h₁ (bindC (envOfC name scope s.heap.objs.size a cd).kindOf binds fun _ => none) := ⟨x.cell, x.apart, x.above⟩
  obtain ⟨cells, N, Y⟩ := Cl.news (h₀ := s.heap) (Nat.le_refl _) fun n c hm => ⟨X.cell n c (lookup_of_mem_nodup (cellsFrom_names scope.names 0 (s.heap.objs.size + 1) [] [] rfl ▸ hnd) hm), X.above n c hm⟩
  exact h h₁ tk cells ⟨x.toInCall.ns, x.toInCall.keep, x.toInCall.fresh⟩ N Y
end PartRG


theorem tidy_SA : True := by
  w_top off
  trivial
section PartSA
open PySem.Calls
theorem free_caller : freeC (.builtin "claim.caller" {}) := by show holdIds.contains "claim.caller" = false; decide +kernel
/-- a tree under S, from the caller's empty stack -/
theorem ends_S {prog : Program} {w : World} {t : Sem Fin} {s : Shared} {R : Result → Shared → Prop} (hz : s.asleep)
    (h : wpS (model prog w) callerA t (fun fin s' => ∃ f, fin = .done f ∧ (R (.ok f) s' ∧ leftWithCleanup s'.gens = false)) (fun e s' => R (.error e) s' ∧ leftWithCleanup s'.gens = false) s) :
    ∃ n r s' s'', runN (denote table) prog w n s ⟨t, .builtin "claim.caller" {}, default, []⟩ = .halted (outcomeOf r) s' ∧
      schedN (denote table) prog w n (.single s ⟨t, .builtin "claim.caller" {}, default, []⟩) = .halted (outcomeOf r) s' ∧ s'.forget = s''.forget ∧ R r s'' := by
  have h1 := Sem.wp_mono (model prog w) ⟨.builtin "claim.caller" {}, none, none, [], none⟩ t
    (post' := Sem.finPost (model prog w) ⟨.builtin "claim.caller" {}, none, none, [], none⟩ fun r s' => R r s' ∧ leftWithCleanup s'.gens = false) (fun fin p' s' h' => by
      obtain ⟨f, rfl, hf⟩ := h'
      exact hf) (fun _ _ _ h' => h') default s (h ⟨.builtin "claim.caller" {}, none, none, [], none⟩ default caller_in free_caller fun x hx => nomatch hx)
  refine @ex4 _ _ _ _ _ _ (wp_halts_full (M := model prog w) (R := R) hz h1) fun n r s₁ s₂ hz => @an4 _ _ _ _ _ hz fun hs hn hfo hR => ?_
  clear hz
  exact ⟨n, r, s₂, s₁, hn, hs, hfo, hR⟩
theorem call_S {c : ClaimW} {tree : List Value → Sem Fin} {w : World} {s : Shared} {free : Addr → Prop} {gens : Prop} {kept : Heap → Prop} (hz : s.asleep) (hg : s.gens = #[])
    (spec : ∀ args, c.pre args = true → WData.layableAll args = true → ∀ ord : List DictEntry → List DictEntry, (∀ l, (ord l).Perm l) →
      ∃ vs s₁, layAllW c.records (classAt s.heap) w.params ord args s = some (vs, s₁) ∧
        wpS (model c.prog w) callerA (tree vs) (fun fin s' => ∃ f, fin = .done f ∧ (c.Ends s args vs s₁ (.ok f) s' ∧ s'.os = s.os ∧ AllBare s'.gens ∧ kept s'.heap))
          (fun e s' => c.Ends s args vs s₁ (.error e) s' ∧ s'.os = s.os ∧ AllBare s'.gens ∧ kept s'.heap) s₁) :
    c.CallFrom (fun vs => ⟨tree vs, .builtin "claim.caller" {}, default, []⟩) w free gens kept s := by
  intro args hpre hlay ord hord
  obtain ⟨vs, s₁, hl, ht⟩ := spec args hpre hlay ord hord
  have hr := layAllW_rest _ _ _ hl
  have ht2 := wpS_mono ht (Q' := fun fin s' => ∃ f, fin = .done f ∧ ((c.Ends s args vs s₁ (.ok f) s' ∧ s'.os = s.os ∧ kept s'.heap) ∧ leftWithCleanup s'.gens = false))
    (E' := fun e s' => (c.Ends s args vs s₁ (.error e) s' ∧ s'.os = s.os ∧ kept s'.heap) ∧ leftWithCleanup s'.gens = false)
    (fun fin s' ⟨f, e, h1, h2, h3, h4⟩ => ⟨f, e, ⟨h1, h2, h4⟩, leftWithCleanup_false_of_bare h3⟩) (fun e s' ⟨h1, h2, h3, h4⟩ => ⟨⟨h1, h2, h4⟩, leftWithCleanup_false_of_bare h3⟩)
  refine @ex4 _ _ _ _ _ _ (ends_S (R := fun r s' => c.Ends s args vs s₁ r s' ∧ s'.os = s.os ∧ kept s'.heap) (Shared.asleep_of_life hr.2.2.2 hz) ht2) fun n r s' s'' hz => @an6 _ _ _ _ _ _ _ hz fun hrun hsch hfo hE hos hk => ?_
  clear hz
  obtain ⟨eh, _, _, eo, _⟩ := Shared.forget_eq hfo
  have hE' := hE.congr eh
  have hk' : kept s'.heap := by rw [eh]; exact hk
  rw [← eo] at hos
  have hlife : s'.heap.life = s.heap.life := (runN_life _ _ _ hrun).trans hr.2.2.2
  refine ⟨vs, s₁, hl, n, _, s', hsch, ?_, (fun _ i x hx => by rw [hg] at hx; simp at hx), hk', by rw [hlife], Shared.rest_eq hos⟩
  rcases hE' with ⟨v, rfl, a1, a2, a3, a4, a5⟩ | ⟨e, ob, cls, rfl, a1, a2, a3, a4, a5⟩
  · exact .inl ⟨v, rfl, a1, a2, a3, fun b o y _ => a4 b o y, a5⟩
  · exact .inr ⟨e, ob, cls, rfl, a1, a2, a3, a4, fun b o y _ => a5 b o y⟩
/-- what a walk of the law has to show, under S -/
noncomputable abbrev WalkS (q : Program) (loose : List Str) (XP : (Str → Option Value) → Heap → Prop) (YP : World → Heap → Prop) (r : RowW) (d : DefRec) (kwd : List (Str × PySem.Expr)) : Prop :=
  ∀ (w : World) (s₀ s₁ : Shared) (mg mb : Str → Option Value), Ground q loose r.records XP w s₀ mg mb s₁.heap → YP w s₁.heap → ∀ (a : Addr) (o : Obj) (pm cd doc dV kV : Value), s₁.heap.get? a = some o →
    o.data = .func { docDef d.name d.params d.body d.scope pm cd doc with defaults := dV, kwdefaults := kV } → s₁.heap.CodeRec cd d.name → Dflts mg s₁.heap d.params kwd dV kV → mg d.name = some (.ref a) → s₁.gens = #[] →
    ∀ (args : List WData) (vals : List Value) (as : List Addr), r.claim.pre args = true → WData.layableAll args = true → ReadsAllW r.records (classAt s₀.heap) s₁.heap vals args as → WellAll w.params s₁.heap vals args → (∀ a ∈ as, (a == sysModules) = false) →
      wpS (model r.prog w) callerA (PySem.call (.ref a) vals) (fun v s' => GoodWG r.claim (classAt s₀.heap) (ExcName.means s₀.heap) args s₁ (.ok (.ret v)) s')
        (fun e s' => GoodWG r.claim (classAt s₀.heap) (ExcName.means s₀.heap) args s₁ (.error e) s') s₁
theorem holds_S {r : OpenRow} {q : Program} {loose : List Str} {Xt : Shared → Bool} {XP : (Str → Option Value) → Heap → Prop} {α : Type} {Yf : Shared → α} {Ya : World → α} {YP : World → Heap → Prop} {d : DefRec} {kwd : List (Str × PySem.Expr)} {N : Nat}
    (left : LeftO r.prog q loose Xt Yf Ya N) (hY : ∀ w s, Yf s = Ya w → YP w s.heap) (hYk : ∀ w h h', YP w h → (∀ b o, h.get? b = some o → h'.get? b = some o) → YP w h')
    (hX : ∀ s, Xt s = true → XP (s.heap.nsMap mainGlobals) s.heap) (hXk : ∀ mg h h', XP mg h → (∀ b o, h.get? b = some o → h'.get? b = some o) → XP mg h')
    (hdef : defOf q r.name = some (d, kwd)) (hp : r.prog.theDef r.name = some (d.params, d.body, d.scope)) (hk : kwWritten? d.params.kwonlyargs d.params.kw_defaults = some kwd) (hRf : ∀ s, Xt s = true → RecFacts r.records s.heap) (hwr : (!r.writes || r.records.isEmpty) = true)
    (k1 : r.wellSaid = true) (ok : (chainsOk q && opensWell r.prog && (frees r.toRowW && r.within.isEmpty)) = true) (hb : r.prog.bare) (hw : r.toRowW.promised)
    (walk : WalkS q loose XP YP r.toRowW d kwd) : r.Holds := by
  refine @an2 _ _ _ (Bool.and_eq_true_iff.mp ok) fun ok1 ok2 => ?_
  refine @an2 _ _ _ (Bool.and_eq_true_iff.mp ok1) fun hch hop => ?_
  refine @an2 _ _ _ (Bool.and_eq_true_iff.mp ok2) fun hfr hwi => ?_
  refine @an5 _ _ _ _ _ _ (frees_parts hfr) fun hsame hu ha hap hm => ?_
  refine ⟨k1, hw, ⟨⟨hb, hop, by show r.makers.map _ = []; rw [hm]; rfl⟩, hw.witness, fun w => ⟨(left.behind hX hch w).1, fun sI hI => ?_⟩⟩⟩
  obtain ⟨sF, hf, hg0, s, hT, hz, hgens, hg, G1, y⟩ := (left.behind (XP := fun mg h => XP mg h ∧ RecFacts r.records h) (fun s hs => ⟨hX s hs, hRf s hs⟩) hch w).2 sI hI
  have RF := G1.X.2
  have G0 : Ground q loose [] XP w s (s.heap.nsMap mainGlobals) (s.heap.nsMap builtinsNs) s.heap := { G1 with X := G1.X.1 }
  refine ⟨sF, hf, hg0, s, hT, fun n hn => ?_, RF.1, RF.2.1, ?_⟩
  · obtain rfl : n = r.name := by split at hn <;> simp_all
    exact pinned_of_view hg G0 hdef hp hk
  have hgens : s.gens = #[] := Array.eq_empty_of_size_eq_zero (beq_iff_eq.mp hgens)
  have GR : Ground q loose r.records XP w s _ _ s.heap := RF.ground G0
  refine call_S (c := r.claim) hz hgens fun args hpre hlay ord hord => ?_
  obtain ⟨⟨vs, s₁⟩, hl⟩ := Option.isSome_iff_exists.mp (layAllW_isSome (P := w.params) (ord := ord) GR.has args r.args s (pre_splitW hpre).1)
  have keeps := layAllW_keeps _ _ _ hl
  have hal := layAllW_rest _ _ _ hl
  obtain ⟨as, hrd, hin, hold⟩ := reads_layAllW hord _ _ _ hl hlay s₁.heap (fun _ _ e => e)
  have L : Laid r.records w s s₁ args vs as := ⟨⟨ord, hord, hl⟩, hrd, hin, hold, keeps, hal.1.trans hgens, hal.2.2.1⟩
  have GR₁ := GR.keeps hXk keeps
  refine @ex7 _ _ _ _ _ _ _ _ _ (GR₁.fn hdef) fun a o pm cd doc dV kV hz => @an5 _ _ _ _ _ _ hz fun h1 h2 h3 h4 h5 => ?_
  clear hz
  have hw1 := walk w s s₁ _ _ GR₁ (hYk _ _ _ (hY w s y) keeps) a o pm cd doc dV kV h2 h3 h4 h5 (defOf_name hdef ▸ h1) L.gens args vs as hpre hlay L.reads L.well (L.low GR.low)
  have hi := ident_freeW hu ha hap
  have hwi' : r.claim.within = [] := List.isEmpty_iff.mp hwi
  refine ⟨vs, s₁, hl, wpS_first (wpAny_nsGet GR₁.T.g ?_)⟩
  rw [h1]
  refine wpS_bind (wpS_mono hw1 (fun v s' g => ?_) fun e s' g => ?_)
  · have z := g.laid (c := r.claim) hsame hwi' hi L
    exact wpS_pure ⟨_, rfl, z.1, z.2.1, z.2.2, fun q => ⟨namesKept_of hT hg r.keeps keeps g.2.1.old, noTable hwr q⟩⟩
  · have z := g.laid (c := r.claim) hsame hwi' hi L
    exact ⟨z.1, z.2.1, z.2.2, fun q => ⟨namesKept_of hT hg r.keeps keeps g.2.1.old, noTable hwr q⟩⟩
end PartSA


theorem tidy_RH : True := by
  w_top off
  trivial
section PartRH
open PySem.Calls
noncomputable def lawD : { p : DefRec × List (Str × PySem.Expr) // defOf hd.view_1_2 (Str.ofString "law") = some p } := ⟨(⟨_, _, _, _, _⟩, _), by rfl⟩
end PartRH


theorem tidy_RI : True := by
  w_top off
  trivial
section PartRI
open PySem.Calls
noncomputable abbrev lawN : Str := lawD.1.1.name
noncomputable abbrev lawS : Scope := lawD.1.1.scope
noncomputable abbrev lawB : List Stmt := lawD.1.1.body
/-- the law's statement at a place -/
noncomputable abbrev lawSt (k : Nat) : Stmt := lawB.getD k (.Pass ⟨0, 0, 0, 0⟩)
/-- the law's surroundings -/
noncomputable abbrev lawE (L fa cb ck : Nat) (cd : Value) : Env := envX lawN lawS L fa cd [(Str.ofString "known", ck), (Str.ofString "bag", cb)]
noncomputable abbrev lawA (L fa cb ck : Nat) (cd : Value) : Around := callerA.deeper (lawE L fa cb ck cd)
theorem say_RI_0 : True := by
  k_with "call ref" => (k_here; (with_reducible show wpAny _ _ (call (Value.ref 730) _) _ _ _); refine Hold.out ?_)
  k_with "exec For Name Call cons nil" => (k_here; refine Hold.out ?_)
  k_with "binaryOp Add ref ref" => (k_here; refine Hold.out ?_)
  k_with "subscriptTail" => (k_here; (with_reducible show wpAny _ _ (subscriptTail _ _ (Value.ref _) (Value.int _ _)) _ _ _); refine Hold.out ?_)
  trivial
noncomputable def kn8 : List Str := [⟨#[65, 82, 82, 73, 86, 65, 76]⟩, ⟨#[67, 67]⟩, ⟨#[68, 65, 84, 69]⟩, ⟨#[70, 82, 79, 77]⟩, ⟨#[83, 73, 90, 69]⟩, ⟨#[83, 85, 66, 74, 69, 67, 84]⟩, ⟨#[84, 79]⟩, ⟨#[68, 73, 83, 80, 76, 65, 89, 70, 82, 79, 77]⟩]
noncomputable def kn4 : List Str := [Str.ofString "REVERSE", Str.ofString "REVERSE", Str.ofString "UID", Str.ofString "DATES"]
noncomputable def kn12 : List Str := kn8 ++ kn4
theorem map1 (m : Str → Option Value) (a : Str) (x : Value) (h1 : m a = some x) : m = fun z => if z = a then some x else m z := by
  funext z
  by_cases ha : z = a
  · rw [if_pos ha, ha, h1]
  · rw [if_neg ha]
theorem strs_pick {vs : List Value} {ys : List Str} (h : StrsAre vs ys) : ∀ {i : Nat}, i < ys.length → ∃ z t, vs[i]? = some (.str z t) ∧ z ∈ ys := by
  induction h with
  | nil => intro i h; simp at h
  | cons y t _ ih =>
    intro i h
    cases i with
    | zero => exact ⟨_, _, rfl, .head _⟩
    | succ i =>
      obtain ⟨z, t, h1, h2⟩ := ih (i := i) (by simpa using h)
      exact ⟨z, t, by simpa using h1, .tail _ h2⟩
theorem strs_app {vs us : List Value} {ys zs : List Str} (h : StrsAre vs ys) (g : StrsAre us zs) : StrsAre (vs ++ us) (ys ++ zs) := by
  induction h with
  | nil => exact g
  | cons y t _ ih => exact .cons y t ih
theorem kn8_of {vs : List Value} {ys : List Str} (h : StrsAre vs ys) (e : ys = kn8) : StrsAre vs kn8 := e ▸ h
theorem item12 {prog : Program} {w : World} {A : Around} {E : Value → Shared → Prop} {s : Shared} {value slice : PySem.Expr} {l : Addr} {KV us : List Value} {k : Int} {u : Tok} {Q : Value → Shared → Prop} (hl : s.heap.IsList l (KV ++ us).toArray) (hK : StrsAre KV kn8) (hu : StrsAre us kn4) (h0 : 0 ≤ k) (h1 : k < 12)
    (h : ∀ z tz, z ∈ kn12 → Q (.str z tz) s)
    (hs : subscripted slice false (.ref l) (.int k u) = operate [.ref l, .int k u] (getItem (.ref l) (.int k u)) := by with_unfolding_all rfl) :
    wpAny (model prog w) A (subscriptTail value slice (.ref l) (.int k u)) Q E s := by
  obtain ⟨z, tz, hz, hzm⟩ := strs_pick (strs_app hK hu) (i := k.toNat) (by show _ < 12; omega)
  exact item_litK hl h0 (by omega) hz (h z tz hzm) hs
theorem seg3 (w : World) (mean : ExcName → Option Value) (mg mb : Str → Option Value) (L fa cb ck so kn b : Nat) (cd : Value) (o1 o2 : Obj) (KV : List Value) (n : Int) (t : Tok) (k : Nat)
    (base h₀ : Heap) (s : Shared) (Q : Flow → Shared → Prop) (m : Str → Option Value) :
    Below callerA base [] h₀ → Fr h₀ L s.heap (fun y => if y = Str.ofString "some" then some (.ref so) else m y) → (hd.heap_1_1 w.params).In h₀ →
    News h₀ L s.heap [(so, listOf #[] 0), (kn, listOf KV.toArray 0), (b, bagO n t k), (cb, o1), (ck, o2)] → o1.data = .cell (some (.ref b)) → o2.data = .cell (some (.ref kn)) →
    cb < ck → cb ≠ b → ck ≠ b → b < kn → cb < kn → ck < kn → kn < so → b < so → cb < so → ck < so →
    Top hd.view_1_2 (looseW hd.view_1_2 [Str.ofString "PostError", Str.ofString "CHARSETS"]) mean mg mb h₀ → StrsAre KV kn8 → 0 ≤ n →
    (∀ (h : Heap) (tk : Nat) (mm : Str → Option Value) (SV : List Value) (WS : List Str) (k1 : Nat) (n' : Int) (t' : Tok), Fr h₀ L h (fun y => if y = Str.ofString "some" then some (.ref so) else mm y) → News h₀ L h [(so, listOf (List.toArray SV) k1), (kn, listOf KV.toArray 0), (b, bagO n' t' k), (cb, o1), (ck, o2)] → 0 ≤ n' → StrsAre SV WS → WS.length ≤ 5 → (∀ z ∈ WS, z ∈ kn12) →
      Q .next { s with heap := h, toks := tk }) →
    wpAny (model PySem.Challenge.rw_nz0327_01.row.prog w) (lawA L fa cb ck cd) (exec (lawSt 3) (lawE L fa cb ck cd)) Q (fun _ _ => False) s := by
  k_fill
  intro B F3 X N3 d1 d2 c1 c2 c3 c4 c5 c6 c7 c8 c9 c10 T hK hn hret
  dsimp only [lawSt, lawE, lawN, lawS, lawB, lawD]
  simp only [List.getD_cons_succ, List.getD_cons_zero]
  have hr6 : 0 ≤ n % 6 ∧ n % 6 < 6 := ⟨Int.emod_nonneg _ (by decide), Int.emod_lt_of_pos _ (by decide)⟩
  refine For_rng (fun i m news => ∃ (mm : Str → Option Value) (SV : List Value) (WS : List Str) (k1 : Nat) (n' : Int) (t' : Tok), m = (fun y => if y = Str.ofString "some" then some (.ref so) else mm y) ∧ news = [(so, listOf SV.toArray k1), (kn, listOf KV.toArray 0), (b, bagO n' t' k), (cb, o1), (ck, o2)] ∧ 0 ≤ n' ∧ StrsAre SV WS ∧ WS.length = i ∧ ∀ z ∈ WS, z ∈ kn12) 0 (n % 6).toNat F3 rfl rfl rfl ?_ (by intro _; rfl)
  k_steps
  refine Hold.mk ?_
  rename IsRange _ _ _ _ _ _ _ _ => hR
  rename Fr _ _ _ _ => F7
  rename News _ _ _ _ => N7
  refine in9 _ _ _ _ _ _ _ _ _ ⟨rfl, rfl, hR, small_one (by omega) (by omega) (by omega) (by omega), by rw [rangeSize_one]; split <;> omega, F7, N7, in6 _ [] [] 0 _ _ ⟨rfl, rfl, by omega, .nil, rfl, fun z h => nomatch h⟩, ?_, ?_⟩
  · intro i ti m₁ news₁ h tk9 I oI hi hz0
    refine @ex6 _ _ _ _ _ _ _ _ hz0 fun mm SV WS k1 n' t' hz => @an6 _ _ _ _ _ _ _ hz fun ehzq1 ehzq2 hn' hSV hWl hWm => ?_
    clear hz hz0
    subst ehzq1
    subst ehzq2
    intro hI F N
    have i1 : @Ne Nat so I := hI (so, _) (.head _)
    have i2 : @Ne Nat kn I := hI (kn, _) (.tail _ (.head _))
    have i3 : @Ne Nat b I := hI (b, _) (.tail _ (.tail _ (.head _)))
    have i4 : @Ne Nat cb I := hI (cb, _) (.tail _ (.tail _ (.tail _ (.head _))))
    have i5 : @Ne Nat ck I := hI (ck, _) (.tail _ (.tail _ (.tail _ (.tail _ (.head _)))))
    k_steps
    refine Hold.mk ?_
    rename Fr _ _ _ _ => F8
    rename News _ _ _ _ => N8
    refine kmk_add_lit F8 N8 (N8.isList (.tail _ (.tail _ (.tail _ (.head _))))) (N8.isList (.head _)) rfl ?_ ?_
    rotate_left
    · have := strs_len hK
      have e8 : kn8.length = 8 := rfl
      rw [sizeLine_eq]
      show KV.length + 4 ≤ _
      omega
    intro D9 h9 F9 N9 l9
    (try k_lt l9)
    clear F8 N8
    (try dsimp only at N9 ⊢)
    k_steps
    refine Hold.mk ?_
    rename News _ _ _ _ => N10
    refine item12 (N10.isList (.head _)) hK (by repeat (first | exact .nil | refine .cons _ _ ?_)) (by omega) (by omega) (fun z tz hzm => ?_) (by with_unfolding_all rfl)
    k_steps
    rename Fr _ _ _ _ => F11
    rename News _ _ _ _ => N11
    have N12 := cb_tail (cb_tail N11)
    rw [List.push_toArray] at N12
    have n12 : 0 ≤ n' / 12 := by first | exact Int.ediv_nonneg (by assumption) (by decide) | omega
    refine Hold.mk (in4 _ _ _ _ ⟨rfl, rfl, F11, N12, ?_, in6 _ (SV ++ [.str z tz]) (WS ++ [z]) _ _ _ ⟨map1 _ _ _ rfl, rfl, n12, strs_app hSV (.cons _ _ .nil), by simp [hWl], fun y hy => ?_⟩⟩)
    · k_all
    · rcases List.mem_append.mp hy with hy | hy
      · exact hWm y hy
      · rw [List.mem_singleton.mp hy]; exact hzm
  · intro h13 tk13 m13 news13 F13 N13 hz0
    refine @ex6 _ _ _ _ _ _ _ _ hz0 fun mm SV WS k1 n' t' hz => @an6 _ _ _ _ _ _ _ hz fun ehzq1 ehzq2 hn' hSV hWl hWm => ?_
    clear hz hz0
    subst ehzq1
    subst ehzq2
    exact hret _ _ _ _ _ _ _ _ F13 N13 hn' hSV (by omega) hWm
end PartRI


theorem tidy_RJ : True := by
  w_top off
  trivial
section PartRJ
open PySem.Calls Builtin LCg
variable {prog : Program} {w : World} {A : Around} {E : Value → Shared → Prop} {s : Shared} {h₀ : Heap} {L : Addr} {m : Str → Option Value} {env : Env}
/-- the turns of a comprehension that may change the ledger: J tells it at each turn's start -/
theorem rest_J {elt : PySem.Expr} {x : Str} {scope : Scope} {cl : List (Str × Addr)} {S : CbLed → Prop} {P : Nat → Value → Prop} {Fin : List Value → CbLed → Prop} {n : Nat} {news : CbLed} (J : Nat → CbLed → Prop) (G : Nat → Value → Prop) (j0 : J 0 news) (hS : ∀ i nw, J i nw → S nw)
    (turn : ∀ (i : Nat) (v : Value) (I : Addr) (oI : Obj) (C : Addr) (oC : Obj) (D : Addr) (m₂ : Str → Option Value) (ys : List Value) (h : Heap) (tk : Nat) (nw : CbLed) (E' : Value → Shared → Prop), i < n → P i v → J i nw → NsObj oC m₂ → m₂ x = some v → Fr h₀ L h m →
      News h₀ L h ((I, oI) :: (C, oC) :: (D, lst ys) :: nw) → Off3 I C D nw → ((@Ne Nat I C) ∧ (@Ne Nat I D) ∧ (@Ne Nat C D)) →
      wpAny (model prog w) A (eval elt (compEnvC scope cl C env)) (fun y s₂ => Hold (∃ (h' : Heap) (tk' : Nat) (nw' : CbLed), s₂ = { s with heap := h', toks := tk' } ∧ Fr h₀ L h' m ∧
        News h₀ L h' ((I, oI) :: (C, oC) :: (D, lst ys) :: nw') ∧ Off3 I C D nw' ∧ J (i + 1) nw' ∧ G i y)) E' { s with heap := h, toks := tk })
    (fin : ∀ ys nw, ys.length = n → (∀ i y, ys[i]? = some y → G i y) → J n nw → Fin ys nw) : CompRest prog w A h₀ L m env elt x scope cl s S P Fin n 0 [] news := by
  have key : ∀ (j i : Nat) (ys : List Value) (nw : CbLed), i + j = n → ys.length = i → (∀ q y, ys[q]? = some y → G q y) → J i nw → CompRest prog w A h₀ L m env elt x scope cl s S P Fin j i ys nw := by
    intro j
    induction j with
    | zero =>
      intro i ys nw hi hl hy hj
      have e : i = n := by omega
      subst e
      exact CompRest.zero (fin ys nw hl hy hj)
    | succ j ih =>
      intro i ys nw hi hl hy hj
      refine CompRest.succ ?_
      intro v I oI C oC D m₂ h tk E' hv hC hx F N off ne
      refine wpAny_mono (turn i v I oI C oC D m₂ ys h tk nw E' (by omega) hv hj hC hx F N off ne) (fun y s₂ hq => ?_) fun _ _ e => e
      refine @ex3 _ _ _ _ _ (Hold.out hq) fun h' tk' nw' hz => @an6 _ _ _ _ _ _ _ hz fun e F' N' off' hj' hG => ?_
      clear hz
      refine ⟨h', tk', _, e, F', N', off', hS _ _ hj', ih (i + 1) _ nw' (by omega) (by rw [List.length_append, hl]; rfl) ?_ hj'⟩
      intro q y' hk
      by_cases hki : q < ys.length
      · rw [List.getElem?_append_left hki] at hk
        exact hy q y' hk
      · rw [List.getElem?_append_right (by omega)] at hk
        have : q - ys.length = 0 := by
          cases z : q - ys.length with
          | zero => rfl
          | succ z' => rw [z] at hk; simp at hk
        rw [this] at hk
        have e2 : y = y' := by simpa using hk
        have e3 : q = i := by omega
        rw [← e2, e3]
        exact hG
  exact key n 0 [] news (by omega) rfl (fun q y hk => by simp at hk) j0
end PartRJ


theorem tidy_RK : True := by
  w_top off
  trivial
section PartRK
open PySem.Calls LCg
theorem say_RK_0 : True := by
  k_with "call builtin:str.lower" => (k_here; refine Hold.out ?_)
  trivial
theorem kn12_len : ∀ z ∈ kn12, z.length ≤ 5592405 := by decide +kernel
theorem seg4 (w : World) (mean : ExcName → Option Value) (mg mb : Str → Option Value) (L fa cb ck so kn b : Nat) (cd : Value) (o1 o2 : Obj) (KV SV : List Value) (WS : List Str) (n : Int) (t : Tok) (k k1 : Nat)
    (base h₀ : Heap) (s : Shared) (Q : Flow → Shared → Prop) (m : Str → Option Value) :
    Below callerA base [] h₀ → Fr h₀ L s.heap (fun y => if y = Str.ofString "some" then some (.ref so) else m y) → (hd.heap_1_1 w.params).In h₀ →
    News h₀ L s.heap [(so, listOf (List.toArray SV) k1), (kn, listOf KV.toArray 0), (b, bagO n t k), (cb, o1), (ck, o2)] → o1.data = .cell (some (.ref b)) → o2.data = .cell (some (.ref kn)) →
    cb < ck → cb ≠ b → ck ≠ b → b < kn → cb < kn → ck < kn → kn < so → b < so → cb < so → ck < so →
    Top hd.view_1_2 (looseW hd.view_1_2 [Str.ofString "PostError", Str.ofString "CHARSETS"]) mean mg mb h₀ → StrsAre SV WS → (∀ z ∈ WS, z ∈ kn12) → WS.length ≤ 5 → 0 ≤ n →
    (∀ (h : Heap) (tk D : Nat) (ys : List Value) (n' : Int) (t' : Tok), Fr h₀ L h (fun z => if z = Str.ofString "spelled" then some (.ref D) else if z = Str.ofString "some" then some (.ref so) else m z) →
      News h₀ L h [(D, listOf (List.toArray ys) ys.length), (so, listOf (List.toArray SV) k1), (kn, listOf KV.toArray 0), (b, bagO n' t' k), (cb, o1), (ck, o2)] → (@Ne Nat so D ∧ @Ne Nat kn D ∧ @Ne Nat b D ∧ @Ne Nat cb D ∧ @Ne Nat ck D) →
      ys.length = WS.length → (∀ (i : Nat) (y : Value), ys[i]? = some y → ∃ z t, WS[i]? = some z ∧ (y = .str z t ∨ y = .str (Txt.lower z) t)) → 0 ≤ n' → Q .next { s with heap := h, toks := tk }) →
    wpAny (model PySem.Challenge.rw_nz0327_01.row.prog w) (lawA L fa cb ck cd) (exec (lawSt 4) (lawE L fa cb ck cd)) Q (fun _ _ => False) s := by
  k_fill
  intro B F3 X N3 d1 d2 c1 c2 c3 c4 c5 c6 c7 c8 c9 c10 T hSV hWm hWl hn hret
  dsimp only [lawSt, lawE, lawN, lawS, lawB, lawD]
  simp only [List.getD_cons_succ, List.getD_cons_zero]
  k_steps
  rename Fr _ _ _ _ => F4
  refine CompSrc.ledger rfl F4 N3 (.head _) (by rw [List.size_toArray, strs_len hSV, sizeLine_eq]; omega) fun g => ?_
  refine rest_J (fun i nw => ∃ n' t', nw = [(so, listOf (List.toArray SV) k1), (kn, listOf KV.toArray 0), (b, bagO n' t' k), (cb, o1), (ck, o2)] ∧ 0 ≤ n') (fun i v => ∃ z t, WS[i]? = some z ∧ (v = .str z t ∨ v = .str (Txt.lower z) t)) ⟨n, t, rfl, hn⟩ (fun i nw h => ?_) ?_ ?_
  · obtain ⟨n', t', rfl, _⟩ := h
    exact .inr ⟨_, .head _, rfl, _, rfl⟩
  · rintro i v I oI C oC D m₂ ys h tk nw E' hi hv ⟨n', t', rfl, hn'⟩ hC hx F N off ne
    obtain ⟨z, tz, hz, rfl⟩ := strs_at hSV (by simpa using hv)
    (try simp only [LCg.Off3, and_true] at off)
    have hzl := kn12_len z (hWm z (List.mem_of_getElem? hz))
    have hn2 : 0 ≤ n' / 2 := by first | exact Int.ediv_nonneg (by assumption) (by decide) | omega
    k_steps
    · refine Hold.mk (SCL.lower hzl ?_)
      intro _
      k_steps
      rename Fr _ _ _ _ => F9
      rename News _ _ _ _ => N9
      exact Hold.mk (in3 _ _ _ ⟨rfl, F9, N9, by simpa only [LCg.Off3, and_true] using off, ⟨_, _, rfl, hn2⟩, z, _, hz, .inr rfl⟩)
    · rename Fr _ _ _ _ => F9
      rename News _ _ _ _ => N9
      exact Hold.mk (in3 _ _ _ ⟨rfl, F9, N9, by simpa only [LCg.Off3, and_true] using off, ⟨_, _, rfl, hn2⟩, z, _, hz, .inl rfl⟩)
  · rintro ys nw hl hG ⟨n', t', rfl, hn'⟩
    have hl2 : ys.length = WS.length := by rw [hl, List.size_toArray, strs_len hSV]
    intro D h tk F' N' o1
    exact hret h tk D ys n' t' F' N' (by simpa only [LCg.Off1, and_true] using o1) hl2 hG hn'
end PartRK


theorem tidy_RL : True := by
  w_top off
  trivial
noncomputable def cs6 : List Str := [Str.ofString "UTF-8", Str.ofString "utf-8", Str.ofString "\"Utf-8\"", Str.ofString "us-ascii", Str.ofString "KOI8-R", Str.ofString "x"]
theorem strs_get {vs : List Value} {ys : List Str} (h : StrsAre vs ys) : ∀ {i : Nat}, i < ys.length → ∃ z t, vs[i]? = some (.str z t) ∧ ys[i]? = some z := by
  induction h with
  | nil => intro i h; simp at h
  | cons y t _ ih =>
    intro i h
    cases i with
    | zero => exact ⟨_, _, rfl, rfl⟩
    | succ i =>
      obtain ⟨z, t, h1, h2⟩ := ih (i := i) (by simpa using h)
      exact ⟨z, t, by simpa using h1, by simpa using h2⟩
theorem itemS {prog : Program} {w : World} {A : Around} {E : Value → Shared → Prop} {s : Shared} {value slice : PySem.Expr} {l : Addr} {us : List Value} {ys : List Str} {k : Int} {u : Tok} {Q : Value → Shared → Prop} (hl : s.heap.IsList l us.toArray) (hu : StrsAre us ys) (h0 : 0 ≤ k) (h1 : k < ys.length) (h2 : ys.length ≤ 1000)
    (h : ∀ z tz, ys[k.toNat]? = some z → Q (.str z tz) s)
    (hs : subscripted slice false (.ref l) (.int k u) = operate [.ref l, .int k u] (getItem (.ref l) (.int k u)) := by with_unfolding_all rfl) :
    wpAny (model prog w) A (subscriptTail value slice (.ref l) (.int k u)) Q E s := by
  obtain ⟨z, tz, hz, hzm⟩ := strs_get hu (i := k.toNat) (by omega)
  exact item_litK hl h0 (by omega) hz (h z tz hzm) hs
section PartRL
open PySem.Calls LCg
theorem seg5 (w : World) (mean : ExcName → Option Value) (mg mb : Str → Option Value) (L fa cb ck b a1 a2 a3 : Nat) (cd : Value) (o1 o2 p1 p2 p3 : Obj) (n : Int) (t : Tok) (k : Nat)
    (base h₀ : Heap) (s : Shared) (Q : Flow → Shared → Prop) (m : Str → Option Value) :
    Below callerA base [] h₀ → Fr h₀ L s.heap m → (hd.heap_1_1 w.params).In h₀ →
    News h₀ L s.heap [(a1, p1), (a2, p2), (a3, p3), (b, bagO n t k), (cb, o1), (ck, o2)] → o1.data = .cell (some (.ref b)) → cb < ck → cb ≠ b → ck ≠ b → a1 ≠ b → a2 ≠ b → a3 ≠ b →
    Top hd.view_1_2 (looseW hd.view_1_2 [Str.ofString "PostError", Str.ofString "CHARSETS"]) mean mg mb h₀ → 0 ≤ n →
    (∀ (h : Heap) (tk : Nat) (x : Str) (tx : Tok) (n' : Int) (t' : Tok), Fr h₀ L h (fun z => if z = Str.ofString "charset" then some (.str x tx) else m z) →
      News h₀ L h [(a1, p1), (a2, p2), (a3, p3), (b, bagO n' t' k), (cb, o1), (ck, o2)] → cs6[(n % 6).toNat]? = some x → 0 ≤ n' → Q .next { s with heap := h, toks := tk }) →
    wpAny (model PySem.Challenge.rw_nz0327_01.row.prog w) (lawA L fa cb ck cd) (exec (lawSt 5) (lawE L fa cb ck cd)) Q (fun _ _ => False) s := by
  k_fill
  intro B F3 X N3 d1 c1 c2 c3 c4 c5 c6 T hn hret
  dsimp only [lawSt, lawE, lawN, lawS, lawB, lawD]
  simp only [List.getD_cons_succ, List.getD_cons_zero]
  have hn2 : 0 ≤ n / 6 := by first | exact Int.ediv_nonneg (by assumption) (by decide) | omega
  k_steps
  refine Hold.mk ?_
  rename News _ _ _ _ => N10
  refine itemS (ys := cs6) (N10.isList (.head _)) (by repeat (first | exact .nil | refine .cons _ _ ?_)) (by omega) (by show _ < 6; omega) (by decide) (fun z tz hz => ?_) (by with_unfolding_all rfl)
  k_steps
  rename Fr _ _ _ _ => F11
  rename News _ _ _ _ => N11
  exact hret _ _ z tz _ _ F11 (cb_tail N11) hz hn2
theorem seg7 (w : World) (mean : ExcName → Option Value) (mg mb : Str → Option Value) (L fa cb ck b : Nat) (cd : Value) (o1 o2 : Obj) (n : Int) (t : Tok) (k : Nat) (rest : CbLed)
    (base h₀ : Heap) (s : Shared) (Q : Flow → Shared → Prop) (m : Str → Option Value) (hr : ∀ q ∈ rest, q.1 ≠ b) :
    Below callerA base [] h₀ → Fr h₀ L s.heap m → (hd.heap_1_1 w.params).In h₀ →
    News h₀ L s.heap ((b, bagO n t k) :: (cb, o1) :: rest) → o1.data = .cell (some (.ref b)) → cb ≠ b →
    Top hd.view_1_2 (looseW hd.view_1_2 [Str.ofString "PostError", Str.ofString "CHARSETS"]) mean mg mb h₀ → 0 ≤ n →
    (∀ (h : Heap) (tk : Nat) (tx : Tok) (t' : Tok), Fr h₀ L h (fun z => if z = Str.ofString "spoil" then some (.int (n % 8) tx) else m z) →
      News h₀ L h ((b, bagO (n / 8) t' k) :: (cb, o1) :: rest) → Q .next { s with heap := h, toks := tk }) →
    wpAny (model PySem.Challenge.rw_nz0327_01.row.prog w) (lawA L fa cb ck cd) (exec (lawSt 7) (lawE L fa cb ck cd)) Q (fun _ _ => False) s := by
  k_fill
  intro B F3 X N3 d1 c1 T hn hret
  dsimp only [lawSt, lawE, lawN, lawS, lawB, lawD]
  simp only [List.getD_cons_succ, List.getD_cons_zero]
  k_steps
  rename Fr _ _ _ _ => F11
  rename News _ _ _ _ => N11
  exact hret _ _ _ _ F11 N11
end PartRL


theorem tidy_RM : True := by
  w_top off
  trivial
noncomputable def gapS : Nat → Str
  | 0 => Str.ofString " "
  | 1 => Str.ofString ""
  | _ => Str.ofString "  "
noncomputable abbrev gapsO (x0 x1 x2 : Str) (t0 t1 t2 : Tok) (k : Nat) : Obj := listOf #[.str x0 t0, .str x1 t1, .str x2 t2] k
theorem gap_pick {i : Nat} {z : Str} (h : [Str.ofString "", Str.ofString "  "][i]? = some z) : ∃ j, z = gapS j := by
  match i, h with
  | 0, h => exact ⟨1, (Option.some.inj h).symm⟩
  | 1, h => exact ⟨2, (Option.some.inj h).symm⟩
  | i + 2, h => simp at h
section PartRM
open PySem.Calls LCg
theorem seg8 (w : World) (mean : ExcName → Option Value) (mg mb : Str → Option Value) (L fa cb ck : Nat) (cd : Value) (rest : CbLed)
    (base h₀ : Heap) (s : Shared) (Q : Flow → Shared → Prop) (m : Str → Option Value) :
    Below callerA base [] h₀ → Fr h₀ L s.heap m → (hd.heap_1_1 w.params).In h₀ → News h₀ L s.heap rest →
    Top hd.view_1_2 (looseW hd.view_1_2 [Str.ofString "PostError", Str.ofString "CHARSETS"]) mean mg mb h₀ →
    (∀ (h : Heap) (tk g : Nat) (t0 t1 t2 : Tok), Fr h₀ L h (fun z => if z = Str.ofString "gaps" then some (.ref g) else m z) →
      News h₀ L h ((g, gapsO (gapS 0) (gapS 0) (gapS 0) t0 t1 t2 0) :: rest) → (∀ q ∈ rest, @LT.lt Nat _ q.1 g) → Q .next { s with heap := h, toks := tk }) →
    wpAny (model PySem.Challenge.rw_nz0327_01.row.prog w) (lawA L fa cb ck cd) (exec (lawSt 8) (lawE L fa cb ck cd)) Q (fun _ _ => False) s := by
  k_fill
  intro B F3 X N3 T hret
  dsimp only [lawSt, lawE, lawN, lawS, lawB, lawD]
  simp only [List.getD_cons_succ, List.getD_cons_zero]
  k_steps
  rename Fr _ _ _ _ => F11
  rename News _ _ _ _ => N11
  rename ∀ q ∈ rest, _ => hlt
  exact hret _ _ _ _ _ _ F11 N11 hlt
theorem seg9 (w : World) (mean : ExcName → Option Value) (mg mb : Str → Option Value) (L fa cb ck b g : Nat) (cd : Value) (o1 : Obj) (n sp : Int) (t t0 t1 t2 ts : Tok) (k : Nat) (rest : CbLed)
    (base h₀ : Heap) (s : Shared) (Q : Flow → Shared → Prop) (m : Str → Option Value) (hr : ∀ q ∈ rest, q.1 ≠ b) (hr2 : ∀ q ∈ rest, q.1 ≠ g) :
    Below callerA base [] h₀ → Fr h₀ L s.heap (fun z => if z = Str.ofString "gaps" then some (.ref g) else if z = Str.ofString "spoil" then some (.int sp ts) else m z) → (hd.heap_1_1 w.params).In h₀ →
    News h₀ L s.heap ((g, gapsO (gapS 0) (gapS 0) (gapS 0) t0 t1 t2 0) :: (b, bagO n t k) :: (cb, o1) :: rest) → o1.data = .cell (some (.ref b)) → cb ≠ b → b ≠ g → cb ≠ g →
    Top hd.view_1_2 (looseW hd.view_1_2 [Str.ofString "PostError", Str.ofString "CHARSETS"]) mean mg mb h₀ → 0 ≤ n → 0 ≤ sp →
    (∀ (h : Heap) (tk : Nat) (u0 u1 u2 : Tok) (g0 g1 g2 : Nat) (n' : Int) (t' : Tok), Fr h₀ L h (fun z => if z = Str.ofString "gaps" then some (.ref g) else if z = Str.ofString "spoil" then some (.int sp ts) else m z) →
      News h₀ L h ((g, gapsO (gapS g0) (gapS g1) (gapS g2) u0 u1 u2 0) :: (b, bagO n' t' k) :: (cb, o1) :: rest) → Q .next { s with heap := h, toks := tk }) →
    wpAny (model PySem.Challenge.rw_nz0327_01.row.prog w) (lawA L fa cb ck cd) (exec (lawSt 9) (lawE L fa cb ck cd)) Q (fun _ _ => False) s := by
  k_fill
  intro B F3 X N3 d1 c1 c2 c3 T hn hsp hret
  dsimp only [lawSt, lawE, lawN, lawS, lawB, lawD]
  simp only [List.getD_cons_succ, List.getD_cons_zero]
  have hn2 : 0 ≤ n / 2 := by first | exact Int.ediv_nonneg (by assumption) (by decide) | omega
  by_cases h3 : sp < 3
  · have hc : sp = 0 ∨ sp = 1 ∨ sp = 2 := by omega
    rcases hc with rfl | rfl | rfl
    · k_steps
      refine Hold.mk ?_
      rename News _ _ _ _ => N10
      refine itemS (ys := [Str.ofString "", Str.ofString "  "]) (N10.isList (.head _)) (by repeat (first | exact .nil | refine .cons _ _ ?_)) (by omega) (by show _ < 2; omega) (by decide) (fun z tz hz => ?_) (by with_unfolding_all rfl)
      obtain ⟨j, rfl⟩ := gap_pick hz
      k_steps
      rename Fr _ _ _ _ => F11
      rename News _ _ _ _ => N11
      exact hret _ _ _ _ _ j 0 0 _ _ F11 (cb_tail N11)
    · k_steps
      refine Hold.mk ?_
      rename News _ _ _ _ => N10
      refine itemS (ys := [Str.ofString "", Str.ofString "  "]) (N10.isList (.head _)) (by repeat (first | exact .nil | refine .cons _ _ ?_)) (by omega) (by show _ < 2; omega) (by decide) (fun z tz hz => ?_) (by with_unfolding_all rfl)
      obtain ⟨j, rfl⟩ := gap_pick hz
      k_steps
      rename Fr _ _ _ _ => F11
      rename News _ _ _ _ => N11
      exact hret _ _ _ _ _ 0 j 0 _ _ F11 (cb_tail N11)
    · k_steps
      refine Hold.mk ?_
      rename News _ _ _ _ => N10
      refine itemS (ys := [Str.ofString "", Str.ofString "  "]) (N10.isList (.head _)) (by repeat (first | exact .nil | refine .cons _ _ ?_)) (by omega) (by show _ < 2; omega) (by decide) (fun z tz hz => ?_) (by with_unfolding_all rfl)
      obtain ⟨j, rfl⟩ := gap_pick hz
      k_steps
      rename Fr _ _ _ _ => F11
      rename News _ _ _ _ => N11
      exact hret _ _ _ _ _ 0 0 j _ _ F11 (cb_tail N11)
  · k_steps
    rename Fr _ _ _ _ => F11
    rename News _ _ _ _ => N11
    exact hret _ _ _ _ _ 0 0 0 _ _ F11 N11
end PartRM


theorem tidy_RN : True := by
  w_top off
  trivial
theorem all_cons {a : Addr × Obj} {l : CbLed} {b : Addr} (h : a.1 ≠ b) (g : ∀ q ∈ l, q.1 ≠ b) : ∀ q ∈ a :: l, q.1 ≠ b := List.forall_mem_cons.mpr ⟨h, g⟩
theorem say_RN_0 : True := by
  k_with "call ref" => (k_here; (with_reducible show wpAny _ _ (call (Value.ref 723) _) _ _ _); k_dflt (refine' ctr_useK (take_p_k _ _ _ _ [_, _, _, _, _, _, _, _, _] _ _ _ _ _ _ _ ?p1 (by decide) (by decide) ?p4 ?p5) ?k1 ?k2 ?k3 ?k4 ?k5 ?kK ?kd ?ku ?_; (case k2 => k_asm); (case k4 => k_asm); (case p1 => first | assumption | omega); (case p4 => k_all); (case p5 => (first | k_all | exact all_cons (by k_ne) (by assumption))); (case k1 => k_asm); (case k3 => k_asm); (case k5 => k_asm); (case kK => first | exact rfl | assumption); (case kd => ktr_room); (case ku => ktr_units)); (intro t1_wz t2_wz h_wz tk_wz F_wz N_wz; (try dsimp only [List.cons_append, List.nil_append] at N_wz); (try dsimp only); (try k_fold)))
  trivial
noncomputable def keyS : Nat → Str
  | 0 => Str.ofString "SEEN"
  | 1 => Str.ofString "all"
  | _ => Str.ofString "1:2"
theorem own_at {h₀ h : Heap} {L : Addr} (pre own mid : CbLed) {rest : CbLed} (N : News h₀ L h (pre ++ (own ++ (mid ++ rest)))) : News h₀ L h (own ++ rest) := fun q hq => N q (by
  rcases List.mem_append.mp hq with hq | hq
  · exact List.mem_append_right _ (List.mem_append_left _ hq)
  · exact List.mem_append_right _ (List.mem_append_right _ (List.mem_append_right _ hq)))
theorem seen_bytes : Str.ofString "\\Seen" = ⟨#[92, 83, 101, 101, 110]⟩ := by decide +kernel
section PartRN
open PySem.Calls LCg
theorem seg6 (w : World) (mean : ExcName → Option Value) (mg mb : Str → Option Value) (L fa cb ck b : Nat) (cd : Value) (o1 : Obj) (n : Int) (t : Tok) (k : Nat) (rest : CbLed)
    (base h₀ : Heap) (s : Shared) (Q : Flow → Shared → Prop) (m : Str → Option Value) (hr : ∀ q ∈ rest, q.1 ≠ b) :
    Below callerA base [] h₀ → Fr h₀ L s.heap m → (hd.heap_1_1 w.params).In h₀ →
    News h₀ L s.heap ((b, bagO n t k) :: (cb, o1) :: rest) → o1.data = .cell (some (.ref b)) → cb ≠ b →
    Top hd.view_1_2 (looseW hd.view_1_2 [Str.ofString "PostError", Str.ofString "CHARSETS"]) mean mg mb h₀ → 0 ≤ n →
    (∀ (h : Heap) (tk : Nat) (r : Value) (own : CbLed) (tx : Tok) (n' : Int) (t' : Tok) (kk : Nat), kk < 3 → KeyLed kk r own → Fr h₀ L h (fun z => if z = Str.ofString "tree" then some r else if z = Str.ofString "key" then some (.str (keyS kk) tx) else m z) →
      News h₀ L h (own ++ (b, bagO n' t' k) :: (cb, o1) :: rest) → (∀ q ∈ own, @LT.lt Nat _ b q.1) → 0 ≤ n' → Q .next { s with heap := h, toks := tk }) →
    wpAny (model PySem.Challenge.rw_nz0327_01.row.prog w) (lawA L fa cb ck cd) (exec (lawSt 6) (lawE L fa cb ck cd)) Q (fun _ _ => False) s := by
  k_fill
  intro B F3 X N3 d1 c1 T hn hret
  dsimp only [lawSt, lawE, lawN, lawS, lawB, lawD]
  simp only [List.getD_cons_succ, List.getD_cons_zero]
  have hn2 : 0 ≤ n / 3 := by first | exact Int.ediv_nonneg (by assumption) (by decide) | omega
  k_steps
  have hc3 : n % 3 = 0 ∨ n % 3 = 1 ∨ n % 3 = 2 := by omega
  rcases hc3 with hc | hc | hc
  · rw [hc]
    refine Hold.mk ?_
    rename News _ _ _ _ => N10
    refine item_litK (N10.isList (.head _)) (by decide) (by decide) rfl ?_ (by with_unfolding_all rfl)
    k_steps
    rename Fr _ _ _ _ => F11
    rename News _ _ _ _ => N11
    rw [seen_bytes] at N11
    refine hret _ _ _ _ _ _ _ 0 (by decide) ⟨_, _, _, rfl, rfl⟩ F11 (own_at [_, _, _, _, _, _, _, _] [_] [] N11) ?_ hn2
    simp only [List.mem_cons, List.not_mem_nil, or_false]
    intro q hq
    subst hq
    all_goals first | omega | (show @LT.lt Nat _ _ _; omega)
  · rw [hc]
    refine Hold.mk ?_
    rename News _ _ _ _ => N10
    refine item_litK (N10.isList (.head _)) (by decide) (by decide) rfl ?_ (by with_unfolding_all rfl)
    k_steps
    rename Fr _ _ _ _ => F11
    rename News _ _ _ _ => N11
    skip
    refine hret _ _ _ _ _ _ _ 1 (by decide) ⟨_, _, rfl, rfl⟩ F11 (own_at [_, _, _, _, _, _] [_] [_, _] N11) ?_ hn2
    simp only [List.mem_cons, List.not_mem_nil, or_false]
    intro q hq
    subst hq
    all_goals first | omega | (show @LT.lt Nat _ _ _; omega)
  · rw [hc]
    refine Hold.mk ?_
    rename News _ _ _ _ => N10
    refine item_litK (N10.isList (.head _)) (by decide) (by decide) rfl ?_ (by with_unfolding_all rfl)
    k_steps
    rename Fr _ _ _ _ => F11
    rename News _ _ _ _ => N11
    skip
    refine hret _ _ _ _ _ _ _ 2 (by decide) ⟨_, _, _, _, _, _, rfl, rfl⟩ F11 (own_at [_, _] [_, _, _] [_, _, _, _] N11) ?_ hn2
    simp only [List.mem_cons, List.not_mem_nil, or_false]
    intro q hq
    rcases hq with rfl | rfl | rfl
    all_goals first | omega | (show @LT.lt Nat _ _ _; omega)
end PartRN


theorem tidy_RO : True := by
  w_top off
  trivial
section PartEN
open Builtin._codecs
theorem rng_once {β : Type} {M : Model} {A : Around} {E : Value → Shared → Prop} {s : Shared} {f : Nat → β → Sem (ForInStep β)} {b b1 : β} {n : Nat} {K : β → Shared → Prop} (h0 : n = 0 → K b s)
    (h1 : n ≠ 0 → ∀ K' : ForInStep β → Shared → Prop, K' (.yield b1) s → wpAny M A (f 0 b) K' E s) (h2 : ∀ K' : ForInStep β → Shared → Prop, K' (.done b1) s → wpAny M A (f 1 b1) K' E s) (hK : K b1 s) :
    wpAny M A (forIn [:n] b f) K E s := by
  have e : forIn [:n] b f = forIn (List.range' 0 n 1) b f := by simp [Std.Legacy.Range.forIn_eq_forIn_range', Std.Legacy.Range.size]
  rw [e]
  cases n with
  | zero => exact wpAny_pure (h0 rfl)
  | succ n =>
    rw [List.range'_succ, List.forIn_cons]
    refine wpAny_bind (h1 (Nat.succ_ne_zero n) _ ?_)
    cases n with
    | zero => exact wpAny_pure hK
    | succ n =>
      show wpAny M A (forIn (List.range' (0 + 1) (n + 1) 1) b1 f) K E s
      rw [List.range'_succ, List.forIn_cons]
      exact wpAny_bind (h2 _ (wpAny_pure hK))
theorem clean_none {x : Str} (hx : ∀ c ∈ x.cps.toList, c < 128) : Array.findIdx? asciiCodec.bad x.cps = none := by
  rw [Array.findIdx?_eq_none_iff]
  intro c hc
  have := hx c (Array.mem_toList_iff.mpr hc)
  show decide (c ≥ 128) = false
  simp; omega
theorem fold_bytes (l : List Nat) (acc : Array UInt8) : l.foldl (fun acc y => acc ++ (asciiCodec.bytesOf y).toArray) acc = acc ++ (l.map Nat.toUInt8).toArray := by
  induction l generalizing acc with
  | nil => simp
  | cons c r ih =>
    rw [List.foldl_cons, ih]
    show acc ++ #[c.toUInt8] ++ _ = _
    simp
theorem enc_clean {M : Model} {A : Around} {E : Value → Shared → Prop} {s : Shared} {id : String} {self : Value} {x : Str} {Q : Array UInt8 → Shared → Prop} (hx : ∀ c ∈ x.cps.toList, c < 128) (hz : x.length ≤ 1000) (h : Q (x.cps.map Nat.toUInt8) s) :
    wpAny M A (encodeNarrow id asciiCodec none self x) Q E s := by
  have hsz : x.cps.size = x.length := rfl
  have hout : (x.cps.extract 0 x.cps.size).foldl (fun acc y => acc ++ (asciiCodec.bytesOf y).toArray) #[] = x.cps.map Nat.toUInt8 := by
    rw [Array.extract_size, ← Array.foldl_toList, fold_bytes, Array.empty_append]
    apply Array.toList_inj.mp
    rw [Array.toList_map]
  refine wpAny_bind (rng_once (b1 := (0 + x.cps.size, x.cps.map Nat.toUInt8, {})) ?_ ?_ ?_ ?_)
  rotate_left
  · intro hn K' k
    have hp : 0 < x.cps.size := Nat.pos_of_ne_zero hn
    have hb : (!asciiCodec.bad (x.cps[0]'hp)) = true := by
      have := hx (x.cps[0]'hp) (Array.mem_toList_iff.mpr (Array.getElem_mem _))
      show (!decide (_ ≥ 128)) = true
      simp; omega
    dsimp only
    rw [if_neg (show ¬ (#[] : Array UInt8).size > sizeLine from Nat.not_lt_zero _), Array.getElem?_eq_getElem hp]
    dsimp only
    rw [if_pos hb]
    refine wpAny_pure ?_
    rw [Array.extract_size, clean_none hx]
    dsimp only [Option.getD]
    rw [hout]
    exact k
  · intro K' k
    dsimp only
    rw [if_neg (by rw [Array.size_map, hsz, sizeLine_eq]; omega)]
    rw [show x.cps[0 + x.cps.size]? = none by rw [Nat.zero_add]; exact Array.getElem?_eq_none (Nat.le_refl _)]
    exact wpAny_pure k
  · exact wpAny_pure h
  · intro hn
    have e : x.cps = #[] := Array.eq_empty_of_size_eq_zero (by rw [hsz, hn])
    rw [e, Array.map_empty] at h
    exact wpAny_pure h
theorem road_ascii (id : String) (self : Value) (x : Str) : encodeRoad id self x (Str.ofString "ascii") none = (do mkBytes (← encodeNarrow id asciiCodec none self x)) := by
  first | rfl | (unfold encodeRoad; rfl) | (unfold encodeRoad; simp only []; rfl) | decide
theorem arg_ascii (u : Tok) : Builtin.Str.codecArg "str.encode" "encode" "'encoding'" (some (Value.str (Str.ofString "ascii") u)) = pure (some (Str.ofString "ascii")) := by
  first
    | kernel_rfl
    | (unfold Builtin.Str.codecArg
       dsimp only
       have h1 : (Str.ofString "ascii").cps.any (fun c => decide (c ≥ 128)) = false := by decide +kernel
       have h2 : (Str.ofString "ascii").cps.contains 0 = false := by decide +kernel
       show (do let n ← (pure (Str.ofString "ascii") : Sem Str); _) = _
       simp only [pure_bind, h1, h2]
       rfl)
theorem call_encode {prog : Program} {w : World} {A : Around} {E : Value → Shared → Prop} {s : Shared} {x : Str} {t u : Tok} {Q : Value → Shared → Prop} (hx : ∀ c ∈ x.cps.toList, c < 128) (hz : x.length ≤ 1000)
    (hQ : ∀ t' k, Q (.bytes (x.cps.map Nat.toUInt8) t') { s with toks := k }) : wpAny (model prog w) A (call (.builtin "str.encode") [.str x t, .str (Str.ofString "ascii") u]) Q E s := by
  refine wpAny_call (codeAny_call_builtin F.slot_str_encode.plain F.entry_str_encode (F.slot_str_encode.check _ _ _ _ _ _ _ _ (typeIs_str s x t) (F.args_str_encode_2 _ _) ?_))
  unfold Builtin.«str.encode»
  refine wpAny_bind (wpAny_of_eq (a := (.str x t, x, [.str (Str.ofString "ascii") u])) rfl ?_)
  refine wpAny_bind (wpAny_of_eq (a := [some (.str (Str.ofString "ascii") u), none]) rfl ?_)
  refine wpAny_bind (wpAny_of_eq (a := some (Str.ofString "ascii")) (arg_ascii u) ?_)
  refine wpAny_bind (wpAny_of_eq (a := none) rfl ?_)
  dsimp only [Option.getD]
  rw [road_ascii]
  refine wpAny_bind (wpAny_bind (enc_clean hx hz (wpAny_mkBytes ?_ (by rw [Array.size_map, sizeLine_eq]; show x.length ≤ _; omega))))
  exact wpAny_pure (hQ _ _)
end PartEN
/-- the text of the law's octets -/
noncomputable abbrev octS (x0 x1 x2 cs key : Str) (YS : List Str) : Str := x0 ++ Str.ofString "(" ++ Txt.join (Str.ofString " ") YS ++ Str.ofString ")" ++ x1 ++ cs ++ x2 ++ key
section PartRO
open PySem.Calls LCg
theorem say_RO_0 : True := by
  k_with "call builtin:str.encode" => (k_here; refine Hold.out ?_)
  trivial
theorem seg10 (w : World) (mean : ExcName → Option Value) (mg mb : Str → Option Value) (L fa cb ck g D : Nat) (cd : Value) (x cs key : Str) (ts tk0 : Tok) (ys : List Value) (YS : List Str) (x0 x1 x2 : Str) (t0 t1 t2 : Tok) (rest : CbLed)
    (base h₀ : Heap) (s : Shared) (Q : Flow → Shared → Prop) (m : Str → Option Value) :
    Below callerA base [] h₀ → Fr h₀ L s.heap (fun z => if z = Str.ofString "gaps" then some (.ref g) else if z = Str.ofString "spelled" then some (.ref D) else if z = Str.ofString "charset" then some (.str cs ts) else if z = Str.ofString "key" then some (.str key tk0) else m z) → (hd.heap_1_1 w.params).In h₀ →
    News h₀ L s.heap ((g, gapsO x0 x1 x2 t0 t1 t2 0) :: (D, listOf (List.toArray ys) ys.length) :: rest) → StrsAre ys YS → (YS.map (·.length)).sum + YS.length ≤ 1048576 → (Txt.join (Str.ofString " ") YS).length ≤ 200 → x0.length ≤ 10 → x1.length ≤ 10 → x2.length ≤ 10 → cs.length ≤ 10 → key.length ≤ 10 → (∀ c ∈ (octS x0 x1 x2 cs key YS).cps.toList, c < 128) → (octS x0 x1 x2 cs key YS).length ≤ 1000 →
    Top hd.view_1_2 (looseW hd.view_1_2 [Str.ofString "PostError", Str.ofString "CHARSETS"]) mean mg mb h₀ →
    (∀ (h : Heap) (tk : Nat) (tb : Tok), Fr h₀ L h (fun z => if z = Str.ofString "octets" then some (.bytes ((octS x0 x1 x2 cs key YS).cps.map Nat.toUInt8) tb) else if z = Str.ofString "gaps" then some (.ref g) else if z = Str.ofString "spelled" then some (.ref D) else if z = Str.ofString "charset" then some (.str cs ts) else if z = Str.ofString "key" then some (.str key tk0) else m z) →
      News h₀ L h ((g, gapsO x0 x1 x2 t0 t1 t2 0) :: (D, listOf (List.toArray ys) ys.length) :: rest) → Q .next { s with heap := h, toks := tk }) →
    wpAny (model PySem.Challenge.rw_nz0327_01.row.prog w) (lawA L fa cb ck cd) (exec (lawSt 10) (lawE L fa cb ck cd)) Q (fun _ _ => False) s := by
  k_fill
  intro B F3 X N3 hYS hYW hJ z0 z1 z2 z3 z4 hasc hlen T hret
  dsimp only [lawSt, lawE, lawN, lawS, lawB, lawD]
  simp only [List.getD_cons_succ, List.getD_cons_zero]
  k_steps
  refine Hold.mk ?_
  rename News _ _ _ _ => N4
  refine item_litK (N4.isList (.head _)) (by decide) (by decide) rfl ?_ (by with_unfolding_all rfl)
  k_steps
  rename News _ _ _ _ => N5
  refine join_listW (N5.isList (.tail _ (.head _))) hYS (by decide +kernel) hYW fun tj kj => ?_
  k_steps
  refine Hold.mk ?_
  rename News _ _ _ _ => N6
  refine item_litK (N6.isList (.head _)) (by decide) (by decide) rfl ?_ (by with_unfolding_all rfl)
  k_steps
  refine Hold.mk ?_
  rename News _ _ _ _ => N7
  refine item_litK (N7.isList (.head _)) (by decide) (by decide) rfl ?_ (by with_unfolding_all rfl)
  k_steps
  refine @getMethod_builtin _ _ _ _ _ _ _ _ _ _ (typeIs_str _ _ _) F.plainAttrs_str F.slot_str_encode F.type_str_encode (fun a e => by cases e) ?_
  k_steps
  refine Hold.mk ?_
  refine call_encode hasc hlen fun te ke => ?_
  k_steps
  rename Fr _ _ _ _ => F11
  rename News _ _ _ _ => N11
  exact hret _ _ _ F11 N11
end PartRO


theorem tidy_RP : True := by
  w_top off
  trivial
section PartRP
open PySem.Calls LCg
theorem seg14 (w : World) (mean : ExcName → Option Value) (mg mb : Str → Option Value) (L fa cb ck : Nat) (cd : Value) (U : Array UInt8) (us : List Int) (tu : Tok) (rest : CbLed)
    (base h₀ : Heap) (s : Shared) (Q : Flow → Shared → Prop) (m : Str → Option Value) :
    Below callerA base [] h₀ → Fr h₀ L s.heap (fun z => if z = Str.ofString "octets" then some (.bytes U tu) else m z) → (hd.heap_1_1 w.params).In h₀ →
    News h₀ L s.heap rest → KBw.bInts U = us → us.length ≤ 1000 →
    Top hd.view_1_2 (looseW hd.view_1_2 [Str.ofString "PostError", Str.ofString "CHARSETS"]) mean mg mb h₀ →
    (∀ (h : Heap) (tk wa dx : Nat) (x : WTok), Fr h₀ L h (fun z => if z = Str.ofString "wire" then some (.ref wa) else if z = Str.ofString "octets" then some (.bytes U tu) else m z) →
      News h₀ L h (WL wa dx x (U ++ #[13, 10]) 0 rest) → KBw.bInts (U ++ #[13, 10]) = us ++ [13, 10] → dx ≠ wa → (∀ q ∈ rest, q.1 ≠ dx) → (∀ q ∈ rest, q.1 ≠ wa) → Q .next { s with heap := h, toks := tk }) →
    wpAny (model PySem.Challenge.rw_nz0327_01.row.prog w) (lawA L fa cb ck cd) (exec (lawSt 14) (lawE L fa cb ck cd)) Q (fun _ _ => False) s := by
  k_fill
  intro B F3 X N3 hU hul T hret
  dsimp only [lawSt, lawE, lawN, lawS, lawB, lawD]
  simp only [List.getD_cons_succ, List.getD_cons_zero]
  k_steps
  rename Fr _ _ _ _ => F11
  rename News _ _ _ _ => N11
  obtain ⟨x11, N12⟩ := wl_pack N11
  refine hret _ _ _ _ x11 F11 N12 (by assumption) (news_off N12 (.tail _ (.head _)) (.head _) (by show Value.type "dict" ≠ Value.ref 712; decide)) ?_ ?_
  · rename ∀ q ∈ rest, _ => hlt
    exact fun q hq => Nat.ne_of_lt (hlt q hq)
  · rename ∀ q ∈ rest, _ => hlt
    rename @LT.lt Nat _ _ _ => hlt2
    exact fun q hq => Nat.ne_of_lt (Nat.lt_trans (hlt q hq) hlt2)
end PartRP


theorem tidy_RQ : True := by
  w_top off
  trivial
section PartRQ
open PySem.Calls LCg
noncomputable def AdjOk (W : List Str) (i : Nat) : Prop := ∀ j, j < i → (W.getD j Str.empty == Str.ofString "REVERSE" && W.getD (j + 1) Str.empty == Str.ofString "REVERSE") = false
theorem getD_of {W : List Str} {i : Nat} {z : Str} (h : W[i]? = some z) : W.getD i Str.empty = z := by rw [List.getD_eq_getElem?_getD, h]; rfl
theorem adj_step {W : List Str} {i : Nat} {r r0 : Bool} (hr : r = true ↔ r0 = true ∧ AdjOk W i) (h : (W.getD i Str.empty == Str.ofString "REVERSE" && W.getD (i + 1) Str.empty == Str.ofString "REVERSE") = false) : r = true ↔ r0 = true ∧ AdjOk W (i + 1) := by
  rw [hr]
  refine ⟨fun ⟨a, b⟩ => ⟨a, fun j hj => ?_⟩, fun ⟨a, b⟩ => ⟨a, fun j hj => b j (Nat.lt_succ_of_lt hj)⟩⟩
  rcases Nat.lt_or_ge j i with z | z
  · exact b j z
  · rw [show j = i by omega]; exact h
theorem seg12 (w : World) (mean : ExcName → Option Value) (mg mb : Str → Option Value) (L fa cb ck so : Nat) (cd : Value) (SV : List Value) (WS : List Str) (k1 : Nat) (r0 : Bool) (rest : CbLed)
    (base h₀ : Heap) (s : Shared) (Q : Flow → Shared → Prop) (m : Str → Option Value) :
    Below callerA base [] h₀ → Fr h₀ L s.heap (fun z => if z = Str.ofString "is_right" then some (.bool r0) else if z = Str.ofString "some" then some (.ref so) else m z) → (hd.heap_1_1 w.params).In h₀ →
    News h₀ L s.heap ((so, listOf (List.toArray SV) k1) :: rest) → StrsAre SV WS → WS.length ≤ 5 →
    Top hd.view_1_2 (looseW hd.view_1_2 [Str.ofString "PostError", Str.ofString "CHARSETS"]) mean mg mb h₀ →
    (∀ (h : Heap) (tk : Nat) (mm : Str → Option Value) (r : Bool), Fr h₀ L h (fun z => if z = Str.ofString "is_right" then some (.bool r) else if z = Str.ofString "some" then some (.ref so) else mm z) →
      News h₀ L h ((so, listOf (List.toArray SV) k1) :: rest) → (r = true ↔ r0 = true ∧ AdjOk WS (WS.length - 1)) → (∀ y, y ≠ Str.ofString "is_right" → y ≠ Str.ofString "at" → y ≠ Str.ofString "some" → mm y = m y) → Q .next { s with heap := h, toks := tk }) →
    wpAny (model PySem.Challenge.rw_nz0327_01.row.prog w) (lawA L fa cb ck cd) (exec (lawSt 12) (lawE L fa cb ck cd)) Q (fun _ _ => False) s := by
  k_fill
  intro B F3 X N3 hS hl T hret
  dsimp only [lawSt, lawE, lawN, lawS, lawB, lawD]
  simp only [List.getD_cons_succ, List.getD_cons_zero]
  have hvl := strs_len hS
  refine For_rng (fun i m₁ news => ∃ (mm : Str → Option Value) (r : Bool), m₁ = (fun z => if z = Str.ofString "is_right" then some (.bool r) else if z = Str.ofString "some" then some (.ref so) else mm z) ∧ news = (so, listOf (List.toArray SV) k1) :: rest ∧ (r = true ↔ r0 = true ∧ AdjOk WS i) ∧ (∀ y, y ≠ Str.ofString "is_right" → y ≠ Str.ofString "at" → y ≠ Str.ofString "some" → mm y = m y)) 1 (WS.length - 1) F3 rfl rfl rfl ?_ (by intro _; rfl)
  k_steps
  refine Hold.mk ?_
  rename IsRange _ _ _ _ _ _ _ _ => hR
  rename Fr _ _ _ _ => F7
  rename News _ _ _ _ => N7
  refine in9 _ _ _ _ _ _ _ _ _ ⟨rfl, rfl, hR, small_one (by omega) (by omega) (by omega) (by omega), by rw [rangeSize_one]; split <;> omega, F7, N7, ⟨m, r0, rfl, rfl, ⟨fun h => ⟨h, fun j hj => absurd hj (Nat.not_lt_zero _)⟩, fun h => h.1⟩, fun _ _ _ _ => rfl⟩, ?_, ?_⟩
  · intro i ti m₁ news₁ h tk9 I oI hi hz0
    refine @ex2 _ _ _ _ hz0 fun mm r hz => @an4 _ _ _ _ _ hz fun ehzq1 ehzq2 hr hmm => ?_
    clear hz hz0
    subst ehzq1
    subst ehzq2
    intro hI F N
    have i1 : @Ne Nat so I := hI (so, _) (.head _)
    k_steps
    · rename (WS.getD (1 + (i : Int)).toNat _ == _) = true => q2
      rw [toN1 i] at q2
      rename (WS.getD (1 + (i : Int) - 1).toNat _ == _) = true => q1
      rw [toN0 i] at q1
      rename Fr _ _ _ _ => F8
      refine Hold.mk (in4 _ _ _ _ ⟨rfl, rfl, F8, by k_asm, hI, _, false, map2 _ _ _ _ _ rfl rfl, rfl, ?_, fun y h1 h2 h3 => by simp only [h1, h2, h3, if_false]; exact hmm y h1 h2 h3⟩)
      exact ⟨fun h => Bool.noConfusion h, fun h => absurd (h.2 i (Nat.lt_succ_self i)) (by rw [q1, q2]; decide)⟩
    · rename (WS.getD (1 + (i : Int)).toNat _ == _) = true => q2
      rw [toN1 i] at q2
      rename (WS.getD (1 + (i : Int) - 1).toNat _ == _) = false => q1
      rw [toN0 i] at q1
      rename Fr _ _ _ _ => F8
      refine Hold.mk (in4 _ _ _ _ ⟨rfl, rfl, F8, by k_asm, hI, _, r, map2 _ _ _ _ _ rfl rfl, rfl, ?_, fun y h1 h2 h3 => by simp only [h1, h2, h3, if_false]; exact hmm y h1 h2 h3⟩)
      exact adj_step hr (by rw [q1, Bool.false_and])
    · rename (WS.getD (1 + (i : Int)).toNat _ == _) = false => q2
      rw [toN1 i] at q2
      rename Fr _ _ _ _ => F8
      refine Hold.mk (in4 _ _ _ _ ⟨rfl, rfl, F8, by k_asm, hI, _, r, map2 _ _ _ _ _ rfl rfl, rfl, ?_, fun y h1 h2 h3 => by simp only [h1, h2, h3, if_false]; exact hmm y h1 h2 h3⟩)
      exact adj_step hr (by rw [q2, Bool.and_false])
  · intro h13 tk13 m13 news13 F13 N13 hz0
    refine @ex2 _ _ _ _ hz0 fun mm r hz => @an4 _ _ _ _ _ hz fun ehzq1 ehzq2 hr hmm => ?_
    clear hz hz0
    subst ehzq1
    subst ehzq2
    exact hret _ _ _ _ F13 N13 hr hmm
end PartRQ


theorem tidy_RR : True := by
  w_top off
  trivial
theorem shaped_list {ws : List Str} (h : ∀ W ∈ ws, PyData.strOk W = true) : SeqAt.shaped (.list (ws.map PyData.str)) = true := by
  have h1 : PyData.canLayAll0 (ws.map PyData.str) = true := by
    induction ws with
    | nil => rfl
    | cons a r ih =>
      have ha := h a (.head _)
      have hr := ih fun W hW => h W (.tail _ hW)
      simp [PyData.canLayAll0, PyData.canLay0, hr, ha]
  have h2 : PyData.depthAll (ws.map PyData.str) = 0 := by
    clear h h1
    induction ws with
    | nil => rfl
    | cons a r ih => simp [PyData.depthAll, PyData.depth, ih]
  simp [SeqAt.shaped, PyData.canLay0, PyData.depth, h1, h2]
theorem gap_ok (g : Nat) : PyData.strOk (gapS g) = true := by
  match g with
  | 0 => exact (by decide +kernel : PyData.strOk (Str.ofString " ") = true)
  | 1 => exact (by decide +kernel : PyData.strOk (Str.ofString "") = true)
  | g + 2 => exact (by decide +kernel : PyData.strOk (Str.ofString "  ") = true)
theorem gaps_eqv (g0 g1 g2 : Nat) : PyData.eqv (.list ([gapS g0, gapS g1, gapS g2].map PyData.str)) (.list ([gapS 0, gapS 0, gapS 0].map PyData.str)) = (g0 == 0 && g1 == 0 && g2 == 0) := by
  rcases g0 with _ | _ | g0 <;> rcases g1 with _ | _ | g1 <;> rcases g2 with _ | _ | g2 <;> rfl
section PartRR
open PySem.Calls LCg
theorem say_RR_0 : True := by
  k_with "compareOp Eq ref ref" => (k_here; refine Hold.out ?_)
  trivial
theorem seg13 (w : World) (mean : ExcName → Option Value) (mg mb : Str → Option Value) (L fa cb ck g : Nat) (cd : Value) (cs : Str) (ts : Tok) (r0 : Bool) (g0 g1 g2 : Nat) (t0 t1 t2 : Tok) (rest : CbLed)
    (base h₀ : Heap) (s : Shared) (Q : Flow → Shared → Prop) (m : Str → Option Value) :
    Below callerA base [] h₀ → Fr h₀ L s.heap (fun z => if z = Str.ofString "is_right" then some (.bool r0) else if z = Str.ofString "charset" then some (.str cs ts) else if z = Str.ofString "gaps" then some (.ref g) else m z) → (hd.heap_1_1 w.params).In h₀ →
    News h₀ L s.heap ((g, gapsO (gapS g0) (gapS g1) (gapS g2) t0 t1 t2 0) :: rest) →
    Top hd.view_1_2 (looseW hd.view_1_2 [Str.ofString "PostError", Str.ofString "CHARSETS"]) mean mg mb h₀ →
    (∀ (h : Heap) (tk : Nat) (r : Bool), Fr h₀ L h (fun z => if z = Str.ofString "is_right" then some (.bool r) else if z = Str.ofString "is_right" then some (.bool r0) else if z = Str.ofString "charset" then some (.str cs ts) else if z = Str.ofString "gaps" then some (.ref g) else m z) →
      News h₀ L h ((g, gapsO (gapS g0) (gapS g1) (gapS g2) t0 t1 t2 0) :: rest) → r = (r0 && (!([Str.ofString "KOI8-R", Str.ofString "x"].any fun x => x == cs) && (g0 == 0 && g1 == 0 && g2 == 0))) → Q .next { s with heap := h, toks := tk }) →
    wpAny (model PySem.Challenge.rw_nz0327_01.row.prog w) (lawA L fa cb ck cd) (exec (lawSt 13) (lawE L fa cb ck cd)) Q (fun _ _ => False) s := by
  k_fill
  intro B F3 X N3 T hret
  dsimp only [lawSt, lawE, lawN, lawS, lawB, lawD]
  simp only [List.getD_cons_succ, List.getD_cons_zero]
  k_steps
  · rename (List.any _ _) = true => q
    rename r0 = true => q0
    rename Fr _ _ _ _ => F11
    rename News _ _ _ _ => N11
    exact hret _ _ _ F11 (cb_tail N11) (by rw [q, q0]; rfl)
  · rename (List.any _ _) = false => q
    rename r0 = true => q0
    refine Hold.mk ?_
    rename News _ _ _ _ => N5
    refine eq_dataH (reads_list_at (News.get N5 (.tail _ (.tail _ (.head _)))) rfl rfl (strs_reads (ws := [gapS g0, gapS g1, gapS g2]) (by repeat (first | exact .nil | refine .cons _ _ ?_)))) (reads_list_at (News.get N5 (.head _)) rfl rfl (strs_reads (ws := [gapS 0, gapS 0, gapS 0]) (by repeat (first | exact .nil | refine .cons _ _ ?_)))) (shaped_list fun W hW => ?_) (shaped_list fun W hW => ?_) (by ke_room) ?_
    · simp only [List.mem_cons, List.not_mem_nil, or_false] at hW
      rcases hW with rfl | rfl | rfl <;> exact gap_ok _
    · simp only [List.mem_cons, List.not_mem_nil, or_false] at hW
      rcases hW with rfl | rfl | rfl <;> exact gap_ok 0
    rw [gaps_eqv]
    k_steps
    rename Fr _ _ _ _ => F11
    rename News _ _ _ _ => N11
    exact hret _ _ _ F11 (cb_tail (cb_tail N11)) (by rw [q, q0]; rfl)
  · rename r0 = false => q0
    rename Fr _ _ _ _ => F11
    rename News _ _ _ _ => N11
    exact hret _ _ _ F11 N11 (by rw [q0]; rfl)
end PartRR


theorem tidy_RS : True := by
  w_top off
  trivial
section PartRS0
open PySem.Calls Builtin LCg
variable {prog : Program} {w : World} {A : Around} {E : Value → Shared → Prop} {s : Shared} {h₀ : Heap} {L : Addr} {m : Str → Option Value} {env : Env}
/-- the turns of a comprehension with a test, the ledger left as it is -/
theorem rest_T {ct elt : PySem.Expr} {x : Str} {scope : Scope} {cl : List (Str × Addr)} {S : CbLed → Prop} {P : Nat → Value → Prop} {Fin : List Value → CbLed → Prop} {n : Nat} {news : CbLed} (K : Nat → List Value → Prop) (hS : S news) (k0 : K 0 [])
    (turn : ∀ (i : Nat) (v : Value) (I : Addr) (oI : Obj) (C : Addr) (oC : Obj) (D : Addr) (m₂ : Str → Option Value) (ys : List Value) (h : Heap) (tk : Nat) (E' : Value → Shared → Prop), i < n → P i v → K i ys → NsObj oC m₂ → m₂ x = some v → Fr h₀ L h m →
      News h₀ L h ((I, oI) :: (C, oC) :: (D, lst ys) :: news) → Off3 I C D news → ((@Ne Nat I C) ∧ (@Ne Nat I D) ∧ (@Ne Nat C D)) →
      wpAny (model prog w) A (isTrue ct (compEnvC scope cl C env) (eval ct (compEnvC scope cl C env))) (fun ok s' => if ok = true then
        wpAny (model prog w) A (eval elt (compEnvC scope cl C env)) (fun y s₂ => Hold (∃ (h' : Heap) (tk' : Nat), s₂ = { s with heap := h', toks := tk' } ∧ Fr h₀ L h' m ∧ News h₀ L h' ((I, oI) :: (C, oC) :: (D, lst ys) :: news) ∧ K (i + 1) (ys ++ [y]))) E' s'
        else Hold (∃ (h' : Heap) (tk' : Nat), s' = { s with heap := h', toks := tk' } ∧ Fr h₀ L h' m ∧ News h₀ L h' ((I, oI) :: (C, oC) :: (D, lst ys) :: news) ∧ K (i + 1) ys)) E' { s with heap := h, toks := tk })
    (fin : ∀ ys, K n ys → Fin ys news) : LCt.CompRestT prog w A h₀ L m env ct elt x scope cl s S P Fin n 0 [] news := by
  have key : ∀ (j i : Nat) (ys : List Value), i + j = n → K i ys → LCt.CompRestT prog w A h₀ L m env ct elt x scope cl s S P Fin j i ys news := by
    intro j
    induction j with
    | zero =>
      intro i ys hi hk
      have e : i = n := by omega
      subst e
      exact LCt.CompRestT.zero (fin ys hk)
    | succ j ih =>
      intro i ys hi hk
      refine LCt.CompRestT.succ ?_
      intro v I oI C oC D m₂ h tk E' hv hC hx F N off ne
      refine wpAny_mono (turn i v I oI C oC D m₂ ys h tk E' (by omega) hv hk hC hx F N off ne) (fun ok s₂ hq => ?_) fun _ _ e => e
      cases ok with
      | true =>
        simp only [if_true] at hq ⊢
        refine wpAny_mono hq (fun y s₃ h3 => ?_) fun _ _ e => e
        refine @ex2 _ _ _ _ (Hold.out h3) fun h' tk' hz => @an4 _ _ _ _ _ hz fun e F' N' hK => ?_
        clear hz
        exact ⟨h', tk', news, e, F', N', off, hS, ih (i + 1) _ (by omega) hK⟩
      | false =>
        simp only [Bool.false_eq_true, if_false] at hq ⊢
        refine @ex2 _ _ _ _ (Hold.out hq) fun h' tk' hz => @an4 _ _ _ _ _ hz fun e F' N' hK => ?_
        clear hz
        exact ⟨h', tk', news, e, F', N', off, hS, ih (i + 1) _ (by omega) hK⟩
  exact key n 0 [] (by omega) k0
end PartRS0
section PartRS
open PySem.Calls LCg
theorem say_RS_0 : True := by
  k_with "compareOp Eq ref ref" => (k_here; refine Hold.out ?_)
  trivial
noncomputable def badW (z : Str) : Bool := !(kn8.any fun x => x == z) && z != Str.ofString "REVERSE"
theorem filt_step {W : List Str} {i : Nat} {y : Str} (hy : W[i]? = some y) (b : Bool) (hb : badW y = b) : (W.take (i + 1)).filter badW = (W.take i).filter badW ++ (if b = true then [y] else []) := by
  rw [List.take_add_one, hy, List.filter_append]
  congr 1
  cases b <;> simp [hb]
theorem kn12_ok : ∀ z ∈ kn12, PyData.strOk z = true := by decide +kernel
theorem eqv_nil (W : List Str) : PyData.eqv (.list (W.map PyData.str)) (.list []) = W.isEmpty := by cases W <;> rfl
theorem idx_last {n k : Nat} (h : 0 < n) (e : k = n) : seqIndex? (-1) k = some (n - 1) := by
  subst e
  unfold seqIndex?
  have h1 : (0 ≤ (-1 : Int) + k && (-1 : Int) + k < k) = true := by simp; omega
  simp only [show (-1 : Int) < 0 from by decide, if_true]
  rw [if_pos (by simpa using h1)]
  congr 1
  omega
theorem seg11 (w : World) (mean : ExcName → Option Value) (mg mb : Str → Option Value) (L fa cb ck so kn : Nat) (cd : Value) (o2 : Obj) (SV KV : List Value) (WS : List Str) (k1 : Nat) (rest : CbLed)
    (base h₀ : Heap) (s : Shared) (Q : Flow → Shared → Prop) (m : Str → Option Value) :
    Below callerA base [] h₀ → Fr h₀ L s.heap (fun z => if z = Str.ofString "some" then some (.ref so) else m z) → (hd.heap_1_1 w.params).In h₀ →
    News h₀ L s.heap ((so, listOf (List.toArray SV) k1) :: (kn, listOf KV.toArray 0) :: (ck, o2) :: rest) → o2.data = .cell (some (.ref kn)) → StrsAre SV WS → StrsAre KV kn8 → (∀ z ∈ WS, z ∈ kn12) → WS.length ≤ 5 →
    Top hd.view_1_2 (looseW hd.view_1_2 [Str.ofString "PostError", Str.ofString "CHARSETS"]) mean mg mb h₀ →
    (∀ (h : Heap) (tk : Nat) (r : Bool), Fr h₀ L h (fun z => if z = Str.ofString "is_right" then some (.bool r) else if z = Str.ofString "some" then some (.ref so) else m z) →
      News h₀ L h ((so, listOf (List.toArray SV) k1) :: (kn, listOf KV.toArray 0) :: (ck, o2) :: rest) → r = (!WS.isEmpty && (WS.getD (WS.length - 1) Str.empty != Str.ofString "REVERSE" && (WS.filter badW).isEmpty)) → Q .next { s with heap := h, toks := tk }) →
    wpAny (model PySem.Challenge.rw_nz0327_01.row.prog w) (lawA L fa cb ck cd) (exec (lawSt 11) (lawE L fa cb ck cd)) Q (fun _ _ => False) s := by
  k_fill
  intro B F3 X N3 d2 hS hK hWm hl T hret
  dsimp only [lawSt, lawE, lawN, lawS, lawB, lawD]
  simp only [List.getD_cons_succ, List.getD_cons_zero]
  k_steps
  rename News _ _ _ _ => N5
  refine ne_dataH (reads_list_at (News.get N5 (.tail _ (.head _))) rfl rfl (strs_reads hS)) (reads_list_at (News.get N5 (.head _)) rfl rfl ReadsAll.nil) (shaped_list fun W hW => kn12_ok W (hWm W hW)) rfl (by ke_room) ?_
  rw [eqv_nil]
  k_steps
  · rename WS.isEmpty = true => he
    rename Fr _ _ _ _ => F11
    rename News _ _ _ _ => N11
    exact hret _ _ _ F11 (cb_tail N11) (by rw [he]; rfl)
  · refine Hold.mk ?_
    rename News _ _ _ _ => N6
    have hvl := strs_len hS
    rename WS.isEmpty = false => he
    have hpos : 0 < WS.length := by cases WS with | nil => cases he | cons a r => simp
    obtain ⟨z, tz, hz, hzy⟩ := strs_get hS (i := WS.length - 1) (by omega)
    refine kde_neg (j := WS.length - 1) (N6.isList (.tail _ (.head _))) (by decide) (by decide) (idx_last (by omega) hvl) hz ?_ (by with_unfolding_all rfl)
    k_steps
    · refine Hold.mk ?_
      rename Fr _ _ _ _ => F9
      rename News _ _ _ _ => N9
      k_dflt (refine LCt.ListComp_T (F₀ := F9) (by with_unfolding_all rfl) (by decide) (by rfl) (by decide) (by rfl) ?_)
      k_steps
      refine LCt.CompSrcT.ledger rfl F9 N9 (.tail _ (.head _)) (by rw [List.size_toArray, hvl, sizeLine_eq]; omega) fun g => ?_
      rename StrsAre SV WS => hS9
      refine rest_T (fun i ys => StrsAre ys ((WS.take i).filter badW)) (.inr ⟨_, .tail _ (.head _), rfl, _, rfl⟩) .nil ?_ ?_
      · rintro i v I oI C oC D m₂ ys h tk E' hi hv hk hC hx F N off ne
        obtain ⟨y, ty, hy, rfl⟩ := strs_at hS9 (by simpa using hv)
        (try simp only [LCg.Off3, and_true] at off)
        have hk9 := hk
        have hy9 := hy
        k_steps
        · rename (List.any _ _) = true => q
          rename Fr _ _ _ _ => F10
          rename News _ _ _ _ => N10
          refine Hold.mk ⟨_, _, rfl, F10, N10, ?_⟩
          rw [filt_step hy9 false (by rw [badW, q]; rfl)]
          simpa using hk9
        · rename (List.any _ _) = false => q
          rename (_ != _) = true => q2
          rename Fr _ _ _ _ => F10
          rename News _ _ _ _ => N10
          refine Hold.mk ⟨_, _, rfl, F10, N10, ?_⟩
          rw [filt_step hy9 true (by rw [badW, q, q2]; rfl)]
          exact strs_app hk9 (.cons _ _ .nil)
        · rename (List.any _ _) = false => q
          rename (_ != _) = false => q2
          rename Fr _ _ _ _ => F10
          rename News _ _ _ _ => N10
          refine Hold.mk ⟨_, _, rfl, F10, N10, ?_⟩
          rw [filt_step hy9 false (by rw [badW, q, q2]; rfl)]
          simpa using hk9
      · intro ys hk
        intro D h tk F N o1
        k_steps
        refine Hold.mk ?_
        rename News _ _ _ _ => N10
        have e9 : WS.take SV.toArray.size = WS := by rw [List.size_toArray, hvl, List.take_length]
        rw [e9] at hk
        rename (_ != _) = true => q2
        refine eq_dataH (reads_list_at (News.get N10 (.tail _ (.head _))) rfl rfl (strs_reads hk)) (reads_list_at (News.get N10 (.head _)) rfl rfl ReadsAll.nil) (shaped_list fun W hW => kn12_ok W (hWm W (List.mem_filter.mp hW).1)) rfl (by ke_room) ?_
        rw [eqv_nil]
        k_steps
        rename Fr _ _ _ _ => F11
        rename News _ _ _ _ => N11
        exact hret _ _ _ F11 (cb_tail (cb_tail (cb_tail N11))) (by rw [he, getD_of hzy, q2]; rfl)
    · rename (_ != _) = false => q2
      rename Fr _ _ _ _ => F11
      rename News _ _ _ _ => N11
      exact hret _ _ _ F11 (cb_tail N11) (by rw [he, getD_of hzy, q2]; rfl)
end PartRS


theorem tidy_RT : True := by
  w_top off
  trivial
section PartRT0
variable {M : Model} {A : Around} {E : Value → Shared → Prop} {s : Shared} {env : Env}
theorem wpS_tryStmt_except {body orelse : Sem Flow} {h₀ : ExceptHandler} {hs : List ExceptHandler} {Q : Flow → Shared → Prop}
    (h : wpS M A body (fun f s₁ => match f with | .next => wpS M A orelse Q E s₁ | f => Q f s₁)
      (fun e s₁ => wpAny M A (noteFrame e env) (fun _ s₂ => wpAny M A (setFlight e none) (fun _ s₃ => wpAny M A (handleBy e env (h₀ :: hs)) Q E s₃) E s₂) E s₁) s) :
    wpS M A (tryStmt false body (h₀ :: hs) orelse [] env) Q E s := by
  unfold tryStmt
  simp only [List.isEmpty_nil, if_true, List.isEmpty_cons, Bool.false_and, Bool.false_eq_true, if_false]
  refine wpS_bind (wpS_attempt (wpS_mono h (fun f s₁ h₁ => ?_) fun e s₁ h₁ => ?_))
  · cases f <;> first | exact h₁ | exact wpS_pure h₁
  · exact wpS_of (wpAny_bind (wpAny_mono h₁ (fun _ _ h₂ => wpAny_bind h₂) fun _ _ x => x))
theorem wpS_Try_except {prog : Program} {w : World} {body orelse : List Stmt} {h₀ : ExceptHandler} {hs : List ExceptHandler} {pos : Pos} {Q : Flow → Shared → Prop}
    (h : wpS (model prog w) A (execs body env) (fun f s₁ => match f with | .next => wpS (model prog w) A (execs orelse env) Q E s₁ | f => Q f s₁)
      (fun e s₁ => wpAny (model prog w) A (noteFrame e env) (fun _ s₂ => wpAny (model prog w) A (setFlight e none) (fun _ s₃ => wpAny (model prog w) A (handleBy e env (h₀ :: hs)) Q E s₃) E s₂) E s₁) s) :
    wpS (model prog w) A (exec (.Try body (h₀ :: hs) orelse [] pos) env) Q E s := by
  rw [arm_exec_Try]
  exact wpS_first (wpAny_standAt (wpS_tryStmt_except h))
end PartRT0
section PartRT1
open PySem.Calls Builtin
variable {M : Model} {A : Around} {E : Value → Shared → Prop}
variable {nm q nm' q' : Str} {C N P N' : Addr} {bs bm bs' bm' : List Value} {hdct hdct' : Bool} {sn sn' : List Str} {sub sub' : List Value} {ab ab' : Bool} {col col' : Option Bool} {dd dd' : Option Addr} {k0 k1 k2 k3 k5 j0 j1 j2 j3 j5 : Option Value} {newId newId' : String}
/-- a clause that names a base of the raised class -/
theorem excMatches_up {h : Heap} {g : Array GenState} {d : Drawn} {t : Nat} {os : OsState} {e : Addr} {oe : Obj} {Q : Bool → Shared → Prop}
    (hC : h.get? C = some (excClassObj nm q C N bs bm hdct sn sub ab col dd k0 k1 k2 k3 k5 newId)) (hP : h.get? P = some (excClassObj nm' q' P N' bs' bm' hdct' sn' sub' ab' col' dd' j0 j1 j2 j3 j5 newId')) (he : h.get? e = some oe) (hcls : oe.cls = .ref C)
    (hbase : bm'.contains (.type "BaseException") = true) (hin : bm.contains (.ref P) = true)
    (hq : Q true ⟨h, g, d, t, os⟩) : wpAny M A (excMatches (.ref e) (.ref P)) Q E ⟨h, g, d, t, os⟩ := by
  have hcB : (Value.ref P :: bm').contains (.type "BaseException") = true := by rw [List.contains_cons, hbase, Bool.or_true]
  have hcC : (Value.ref C :: bm).contains (.ref P) = true := by rw [List.contains_cons, hin, Bool.or_true]
  have f := tc_notTuple
  unfold excMatches
  repeat (first | (with_reducible refine wpAny_loadPart_at he ?_; rw [hcls]) | with_reducible refine wpAny_loadPart_at hP ?_ | (with_reducible refine wpAny_isSubtype_exc hP ?_; rw [hcB]) | (with_reducible refine wpAny_isSubtype_exc hC ?_; rw [hcC]) | wp_step)
  exact hq
theorem exP46 (w : World) : ∃ nm q N bs hdct sn sub ab col dd k0 k1 k2 k3 k5, (hd.heap_1_1 w.params).lookup 46 = some (excClassObj nm q 46 N bs [.type "Exception", .type "BaseException", .type "object"] hdct sn sub ab col dd k0 k1 k2 k3 k5 "Exception.__new__") :=
  ⟨_, _, _, _, _, _, _, _, _, _, _, _, _, _, _, rfl⟩
/-- a fault of the package, caught by its base's name -/
theorem caught_P {w : World} {prog : Program} {A₀ : Around} {E : Value → Shared → Prop} {s' : Shared} {h₀ h : Heap} {outer : List Env} {L a e t : Addr} {m : Str → Option Value} {name : Str} {scope : Scope} {cd : Value} {cl : List (Str × Addr)}
    {vs : List Value} {b₀ : Stmt} {suite : List Stmt} {pos np : Pos} {rest : List ExceptHandler} {Q : Flow → Shared → Prop} {news : List (Addr × Obj)} {C : Addr}
    {p : Program} {loose : List Str} {mg mb : Str → Option Value} {x : Str}
    (K : Below A₀ h₀ outer h₀) (F : Fr h₀ L h m) (hsm : h.UpToSlots s'.heap) (R : RaisedK h₀ (envX name scope L a cd cl :: outer) e (.ref C) t vs news s'.heap)
    (X : (hd.heap_1_1 w.params).In h₀) (T : TopRead p loose mg mb h₀) (ex : nsIn (hd.heap_1_1 w.params) mainGlobals x = some (some (.ref 46))) (hC : ExC w C)
    (k : ∀ h', Fr h₀ L h' m →
      wpAny (model prog w) ((A₀.deeper (envX name scope L a cd cl)).mark (some (.ref e))) (execs (b₀ :: suite) (envX name scope L a cd cl)) Q (fun _ _ => False) { s' with heap := h' })
    (hk : scope.kind = .function := by rfl) (hx : (envX name scope L a cd cl).kindOf x = some .globalImplicit := by rfl) (hd : (x == ("__debug__" : Str)) = false := by decide) :
    wpAny (model prog w) (A₀.deeper (envX name scope L a cd cl)) (noteFrame (.ref e) (envX name scope L a cd cl))
      (fun _ s₂ => wpAny (model prog w) (A₀.deeper (envX name scope L a cd cl)) (setFlight (.ref e) none) (fun _ s₃ =>
        wpAny (model prog w) (A₀.deeper (envX name scope L a cd cl)) (handleBy (.ref e) (envX name scope L a cd cl) (.ExceptHandler (some (.Name x np)) none (b₀ :: suite) pos :: rest)) Q E s₃) E s₂) E s' := by
  obtain ⟨⟨B, hB, hl, hfl, hnew⟩, htup⟩ := R
  refine wpAny_looks_onW (Around.frames_deeper K.stack) rfl hfl fun h₄ hheld₄ hsm₄ => ?_
  refine wpAny_landsW hheld₄ fun h₅ hheld hsm₅' => ?_
  have hsm₅ := hsm₄.trans hsm₅'
  have hheld' := flyingW_base hB hheld
  have F₅ := F.of_stays hheld'.1 (hsm.trans hsm₅)
  obtain ⟨ob, hob, hobc⟩ := hheld'.there
  refine wpAny_handleBy_cons (codeAny_handlers_test (nameX_K F₅ X T ex ?_ hk hx hd)) (by intro q; cases q)
  refine @ex8 _ _ _ _ _ _ _ _ _ _ hC.lk fun nm q NC bs sn sub ab col hz => @ex6 _ _ _ _ _ _ _ _ hz fun dd k0 k1 k2 k3 k5 hlk => ?_
  clear hz
  refine @ex8 _ _ _ _ _ _ _ _ _ _ (exP46 w) fun nm' q' NC' bs' hdct' sn' sub' ab' hz => @ex7 _ _ _ _ _ _ _ _ _ hz fun col' dd' j0 j1 j2 j3 j5 hlk' => ?_
  clear hz
  refine excMatches_up (F₅.keep _ _ (X _ _ hlk)) (F₅.keep _ _ (X _ _ hlk')) hob hobc rfl rfl (codeAny_handlers_suite ?_)
  refine lands_againW hheld fun h₆ hfl₆ hsm₆ => ?_
  have hfl₆' := flyingW_base hB hfl₆
  have F₆ := F.of_stays hfl₆'.1 ((hsm.trans hsm₅).trans hsm₆)
  exact wpAny_mono (k h₆ F₆) (fun _ _ x => x) fun _ _ x => x.elim
end PartRT1
section PartRT
open PySem.Calls LCg
theorem seg15 (w : World) (mean : ExcName → Option Value) (mg mb : Str → Option Value) (L fa cb ck wa dx : Nat) (cd : Value) (x : WTok) (D : Array UInt8) (zs : List (List Int)) (g0 g1 g2 i k : Nat) (r0 : Bool) (rest : CbLed)
    (h₀ : Heap) (s : Shared) (Q : Flow → Shared → Prop) (m : Str → Option Value) (hne : dx ≠ wa) (hr : ∀ q ∈ rest, q.1 ≠ dx) :
    Below callerA h₀ [] h₀ → Fr h₀ L s.heap (fun z => if z = Str.ofString "wire" then some (.ref wa) else if z = Str.ofString "is_right" then some (.bool r0) else m z) → (hd.heap_1_1 w.params).In h₀ →
    News h₀ L s.heap (WL wa dx x D 0 rest) → KBw.bInts D = ksOf zs g0 g1 g2 i k → (ksOf zs g0 g1 g2 i k).length ≤ 10000 → (∀ z ∈ zs, z ≠ [] ∧ ∀ c ∈ z, isAtomB c = true) → zs.length ≤ 100 →
    Top hd.view_1_2 (looseW hd.view_1_2 [Str.ofString "PostError", Str.ofString "CHARSETS"]) mean mg mb h₀ →
    (∀ (h : Heap) (tk : Nat) (r : Value) (nx : CbLed), Fr h₀ L h (fun z => if z = Str.ofString "found" then some r else if z = Str.ofString "wire" then some (.ref wa) else if z = Str.ofString "is_right" then some (.bool r0) else m z) →
      News h₀ L h nx → SortP zs g0 g1 g2 i k wa dx D rest r nx → Q .next { s with heap := h, toks := tk }) →
    (∀ (h : Heap) (tk : Nat), Fr h₀ L h (fun z => if z = Str.ofString "wire" then some (.ref wa) else if z = Str.ofString "is_right" then some (.bool r0) else m z) → ¬ Good zs g0 g1 g2 i → Q (.ret (.bool (!r0))) { s with heap := h, toks := tk }) →
    wpS (model PySem.Challenge.rw_nz0327_01.row.prog w) (lawA L fa cb ck cd) (exec (lawSt 15) (lawE L fa cb ck cd)) Q (fun _ _ => False) s := by
  k_fill
  intro B F3 X N3 hD hlen hus hql T hret hbad
  dsimp only [lawSt, lawE, lawN, lawS, lawB, lawD]
  simp only [List.getD_cons_succ, List.getD_cons_zero]
  refine wpS_Try_except ?_
  refine wpS_execs_cons (wpS_Assign_Name ?_ rfl)
  refine wpS_Call_Name ?_
  k_steps
  have h6 : ∃ o fd, (hd.heap_1_1 w.params).lookup 450 = some o ∧ o.data = .func fd := ⟨_, _, rfl, rfl⟩
  obtain ⟨o6, fd6, l6, d6⟩ := h6
  refine wpS_callWith_funH (a := 450) (o := o6) (fd := fd6) rfl (wpS_spliced1 (wpS_of ?_))
  rw [if_neg (by decide)]
  k_steps
  rename Fr _ _ _ _ => F15
  refine Hold.mk ⟨⟨((by k_asm : (hd.heap_1_1 w.params).In _).keeps F15.keep) _ _ l6, d6⟩, ?_⟩
  k_dflt (refine' sctr_useR (sort_all w mean mg mb rest wa dx x D zs g0 g1 g2 i k hne hr hD hlen hus hql) ?j1 ?j2 ?j3 ?j4 ?j5 ?jK ?jd ?ju ?_ ?re2)
  case j2 => k_asm
  case j4 => k_asm
  case j1 => k_asm
  case j3 => k_asm
  case j5 => k_asm
  case jK => first | exact rfl | assumption
  case jd => ktr_room
  case ju => ktr_units
  case re2 =>
    intro e' t' vs' C' lg' h' tk' g' R0 F' R' U' c'
    (try dsimp only)
    have hexc : ExC w C' := by
      rcases c' with rfl | rfl
      · exact exC95 w
      · exact exC119 w
    refine caught_P (K := B) F' U' R' X (by k_asm) (by k_is) hexc fun h9 F9 => ?_
    k_steps
    exact hbad h9 _ F9 R0
  intro r9 n9 h9 tk9 F9 N9 P9
  (try dsimp only)
  (try k_fold)
  k_steps
  refine wpS_nil (wpS_nil ?_)
  rename Fr _ _ _ _ => F10
  rename News _ _ _ n9 => N10
  exact hret _ _ _ _ F10 N10 P9
end PartRT


theorem tidy_RU : True := by
  w_top off
  trivial
section PartRU
open PySem.Calls LCg
theorem say_RU_0 : True := by
  k_with "call ref" => (k_here; (with_reducible show wpAny _ _ (call (Value.ref 730) _) _ _ _); refine Hold.out ?_)
  trivial
theorem seg0 (w : World) (mean : ExcName → Option Value) (mg mb : Str → Option Value) (L fa cb ck sc : Nat) (cd : Value) (ob ok : Obj) (vs : List Value) (ns : List Int) (hvs : IntsAre vs ns) (hl : ns.length ≤ 63) (hl2 : vs.toArray.size ≤ sizeLine)
    (base h₀ : Heap) (s : Shared) (Q : Flow → Shared → Prop) (m : Str → Option Value) :
    Below callerA base [] h₀ → Fr h₀ L s.heap (fun y => if y = Str.ofString "script" then some (.ref sc) else m y) → (hd.heap_1_1 w.params).In h₀ → News h₀ L s.heap [(cb, ob), (ck, ok)] → ob.data = .cell none → ok.data = .cell none → cb < ck → h₀.IsList sc vs.toArray →
    Top hd.view_1_2 (looseW hd.view_1_2 [Str.ofString "PostError", Str.ofString "CHARSETS"]) mean mg mb h₀ →
    (∀ (h : Heap) (tk b : Nat) (n : Int) (t : Tok) (k : Nat) (o1 : Obj), Fr h₀ L h (fun y => if y = Str.ofString "script" then some (.ref sc) else m y) → News h₀ L h [(b, bagO n t k), (cb, o1), (ck, ok)] → o1.data = .cell (some (.ref b)) → cb ≠ b → ck ≠ b → 0 ≤ n → Q .next { s with heap := h, toks := tk }) →
    wpAny (model PySem.Challenge.rw_nz0327_01.row.prog w) (lawA L fa cb ck cd) (exec (lawSt 0) (lawE L fa cb ck cd)) Q (fun _ _ => False) s := by
  k_fill
  intro B F X N d1 d2 hck hsc T hret
  dsimp only [lawSt, lawE, lawN, lawS, lawB, lawD]
  simp only [List.getD_cons_zero]
  k_steps
  refine Hold.mk ?_
  k_dflt (refine' bag_c w mean mg mb _ sc vs ns hvs hl hl2 _ _ _ _ _ _ _ _ _ _ _ _ _ _ _ _ _ B ?kF X ?kN hsc T rfl ?kd ?ku ?_)
  case kF => k_asm
  case kN => k_asm
  case kd => ktr_room
  case ku => ktr_units
  intro b n t k h1 tk1 F1 N1 hn hb1
  have e1 : @Ne Nat cb b := hb1 (cb, ob) (.head _)
  have e2 : @Ne Nat ck b := hb1 (ck, ok) (.tail _ (.head _))
  (try dsimp only)
  k_steps
  rename Fr _ _ _ _ => F3
  rename News _ _ _ _ => N3
  exact hret _ _ _ _ _ _ _ F3 N3 (by assumption) e1 e2 hn
theorem seg1 (w : World) (mean : ExcName → Option Value) (mg mb : Str → Option Value) (L fa cb ck b : Nat) (cd : Value) (o1 ok : Obj) (n : Int) (t : Tok) (k : Nat)
    (base h₀ : Heap) (s : Shared) (Q : Flow → Shared → Prop) (m : Str → Option Value) :
    Below callerA base [] h₀ → Fr h₀ L s.heap m → (hd.heap_1_1 w.params).In h₀ → News h₀ L s.heap [(b, bagO n t k), (cb, o1), (ck, ok)] → ok.data = .cell none → cb < ck → cb ≠ b → ck ≠ b →
    Top hd.view_1_2 (looseW hd.view_1_2 [Str.ofString "PostError", Str.ofString "CHARSETS"]) mean mg mb h₀ →
    (∀ (h : Heap) (tk kn : Nat) (KV : List Value) (o2 : Obj), Fr h₀ L h m → News h₀ L h [(kn, listOf KV.toArray 0), (b, bagO n t k), (cb, o1), (ck, o2)] → o2.data = .cell (some (.ref kn)) → StrsAre KV kn8 → b < kn → cb < kn → ck < kn → Q .next { s with heap := h, toks := tk }) →
    wpAny (model PySem.Challenge.rw_nz0327_01.row.prog w) (lawA L fa cb ck cd) (exec (lawSt 1) (lawE L fa cb ck cd)) Q (fun _ _ => False) s := by
  k_fill
  intro B F X N d2 hck c1 c2 T hret
  dsimp only [lawSt, lawE, lawN, lawS, lawB, lawD]
  simp only [List.getD_cons_succ, List.getD_cons_zero]
  k_steps
  rename Fr _ _ _ _ => F3
  rename News _ _ _ _ => N3
  rename StrsAre _ _ => a3
  rename (@LT.lt Nat _ b _ ∧ _ ∧ _) => l3
  exact hret _ _ _ _ _ F3 N3 (by assumption) (kn8_of a3 rfl) l3.1 l3.2.1 l3.2.2
theorem seg2 (w : World) (mean : ExcName → Option Value) (mg mb : Str → Option Value) (L fa cb ck : Nat) (cd : Value) (rest : CbLed)
    (base h₀ : Heap) (s : Shared) (Q : Flow → Shared → Prop) (m : Str → Option Value) :
    Below callerA base [] h₀ → Fr h₀ L s.heap m → (hd.heap_1_1 w.params).In h₀ → News h₀ L s.heap rest →
    Top hd.view_1_2 (looseW hd.view_1_2 [Str.ofString "PostError", Str.ofString "CHARSETS"]) mean mg mb h₀ →
    (∀ (h : Heap) (tk so : Nat), Fr h₀ L h (fun y => if y = Str.ofString "some" then some (.ref so) else m y) → News h₀ L h ((so, listOf #[] 0) :: rest) → (∀ q ∈ rest, @LT.lt Nat _ q.1 so) → Q .next { s with heap := h, toks := tk }) →
    wpAny (model PySem.Challenge.rw_nz0327_01.row.prog w) (lawA L fa cb ck cd) (exec (lawSt 2) (lawE L fa cb ck cd)) Q (fun _ _ => False) s := by
  k_fill
  intro B F X N T hret
  dsimp only [lawSt, lawE, lawN, lawS, lawB, lawD]
  simp only [List.getD_cons_succ, List.getD_cons_zero]
  k_steps
  rename Fr _ _ _ _ => F3
  rename News _ _ _ _ => N3
  rename ∀ q ∈ rest, _ => l3
  exact hret _ _ _ F3 N3 l3
end PartRU


theorem tidy_RV : True := by
  w_top off
  trivial
section PartRV0
open PyData
noncomputable def treeD : Nat → PyData
  | 0 => .tuple [.str (Str.ofString "flag"), .str ⟨#[92, 83, 101, 101, 110]⟩]
  | 1 => .tuple [.str (Str.ofString "all")]
  | _ => .tuple [.str (Str.ofString "seq"), .tuple [.tuple [.int 1, .int 2]]]
theorem keyLed_ref {k : Nat} {r : Value} {own : CbLed} (h : KeyLed k r own) : ∃ T, r = .ref T := by
  unfold KeyLed at h
  split at h
  · obtain ⟨T, _, _, rfl, _⟩ := h; exact ⟨T, rfl⟩
  · obtain ⟨T, _, rfl, _⟩ := h; exact ⟨T, rfl⟩
  · obtain ⟨T, _, _, _, _, _, rfl, _⟩ := h; exact ⟨T, rfl⟩
theorem keyLed_reads {k : Nat} {r : Value} {own : CbLed} {hp : Heap} (h : KeyLed k r own) (g : ∀ q ∈ own, hp.get? q.1 = some q.2) : Reads hp r (treeD k) [] := by
  unfold KeyLed at h
  split at h
  · obtain ⟨T, t1, t2, rfl, rfl⟩ := h
    exact reads_tuple_at (as := []) (g _ (.head _)) rfl rfl (.cons (.str _ _) (.cons (.str _ _) .nil))
  · obtain ⟨T, t1, rfl, rfl⟩ := h
    exact reads_tuple_at (as := []) (g _ (.head _)) rfl rfl (.cons (.str _ _) .nil)
  · rename_i kk x1 x2 h1 h2
    obtain ⟨T, T1, T2, t, t1, t2, rfl, rfl⟩ := h
    have e : treeD k = .tuple [.str (Str.ofString "seq"), .tuple [.tuple [.int 1, .int 2]]] := by
      match k, h1, h2 with
      | 0, h1, _ => exact (h1 rfl).elim
      | 1, _, h2 => exact (h2 rfl).elim
      | k + 2, _, _ => rfl
    rw [e]
    have r1 : Reads hp (.ref T1) (.tuple [.int 1, .int 2]) [] := reads_tuple_at (as := []) (g (T1, _) (.tail _ (.tail _ (.head _)))) rfl rfl (.cons (.int _ _) (.cons (.int _ _) .nil))
    have r2 : Reads hp (.ref T2) (.tuple [.tuple [.int 1, .int 2]]) [] := reads_tuple_at (as := []) (g (T2, _) (.tail _ (.head _))) rfl rfl (.cons r1 .nil)
    exact reads_tuple_at (as := []) (g (T, _) (.head _)) rfl rfl (.cons (.str _ _) (.cons r2 .nil))
theorem flat_nil {α β : Type} (l : List α) : List.flatten (l.map fun _ => ([] : List β)) = [] := by induction l with | nil => rfl | cons a r ih => simpa using ih
theorem found_reads {k l : Nat} {vs : List Value} {WS : List Str} {r : Value} {own : CbLed} {hp : Heap} {lr : Nat} (hK : KeyLed k r own) (hS : StrsAre vs WS) (g : ∀ q ∈ own, hp.get? q.1 = some q.2) (hl : hp.get? l = some (tupObj vs)) (hlr : hp.get? lr = some (tupObj [.ref l, r])) :
    Reads hp (.ref lr) (.tuple [.tuple (WS.map PyData.str), treeD k]) [] := by
  have r1 : Reads hp (.ref l) (.tuple (WS.map PyData.str)) [] := by
    have := reads_tuple_at (h := hp) hl rfl rfl (strs_reads hS)
    rw [flat_nil] at this
    exact this
  exact reads_tuple_at (as := []) hlr rfl rfl (.cons r1 (.cons (keyLed_reads hK g) .nil))
theorem treeD_ok (k : Nat) : (treeD k).canLay0 = true ∧ (treeD k).depth ≤ 3 := by
  match k with
  | 0 => exact ⟨by decide +kernel, by decide +kernel⟩
  | 1 => exact ⟨by decide +kernel, by decide +kernel⟩
  | k + 2 => exact ⟨by show PyData.canLay0 (.tuple [.str (Str.ofString "seq"), .tuple [.tuple [.int 1, .int 2]]]) = true; decide +kernel, by show PyData.depth (.tuple [.str (Str.ofString "seq"), .tuple [.tuple [.int 1, .int 2]]]) ≤ 3; decide +kernel⟩
theorem depth_strs (WS : List Str) : PyData.depthAll (WS.map PyData.str) = 0 := by
  induction WS with
  | nil => rfl
  | cons a r ih => simp [PyData.depthAll, PyData.depth, ih]
theorem found_shaped (k : Nat) {WS : List Str} (hW : ∀ W ∈ WS, PyData.strOk W = true) : SeqAt.shaped (.tuple [.tuple (WS.map PyData.str), treeD k]) = true := by
  have h1 := shaped_strs hW
  obtain ⟨h2, h3⟩ := treeD_ok k
  obtain ⟨h1, h4⟩ := Bool.and_eq_true_iff.mp h1
  have h4 := of_decide_eq_true h4
  have h5 : PyData.depth (.tuple (WS.map PyData.str)) ≤ 1 := by
    simp [PyData.depth, depth_strs]
  refine Bool.and_eq_true_iff.mpr ⟨?_, decide_eq_true ?_⟩
  · simp only [PyData.canLay0, PyData.canLayAll0, Bool.and_true] at h1 ⊢
    rw [h1, h2]; rfl
  · simp only [PyData.depth, PyData.depthAll] at h5 ⊢
    omega
theorem found_eqv (k : Nat) {WS : List Str} (hW : ∀ W ∈ WS, PyData.strOk W = true) : PyData.eqv (.tuple [.tuple (WS.map PyData.str), treeD k]) (.tuple [.tuple (WS.map PyData.str), treeD k]) = true := by
  have h := found_shaped k hW
  refine SeqAt.eqv_refl _ ?_
  exact (Bool.and_eq_true_iff.mp h).1
end PartRV0
section PartRV
open PySem.Calls LCg
theorem say_RV_0 : True := by
  k_with "compareOp Eq ref ref" => (k_here; refine Hold.out ?_)
  k_with "call type:tuple" => (k_here; refine Hold.out ?_)
  trivial
theorem seg16 (w : World) (mean : ExcName → Option Value) (mg mb : Str → Option Value) (L fa cb ck wa dx lr l so k k1 : Nat) (cd tr r' : Value) (x : WTok) (D U : Array UInt8) (tu : Tok) (pe : Int) (SV vs : List Value) (WS : List Str) (own own2 rest : CbLed)
    (h₀ : Heap) (s : Shared) (Q : Flow → Shared → Prop) (m : Str → Option Value) :
    Below callerA h₀ [] h₀ → Fr h₀ L s.heap (fun z => if z = Str.ofString "found" then some (.ref lr) else if z = Str.ofString "wire" then some (.ref wa) else if z = Str.ofString "is_right" then some (.bool true) else if z = Str.ofString "some" then some (.ref so) else if z = Str.ofString "tree" then some tr else if z = Str.ofString "octets" then some (.bytes U tu) else m z) → (hd.heap_1_1 w.params).In h₀ →
    News h₀ L s.heap (WL wa dx x D pe ((lr, tupObj [.ref l, r']) :: (l, tupObj vs) :: (so, listOf (List.toArray SV) k1) :: rest)) → (∀ q ∈ own, q ∈ rest) → (∀ q ∈ own2, q ∈ rest) → KeyLed k r' own → KeyLed k tr own2 → StrsAre vs WS → StrsAre SV WS → (∀ z ∈ WS, z ∈ kn12) → WS.length ≤ 5 →
    pe = (U.size : Int) → U.size ≤ 1000 → dx ≠ wa →
    Top hd.view_1_2 (looseW hd.view_1_2 [Str.ofString "PostError", Str.ofString "CHARSETS"]) mean mg mb h₀ →
    (∀ (h : Heap) (tk : Nat) (mm : Str → Option Value), Fr h₀ L h mm → Q (.ret (.bool true)) { s with heap := h, toks := tk }) →
    wpAny (model PySem.Challenge.rw_nz0327_01.row.prog w) (lawA L fa cb ck cd) (exec (lawSt 16) (lawE L fa cb ck cd)) Q (fun _ _ => False) s := by
  k_fill
  intro B F3 X N3 ho ho2 hK hK2 hS hS2 hWm hWl hpe hU hne T hret
  obtain ⟨T2, rfl⟩ := keyLed_ref hK2
  dsimp only [lawSt, lawE, lawN, lawS, lawB, lawD]
  simp only [List.getD_cons_succ, List.getD_cons_zero]
  have hvl := strs_len hS2
  k_steps
  refine Hold.mk ?_
  rename Fr _ _ _ _ => F4
  rename News _ _ _ _ => N4
  refine kde_tupleOf (zs := SV) F4 N4 (N4.isList (.tail _ (.tail _ (.tail _ (.tail _ (.head _)))))) (by rw [List.size_toArray, hvl]; omega) rfl (fun D5 h5 F5 N5 l5 => ?_)
  (try k_lt l5)
  k_steps
  refine Hold.mk ?_
  rename News _ _ _ _ => N6
  have hok : ∀ W ∈ WS, PyData.strOk W = true := fun W hW => kn12_ok W (hWm W hW)
  refine eq_dataH (found_reads hK hS (fun q hq => N6.get (.tail _ (.tail _ (.tail _ (.tail _ (.tail _ (.tail _ (.tail _ (ho q hq))))))))) (N6.get (.tail _ (.tail _ (.tail _ (.tail _ (.tail _ (.head _))))))) (N6.get (.tail _ (.tail _ (.tail _ (.tail _ (.head _))))))) (found_reads hK2 hS2 (fun q hq => N6.get (.tail _ (.tail _ (.tail _ (.tail _ (.tail _ (.tail _ (.tail _ (ho2 q hq))))))))) (N6.get (.tail _ (.head _))) (N6.get (.head _))) (found_shaped k hok) (found_shaped k hok) (by ke_room) ?_
  rw [found_eqv k hok]
  k_steps
  rename Fr _ _ _ _ => F11
  have ee : (pe == (U.size : Int)) = true := by rw [hpe]; exact beq_self_eq_true _
  rw [ee]
  exact hret _ _ _ F11
end PartRV


theorem tidy_RW : True := by
  w_top off
  trivial
section PartRW
/-- the octets of a text -/
noncomputable def iS (s : Str) : List Int := s.cps.toList.map fun (c : Nat) => Int.ofNat c
theorem iS_app (a b : Str) : iS (a ++ b) = iS a ++ iS b := by simp [iS, Str.cps_append]
theorem iS_len (s : Str) : (iS s).length = s.length := by simp [iS]; rfl
theorem iS_empty : iS Str.empty = [] := rfl
theorem sp_one : iS (Str.ofString " ") = [32] := by decide +kernel
theorem iS_sjoin : ∀ YS : List Str, iS (Str.join (Str.ofString " ") YS) = encW (YS.map iS)
  | [] => rfl
  | [x] => by simp [Str.join, encW, tailW]
  | x :: y :: r => by
    have ih := iS_sjoin (y :: r)
    rw [Str.join, iS_app, iS_app, sp_one, ih]
    · simp [encW, tailW]
    · exact fun h => nomatch h
theorem iS_join (YS : List Str) : iS (Txt.join (Str.ofString " ") YS) = encW (YS.map iS) := by
  have e : Txt.join (Str.ofString " ") YS = Str.join (Str.ofString " ") YS := StrLaws.glued_eq_join _ _
  rw [e, iS_sjoin]
theorem bInts_of {s : Str} (h : ∀ c ∈ s.cps.toList, c < 128) : KBw.bInts (s.cps.map Nat.toUInt8) = iS s := by
  unfold KBw.bInts iS
  rw [Array.toList_map, List.map_map]
  refine List.map_congr_left fun c hc => ?_
  have := h c hc
  show ((UInt8.ofNat c).toNat : Int) = (c : Int)
  rw [UInt8.toNat_ofNat']
  omega
theorem asc_of {s : Str} (h : ∀ c ∈ iS s, c < 128) : ∀ c ∈ s.cps.toList, c < 128 := fun c hc => by
  have h9 := h (Int.ofNat c) (List.mem_map_of_mem hc)
  have h8 : ((c : Nat) : Int) < 128 := h9
  omega
/-- a word and how it is spelled -/
noncomputable def SpL : List Str → List Str → Prop
  | [], [] => True
  | y :: ys, z :: zs => (y = z ∨ y = Txt.lower z) ∧ SpL ys zs
  | _, _ => False
theorem spelled_of : ∀ {ys : List Value} {WS : List Str}, ys.length = WS.length → (∀ (i : Nat) (y : Value), ys[i]? = some y → ∃ z t, WS[i]? = some z ∧ (y = .str z t ∨ y = .str (Txt.lower z) t)) → ∃ YS, StrsAre ys YS ∧ SpL YS WS
  | [], [], _, _ => ⟨[], .nil, trivial⟩
  | [], _ :: _, hl, _ => by simp at hl
  | _ :: _, [], hl, _ => by simp at hl
  | y :: ys, z :: zs, hl, h => by
    obtain ⟨YS, h1, h2⟩ := spelled_of (ys := ys) (WS := zs) (by simpa using hl) fun i v hv => h (i + 1) v (by simpa using hv)
    obtain ⟨z', t, hz, hy⟩ := h 0 y rfl
    obtain rfl : z = z' := by simpa using hz
    rcases hy with rfl | rfl
    · exact ⟨_ :: YS, .cons _ _ h1, .inl rfl, h2⟩
    · exact ⟨_ :: YS, .cons _ _ h1, .inr rfl, h2⟩
noncomputable def WordOk (z y : Str) : Bool := upS (strOf (iS y)) == z && !(iS y).isEmpty && (iS y).all isAtomB && decide (y.length ≤ 11) && (iS y).all fun c => decide (c < 128)
theorem words_ok : ∀ z ∈ kn12, WordOk z z = true ∧ WordOk z (Txt.lower z) = true := by decide +kernel
theorem spl_ok {z y : Str} (hz : z ∈ kn12) (h : y = z ∨ y = Txt.lower z) : WordOk z y = true := by
  rcases h with rfl | rfl
  · exact (words_ok _ hz).1
  · exact (words_ok _ hz).2
theorem wordOk_parts {z y : Str} (h : WordOk z y = true) : upS (strOf (iS y)) = z ∧ iS y ≠ [] ∧ (∀ c ∈ iS y, isAtomB c = true) ∧ y.length ≤ 11 ∧ ∀ c ∈ iS y, c < 128 := by
  simp only [WordOk, Bool.and_eq_true, beq_iff_eq, Bool.not_eq_true', List.all_eq_true, decide_eq_true_eq] at h
  obtain ⟨⟨⟨⟨h1, h2⟩, h3⟩, h4⟩, h5⟩ := h
  exact ⟨h1, (fun e => by rw [e] at h2; cases h2), h3, h4, h5⟩
theorem spl_all : ∀ {YS WS : List Str}, SpL YS WS → (∀ z ∈ WS, z ∈ kn12) → wordsOf (YS.map iS) = WS ∧ (∀ u ∈ YS.map iS, u ≠ [] ∧ ∀ c ∈ u, isAtomB c = true) ∧ YS.length = WS.length ∧ (YS.map (·.length)).sum ≤ 11 * YS.length ∧ ∀ u ∈ YS.map iS, ∀ c ∈ u, c < 128
  | [], [], _, _ => ⟨rfl, (fun _ h => nomatch h), rfl, Nat.le_refl _, (fun _ h => nomatch h)⟩
  | [], _ :: _, h, _ => h.elim
  | _ :: _, [], h, _ => h.elim
  | y :: ys, z :: zs, h, hW => by
    obtain ⟨h1, h2, h3, h4, h5⟩ := spl_all h.2 fun x hx => hW x (.tail _ hx)
    obtain ⟨p1, p2, p3, p4, p5⟩ := wordOk_parts (spl_ok (hW z (.head _)) h.1)
    refine ⟨?_, ?_, by simp [h3], ?_, ?_⟩
    · show upS (strOf (iS y)) :: wordsOf (ys.map iS) = z :: zs
      rw [p1, h1]
    · intro u hu
      rcases List.mem_cons.mp hu with rfl | hu
      · exact ⟨p2, p3⟩
      · exact h2 u hu
    · simp only [List.map_cons, List.sum_cons, List.length_cons]
      omega
    · intro u hu
      rcases List.mem_cons.mp hu with rfl | hu
      · exact p5
      · exact h5 u hu
theorem encW_lt : ∀ {zs : List (List Int)}, (∀ u ∈ zs, ∀ c ∈ u, c < 128) → ∀ c ∈ encW zs, c < 128 := by
  have ht : ∀ {zs : List (List Int)}, (∀ u ∈ zs, ∀ c ∈ u, c < 128) → ∀ c ∈ tailW zs, c < 128 := by
    intro zs
    induction zs with
    | nil => intro _ c hc; cases hc
    | cons u us ih =>
      intro h c hc
      rcases List.mem_cons.mp hc with rfl | hc
      · decide
      rcases List.mem_append.mp hc with hc | hc
      · exact h u (.head _) c hc
      · exact ih (fun v hv => h v (.tail _ hv)) c hc
  intro zs h c hc
  cases zs with
  | nil => cases hc
  | cons u us =>
    rcases List.mem_append.mp hc with hc | hc
    · exact h u (.head _) c hc
    · exact ht (fun v hv => h v (.tail _ hv)) c hc
theorem gap_iS (g : Nat) : iS (gapS g) = gapB g ∧ (gapS g).length ≤ 10 ∧ ∀ c ∈ gapB g, c < 128 := by
  match g with
  | 0 => exact ⟨by decide +kernel, by decide +kernel, by decide⟩
  | 1 => exact ⟨by decide +kernel, by decide +kernel, by decide⟩
  | g + 2 => exact ⟨(by decide +kernel : iS (Str.ofString "  ") = [32, 32]), (by decide +kernel : (Str.ofString "  ").length ≤ 10), (by decide : ∀ c ∈ ([32, 32] : List Int), c < 128)⟩
theorem key_iS (k : Nat) : iS (keyS k) = keyB k ∧ (keyS k).length ≤ 10 ∧ ∀ c ∈ keyB k, c < 128 := by
  match k with
  | 0 => exact ⟨by decide +kernel, by decide +kernel, by decide⟩
  | 1 => exact ⟨by decide +kernel, by decide +kernel, by decide⟩
  | k + 2 => exact ⟨(by decide +kernel : iS (Str.ofString "1:2") = [49, 58, 50]), (by decide +kernel : (Str.ofString "1:2").length ≤ 10), (by decide : ∀ c ∈ ([49, 58, 50] : List Int), c < 128)⟩
theorem cs_iS {i : Nat} {cs : Str} (h : cs6[i]? = some cs) : iS cs = csB i ∧ cs.length ≤ 10 ∧ (∀ c ∈ csB i, c < 128) ∧ ([Str.ofString "KOI8-R", Str.ofString "x"].any fun x => x == cs) = decide (4 ≤ i) := by
  match i, h with
  | 0, h => obtain rfl := Option.some.inj h; exact ⟨by decide +kernel, by decide +kernel, by decide, by decide +kernel⟩
  | 1, h => obtain rfl := Option.some.inj h; exact ⟨by decide +kernel, by decide +kernel, by decide, by decide +kernel⟩
  | 2, h => obtain rfl := Option.some.inj h; exact ⟨by decide +kernel, by decide +kernel, by decide, by decide +kernel⟩
  | 3, h => obtain rfl := Option.some.inj h; exact ⟨by decide +kernel, by decide +kernel, by decide, by decide +kernel⟩
  | 4, h => obtain rfl := Option.some.inj h; exact ⟨by decide +kernel, by decide +kernel, by decide, by decide +kernel⟩
  | 5, h => obtain rfl := Option.some.inj h; exact ⟨by decide +kernel, by decide +kernel, by decide, by decide +kernel⟩
  | i + 6, h => simp [cs6] at h
theorem oct_iS {YS : List Str} {g0 g1 g2 i k : Nat} {cs : Str} (hcs : cs6[i]? = some cs) :
    iS (octS (gapS g0) (gapS g1) (gapS g2) cs (keyS k) YS) ++ [13, 10] = ksOf (YS.map iS) g0 g1 g2 i k := by
  have e1 : iS (Str.ofString "(") = [40] := by decide +kernel
  have e2 : iS (Str.ofString ")") = [41] := by decide +kernel
  simp only [octS, ksOf, iS_app, e1, e2, iS_join, (gap_iS g0).1, (gap_iS g1).1, (gap_iS g2).1, (cs_iS hcs).1, (key_iS k).1, List.append_assoc, List.cons_append, List.nil_append]
theorem oct_facts {YS WS : List Str} {g0 g1 g2 i k : Nat} {cs : Str} (hcs : cs6[i]? = some cs) (hS : SpL YS WS) (hW : ∀ z ∈ WS, z ∈ kn12) (hl : WS.length ≤ 5) :
    (YS.map (·.length)).sum + YS.length ≤ 1048576 ∧ (Txt.join (Str.ofString " ") YS).length ≤ 200 ∧ (∀ c ∈ (octS (gapS g0) (gapS g1) (gapS g2) cs (keyS k) YS).cps.toList, c < 128) ∧ (octS (gapS g0) (gapS g1) (gapS g2) cs (keyS k) YS).length ≤ 1000 := by
  obtain ⟨h1, h2, h3, h4, h5⟩ := spl_all hS hW
  have hj : (Txt.join (Str.ofString " ") YS).length ≤ 200 := by
    have e : Txt.join (Str.ofString " ") YS = Str.join (Str.ofString " ") YS := StrLaws.glued_eq_join _ _
    have := StrLaws.join_length_le (Str.ofString " ") YS
    have e2 : (Str.ofString " ").length = 1 := by decide +kernel
    rw [e2] at this
    rw [e]; omega
  refine ⟨by omega, hj, asc_of fun c hc => ?_, ?_⟩
  · have hc' : c ∈ ksOf (YS.map iS) g0 g1 g2 i k := by rw [← oct_iS hcs]; exact List.mem_append_left _ hc
    simp only [ksOf, List.mem_append, List.mem_cons, List.not_mem_nil, or_false] at hc'
    rcases hc' with hc | rfl | hc | rfl | hc | hc | hc | hc | rfl | rfl
    · exact (gap_iS g0).2.2 c hc
    · decide
    · exact encW_lt h5 c hc
    · decide
    · exact (gap_iS g1).2.2 c hc
    · exact (cs_iS hcs).2.2.1 c hc
    · exact (gap_iS g2).2.2 c hc
    · exact (key_iS k).2.2 c hc
    · decide
    · decide
  · have a0 := (gap_iS g0).2.1
    have a1 := (gap_iS g1).2.1
    have a2 := (gap_iS g2).2.1
    have a3 := (cs_iS hcs).2.1
    have a4 := (key_iS k).2.1
    have e1 : (Str.ofString "(").length = 1 := by decide +kernel
    have e2 : (Str.ofString ")").length = 1 := by decide +kernel
    simp only [octS, Str.length_append, e1, e2]
    omega
theorem kn_split : knS = kn8 ++ [Str.ofString "REVERSE"] := by decide +kernel
theorem str_comm (a b : Str) : (a == b) = (b == a) := by rw [Bool.eq_iff_iff, beq_iff_eq, beq_iff_eq, eq_comm]
theorem badW_kn (z : Str) : badW z = !isKn z := by
  rw [badW, isKn, kn_split, List.any_append, Bool.not_or]
  congr 1
  simp only [List.any_cons, List.any_nil, Bool.or_false, bne]
  rw [str_comm]
end PartRW


theorem tidy_RX : True := by
  w_top off
  trivial
section PartRX
theorem right_iff {zs : List (List Int)} {WS : List Str} {cs : Str} {i g0 g1 g2 : Nat} {r11 r12 r13 : Bool} (hz : wordsOf zs = WS) (hcs : cs6[i]? = some cs)
    (h11 : r11 = (!WS.isEmpty && (WS.getD (WS.length - 1) Str.empty != Str.ofString "REVERSE" && (WS.filter badW).isEmpty))) (h12 : r12 = true ↔ r11 = true ∧ AdjOk WS (WS.length - 1))
    (h13 : r13 = (r12 && (!([Str.ofString "KOI8-R", Str.ofString "x"].any fun x => x == cs) && (g0 == 0 && g1 == 0 && g2 == 0)))) : r13 = true ↔ Good zs g0 g1 g2 i := by
  have hfil : (WS.filter badW).isEmpty = true ↔ ∀ z ∈ WS, isKn z = true := by
    rw [List.isEmpty_iff, List.filter_eq_nil_iff]
    refine ⟨fun h z hz => ?_, fun h z hz => ?_⟩
    · have := h z hz
      rw [badW_kn] at this
      simpa using this
    · rw [badW_kn, h z hz]; simp
  have hne : zs ≠ [] ↔ WS ≠ [] := by
    rw [← hz]
    cases zs with
    | nil => simp [wordsOf]
    | cons a r => simp [wordsOf]
  have hem : (!WS.isEmpty) = true ↔ WS ≠ [] := by cases WS <;> simp
  have hadj : WS ≠ [] → (AdjOk WS (WS.length - 1) ↔ adjRev WS = false) := fun _ => by
    refine ⟨fun h => adj_false WS h, fun h j hj => ?_⟩
    rw [Bool.eq_false_iff]
    intro q
    obtain ⟨q1, q2⟩ := Bool.and_eq_true_iff.mp q
    rw [adj_true WS j (by omega) q1 q2] at h
    cases h
  have hlast : WS ≠ [] → ((WS.getD (WS.length - 1) Str.empty != Str.ofString "REVERSE") = true ↔ lastRev WS = false) := fun h => by
    rw [lastRev_getD WS (List.length_pos_iff.mpr h), bne, Bool.not_eq_true']
  have hok : okW WS = true ↔ lastRev WS = false ∧ adjRev WS = false := by
    rw [okW, Bool.and_eq_true_iff, Bool.not_eq_true', Bool.not_eq_true']
  rw [h13, Bool.and_eq_true_iff, h12, h11, (cs_iS hcs).2.2.2]
  simp only [Bool.and_eq_true, hem, hfil, Good, hz, hne, hok, Bool.not_eq_true', decide_eq_false_iff_not, Nat.not_le, beq_iff_eq]
  refine ⟨?_, ?_⟩
  · rintro ⟨⟨⟨h1, h2, h3⟩, h4⟩, h5, ⟨h6, h7⟩, h8⟩
    exact ⟨h1, ⟨(hlast h1).mp h2, (hadj h1).mp h4⟩, h3, h5, h6, h7, h8⟩
  · rintro ⟨h1, ⟨h2, h4⟩, h3, h5, h6, h7, h8⟩
    exact ⟨⟨⟨h1, (hlast h1).mpr h2, h3⟩, (hadj h1).mpr h4⟩, h5, ⟨h6, h7⟩, h8⟩
end PartRX


theorem tidy_RY : True := by
  w_top off
  trivial
section PartRY
open PySem.Calls LCg
theorem fr_as {h₀ h : Heap} {L : Addr} {M M' : Str → Option Value} (F : Fr h₀ L h M) (e : M = M') : Fr h₀ L h M' := e ▸ F
theorem mapC (m M : Str → Option Value) (a : Str) (x : Value) (h1 : m a = some x) (h : m = M) : m = fun z => if z = a then some x else M z := by
  funext z
  by_cases ha : z = a
  · rw [if_pos ha, ha, h1]
  · rw [if_neg ha, h]
theorem fr1 {h₀ h : Heap} {L : Addr} {M : Str → Option Value} (a : Str) {x0 : Value} (F : Fr h₀ L h M) (h0 : M a = some x0) : Fr h₀ L h (fun q => if q = a then some x0 else M q) := fr_as F (mapC _ _ a x0 h0 rfl)
theorem fr2 {h₀ h : Heap} {L : Addr} {M : Str → Option Value} (a b : Str) {x0 x1 : Value} (F : Fr h₀ L h M) (h0 : M a = some x0) (h1 : M b = some x1) : Fr h₀ L h (fun q => if q = a then some x0 else if q = b then some x1 else M q) := fr_as F (mapC _ _ a x0 h0 (mapC _ _ b x1 h1 rfl))
theorem fr3 {h₀ h : Heap} {L : Addr} {M : Str → Option Value} (a b c : Str) {x0 x1 x2 : Value} (F : Fr h₀ L h M) (h0 : M a = some x0) (h1 : M b = some x1) (h2 : M c = some x2) : Fr h₀ L h (fun q => if q = a then some x0 else if q = b then some x1 else if q = c then some x2 else M q) := fr_as F (mapC _ _ a x0 h0 (mapC _ _ b x1 h1 (mapC _ _ c x2 h2 rfl)))
theorem fr4 {h₀ h : Heap} {L : Addr} {M : Str → Option Value} (a b c d : Str) {x0 x1 x2 x3 : Value} (F : Fr h₀ L h M) (h0 : M a = some x0) (h1 : M b = some x1) (h2 : M c = some x2) (h3 : M d = some x3) : Fr h₀ L h (fun q => if q = a then some x0 else if q = b then some x1 else if q = c then some x2 else if q = d then some x3 else M q) := fr_as F (mapC _ _ a x0 h0 (mapC _ _ b x1 h1 (mapC _ _ c x2 h2 (mapC _ _ d x3 h3 rfl))))
theorem fr6 {h₀ h : Heap} {L : Addr} {M : Str → Option Value} (a b c d e f : Str) {x0 x1 x2 x3 x4 x5 : Value} (F : Fr h₀ L h M) (h0 : M a = some x0) (h1 : M b = some x1) (h2 : M c = some x2) (h3 : M d = some x3) (h4 : M e = some x4) (h5 : M f = some x5) : Fr h₀ L h (fun q => if q = a then some x0 else if q = b then some x1 else if q = c then some x2 else if q = d then some x3 else if q = e then some x4 else if q = f then some x5 else M q) := fr_as F (mapC _ _ a x0 h0 (mapC _ _ b x1 h1 (mapC _ _ c x2 h2 (mapC _ _ d x3 h3 (mapC _ _ e x4 h4 (mapC _ _ f x5 h5 rfl))))))
theorem nws {h₀ h : Heap} {L : Addr} {l₀ l : CbLed} {p : Addr × Obj} (N : News h₀ L h l₀) (hp : p ∈ l₀) (N' : News h₀ L h l) : News h₀ L h (p :: l) := fun q hq => by
  rcases List.mem_cons.mp hq with rfl | hq
  · exact N _ hp
  · exact N' q hq
theorem nwn {h₀ h : Heap} {L : Addr} : News h₀ L h [] := fun _ hq => nomatch hq
theorem nwa {h₀ h : Heap} {L : Addr} {l l' : CbLed} (N : News h₀ L h l) (N' : News h₀ L h l') : News h₀ L h (l ++ l') := fun q hq => by
  rcases List.mem_append.mp hq with hq | hq
  · exact N q hq
  · exact N' q hq
theorem all_nil {b : Addr} : ∀ q ∈ ([] : CbLed), q.1 ≠ b := fun _ hq => nomatch hq
theorem all_app {l l' : CbLed} {b : Addr} (h : ∀ q ∈ l, q.1 ≠ b) (g : ∀ q ∈ l', q.1 ≠ b) : ∀ q ∈ l ++ l', q.1 ≠ b := fun q hq => by
  rcases List.mem_append.mp hq with hq | hq
  · exact h q hq
  · exact g q hq
theorem lawB_eq : lawB = [lawSt 0, lawSt 1, lawSt 2, lawSt 3, lawSt 4, lawSt 5, lawSt 6, lawSt 7, lawSt 8, lawSt 9, lawSt 10, lawSt 11, lawSt 12, lawSt 13, lawSt 14, lawSt 15, lawSt 16] := by rfl
theorem law_run (w : World) (mean : ExcName → Option Value) (mg mb : Str → Option Value) (L fa cb ck sc : Nat) (cd : Value) (ob ok : Obj) (vs : List Value) (ns : List Int) (hvs : IntsAre vs ns) (hl : ns.length ≤ 63) (hl2 : vs.toArray.size ≤ sizeLine)
    (h₀ : Heap) (s : Shared) (Q : Flow → Shared → Prop) (m : Str → Option Value) :
    Below callerA h₀ [] h₀ → Fr h₀ L s.heap (fun y => if y = Str.ofString "script" then some (.ref sc) else m y) → (hd.heap_1_1 w.params).In h₀ → News h₀ L s.heap [(cb, ob), (ck, ok)] → ob.data = .cell none → ok.data = .cell none → cb < ck → h₀.IsList sc vs.toArray →
    Top hd.view_1_2 (looseW hd.view_1_2 [Str.ofString "PostError", Str.ofString "CHARSETS"]) mean mg mb h₀ →
    (∀ (h : Heap) (tk : Nat) (mm : Str → Option Value), Fr h₀ L h mm → Q (.ret (.bool true)) { s with heap := h, toks := tk }) →
    wpS (model PySem.Challenge.rw_nz0327_01.row.prog w) (lawA L fa cb ck cd) (execs lawB (lawE L fa cb ck cd)) Q (fun _ _ => False) s := by
  intro B F X N d1 d2 hck hsc T hret
  rw [lawB_eq]
  refine @wpS_execs_cons _ _ _ _ _ _ _ _ (@wpS_of _ _ _ _ _ _ _ ?_)
  refine (@seg0 w mean mg mb L fa cb ck sc cd ob ok vs ns hvs hl hl2 h₀ h₀ s _ m B F X N d1 d2 hck hsc T fun h1 tk1 b n t k o1 F1 N1 e1 c1 c2 hn => ?_)
  refine @wpS_execs_cons _ _ _ _ _ _ _ _ (@wpS_of _ _ _ _ _ _ _ ?_)
  refine (@seg1 w mean mg mb L fa cb ck b cd o1 ok n t k h₀ h₀ _ _ _ B F1 X N1 d2 hck c1 c2 T fun h2 tk2 kn KV o2 F2 N2 e2 hK b1 b2 b3 => ?_)
  refine @wpS_execs_cons _ _ _ _ _ _ _ _ (@wpS_of _ _ _ _ _ _ _ ?_)
  refine (@seg2 w mean mg mb L fa cb ck cd _ h₀ h₀ _ _ _ B F2 X N2 T fun h3 tk3 so F3 N3 l3 => ?_)
  have s1 := l3 _ (.head _)
  have s2 := l3 _ (.tail _ (.head _))
  have s3 := l3 _ (.tail _ (.tail _ (.head _)))
  have s4 := l3 _ (.tail _ (.tail _ (.tail _ (.head _))))
  refine @wpS_execs_cons _ _ _ _ _ _ _ _ (@wpS_of _ _ _ _ _ _ _ ?_)
  refine (@seg3 w mean mg mb L fa cb ck so kn b cd o1 o2 KV n t k h₀ h₀ _ _ _ B F3 X N3 e1 e2 hck c1 c2 b1 b2 b3 s1 s2 s3 s4 T hK hn fun h4 tk4 mm SV WS k1 n1 t1 F4 N4 hn1 hSV hWl hWm => ?_)
  refine @wpS_execs_cons _ _ _ _ _ _ _ _ (@wpS_of _ _ _ _ _ _ _ ?_)
  refine (@seg4 w mean mg mb L fa cb ck so kn b cd o1 o2 KV SV WS n1 t1 k k1 h₀ h₀ _ _ _ B F4 X N4 e1 e2 hck c1 c2 b1 b2 b3 s1 s2 s3 s4 T hSV hWm hWl hn1 fun h5 tk5 D ys n2 t2 F5 N5 oD hyl hys hn2 => ?_)
  refine @an5 _ _ _ _ _ _ oD fun o_so o_kn o_b o_cb o_ck => ?_
  clear oD
  obtain ⟨YS, hYS, hSp⟩ := spelled_of hyl hys
  refine @an5 _ _ _ _ _ _ (spl_all hSp hWm) fun w1 w2 w3 w4 w5 => ?_
  have nD : D ≠ b := Ne.symm o_b
  have nso : so ≠ b := Nat.ne_of_gt s2
  have nkn : kn ≠ b := Nat.ne_of_gt b1
  refine @wpS_execs_cons _ _ _ _ _ _ _ _ (@wpS_of _ _ _ _ _ _ _ ?_)
  refine (@seg5 w mean mg mb L fa cb ck b D so kn cd o1 o2 _ _ _ n2 t2 k h₀ h₀ _ _ _ B F5 X N5 e1 hck c1 c2 nD nso nkn T hn2 fun h6 tk6 cs tcs n3 t3 F6 N6 hcs hn3 => ?_)
  have N6' : News h₀ L h6 ((b, bagO n3 t3 k) :: (cb, o1) :: [(D, listOf (List.toArray ys) ys.length), (so, listOf (List.toArray SV) k1), (kn, listOf KV.toArray 0), (ck, o2)]) := nws N6 (.tail _ (.tail _ (.tail _ (.head _)))) (nws N6 (.tail _ (.tail _ (.tail _ (.tail _ (.head _))))) (nws N6 (.head _) (nws N6 (.tail _ (.head _)) (nws N6 (.tail _ (.tail _ (.head _))) (nws N6 (.tail _ (.tail _ (.tail _ (.tail _ (.tail _ (.head _)))))) nwn)))))
  have hr6 : ∀ q ∈ [(D, listOf (List.toArray ys) ys.length), (so, listOf (List.toArray SV) k1), (kn, listOf KV.toArray 0), (ck, o2)], q.1 ≠ b := all_cons nD (all_cons nso (all_cons nkn (all_cons c2 all_nil)))
  refine @wpS_execs_cons _ _ _ _ _ _ _ _ (@wpS_of _ _ _ _ _ _ _ ?_)
  refine (@seg6 w mean mg mb L fa cb ck b cd o1 n3 t3 k _ h₀ h₀ _ _ _ hr6 B F6 X N6' e1 c1 T hn3 fun h7 tk7 tr own txk n4 t4 kk hkk hKL F7 N7 lown hn4 => ?_)
  have hr7 : ∀ q ∈ own ++ [(D, listOf (List.toArray ys) ys.length), (so, listOf (List.toArray SV) k1), (kn, listOf KV.toArray 0), (ck, o2)], q.1 ≠ b := all_app (fun q hq => Nat.ne_of_gt (lown q hq)) hr6
  have N7' : News h₀ L h7 ((b, bagO n4 t4 k) :: (cb, o1) :: (own ++ [(D, listOf (List.toArray ys) ys.length), (so, listOf (List.toArray SV) k1), (kn, listOf KV.toArray 0), (ck, o2)])) := by
    have Na : News h₀ L h7 ((b, bagO n4 t4 k) :: (cb, o1) :: [(D, listOf (List.toArray ys) ys.length), (so, listOf (List.toArray SV) k1), (kn, listOf KV.toArray 0), (ck, o2)]) := fun q hq => N7 q (List.mem_append_right _ hq)
    exact nws Na (.head _) (nws Na (.tail _ (.head _)) (nwa (fun q hq => N7 q (List.mem_append_left _ hq)) fun q hq => Na q (.tail _ (.tail _ hq))))
  refine @wpS_execs_cons _ _ _ _ _ _ _ _ (@wpS_of _ _ _ _ _ _ _ ?_)
  refine (@seg7 w mean mg mb L fa cb ck b cd o1 o2 n4 t4 k _ h₀ h₀ _ _ _ hr7 B F7 X N7' e1 c1 T hn4 fun h8 tk8 tsp t5 F8 N8 => ?_)
  refine @wpS_execs_cons _ _ _ _ _ _ _ _ (@wpS_of _ _ _ _ _ _ _ ?_)
  refine (@seg8 w mean mg mb L fa cb ck cd _ h₀ h₀ _ _ _ B F8 X N8 T fun h9 tk9 g u0 u1 u2 F9 N9 l9 => ?_)
  have gb := l9 _ (.head _)
  have gc := l9 _ (.tail _ (.head _))
  have hsp : 0 ≤ n4 % 8 := by omega
  have hn5 : 0 ≤ n4 / 8 := by omega
  refine @wpS_execs_cons _ _ _ _ _ _ _ _ (@wpS_of _ _ _ _ _ _ _ ?_)
  refine (@seg9 w mean mg mb L fa cb ck b g cd o1 (n4 / 8) (n4 % 8) t5 u0 u1 u2 tsp k _ h₀ h₀ _ _ _ hr7 (fun q hq => Nat.ne_of_lt (l9 q (.tail _ (.tail _ hq)))) B F9 X N9 e1 c1 (Nat.ne_of_lt gb) (Nat.ne_of_lt gc) T hn5 hsp fun h10 tk10 v0 v1 v2 g0 g1 g2 n6 t6 F10 N10 => ?_)
  clear hr7 N7' N7 N6' N6 N5 N4 N3 N2 N1 l9 l3
  have N10' : News h₀ L h10 ((g, gapsO (gapS g0) (gapS g1) (gapS g2) v0 v1 v2 0) :: (D, listOf (List.toArray ys) ys.length) :: (so, listOf (List.toArray SV) k1) :: (kn, listOf KV.toArray 0) :: (ck, o2) :: own) := by
    have Na : News h₀ L h10 [(D, listOf (List.toArray ys) ys.length), (so, listOf (List.toArray SV) k1), (kn, listOf KV.toArray 0), (ck, o2)] := fun q hq => N10 q (.tail _ (.tail _ (.tail _ (List.mem_append_right _ hq))))
    exact nws N10 (.head _) (nws Na (.head _) (nws Na (.tail _ (.head _)) (nws Na (.tail _ (.tail _ (.head _))) (nws Na (.tail _ (.tail _ (.tail _ (.head _)))) fun q hq => N10 q (.tail _ (.tail _ (.tail _ (List.mem_append_left _ hq))))))))
  obtain ⟨f1, f2, f3, f4⟩ := oct_facts (g0 := g0) (g1 := g1) (g2 := g2) (k := kk) hcs hSp hWm hWl
  have hU := bInts_of f3
  have hks := oct_iS (YS := YS) (g0 := g0) (g1 := g1) (g2 := g2) (k := kk) hcs
  refine @wpS_execs_cons _ _ _ _ _ _ _ _ (@wpS_of _ _ _ _ _ _ _ ?_)
  refine (@seg10 w mean mg mb L fa cb ck g D cd Str.empty cs (keyS kk) tcs txk ys YS (gapS g0) (gapS g1) (gapS g2) v0 v1 v2 _ h₀ h₀ _ _ _ B
    (fr4 (Str.ofString "gaps") (Str.ofString "spelled") (Str.ofString "charset") (Str.ofString "key") F10 rfl rfl rfl rfl) X N10' hYS f1 f2 (gap_iS g0).2.1 (gap_iS g1).2.1 (gap_iS g2).2.1 (cs_iS hcs).2.1 (key_iS kk).2.1 f3 f4 T fun h11 tk11 tb F11 N11 => ?_)
  clear N10' N10
  have N11' : News h₀ L h11 ((so, listOf (List.toArray SV) k1) :: (kn, listOf KV.toArray 0) :: (ck, o2) :: (g, gapsO (gapS g0) (gapS g1) (gapS g2) v0 v1 v2 0) :: own) :=
    nws N11 (.tail _ (.tail _ (.head _))) (nws N11 (.tail _ (.tail _ (.tail _ (.head _)))) (nws N11 (.tail _ (.tail _ (.tail _ (.tail _ (.head _))))) (nws N11 (.head _) fun q hq => N11 q (.tail _ (.tail _ (.tail _ (.tail _ (.tail _ hq))))))))
  refine @wpS_execs_cons _ _ _ _ _ _ _ _ (@wpS_of _ _ _ _ _ _ _ ?_)
  refine (@seg11 w mean mg mb L fa cb ck so kn cd o2 SV KV WS k1 _ h₀ h₀ _ _ _ B (fr1 (Str.ofString "some") F11 rfl) X N11' e2 hSV hK hWm hWl T fun h12 tk12 r11 F12 N12 hr11 => ?_)
  have N12' : News h₀ L h12 ((so, listOf (List.toArray SV) k1) :: (g, gapsO (gapS g0) (gapS g1) (gapS g2) v0 v1 v2 0) :: own) :=
    nws N12 (.head _) fun q hq => N12 q (.tail _ (.tail _ (.tail _ hq)))
  refine @wpS_execs_cons _ _ _ _ _ _ _ _ (@wpS_of _ _ _ _ _ _ _ ?_)
  refine (@seg12 w mean mg mb L fa cb ck so cd SV WS k1 r11 _ h₀ h₀ _ _ _ B F12 X N12' hSV hWl T fun h13 tk13 mm12 r12 F13 N13 hr12 hmm => ?_)
  have m_cs : mm12 (Str.ofString "charset") = some (.str cs tcs) := (hmm _ (by decide +kernel) (by decide +kernel) (by decide +kernel)).trans rfl
  have m_g : mm12 (Str.ofString "gaps") = some (.ref g) := (hmm _ (by decide +kernel) (by decide +kernel) (by decide +kernel)).trans rfl
  have m_t : mm12 (Str.ofString "tree") = some tr := (hmm _ (by decide +kernel) (by decide +kernel) (by decide +kernel)).trans rfl
  have m_o : mm12 (Str.ofString "octets") = some (.bytes ((octS (gapS g0) (gapS g1) (gapS g2) cs (keyS kk) YS).cps.map Nat.toUInt8) tb) := (hmm _ (by decide +kernel) (by decide +kernel) (by decide +kernel)).trans rfl
  clear hmm
  generalize hUe : (octS (gapS g0) (gapS g1) (gapS g2) cs (keyS kk) YS).cps.map Nat.toUInt8 = U at hU m_o
  have N13' : News h₀ L h13 ((g, gapsO (gapS g0) (gapS g1) (gapS g2) v0 v1 v2 0) :: (so, listOf (List.toArray SV) k1) :: own) :=
    nws N13 (.tail _ (.head _)) (nws N13 (.head _) fun q hq => N13 q (.tail _ (.tail _ hq)))
  refine @wpS_execs_cons _ _ _ _ _ _ _ _ (@wpS_of _ _ _ _ _ _ _ ?_)
  refine (@seg13 w mean mg mb L fa cb ck g cd cs tcs r12 g0 g1 g2 v0 v1 v2 _ h₀ h₀ _ _ _ B (fr3 (Str.ofString "is_right") (Str.ofString "charset") (Str.ofString "gaps") F13 rfl m_cs m_g) X N13' T fun h14 tk14 r13 F14 N14 hr13 => ?_)
  have hgood := right_iff (zs := YS.map iS) w1 hcs hr11 hr12 hr13
  have hul : (iS (octS (gapS g0) (gapS g1) (gapS g2) cs (keyS kk) YS)).length ≤ 1000 := by rw [iS_len]; exact f4
  have N14' : News h₀ L h14 ((so, listOf (List.toArray SV) k1) :: own) := fun q hq => N14 q (.tail _ hq)
  refine @wpS_execs_cons _ _ _ _ _ _ _ _ (@wpS_of _ _ _ _ _ _ _ ?_)
  refine (@seg14 w mean mg mb L fa cb ck cd U _ tb _ h₀ h₀ _ _ _ B (fr1 (Str.ofString "octets") F14 m_o) X N14' hU hul T fun h15 tk15 wa dx xw F15 N15 hD hne hrd hrw => ?_)
  rw [hks] at hD
  have hsz : U.size = (iS (octS (gapS g0) (gapS g1) (gapS g2) cs (keyS kk) YS)).length := by rw [← hU, KBw.ints_length]
  have hkl : (ksOf (YS.map iS) g0 g1 g2 (n2 % 6).toNat kk).length = U.size + 2 := by rw [← hks, List.length_append, hsz]; rfl
  refine @wpS_execs_cons _ _ _ _ _ _ _ _ ?_
  refine (@seg15 w mean mg mb L fa cb ck wa dx cd xw (U ++ #[13, 10]) (YS.map iS) g0 g1 g2 (n2 % 6).toNat kk r13 _ h₀ _ _ _ hne hrd B (fr2 (Str.ofString "wire") (Str.ofString "is_right") F15 rfl rfl) X N15 hD (by omega) w2 (by rw [List.length_map, w3]; omega) T (fun h16 tk16 r nx F16 N16 hS => ?_) (fun h16 tk16 F16 hG => ?_))
  · refine @an2 _ _ _ hS fun hG hz => @ex6 _ _ _ _ _ _ _ _ hz fun lr l vs16 r' x16 own16 hz => @an4 _ _ _ _ _ hz fun q1 hvs16 hKL16 q2 => ?_
    clear hz hS
    subst q1
    subst q2
    have hr1 := hgood.mpr hG
    subst hr1
    rw [w1] at hvs16
    have N16' : News h₀ L h16 (WL wa dx x16 (U ++ #[13, 10]) (((ksOf (YS.map iS) g0 g1 g2 (n2 % 6).toNat kk).length : Int) - 2) ((lr, tupObj [.ref l, r']) :: (l, tupObj vs16) :: (so, listOf (List.toArray SV) k1) :: (own16 ++ own))) := by
      have Na : News h₀ L h16 ((l, tupObj vs16) :: (so, listOf (List.toArray SV) k1) :: own) := fun q hq => N16 q (.tail _ (.tail _ (.tail _ (List.mem_append_right _ hq))))
      exact nws N16 (.head _) (nws N16 (.tail _ (.head _)) (nws N16 (.tail _ (.tail _ (.head _))) (nws Na (.head _) (nws Na (.tail _ (.head _)) (nwa (fun q hq => N16 q (.tail _ (.tail _ (.tail _ (List.mem_append_left _ hq))))) fun q hq => Na q (.tail _ (.tail _ hq)))))))
    refine @wpS_execs_cons _ _ _ _ _ _ _ _ (@wpS_of _ _ _ _ _ _ _ ?_)
    refine (@seg16 w mean mg mb L fa cb ck wa dx lr l so kk k1 cd tr r' x16 (U ++ #[13, 10]) U tb _ SV vs16 WS own16 own _ h₀ _ _ _ B (fr6 (Str.ofString "found") (Str.ofString "wire") (Str.ofString "is_right") (Str.ofString "some") (Str.ofString "tree") (Str.ofString "octets") F16 rfl rfl rfl rfl m_t rfl) X N16' (fun q hq => List.mem_append_left _ hq) (fun q hq => List.mem_append_right _ hq) hKL16 hKL hvs16 hSV hWm hWl (by omega) (by omega) hne T fun h17 tk17 mm17 F17 => ?_)
    exact hret _ _ _ F17
  · have hr0 : r13 = false := by
      cases r13 with
      | false => rfl
      | true => exact absurd (hgood.mp rfl) hG
    subst hr0
    exact hret _ _ _ F16
end PartRY


theorem tidy_RZ : True := by
  w_top off
  trivial
section PartRZ
open PySem.Calls
theorem law_cells (L : Nat) : cellsFrom (L + 1) lawS.names [] = [(Str.ofString "known", L + 1 + 1), (Str.ofString "bag", L + 1)] := by rfl
theorem lawE_eq (L fa : Nat) (cd : Value) : envOfC lawN lawS L fa cd = lawE L fa (L + 1) (L + 1 + 1) cd := by
  show envX lawN lawS L fa cd (cellsFrom (L + 1) lawS.names []) = _
  rw [law_cells]
theorem walk_S {XP : (Str → Option Value) → Heap → Prop} (d : DefRec) (kwd : List (Str × PySem.Expr)) (hdef : defOf hd.view_1_2 (Str.ofString "law") = some (d, kwd)) :
    WalkS hd.view_1_2 [Str.ofString "PostError", Str.ofString "CHARSETS"] XP (fun w h => (hd.heap_1_1 w.params).In h) PySem.Challenge.rw_nz0327_01.row.toRowW d kwd := by
  obtain ⟨rfl, rfl⟩ := Prod.mk.inj (Option.some.inj (hdef.symm.trans lawD.2))
  unfold WalkS
  k_fill
  intro w s₀ s₁ mg mb G KX fa o pm cd doc dV kV ho hd' hcd hD hmg hg args vals as hpre hlay hrd hwl hlo
  refine Ground.open G ?_
  intro T B D TE TW
  clear TE TW D B
  wrow_args hpre hlay hrd hwl hlo
  refine wpS_call ?_
  have K0 := below_caller (Top.heap T)
  have he := Dflts.none hD rfl
  subst he
  have he := Dflts.noKw hD
  subst he
  refine call_cellsS (by decide) ho (fd_plain hd') (Top.nolimit T) hcd rfl (kinds_of (by kinds_ok)) (by decide) fun h₁ tk₁ cells F N0 X0 => ?_
  cells_open X0
  rename IntsAre _ _ => hI9
  rename s₁.heap.IsList _ _ => hL9
  have hlen := hI9.length
  rename (¬ (_ : Int) < _) => hc9
  have hl63 : _ ≤ 63 := Nat.le_of_not_lt fun z => hc9 (Int.ofNat_lt.mpr z)
  have F9 := fr1 (Str.ofString "script") F rfl
  have N9 := nws N0 (.tail _ (.head _)) (nws N0 (.head _) nwn)
  refine wpS_mono (E := fun _ _ => False) (@law_run w _ mg mb s₁.heap.objs.size fa (s₁.heap.objs.size + 1) (s₁.heap.objs.size + 1 + 1) _ cd _ _ _ _ hI9 hl63 (by rw [List.size_toArray, sizeLine_eq]; omega) s₁.heap _ _ _ K0 F9 KX N9 (by assumption) (by assumption) (Nat.lt_succ_self _) hL9 T ?_) (fun _ _ x => x) (fun _ _ x => x.elim)
  intro h tk mm F10
  refine GoodW.toG (goodW_bool F10 hg (fun _ => rfl) ?_)
  wrow_post
end PartRZ


theorem fin_S : PySem.Challenge.rw_nz0327_01.Holds := by
  refine asLaw fun said => ?_
  refine holds_S (LeftO.of_pieces (N := 10032) (boot_open (N := 10032) hd._proof_1_5 (by decide +kernel) hd._proof_1_6) hd._proof_1_913 hd._proof_1_911 (by kernel_rfl) (fun w => funext fun os => hd._proof_1_944 w os)) (Hook.of _) (Hook.keeps _) (fun s e => xl_of s (Bool.and_eq_true_iff.mp e).1) XL.keeps (by rfl) (by rfl) (by rfl) (fun s e => recFacts_of (Bool.and_eq_true_iff.mp e).2) (by rfl) said hd._proof_1_3 ⟨rfl, rfl, rfl, rfl, rfl, hd._proof_1_4⟩ ?hw ?walk
  case hw => w_witness2
  case walk => exact walk_S _ _ (by rfl)
end Mine
theorem PySem.Challenge.cw_nz0327_01_holds : PySem.Challenge.rw_nz0327_01.Holds := by
  exact Mine.fin_S
