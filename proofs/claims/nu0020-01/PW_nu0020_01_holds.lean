import PyProof.Rows.All
import Wide.All
import OpenK.AllK
import Wide.FinOn
import PySem.Challenge.RW_nu0020_01
open PySem PySem.W PyProof.Rows
set_option Elab.async false
set_option maxRecDepth 100000
namespace Mine
theorem len_none_meets : Meets (Builtin.«len» ⟨[.none], []⟩) (raisesNew "TypeError") :=
  .of_wp fun prog w A R s h => by
    obtain ⟨hp, g, d, tk, os⟩ := s
    have f : typeLookup (.type "NoneType") (Str.ofString "__len__") = pure none := by rw [typeLookup_type, builtinLookup_eq_fast]; kernel_rfl
    wp_walk
    exact_raiseError plainExc_TypeError h.1 h.2
theorem fly_of {base h : Heap} {l : List Env} {e : Addr} {cls : Value} {news : List (Addr × Obj)} (R : RaisedN base l e cls news h) : Heap.Flying base l e cls h := by
  obtain ⟨B, a0, hB, _, x⟩ := R
  exact (flyingW_base hB x).flying
theorem len_none {prog : Program} {w : World} {A : Around} {E : Value → Shared → Prop} {s : Shared} {Q : Value → Shared → Prop} (hh : A.handled = none)
    (h : ∀ h' tk e, Heap.NewExc s.heap h' e "TypeError" → E (.ref e) { s with heap := h', toks := tk }) : wpAny (model prog w) A (call (.builtin "len") [.none]) Q E s :=
  call_function_meets kind_len plain_len entry_len (args_len1 _) len_none_meets ⟨hh, h⟩
/-- the law's def with no list: it raises TypeError -/
def r0 : OpenRow := { PySem.Challenge.rw_nu0020_01.row with args := [.none], returns := .none, pre := .lit (.bool true), post := .lit (.bool true), raises := [(.builtin "TypeError", .lit (.bool true))], unshared := false }
local macro_rules | `(tactic| walk_at "call builtin:len") => `(tactic| (k_here; (with_reducible show wpAny _ _ (call _ [Value.none]) _ _ _); k_dflt (refine len_none (by rfl) ?_); intro h' tk' e' hx'; (try dsimp only)))
/-! the names of the twins that the head would lay for this text's own constants are taken: they are not wanted -/
noncomputable def hd.tw17087091549796120035 : Nat := 0
noncomputable def hd.tw4972139816212722202 : Nat := 0
noncomputable def hd.tw15616948245753086127 : Nat := 0
noncomputable def hd.tw14892549342360969540 : Nat := 0
noncomputable def hd.tw978945382295711627 : Nat := 0
noncomputable def hd.tw6293948785866598258 : Nat := 0
noncomputable def hd.tw9641152695372364146 : Nat := 0
noncomputable def hd.tw11128854368766332075 : Nat := 0
noncomputable def hd.tw9571657101598308349 : Nat := 0
noncomputable def hd.tw5781342201191254626 : Nat := 0
noncomputable def hd.tw17711083657039698284 : Nat := 0
noncomputable def hd.tw14620637471214046174 : Nat := 0
noncomputable def hd.tw12631932088317031055 : Nat := 0
noncomputable def hd.tw17808607793243039243 : Nat := 0
noncomputable def hd.tw2867327485932766208 : Nat := 0
noncomputable def hd.tw11652457597714270106 : Nat := 0
noncomputable def hd.tw15103106377680225435 : Nat := 0
noncomputable def hd.tw3259873300814134281 : Nat := 0
noncomputable def hd.tw11669539578447061892 : Nat := 0
noncomputable def hd.tw11117797201346649052 : Nat := 0
noncomputable def hd.tw17397052962432165270 : Nat := 0
noncomputable def hd.tw2216850387143573719 : Nat := 0
noncomputable def hd.tw18322514126500204803 : Nat := 0
noncomputable def hd.tw6838551448383532254 : Nat := 0
noncomputable def hd.tw17061077104543960549 : Nat := 0
noncomputable def hd.tw221497870779424605 : Nat := 0
noncomputable def hd.tw8343274005884668182 : Nat := 0
noncomputable def hd.tw12936449754285732098 : Nat := 0
noncomputable def hd.tw8414420238210853183 : Nat := 0
noncomputable def hd.tw2114630138375439770 : Nat := 0
noncomputable def hd.tw7752767780024739350 : Nat := 0
noncomputable def hd.tw17650839729002327288 : Nat := 0
noncomputable def hd.tw8841187974860818712 : Nat := 0
noncomputable def hd.tw6528754448969337418 : Nat := 0
noncomputable def hd.tw17466564637892440618 : Nat := 0
noncomputable def hd.tw5373601922739893978 : Nat := 0
noncomputable def hd.tw7540655947842036084 : Nat := 0
noncomputable def hd.tw14353793391729792155 : Nat := 0
noncomputable def hd.tw10296555574160606952 : Nat := 0
noncomputable def hd.tw5567388512258382067 : Nat := 0
noncomputable def hd.tw12588582704262371052 : Nat := 0
noncomputable def hd.tw11893437276241958245 : Nat := 0
noncomputable def hd.tw1382963296337349011 : Nat := 0
noncomputable def hd.tw18300207936620678264 : Nat := 0
noncomputable def hd.tw13518370688599389936 : Nat := 0
noncomputable def hd.tw2167537188350426706 : Nat := 0
noncomputable def hd.tw5278057926702712004 : Nat := 0
noncomputable def hd.tw2524978443121100084 : Nat := 0
noncomputable def hd.tw12173100003817136821 : Nat := 0
noncomputable def hd.tw4478964076566166474 : Nat := 0
noncomputable def hd.tw4115565904173853331 : Nat := 0
noncomputable def hd.tw2463646050095909150 : Nat := 0
noncomputable def hd.tw10111801491309104144 : Nat := 0
noncomputable def hd.tw8832402302947667407 : Nat := 0
noncomputable def hd.tw12901994302517312135 : Nat := 0
noncomputable def hd.tw5987830557187376847 : Nat := 0
noncomputable def hd.tw2195365466389143174 : Nat := 0
noncomputable def hd.tw13225837485096350037 : Nat := 0
noncomputable def hd.tw11611254532205267744 : Nat := 0
noncomputable def hd.tw3759623122121258479 : Nat := 0
noncomputable def hd.tw8117029840178788049 : Nat := 0
noncomputable def hd.tw9421340871869096474 : Nat := 0
noncomputable def hd.tw701787995468756871 : Nat := 0
noncomputable def hd.tw5049678666596984668 : Nat := 0
noncomputable def hd.tw7914949630228597729 : Nat := 0
noncomputable def hd.tw9942979801534940709 : Nat := 0
noncomputable def hd.tw16996915472630922493 : Nat := 0
noncomputable def hd.tw16056359734778111409 : Nat := 0
noncomputable def hd.tw2641799114124571417 : Nat := 0
noncomputable def hd.tw16222499966895952523 : Nat := 0
noncomputable def hd.tw9277588360372424766 : Nat := 0
noncomputable def hd.tw5978321128707920903 : Nat := 0
noncomputable def hd.tw6060742912462422084 : Nat := 0
noncomputable def hd.tw13483081372092288885 : Nat := 0
noncomputable def hd.tw2274498078352570744 : Nat := 0
noncomputable def hd.tw10258999931320997221 : Nat := 0
noncomputable def hd.tw10170382586518783626 : Nat := 0
noncomputable def hd.tw15166520500009309586 : Nat := 0
noncomputable def hd.tw17574625026820762457 : Nat := 0
noncomputable def hd.tw10403243965636340961 : Nat := 0
noncomputable def hd.tw4225703048834024713 : Nat := 0
noncomputable def hd.tw4172343393113369950 : Nat := 0
noncomputable def hd.tw7366208706002141716 : Nat := 0
noncomputable def hd.tw2037972409741389414 : Nat := 0
noncomputable def hd.tw4015398097383911347 : Nat := 0
noncomputable def hd.tw16853341256802265648 : Nat := 0
noncomputable def hd.tw9386895884608548742 : Nat := 0
noncomputable def hd.tw13828106393651249627 : Nat := 0
noncomputable def hd.tw4851647983119433812 : Nat := 0
noncomputable def hd.tw10743916045514856203 : Nat := 0
noncomputable def hd.tw10784824025267889561 : Nat := 0
noncomputable def hd.tw14705683404202351889 : Nat := 0
noncomputable def hd.tw4272726840584523970 : Nat := 0
noncomputable def hd.tw12487502673411948298 : Nat := 0
noncomputable def hd.tw1426424393278487926 : Nat := 0
noncomputable def hd.tw16828841361933241965 : Nat := 0
noncomputable def hd.tw15595854959937240912 : Nat := 0
noncomputable def hd.tw6196171512934965099 : Nat := 0
noncomputable def hd.tw17950676927832955104 : Nat := 0
noncomputable def hd.tw7109450275434161582 : Nat := 0
noncomputable def hd.tw10458740792067480800 : Nat := 0
noncomputable def hd.tw3219085151875037572 : Nat := 0
noncomputable def hd.tw1506431575118746342 : Nat := 0
noncomputable def hd.tw17183224562656869120 : Nat := 0
noncomputable def hd.tw12112201142124510154 : Nat := 0
noncomputable def hd.tw17213754286329925777 : Nat := 0
noncomputable def hd.tw3530705653197291679 : Nat := 0
noncomputable def hd.tw16904818350239718627 : Nat := 0
noncomputable def hd.tw7816577550770918932 : Nat := 0
noncomputable def hd.tw54727356038600574 : Nat := 0
noncomputable def hd.tw6820862383352777685 : Nat := 0
noncomputable def hd.tw402640490398009360 : Nat := 0
noncomputable def hd.tw8716120427605611371 : Nat := 0
noncomputable def hd.tw15837987909243819085 : Nat := 0
noncomputable def hd.tw8960069828448710407 : Nat := 0
noncomputable def hd.tw7120233287515763914 : Nat := 0
noncomputable def hd.tw2613993436085324816 : Nat := 0
noncomputable def hd.tw6276725880618359904 : Nat := 0
noncomputable def hd.tw15642763164714097627 : Nat := 0
noncomputable def hd.tw991583007596301734 : Nat := 0
noncomputable def hd.tw3789350110615891812 : Nat := 0
noncomputable def hd.tw4478166936697009375 : Nat := 0
noncomputable def hd.tw5174551420813472067 : Nat := 0
noncomputable def hd.tw9170477692918782315 : Nat := 0
noncomputable def hd.tw18103342009636024947 : Nat := 0
noncomputable def hd.tw16194383521188589630 : Nat := 0
noncomputable def hd.tw12598724348716800887 : Nat := 0
noncomputable def hd.tw11210553801493137410 : Nat := 0
noncomputable def hd.tw6123773746684550334 : Nat := 0
noncomputable def hd.tw7059539395403794157 : Nat := 0
noncomputable def hd.tw1413172679324656950 : Nat := 0
noncomputable def hd.tw9719896912496429819 : Nat := 0
noncomputable def hd.tw5902613922787404954 : Nat := 0
noncomputable def hd.tw17845618019537910915 : Nat := 0
noncomputable def hd.tw1580110805410547442 : Nat := 0
noncomputable def hd.tw12949589719889679912 : Nat := 0
noncomputable def hd.tw14955159897011116063 : Nat := 0
noncomputable def hd.tw10246146449241189800 : Nat := 0
noncomputable def hd.tw5130813555471234732 : Nat := 0
noncomputable def hd.tw16259696140248634718 : Nat := 0
noncomputable def hd.tw11917015161858427179 : Nat := 0
noncomputable def hd.tw11513968764499736323 : Nat := 0
noncomputable def hd.tw16299908979028503884 : Nat := 0
noncomputable def hd.tw12451258846644117672 : Nat := 0
noncomputable def hd.tw15114108414909977919 : Nat := 0
noncomputable def hd.tw1359830224848277088 : Nat := 0
noncomputable def hd.tw11054480109507316185 : Nat := 0
noncomputable def hd.tw11631947586910100387 : Nat := 0
noncomputable def hd.tw13825509269061658866 : Nat := 0
noncomputable def hd.tw2386827423013361158 : Nat := 0
noncomputable def hd.tw16634568088961857937 : Nat := 0
noncomputable def hd.tw13790719812936386609 : Nat := 0
noncomputable def hd.tw6164396464334811476 : Nat := 0
noncomputable def hd.tw2101469004524951375 : Nat := 0
noncomputable def hd.tw15615537253650120727 : Nat := 0
noncomputable def hd.tw6046025761626283908 : Nat := 0
noncomputable def hd.tw1013155817946168525 : Nat := 0
noncomputable def hd.tw1011335219593555734 : Nat := 0
noncomputable def hd.tw11387694631328260470 : Nat := 0
noncomputable def hd.tw18093812233618175256 : Nat := 0
noncomputable def hd.tw1222794163293265305 : Nat := 0
noncomputable def hd.tw17672654358674132775 : Nat := 0
noncomputable def hd.tw4360684699965382250 : Nat := 0
noncomputable def hd.tw8735263284916673568 : Nat := 0
noncomputable def hd.tw17893044597097874663 : Nat := 0
noncomputable def hd.tw13267510147771200024 : Nat := 0
noncomputable def hd.tw11032806212648032379 : Nat := 0
noncomputable def hd.tw8112040973832200146 : Nat := 0
noncomputable def hd.tw18343703819029505601 : Nat := 0
noncomputable def hd.tw17681399029576232318 : Nat := 0
noncomputable def hd.tw8959176491354863721 : Nat := 0
noncomputable def hd.tw5559951931751713254 : Nat := 0
noncomputable def hd.tw5511420028821071320 : Nat := 0
noncomputable def hd.tw15153279154761372571 : Nat := 0
noncomputable def hd.tw9741134391959003819 : Nat := 0
noncomputable def hd.tw10949625832625181284 : Nat := 0
noncomputable def hd.tw16722109127936396110 : Nat := 0
noncomputable def hd.tw11402939732021071671 : Nat := 0
noncomputable def hd.tw6555240042291301478 : Nat := 0
noncomputable def hd.tw6411954120941647267 : Nat := 0
noncomputable def hd.tw922143313871775805 : Nat := 0
noncomputable def hd.tw14168552714766633299 : Nat := 0
noncomputable def hd.tw6785817131721698500 : Nat := 0
noncomputable def hd.tw17258206423299326598 : Nat := 0
noncomputable def hd.tw12070051907170230399 : Nat := 0
noncomputable def hd.tw11232374478483605306 : Nat := 0
noncomputable def hd.tw9345676750909349944 : Nat := 0
noncomputable def hd.tw2442259710966052079 : Nat := 0
noncomputable def hd.tw2603259988358896889 : Nat := 0
noncomputable def hd.tw17714235663813219645 : Nat := 0
noncomputable def hd.tw11959044307898795358 : Nat := 0
noncomputable def hd.tw9960721518486171458 : Nat := 0
noncomputable def hd.tw1097998534492414930 : Nat := 0
noncomputable def hd.tw16007149819294483003 : Nat := 0
noncomputable def hd.tw17903497710992402801 : Nat := 0
noncomputable def hd.tw9345929723534960622 : Nat := 0
noncomputable def hd.tw3919010098100093602 : Nat := 0
noncomputable def hd.tw1997569388931296116 : Nat := 0
noncomputable def hd.tw17054507655720011243 : Nat := 0
noncomputable def hd.tw13956165655338008812 : Nat := 0
noncomputable def hd.tw11389486352061984695 : Nat := 0
noncomputable def hd.tw1760603350576429475 : Nat := 0
noncomputable def hd.tw16920754564084929960 : Nat := 0
noncomputable def hd.tw17975533764899295144 : Nat := 0
noncomputable def hd.tw16868993833207775613 : Nat := 0
noncomputable def hd.tw8364274539379898114 : Nat := 0
noncomputable def hd.tw4402725079659364252 : Nat := 0
noncomputable def hd.tw1600037746751723098 : Nat := 0
noncomputable def hd.tw8458067239894703972 : Nat := 0
noncomputable def hd.tw13770079208771991547 : Nat := 0
noncomputable def hd.tw15790720579355451973 : Nat := 0
noncomputable def hd.tw11319892378374348655 : Nat := 0
noncomputable def hd.tw3452082135128663414 : Nat := 0
noncomputable def hd.tw728884934406724761 : Nat := 0
noncomputable def hd.tw17606422857730326317 : Nat := 0
noncomputable def hd.tw11319097763535126812 : Nat := 0
noncomputable def hd.tw15759970867653108152 : Nat := 0
noncomputable def hd.tw6407587892757256292 : Nat := 0
noncomputable def hd.tw15411387601460861337 : Nat := 0
noncomputable def hd.tw4086058157674990017 : Nat := 0
noncomputable def hd.tw9673543361469618366 : Nat := 0
noncomputable def hd.tw8457440626546761165 : Nat := 0
noncomputable def hd.tw6082411064634330575 : Nat := 0
noncomputable def hd.tw9566141503761928105 : Nat := 0
noncomputable def hd.tw3571134770919094901 : Nat := 0
noncomputable def hd.tw15529170255622000948 : Nat := 0
noncomputable def hd.tw13338143212406534295 : Nat := 0
noncomputable def hd.tw16345102440705955213 : Nat := 0
noncomputable def hd.tw9237616624170024493 : Nat := 0
noncomputable def hd.tw12647368939536790636 : Nat := 0
noncomputable def hd.tw7754304195085646258 : Nat := 0
noncomputable def hd.tw11754176132448286083 : Nat := 0
noncomputable def hd.tw13753220567063992666 : Nat := 0
noncomputable def hd.tw22551697357593593 : Nat := 0
noncomputable def hd.tw7355570028127101125 : Nat := 0
noncomputable def hd.tw6767318904944593275 : Nat := 0
noncomputable def hd.tw7296583596125217682 : Nat := 0
noncomputable def hd.tw5461583852855630226 : Nat := 0
noncomputable def hd.tw12271959270614036898 : Nat := 0
noncomputable def hd.tw5615920466096486118 : Nat := 0
noncomputable def hd.tw3646829019195819677 : Nat := 0
noncomputable def hd.tw18264374347568628810 : Nat := 0
noncomputable def hd.tw4971549296188076032 : Nat := 0
noncomputable def hd.tw7289634563603522867 : Nat := 0
noncomputable def hd.tw17252143746492648416 : Nat := 0
noncomputable def hd.tw14015909994521340511 : Nat := 0
noncomputable def hd.tw14457593812595234344 : Nat := 0
noncomputable def hd.tw5343241284826551009 : Nat := 0
noncomputable def hd.tw11162318198679636149 : Nat := 0
noncomputable def hd.tw18219297243305740317 : Nat := 0
noncomputable def hd.tw4702841417184801058 : Nat := 0
noncomputable def hd.tw12797040952259185971 : Nat := 0
noncomputable def hd.tw4278124947684190350 : Nat := 0
noncomputable def hd.tw11136197038861592535 : Nat := 0
noncomputable def hd.tw18293732401869909652 : Nat := 0
noncomputable def hd.tw11660266114150955751 : Nat := 0
noncomputable def hd.tw16477043939570097188 : Nat := 0
noncomputable def hd.tw3229955645248102723 : Nat := 0
noncomputable def hd.tw10603584201595350602 : Nat := 0
noncomputable def hd.tw6663896369628448293 : Nat := 0
noncomputable def hd.tw3221592705415737273 : Nat := 0
noncomputable def hd.tw9657781627882305391 : Nat := 0
noncomputable def hd.tw5190246844813560578 : Nat := 0
noncomputable def hd.tw14103535550066685397 : Nat := 0
noncomputable def hd.tw7028611270464810887 : Nat := 0
noncomputable def hd.tw9843896370901672699 : Nat := 0
noncomputable def hd.tw8228950375871286339 : Nat := 0
noncomputable def hd.tw6394381022753523788 : Nat := 0
noncomputable def hd.tw17062030032774818151 : Nat := 0
noncomputable def hd.tw2708950531961675432 : Nat := 0
noncomputable def hd.tw4494801613693538912 : Nat := 0
noncomputable def hd.tw10424393626065333798 : Nat := 0
noncomputable def hd.tw1439246655266547700 : Nat := 0
noncomputable def hd.tw12023040214023829324 : Nat := 0
set_option Elab.async true in
set_option maxRecDepth 100000 in
set_option maxHeartbeats 8000000 in
theorem hd : r0.Holds := by
  (w_on; k_head; (case hw => w_witness2); w_strict (k_go0; (all_goals try k_fold); k_steps; (try k_unfold); (try dsimp only); exact goodW_flying (fly_of (by assumption)) (by assumption) (by rfl)))
end Mine
namespace Mine
open PySem.Calls PySem.Spec
/-- the walker's flag as a fresh file has it -/
theorem top_off : True := by
  w_top off
  trivial
local macro_rules | `(tactic| walk_at $s:str) => `(tactic| k_extra $s)
local macro_rules | `(tactic| k_ne) => `(tactic| k_extra "k_ne")
local macro_rules | `(tactic| k_all) => `(tactic| k_extra "k_all")
local macro_rules | `(tactic| k_room) => `(tactic| k_extra "k_room")
local macro_rules | `(tactic| k_units) => `(tactic| k_extra "k_units")
local macro_rules | `(tactic| units_room) => `(tactic| k_extra "units_room")
local macro_rules | `(tactic| k_mem) => `(tactic| k_extra "k_mem")
section
/-- the stack around a call: nothing is being handled -/
noncomputable abbrev top (dp un : Nat) (gd : Option (List Code)) (l : List Env) : Around := { handled := none, depth := dp, frames := some l, guards := gd, units := un }

/-- own objects: in the heap, not in the ground -/
noncomputable def Own (g h : Heap) (own : List (Addr × Obj)) : Prop := ∀ p ∈ own, h.get? p.1 = some p.2 ∧ g.get? p.1 = none

/-- what a call of a def does: vs its arguments, own the objects that it may turn -/
noncomputable def Fn (prog : Program) (w : World) (p : Program) (loose : List Str) (mean : ExcName → Option Value) (mg mb : Str → Option Value) (f : Addr) (d u : Nat) (vs : List Value) (own : List (Addr × Obj))
    (Post : Nat → Value → List (Addr × Obj) → Prop) (Rz : Prop) : Prop :=
  ∀ (dp un : Nat) (gd : Option (List Code)) (l : List Env) (base g : Heap) (s : Shared) (Q E : Value → Shared → Prop),
    dp + d < recursionLimit → un + u < cLine → base.StaysIn g → g.FunFrames base l → (Mine.hd.heap_1_1 w.params).In g → Top p loose mean mg mb g →
    g.StaysIn s.heap → g.objs.size ≤ s.heap.objs.size → Own g s.heap own →
    (∀ r own' h' tk', g.StaysIn h' → Own g h' own' → s.heap.objs.size ≤ h'.objs.size → Post s.heap.objs.size r own' → Q r { s with heap := h', toks := tk' }) →
    (∀ e h' tk', Heap.Flying base l e (.ref 44) h' → Rz → E (.ref e) { s with heap := h', toks := tk' }) →
    wpAny (model prog w) (top dp un gd l) (call (.ref f) vs) Q E s

section
variable {prog : Program} {w : World} {p : Program} {loose : List Str} {mean : ExcName → Option Value} {mg mb : Str → Option Value} {f : Addr} {d u : Nat} {vs : List Value} {own : List (Addr × Obj)}
    {Post : Nat → Value → List (Addr × Obj) → Prop} {Rz : Prop}

theorem Fn.intro {name qual : Str} {params : Arguments} {body : List Stmt} {scope : Scope} {dV kV doc pm cdv ct oc : Value} {an od : Option Addr} {osl : Array (Option Value)} {binds : List (Str × Value)}
    (ho : (Mine.hd.heap_1_1 w.params).lookup f = some ⟨oc, od, .func (fnOf name qual params body scope dV kV doc pm an cdv ct), osl⟩) (hcd : codeIn (Mine.hd.heap_1_1 w.params) cdv qual = true)
    (hbind : ∀ s : Shared, (Mine.hd.heap_1_1 w.params).In s.heap → BindsTo s (fnOf name qual params body scope dV kV doc pm an cdv ct) ⟨vs, []⟩ binds) (hloc : ∀ y ∈ binds, scope.names.lookup y.1 = some .local)
    (hd : 0 < d)
    (h : ∀ (dp un : Nat) (gd : Option (List Code)) (l : List Env) (base g : Heap) (s : Shared) (Q E : Value → Shared → Prop) (L' : Addr) (h₁ : Heap),
      dp + d < recursionLimit → un + u < cLine → Below (top dp un gd l) base l g → Fr g L' h₁ (fun y => binds.reverse.lookup y) → News g L' h₁ own → (∀ p ∈ own, p.1 < L') → (Mine.hd.heap_1_1 w.params).In g → Top p loose mean mg mb g →
      s.heap.objs.size = L' →
      (∀ r own' h' tk', g.StaysIn h' → Own g h' own' → s.heap.objs.size ≤ h'.objs.size → Post s.heap.objs.size r own' → Q r { s with heap := h', toks := tk' }) →
      (∀ e h' tk', Heap.Flying base l e (.ref 44) h' → Rz → E (.ref e) { s with heap := h', toks := tk' }) →
      wpAny (model prog w) ((top dp un gd l).deeper (envOf qual scope L' f cdv)) (execs body (envOf qual scope L' f cdv))
        (fun fl s' => Q (match fl with | .ret v => v | _ => .none) s')
        (fun e s' => wpAny (model prog w) ((top dp un gd l).deeper (envOf qual scope L' f cdv)) (leaving (envOf qual scope L' f cdv) e) (fun _ s'' => E e s'') (fun e' s'' => E e' s'') s')
        { s with heap := h₁, toks := s.toks + binds.length })
    (hco : scope.isCoroutine = false) (hgen : scope.isGenerator = false) (hk : scope.kind = .function) (hcell : ∀ x ∈ scope.names, x.2 ≠ .cell) :
    Fn prog w p loose mean mg mb f d u vs own Post Rz := by
  intro dp un gd l base g s Q E hdp hun hb hfr hX hT hst hsz hown hret herr
  refine wpAny_call ?_
  refine codeAny_call_def (fd := fnOf name qual params body scope dV kV doc pm an cdv ct) (body := body) (binds := binds) (by show dp < _; omega) ((hX.keeps hst) _ _ ho) rfl (hT.nolimit.keeps hst) (codeRec_of (hX.keeps hst) hcd) rfl (hbind s (hX.keeps hst)) hcell hloc (fun h₁ hns hk₁ => ?_) hco hgen hk
  refine h dp un gd l base g s Q E s.heap.objs.size h₁ hdp hun ⟨rfl, hb, hfr⟩ ⟨hns, fun b o e => hk₁ _ _ (hst _ _ e), hsz⟩ (fun p hp => ⟨hk₁ _ _ (hown p hp).1, ?_, (hown p hp).2⟩) (fun p hp => Heap.lt_size (hown p hp).1) hX hT rfl hret herr
  exact Nat.ne_of_lt (Heap.lt_size (hown p hp).1)

theorem Fn.mono {Post' : Nat → Value → List (Addr × Obj) → Prop} {Rz' : Prop} (H : Fn prog w p loose mean mg mb f d u vs own Post Rz) (hP : ∀ b r o, Post b r o → Post' b r o) (hR : Rz → Rz') :
    Fn prog w p loose mean mg mb f d u vs own Post' Rz' := by
  intro dp un gd l base g s Q E hdp hun hb hfr hX hT hst hsz hown hret herr
  exact H dp un gd l base g s Q E hdp hun hb hfr hX hT hst hsz hown (fun r o h' tk' a b c e => hret r o h' tk' a b c (hP _ _ _ e)) (fun e h' tk' a b => herr e h' tk' a (hR b))

theorem Fn.use {dp un : Nat} {gd : Option (List Code)} {env : Env} {outer : List Env} {A₀ : Around} {base h₀ : Heap} {L : Addr} {m : Str → Option Value} {news rest : List (Addr × Obj)} {s : Shared} {Q E : Value → Shared → Prop}
    (H : Fn prog w p loose mean mg mb f d u vs own Post Rz)
    (B : Below A₀ base outer h₀) (F : Fr h₀ L s.heap m) (X : (Mine.hd.heap_1_1 w.params).In h₀) (N : News h₀ L s.heap news) (T : Top p loose mean mg mb h₀)
    (hf : env.frame = some L) (hke : env.scope.kind = .function)
    (h1 : ∀ p ∈ own, p ∈ news) (h2 : ∀ p ∈ rest, p ∈ news) (h3 : ∀ p ∈ own, ∀ q ∈ rest, q.1 ≠ p.1)
    (hd : dp + d < recursionLimit) (hu : un + u < cLine)
    (ret : ∀ r own' h' tk', Fr h₀ L h' m → News h₀ L h' (own' ++ rest) → s.heap.objs.size ≤ h'.objs.size → Post s.heap.objs.size r own' → Q r { s with heap := h', toks := tk' })
    (err : ∀ e h' tk', Heap.Flying base (env :: outer) e (.ref 44) h' → Rz → E (.ref e) { s with heap := h', toks := tk' }) :
    wpAny (model prog w) (top dp un gd (env :: outer)) (call (.ref f) vs) Q E s := by
  have nm : ∀ b o, h₀.get? b = some o → b ∉ own.map (·.1) := fun b o e q => by
    obtain ⟨p, hp, rfl⟩ := List.mem_map.mp q
    rw [(N p (h1 p hp)).2.2] at e; cases e
  have st : h₀.StaysIn (hideAll s.heap (own.map (·.1))) := fun b o e => hideAll_get _ (F.keep b o e) (nm b o e)
  obtain ⟨oL, es, ep, hL, hLd, hLk, hLf⟩ := F.ns
  have nL : L ∉ own.map (·.1) := fun q => by
    obtain ⟨p, hp, e⟩ := List.mem_map.mp q
    exact (N p (h1 p hp)).2.1 e
  have hLg := hideAll_get (own.map (·.1)) hL nL
  have B₁ := pushX B F hf hke
  refine H dp un gd (env :: outer) base (hideAll s.heap (own.map (·.1))) s Q E hd hu (fun b o e => st b o (B.stays b o e)) (funFrames_hideAll B₁.frames fun env' he b hb hf' => ?_) (X.keeps fun b o e => st b o e) (T.keeps fun b o e => st b o e)
    (fun b o e => of_hideAll _ e) (Nat.le_of_eq (hideAll_size _ _)) (fun p hp => ⟨(N p (h1 p hp)).1, hideAll_none _ (List.mem_map_of_mem hp)⟩) (fun r own' h' tk' k1 k2 k3 k4 => ?_) err
  · cases he with
    | head => exact nL ((Option.some.inj (hf.symm.trans hf') : L = b) ▸ hb)
    | tail _ he =>
      obtain ⟨L₁, o₁, hf₁, ho₁⟩ := funFrames_in B.frames env' he
      rw [hf₁] at hf'
      exact nm L₁ o₁ ho₁ ((Option.some.inj hf' : L₁ = b) ▸ hb)
  · refine ret r own' h' tk' ⟨⟨oL, es, ep, k1 L oL hLg, hLd, hLk, hLf⟩, fun b o e => k1 b o (st b o e), F.above⟩ (fun p hp => ?_) k3 k4
    rcases List.mem_append.mp hp with hp | hp
    · refine ⟨(k2 p hp).1, fun q => ?_, ?_⟩
      · have := (k2 p hp).2; rw [q, hLg] at this; cases this
      · cases q : h₀.get? p.1 with
        | none => rfl
        | some o => have := (k2 p hp).2; rw [st _ _ q] at this; cases this
    · have P := N p (h2 p hp)
      refine ⟨k1 _ _ (hideAll_get _ P.1 fun q => ?_), P.2⟩
      obtain ⟨q', hq', e⟩ := List.mem_map.mp q
      exact h3 q' hq' p hp e.symm
end

theorem leave_fly {prog : Program} {w : World} {A : Around} {base : Heap} {env : Env} {outer : List Env} {L e : Addr} {cls : Value} {s : Shared} {E : Value → Shared → Prop} {Q : Unit → Shared → Prop}
    (hfr : A.frames = some (env :: outer)) (hf : env.frame = some L) (hfl : Heap.Flying base (env :: outer) e cls s.heap)
    (h : ∀ h', Heap.Flying base outer e cls h' → Q () { s with heap := h' }) :
    wpAny (model prog w) A (leaving env (.ref e)) Q E s := wpAny_leaves_on hfr hf hfl h
end
section
noncomputable abbrev bmF : List Value := [.ref 31, .type "Exception", .type "BaseException", .type "object"]
noncomputable abbrev exF (t : Addr) (od : Option Addr) : Obj := { cls := .ref 44, dict := od, data := .fields #[.ref t, .none, .none, .none, .bool false, .none] }

/-- the class SheetFault stands in the heap -/
noncomputable def FaultCls (h : Heap) : Prop := ∃ bs sub ab col dd k0 k1 k2 k3 k5,
  h.get? 44 = some (excClassObj (Str.ofString "SheetFault") (Str.ofString "SheetFault") 44 43 bs bmF true [] sub ab col dd k0 k1 k2 k3 k5 "Exception.__new__")
theorem faultCls {w : World} {h : Heap} (X : (Mine.hd.heap_1_1 w.params).In h) : FaultCls h := by
  refine ⟨[.ref 31], [], false, none, none, some (.ref 35), none, some (.str (Str.ofString "SheetFault") 218), some (.str (Str.ofString "SheetFault") 226), some (.bool true), X 44 _ ?_⟩
  k_is

section
variable {prog : Program} {w : World} {A : Around} {E : Value → Shared → Prop} {h : Heap} {g : Array GenState} {d : Drawn} {t : Nat} {os : OsState}
variable {bs : List Value} {sub : List Value} {ab : Bool} {col : Option Bool} {dd : Option Addr} {k0 k1 k2 k3 k5 : Option Value}

theorem check_new_F {M : Model} {rest : List Value} {Q : Unit → Shared → Prop} (hC : h.get? 44 = some (excClassObj (Str.ofString "SheetFault") (Str.ofString "SheetFault") 44 43 bs bmF true [] sub ab col dd k0 k1 k2 k3 k5 "Exception.__new__"))
    (hq : Q () ⟨h, g, d, t, os⟩) : wpAny M A (checkBuiltinCall "Exception.__new__" ⟨.ref 44 :: rest, []⟩) Q E ⟨h, g, d, t, os⟩ := by
  have F := PySem.F.excBase_Exception
  have hcont : (Value.ref 44 :: bmF).contains (.type "Exception") = true := by decide +kernel
  have hstar := F.noStar
  simp only [checkBuiltinCall, F.newKind, F.newSplit, F.newRow]
  repeat (first | refine wpAny_loadPart_at hC ?_ | (refine wpAny_isSubtype_exc hC ?_; rw [hcont]) | refine wpAny_staticBase_exc hC ?_ | refine wpAny_madeBy_exc hC ?_ | simp only [bne_self_eq_false, Bool.false_eq_true, if_false] | wp_step)
  exact hq

theorem exc_new_F {R : Result → Shared → Prop} {rest : List Value} (hC : h.get? 44 = some (excClassObj (Str.ofString "SheetFault") (Str.ofString "SheetFault") 44 43 bs bmF true [] sub ab col dd k0 k1 k2 k3 k5 "Exception.__new__"))
    (hq : R (.ok (.ret (.ref (h.objs.size + 1)))) ⟨(h.push { cls := .type "tuple", data := .seq rest.toArray }).push (exF h.objs.size none), g, d, t, os⟩) (hrest : rest.length ≤ sizeLine) :
    codeAny (model prog w) A (.builtin "Exception.__new__" ⟨.ref 44 :: rest, []⟩) R ⟨h, g, d, t, os⟩ := by
  have F := PySem.F.excBase_Exception
  have hends := F.ends
  have hcB : (Value.ref 44 :: bmF).contains (.type "Exception") = true := by decide +kernel
  have hcA : (Value.ref 44 :: bmF).contains (.type "AttributeError") = false := by decide +kernel
  have hcN : (Value.ref 44 :: bmF).contains (.type "NameError") = false := by decide +kernel
  refine codeAny_builtinAt F.entry ?_
  unfold Builtin.«BaseException.__new__»
  refine PySem.wpAt_bind ?_
  show PySem.wpAt _ _ _ (stack >>= _) _ _ _
  refine PySem.wpAt_bind (PySem.wpAt_stack fun p below => PySem.wpAt_of_wpAny ?_)
  wp_walk
  refine PySem.wpAt_of_wpAny ?_
  rw [F.owner]
  repeat (first | with_reducible refine wpAny_madeHere_exc F.canon hC ?_ | with_reducible refine wpAny_loadPart_at hC ?_ | (with_reducible refine wpAny_isSubtype_exc hC ?_; first | rw [hcB] | rw [hcA] | rw [hcN]) | wp_step)
  show R _ _
  rw [Heap.size_push]
  exact hq

theorem type_call_F {v : Value} {Q : Fin → Shared → Prop} (X : (Mine.hd.heap_1_1 w.params).In h)
    (hC : h.get? 44 = some (excClassObj (Str.ofString "SheetFault") (Str.ofString "SheetFault") 44 43 bs bmF true [] sub ab col dd k0 k1 k2 k3 k5 "Exception.__new__"))
    (hq : ∀ h' e tp, (∀ b o, h.get? b = some o → h'.get? b = some o) → h.get? e = none → h'.get? e = some (exF tp none) → h.objs.size ≤ h'.objs.size →
      wpAny (model prog w) A (call (.ref 28) [.ref e, v]) (fun r s' => r = .none ∧ Q (.done (.ret (.ref e))) s') E ⟨h', g, d, t, os⟩) :
    wpAny (model prog w) A (Builtin.«type.__call__» ⟨.ref 44 :: [v], []⟩) Q E ⟨h, g, d, t, os⟩ := by
  have F := PySem.F.excBase_Exception
  repeat (first | with_reducible refine wpAny_loadPart_at hC ?_ | with_reducible refine wpAny_madeBy_exc hC ?_ | wp_step)
  refine codeAny_call_builtin_code (Code.quiet_builtin _ F.quiet) (check_new_F hC ?_)
  refine exc_new_F hC ?_ (by rw [sizeLine_eq]; simp)
  show wpAny _ _ _ _ _ _
  have keep : ∀ b o, h.get? b = some o → ((h.push { cls := .type "tuple", data := .seq [v].toArray }).push (exF h.objs.size none)).get? b = some o :=
    fun b o e => Heap.get?_push_of_some _ (Heap.get?_push_of_some _ e)
  have hC₁ := keep _ _ hC
  have X₁ := X.keeps keep
  have hget : ((h.push { cls := .type "tuple", data := .seq [v].toArray }).push (exF h.objs.size none)).get? (h.objs.size + 1) = some (exF h.objs.size none) := by heap_get
  have hcC : (Value.ref 44 :: bmF).contains (.ref 44) = true := by simp
  unfold isInstance
  repeat (first | with_reducible refine wpAny_loadPart_at hget ?_ | (with_reducible refine wpAny_isSubtype_exc hC₁ ?_; rw [hcC]) | wp_step)
  show wpAny _ _ (typeLookup (.ref 44) _) _ _ _
  have L1 : Looks (model prog w) ((h.push { cls := .type "tuple", data := .seq [v].toArray }).push (exF h.objs.size none)) (typeLookup (.ref 44) "__init__") (some (.ref 28)) := looks_findIn X₁ (by k_is)
  refine L1.here ?_
  refine wpAny_holding (wpAny_bind ?_)
  refine (bind_fn X₁ _ (by k_is)).here ?_
  refine wpAny_bind (wpAny_mono (hq _ (h.objs.size + 1) h.objs.size keep (Heap.get?_none_of_le (Nat.le_succ _)) hget (by simp only [Heap.size_push]; omega)) (fun r s' hr => ?_) fun _ _ x => x)
  obtain ⟨rfl, hQ⟩ := hr
  wp_walk
  exact hQ

theorem call_F {v : Value} {Q : Value → Shared → Prop} (X : (Mine.hd.heap_1_1 w.params).In h)
    (hq : ∀ h' e tp, (∀ b o, h.get? b = some o → h'.get? b = some o) → h.get? e = none → h'.get? e = some (exF tp none) → h.objs.size ≤ h'.objs.size →
      wpAny (model prog w) (A.under (.builtin "type.__call__" ⟨.ref 44 :: [v], []⟩)) (call (.ref 28) [.ref e, v]) (fun r s' => r = .none ∧ Q (.ref e) s') E ⟨h', g, d, t, os⟩) :
    wpAny (model prog w) A (call (.ref 44) [v]) Q E ⟨h, g, d, t, os⟩ := by
  obtain ⟨bs, sub, ab, col, dd, k0, k1, k2, k3, k5, hC⟩ := faultCls X
  have f1 := tc_lookup
  have f2 := tc_bind (.ref 44)
  have hT : (⟨h, g, d, t, os⟩ : Shared).TypeIs (.ref 44) "type" := ⟨_, hC, rfl⟩
  refine wpAny_call (codeAny_of_tree ?_)
  show wpAny _ _ (callAny (.ref 44) _) _ _ _
  repeat (any_goals (first | assumption | with_reducible refine wpAny_loadPart_at hC ?_ | wp_step))
  refine ⟨rfl, ?_⟩
  refine codeAny_call_builtin_at (Code.quiet_builtin _ (by decide +kernel)) entry_typeCall (wpAny_check_type_call_sub hC (type_call_F X hC fun h' e tp k1 k2 k3 k4 => ?_))
  exact hq h' e tp k1 k2 k3 k4
end
end
section
section
variable {prog : Program} {w : World} {A : Around} {E : Value → Shared → Prop}

theorem exc_set {h₀ : Heap} {L e tp : Addr} {m : Str → Option Value} {s : Shared} {v : Value} {Q : Unit → Shared → Prop} (F : Fr h₀ L s.heap m) (N : News h₀ L s.heap [(e, exF tp none)]) (X₀ : (Mine.hd.heap_1_1 w.params).In h₀)
    (h : ∀ h' tk' dx, Fr h₀ L h' m → News h₀ L h' [(e, exF tp (some dx))] → Q () { s with heap := h', toks := tk' }) :
    wpAny (model prog w) A (setAttr (.ref e) (Str.ofString "message") v) Q E s := by
  have X := X₀.keeps F.keep
  have hx : s.heap.get? e = some (exF tp none) := (N _ (.head _)).1
  have heL : e ≠ L := (N _ (.head _)).2.1
  have he0 : h₀.get? e = none := (N _ (.head _)).2.2
  have I : PySem.W.InstAt s.heap e (exF tp none) 44 none := ⟨hx, rfl, rfl, trivial⟩
  have SF := PySem.F.store_Exception
  obtain ⟨hh, g, d, t, os⟩ := s
  dsimp only at hx X F N I h ⊢
  refine set_plain X I (by k_is) ?_
  have hc : ∃ cd, clsIn (Mine.hd.heap_1_1 w.params) 44 = some cd ∧ cd.mro = .ref 44 :: bmF ∧ cd.hasDict = true := ⟨_, by k_is, rfl, rfl⟩
  obtain ⟨cd, hc, hmro, hdict⟩ := hc
  have sub : Looks (model prog w) hh (isInstance (.ref e) (.type "object")) true := I.type.andThen (looks_mroIn X (by k_is))
  have hm : Looks (model prog w) hh (mroOf (.ref 44)) (.ref 44 :: bmF) := hmro ▸ (looks_clsIn X hc).andThen .now
  refine codeAny_call_builtin SF.slot.plain SF.entry (@check_slot (model prog w) _ _ ⟨hh, g, d, t + 1, os⟩ "object.__setattr__" "object" "__setattr__" (.ref e) [.str (Str.ofString "message") t, v] [] _ SF.kind SF.split sub (SF.args (.ref e) (.str (Str.ofString "message") t) v) ?_)
  rw [osa_eq, refuse_eq]
  refine wpAny_bind (wpAny_bind (I.type.here (wpAny_bind (hm.here ?_))))
  rw [refuseLoop_ref, refuseLoop_ref, SF.passes]
  have ha : Looks (model prog w) hh (typeLookup (.ref 44) (Str.ofString "message")) none := looks_findIn X (by k_is)
  refine wpAny_pure (wpAny_bind (I.type.here (wpAny_bind (ha.here (wpAny_bind (wpAny_pure ?_))))))
  have hxs : e ≠ hh.objs.size := Nat.ne_of_lt (Heap.lt_size hx)
  refine wpAny_bind (wpAny_pure (wpAny_bind (wpAny_bind (wpAny_loadPart hx (wpAny_bind ((looks_clsIn X hc).here ?_))))))
  rw [hdict]
  have hx₁ : (hh.push { cls := .type "dict", data := .dict #[] }).get? e = some (exF tp none) := Heap.get?_push_of_some _ hx
  refine wpAny_bind (wpAny_alloc ?_)
  refine wpAny_bind (wpAny_update hx₁ ?_)
  refine wpAny_pure ?_
  have hgd : ((hh.push { cls := .type "dict", data := .dict #[] }).update e fun o => { o with dict := some hh.objs.size }).get? hh.objs.size
      = some { cls := .type "dict", data := .dict #[] } :=
    (Heap.get?_update_ne _ _ _ _ hxs.symm).trans (Heap.get?_push_at rfl rfl)
  have hnd : ((hh.push { cls := .type "dict", data := .dict #[] }).update e fun o => { o with dict := some hh.objs.size }).Ns hh.objs.size (fun _ => none) :=
    ⟨_, #[], _, hgd, rfl, fun e he => absurd he (by simp), fun _ => rfl⟩
  show wpAny _ _ (Builtin.ObjectAttr.storeInDict hh.objs.size (.str (Str.ofString "message") t) (Str.ofString "message") v) _ _ _
  unfold Builtin.ObjectAttr.storeInDict Builtin.ObjectAttr.newKeyGuard
  refine wpAny_bind (wpAny_pure (wpAny_bind (wpAny_nsSet1 (Heap.Ns1.of_empty hnd) fun h' hn' hs => ?_)))
  obtain ⟨oD, esD, epD, hoD, hdD, hcD⟩ := hn'.count (Within.cons (Str.ofString "message") v Within.nil)
  refine wpAny_bind (wpAny_lookBehind hoD (by rw [hdD]; exact pastItsLine_dict (Nat.le_trans hcD (by rw [List.length_cons, List.length_nil, sizeLine_eq]; omega))) ?_)
  refine wpAny_pure ?_
  have hb : ∀ b o, b ≠ e → hh.get? b = some o → h'.get? b = some o := fun b ob hbx hb =>
    (hs.2 b (Nat.ne_of_lt (Heap.lt_size hb))).trans ((Heap.get?_update_ne _ _ _ _ hbx).trans (Heap.get?_push_of_some _ hb))
  have hx' : h'.get? e = some (exF tp (some hh.objs.size)) := (hs.2 e hxs).trans (Heap.get?_update_self _ hx₁ rfl)
  obtain ⟨oL, es, ep, hL, r⟩ := F.ns
  refine h h' _ hh.objs.size ⟨⟨oL, es, ep, hb _ _ (Ne.symm heL) hL, r⟩, fun b o q => hb b o (fun z => by rw [z, he0] at q; cases q) (F.keep b o q), F.above⟩ (fun p hp => ?_)
  rw [List.mem_singleton.mp hp]
  exact ⟨hx', heL, he0⟩
end
end
section
theorem own_of {g h : Heap} {L : Addr} {l : List (Addr × Obj)} (N : News g L h l) : Own g h l := fun p hp => ⟨(N p hp).1, (N p hp).2.2⟩
theorem size_of {g h : Heap} {L n : Addr} {m : Str → Option Value} (F : Fr g L h m) (e : n = L) : n ≤ h.objs.size := by
  obtain ⟨o, _, _, ho, _⟩ := F.ns
  exact e ▸ Nat.le_of_lt (Heap.lt_size ho)

section
variable {prog : Program} {w : World} {p : Program} {loose : List Str} {mean : ExcName → Option Value} {mg mb : Str → Option Value}
local macro_rules | `(tactic| walk_at "setAttr ref") => `(tactic| (k_here; refine' exc_set ?F ?N ?X ?_; (case F => k_asm); (case N => k_asm); (case X => k_asm); intro h' tk' dx' F' N'))
set_option maxHeartbeats 8000000 in
theorem mill_fn {e tp : Addr} {v : Value} :
    Fn prog w p loose mean mg mb 28 1 10 [.ref e, v] [(e, exF tp none)] (fun _ r o => r = .none ∧ ∃ dx, o = [(e, exF tp (some dx))]) False := by
  refine' Fn.intro (binds := [(Str.ofString "self", .ref e), (Str.ofString "message", v)]) ?ho ?hcd ?hb ?hl ?hd ?_ ?c2 ?c3 ?c4 ?c5
  (case ho => k_is)
  (case hcd => k_is)
  (case hb => (intro s0 hX0; exact BindsTo.of_eq rfl))
  (case hl => exact locs rfl)
  (case hd => decide)
  (case c2 => exact rfl)
  (case c3 => exact rfl)
  (case c4 => exact rfl)
  (case c5 => decide)
  intro dp un gd l base g s Q E L' h₁ hdp hun B F N hlt X T hL hret herr
  (try dsimp only)
  (try k_fold)
  k_steps
  all_goals (refine hret _ _ _ _ (Fr.keep (by assumption)) (own_of (by assumption)) (size_of (by assumption) hL) ?_)
  exact ⟨rfl, _, rfl⟩

theorem under_call {dp un : Nat} {gd : Option (List Code)} {l : List Env} {v : Value} :
    (top dp un gd l).under (.builtin "type.__call__" ⟨.ref 44 :: [v], []⟩) = top (dp + 1) (un + 1) gd l := by
  unfold Around.under top
  rfl

theorem fault_use {dp un : Nat} {gd : Option (List Code)} {env : Env} {outer : List Env} {A₀ : Around} {base h₀ : Heap} {L : Addr} {m : Str → Option Value} {news : List (Addr × Obj)} {s : Shared} {Q E : Value → Shared → Prop} {v : Value}
    (B : Below A₀ base outer h₀) (F : Fr h₀ L s.heap m) (X : (Mine.hd.heap_1_1 w.params).In h₀) (N : News h₀ L s.heap news) (T : Top p loose mean mg mb h₀)
    (hf : env.frame = some L) (hke : env.scope.kind = .function) (hd : dp + 2 < recursionLimit) (hu : un + 11 < cLine)
    (ret : ∀ e tp dx h' tk', Fr h₀ L h' m → News h₀ L h' ((e, exF tp (some dx)) :: news) → Q (.ref e) { s with heap := h', toks := tk' }) :
    wpAny (model prog w) (top dp un gd (env :: outer)) (call (.ref 44) [v]) Q E s := by
  obtain ⟨h, g, d, t, os⟩ := s
  dsimp only at F N ret
  refine call_F (X.keeps F.keep) fun h' e tp k1 k2 k3 k4 => ?_
  rw [under_call]
  obtain ⟨oL, es, ep, hL, r⟩ := F.ns
  have heL : e ≠ L := fun q => by rw [q, hL] at k2; cases k2
  have he0 : h₀.get? e = none := by
    cases q : h₀.get? e with
    | none => rfl
    | some o => rw [F.keep _ _ q] at k2; cases k2
  have F' : Fr h₀ L h' m := ⟨⟨oL, es, ep, k1 _ _ hL, r⟩, fun b o q => k1 _ _ (F.keep b o q), F.above⟩
  have N' : News h₀ L h' ((e, exF tp none) :: news) := fun q hq => by
    rcases List.mem_cons.mp hq with rfl | hq
    · exact ⟨k3, heL, he0⟩
    · exact ⟨k1 _ _ (N q hq).1, (N q hq).2⟩
  refine Fn.use (s := ⟨h', g, d, t, os⟩) (own := [(e, exF tp none)]) (rest := news) mill_fn B F' X N' T hf hke (fun q hq => by rw [List.mem_singleton.mp hq]; exact .head _) (fun q hq => .tail _ hq) (fun q hq r hr => ?_) (by omega) (by omega) (fun r own' h'' tk' F'' N'' _ hp => ?_) (fun _ _ _ _ h => h.elim)
  · rw [List.mem_singleton.mp hq]
    intro z
    have := (N r hr).1
    rw [z] at this
    dsimp only at this
    rw [k2] at this; cases this
  · obtain ⟨rfl, dx, rfl⟩ := hp
    exact ⟨rfl, ret e tp dx h'' tk' F'' N''⟩

/-- what a raise statement wants of its value -/
noncomputable def RaiseBack (E : Value → Shared → Prop) (v : Value) (s : Shared) : Prop := ∃ e tp od, v = .ref e ∧ FaultCls s.heap ∧ s.heap.get? e = some (exF tp od) ∧ E (.ref e) s

theorem raise_stmt {A : Around} {env : Env} {x : Expr} {pos : Pos} {s : Shared} {Q : Flow → Shared → Prop} {E : Value → Shared → Prop} (hh : A.handled = none)
    (h : wpAny (model prog w) A (eval x env) (fun v s₁ => RaiseBack E v s₁) E s) : wpAny (model prog w) A (exec (.Raise (some x) none pos) env) Q E s := by
  rw [arm_exec_Raise]
  simp only [evalOpt, Option.map]
  refine wpAny_bind (wpAny_standAt ?_)
  unfold raiseStmt
  refine wpAny_bind (wpAny_bind (wpAny_mono h (fun v s₁ h₁ => ?_) fun _ _ x => x))
  obtain ⟨e, tp, od, rfl, ⟨bs, sub, ab, col, dd, k0, k1, k2, k3, k5, hC⟩, he, hE⟩ := h₁
  have hcB : (Value.ref 44 :: bmF).contains (.type "BaseException") = true := by decide +kernel
  refine wpAny_bind (wpAny_standAt (wpAny_pure ?_))
  obtain ⟨hp, g, d, tk, os⟩ := s₁
  repeat (first | with_reducible refine wpAny_loadPart_at he ?_ | with_reducible refine wpAny_loadPart_at hC ?_ | (with_reducible refine wpAny_isSubtype_exc hC ?_; rw [hcB]) | wp_step)
  exact wpAny_raiseNew_none hh hE

theorem leave_new_F {A₀ : Around} {base h₀ : Heap} {outer : List Env} {L : Addr} {m : Str → Option Value} {env : Env} {s : Shared} {e tp : Addr} {od : Option Addr} {Q : Unit → Shared → Prop} {E : Value → Shared → Prop} {M : Model} {news : List (Addr × Obj)}
    (B : Below A₀ base outer h₀) (F : Fr h₀ L s.heap m) (N : News h₀ L s.heap news) (hm : (e, exF tp od) ∈ news) (hf : env.frame = some L) (hk : env.scope.kind = .function)
    (h : ∀ h', Heap.Flying base outer e (.ref 44) h' → Q () { s with heap := h' }) :
    wpAny M (A₀.deeper env) (leaving env (.ref e)) Q E s := by
  have B' := pushX (env := env) B F hf hk
  have he0 : base.get? e = none := by
    cases q : base.get? e with
    | none => rfl
    | some o => have := B.stays _ _ q; rw [(N _ hm).2.2] at this; cases this
  refine wpAny_leaving_first B'.stack B'.frames hf (N _ hm).1 B'.stays he0 rfl rfl fun h' hL => ?_
  obtain ⟨k1, ⟨_, _, k2⟩, k3, _⟩ := hL
  exact h h' ⟨k1, he0, k2, k3⟩
end
end
section
/-- p taken out of a ledger leaves a rest -/
inductive Take1 (p : Addr × Obj) : List (Addr × Obj) → List (Addr × Obj) → Prop
  | head {r : List (Addr × Obj)} : Take1 p (p :: r) r
  | tail {q : Addr × Obj} {r r' : List (Addr × Obj)} : Take1 p r r' → Take1 p (q :: r) (q :: r')
inductive Takes : List (Addr × Obj) → List (Addr × Obj) → List (Addr × Obj) → Prop
  | nil {r : List (Addr × Obj)} : Takes [] r r
  | cons {p : Addr × Obj} {own r r' r'' : List (Addr × Obj)} : Take1 p r r' → Takes own r' r'' → Takes (p :: own) r r''
  | all {l : List (Addr × Obj)} : Takes l l []
  | skip {q : Addr × Obj} {own r r' : List (Addr × Obj)} : Takes own r r' → Takes own (q :: r) (q :: r')
  | app {X own r r' : List (Addr × Obj)} : Takes own r r' → Takes own (X ++ r) (X ++ r')
  | fst {X own r r' : List (Addr × Obj)} : Takes own r r' → Takes (X ++ own) (X ++ r) r'
theorem Take1.mem {p : Addr × Obj} {r r' : List (Addr × Obj)} (h : Take1 p r r') : p ∈ r ∧ ∀ q ∈ r', q ∈ r := by
  induction h with
  | head => exact ⟨.head _, fun q hq => .tail _ hq⟩
  | tail _ ih => exact ⟨.tail _ ih.1, fun q hq => by
      rcases List.mem_cons.mp hq with rfl | hq
      · exact .head _
      · exact .tail _ (ih.2 q hq)⟩
theorem Takes.mem {own r r' : List (Addr × Obj)} (h : Takes own r r') : (∀ p ∈ own, p ∈ r) ∧ ∀ q ∈ r', q ∈ r := by
  induction h with
  | nil => exact ⟨fun _ h => (nomatch h), fun _ h => h⟩
  | cons h1 _ ih =>
    refine ⟨fun p hp => ?_, fun q hq => h1.mem.2 _ (ih.2 q hq)⟩
    rcases List.mem_cons.mp hp with rfl | hp
    · exact h1.mem.1
    · exact h1.mem.2 _ (ih.1 p hp)
  | all => exact ⟨fun _ h => h, fun _ h => (nomatch h)⟩
  | skip _ ih =>
    refine ⟨fun p hp => .tail _ (ih.1 p hp), fun q hq => ?_⟩
    rcases List.mem_cons.mp hq with rfl | hq
    · exact .head _
    · exact .tail _ (ih.2 q hq)
  | app _ ih =>
    refine ⟨fun p hp => List.mem_append_right _ (ih.1 p hp), fun q hq => ?_⟩
    rcases List.mem_append.mp hq with hq | hq
    · exact List.mem_append_left _ hq
    · exact List.mem_append_right _ (ih.2 q hq)
  | fst _ ih =>
    refine ⟨fun p hp => ?_, fun q hq => List.mem_append_right _ (ih.2 q hq)⟩
    rcases List.mem_append.mp hp with hp | hp
    · exact List.mem_append_left _ hp
    · exact List.mem_append_right _ (ih.1 p hp)

/-- no place of the list is a -/
noncomputable def NeAll (a : Addr) : List (Addr × Obj) → Prop
  | [] => True
  | (b, _) :: r => b ≠ a ∧ NeAll a r
noncomputable def Apart : List (Addr × Obj) → List (Addr × Obj) → Prop
  | [], _ => True
  | p :: own, rest => NeAll p.1 rest ∧ Apart own rest
theorem neAll_of {a : Addr} {l : List (Addr × Obj)} (h : NeAll a l) : ∀ q ∈ l, q.1 ≠ a := by
  induction l with
  | nil => exact fun _ h => (nomatch h)
  | cons q r ih =>
    intro q' hq
    rcases List.mem_cons.mp hq with rfl | hq
    · exact h.1
    · exact ih h.2 q' hq
theorem neAll_mk {a : Addr} : ∀ {l : List (Addr × Obj)}, (∀ q ∈ l, q.1 ≠ a) → NeAll a l
  | [], _ => trivial
  | q :: _, h => ⟨h q (.head _), neAll_mk fun q' hq => h q' (.tail _ hq)⟩
theorem neAll_app {a : Addr} {l l' : List (Addr × Obj)} (h1 : NeAll a l) (h2 : NeAll a l') : NeAll a (l ++ l') := neAll_mk fun q hq => by
  rcases List.mem_append.mp hq with hq | hq
  · exact neAll_of h1 q hq
  · exact neAll_of h2 q hq
theorem apart_of {own rest : List (Addr × Obj)} (h : Apart own rest) : ∀ p ∈ own, ∀ q ∈ rest, q.1 ≠ p.1 := by
  induction own with
  | nil => exact fun _ h => (nomatch h)
  | cons p r ih =>
    intro p' hp
    rcases List.mem_cons.mp hp with rfl | hp
    · exact neAll_of h.1
    · exact ih h.2 p' hp
theorem apart_mk : ∀ {own rest : List (Addr × Obj)}, (∀ p ∈ own, ∀ q ∈ rest, q.1 ≠ p.1) → Apart own rest
  | [], _, _ => trivial
  | p :: _, _, h => ⟨neAll_mk (h p (.head _)), apart_mk fun p' hp => h p' (.tail _ hp)⟩
theorem apart_swap {own rest : List (Addr × Obj)} (h : Apart rest own) : Apart own rest := apart_mk fun p hp q hq e => apart_of h q hq p hp e.symm
section
variable {x1 x2 x3 x4 x5 x6 x7 x8 x9 x10 x11 x12 a b : Prop}
theorem pj0 (h : a ∧ b) : a := h.1
theorem pj1 (h : x1 ∧ a ∧ b) : a := h.2.1
theorem pj2 (h : x1 ∧ x2 ∧ a ∧ b) : a := h.2.2.1
theorem pj3 (h : x1 ∧ x2 ∧ x3 ∧ a ∧ b) : a := h.2.2.2.1
theorem pj4 (h : x1 ∧ x2 ∧ x3 ∧ x4 ∧ a ∧ b) : a := h.2.2.2.2.1
theorem pj5 (h : x1 ∧ x2 ∧ x3 ∧ x4 ∧ x5 ∧ a ∧ b) : a := h.2.2.2.2.2.1
theorem pj6 (h : x1 ∧ x2 ∧ x3 ∧ x4 ∧ x5 ∧ x6 ∧ a ∧ b) : a := h.2.2.2.2.2.2.1
theorem pj7 (h : x1 ∧ x2 ∧ x3 ∧ x4 ∧ x5 ∧ x6 ∧ x7 ∧ a ∧ b) : a := h.2.2.2.2.2.2.2.1
theorem pj8 (h : x1 ∧ x2 ∧ x3 ∧ x4 ∧ x5 ∧ x6 ∧ x7 ∧ x8 ∧ a ∧ b) : a := h.2.2.2.2.2.2.2.2.1
theorem pj9 (h : x1 ∧ x2 ∧ x3 ∧ x4 ∧ x5 ∧ x6 ∧ x7 ∧ x8 ∧ x9 ∧ a ∧ b) : a := h.2.2.2.2.2.2.2.2.2.1
theorem pj10 (h : x1 ∧ x2 ∧ x3 ∧ x4 ∧ x5 ∧ x6 ∧ x7 ∧ x8 ∧ x9 ∧ x10 ∧ a ∧ b) : a := h.2.2.2.2.2.2.2.2.2.2.1
theorem pj11 (h : x1 ∧ x2 ∧ x3 ∧ x4 ∧ x5 ∧ x6 ∧ x7 ∧ x8 ∧ x9 ∧ x10 ∧ x11 ∧ a ∧ b) : a := h.2.2.2.2.2.2.2.2.2.2.2.1
theorem lk1 (h : x1 ∧ a) : a := h.2
theorem lk2 (h : x1 ∧ x2 ∧ a) : a := h.2.2
theorem lk3 (h : x1 ∧ x2 ∧ x3 ∧ a) : a := h.2.2.2
theorem lk4 (h : x1 ∧ x2 ∧ x3 ∧ x4 ∧ a) : a := h.2.2.2.2
theorem lk5 (h : x1 ∧ x2 ∧ x3 ∧ x4 ∧ x5 ∧ a) : a := h.2.2.2.2.2
theorem lk6 (h : x1 ∧ x2 ∧ x3 ∧ x4 ∧ x5 ∧ x6 ∧ a) : a := h.2.2.2.2.2.2
theorem lk7 (h : x1 ∧ x2 ∧ x3 ∧ x4 ∧ x5 ∧ x6 ∧ x7 ∧ a) : a := h.2.2.2.2.2.2.2
end
theorem neAll_lt {D : Addr} {l : List (Addr × Obj)} (h : AllLt D l) : NeAll D l := by
  induction l with
  | nil => trivial
  | cons p r ih => exact ⟨Nat.ne_of_lt h.1, ih h.2⟩
theorem room3 {a n j m k : Nat} (h : a + n < k) (e : Nat.ble (j + m) n = true) : a + j + m < k := by
  have := Nat.le_of_ble_eq_true e
  omega
theorem room_le {a n m k : Nat} (h : a + n < k) (e : Nat.ble m n = true) : a + m < k := by
  have := Nat.le_of_ble_eq_true e
  omega
theorem le_mil {n : Nat} (h : n ≤ 100000) : n ≤ 1000000 := Nat.le_trans h (by decide)
theorem Fr.congr {g h : Heap} {L : Addr} {m m' : Str → Option Value} (F : Fr g L h m) (e : ∀ y, m y = m' y) : Fr g L h m' := funext e ▸ F
/-- the tokens drawn so far, named -/
theorem gen_toks {α : Type} {M : Model} {A : Around} {x : Sem α} {Q : α → Shared → Prop} {E : Value → Shared → Prop} {s : Shared} (h : ∀ t, wpAny M A x Q E { s with toks := t }) : wpAny M A x Q E s := h s.toks
theorem allLt_up {a b : Nat} {l : List (Addr × Obj)} (h : AllLt a l) (e : a ≤ b) : AllLt b l := by
  induction l with
  | nil => trivial
  | cons p r ih => exact ⟨Nat.lt_of_lt_of_le h.1 e, ih h.2⟩
theorem lt_up {L a b : Nat} {l : List (Addr × Obj)} (h : @LT.lt Nat _ L a ∧ AllLt a l) (e : @LE.le Nat _ a b) : @LT.lt Nat _ L b ∧ AllLt b l := ⟨Nat.lt_of_lt_of_le h.1 e, allLt_up h.2 e⟩
/-- two texts one behind the other: a bound of the whole -/
theorem add_le {prog : Program} {w : World} {A : Around} {E : Value → Shared → Prop} {s : Shared} {x y : Str} {t u : Tok} {a b : Nat} {Q : Value → Shared → Prop} (hx : x.length ≤ a) (hy : y.length ≤ b) (hc : a + b ≤ 1000000)
    (h : ∀ t' k, (x ++ y).length ≤ a + b → Q (.str (x ++ y) t') { s with toks := k }) : wpAny (model prog w) A (binaryOp .Add (.str x t) (.str y u)) Q E s :=
  SBL.add (fun t' k g => h t' k (Nat.le_trans g.2 (Nat.add_le_add hx hy))) (by rw [sizeLine_eq]; omega)
/-- what a call gives back, told by what follows from it -/
noncomputable def PK (K : Nat → (Value → List (Addr × Obj) → Prop) → Prop) (b : Nat) (r : Value) (o : List (Addr × Obj)) : Prop := ∀ C, K b C → C r o

theorem own_takes {g h : Heap} {L : Addr} {l own rest : List (Addr × Obj)} (N : News g L h l) (tk : Takes own l rest) : Own g h own := fun p hp => own_of N p (tk.mem.1 p hp)
section
variable {prog : Program} {w : World} {p : Program} {loose : List Str} {mean : ExcName → Option Value} {mg mb : Str → Option Value}

variable {f : Addr} {d u : Nat} {vs : List Value} {own : List (Addr × Obj)} {Post : Nat → Value → List (Addr × Obj) → Prop} {Rz : Prop}
theorem Fn.use2 {dp un : Nat} {gd : Option (List Code)} {env : Env} {outer : List Env} {A₀ : Around} {base h₀ : Heap} {L : Addr} {m : Str → Option Value} {news rest : List (Addr × Obj)} {s : Shared} {Q E : Value → Shared → Prop}
    (H : Fn prog w p loose mean mg mb f d u vs own Post Rz)
    (B : Below A₀ base outer h₀) (F : Fr h₀ L s.heap m) (X : (Mine.hd.heap_1_1 w.params).In h₀) (N : News h₀ L s.heap news) (T : Top p loose mean mg mb h₀)
    (hf : env.frame = some L) (hke : env.scope.kind = .function)
    (tk : Takes own news rest) (h3 : ∀ p ∈ own, ∀ q ∈ rest, q.1 ≠ p.1)
    (hd : dp + d < recursionLimit) (hu : un + u < cLine)
    (ret : ∀ r own' h' tk', Fr h₀ L h' m → News h₀ L h' (own' ++ rest) → s.heap.objs.size ≤ h'.objs.size → (∀ q ∈ news, q.1 < s.heap.objs.size) → Post s.heap.objs.size r own' → Q r { s with heap := h', toks := tk' })
    (err : ∀ e h' tk', Heap.Flying base (env :: outer) e (.ref 44) h' → Rz → E (.ref e) { s with heap := h', toks := tk' }) :
    wpAny (model prog w) (top dp un gd (env :: outer)) (call (.ref f) vs) Q E s :=
  Fn.use H B F X N T hf hke tk.mem.1 tk.mem.2 h3 hd hu (fun r o h' tk' a b c e => ret r o h' tk' a b c (fun q hq => Heap.lt_size (N q hq).1) e) err
end
section
variable {prog : Program} {w : World} {p : Program} {loose : List Str} {mean : ExcName → Option Value} {mg mb : Str → Option Value}

variable {f : Addr} {d u : Nat} {vs : List Value} {own : List (Addr × Obj)} {K : Nat → (Value → List (Addr × Obj) → Prop) → Prop} {Rz : Prop}
variable {dp un : Nat} {gd : Option (List Code)} {env : Env} {outer : List Env} {A₀ : Around} {base h₀ : Heap} {L : Addr} {m : Str → Option Value} {news rest : List (Addr × Obj)} {s : Shared} {Q E : Value → Shared → Prop}
/-- a call: what follows from what it gives back, and what follows from its fault -/
theorem Fn.useK (H : Fn prog w p loose mean mg mb f d u vs own (PK K) Rz)
    (B : Below A₀ base outer h₀) (F : Fr h₀ L s.heap m) (X : (Mine.hd.heap_1_1 w.params).In h₀) (N : News h₀ L s.heap news) (T : Top p loose mean mg mb h₀)
    (hf : env.frame = some L) (hke : env.scope.kind = .function)
    (tk : Takes own news rest) (h3 : Apart own rest)
    (hd : dp + d < recursionLimit) (hu : un + u < cLine)
    (ret : K s.heap.objs.size (fun r own' => ∀ h' tk', Fr h₀ L h' m → News h₀ L h' (own' ++ rest) → @LT.lt Nat _ L s.heap.objs.size ∧ AllLt s.heap.objs.size news → Q r { s with heap := h', toks := tk' }))
    (err : ∀ e h' tk', Heap.Flying base (env :: outer) e (.ref 44) h' → Rz → E (.ref e) { s with heap := h', toks := tk' }) :
    wpAny (model prog w) (top dp un gd (env :: outer)) (call (.ref f) vs) Q E s :=
  Fn.use2 H B F X N T hf hke tk (apart_of h3) hd hu (fun r o h' tk' a b _ e g => g _ ret h' tk' a b ⟨by obtain ⟨_, _, _, ho, _⟩ := F.ns; exact Heap.lt_size ho, allLt_of e⟩) err
theorem Fn.useOk (H : Fn prog w p loose mean mg mb f d u vs own (PK K) False)
    (B : Below A₀ base outer h₀) (F : Fr h₀ L s.heap m) (X : (Mine.hd.heap_1_1 w.params).In h₀) (N : News h₀ L s.heap news) (T : Top p loose mean mg mb h₀)
    (hf : env.frame = some L) (hke : env.scope.kind = .function)
    (tk : Takes own news rest) (h3 : Apart own rest)
    (hd : dp + d < recursionLimit) (hu : un + u < cLine)
    (ret : K s.heap.objs.size (fun r own' => ∀ h' tk', Fr h₀ L h' m → News h₀ L h' (own' ++ rest) → @LT.lt Nat _ L s.heap.objs.size ∧ AllLt s.heap.objs.size news → Q r { s with heap := h', toks := tk' })) :
    wpAny (model prog w) (top dp un gd (env :: outer)) (call (.ref f) vs) Q E s :=
  Fn.useK H B F X N T hf hke tk h3 hd hu ret fun _ _ _ _ z => z.elim
/-- a call that does not come back -/
theorem Fn.useBad (H : Fn prog w p loose mean mg mb f d u vs own (fun _ _ _ => False) Rz)
    (B : Below A₀ base outer h₀) (F : Fr h₀ L s.heap m) (X : (Mine.hd.heap_1_1 w.params).In h₀) (N : News h₀ L s.heap news) (T : Top p loose mean mg mb h₀)
    (hf : env.frame = some L) (hke : env.scope.kind = .function)
    (tk : Takes own news rest) (h3 : Apart own rest)
    (hd : dp + d < recursionLimit) (hu : un + u < cLine)
    (err : ∀ e h' tk', Heap.Flying base (env :: outer) e (.ref 44) h' → E (.ref e) { s with heap := h', toks := tk' }) :
    wpAny (model prog w) (top dp un gd (env :: outer)) (call (.ref f) vs) Q E s :=
  Fn.use2 H B F X N T hf hke tk (apart_of h3) hd hu (fun _ _ _ _ _ _ _ _ z => z.elim) fun e h' tk' a _ => err e h' tk' a
end
/-- as Fn.intro, for a def with captured locals -/
theorem Fn.introC {prog : Program} {w : World} {p : Program} {loose : List Str} {mean : ExcName → Option Value} {mg mb : Str → Option Value} {f : Addr} {d u : Nat} {vs : List Value} {own : List (Addr × Obj)}
    {Post : Nat → Value → List (Addr × Obj) → Prop} {Rz : Prop} {name qual : Str} {params : Arguments} {body : List Stmt} {scope : Scope} {dV kV doc pm cdv ct oc : Value} {an od : Option Addr} {osl : Array (Option Value)} {binds : List (Str × Value)}
    (ho : (Mine.hd.heap_1_1 w.params).lookup f = some ⟨oc, od, .func (fnOf name qual params body scope dV kV doc pm an cdv ct), osl⟩) (hcd : codeIn (Mine.hd.heap_1_1 w.params) cdv qual = true)
    (hbind : ∀ s : Shared, (Mine.hd.heap_1_1 w.params).In s.heap → BindsTo s (fnOf name qual params body scope dV kV doc pm an cdv ct) ⟨vs, []⟩ binds)
    (hkind : (binds.all fun y => scope.names.lookup y.1 == some .local || scope.names.lookup y.1 == some .cell) = true)
    (hnd : ((cellsFrom 0 scope.names []).map (·.1)).Nodup) (hd : 0 < d)
    (h : ∀ (dp un : Nat) (gd : Option (List Code)) (l : List Env) (base g : Heap) (s : Shared) (Q E : Value → Shared → Prop) (L' : Addr) (h₁ : Heap) (tk : Nat) (cells : List (Addr × Obj)),
      dp + d < recursionLimit → un + u < cLine → Below (top dp un gd l) base l g → Fr g L' h₁ (bindL (envOfC qual scope L' f cdv).kindOf binds fun _ => none) → News g L' h₁ (cells ++ own) →
      CellsAre (bindC (envOfC qual scope L' f cdv).kindOf binds fun _ => none) (cellsFrom (L' + 1) scope.names []) cells →
      (∀ p ∈ own, p.1 < L') → (Mine.hd.heap_1_1 w.params).In g → Top p loose mean mg mb g →
      s.heap.objs.size = L' →
      (∀ r own' h' tk', g.StaysIn h' → Own g h' own' → s.heap.objs.size ≤ h'.objs.size → Post s.heap.objs.size r own' → Q r { s with heap := h', toks := tk' }) →
      (∀ e h' tk', Heap.Flying base l e (.ref 44) h' → Rz → E (.ref e) { s with heap := h', toks := tk' }) →
      wpAny (model prog w) ((top dp un gd l).deeper (envOfC qual scope L' f cdv)) (execs body (envOfC qual scope L' f cdv))
        (fun fl s' => Q (match fl with | .ret v => v | _ => .none) s')
        (fun e s' => wpAny (model prog w) ((top dp un gd l).deeper (envOfC qual scope L' f cdv)) (leaving (envOfC qual scope L' f cdv) e) (fun _ s'' => E e s'') (fun e' s'' => E e' s'') s')
        { s with heap := h₁, toks := tk })
    (hco : scope.isCoroutine = false) (hgen : scope.isGenerator = false) (hk : scope.kind = .function) :
    Fn prog w p loose mean mg mb f d u vs own Post Rz := by
  intro dp un gd l base g s Q E hdp hun hb hfr hX hT hst hsz hown hret herr
  refine wpAny_call ?_
  have hroom : (top dp un gd l).depth < recursionLimit := by show dp < _; omega
  refine codeAny_call_function hroom ((hX.keeps hst) _ _ ho) rfl hco hgen rfl (codeRec_of (hX.keeps hst) hcd) (hbind s (hX.keeps hst) _ _ _ _ ?_)
  refine wpAny_newFunctionEnv_cells hk (kindsX hkind _) fun env' he s' x => ?_
  subst he
  refine ⟨(hT.nolimit.keeps hst).keeps x.toInCall.keep, codeAny_func ?_⟩
  obtain ⟨h₁, tk, rfl, _⟩ := x.done
  have hk₁ := x.toInCall.keep
  obtain ⟨cells, NC, Y⟩ := Cl.news (h₀ := s.heap) (Nat.le_refl _) fun n c hm => ⟨x.cell n c (lookup_of_mem_nodup (cellsFrom_names scope.names 0 (s.heap.objs.size + 1) [] [] rfl ▸ hnd) hm), x.above n c hm⟩
  refine h dp un gd l base g s Q E s.heap.objs.size h₁ tk cells hdp hun ⟨rfl, hb, hfr⟩ ⟨x.toInCall.ns, fun b o e => hk₁ _ _ (hst _ _ e), hsz⟩ (fun p hp => ?_) Y (fun p hp => Heap.lt_size (hown p hp).1) hX hT rfl hret herr
  rcases List.mem_append.mp hp with hp | hp
  · refine ⟨(NC p hp).1, (NC p hp).2.1, ?_⟩
    cases q : g.get? p.1 with
    | none => rfl
    | some o => have := hst _ _ q; rw [(NC p hp).2.2] at this; cases this
  · exact ⟨hk₁ _ _ (hown p hp).1, Nat.ne_of_lt (Heap.lt_size (hown p hp).1), (hown p hp).2⟩
end
section
/-! plain facts on texts: the rest of a text behind a place -/
noncomputable def lst (x : Str) : List Nat := x.cps.toList
theorem lst_len (x : Str) : (lst x).length = x.length := by simp [lst, Str.length]
theorem lst_mk (l : List Nat) : lst ⟨l.toArray⟩ = l := by simp [lst]
theorem mk_lst (x : Str) : (⟨(lst x).toArray⟩ : Str) = x := by obtain ⟨⟨l⟩⟩ := x; rfl
theorem lst_app (a b : Str) : lst (a ++ b) = lst a ++ lst b := by simp [lst, Str.cps_append]
theorem lst_inj {a b : Str} (h : lst a = lst b) : a = b := by rw [← mk_lst a, ← mk_lst b, h]

/-- R is what of x stands from the place i on -/
noncomputable def Rest (x : Str) (i : Int) (R : List Nat) : Prop := 0 ≤ i ∧ i ≤ x.length ∧ (lst x).drop i.toNat = R

theorem Rest.start (x : Str) : Rest x 0 (lst x) := ⟨by omega, by omega, rfl⟩
theorem Rest.len {x : Str} {i : Int} {R : List Nat} (h : Rest x i R) : (R.length : Int) = x.length - i := by
  obtain ⟨h0, h1, h2⟩ := h
  rw [← h2, List.length_drop, lst_len]
  omega
theorem Rest.move {x : Str} {i : Int} {R : List Nat} (h : Rest x i R) {k : Nat} (hk : k ≤ R.length) : Rest x (i + k) (R.drop k) := by
  have hl := h.len
  obtain ⟨h0, h1, h2⟩ := h
  refine ⟨by omega, by omega, ?_⟩
  rw [← h2, List.drop_drop]
  congr 1
  omega
theorem from_of {x : Str} {i : Int} (h0 : 0 ≤ i) (h1 : i ≤ x.length) : fromIndex x.length i = i.toNat := by
  unfold fromIndex
  rw [if_neg (by omega)]
  omega
theorem pre_take (W : List Nat) : ∀ R : List Nat, W.isPrefixOf R = (decide (W.length ≤ R.length) && (R.take W.length == W)) := by
  induction W with
  | nil => intro R; simp
  | cons a W ih =>
    intro R
    cases R with
    | nil => simp
    | cons b R =>
      simp only [List.isPrefixOf, ih, List.length_cons, List.take_succ_cons]
      by_cases hab : a = b
      · subst hab; simp
      · have : (b == a) = false := by simp; omega
        have h2 : (a == b) = false := by simp [hab]
        simp [h2, this, List.cons_beq_cons]
theorem subAt_pre {x W : Str} {i : Int} {R : List Nat} (h : Rest x i R) : (decide (i.toNat + W.length ≤ x.length) && Builtin.Str.subAt x W i.toNat) = (lst W).isPrefixOf R := by
  have hl := h.len
  obtain ⟨h0, h1, h2⟩ := h
  rw [StrLaws.subAt_eq, pre_take, lst_len]
  show (decide (i.toNat + W.length ≤ x.length) && (((lst x).drop i.toNat).take W.length == lst W)) = _
  rw [h2]
  congr 1
  exact decide_eq_decide.mpr (by omega)
theorem starts_pre {x W : Str} {i : Int} {R : List Nat} (h : Rest x i R) : Txt.startswith3 x W i = (lst W).isPrefixOf R := by
  unfold Txt.startswith3
  rw [from_of h.1 h.2.1, ← subAt_pre h]

/-- the first place of W in a list -/
noncomputable def fnd (W : List Nat) : List Nat → Option Nat
  | [] => if W.isPrefixOf [] then some 0 else none
  | c :: R => if W.isPrefixOf (c :: R) then some 0 else (fnd W R).map (· + 1)
theorem fnd_none {W : List Nat} : ∀ {R : List Nat}, (∀ k, k ≤ R.length → W.isPrefixOf (R.drop k) = false) → fnd W R = none
  | [], h => by unfold fnd; rw [show W.isPrefixOf [] = false from h 0 (Nat.le_refl _)]; rfl
  | c :: R, h => by
    unfold fnd
    rw [show W.isPrefixOf (c :: R) = false from h 0 (Nat.zero_le _), fnd_none (R := R) fun k hk => h (k + 1) (by simpa using hk)]
    rfl
theorem fnd_some {W : List Nat} : ∀ {R : List Nat} {k : Nat}, k ≤ R.length → W.isPrefixOf (R.drop k) = true → (∀ j, j < k → W.isPrefixOf (R.drop j) = false) → fnd W R = some k
  | [], 0, _, h, _ => by unfold fnd; rw [show W.isPrefixOf [] = true from h]; rfl
  | c :: R, 0, _, h, _ => by unfold fnd; rw [show W.isPrefixOf (c :: R) = true from h]; rfl
  | c :: R, k + 1, hk, h, hn => by
    unfold fnd
    rw [show W.isPrefixOf (c :: R) = false from hn 0 (Nat.succ_pos _), fnd_some (R := R) (k := k) (by simpa using hk) h fun j hj => hn (j + 1) (by omega)]
    rfl
theorem fnd_le {W : List Nat} : ∀ {R : List Nat} {k : Nat}, fnd W R = some k → k + W.length ≤ R.length
  | [], k, h => by
    unfold fnd at h
    split at h
    · rename_i hp
      cases h
      have := (pre_take W []).symm.trans hp
      simp at this
      simp [this]
    · cases h
  | c :: R, k, h => by
    unfold fnd at h
    split at h
    · rename_i hp
      cases h
      have := (pre_take W (c :: R)).symm.trans hp
      simp only [Bool.and_eq_true, decide_eq_true_eq] at this
      omega
    · cases hf : fnd W R with
      | none => rw [hf] at h; cases h
      | some j =>
        rw [hf] at h
        cases h
        have := fnd_le hf
        simp only [List.length_cons]
        omega

theorem find_fnd {x W : Str} {i : Int} {R : List Nat} (h : Rest x i R) :
    (Txt.find3 x W i = -1 ∧ fnd (lst W) R = none) ∨ ∃ k : Nat, Txt.find3 x W i = i + k ∧ fnd (lst W) R = some k := by
  have hl := h.len
  have pl : ∀ k : Nat, k ≤ R.length → ((StrLaws.At x W x.length (i.toNat + k)) ↔ (lst W).isPrefixOf (R.drop k) = true) := fun k hk => by
    have := subAt_pre (W := W) (h.move hk)
    have e : (i + (k : Int)).toNat = i.toNat + k := by have := h.1; omega
    rw [e] at this
    rw [← this, Bool.and_eq_true, decide_eq_true_eq]
    exact Iff.rfl
  have h0 := h.1
  unfold Txt.find3
  rw [from_of h.1 h.2.1]
  rcases StrLaws.occ_head_from x W i.toNat 1 (Nat.le_refl 1) with ⟨e, hn⟩ | ⟨a, r, e, hlo, ha, hn⟩
  · rw [e]
    refine .inl ⟨rfl, fnd_none fun k hk => ?_⟩
    rw [← Bool.not_eq_true]
    exact fun z => hn (i.toNat + k) (by omega) ((pl k hk).mpr z)
  · rw [e]
    have ha' := ha.1
    refine .inr ⟨a - i.toNat, by show (a : Int) = _; omega, fnd_some (by omega) ?_ fun j hj => ?_⟩
    · rw [← pl _ (by omega)]
      rw [show i.toNat + (a - i.toNat) = a by omega]; exact ha
    · rw [← Bool.not_eq_true, ← pl j (by omega)]
      exact hn _ (by omega) (by omega)

theorem slice_rest {x : Str} {i : Int} {R : List Nat} (h : Rest x i R) {k : Nat} (hk : k ≤ R.length) : Txt.slice x (some i) (some (i + k)) = ⟨(R.take k).toArray⟩ := by
  have hl := h.len
  obtain ⟨h0, h1, h2⟩ := h
  apply lst_inj
  obtain ⟨a, rfl⟩ := Int.eq_ofNat_of_zero_le h0
  have hx := StrLaws.sliced_plain x (a := a) (b := a + k) (by omega) (by omega)
  have hp := StrLaws.strSliceIndices_plain (a := a) (b := a + k) (len := x.length) (by omega) (by omega)
  have e : ((a : Int) + (k : Int)) = ((a + k : Nat) : Int) := by omega
  unfold Txt.slice
  rw [e]
  have h2' : R = (lst x).drop a := by rw [← h2]; rfl
  split
  · rename_i q
    rw [hp] at q
    simp only [BEq.rfl, Bool.true_and, List.length_map, List.length_range, beq_iff_eq] at q
    have ha : a = 0 := by have := lst_len x; omega
    subst ha
    have : lst x = List.take k (lst x) := (List.take_of_length_le (by rw [lst_len]; omega)).symm
    rw [h2', List.drop_zero, ← this, lst_mk]
    rfl
  · rw [hx, lst_mk, lst_mk, h2', show a + k - a = k by omega]
    rfl
end
section
noncomputable abbrev scD (w : World) (t1 t2 : Tok) (T : Str) (tT : Tok) (i : Int) (ti : Tok) : Obj := dictOf [⟨PyData.keyHash w.params (Str.ofString "text"), .str (Str.ofString "text") t1, .str T tT⟩, ⟨PyData.keyHash w.params (Str.ofString "at"), .str (Str.ofString "at") t2, .int i ti⟩] 2
/-- the scanner's two objects -/
noncomputable abbrev scO (w : World) (c d : Addr) (t1 t2 : Tok) (T : Str) (tT : Tok) (i : Int) (ti : Tok) : List (Addr × Obj) := [(c, instObj 127 d), (d, scD w t1 t2 T tT i ti)]

noncomputable def isB (c : Nat) : Bool := c == 32 || c == 9 || c == 10 || c == 13
noncomputable def isN (c : Nat) : Bool := !(c == 32 || c == 9 || c == 10 || c == 13 || c == 61 || c == 47 || c == 62 || c == 60 || c == 34 || c == 39)

section
variable {M : Model} {A : Around} {E : Value → Shared → Prop} {s : Shared}
theorem char_at {value slice : Expr} {x : Str} {t u : Tok} {i : Int} {c : Nat} {R : List Nat} {Q : Value → Shared → Prop} {prog : Program} {w : World} (hR : Rest x i (c :: R)) (hx : x.length ≤ 1000000)
    (h : Q (.str ⟨#[c]⟩ s.toks) { s with toks := s.toks + 1 })
    (hs : subscripted slice false (.str x t) (.int i u) = operate [.str x t, .int i u] (getItem (.str x t) (.int i u)) := by with_unfolding_all rfl) :
    wpAny (model prog w) A (subscriptTail value slice (.str x t) (.int i u)) Q E s := by
  have hl := hR.len
  obtain ⟨h0, h1, h2⟩ := hR
  simp only [List.length_cons] at hl
  refine tail_any (typeIs_str s x t) F.slot_str_getitem.lookup (getItem_str (c := c) ?_ ?_ h) hs
  · have e1 : ¬ i < -(2 ^ 63 : Int) := by omega
    have e2 : ¬ i ≥ 2 ^ 63 := by omega
    rw [decide_eq_false e1, decide_eq_false e2]; rfl
  · obtain ⟨a, rfl⟩ := Int.eq_ofNat_of_zero_le h0
    have e : seqIndex? (a : Int) x.length = some a := by
      unfold seqIndex?
      have h3 : ¬ (a : Int) < 0 := by omega
      have h4 : a < x.length := by omega
      simp only [h3, if_false]
      have h5 : (decide (0 ≤ (a : Int)) && decide ((a : Int) < x.length)) = true := by simp; omega
      rw [if_pos h5]; rfl
    rw [e, Option.bind_some]
    have h5 : ((lst x).drop a)[0]? = some c := by rw [show (lst x).drop a = c :: R from h2]; rfl
    rw [List.getElem?_drop] at h5
    simpa [lst] using h5
end

section
variable {prog : Program} {w : World} {p : Program} {loose : List Str} {mean : ExcName → Option Value} {mg mb : Str → Option Value}

set_option pp.deepTerms false
set_option pp.proofs false

theorem over_is {Tx : Str} {i : Int} {R : List Nat} (hR : Rest Tx i R) : decide ((Tx.length : Int) ≤ i) = R.isEmpty := by
  have := hR.len
  cases R with
  | nil => simp at this ⊢; omega
  | cons => simp at this ⊢; omega
set_option maxHeartbeats 8000000 in
theorem over_fn {c d : Addr} {t1 t2 : Tok} {Tx : Str} {tT : Tok} {i : Int} {ti : Tok} {R : List Nat} (hcd : c ≠ d) (hx : Tx.length ≤ 1000000) (hR : Rest Tx i R) :
    Fn prog w p loose mean mg mb 96 1 10 [.ref c] (scO w c d t1 t2 Tx tT i ti) (PK fun _ C => C (.bool R.isEmpty) (scO w c d t1 t2 Tx tT i ti)) False := by
  refine' Fn.intro (binds := [(Str.ofString "self", .ref c)]) ?ho ?hcd ?hb ?hl ?hd ?_ ?c2 ?c3 ?c4 ?c5
  (case ho => k_is)
  (case hcd => k_is)
  (case hb => (intro s0 hX0; exact BindsTo.of_eq rfl))
  (case hl => exact locs rfl)
  (case hd => first | decide | omega)
  (case c2 => exact rfl)
  (case c3 => exact rfl)
  (case c4 => exact rfl)
  (case c5 => decide)
  intro dp un gd l base g s Q E L' h₁ hdp hun B F N hlt X TP hL hret herr
  (try dsimp only)
  (try k_fold)
  k_steps
  refine hret _ _ _ _ (Fr.keep (by assumption)) (own_of (by assumption)) (size_of (by assumption) hL) ?_
  intro C k
  rw [over_is hR]
  exact k
set_option maxHeartbeats 8000000 in
theorem takes_fn {c d : Addr} {t1 t2 : Tok} {Tx : Str} {tT : Tok} {i : Int} {ti : Tok} {W : Str} {tw : Tok} {R : List Nat} (hcd : c ≠ d) (hx : Tx.length ≤ 1000000) (hR : Rest Tx i R) (hW : W.length ≤ 1000000) :
    Fn prog w p loose mean mg mb 103 1 10 [.ref c, .str W tw] (scO w c d t1 t2 Tx tT i ti)
      (fun _ r o => ((lst W).isPrefixOf R = false ∧ r = .bool false ∧ o = scO w c d t1 t2 Tx tT i ti) ∨
        ((lst W).isPrefixOf R = true ∧ r = .bool true ∧ ∃ i' ti', Rest Tx i' (R.drop (lst W).length) ∧ o = scO w c d t1 t2 Tx tT i' ti')) False := by
  have hs := starts_pre (W := W) hR
  refine' Fn.intro (binds := [(Str.ofString "self", .ref c), (Str.ofString "word", .str W tw)]) ?ho ?hcd ?hb ?hl ?hd ?_ ?c2 ?c3 ?c4 ?c5
  (case ho => k_is)
  (case hcd => k_is)
  (case hb => (intro s0 hX0; exact BindsTo.of_eq rfl))
  (case hl => exact locs rfl)
  (case hd => first | decide | omega)
  (case c2 => exact rfl)
  (case c3 => exact rfl)
  (case c4 => exact rfl)
  (case c5 => decide)
  intro dp un gd l base g s Q E L' h₁ hdp hun B F N hlt X TP hL hret herr
  (try dsimp only)
  (try k_fold)
  k_steps
  all_goals (refine hret _ _ _ _ (Fr.keep (by assumption)) (own_of (by assumption)) (size_of (by assumption) hL) ?_)
  · refine .inr ⟨by rw [← hs]; assumption, rfl, _, _, ?_, rfl⟩
    have h1 : (lst W).isPrefixOf R = true := by rw [← hs]; assumption
    rw [pre_take, Bool.and_eq_true, decide_eq_true_eq] at h1
    have := hR.move h1.1
    rwa [lst_len] at this ⊢
  · exact .inl ⟨by rw [← hs]; simpa using by assumption, rfl, rfl⟩
end
end
section
theorem rk_Scan_0 : True := by
  k_with_none
  trivial


section
variable {prog : Program} {w : World} {p : Program} {loose : List Str} {mean : ExcName → Option Value} {mg mb : Str → Option Value}



theorem rk_Scan_1 : True := by
  k_with "k_room" => (((try simp only [depth_under_make, depth_under_kw, depth_in1, depth_deeper, depth_caller]); (try dsimp only [top]); omega))
  trivial
theorem rk_Scan_2 : True := by
  k_with "k_units" => (((try simp only [units_in1, units_deeper, Around.mark_units]); (try dsimp only [top]); omega))
  trivial
theorem rk_Scan_3 : True := by
  k_with "units_room" => (((try simp only [units_in1, units_deeper, Around.mark_units]); (try dsimp only [top]); omega))
  trivial
theorem rk_Scan_4 : True := by
  k_with "k_ne" => (((try dsimp only); first | assumption | exact Ne.symm (by assumption) | (refine neN ?_; omega)))
  trivial
theorem rk_Scan_5 : True := by
  k_with "k_all" => (first | assumption | exact List.forall_mem_nil _ | (refine' List.forall_mem_cons.mpr ⟨?a, ?b⟩; (case a => k_ne); (case b => k_all)))
  trivial
theorem rk_Scan_6 : True := by
  k_with "use:takes" => (repeat' (first | exact Takes.nil | exact Take1.head | refine' Takes.cons ?_ ?_ | refine' Take1.tail ?_))
  trivial
theorem rk_Scan_7 : True := by
  k_with "use:apart" => (((try dsimp only); repeat' (first | assumption | exact List.forall_mem_nil _ | refine' List.forall_mem_cons.mpr ⟨_, _⟩ | (intro x9 hx9; exact absurd hx9 (by simp)) | (dsimp only; first | assumption | exact Ne.symm (by assumption)) | k_ne)))
  trivial
theorem rk_Scan_8 : True := by
  k_with "use:room" => (first | (refine' room3 ?h9 ?e9; (case h9 => assumption); (case e9 => exact rfl)) | (refine' room_le ?h8 ?e8; (case h8 => assumption); (case e8 => exact rfl)) | ((try dsimp only [top, Around.deeper]); omega))
  trivial
theorem rk_Scan_9 : True := by
  k_with "use:le" => (first | assumption | exact le_mil (by assumption) | omega)
  trivial
theorem rk_Scan_10 : True := by
  k_with "exec Raise some none" => ((k_here; refine raise_stmt rfl ?_))
  trivial
theorem rk_Scan_11 : True := by
  k_with "call ref" => ((k_here; (with_reducible show wpAny _ _ (call (Value.ref 44) [_]) _ _ _); k_dflt (refine' fault_use ?B ?F ?X ?N ?T rfl rfl ?hd ?hu ?_; (case B => k_asm); (case F => k_asm); (case X => k_asm); (case N => k_asm); (case T => k_asm); (case hd => walk_at "use:room"); (case hu => walk_at "use:room"); intro e' tp' dx' h' tk' F' N')))
  trivial
theorem rk_Scan_12 : True := by
  k_with "RaiseBack" => ((k_here; k_dflt (refine' ⟨_, _, _, rfl, faultCls ?X, News.get ?N (List.Mem.head _), ?_⟩; (case N => k_asm); (case X => k_in)); (try dsimp only)))
  trivial
theorem rk_Scan_13 : True := by
  k_with "leaving ref" => ((k_here; k_dflt (first | (refine' leave_new_F ?B ?F ?N (List.Mem.head _) rfl rfl ?_; (case B => k_asm); (case F => k_asm); (case N => k_asm); intro h' hfl') | (refine' leave_fly rfl rfl ?fl ?_; (case fl => assumption); intro h' hfl'))))
  trivial

theorem rk_Scan_14 : True := by
  k_with "k_ne" => (first | assumption | exact Ne.symm (by assumption) | walk_at "ne:lt" | ((try dsimp only); first | assumption | exact Ne.symm (by assumption) | walk_at "ne:lt" | (refine neN ?_; omega)))
  trivial
theorem rk_Scan_15 : True := by
  k_with "k_all" => (first | assumption | exact List.forall_mem_nil _ | (refine neAll_of ?_; walk_at "use:conj"))
  trivial
theorem rk_Scan_16 : True := by
  k_with "use:conj" => (first | exact True.intro | assumption | ((refine And.intro ?_ ?_) <;> walk_at "use:conj") | ((with_reducible show NeAll _ _); refine neAll_lt ?_; walk_at "lastlt") | k_ne)
  trivial
theorem rk_Scan_17 : True := by
  k_with "ne:lt" => (first | (refine Nat.ne_of_lt ?_; walk_at "lt") | (refine Nat.ne_of_gt ?_; walk_at "lt"))
  trivial
theorem rk_Scan_18 : True := by
  k_with "lt" => (with_reducible first | assumption | exact pj0 (by assumption) | exact pj1 (by assumption) | exact pj2 (by assumption) | exact pj3 (by assumption) | exact pj4 (by assumption) | exact pj5 (by assumption) | exact pj6 (by assumption) | exact pj7 (by assumption) | exact pj8 (by assumption) | exact pj9 (by assumption) | exact pj10 (by assumption) | exact pj11 (by assumption))
  trivial
theorem rk_Scan_19 : True := by
  k_with "lastlt" => (with_reducible first | assumption | exact lk1 (by assumption) | exact lk2 (by assumption) | exact lk3 (by assumption) | exact lk4 (by assumption) | exact lk5 (by assumption) | exact lk6 (by assumption) | exact lk7 (by assumption))
  trivial
theorem rk_Scan_20 : True := by
  k_with "use:apart" => (walk_at "use:conj")
  trivial
theorem rk_Scan_21 : True := by
  k_with "use:sides" => (((case B => k_asm); (case F => k_asm); (case X => k_asm); (case N => k_asm); (case T => k_asm); (case tk => walk_at "use:takes"); (case dj => walk_at "use:apart"); (case hd => walk_at "use:room"); (case hu => walk_at "use:room")))
  trivial
theorem rk_Scan_22 : True := by
  k_with "use:in" => ((intro h' tk' F' N' hlt'; (try dsimp only [List.cons_append, List.nil_append] at N'); (try dsimp only [AllLt] at hlt'); (try dsimp only); (try k_sweep)))
  trivial

theorem rk_Scan_23 : True := by
  k_with "call ref" => ((k_here; (with_reducible show wpAny _ _ (call (Value.ref 96) _) _ _ _); k_dflt ((refine' Fn.useOk (over_fn ?u1 ?u2 ?u3) ?B ?F ?X ?N ?T rfl rfl ?tk ?dj ?hd ?hu ?_); walk_at "use:sides"; (case u1 => assumption); (case u2 => assumption); (case u3 => assumption); walk_at "use:in")))
  trivial
theorem rk_Scan_24 : True := by
  k_with "subscriptTail" => ((k_here; (with_reducible show wpAny _ _ (subscriptTail _ _ (Value.str _ _) (Value.int _ _)) _ _ _); k_dflt (refine' char_at ?R ?z ?_ ?s; (case R => assumption); (case z => first | assumption | omega); (case s => with_unfolding_all rfl))))
  trivial
/-- what holds at each turn of the two loops: the scanner has gone over some signs that p takes -/
inductive ScJ (w : World) (c d : Addr) (t1 t2 : Tok) (Tx : Str) (tT : Tok) (pr : Nat → Bool) (i : Int) (R : List Nat) (m₀ : Str → Option Value) : Nat → (Str → Option Value) → List (Addr × Obj) → Prop
  | mk {i₁ : Int} {ti : Tok} {D R' : List Nat} : Rest Tx i₁ R' → i₁ = i + (D.length : Int) → R = D ++ R' → (∀ x ∈ D, pr x = true) → ScJ w c d t1 t2 Tx tT pr i R m₀ R'.length m₀ (scO w c d t1 t2 Tx tT i₁ ti)
theorem ScJ.start {w : World} {c d : Addr} {t1 t2 : Tok} {Tx : Str} {tT : Tok} {pr : Nat → Bool} {i : Int} {ti : Tok} {R : List Nat} {m₀ : Str → Option Value} (h : Rest Tx i R) : ScJ w c d t1 t2 Tx tT pr i R m₀ R.length m₀ (scO w c d t1 t2 Tx tT i ti) :=
  .mk (D := []) h (by simp) rfl (fun _ h => nomatch h)
theorem ScJ.next {w : World} {c d : Addr} {t1 t2 : Tok} {Tx : Str} {tT : Tok} {pr : Nat → Bool} {i i₁ : Int} {ti : Tok} {ch : Nat} {R D R₁ : List Nat} {m₀ : Str → Option Value} (h : Rest Tx i₁ (ch :: R₁)) (hi : i₁ = i + (D.length : Int)) (hR : R = D ++ ch :: R₁) (hD : ∀ x ∈ D, pr x = true) (hc : pr ch = true) :
    ScJ w c d t1 t2 Tx tT pr i R m₀ R₁.length m₀ (scO w c d t1 t2 Tx tT (i₁ + 1) ti) := by
  refine .mk (D := D ++ [ch]) (h.move (k := 1) (by simp)) (by simp; omega) (by simp [hR]) fun x hx' => ?_
  rcases List.mem_append.mp hx' with hx' | hx'
  · exact hD x hx'
  · rw [List.mem_singleton.mp hx']; exact hc
theorem takes_nil {pr : Nat → Bool} {R D : List Nat} {i i₁ : Int} (h : R.takeWhile pr = D) (hi : i₁ = i + (D.length : Int)) (e : i₁ = i) : R.takeWhile pr = [] := by
  rw [h]
  exact List.eq_nil_of_length_eq_zero (by omega)
theorem tw_of {pr : Nat → Bool} {D R' : List Nat} (hD : ∀ x ∈ D, pr x = true) (h : R' = [] ∨ ∃ c r, R' = c :: r ∧ pr c = false) : (D ++ R').takeWhile pr = D ∧ (D ++ R').dropWhile pr = R' := by
  induction D with
  | nil =>
    rcases h with rfl | ⟨c, r, rfl, hc⟩
    · exact ⟨rfl, rfl⟩
    · simp [hc]
  | cons a D ih =>
    have := ih fun x hx => hD x (.tail _ hx)
    simp [hD a (.head _), this]
theorem occ_B (ch : Nat) : (Builtin.Str.occurrences (Str.ofString " \t\n\x0d") ⟨#[ch]⟩ 0 (Str.ofString " \t\n\x0d").length 1).isEmpty = !isB ch := by
  have h := StrLaws.found_one (Str.ofString " \t\n\x0d") ch
  have e : (Str.ofString " \t\n\x0d").cps.toList = [32, 9, 10, 13] := by decide +kernel
  rw [e] at h
  rw [← Bool.not_not (List.isEmpty _), h]
  unfold isB
  simp only [List.mem_cons, List.not_mem_nil, or_false, Bool.decide_or, Bool.or_assoc]
  rfl
theorem occ_E (ch : Nat) : (Builtin.Str.occurrences (Str.ofString " \t\n\x0d=/><\"'") ⟨#[ch]⟩ 0 (Str.ofString " \t\n\x0d=/><\"'").length 1).isEmpty = isN ch := by
  have h := StrLaws.found_one (Str.ofString " \t\n\x0d=/><\"'") ch
  have e : (Str.ofString " \t\n\x0d=/><\"'").cps.toList = [32, 9, 10, 13, 61, 47, 62, 60, 34, 39] := by decide +kernel
  rw [e] at h
  rw [← Bool.not_not (List.isEmpty _), h]
  unfold isN
  simp only [List.mem_cons, List.not_mem_nil, or_false, Bool.decide_or, Bool.or_assoc]
  rfl
set_option maxHeartbeats 8000000 in
theorem spaces_fn {c d : Addr} {t1 t2 : Tok} {Tx : Str} {tT : Tok} {i : Int} {ti : Tok} {R : List Nat} (hcd : c ≠ d) (hx : Tx.length ≤ 1000000) (hR : Rest Tx i R) :
    Fn prog w p loose mean mg mb 117 2 20 [.ref c] (scO w c d t1 t2 Tx tT i ti) (PK fun _ C => ∀ i' ti', Rest Tx i' (R.dropWhile isB) → C .none (scO w c d t1 t2 Tx tT i' ti')) False := by
  refine' Fn.intro (binds := [(Str.ofString "self", .ref c)]) ?ho ?hcd ?hb ?hl ?hd ?_ ?c2 ?c3 ?c4 ?c5
  (case ho => k_is)
  (case hcd => k_is)
  (case hb => (intro s0 hX0; exact BindsTo.of_eq rfl))
  (case hl => exact locs rfl)
  (case hd => first | decide | omega)
  (case c2 => exact rfl)
  (case c3 => exact rfl)
  (case c4 => exact rfl)
  (case c5 => decide)
  intro dp un gd l base g s Q E L' h₁ hdp hun B F N hlt X TP hL hret herr
  (try dsimp only)
  (try k_fold)
  iterate 2 walk1
  refine While_inv2 (ScJ w c d t1 t2 Tx tT isB i R _) F N (.start hR) ?_ ?_
  · rintro n m₁ news₁ h₁ tk₁ F₁ N₁ (@⟨i₁, ti₁, D, R₁, hR₁, hi, hRD, hD⟩)
    rcases R₁ with _ | ⟨ch, R₁⟩
    · k_steps
      refine hret _ _ _ _ (Fr.keep (by assumption)) (own_of (by assumption)) (size_of (by assumption) hL) ?_
      rw [hRD, (tw_of hD (.inl rfl)).2]
      exact fun C k => k _ _ hR₁
    · k_steps
      · rename (List.isEmpty (_ :: _)) = true => q; cases q
      · rename List.isEmpty (Builtin.Str.occurrences _ _ _ _ _) = _ => a'
        rw [occ_B] at a'
        refine hret _ _ _ _ (Fr.keep (by assumption)) (own_of (by assumption)) (size_of (by assumption) hL) ?_
        rw [hRD, (tw_of hD (.inr ⟨ch, R₁, rfl, by simpa using a'⟩)).2]
        exact fun C k => k _ _ hR₁
      · rename List.isEmpty (Builtin.Str.occurrences _ _ _ _ _) = _ => a'
        rw [occ_B] at a'
        exact ⟨_, _, _, _, _, rfl, (by assumption : Fr _ _ _ _), (by assumption : News _ _ _ _), Nat.lt_succ_self _, .next hR₁ hi hRD hD (by simpa using a')⟩
  · passes_own
set_option maxHeartbeats 8000000 in
theorem name_fn {c d : Addr} {t1 t2 : Tok} {Tx : Str} {tT : Tok} {i : Int} {ti : Tok} {R : List Nat} (hcd : c ≠ d) (hx : Tx.length ≤ 1000000) (hR : Rest Tx i R) :
    Fn prog w p loose mean mg mb 124 4 40 [.ref c] (scO w c d t1 t2 Tx tT i ti)
      (fun _ r o => R.takeWhile isN ≠ [] ∧ ∃ t i' ti', r = .str ⟨(R.takeWhile isN).toArray⟩ t ∧ Rest Tx i' (R.dropWhile isN) ∧ o = scO w c d t1 t2 Tx tT i' ti') (R.takeWhile isN = []) := by
  refine' Fn.intro (binds := [(Str.ofString "self", .ref c)]) ?ho ?hcd ?hb ?hl ?hd ?_ ?c2 ?c3 ?c4 ?c5
  (case ho => k_is)
  (case hcd => k_is)
  (case hb => (intro s0 hX0; exact BindsTo.of_eq rfl))
  (case hl => exact locs rfl)
  (case hd => first | decide | omega)
  (case c2 => exact rfl)
  (case c3 => exact rfl)
  (case c4 => exact rfl)
  (case c5 => decide)
  intro dp un gd l base g s Q E L' h₁ hdp hun B F N hlt X TP hL hret herr
  (try dsimp only)
  (try k_fold)
  iterate 8 walk1
  rename Fr _ _ _ _ => F
  rename News _ _ _ _ => N
  refine While_inv2 (ScJ w c d t1 t2 Tx tT isN i R _) F N (.start hR) ?_ ?_
  · rintro n m₁ news₁ h₁ tk₁ F₁ N₁ (@⟨i₁, ti₁, D, R₁, hR₁, hi, hRD, hD⟩)
    have hsl : Txt.slice Tx (some i) (some i₁) = ⟨D.toArray⟩ := by
      rw [hi, slice_rest hR (k := D.length) (by rw [hRD]; simp), hRD, List.take_left']
      rfl
    rcases R₁ with _ | ⟨ch, R₁⟩
    · have htw := tw_of hD (.inl rfl)
      rw [← hRD] at htw
      k_steps
      · refine herr _ _ _ (by assumption) ?_
        exact takes_nil (D := D) htw.1 hi (by first | assumption | omega)
      · refine hret _ _ _ _ (Fr.keep (by assumption)) (own_of (by assumption)) (size_of (by assumption) hL) ?_
        rw [htw.1, htw.2, hsl]
        exact ⟨by rintro rfl; simp at hi; omega, _, _, _, rfl, hR₁, rfl⟩
    · k_steps
      · rename (List.isEmpty (_ :: _)) = true => q; cases q
      · rename (List.isEmpty (_ :: _)) = true => q; cases q
      · rename List.isEmpty (Builtin.Str.occurrences _ _ _ _ _) = _ => a'
        rw [occ_E] at a'
        exact ⟨_, _, _, _, _, rfl, (by assumption : Fr _ _ _ _), (by assumption : News _ _ _ _), Nat.lt_succ_self _, .next hR₁ hi hRD hD a'⟩
      · rename List.isEmpty (Builtin.Str.occurrences _ _ _ _ _) = _ => a'
        rw [occ_E] at a'
        have htw := tw_of hD (.inr ⟨ch, R₁, rfl, a'⟩)
        rw [← hRD] at htw
        refine herr _ _ _ (by assumption) ?_
        exact takes_nil (D := D) htw.1 hi (by first | assumption | omega)
      · rename List.isEmpty (Builtin.Str.occurrences _ _ _ _ _) = _ => a'
        rw [occ_E] at a'
        have htw := tw_of hD (.inr ⟨ch, R₁, rfl, a'⟩)
        rw [← hRD] at htw
        refine hret _ _ _ _ (Fr.keep (by assumption)) (own_of (by assumption)) (size_of (by assumption) hL) ?_
        rw [htw.1, htw.2, hsl]
        exact ⟨by rintro rfl; simp at hi; omega, _, _, _, rfl, hR₁, rfl⟩
  · passes_own
set_option maxHeartbeats 8000000 in
theorem until_fn {c d : Addr} {t1 t2 : Tok} {Tx : Str} {tT : Tok} {i : Int} {ti : Tok} {W : Str} {tw : Tok} {R : List Nat} (hcd : c ≠ d) (hx : Tx.length ≤ 1000000) (hR : Rest Tx i R) (hW : W.length ≤ 1000000) :
    Fn prog w p loose mean mg mb 110 4 40 [.ref c, .str W tw] (scO w c d t1 t2 Tx tT i ti)
      (fun _ r o => ∃ k t i' ti', fnd (lst W) R = some k ∧ r = .str ⟨(R.take k).toArray⟩ t ∧ Rest Tx i' (R.drop (k + (lst W).length)) ∧ o = scO w c d t1 t2 Tx tT i' ti') (fnd (lst W) R = none) := by
  have hf := find_fnd (W := W) hR
  have h0 := hR.1
  refine' Fn.intro (binds := [(Str.ofString "self", .ref c), (Str.ofString "word", .str W tw)]) ?ho ?hcd ?hb ?hl ?hd ?_ ?c2 ?c3 ?c4 ?c5
  (case ho => k_is)
  (case hcd => k_is)
  (case hb => (intro s0 hX0; exact BindsTo.of_eq rfl))
  (case hl => exact locs rfl)
  (case hd => first | decide | omega)
  (case c2 => exact rfl)
  (case c3 => exact rfl)
  (case c4 => exact rfl)
  (case c5 => decide)
  intro dp un gd l base g s Q E L' h₁ hdp hun B F N hlt X TP hL hret herr
  (try dsimp only)
  (try k_fold)
  k_steps
  · refine herr _ _ _ (by assumption) ?_
    rcases hf with hf | ⟨k, hf, _⟩
    · exact hf.2
    · omega
  · refine hret _ _ _ _ (Fr.keep (by assumption)) (own_of (by assumption)) (size_of (by assumption) hL) ?_
    rcases hf with hf | ⟨k, hf, hk⟩
    · omega
    · have hle := fnd_le hk
      have e1 : Txt.slice Tx (some i) (some (Txt.find3 Tx W i)) = ⟨(R.take k).toArray⟩ := by rw [hf, slice_rest hR (by omega)]
      have e2 : Txt.find3 Tx W i + (W.length : Int) = i + ((k + (lst W).length : Nat) : Int) := by rw [hf, lst_len]; omega
      rw [e1, e2]
      exact ⟨k, _, _, _, hk, rfl, hR.move hle, rfl⟩
end
end
section
open PyProof.Rows.LCg PyProof.Rows.LCt
/-- a comprehension with one test over a text of 128 low signs: the iterable is reached -/
noncomputable def SrcS (prog : Program) (w : World) (A : Around) (h₀ : Heap) (L : Addr) (m : Str → Option Value) (env : Env) (ct elt : Expr) (x : Str) (scope : Scope) (cl : List (Str × Addr)) (Fin : Shared → List Value → List (Addr × Obj) → Prop) (xv : Value) (s₁ : Shared) : Prop :=
  ∃ tx t news, xv = .str tx t ∧ tx.cps.all (· < 128) = true ∧ tx.cps.size ≤ sizeLine ∧ A.handled = none ∧ Fr h₀ L s₁.heap m ∧ News h₀ L s₁.heap news ∧
    ∀ s₂ : Shared, (∃ h, s₂ = { s₁ with heap := h }) → CompRestT prog w A h₀ L m env ct elt x scope cl s₂ (fun _ => True) (SignAt tx) (Fin s₂) tx.cps.size 0 [] news
section
variable {prog : Program} {w : World} {A : Around} {E : Value → Shared → Prop} {s : Shared} {h₀ : Heap} {L : Addr} {m : Str → Option Value} {env : Env}
theorem ListComp_S {ct elt iter : Expr} {x : Str} {px : Pos} {scope : Scope} {cl : List (Str × Addr)} {pos : Pos} {Q : Value → Shared → Prop} (F₀ : Fr h₀ L s.heap m)
    (hclos : closureFor scope env = pure cl) (hcell : ∀ y ∈ scope.names, y.2 ≠ .cell) (hkind : scope.kind = .function)
    (hnames : ∀ y ∈ scope.names, y.2 = .local → scope.names.lookup y.1 = some .local) (hx : scope.names.lookup x = some .local)
    (h : wpAny (model prog w) A (eval iter env) (SrcS prog w A h₀ L m env ct elt x scope cl (fun s₂ => FinE h₀ L m s₂ Q)) E s)
    (hs : ∀ x, foldedSetIterable iter env x = pure x := by intro _; rfl) :
    wpAny (model prog w) A (eval (.ListComp elt [⟨.Name x px, iter, [ct], 0⟩] scope pos) env) Q E s := by
  rw [eval_ListComp]
  refine wpAny_comprehension_free (use := none) rfl hs hclos hkind hnames (wpAny_mono h (fun xv s₁ h₁ => ?_) fun _ _ e => e)
  obtain ⟨tx, t, news, rfl, ha, hsz, hh, F, N, R⟩ := h₁
  refine wpAny_pyIter_ascii ha ?_
  have up : ∀ b o, s₁.heap.get? b = some o → (s₁.heap.push { cls := .type "str_ascii_iterator", data := .fields #[.str tx t, .int 0 0] }).get? b = some o := fun b o e => Heap.get?_push_of_some _ e
  refine block_T (Walks.strAscii hh s₁.heap.objs.size tx t) hsz (fun i h st => by obtain ⟨o, e, _⟩ := st; exact ⟨o, e⟩) (fun i h h' o nw st e1 e2 _ _ _ => ?_) hcell hkind hx ⟨_, Heap.get?_push_size _ rfl, rfl, rfl⟩ (fun b hb => ?_)
    (F.keeps up) (N.grown up) (Nat.ne_of_lt F.ns.lt) (next_is_new F) (fun p hp => Nat.ne_of_lt (Heap.lt_size (N p hp).1)) trivial (R _ ⟨_, rfl⟩) ?_
  · obtain ⟨o', e, r⟩ := st
    rw [e1] at e
    cases e
    exact ⟨o, e2, r⟩
  · rw [List.mem_singleton.mp hb]
    show s₁.heap.objs.size < (s₁.heap.push _).objs.size
    rw [Heap.size_push]; exact Nat.lt_succ_self _
  · intro D C h tk m' ys news' F' N' o1 hn hC₀ hD₀ hCL hDL hCD offC fin
    refine ⟨m', hn, fun h'' hs'' => fin D h'' tk (F'.change hs'' hCL hC₀) (fun p hp => ?_) o1⟩
    refine ⟨hs''.extBut _ _ ?_ (N' p hp).1, (N' p hp).2⟩
    rcases List.mem_cons.mp hp with rfl | hp
    · exact Ne.symm hCD
    · exact offC p hp
/-- no turn's test holds: nothing is gathered -/
theorem comp_none {ct elt : Expr} {x : Str} {scope : Scope} {cl : List (Str × Addr)} {P : Nat → Value → Prop} {Fin : List Value → List (Addr × Obj) → Prop} {news : List (Addr × Obj)} (done : Fin [] news)
    (turn : ∀ i v I oI C oC D m₂ h tk (E' : Value → Shared → Prop) (Q : Bool → Shared → Prop), P i v → NsObj oC m₂ → m₂ x = some v → Fr h₀ L h m → News h₀ L h ((I, oI) :: (C, oC) :: (D, PyProof.Rows.LCg.lst []) :: news) → Off3 I C D news → ((@Ne Nat I C) ∧ (@Ne Nat I D) ∧ (@Ne Nat C D)) →
      (∀ h' tk', Fr h₀ L h' m → News h₀ L h' ((I, oI) :: (C, oC) :: (D, PyProof.Rows.LCg.lst []) :: news) → Q false { s with heap := h', toks := tk' }) →
      wpAny (model prog w) A (isTrue ct (compEnvC scope cl C env) (eval ct (compEnvC scope cl C env))) Q E' { s with heap := h, toks := tk }) :
    ∀ k i, CompRestT prog w A h₀ L m env ct elt x scope cl s (fun _ => True) P Fin k i [] news := by
  intro k
  induction k with
  | zero => exact fun _ => .zero done
  | succ k ih =>
    intro i
    refine .succ fun v I oI C oC D m₂ h tk E' hP hC hx F N off ne => ?_
    exact turn i v I oI C oC D m₂ h tk E' _ hP hC hx F N off ne fun h' tk' F' N' => ⟨h', tk', news, rfl, F', N', off, trivial, ih (i + 1)⟩
end
end
section
section
variable {prog : Program} {w : World} {p : Program} {loose : List Str} {mean : ExcName → Option Value} {mg mb : Str → Option Value}

variable {A : Around} {E : Value → Shared → Prop} {s : Shared}
theorem gives_65 (u v : Tok) : Gives (Builtin.«int.__new__» ⟨[.type "int", .str (Str.ofString "65") u, .int 10 v], []⟩) (.int 65) := .of_eq (by kernel_rfl)
theorem gives_42 (u v : Tok) : Gives (Builtin.«int.__new__» ⟨[.type "int", .str (Str.ofString "42") u, .int 16 v], []⟩) (.int 66) := .of_eq (by kernel_rfl)
theorem gives_big (u v : Tok) : Gives (Builtin.«int.__new__» ⟨[.type "int", .str (Str.ofString "110000") u, .int 16 v], []⟩) (.int 1114112) := .of_eq (by kernel_rfl)
theorem typeCall_int_2 (a b : Value) : checkTypeCall "int" ⟨[a, b], []⟩ = pure () := by kernel_rfl
theorem newCall_int_2 (a b : Value) : checkBuiltinCall "int.__new__" ⟨[.type "int", a, b], []⟩ = pure () := by kernel_rfl
theorem args_oi_3 (o a b : Value) : argsOk "object.__init__" ⟨[o, a, b], []⟩ := F.args_object_init_3 o a b
theorem call_int_2 {x b : Value} {n : Int} {Q : Value → Shared → Prop} (g : Gives (Builtin.«int.__new__» ⟨[.type "int", x, b], []⟩) (.int n)) (h : Q (.int n s.toks) { s with toks := s.toks + 1 }) :
    wpAny (model prog w) A (call (.type "int") [x, b]) Q E s :=
  callType_new F.called_int F.newNe_int (typeCall_int_2 x b) (newCall_int_2 x b) (fun obj => args_oi_3 obj x b) F.entry_int_new g.meets (show (Made.int n).post _ s from ⟨rfl, h⟩)
theorem call_int_big {u v : Tok} {Q : Value → Shared → Prop} (h : ∀ n : Int, n = 1114112 → Q (.int n s.toks) { s with toks := s.toks + 1 }) :
    wpAny (model prog w) A (call (.type "int") [.str (Str.ofString "110000") u, .int 16 v]) Q E s := call_int_2 (gives_big _ _) (h _ rfl)
end
end
section
theorem rk_Sign_0 : True := by
  k_with_none
  trivial


open PyProof.Rows.LCg PyProof.Rows.LCt

theorem signAt_is {x : Str} {l : List Nat} (e : x.cps = l.toArray) {i : Nat} {v : Value} (h : SignAt x i v) : ∃ c u, l[i]? = some c ∧ v = .str ⟨#[c]⟩ u := by
  obtain ⟨c, u, hc, rfl⟩ := h
  rw [e] at hc
  exact ⟨c, u, by simpa using hc, rfl⟩
theorem isEmpty_occ (x : Str) (c : Nat) : (Builtin.Str.occurrences x ⟨#[c]⟩ 0 x.length 1).isEmpty = !decide (c ∈ lst x) := by
  have h := StrLaws.found_one x c
  rw [← Bool.not_not (List.isEmpty _), h]
  rfl
theorem all_in {al : Str} {l : List Nat} {i c : Nat} {b : Bool} (h : l[i]? = some c) (hb : (l.all fun c => decide (c ∈ lst al)) = true) (q : (Builtin.Str.occurrences al ⟨#[c]⟩ 0 al.length 1).isEmpty = b) : b = false := by
  have := List.all_eq_true.mp hb c (List.mem_of_getElem? h)
  rw [isEmpty_occ, this] at q
  exact q.symm
section
variable {prog : Program} {w : World} {p : Program} {loose : List Str} {mean : ExcName → Option Value} {mg mb : Str → Option Value}

set_option pp.deepTerms false
set_option pp.proofs false
theorem rk_Sign_1 : True := by
  k_with "k_room" => (((try simp only [depth_under_make, depth_under_kw, depth_in1, depth_deeper, depth_caller]); (try dsimp only [top]); omega))
  trivial
theorem rk_Sign_2 : True := by
  k_with "k_units" => (((try simp only [units_in1, units_deeper, Around.mark_units]); (try dsimp only [top]); omega))
  trivial
theorem rk_Sign_3 : True := by
  k_with "units_room" => (((try simp only [units_in1, units_deeper, Around.mark_units]); (try dsimp only [top]); omega))
  trivial
theorem rk_Sign_4 : True := by
  k_with "k_ne" => (((try dsimp only); first | assumption | exact Ne.symm (by assumption) | (refine neN ?_; omega)))
  trivial
theorem rk_Sign_5 : True := by
  k_with "k_all" => (first | assumption | exact List.forall_mem_nil _ | (refine' List.forall_mem_cons.mpr ⟨?a, ?b⟩; (case a => k_ne); (case b => k_all)))
  trivial
theorem rk_Sign_6 : True := by
  k_with "use:takes" => (repeat' (first | exact Takes.nil | exact Take1.head | refine' Takes.cons ?_ ?_ | refine' Take1.tail ?_))
  trivial
theorem rk_Sign_7 : True := by
  k_with "use:apart" => (((try dsimp only); repeat' (first | assumption | exact List.forall_mem_nil _ | refine' List.forall_mem_cons.mpr ⟨_, _⟩ | (intro x9 hx9; exact absurd hx9 (by simp)) | (dsimp only; first | assumption | exact Ne.symm (by assumption)) | k_ne)))
  trivial
theorem rk_Sign_8 : True := by
  k_with "use:room" => (first | (refine' room3 ?h9 ?e9; (case h9 => assumption); (case e9 => exact rfl)) | (refine' room_le ?h8 ?e8; (case h8 => assumption); (case e8 => exact rfl)) | ((try dsimp only [top, Around.deeper]); omega))
  trivial
theorem rk_Sign_9 : True := by
  k_with "use:le" => (first | assumption | exact le_mil (by assumption) | omega)
  trivial
theorem rk_Sign_10 : True := by
  k_with "exec Raise some none" => ((k_here; refine raise_stmt rfl ?_))
  trivial
theorem rk_Sign_11 : True := by
  k_with "call ref" => ((k_here; (with_reducible show wpAny _ _ (call (Value.ref 44) [_]) _ _ _); k_dflt (refine' fault_use ?B ?F ?X ?N ?T rfl rfl ?hd ?hu ?_; (case B => k_asm); (case F => k_asm); (case X => k_asm); (case N => k_asm); (case T => k_asm); (case hd => walk_at "use:room"); (case hu => walk_at "use:room"); intro e' tp' dx' h' tk' F' N')))
  trivial
theorem rk_Sign_12 : True := by
  k_with "RaiseBack" => ((k_here; k_dflt (refine' ⟨_, _, _, rfl, faultCls ?X, News.get ?N (List.Mem.head _), ?_⟩; (case N => k_asm); (case X => k_in)); (try dsimp only)))
  trivial
theorem rk_Sign_13 : True := by
  k_with "leaving ref" => ((k_here; k_dflt (first | (refine' leave_new_F ?B ?F ?N (List.Mem.head _) rfl rfl ?_; (case B => k_asm); (case F => k_asm); (case N => k_asm); intro h' hfl') | (refine' leave_fly rfl rfl ?fl ?_; (case fl => assumption); intro h' hfl'))))
  trivial

theorem rk_Sign_14 : True := by
  k_with "call builtin:dict.get" => ((k_here; k_dflt (first | (refine kt_get1_thereS (by k_tabat) (by first | with_reducible assumption | rfl) ?_; intro v' hv'; kt_l_open hv') | refine kt_get1_noneS (by k_tabat) (by first | with_reducible assumption | rfl) ?_)))
  trivial
theorem rk_Sign_15 : True := by
  k_with "call type:int" => ((k_here; (with_reducible show wpAny _ _ (call _ [Value.str (Str.ofString "65") _, _]) _ _ _); k_dflt (refine call_int_2 (gives_65 _ _) ?_)))
  trivial
theorem rk_Sign_16 : True := by
  k_with "call type:int" => ((k_here; (with_reducible show wpAny _ _ (call _ [Value.str (Str.ofString "42") _, _]) _ _ _); k_dflt (refine call_int_2 (gives_42 _ _) ?_)))
  trivial
theorem rk_Sign_17 : True := by
  k_with "call type:int" => ((k_here; (with_reducible show wpAny _ _ (call _ [Value.str (Str.ofString "110000") _, _]) _ _ _); k_dflt (refine call_int_big ?_; intro n9 hn9)))
  trivial
theorem rk_Sign_18 : True := by
  k_with "eval ListComp" => ((k_here; k_dflt (refine ListComp_S (F₀ := by k_asm) (by with_unfolding_all rfl) (by decide) (by rfl) (by decide) (by rfl) ?_)))
  trivial
set_option maxHeartbeats 8000000 in
theorem sg0 {tw : Tok} : Fn prog w p loose mean mg mb 136 4 200 [.str (Str.ofString "lt") tw] [] (fun _ r o => ∃ t, r = .str (Str.ofString "<") t ∧ o = []) False := by
  refine' Fn.introC (binds := [(Str.ofString "word", .str (Str.ofString "lt") tw)]) ?ho ?hcd ?hb ?hl ?hn ?hd ?_ ?c2 ?c3 ?c4
  (case ho => k_is)
  (case hcd => k_is)
  (case hb => (intro s0 hX0; exact BindsTo.of_eq rfl))
  (case hl => exact rfl)
  (case hn => decide +kernel)
  (case hd => first | decide | omega)
  (case c2 => exact rfl)
  (case c3 => exact rfl)
  (case c4 => exact rfl)
  intro dp un gd l base g s Q E L' h₁ tk cells hdp hun B F N Y hlt X TP hL hret herr
  k_cells Y
  (try simp only [List.cons_append, List.nil_append] at N)
  (try dsimp only)
  (try k_fold)
  k_steps
  all_goals (first | (refine herr _ _ _ (by assumption) trivial) | (refine hret _ [] _ _ (Fr.keep (by assumption)) (fun _ h => (nomatch h)) (size_of (by assumption) hL) ⟨_, rfl, rfl⟩))
set_option maxHeartbeats 8000000 in
theorem sg1 {tw : Tok} : Fn prog w p loose mean mg mb 136 4 200 [.str (Str.ofString "gt") tw] [] (fun _ r o => ∃ t, r = .str (Str.ofString ">") t ∧ o = []) False := by
  refine' Fn.introC (binds := [(Str.ofString "word", .str (Str.ofString "gt") tw)]) ?ho ?hcd ?hb ?hl ?hn ?hd ?_ ?c2 ?c3 ?c4
  (case ho => k_is)
  (case hcd => k_is)
  (case hb => (intro s0 hX0; exact BindsTo.of_eq rfl))
  (case hl => exact rfl)
  (case hn => decide +kernel)
  (case hd => first | decide | omega)
  (case c2 => exact rfl)
  (case c3 => exact rfl)
  (case c4 => exact rfl)
  intro dp un gd l base g s Q E L' h₁ tk cells hdp hun B F N Y hlt X TP hL hret herr
  k_cells Y
  (try simp only [List.cons_append, List.nil_append] at N)
  (try dsimp only)
  (try k_fold)
  k_steps
  all_goals (first | (refine herr _ _ _ (by assumption) trivial) | (refine hret _ [] _ _ (Fr.keep (by assumption)) (fun _ h => (nomatch h)) (size_of (by assumption) hL) ⟨_, rfl, rfl⟩))
set_option maxHeartbeats 8000000 in
theorem sg2 {tw : Tok} : Fn prog w p loose mean mg mb 136 4 200 [.str (Str.ofString "amp") tw] [] (fun _ r o => ∃ t, r = .str (Str.ofString "&") t ∧ o = []) False := by
  refine' Fn.introC (binds := [(Str.ofString "word", .str (Str.ofString "amp") tw)]) ?ho ?hcd ?hb ?hl ?hn ?hd ?_ ?c2 ?c3 ?c4
  (case ho => k_is)
  (case hcd => k_is)
  (case hb => (intro s0 hX0; exact BindsTo.of_eq rfl))
  (case hl => exact rfl)
  (case hn => decide +kernel)
  (case hd => first | decide | omega)
  (case c2 => exact rfl)
  (case c3 => exact rfl)
  (case c4 => exact rfl)
  intro dp un gd l base g s Q E L' h₁ tk cells hdp hun B F N Y hlt X TP hL hret herr
  k_cells Y
  (try simp only [List.cons_append, List.nil_append] at N)
  (try dsimp only)
  (try k_fold)
  k_steps
  all_goals (first | (refine herr _ _ _ (by assumption) trivial) | (refine hret _ [] _ _ (Fr.keep (by assumption)) (fun _ h => (nomatch h)) (size_of (by assumption) hL) ⟨_, rfl, rfl⟩))
set_option maxHeartbeats 8000000 in
theorem sg3 {tw : Tok} : Fn prog w p loose mean mg mb 136 4 200 [.str (Str.ofString "apos") tw] [] (fun _ r o => ∃ t, r = .str (Str.ofString "'") t ∧ o = []) False := by
  refine' Fn.introC (binds := [(Str.ofString "word", .str (Str.ofString "apos") tw)]) ?ho ?hcd ?hb ?hl ?hn ?hd ?_ ?c2 ?c3 ?c4
  (case ho => k_is)
  (case hcd => k_is)
  (case hb => (intro s0 hX0; exact BindsTo.of_eq rfl))
  (case hl => exact rfl)
  (case hn => decide +kernel)
  (case hd => first | decide | omega)
  (case c2 => exact rfl)
  (case c3 => exact rfl)
  (case c4 => exact rfl)
  intro dp un gd l base g s Q E L' h₁ tk cells hdp hun B F N Y hlt X TP hL hret herr
  k_cells Y
  (try simp only [List.cons_append, List.nil_append] at N)
  (try dsimp only)
  (try k_fold)
  k_steps
  all_goals (first | (refine herr _ _ _ (by assumption) trivial) | (refine hret _ [] _ _ (Fr.keep (by assumption)) (fun _ h => (nomatch h)) (size_of (by assumption) hL) ⟨_, rfl, rfl⟩))
set_option maxHeartbeats 8000000 in
theorem sg4 {tw : Tok} : Fn prog w p loose mean mg mb 136 4 200 [.str (Str.ofString "quot") tw] [] (fun _ r o => ∃ t, r = .str (Str.ofString "\"") t ∧ o = []) False := by
  refine' Fn.introC (binds := [(Str.ofString "word", .str (Str.ofString "quot") tw)]) ?ho ?hcd ?hb ?hl ?hn ?hd ?_ ?c2 ?c3 ?c4
  (case ho => k_is)
  (case hcd => k_is)
  (case hb => (intro s0 hX0; exact BindsTo.of_eq rfl))
  (case hl => exact rfl)
  (case hn => decide +kernel)
  (case hd => first | decide | omega)
  (case c2 => exact rfl)
  (case c3 => exact rfl)
  (case c4 => exact rfl)
  intro dp un gd l base g s Q E L' h₁ tk cells hdp hun B F N Y hlt X TP hL hret herr
  k_cells Y
  (try simp only [List.cons_append, List.nil_append] at N)
  (try dsimp only)
  (try k_fold)
  k_steps
  all_goals (first | (refine herr _ _ _ (by assumption) trivial) | (refine hret _ [] _ _ (Fr.keep (by assumption)) (fun _ h => (nomatch h)) (size_of (by assumption) hL) ⟨_, rfl, rfl⟩))
set_option maxHeartbeats 8000000 in
theorem sg5 {tw : Tok} : Fn prog w p loose mean mg mb 136 4 200 [.str (Str.ofString "#65") tw] [] (fun _ r o => ∃ t, r = .str (Str.ofString "A") t ∧ o = []) False := by
  refine' Fn.introC (binds := [(Str.ofString "word", .str (Str.ofString "#65") tw)]) ?ho ?hcd ?hb ?hl ?hn ?hd ?_ ?c2 ?c3 ?c4
  (case ho => k_is)
  (case hcd => k_is)
  (case hb => (intro s0 hX0; exact BindsTo.of_eq rfl))
  (case hl => exact rfl)
  (case hn => decide +kernel)
  (case hd => first | decide | omega)
  (case c2 => exact rfl)
  (case c3 => exact rfl)
  (case c4 => exact rfl)
  intro dp un gd l base g s Q E L' h₁ tk cells hdp hun B F N Y hlt X TP hL hret herr
  k_cells Y
  (try simp only [List.cons_append, List.nil_append] at N)
  (try dsimp only)
  (try k_fold)
  k_steps
  (try dsimp only)
  refine ⟨_, _, _, rfl, by decide +kernel, by decide +kernel, rfl, by k_asm, by k_asm, ?_⟩
  rintro s2 ⟨hh2, rfl⟩
  (try dsimp only)
  refine comp_none ?done ?turn _ 0
  (case turn =>
    intro i9 v' I' oI' C' oC' D' m' h' tk' E' Q' hv' hC' hx' F' N' off' ne' hq'
    obtain ⟨c9, u9, hc9, rfl⟩ := signAt_is (l := [54, 53]) (by decide +kernel) hv'
    k_steps
    rw [all_in hc9 (by decide +kernel) rfl]
    exact hq' _ _ (by assumption) (by assumption))
  (case done =>
    intro D' h' tk' F' N' off'
    k_steps
    all_goals (first | (refine herr _ _ _ (by assumption) trivial) | (refine hret _ [] _ _ (Fr.keep (by assumption)) (fun _ h => (nomatch h)) (size_of (by assumption) hL) ⟨_, rfl, rfl⟩)))
set_option maxHeartbeats 8000000 in
theorem sg6 {tw : Tok} : Fn prog w p loose mean mg mb 136 4 200 [.str (Str.ofString "#x42") tw] [] (fun _ r o => ∃ t, r = .str (Str.ofString "B") t ∧ o = []) False := by
  refine' Fn.introC (binds := [(Str.ofString "word", .str (Str.ofString "#x42") tw)]) ?ho ?hcd ?hb ?hl ?hn ?hd ?_ ?c2 ?c3 ?c4
  (case ho => k_is)
  (case hcd => k_is)
  (case hb => (intro s0 hX0; exact BindsTo.of_eq rfl))
  (case hl => exact rfl)
  (case hn => decide +kernel)
  (case hd => first | decide | omega)
  (case c2 => exact rfl)
  (case c3 => exact rfl)
  (case c4 => exact rfl)
  intro dp un gd l base g s Q E L' h₁ tk cells hdp hun B F N Y hlt X TP hL hret herr
  k_cells Y
  (try simp only [List.cons_append, List.nil_append] at N)
  (try dsimp only)
  (try k_fold)
  k_steps
  (try dsimp only)
  refine ⟨_, _, _, rfl, by decide +kernel, by decide +kernel, rfl, by k_asm, by k_asm, ?_⟩
  rintro s2 ⟨hh2, rfl⟩
  (try dsimp only)
  refine comp_none ?done ?turn _ 0
  (case turn =>
    intro i9 v' I' oI' C' oC' D' m' h' tk' E' Q' hv' hC' hx' F' N' off' ne' hq'
    obtain ⟨c9, u9, hc9, rfl⟩ := signAt_is (l := [52, 50]) (by decide +kernel) hv'
    k_steps
    rw [all_in hc9 (by decide +kernel) rfl]
    exact hq' _ _ (by assumption) (by assumption))
  (case done =>
    intro D' h' tk' F' N' off'
    k_steps
    all_goals (first | (refine herr _ _ _ (by assumption) trivial) | (refine hret _ [] _ _ (Fr.keep (by assumption)) (fun _ h => (nomatch h)) (size_of (by assumption) hL) ⟨_, rfl, rfl⟩)))
set_option maxHeartbeats 8000000 in
theorem sg7 {tw : Tok} : Fn prog w p loose mean mg mb 136 4 200 [.str (Str.ofString "x") tw] [] (fun _ r o => False ∧ o = []) True := by
  refine' Fn.introC (binds := [(Str.ofString "word", .str (Str.ofString "x") tw)]) ?ho ?hcd ?hb ?hl ?hn ?hd ?_ ?c2 ?c3 ?c4
  (case ho => k_is)
  (case hcd => k_is)
  (case hb => (intro s0 hX0; exact BindsTo.of_eq rfl))
  (case hl => exact rfl)
  (case hn => decide +kernel)
  (case hd => first | decide | omega)
  (case c2 => exact rfl)
  (case c3 => exact rfl)
  (case c4 => exact rfl)
  intro dp un gd l base g s Q E L' h₁ tk cells hdp hun B F N Y hlt X TP hL hret herr
  k_cells Y
  (try simp only [List.cons_append, List.nil_append] at N)
  (try dsimp only)
  (try k_fold)
  k_steps
  all_goals (first | (refine herr _ _ _ (by assumption) trivial) | (refine hret _ [] _ _ (Fr.keep (by assumption)) (fun _ h => (nomatch h)) (size_of (by assumption) hL) ⟨_, rfl, rfl⟩))
set_option maxHeartbeats 8000000 in
theorem sg8 {tw : Tok} : Fn prog w p loose mean mg mb 136 4 200 [.str (Str.ofString "#") tw] [] (fun _ r o => False ∧ o = []) True := by
  refine' Fn.introC (binds := [(Str.ofString "word", .str (Str.ofString "#") tw)]) ?ho ?hcd ?hb ?hl ?hn ?hd ?_ ?c2 ?c3 ?c4
  (case ho => k_is)
  (case hcd => k_is)
  (case hb => (intro s0 hX0; exact BindsTo.of_eq rfl))
  (case hl => exact rfl)
  (case hn => decide +kernel)
  (case hd => first | decide | omega)
  (case c2 => exact rfl)
  (case c3 => exact rfl)
  (case c4 => exact rfl)
  intro dp un gd l base g s Q E L' h₁ tk cells hdp hun B F N Y hlt X TP hL hret herr
  k_cells Y
  (try simp only [List.cons_append, List.nil_append] at N)
  (try dsimp only)
  (try k_fold)
  k_steps
  all_goals (first | (refine herr _ _ _ (by assumption) trivial) | (refine hret _ [] _ _ (Fr.keep (by assumption)) (fun _ h => (nomatch h)) (size_of (by assumption) hL) ⟨_, rfl, rfl⟩))
set_option maxHeartbeats 8000000 in
theorem sg9 {tw : Tok} : Fn prog w p loose mean mg mb 136 4 200 [.str (Str.ofString "#x110000") tw] [] (fun _ r o => False ∧ o = []) True := by
  refine' Fn.introC (binds := [(Str.ofString "word", .str (Str.ofString "#x110000") tw)]) ?ho ?hcd ?hb ?hl ?hn ?hd ?_ ?c2 ?c3 ?c4
  (case ho => k_is)
  (case hcd => k_is)
  (case hb => (intro s0 hX0; exact BindsTo.of_eq rfl))
  (case hl => exact rfl)
  (case hn => decide +kernel)
  (case hd => first | decide | omega)
  (case c2 => exact rfl)
  (case c3 => exact rfl)
  (case c4 => exact rfl)
  intro dp un gd l base g s Q E L' h₁ tk cells hdp hun B F N Y hlt X TP hL hret herr
  k_cells Y
  (try simp only [List.cons_append, List.nil_append] at N)
  (try dsimp only)
  (try k_fold)
  k_steps
  (try dsimp only)
  refine ⟨_, _, _, rfl, by decide +kernel, by decide +kernel, rfl, by k_asm, by k_asm, ?_⟩
  rintro s2 ⟨hh2, rfl⟩
  (try dsimp only)
  refine comp_none ?done ?turn _ 0
  (case turn =>
    intro i9 v' I' oI' C' oC' D' m' h' tk' E' Q' hv' hC' hx' F' N' off' ne' hq'
    obtain ⟨c9, u9, hc9, rfl⟩ := signAt_is (l := [49, 49, 48, 48, 48, 48]) (by decide +kernel) hv'
    k_steps
    rw [all_in hc9 (by decide +kernel) rfl]
    exact hq' _ _ (by assumption) (by assumption))
  (case done =>
    intro D' h' tk' F' N' off'
    k_steps
    all_goals (first | (refine herr _ _ _ (by assumption) trivial) | (refine hret _ [] _ _ (Fr.keep (by assumption)) (fun _ h => (nomatch h)) (size_of (by assumption) hL) ⟨_, rfl, rfl⟩)))
end
end
section
theorem rk_Unesc_0 : True := by
  k_with_none
  trivial


/-- the references that this law writes, and what comes of them -/
inductive Sgn : List Nat → Option (List Nat) → Prop
  | lt : Sgn [108, 116] (some [60])
  | gt : Sgn [103, 116] (some [62])
  | amp : Sgn [97, 109, 112] (some [38])
  | apos : Sgn [97, 112, 111, 115] (some [39])
  | quot : Sgn [113, 117, 111, 116] (some [34])
  | n65 : Sgn [35, 54, 53] (some [65])
  | x42 : Sgn [35, 120, 52, 50] (some [66])
  | x : Sgn [120] none
  | hash : Sgn [35] none
  | big : Sgn [35, 120, 49, 49, 48, 48, 48, 48] none

/-- a text with references and what it says; none: it is refused -/
inductive Unesc : List Nat → Option (List Nat) → Prop
  | nil : Unesc [] (some [])
  | plain {R : List Nat} : R ≠ [] → fnd [38] R = none → Unesc R (some R)
  | open_ {R : List Nat} {k : Nat} : fnd [38] R = some k → fnd [59] (R.drop k) = none → Unesc R none
  | bad {R : List Nat} {k e : Nat} : fnd [38] R = some k → fnd [59] (R.drop k) = some (e + 1) → Sgn ((R.drop (k + 1)).take e) none → Unesc R none
  | ok {R c : List Nat} {k e : Nat} {res : Option (List Nat)} : fnd [38] R = some k → fnd [59] (R.drop k) = some (e + 1) → Sgn ((R.drop (k + 1)).take e) (some c) → Unesc (R.drop (k + e + 2)) res → Unesc R (res.map fun y => R.take k ++ c ++ y)

section
variable {prog : Program} {w : World} {p : Program} {loose : List Str} {mean : ExcName → Option Value} {mg mb : Str → Option Value}

theorem sign_fn {x : Str} {tw : Tok} {r : Option (List Nat)} (h : Sgn (lst x) r) :
    Fn prog w p loose mean mg mb 136 4 200 [.str x tw] [] (fun _ v o => ∃ c t, r = some c ∧ v = .str ⟨c.toArray⟩ t ∧ o = []) (r = none) := by
  generalize hl : lst x = l at h
  have hx : x = ⟨l.toArray⟩ := by rw [← hl, mk_lst]
  subst hx
  cases h
  · exact Fn.mono sg0 (fun _ _ _ ⟨t, e1, e2⟩ => ⟨_, t, rfl, e1, e2⟩) (fun h => h.elim)
  · exact Fn.mono sg1 (fun _ _ _ ⟨t, e1, e2⟩ => ⟨_, t, rfl, e1, e2⟩) (fun h => h.elim)
  · exact Fn.mono sg2 (fun _ _ _ ⟨t, e1, e2⟩ => ⟨_, t, rfl, e1, e2⟩) (fun h => h.elim)
  · exact Fn.mono sg3 (fun _ _ _ ⟨t, e1, e2⟩ => ⟨_, t, rfl, e1, e2⟩) (fun h => h.elim)
  · exact Fn.mono sg4 (fun _ _ _ ⟨t, e1, e2⟩ => ⟨_, t, rfl, e1, e2⟩) (fun h => h.elim)
  · exact Fn.mono sg5 (fun _ _ _ ⟨t, e1, e2⟩ => ⟨_, t, rfl, e1, e2⟩) (fun h => h.elim)
  · exact Fn.mono sg6 (fun _ _ _ ⟨t, e1, e2⟩ => ⟨_, t, rfl, e1, e2⟩) (fun h => h.elim)
  · exact Fn.mono sg7 (fun _ _ _ h => h.1.elim) (fun _ => rfl)
  · exact Fn.mono sg8 (fun _ _ _ h => h.1.elim) (fun _ => rfl)
  · exact Fn.mono sg9 (fun _ _ _ h => h.1.elim) (fun _ => rfl)

theorem sign_ok {x : Str} {tw : Tok} {c : List Nat} (h : Sgn (lst x) (some c)) :
    Fn prog w p loose mean mg mb 136 4 200 [.str x tw] [] (PK fun _ C => ∀ t, C (.str ⟨c.toArray⟩ t) []) False :=
  Fn.mono (sign_fn h) (fun _ _ _ ⟨c', t, e1, e2, e3⟩ => fun C k => by cases e1; subst e2 e3; exact k t) (fun h => nomatch h)
theorem sign_bad {x : Str} {tw : Tok} (h : Sgn (lst x) none) :
    Fn prog w p loose mean mg mb 136 4 200 [.str x tw] [] (fun _ _ _ => False) True :=
  Fn.mono (sign_fn h) (fun _ _ _ ⟨c', t, e1, e2, e3⟩ => by cases e1) (fun _ => trivial)
theorem sgn_len {W c : List Nat} (h : Sgn W (some c)) : c.length = 1 := by
  generalize hr : some c = r at h
  cases h <;> cases hr <;> rfl
theorem find_is {A : Around} {E : Value → Shared → Prop} {s : Shared} {x y : Str} {t u v : Tok} {i k : Int} {Q : Value → Shared → Prop} (e : Txt.find3 x y i = k) (h : Q (.int k s.toks) { s with toks := s.toks + 1 }) :
    wpAny (model prog w) A (call (.builtin "str.find") [.str x t, .str y u, .int i v]) Q E s := SC.find3 (e ▸ h)
theorem strs_snoc {y : Str} {t : Tok} : ∀ {vs : List Value} {ys : List Str}, StrsAre vs ys → StrsAre (vs ++ [.str y t]) (ys ++ [y])
  | _, _, .nil => .cons y t .nil
  | _, _, .cons z u r => .cons z u (strs_snoc r)
theorem join_lst (ys : List Str) : lst (Txt.join (Str.ofString "") ys) = ys.flatMap lst := by
  unfold Txt.join
  rw [StrLaws.glued_eq_join]
  induction ys with
  | nil => rfl
  | cons y r ih =>
    cases r with
    | nil => simp [Str.join]
    | cons z r =>
      show lst (y ++ Str.ofString "" ++ Str.join (Str.ofString "") (z :: r)) = _
      rw [lst_app, lst_app, ih, show lst (Str.ofString "") = [] from by decide +kernel]
      simp

theorem slice_end {x : Str} {i : Int} {R : List Nat} (h : Rest x i R) : Txt.slice x (some i) (some (x.length : Int)) = ⟨R.toArray⟩ := by
  have := slice_rest h (k := R.length) (Nat.le_refl _)
  have hl := h.len
  rw [show i + (R.length : Int) = x.length by omega, List.take_length] at this
  exact this
theorem rest_end (x : Str) : Rest x (x.length : Int) [] := ⟨by omega, by omega, by rw [← lst_len]; simp⟩
/-- the places that the function finds, at a reference -/
theorem un_places {x : Str} {i : Int} {R : List Nat} {k : Nat} (hR : Rest x i R) (hk : fnd [38] R = some k) :
    Txt.find3 x (Str.ofString "&") i = i + (k : Int) ∧ k + 1 ≤ R.length ∧ Rest x (i + (k : Int)) (R.drop k) := by
  have hff := find_fnd (W := Str.ofString "&") hR
  rw [show lst (Str.ofString "&") = [38] from by decide +kernel, hk] at hff
  have hle := fnd_le hk
  refine ⟨?_, hle, hR.move (by simp at hle; omega)⟩
  rcases hff with ⟨_, h⟩ | ⟨k', h, h2⟩
  · cases h
  · cases h2; exact h
theorem un_end {x : Str} {i : Int} {R : List Nat} (hR : Rest x i R) : (Txt.find3 x (Str.ofString ";") i = -1 ∧ fnd [59] R = none) ∨ ∃ e : Nat, Txt.find3 x (Str.ofString ";") i = i + (e : Int) ∧ fnd [59] R = some e ∧ e + 1 ≤ R.length := by
  have hff := find_fnd (W := Str.ofString ";") hR
  rw [show lst (Str.ofString ";") = [59] from by decide +kernel] at hff
  rcases hff with h | ⟨e, h1, h2⟩
  · exact .inl h
  · exact .inr ⟨e, h1, h2, fnd_le h2⟩
theorem un_word {x : Str} {i : Int} {R : List Nat} {k e : Nat} (hR : Rest x (i + (k : Int)) (R.drop k)) (he : e + 1 + 1 ≤ (R.drop k).length) :
    Txt.slice x (some (i + (k : Int) + 1)) (some (i + (k : Int) + ((e + 1 : Nat) : Int))) = ⟨((R.drop (k + 1)).take e).toArray⟩ := by
  have h1 := hR.move (k := 1) (by omega)
  have h2 := slice_rest h1 (k := e) (by simp at he ⊢; omega)
  rw [List.drop_drop] at h2
  rw [← h2]
  congr 2
  omega
/-- what holds at each turn of the loop -/
noncomputable abbrev frU (f : Addr) (x : Str) (tx : Tok) (i : Int) (ti : Tok) (u1 u2 : Option Value) : Str → Option Value := fun y =>
  if y = Str.ofString "at" then some (.int i ti) else if y = Str.ofString "mark" then u1 else if y = Str.ofString "end" then u2 else if y = Str.ofString "found" then some (.ref f) else if y = Str.ofString "text" then some (.str x tx) else none
inductive UnJ (x : Str) (tx : Tok) (res : Option (List Nat)) : Nat → (Str → Option Value) → List (Addr × Obj) → Prop
  | mk {f : Addr} {i : Int} {ti : Tok} {u1 u2 : Option Value} {R : List Nat} {its : Array Value} {k : Nat} {ys : List Str} {r' : Option (List Nat)} : Rest x i R → StrsAre its.toList ys → its.size + 2 * R.length ≤ 2 * x.length → (ys.map (·.length)).sum + R.length ≤ x.length →
      Unesc R r' → (res = r'.map fun z => ys.flatMap lst ++ z) → UnJ x tx res R.length (frU f x tx i ti u1 u2) [(f, listOf its k)]
theorem frU_of {f : Addr} {x : Str} {tx : Tok} {i : Int} {ti : Tok} {m : Str → Option Value} (h1 : m (Str.ofString "at") = some (.int i ti)) (h2 : m (Str.ofString "found") = some (.ref f)) (h3 : m (Str.ofString "text") = some (.str x tx))
    (h4 : ∀ y, y ≠ Str.ofString "at" → y ≠ Str.ofString "mark" → y ≠ Str.ofString "end" → y ≠ Str.ofString "found" → y ≠ Str.ofString "text" → m y = none) (y : Str) : m y = frU f x tx i ti (m (Str.ofString "mark")) (m (Str.ofString "end")) y := by
  show m y = if _ then _ else _
  by_cases q1 : y = Str.ofString "at"
  · rw [if_pos q1, q1, h1]
  · rw [if_neg q1]
    by_cases q2 : y = Str.ofString "mark"
    · rw [if_pos q2, q2]
    · rw [if_neg q2]
      by_cases q3 : y = Str.ofString "end"
      · rw [if_pos q3, q3]
      · rw [if_neg q3]
        by_cases q4 : y = Str.ofString "found"
        · rw [if_pos q4, q4, h2]
        · rw [if_neg q4]
          by_cases q5 : y = Str.ofString "text"
          · rw [if_pos q5, q5, h3]
          · rw [if_neg q5]; exact h4 y q1 q2 q3 q4 q5
theorem un_sum {ys : List Str} {R : List Nat} {n : Nat} (h : (ys.map (·.length)).sum + R.length ≤ n) : ((ys ++ [(⟨R.toArray⟩ : Str)]).map (·.length)).sum + ([] : List Nat).length ≤ n := by
  simp only [List.map_append, List.sum_append, List.map_cons, List.map_nil, List.sum_cons, List.sum_nil, List.length_nil]
  have : (⟨R.toArray⟩ : Str).length = R.length := by simp [Str.length]
  omega
theorem un_sum2 {ys : List Str} {R c : List Nat} {k e n : Nat} (h : (ys.map (·.length)).sum + R.length ≤ n) (hc : c.length = 1) (p6 : e + 1 + 1 ≤ (R.drop k).length) :
    ((ys ++ [(⟨(R.take k).toArray⟩ : Str)] ++ [(⟨c.toArray⟩ : Str)]).map (·.length)).sum + (R.drop (k + e + 2)).length ≤ n := by
  simp only [List.map_append, List.sum_append, List.map_cons, List.map_nil, List.sum_cons, List.sum_nil, List.length_drop]
  have h1 : (⟨(R.take k).toArray⟩ : Str).length = k := by simp [Str.length] at p6 ⊢; omega
  have h2 : (⟨c.toArray⟩ : Str).length = 1 := by simp [Str.length, hc]
  simp at p6
  omega
theorem un_lt {R : List Nat} {k e : Nat} (p6 : e + 1 + 1 ≤ (R.drop k).length) : (R.drop (k + e + 2)).length < R.length ∧ k + e + 2 ≤ R.length := by
  simp at p6 ⊢
  omega
theorem un_move {x : Str} {i : Int} {R : List Nat} {k e : Nat} (hR : Rest x i R) (h : k + e + 2 ≤ R.length) : Rest x (i + (k : Int) + ((e + 1 : Nat) : Int) + 1) (R.drop (k + e + 2)) := by
  have e9 : i + (k : Int) + ((e + 1 : Nat) : Int) + 1 = i + ((k + e + 2 : Nat) : Int) := by omega
  rw [e9]; exact hR.move h
theorem res_ok {res res' : Option (List Nat)} {ys : List Str} {a c : List Nat} (h : res = (res'.map fun y => a ++ c ++ y).map fun z => ys.flatMap lst ++ z) : res = res'.map fun z => (ys ++ [(⟨a.toArray⟩ : Str)] ++ [(⟨c.toArray⟩ : Str)]).flatMap lst ++ z := by
  rw [h]
  cases res' <;> simp [lst_mk]
theorem unesc_none {R : List Nat} {r : Option (List Nat)} (h : Unesc R r) (hk : fnd [38] R = none) : (R = [] ∧ r = some []) ∨ (R ≠ [] ∧ r = some R) := by
  cases h with
  | nil => exact .inl ⟨rfl, rfl⟩
  | plain h _ => exact .inr ⟨h, rfl⟩
  | open_ h | bad h | ok h => exact nomatch h.symm.trans hk
/-- a reference's end, sought -/
theorem find_end {prog : Program} {w : World} {A : Around} {E : Value → Shared → Prop} {s : Shared} {x : Str} {t u v : Tok} {j : Int} {R' : List Nat} {Q : Value → Shared → Prop} (hR : Rest x j R')
    (h : (fnd [59] R' = none → Q (.int (-1) s.toks) { s with toks := s.toks + 1 }) ∧ ∀ e : Nat, fnd [59] R' = some e → e + 1 ≤ R'.length → Q (.int (j + (e : Int)) s.toks) { s with toks := s.toks + 1 }) :
    wpAny (model prog w) A (call (.builtin "str.find") [.str x t, .str (Str.ofString ";") u, .int j v]) Q E s := by
  rcases un_end hR with ⟨e1, e2⟩ | ⟨e, e1, e2, e3⟩
  · exact find_is e1 (h.1 e2)
  · exact find_is e1 (h.2 e e2 e3)
theorem unesc_amp {R : List Nat} {r : Option (List Nat)} {k : Nat} (h : Unesc R r) (hk : fnd [38] R = some k) : (fnd [59] (R.drop k) = none → r = none) ∧ ∀ e, fnd [59] (R.drop k) = some e → ∃ e' s, e = e' + 1 ∧ Sgn ((R.drop (k + 1)).take e') s ∧ (s = none → r = none) ∧
    ∀ c, s = some c → ∃ res', Unesc (R.drop (k + e' + 2)) res' ∧ r = res'.map fun y => R.take k ++ c ++ y := by
  cases h with
  | nil => exact nomatch hk
  | plain _ h => exact nomatch h.symm.trans hk
  | open_ h1 h2 => rw [hk] at h1; cases h1; exact ⟨fun _ => rfl, fun e he => (nomatch h2.symm.trans he)⟩
  | bad h1 h2 h3 => rw [hk] at h1; cases h1; exact ⟨fun h => (nomatch h.symm.trans h2), fun e he => by rw [h2] at he; cases he; exact ⟨_, _, rfl, h3, fun _ => rfl, fun _ z => nomatch z⟩⟩
  | ok h1 h2 h3 h4 => rw [hk] at h1; cases h1; exact ⟨fun h => (nomatch h.symm.trans h2), fun e he => by rw [h2] at he; cases he; exact ⟨_, _, rfl, h3, fun z => (nomatch z), fun _ z => by cases z; exact ⟨_, h4, rfl⟩⟩⟩
section
variable {prog : Program} {w : World} {p : Program} {loose : List Str} {mean : ExcName → Option Value} {mg mb : Str → Option Value}

theorem sign_u {x : Str} {tw : Tok} {i : Int} {R : List Nat} {r' : Option (List Nat)} {k e : Nat} (hp : Rest x (i + (k : Int)) (R.drop k)) (hU : Unesc R r') (hk : fnd [38] R = some k) (he : fnd [59] (R.drop k) = some e) (hl : e + 1 ≤ (R.drop k).length) :
    Fn prog w p loose mean mg mb 136 4 200 [.str (Txt.slice x (some (i + (k : Int) + 1)) (some (i + (k : Int) + (e : Int)))) tw] [] (PK fun _ C => ∀ c t res' e', e = e' + 1 → c.length = 1 → Unesc (R.drop (k + e' + 2)) res' → (r' = res'.map fun y => R.take k ++ c ++ y) → C (.str ⟨c.toArray⟩ t) []) (r' = none) := by
  obtain ⟨e', s, rfl, hs, a, b⟩ := (unesc_amp hU hk).2 e he
  have hsg : Sgn (lst (Txt.slice x (some (i + (k : Int) + 1)) (some (i + (k : Int) + ((e' + 1 : Nat) : Int))))) s := by rw [un_word hp hl, lst_mk]; exact hs
  exact Fn.mono (sign_fn hsg) (fun _ _ _ ⟨c, t, e1, e2, e3⟩ C f => by
    subst e1 e2 e3
    obtain ⟨res', h1, h2⟩ := b c rfl
    exact f c t res' e' rfl (sgn_len hs) h1 h2) a
end
theorem rk_Unesc_1 : True := by
  k_with "k_room" => (((try simp only [depth_under_make, depth_under_kw, depth_in1, depth_deeper, depth_caller]); (try dsimp only [top]); omega))
  trivial
theorem rk_Unesc_2 : True := by
  k_with "k_units" => (((try simp only [units_in1, units_deeper, Around.mark_units]); (try dsimp only [top]); omega))
  trivial
theorem rk_Unesc_3 : True := by
  k_with "units_room" => (((try simp only [units_in1, units_deeper, Around.mark_units]); (try dsimp only [top]); omega))
  trivial
theorem rk_Unesc_4 : True := by
  k_with "k_ne" => (((try dsimp only); first | assumption | exact Ne.symm (by assumption) | (refine neN ?_; omega)))
  trivial
theorem rk_Unesc_5 : True := by
  k_with "k_all" => (first | assumption | exact List.forall_mem_nil _ | (refine' List.forall_mem_cons.mpr ⟨?a, ?b⟩; (case a => k_ne); (case b => k_all)))
  trivial
theorem rk_Unesc_6 : True := by
  k_with "use:takes" => (repeat' (first | exact Takes.nil | exact Take1.head | refine' Takes.cons ?_ ?_ | refine' Take1.tail ?_))
  trivial
theorem rk_Unesc_7 : True := by
  k_with "use:apart" => (((try dsimp only); repeat' (first | assumption | exact List.forall_mem_nil _ | refine' List.forall_mem_cons.mpr ⟨_, _⟩ | (intro x9 hx9; exact absurd hx9 (by simp)) | (dsimp only; first | assumption | exact Ne.symm (by assumption)) | k_ne)))
  trivial
theorem rk_Unesc_8 : True := by
  k_with "use:room" => (first | (refine' room3 ?h9 ?e9; (case h9 => assumption); (case e9 => exact rfl)) | (refine' room_le ?h8 ?e8; (case h8 => assumption); (case e8 => exact rfl)) | ((try dsimp only [top, Around.deeper]); omega))
  trivial
theorem rk_Unesc_9 : True := by
  k_with "use:le" => (first | assumption | exact le_mil (by assumption) | omega)
  trivial
theorem rk_Unesc_10 : True := by
  k_with "exec Raise some none" => ((k_here; refine raise_stmt rfl ?_))
  trivial
theorem rk_Unesc_11 : True := by
  k_with "call ref" => ((k_here; (with_reducible show wpAny _ _ (call (Value.ref 44) [_]) _ _ _); k_dflt (refine' fault_use ?B ?F ?X ?N ?T rfl rfl ?hd ?hu ?_; (case B => k_asm); (case F => k_asm); (case X => k_asm); (case N => k_asm); (case T => k_asm); (case hd => walk_at "use:room"); (case hu => walk_at "use:room"); intro e' tp' dx' h' tk' F' N')))
  trivial
theorem rk_Unesc_12 : True := by
  k_with "RaiseBack" => ((k_here; k_dflt (refine' ⟨_, _, _, rfl, faultCls ?X, News.get ?N (List.Mem.head _), ?_⟩; (case N => k_asm); (case X => k_in)); (try dsimp only)))
  trivial
theorem rk_Unesc_13 : True := by
  k_with "leaving ref" => ((k_here; k_dflt (first | (refine' leave_new_F ?B ?F ?N (List.Mem.head _) rfl rfl ?_; (case B => k_asm); (case F => k_asm); (case N => k_asm); intro h' hfl') | (refine' leave_fly rfl rfl ?fl ?_; (case fl => assumption); intro h' hfl'))))
  trivial

theorem rk_Unesc_14 : True := by
  k_with "k_ne" => (first | assumption | exact Ne.symm (by assumption) | walk_at "ne:lt" | ((try dsimp only); first | assumption | exact Ne.symm (by assumption) | walk_at "ne:lt" | (refine neN ?_; omega)))
  trivial
theorem rk_Unesc_15 : True := by
  k_with "k_all" => (first | assumption | exact List.forall_mem_nil _ | (refine neAll_of ?_; walk_at "use:conj"))
  trivial
theorem rk_Unesc_16 : True := by
  k_with "use:conj" => (first | exact True.intro | assumption | ((refine And.intro ?_ ?_) <;> walk_at "use:conj") | ((with_reducible show NeAll _ _); refine neAll_lt ?_; walk_at "lastlt") | k_ne)
  trivial
theorem rk_Unesc_17 : True := by
  k_with "ne:lt" => (first | (refine Nat.ne_of_lt ?_; walk_at "lt") | (refine Nat.ne_of_gt ?_; walk_at "lt"))
  trivial
theorem rk_Unesc_18 : True := by
  k_with "lt" => (with_reducible first | assumption | exact pj0 (by assumption) | exact pj1 (by assumption) | exact pj2 (by assumption) | exact pj3 (by assumption) | exact pj4 (by assumption) | exact pj5 (by assumption) | exact pj6 (by assumption) | exact pj7 (by assumption) | exact pj8 (by assumption) | exact pj9 (by assumption) | exact pj10 (by assumption) | exact pj11 (by assumption))
  trivial
theorem rk_Unesc_19 : True := by
  k_with "lastlt" => (with_reducible first | assumption | exact lk1 (by assumption) | exact lk2 (by assumption) | exact lk3 (by assumption) | exact lk4 (by assumption) | exact lk5 (by assumption) | exact lk6 (by assumption) | exact lk7 (by assumption))
  trivial
theorem rk_Unesc_20 : True := by
  k_with "use:apart" => (walk_at "use:conj")
  trivial
theorem rk_Unesc_21 : True := by
  k_with "use:sides" => (((case B => k_asm); (case F => k_asm); (case X => k_asm); (case N => k_asm); (case T => k_asm); (case tk => walk_at "use:takes"); (case dj => walk_at "use:apart"); (case hd => walk_at "use:room"); (case hu => walk_at "use:room")))
  trivial
theorem rk_Unesc_22 : True := by
  k_with "use:in" => ((intro h' tk' F' N' hlt'; (try dsimp only [List.cons_append, List.nil_append] at N'); (try dsimp only [AllLt] at hlt'); (try dsimp only); (try k_sweep)))
  trivial

theorem rk_Unesc_23 : True := by
  k_with "call builtin:str.find" => ((k_here; k_dflt (refine' find_is ?e ?_; (case e => assumption)); (try dsimp only)))
  trivial
theorem rk_Unesc_24 : True := by
  k_with "call builtin:list.append" => ((k_here; (with_reducible show wpAny _ _ (call (Value.builtin _) [Value.ref _, _]) _ _ _); k_dflt (refine' append_K ?k1 ?k2 ?k3 ?_ ?z; (case k1 => k_asm); (case k2 => k_asm); (case k3 => k_upd); (case z => (simp only [Array.size_push, sizeLine_eq]; omega))); intro h' F' N'; (try dsimp only); (try k_sweep)))
  trivial
theorem rk_Unesc_25 : True := by
  k_with "call builtin:str.join" => ((k_here; k_dflt (refine' join_list ?l ?i ?o ?_; (case l => exact News.isList (by k_asm) (by k_mem)); (case i => assumption); (case o => ((have h9 : (Str.ofString "").length = 0 := by decide +kernel); rw [h9]; omega)); intro t' k'); (try dsimp only)))
  trivial
theorem rk_Unesc_26 : True := by
  k_with "call builtin:str.find" => ((k_here; k_dflt (refine' find_end ?e ?_; (case e => assumption)); (refine And.intro (fun he' => ?_) (fun e' he' hle' => ?_)) <;> (try dsimp only)))
  trivial
theorem rk_Unesc_27 : True := by
  k_with "call ref" => ((k_here; (with_reducible show wpAny _ _ (call (Value.ref 136) _) _ _ _); k_dflt ((refine' Fn.useK (sign_u ?u1 ?u2 ?u3 ?u4 ?u5) ?B ?F ?X ?N ?T rfl rfl ?tk ?dj ?hd ?hu ?_ ?_); walk_at "use:sides"; (case u1 => assumption); (case u2 => assumption); (case u3 => assumption); (case u4 => assumption); (case u5 => assumption); (intro c' t9' res9' e9' hee' hcl' hU9' hr9'); walk_at "use:in")))
  trivial
set_option pp.deepTerms false
set_option pp.proofs false
set_option maxHeartbeats 8000000 in
theorem unesc_fn {x : Str} {tx : Tok} {res : Option (List Nat)} (hx : x.length ≤ 100000) (hU : Unesc (lst x) res) :
    Fn prog w p loose mean mg mb 143 6 220 [.str x tx] [] (PK fun _ C => ∀ y t, res = some y → C (.str ⟨y.toArray⟩ t) []) (res = none) := by
  refine' Fn.intro (binds := [(Str.ofString "text", .str x tx)]) ?ho ?hcd ?hb ?hl ?hd ?_ ?c2 ?c3 ?c4 ?c5
  (case ho => k_is)
  (case hcd => k_is)
  (case hb => (intro s0 hX0; exact BindsTo.of_eq rfl))
  (case hl => exact locs rfl)
  (case hd => first | decide | omega)
  (case c2 => exact rfl)
  (case c3 => exact rfl)
  (case c4 => exact rfl)
  (case c5 => decide)
  intro dp un gd l base g s Q E L' h₁ hdp hun B F N hlt X TP hL hret herr
  (try dsimp only)
  (try k_fold)
  iterate 13 (first | walk1 | (dsimp only; walk1))
  rename Fr _ _ _ _ => F₂
  rename News _ _ _ _ => N₂
  refine' While_inv2 (UnJ x tx res) (Fr.congr F₂ (frU_of rfl rfl rfl ?fr)) N₂ (.mk (Rest.start x) .nil ?z1 ?z2 hU ?z3) ?_ ?_
  (case fr =>
    intro y q1 q2 q3 q4 q5
    simp [q1, q4, q5, List.lookup, beq_false_of_ne])
  (case z1 => rw [lst_len]; simp)
  (case z2 => rw [lst_len]; simp)
  (case z3 => cases res <;> simp)
  · clear N₂ F₂
    rintro n m₁ news₁ h₁ tk₁ F₁ N₁ (@⟨f, i, ti, u1, u2, R, its, k, ys, r', hR, hS, hsz, hsum, hU', hres⟩)
    have hl := hR.len
    have h0 := hR.1
    cases hk : fnd [38] R with
    | none =>
      rcases unesc_none hU' hk with ⟨rfl, rfl⟩ | ⟨hne, rfl⟩
      · simp only [List.length_nil] at hl hsz hsum
        k_steps
        refine hret _ [] _ _ (Fr.keep (by assumption)) (fun _ h => (nomatch h)) (size_of (by assumption) hL) fun C k => ?_
        have e : Txt.join (Str.ofString "") ys = ⟨(ys.flatMap lst).toArray⟩ := by rw [← join_lst, mk_lst]
        rw [e]
        exact k _ _ (by rw [hres]; simp)
      · have hff := find_fnd (W := Str.ofString "&") hR
        rw [show lst (Str.ofString "&") = [38] from by decide +kernel, hk] at hff
        have hmk : Txt.find3 x (Str.ofString "&") i = -1 := by
          rcases hff with h | ⟨k, h, h2⟩
          · exact h.1
          · cases h2
        have hpos : 0 < R.length := by cases R with
          | nil => exact absurd rfl hne
          | cons => simp
        clear hff
        k_steps
        rename Fr _ _ _ _ => F9
        rename News _ _ _ _ => N9
        refine' ⟨_, _, _, _, _, rfl, Fr.congr F9 (frU_of rfl rfl rfl ?fr), N9, hpos, .mk (R := []) (ys := ys ++ [⟨R.toArray⟩]) (r' := some []) (rest_end x) ?_ ?_ (un_sum hsum) .nil ?_⟩
        (case fr =>
          intro y q1 q2 q3 q4 q5
          simp only [frU, q1, q2, q3, q4, q5, if_false])
        · rw [slice_end hR, Array.toList_push]
          exact strs_snoc hS
        · simp only [Array.size_push, List.length_nil]; omega
        · rw [hres]; simp [lst_mk]
    | some k9 =>
      obtain ⟨p1, p2, p3⟩ := un_places hR hk
      k_steps
      all_goals first
        | exact herr _ _ _ (by assumption) (by rw [hres, (unesc_amp hU' hk).1 (by assumption)]; rfl)
        | exact herr _ _ _ (by assumption) (by rename (r' = none) => hz9; rw [hres, hz9]; rfl)
        | (subst hee'
           rename Fr _ _ _ _ => F9
           rename News _ _ _ _ => N9
           have hs1 : Txt.slice x (some i) (some (i + (k9 : Int))) = ⟨(R.take k9).toArray⟩ := slice_rest hR (by omega)
           have p7 := un_lt hle'
           refine' ⟨_, _, _, _, _, rfl, Fr.congr F9 (frU_of rfl rfl rfl ?fr), N9, p7.1, .mk (R := R.drop (k9 + e9' + 2)) (ys := ys ++ [⟨(R.take k9).toArray⟩] ++ [⟨c'.toArray⟩]) (r' := res9') (un_move hR p7.2) ?_ ?_ (un_sum2 hsum hcl' hle') hU9' (res_ok (hr9' ▸ hres))⟩
           (case fr =>
             intro y q1 q2 q3 q4 q5
             simp only [frU, q1, q2, q3, q4, q5, if_false])
           · rw [hs1, Array.toList_push, Array.toList_push]
             exact strs_snoc (strs_snoc hS)
           · simp only [Array.size_push]
             have := p7.2
             have : (R.drop (k9 + e9' + 2)).length + 2 ≤ R.length := by simp; omega
             omega)
  · passes_own
end
end
section
/-- a list without the word that it begins with -/
noncomputable def strip : List Nat → List Nat → Option (List Nat)
  | [], R => some R
  | _ :: _, [] => none
  | a :: l, b :: R => if a = b then strip l R else none
theorem strip_some : ∀ {l R R' : List Nat}, strip l R = some R' → l.isPrefixOf R = true ∧ R.drop l.length = R'
  | [], R, R', h => by cases h; exact ⟨by cases R <;> rfl, rfl⟩
  | _ :: _, [], _, h => by cases h
  | a :: l, b :: R, R', h => by
    unfold strip at h
    split at h
    · rename_i e
      subst e
      have := strip_some h
      exact ⟨by simp [List.isPrefixOf, this.1], this.2⟩
    · cases h
theorem strip_none : ∀ {l R : List Nat}, strip l R = none → l.isPrefixOf R = false
  | [], R, h => by cases h
  | _ :: _, [], _ => rfl
  | a :: l, b :: R, h => by
    unfold strip at h
    split at h
    · rename_i e
      subst e
      simp [List.isPrefixOf, strip_none h]
    · rename_i e
      simp [List.isPrefixOf, e]
theorem strip_len {l R R' : List Nat} (h : strip l R = some R') : R.length = l.length + R'.length := by
  have h1 := strip_some h
  have h2 := h1.1
  rw [pre_take, Bool.and_eq_true, decide_eq_true_eq] at h2
  rw [← h1.2, List.length_drop]
  omega

theorem lit_eq : lst (Str.ofString "=") = [61] := by decide +kernel
theorem lit_dq : lst (Str.ofString "\"") = [34] := by decide +kernel
theorem lit_sq : lst (Str.ofString "'") = [39] := by decide +kernel
theorem lit_cl : lst (Str.ofString "/>") = [47, 62] := by decide +kernel
theorem lit_gt : lst (Str.ofString ">") = [62] := by decide +kernel
theorem lit_lt : lst (Str.ofString "<") = [60] := by decide +kernel
theorem lit_cm : lst (Str.ofString "!--") = [33, 45, 45] := by decide +kernel
theorem lit_cd : lst (Str.ofString "![CDATA[") = [33, 91, 67, 68, 65, 84, 65, 91] := by decide +kernel
theorem lit_dt : lst (Str.ofString "!DOCTYPE") = [33, 68, 79, 67, 84, 89, 80, 69] := by decide +kernel
theorem lit_qm : lst (Str.ofString "?") = [63] := by decide +kernel
theorem lit_sl : lst (Str.ofString "/") = [47] := by decide +kernel
theorem lit_ecm : lst (Str.ofString "-->") = [45, 45, 62] := by decide +kernel
theorem lit_ecd : lst (Str.ofString "]]>") = [93, 93, 62] := by decide +kernel
theorem lit_eqm : lst (Str.ofString "?>") = [63, 62] := by decide +kernel
theorem lit_rb : lst (Str.ofString "]") = [93] := by decide +kernel
theorem short_lit {x : Str} {l : List Nat} (e : lst x = l) (h : l.length ≤ 100) : x.length ≤ 1000000 := by rw [← lst_len, e]; omega

section
variable {prog : Program} {w : World} {p : Program} {loose : List Str} {mean : ExcName → Option Value} {mg mb : Str → Option Value}

variable {c d : Addr} {t1 t2 : Tok} {Tx : Str} {tT : Tok} {i : Int} {ti : Tok} {W : Str} {tw : Tok} {R R' l : List Nat}
theorem takes_yes (hcd : c ≠ d) (hx : Tx.length ≤ 1000000) (hR : Rest Tx i R) (hW : lst W = l) (hl : l.length ≤ 100) (hs : strip l R = some R') :
    Fn prog w p loose mean mg mb 103 1 10 [.ref c, .str W tw] (scO w c d t1 t2 Tx tT i ti)
      (PK fun _ C => ∀ i' ti', Rest Tx i' R' → C (.bool true) (scO w c d t1 t2 Tx tT i' ti')) False :=
  Fn.mono (takes_fn hcd hx hR (short_lit hW hl)) (fun _ r o h C k => by
    have := strip_some hs
    rw [hW] at h
    rcases h with ⟨h, _⟩ | ⟨_, h2, i', ti', h3, h4⟩
    · rw [this.1] at h; cases h
    · rw [this.2] at h3; subst h2 h4; exact k i' ti' h3) (fun h => h)
theorem takes_no (hcd : c ≠ d) (hx : Tx.length ≤ 1000000) (hR : Rest Tx i R) (hW : lst W = l) (hl : l.length ≤ 100) (hs : strip l R = none) :
    Fn prog w p loose mean mg mb 103 1 10 [.ref c, .str W tw] (scO w c d t1 t2 Tx tT i ti)
      (PK fun _ C => C (.bool false) (scO w c d t1 t2 Tx tT i ti)) False :=
  Fn.mono (takes_fn hcd hx hR (short_lit hW hl)) (fun _ r o h C k => by
    have := strip_none hs
    rw [hW] at h
    rcases h with ⟨_, h, h'⟩ | ⟨h, _⟩
    · subst h h'; exact k
    · rw [this] at h; cases h) (fun h => h)
theorem takes_two (hcd : c ≠ d) (hx : Tx.length ≤ 1000000) (hR : Rest Tx i R) (hW : lst W = l) (hl : l.length ≤ 100) :
    Fn prog w p loose mean mg mb 103 1 10 [.ref c, .str W tw] (scO w c d t1 t2 Tx tT i ti)
      (PK fun _ C => (strip l R = none → C (.bool false) (scO w c d t1 t2 Tx tT i ti)) ∧ ∀ R' i' ti', strip l R = some R' → Rest Tx i' R' → C (.bool true) (scO w c d t1 t2 Tx tT i' ti')) False := by
  cases hs : strip l R with
  | none => exact Fn.mono (takes_no hcd hx hR hW hl hs) (fun _ _ _ h C k => h C (k.1 rfl)) (fun h => h)
  | some R' => exact Fn.mono (takes_yes hcd hx hR hW hl hs) (fun _ _ _ h C k => h C fun i' ti' h' => k.2 R' i' ti' rfl h') (fun h => h)
theorem until_ok {k : Nat} (hcd : c ≠ d) (hx : Tx.length ≤ 1000000) (hR : Rest Tx i R) (hW : lst W = l) (hl : l.length ≤ 100) (hs : fnd l R = some k) :
    Fn prog w p loose mean mg mb 110 4 40 [.ref c, .str W tw] (scO w c d t1 t2 Tx tT i ti)
      (PK fun _ C => ∀ t i' ti', Rest Tx i' (R.drop (k + l.length)) → C (.str ⟨(R.take k).toArray⟩ t) (scO w c d t1 t2 Tx tT i' ti')) False :=
  Fn.mono (until_fn hcd hx hR (short_lit hW hl)) (fun _ r o h C f => by
    obtain ⟨k', t, i', ti', h1, h2, h3, h4⟩ := h
    rw [hW] at h1 h3
    rw [hs] at h1
    cases h1
    subst h2 h4
    exact f t i' ti' h3) (fun h => by rw [hW, hs] at h; cases h)
theorem until_two (hcd : c ≠ d) (hx : Tx.length ≤ 1000000) (hR : Rest Tx i R) (hW : lst W = l) (hl : l.length ≤ 100) :
    Fn prog w p loose mean mg mb 110 4 40 [.ref c, .str W tw] (scO w c d t1 t2 Tx tT i ti)
      (PK fun _ C => ∀ k t i' ti', fnd l R = some k → Rest Tx i' (R.drop (k + l.length)) → C (.str ⟨(R.take k).toArray⟩ t) (scO w c d t1 t2 Tx tT i' ti')) (fnd l R = none) :=
  Fn.mono (until_fn hcd hx hR (short_lit hW hl)) (fun _ r o h C f => by
    obtain ⟨k', t, i', ti', h1, h2, h3, h4⟩ := h
    rw [hW] at h1 h3
    subst h2 h4
    exact f k' t i' ti' h1 h3) (fun h => hW ▸ h)
theorem until_bad (hcd : c ≠ d) (hx : Tx.length ≤ 1000000) (hR : Rest Tx i R) (hW : lst W = l) (hl : l.length ≤ 100) (hs : fnd l R = none) :
    Fn prog w p loose mean mg mb 110 4 40 [.ref c, .str W tw] (scO w c d t1 t2 Tx tT i ti) (fun _ _ _ => False) True :=
  Fn.mono (until_fn hcd hx hR (short_lit hW hl)) (fun _ r o h => by
    obtain ⟨k', t, i', ti', h1, _⟩ := h
    rw [hW, hs] at h1
    cases h1) (fun _ => trivial)
theorem name_two (hcd : c ≠ d) (hx : Tx.length ≤ 1000000) (hR : Rest Tx i R) :
    Fn prog w p loose mean mg mb 124 4 40 [.ref c] (scO w c d t1 t2 Tx tT i ti)
      (PK fun _ C => ∀ t i' ti', R.takeWhile isN ≠ [] → Rest Tx i' (R.dropWhile isN) → C (.str ⟨(R.takeWhile isN).toArray⟩ t) (scO w c d t1 t2 Tx tT i' ti')) (R.takeWhile isN = []) :=
  Fn.mono (name_fn hcd hx hR) (fun _ _ _ ⟨h, t, i', ti', h1, h2, h3⟩ C k => by subst h1 h3; exact k t i' ti' h h2) (fun h => h)
theorem name_ok (hcd : c ≠ d) (hx : Tx.length ≤ 1000000) (hR : Rest Tx i R) (hn : R.takeWhile isN ≠ []) :
    Fn prog w p loose mean mg mb 124 4 40 [.ref c] (scO w c d t1 t2 Tx tT i ti)
      (PK fun _ C => ∀ t i' ti', Rest Tx i' (R.dropWhile isN) → C (.str ⟨(R.takeWhile isN).toArray⟩ t) (scO w c d t1 t2 Tx tT i' ti')) False :=
  Fn.mono (name_two hcd hx hR) (fun _ _ _ h C k => h C fun t i' ti' _ h' => k t i' ti' h') (fun h => hn h)
theorem name_bad (hcd : c ≠ d) (hx : Tx.length ≤ 1000000) (hR : Rest Tx i R) (hn : R.takeWhile isN = []) :
    Fn prog w p loose mean mg mb 124 4 40 [.ref c] (scO w c d t1 t2 Tx tT i ti) (fun _ _ _ => False) True :=
  Fn.mono (name_fn hcd hx hR) (fun _ _ _ h => h.1 hn) (fun _ => trivial)
theorem unesc_ok {x : Str} {tx : Tok} {y : List Nat} (hx : x.length ≤ 100000) (hl : lst x = l) (hU : Unesc l (some y)) :
    Fn prog w p loose mean mg mb 143 6 220 [.str x tx] [] (PK fun _ C => ∀ t, C (.str ⟨y.toArray⟩ t) []) False :=
  Fn.mono (unesc_fn (res := some y) hx (hl ▸ hU)) (fun _ _ _ h C k => h C fun y' t e => by cases e; exact k t) (fun h => nomatch h)
theorem unesc_bad {x : Str} {tx : Tok} (hx : x.length ≤ 100000) (hl : lst x = l) (hU : Unesc l none) :
    Fn prog w p loose mean mg mb 143 6 220 [.str x tx] [] (fun _ _ _ => False) True :=
  Fn.mono (unesc_fn (res := none) hx (hl ▸ hU)) (fun _ _ _ h => h (fun _ _ => False) fun _ _ e => nomatch e) (fun _ => trivial)
end
end
section
theorem rk_Attr_0 : True := by
  k_with_none
  trivial


open PyProof.V
noncomputable abbrev Ats := List (List Nat × List Nat)
noncomputable def txt (l : List Nat) : Str := ⟨l.toArray⟩
noncomputable def encA (as : Ats) : List (PyData × PyData) := as.map fun p => (PyData.str (txt p.1), PyData.str (txt p.2))
/-- the object is a dict of texts by texts -/
noncomputable def AtD (prog : Program) (w : World) (o : Obj) (as : Ats) : Prop := ∃ kvs, o.IsDictOf (strKind prog w) kvs ∧ FlatPairs PyData.str kvs (encA as)

theorem dw_len (p : Nat → Bool) (R : List Nat) : (R.dropWhile p).length ≤ R.length := (List.dropWhile_sublist p).length_le
theorem take_short {x : Str} {i : Int} {R R3 : List Nat} (h : Rest x i R) (hx : x.length ≤ 100000) (hl : R3.length ≤ R.length) (k : Nat) : (⟨(R3.take k).toArray⟩ : Str).length ≤ 100000 := by
  have h1 := h.len
  have h2 := h.1
  simp only [Str.length, List.size_toArray, List.length_take]
  omega
/-- what read_attribute does at R, the attributes as known -/
inductive RAttr : List Nat → Ats → Option (List Nat × Ats) → Prop
  | noName {R : List Nat} {as : Ats} : R.takeWhile isN = [] → RAttr R as none
  | noEq {R : List Nat} {as : Ats} : R.takeWhile isN ≠ [] → strip [61] ((R.dropWhile isN).dropWhile isB) = none → RAttr R as none
  | twice {R R2 : List Nat} {as : Ats} : R.takeWhile isN ≠ [] → strip [61] ((R.dropWhile isN).dropWhile isB) = some R2 → (lookup (.str (txt (R.takeWhile isN))) (encA as)).isSome = true → RAttr R as none
  | noQuote {R R2 : List Nat} {as : Ats} : R.takeWhile isN ≠ [] → strip [61] ((R.dropWhile isN).dropWhile isB) = some R2 → (lookup (.str (txt (R.takeWhile isN))) (encA as)).isSome = false →
      strip [34] (R2.dropWhile isB) = none → strip [39] (R2.dropWhile isB) = none → RAttr R as none
  | dq {R R2 R3 y : List Nat} {as : Ats} {k : Nat} : R.takeWhile isN ≠ [] → strip [61] ((R.dropWhile isN).dropWhile isB) = some R2 → (lookup (.str (txt (R.takeWhile isN))) (encA as)).isSome = false →
      strip [34] (R2.dropWhile isB) = some R3 → fnd [34] R3 = some k → Unesc (R3.take k) (some y) → RAttr R as (some (R3.drop (k + 1), as ++ [(R.takeWhile isN, y)]))
  | sq {R R2 R3 y : List Nat} {as : Ats} {k : Nat} : R.takeWhile isN ≠ [] → strip [61] ((R.dropWhile isN).dropWhile isB) = some R2 → (lookup (.str (txt (R.takeWhile isN))) (encA as)).isSome = false →
      strip [34] (R2.dropWhile isB) = none → strip [39] (R2.dropWhile isB) = some R3 → fnd [39] R3 = some k → Unesc (R3.take k) (some y) → RAttr R as (some (R3.drop (k + 1), as ++ [(R.takeWhile isN, y)]))

/-- what stands between quotes is known -/
noncomputable def QV (R : List Nat) (as : Ats) (R3 : List Nat) (q : Nat) (res : Option (List Nat × Ats)) : Prop := ∃ k y, fnd [q] R3 = some k ∧ Unesc (R3.take k) (some y) ∧ res = some (R3.drop (k + 1), as ++ [(R.takeWhile isN, y)])
section
variable {R R2 R3 : List Nat} {as : Ats} {res : Option (List Nat × Ats)}
theorem RAttr.n1 (h : RAttr R as res) (h1 : R.takeWhile isN = []) : res = none := by
  cases h <;> first | rfl | (rename_i h' _ _ _ _ _; exact absurd h1 h') | (rename_i h' _ _ _ _ _ _; exact absurd h1 h')
theorem RAttr.n2 (h : RAttr R as res) (h1 : strip [61] ((R.dropWhile isN).dropWhile isB) = none) : res = none := by
  cases h with
  | dq _ a => rw [h1] at a; cases a
  | sq _ a => rw [h1] at a; cases a
  | _ => rfl
theorem RAttr.n3 (h : RAttr R as res) (h1 : (lookup (.str (txt (R.takeWhile isN))) (encA as)).isSome = true) : res = none := by
  cases h with
  | dq _ _ a => rw [h1] at a; cases a
  | sq _ _ a => rw [h1] at a; cases a
  | _ => rfl
theorem RAttr.n4 (h : RAttr R as res) (h1 : strip [61] ((R.dropWhile isN).dropWhile isB) = some R2) (h2 : strip [34] (R2.dropWhile isB) = none) (h3 : strip [39] (R2.dropWhile isB) = none) : res = none := by
  cases h with
  | dq _ a _ b => rw [h1] at a; cases a; rw [h2] at b; cases b
  | sq _ a _ _ b => rw [h1] at a; cases a; rw [h3] at b; cases b
  | _ => rfl
theorem RAttr.q1 (h : RAttr R as res) (h1 : R.takeWhile isN ≠ []) (h2 : strip [61] ((R.dropWhile isN).dropWhile isB) = some R2) (h3 : (lookup (.str (txt (R.takeWhile isN))) (encA as)).isSome = false) (h4 : strip [34] (R2.dropWhile isB) = some R3) : QV R as R3 34 res := by
  cases h with
  | noName h => exact absurd h h1
  | noEq _ h => rw [h2] at h; cases h
  | twice _ _ h => rw [h3] at h; cases h
  | noQuote _ h _ h' _ => rw [h2] at h; cases h; rw [h4] at h'; cases h'
  | dq _ a _ b c d => rw [h2] at a; cases a; rw [h4] at b; cases b; exact ⟨_, _, c, d, rfl⟩
  | sq _ a _ b _ _ _ => rw [h2] at a; cases a; rw [h4] at b; cases b
theorem RAttr.q2 (h : RAttr R as res) (h1 : R.takeWhile isN ≠ []) (h2 : strip [61] ((R.dropWhile isN).dropWhile isB) = some R2) (h3 : (lookup (.str (txt (R.takeWhile isN))) (encA as)).isSome = false) (h4 : strip [34] (R2.dropWhile isB) = none) (h5 : strip [39] (R2.dropWhile isB) = some R3) : QV R as R3 39 res := by
  cases h with
  | noName h => exact absurd h h1
  | noEq _ h => rw [h2] at h; cases h
  | twice _ _ h => rw [h3] at h; cases h
  | noQuote _ h _ _ h' => rw [h2] at h; cases h; rw [h5] at h'; cases h'
  | dq _ a _ b c d => rw [h2] at a; cases a; rw [h4] at b; cases b
  | sq _ a _ _ b c d => rw [h2] at a; cases a; rw [h5] at b; cases b; exact ⟨_, _, c, d, rfl⟩
end

section
variable {prog : Program} {w : World} {p : Program} {loose : List Str} {mean : ExcName → Option Value} {mg mb : Str → Option Value}

theorem until_q {c d : Addr} {t1 t2 : Tok} {Tx : Str} {tT : Tok} {i : Int} {ti : Tok} {W : Str} {tw : Tok} {R R0 : List Nat} {q : Nat} {as : Ats} {res : Option (List Nat × Ats)} (hcd : c ≠ d) (hx : Tx.length ≤ 100000) (hR : Rest Tx i R) (hW : lst W = [q]) (hq : QV R0 as R q res) :
    Fn prog w p loose mean mg mb 110 4 40 [.ref c, .str W tw] (scO w c d t1 t2 Tx tT i ti)
      (PK fun _ C => ∀ k y t i' ti', (⟨(R.take k).toArray⟩ : Str).length ≤ 100000 → Unesc (R.take k) (some y) → res = some (R.drop (k + 1), as ++ [(R0.takeWhile isN, y)]) → Rest Tx i' (R.drop (k + 1)) → C (.str ⟨(R.take k).toArray⟩ t) (scO w c d t1 t2 Tx tT i' ti')) False := by
  obtain ⟨k, y, h1, h2, h3⟩ := hq
  exact Fn.mono (until_ok hcd (Nat.le_trans hx (by decide)) hR hW (by simp) h1) (fun _ _ _ h C f => h C fun t i' ti' h' => f k y t i' ti' (take_short hR hx (Nat.le_refl _) k) h2 h3 h') (fun h => h)
theorem unesc_q {x : List Nat} {tx : Tok} {y : List Nat} (hx : (⟨x.toArray⟩ : Str).length ≤ 100000) (hU : Unesc x (some y)) :
    Fn prog w p loose mean mg mb 143 6 220 [.str ⟨x.toArray⟩ tx] [] (PK fun _ C => ∀ t, C (.str ⟨y.toArray⟩ t) []) False := unesc_ok hx (lst_mk _) hU
theorem rk_Attr_1 : True := by
  k_with "k_room" => (((try simp only [depth_under_make, depth_under_kw, depth_in1, depth_deeper, depth_caller]); (try dsimp only [top]); omega))
  trivial
theorem rk_Attr_2 : True := by
  k_with "k_units" => (((try simp only [units_in1, units_deeper, Around.mark_units]); (try dsimp only [top]); omega))
  trivial
theorem rk_Attr_3 : True := by
  k_with "units_room" => (((try simp only [units_in1, units_deeper, Around.mark_units]); (try dsimp only [top]); omega))
  trivial
theorem rk_Attr_4 : True := by
  k_with "k_ne" => (((try dsimp only); first | assumption | exact Ne.symm (by assumption) | (refine neN ?_; omega)))
  trivial
theorem rk_Attr_5 : True := by
  k_with "k_all" => (first | assumption | exact List.forall_mem_nil _ | (refine' List.forall_mem_cons.mpr ⟨?a, ?b⟩; (case a => k_ne); (case b => k_all)))
  trivial
theorem rk_Attr_6 : True := by
  k_with "use:takes" => (repeat' (first | exact Takes.nil | exact Take1.head | refine' Takes.cons ?_ ?_ | refine' Take1.tail ?_))
  trivial
theorem rk_Attr_7 : True := by
  k_with "use:apart" => (((try dsimp only); repeat' (first | assumption | exact List.forall_mem_nil _ | refine' List.forall_mem_cons.mpr ⟨_, _⟩ | (intro x9 hx9; exact absurd hx9 (by simp)) | (dsimp only; first | assumption | exact Ne.symm (by assumption)) | k_ne)))
  trivial
theorem rk_Attr_8 : True := by
  k_with "use:room" => (first | (refine' room3 ?h9 ?e9; (case h9 => assumption); (case e9 => exact rfl)) | (refine' room_le ?h8 ?e8; (case h8 => assumption); (case e8 => exact rfl)) | ((try dsimp only [top, Around.deeper]); omega))
  trivial
theorem rk_Attr_9 : True := by
  k_with "use:le" => (first | assumption | exact le_mil (by assumption) | omega)
  trivial
theorem rk_Attr_10 : True := by
  k_with "exec Raise some none" => ((k_here; refine raise_stmt rfl ?_))
  trivial
theorem rk_Attr_11 : True := by
  k_with "call ref" => ((k_here; (with_reducible show wpAny _ _ (call (Value.ref 44) [_]) _ _ _); k_dflt (refine' fault_use ?B ?F ?X ?N ?T rfl rfl ?hd ?hu ?_; (case B => k_asm); (case F => k_asm); (case X => k_asm); (case N => k_asm); (case T => k_asm); (case hd => walk_at "use:room"); (case hu => walk_at "use:room"); intro e' tp' dx' h' tk' F' N')))
  trivial
theorem rk_Attr_12 : True := by
  k_with "RaiseBack" => ((k_here; k_dflt (refine' ⟨_, _, _, rfl, faultCls ?X, News.get ?N (List.Mem.head _), ?_⟩; (case N => k_asm); (case X => k_in)); (try dsimp only)))
  trivial
theorem rk_Attr_13 : True := by
  k_with "leaving ref" => ((k_here; k_dflt (first | (refine' leave_new_F ?B ?F ?N (List.Mem.head _) rfl rfl ?_; (case B => k_asm); (case F => k_asm); (case N => k_asm); intro h' hfl') | (refine' leave_fly rfl rfl ?fl ?_; (case fl => assumption); intro h' hfl'))))
  trivial

theorem rk_Attr_14 : True := by
  k_with "k_ne" => (first | assumption | exact Ne.symm (by assumption) | walk_at "ne:lt" | ((try dsimp only); first | assumption | exact Ne.symm (by assumption) | walk_at "ne:lt" | (refine neN ?_; omega)))
  trivial
theorem rk_Attr_15 : True := by
  k_with "k_all" => (first | assumption | exact List.forall_mem_nil _ | (refine neAll_of ?_; walk_at "use:conj"))
  trivial
theorem rk_Attr_16 : True := by
  k_with "use:conj" => (first | exact True.intro | assumption | ((refine And.intro ?_ ?_) <;> walk_at "use:conj") | ((with_reducible show NeAll _ _); refine neAll_lt ?_; walk_at "lastlt") | k_ne)
  trivial
theorem rk_Attr_17 : True := by
  k_with "ne:lt" => (first | (refine Nat.ne_of_lt ?_; walk_at "lt") | (refine Nat.ne_of_gt ?_; walk_at "lt"))
  trivial
theorem rk_Attr_18 : True := by
  k_with "lt" => (with_reducible first | assumption | exact pj0 (by assumption) | exact pj1 (by assumption) | exact pj2 (by assumption) | exact pj3 (by assumption) | exact pj4 (by assumption) | exact pj5 (by assumption) | exact pj6 (by assumption) | exact pj7 (by assumption) | exact pj8 (by assumption) | exact pj9 (by assumption) | exact pj10 (by assumption) | exact pj11 (by assumption))
  trivial
theorem rk_Attr_19 : True := by
  k_with "lastlt" => (with_reducible first | assumption | exact lk1 (by assumption) | exact lk2 (by assumption) | exact lk3 (by assumption) | exact lk4 (by assumption) | exact lk5 (by assumption) | exact lk6 (by assumption) | exact lk7 (by assumption))
  trivial
theorem rk_Attr_20 : True := by
  k_with "use:apart" => (walk_at "use:conj")
  trivial
theorem rk_Attr_21 : True := by
  k_with "use:sides" => (((case B => k_asm); (case F => k_asm); (case X => k_asm); (case N => k_asm); (case T => k_asm); (case tk => walk_at "use:takes"); (case dj => walk_at "use:apart"); (case hd => walk_at "use:room"); (case hu => walk_at "use:room")))
  trivial
theorem rk_Attr_22 : True := by
  k_with "use:in" => ((intro h' tk' F' N' hlt'; (try dsimp only [List.cons_append, List.nil_append] at N'); (try dsimp only [AllLt] at hlt'); (try dsimp only); (try k_sweep)))
  trivial

theorem rk_Attr_23 : True := by
  k_with "call ref" => ((k_here; (with_reducible show wpAny _ _ (call (Value.ref 117) _) _ _ _); k_dflt ((refine' Fn.useOk (spaces_fn ?u1 ?u2 ?u3) ?B ?F ?X ?N ?T rfl rfl ?tk ?dj ?hd ?hu ?_); walk_at "use:sides"; (case u1 => assumption); (case u2 => walk_at "use:le"); (case u3 => assumption); (intro i' ti' hR'); walk_at "use:in")))
  trivial
theorem rk_Attr_24 : True := by
  k_with "call ref" => ((k_here; (with_reducible show wpAny _ _ (call (Value.ref 124) _) _ _ _); k_dflt ((refine' Fn.useK (name_two ?u1 ?u2 ?u3) ?B ?F ?X ?N ?T rfl rfl ?tk ?dj ?hd ?hu ?_ ?_); walk_at "use:sides"; (case u1 => assumption); (case u2 => walk_at "use:le"); (case u3 => assumption); (intro tn' i' ti' hn' hR'); walk_at "use:in")))
  trivial
theorem rk_Attr_25 : True := by
  k_with "call ref" => ((k_here; (with_reducible show wpAny _ _ (call (Value.ref 103) _) _ _ _); k_dflt ((refine' Fn.useOk (takes_two ?u1 ?u2 ?u3 ?u4 ?u5) ?B ?F ?X ?N ?T rfl rfl ?tk ?dj ?hd ?hu ?_); walk_at "use:sides"; (case u1 => assumption); (case u2 => walk_at "use:le"); (case u3 => assumption); (case u4 => with_reducible first | exact lit_eq | exact lit_dq | exact lit_sq); (case u5 => decide); (refine And.intro (fun hs' => ?_) (fun R' i' ti' hs' hR' => ?_)) <;> walk_at "use:in")))
  trivial
theorem rk_Attr_26 : True := by
  k_with "call ref" => ((k_here; (with_reducible show wpAny _ _ (call (Value.ref 110) _) _ _ _); k_dflt ((refine' Fn.useOk (until_q ?u1 ?u2 ?u3 ?u4 ?u5) ?B ?F ?X ?N ?T rfl rfl ?tk ?dj ?hd ?hu ?_); walk_at "use:sides"; (case u1 => assumption); (case u2 => assumption); (case u3 => assumption); (case u4 => with_reducible first | exact lit_dq | exact lit_sq); (case u5 => first | exact RAttr.q1 (by assumption) (by assumption) (by assumption) (by assumption) (by assumption) | exact RAttr.q2 (by assumption) (by assumption) (by assumption) (by assumption) (by assumption) (by assumption)); (intro k' y' tn' i' ti' hl' hU' hres' hR'); walk_at "use:in")))
  trivial
theorem rk_Attr_27 : True := by
  k_with "call ref" => ((k_here; (with_reducible show wpAny _ _ (call (Value.ref 143) _) _ _ _); k_dflt ((refine' Fn.useOk (unesc_q ?u1 ?u2) ?B ?F ?X ?N ?T rfl rfl ?tk ?dj ?hd ?hu ?_); walk_at "use:sides"; (case u1 => assumption); (case u2 => assumption); (intro tn'); walk_at "use:in")))
  trivial
theorem rk_Attr_28 : True := by
  k_with "compareOp In str ref" => ((k_here; k_dflt (refine' in_strTab ?T ?_; (case T => k_tabat))))
  trivial
theorem atD_put {o : Obj} {kvs : List (Str × Value)} {as : Ats} {n y : List Nat} {v : Value} (h : (lookup (.str (txt n)) (encA as)).isSome = false) (hd : o.IsDictOf (strKind prog w) (stored kvs (txt n) v))
    (hf : FlatPairs PyData.str (stored kvs (txt n) v) (putD (.str (txt n)) (.str (txt y)) (encA as))) : AtD prog w o (as ++ [(n, y)]) := by
  refine ⟨_, hd, ?_⟩
  rw [putD_absent (by simpa using h)] at hf
  have : encA (as ++ [(n, y)]) = encA as ++ [(.str (txt n), .str (txt y))] := by simp [encA]
  rw [this]; exact hf
theorem rk_Attr_29 : True := by
  k_with "setItem ref str" => ((k_here; k_dflt (refine' setItem_K PyProof.V.same_str (strKind_is _ _ _ _) (PyProof.V.Flat.str _ _) ?F ?N ?U ?d ?f ?_ ?z; (case F => k_asm); (case N => k_asm); (case U => k_updF); (case d => k_asm); (case f => k_asm); (case z => (simp only [encA, List.length_map, sizeLine_eq]; omega))); intro h' o' F' N' hd' hf'; (try dsimp only at N'); (try k_sweep)))
  trivial
set_option pp.deepTerms false
set_option pp.proofs false
set_option maxHeartbeats 8000000 in
theorem attr_fn {c d kd : Addr} {t1 t2 : Tok} {Tx : Str} {tT : Tok} {i : Int} {ti : Tok} {R : List Nat} {as : Ats} {ko : Obj} {res : Option (List Nat × Ats)} (hcd : c ≠ d) (hck : c ≠ kd) (hdk : d ≠ kd) (hlo : (kd == sysModules) = false)
    (hx : Tx.length ≤ 100000) (hR : Rest Tx i R) (hA : AtD prog w ko as) (hlen : as.length ≤ 1000) (hres : RAttr R as res) :
    Fn prog w p loose mean mg mb 150 8 300 [.ref c, .ref kd] (scO w c d t1 t2 Tx tT i ti ++ [(kd, ko)])
      (PK fun _ C => ∀ R' as' i' ti' ko', res = some (R', as') → Rest Tx i' R' → AtD prog w ko' as' → C .none (scO w c d t1 t2 Tx tT i' ti' ++ [(kd, ko')])) (res = none) := by
  obtain ⟨kvs, hd, hf⟩ := hA
  simp only [List.cons_append, List.nil_append]
  have hRl := hR.len
  have hnl : (⟨(R.takeWhile isN).toArray⟩ : Str).length ≤ 100000 := by
    have := takeWhile_len_le isN R
    simp only [Str.length, List.size_toArray]
    have h0 := hR.1
    omega
  refine' Fn.intro (binds := [(Str.ofString "scanner", .ref c), (Str.ofString "known", .ref kd)]) ?ho ?hcd ?hb ?hl ?hd ?_ ?c2 ?c3 ?c4 ?c5
  (case ho => k_is)
  (case hcd => k_is)
  (case hb => (intro s0 hX0; exact BindsTo.of_eq rfl))
  (case hl => exact locs rfl)
  (case hd => first | decide | omega)
  (case c2 => exact rfl)
  (case c3 => exact rfl)
  (case c4 => exact rfl)
  (case c5 => decide)
  intro dp un gd l base g s Q E L' h₁ hdp hun B F N hlt X TP hL hret herr
  (try dsimp only)
  (try k_fold)
  k_steps
  all_goals first
    | exact herr _ _ _ (by assumption) (hres.n1 (by assumption))
    | exact herr _ _ _ (by assumption) (hres.n2 (by assumption))
    | exact herr _ _ _ (by assumption) (hres.n3 (by assumption))
    | exact herr _ _ _ (by assumption) (hres.n4 (by assumption) (by assumption) (by assumption))
    | (refine' hret _ [(c, instObj 127 d), (d, scD w t1 t2 Tx tT i' ti'), (kd, o')] _ _ (Fr.keep (by assumption)) (own_takes (by assumption) ?tk9) (size_of (by assumption) hL) ?_
       (case tk9 => walk_at "use:takes")
       exact fun C k => k _ _ _ _ _ hres' hR' (atD_put (by assumption) hd' hf'))
end
end
section
theorem rk_Tag_0 : True := by
  k_with_none
  trivial


open PyProof.V
noncomputable abbrev elD (w : World) (n : Str) (k1 k2 k3 k4 : Tok) (tn : Tok) (kd cl : Addr) (y : Str) (ty : Tok) : Obj :=
  dictOf [⟨PyData.keyHash w.params (Str.ofString "name"), .str (Str.ofString "name") k1, .str n tn⟩, ⟨PyData.keyHash w.params (Str.ofString "attributes"), .str (Str.ofString "attributes") k2, .ref kd⟩,
    ⟨PyData.keyHash w.params (Str.ofString "children"), .str (Str.ofString "children") k3, .ref cl⟩, ⟨PyData.keyHash w.params (Str.ofString "text"), .str (Str.ofString "text") k4, .str y ty⟩] 4
/-- the rest of a start tag behind its name -/
inductive RTagL : List Nat → Ats → Option (List Nat × Ats × Bool) → Prop
  | cl {R R' : List Nat} {as : Ats} : strip [47, 62] (R.dropWhile isB) = some R' → RTagL R as (some (R', as, true))
  | gt {R R' : List Nat} {as : Ats} : strip [47, 62] (R.dropWhile isB) = none → strip [62] (R.dropWhile isB) = some R' → RTagL R as (some (R', as, false))
  | bad {R : List Nat} {as : Ats} : strip [47, 62] (R.dropWhile isB) = none → strip [62] (R.dropWhile isB) = none → as.length ≤ 1000 → RAttr (R.dropWhile isB) as none → RTagL R as none
  | more {R R' : List Nat} {as as' : Ats} {res : Option (List Nat × Ats × Bool)} : strip [47, 62] (R.dropWhile isB) = none → strip [62] (R.dropWhile isB) = none → as.length ≤ 1000 → RAttr (R.dropWhile isB) as (some (R', as')) → RTagL R' as' res → RTagL R as res


theorem rattr_len {R R' : List Nat} {as as' : Ats} (h : RAttr R as (some (R', as'))) : R'.length < R.length := by
  cases h with
  | dq h1 h2 h3 h4 h5 h6 =>
    have e1 := strip_len h2
    have e2 := strip_len h4
    have e3 := fnd_le h5
    have e4 := dw_len isB (R.dropWhile isN)
    have e5 := dw_len isN R
    rename_i R2 R3 _ _
    have e6 := dw_len isB R2
    simp only [List.length_drop, List.length_cons, List.length_nil] at *
    omega
  | sq h1 h2 h3 h4 h5 h6 h7 =>
    have e1 := strip_len h2
    have e2 := strip_len h5
    have e3 := fnd_le h6
    have e4 := dw_len isB (R.dropWhile isN)
    have e5 := dw_len isN R
    rename_i R2 R3 _ _
    have e6 := dw_len isB R2
    simp only [List.length_drop, List.length_cons, List.length_nil] at *
    omega

noncomputable abbrev tupObj (vs : List Value) : Obj := { cls := .type "tuple", data := .seq vs.toArray }
theorem news_takes {g h : Heap} {L : Addr} {l own rest : List (Addr × Obj)} (N : News g L h l) (tk : Takes own l rest) : News g L h own := fun p hp => N p (tk.mem.1 p hp)
/-- a new element's objects -/
inductive NewEl (prog : Program) (w : World) (nm : List Nat) (as : Ats) (lo hi : Nat) : Addr → List (Addr × Obj) → Prop
  | mk {e ed kd cl : Addr} {ko : Obj} {k1 k2 k3 k4 tn ty : Tok} : @LE.le Nat _ lo kd → @LT.lt Nat _ kd ed → @LT.lt Nat _ ed e → @LT.lt Nat _ e cl → @LT.lt Nat _ cl hi → AtD prog w ko as →
      NewEl prog w nm as lo hi e [(cl, W.listOf #[] 0), (e, instObj 71 ed), (ed, elD w (txt nm) k1 k2 k3 k4 tn kd cl (Str.ofString "") ty), (kd, ko)]
inductive TagJ (prog : Program) (w : World) (c d : Addr) (t1 t2 : Tok) (Tx : Str) (tT : Tok) (res : Option (List Nat × Ats × Bool)) (e ed kd cl : Addr) (nm : Str) (m₀ : Str → Option Value) : Nat → (Str → Option Value) → List (Addr × Obj) → Prop
  | mk {R : List Nat} {as : Ats} {ko : Obj} {i : Int} {ti k1 k2 k3 k4 tn ty : Tok} : RTagL R as res → Rest Tx i R → AtD prog w ko as →
      TagJ prog w c d t1 t2 Tx tT res e ed kd cl nm m₀ R.length m₀ [(cl, W.listOf #[] 0), (e, instObj 71 ed), (ed, elD w nm k1 k2 k3 k4 tn kd cl (Str.ofString "") ty), (kd, ko), (c, instObj 127 d), (d, scD w t1 t2 Tx tT i ti)]
section
variable {R R' : List Nat} {as : Ats} {res : Option (List Nat × Ats × Bool)}
theorem RTagL.e1 (h : RTagL R as res) (h1 : strip [47, 62] (R.dropWhile isB) = some R') : res = some (R', as, true) := by
  cases h with
  | cl a => rw [h1] at a; cases a; rfl
  | gt a => rw [h1] at a; cases a
  | bad a => rw [h1] at a; cases a
  | more a => rw [h1] at a; cases a
theorem RTagL.e2 (h : RTagL R as res) (h1 : strip [47, 62] (R.dropWhile isB) = none) (h2 : strip [62] (R.dropWhile isB) = some R') : res = some (R', as, false) := by
  cases h with
  | cl a => rw [h1] at a; cases a
  | gt _ a => rw [h2] at a; cases a; rfl
  | bad _ a => rw [h2] at a; cases a
  | more _ a => rw [h2] at a; cases a
end
section
variable {prog : Program} {w : World} {p : Program} {loose : List Str} {mean : ExcName → Option Value} {mg mb : Str → Option Value}

section
variable {c d kd : Addr} {t1 t2 : Tok} {Tx : Str} {tT : Tok} {i : Int} {ti : Tok} {R : List Nat} {as : Ats} {ko : Obj} {res : Option (List Nat × Ats × Bool)}
theorem attr_tag (hcd : c ≠ d) (hck : c ≠ kd) (hdk : d ≠ kd) (hlo : (kd == sysModules) = false)
    (hx : Tx.length ≤ 100000) (hR : Rest Tx i (R.dropWhile isB)) (hA : AtD prog w ko as) (hT : RTagL R as res) (h1 : strip [47, 62] (R.dropWhile isB) = none) (h2 : strip [62] (R.dropWhile isB) = none) :
    Fn prog w p loose mean mg mb 150 8 300 [.ref c, .ref kd] (scO w c d t1 t2 Tx tT i ti ++ [(kd, ko)])
      (PK fun _ C => ∀ R' as' i' ti' ko', R'.length < R.length → RTagL R' as' res → Rest Tx i' R' → AtD prog w ko' as' → C .none (scO w c d t1 t2 Tx tT i' ti' ++ [(kd, ko')])) (res = none) := by
  cases hT with
  | cl a => rw [h1] at a; cases a
  | gt _ a => rw [h2] at a; cases a
  | bad _ _ hl ha => exact Fn.mono (attr_fn hcd hck hdk hlo hx hR hA hl ha) (fun _ _ _ h C _ => h C fun _ _ _ _ _ e => by cases e) (fun _ => rfl)
  | more _ _ hl ha hm => exact Fn.mono (attr_fn hcd hck hdk hlo hx hR hA hl ha) (fun _ _ _ h C k => h C fun R' as' i' ti' ko' e f1 f2 => by
      cases e
      have := rattr_len ha
      have := dw_len isB R
      exact k _ _ _ _ _ (by omega) hm f1 f2) (fun e => by cases e)
theorem newDict_K2 {A : Around} {E : Value → Shared → Prop} {s : Shared} {h₀ : Heap} {L : Addr} {m : Str → Option Value} {news : List (Addr × Obj)} {env : Env} {pos : Pos} {Q : Value → Shared → Prop} (F : Fr h₀ L s.heap m) (N : News h₀ L s.heap news) (hbig : h₀.NoLimit)
    (k : ∀ d h' o, Fr h₀ L h' m → News h₀ L h' ((d, o) :: news) → (∀ p ∈ news, p.1 < d) → L < d → (d == sysModules) = false → o.IsDictOf (strKind prog w) [] → FlatPairs PyData.str [] [] → Q (.ref d) { s with heap := h' }) :
    wpAny (model prog w) A (eval (.Dict [] [] pos) env) Q E s :=
  Dict_empty_made2 F N (modules_low hbig) fun h' o F' N' lo a b c e _ => k _ h' o F' N' (fun p hp => Heap.lt_size (N p hp).1) (by obtain ⟨_, _, _, ho, _⟩ := F.ns; exact Heap.lt_size ho) lo a b
end
theorem rk_Tag_1 : True := by
  k_with "k_room" => (((try simp only [depth_under_make, depth_under_kw, depth_in1, depth_deeper, depth_caller]); (try dsimp only [top]); omega))
  trivial
theorem rk_Tag_2 : True := by
  k_with "k_units" => (((try simp only [units_in1, units_deeper, Around.mark_units]); (try dsimp only [top]); omega))
  trivial
theorem rk_Tag_3 : True := by
  k_with "units_room" => (((try simp only [units_in1, units_deeper, Around.mark_units]); (try dsimp only [top]); omega))
  trivial
theorem rk_Tag_4 : True := by
  k_with "k_ne" => (((try dsimp only); first | assumption | exact Ne.symm (by assumption) | (refine neN ?_; omega)))
  trivial
theorem rk_Tag_5 : True := by
  k_with "k_all" => (first | assumption | exact List.forall_mem_nil _ | (refine' List.forall_mem_cons.mpr ⟨?a, ?b⟩; (case a => k_ne); (case b => k_all)))
  trivial
theorem rk_Tag_6 : True := by
  k_with "use:takes" => (repeat' (first | exact Takes.nil | exact Take1.head | refine' Takes.cons ?_ ?_ | refine' Take1.tail ?_))
  trivial
theorem rk_Tag_7 : True := by
  k_with "use:apart" => (((try dsimp only); repeat' (first | assumption | exact List.forall_mem_nil _ | refine' List.forall_mem_cons.mpr ⟨_, _⟩ | (intro x9 hx9; exact absurd hx9 (by simp)) | (dsimp only; first | assumption | exact Ne.symm (by assumption)) | k_ne)))
  trivial
theorem rk_Tag_8 : True := by
  k_with "use:room" => (first | (refine' room3 ?h9 ?e9; (case h9 => assumption); (case e9 => exact rfl)) | (refine' room_le ?h8 ?e8; (case h8 => assumption); (case e8 => exact rfl)) | ((try dsimp only [top, Around.deeper]); omega))
  trivial
theorem rk_Tag_9 : True := by
  k_with "use:le" => (first | assumption | exact le_mil (by assumption) | omega)
  trivial
theorem rk_Tag_10 : True := by
  k_with "exec Raise some none" => ((k_here; refine raise_stmt rfl ?_))
  trivial
theorem rk_Tag_11 : True := by
  k_with "call ref" => ((k_here; (with_reducible show wpAny _ _ (call (Value.ref 44) [_]) _ _ _); k_dflt (refine' fault_use ?B ?F ?X ?N ?T rfl rfl ?hd ?hu ?_; (case B => k_asm); (case F => k_asm); (case X => k_asm); (case N => k_asm); (case T => k_asm); (case hd => walk_at "use:room"); (case hu => walk_at "use:room"); intro e' tp' dx' h' tk' F' N')))
  trivial
theorem rk_Tag_12 : True := by
  k_with "RaiseBack" => ((k_here; k_dflt (refine' ⟨_, _, _, rfl, faultCls ?X, News.get ?N (List.Mem.head _), ?_⟩; (case N => k_asm); (case X => k_in)); (try dsimp only)))
  trivial
theorem rk_Tag_13 : True := by
  k_with "leaving ref" => ((k_here; k_dflt (first | (refine' leave_new_F ?B ?F ?N (List.Mem.head _) rfl rfl ?_; (case B => k_asm); (case F => k_asm); (case N => k_asm); intro h' hfl') | (refine' leave_fly rfl rfl ?fl ?_; (case fl => assumption); intro h' hfl'))))
  trivial

theorem rk_Tag_14 : True := by
  k_with "k_ne" => (first | assumption | exact Ne.symm (by assumption) | walk_at "ne:lt" | ((try dsimp only); first | assumption | exact Ne.symm (by assumption) | walk_at "ne:lt" | (refine neN ?_; omega)))
  trivial
theorem rk_Tag_15 : True := by
  k_with "k_all" => (first | assumption | exact List.forall_mem_nil _ | (refine neAll_of ?_; walk_at "use:conj"))
  trivial
theorem rk_Tag_16 : True := by
  k_with "use:conj" => (first | exact True.intro | assumption | ((refine And.intro ?_ ?_) <;> walk_at "use:conj") | ((with_reducible show NeAll _ _); refine neAll_lt ?_; walk_at "lastlt") | k_ne)
  trivial
theorem rk_Tag_17 : True := by
  k_with "ne:lt" => (first | (refine Nat.ne_of_lt ?_; walk_at "lt") | (refine Nat.ne_of_gt ?_; walk_at "lt"))
  trivial
theorem rk_Tag_18 : True := by
  k_with "lt" => (with_reducible first | assumption | exact pj0 (by assumption) | exact pj1 (by assumption) | exact pj2 (by assumption) | exact pj3 (by assumption) | exact pj4 (by assumption) | exact pj5 (by assumption) | exact pj6 (by assumption) | exact pj7 (by assumption) | exact pj8 (by assumption) | exact pj9 (by assumption) | exact pj10 (by assumption) | exact pj11 (by assumption))
  trivial
theorem rk_Tag_19 : True := by
  k_with "lastlt" => (with_reducible first | assumption | exact lk1 (by assumption) | exact lk2 (by assumption) | exact lk3 (by assumption) | exact lk4 (by assumption) | exact lk5 (by assumption) | exact lk6 (by assumption) | exact lk7 (by assumption))
  trivial
theorem rk_Tag_20 : True := by
  k_with "use:apart" => (walk_at "use:conj")
  trivial
theorem rk_Tag_21 : True := by
  k_with "use:sides" => (((case B => k_asm); (case F => k_asm); (case X => k_asm); (case N => k_asm); (case T => k_asm); (case tk => walk_at "use:takes"); (case dj => walk_at "use:apart"); (case hd => walk_at "use:room"); (case hu => walk_at "use:room")))
  trivial
theorem rk_Tag_22 : True := by
  k_with "use:in" => ((intro h' tk' F' N' hlt'; (try dsimp only [List.cons_append, List.nil_append] at N'); (try dsimp only [AllLt] at hlt'); (try dsimp only); (try k_sweep)))
  trivial

theorem rk_Tag_23 : True := by
  k_with "call ref" => ((k_here; (with_reducible show wpAny _ _ (call (Value.ref 117) _) _ _ _); k_dflt ((refine' Fn.useOk (spaces_fn ?u1 ?u2 ?u3) ?B ?F ?X ?N ?T rfl rfl ?tk ?dj ?hd ?hu ?_); walk_at "use:sides"; (case u1 => assumption); (case u2 => walk_at "use:le"); (case u3 => assumption); (intro i' ti' hR'); walk_at "use:in")))
  trivial
theorem rk_Tag_24 : True := by
  k_with "call ref" => ((k_here; (with_reducible show wpAny _ _ (call (Value.ref 124) _) _ _ _); k_dflt ((refine' Fn.useOk (name_ok ?u1 ?u2 ?u3 ?u4) ?B ?F ?X ?N ?T rfl rfl ?tk ?dj ?hd ?hu ?_); walk_at "use:sides"; (case u1 => assumption); (case u2 => walk_at "use:le"); (case u3 => assumption); (case u4 => assumption); (intro tn' i' ti' hR'); walk_at "use:in")))
  trivial
theorem rk_Tag_25 : True := by
  k_with "call ref" => ((k_here; (with_reducible show wpAny _ _ (call (Value.ref 103) _) _ _ _); k_dflt ((refine' Fn.useOk (takes_two ?u1 ?u2 ?u3 ?u4 ?u5) ?B ?F ?X ?N ?T rfl rfl ?tk ?dj ?hd ?hu ?_); walk_at "use:sides"; (case u1 => assumption); (case u2 => walk_at "use:le"); (case u3 => assumption); (case u4 => with_reducible first | exact lit_cl | exact lit_gt); (case u5 => decide); (refine And.intro (fun hs' => ?_) (fun R' i' ti' hs' hR' => ?_)) <;> walk_at "use:in")))
  trivial
theorem rk_Tag_26 : True := by
  k_with "call ref" => ((k_here; (with_reducible show wpAny _ _ (call (Value.ref 150) _) _ _ _); k_dflt ((refine' Fn.useK (attr_tag ?u1 ?u2 ?u3 ?u4 ?u5 ?u6 ?u7 ?u8 ?u9 ?u10) ?B ?F ?X ?N ?T rfl rfl ?tk ?dj ?hd ?hu ?_ ?_); walk_at "use:sides"; (case u1 => k_ne); (case u2 => k_ne); (case u3 => k_ne); (case u4 => assumption); (case u5 => assumption); (case u6 => assumption); (case u7 => assumption); (case u8 => assumption); (case u9 => assumption); (case u10 => assumption); (intro R' as' i' ti' ko' hl' hT' hR' hA'); walk_at "use:in")))
  trivial
theorem rk_Tag_27 : True := by
  k_with "eval Dict nil nil" => ((k_here; k_dflt (refine' newDict_K2 ?k1 ?k2 (TopRead.nolimit (by k_asm)) ?_; (case k1 => k_asm); (case k2 => k_asm)); intro d' h' o' F' N' l1 lL' lo' hs' fs'; (try k_lt l1); (try k_lt2 lL'); (try k_sweep)))
  trivial
set_option pp.deepTerms false
set_option pp.proofs false
set_option maxHeartbeats 8000000 in
theorem tag_fn {c d : Addr} {t1 t2 : Tok} {Tx : Str} {tT : Tok} {i : Int} {ti : Tok} {R : List Nat} {res : Option (List Nat × Ats × Bool)} (hcd : c ≠ d) 
    (hx : Tx.length ≤ 100000) (hR : Rest Tx i R) (h1 : R.takeWhile isN ≠ []) (hres : RTagL (R.dropWhile isN) [] res) :
    Fn prog w p loose mean mg mb 157 10 400 [.ref c] (scO w c d t1 t2 Tx tT i ti)
      (PK fun b C => ∀ R' as em tup e i' ti' X, res = some (R', as, em) → Rest Tx i' R' → NewEl prog w (R.takeWhile isN) as b tup e X → C (.ref tup) ((tup, tupObj [.ref e, .bool em]) :: (scO w c d t1 t2 Tx tT i' ti' ++ X))) (res = none) := by
  have hRl := hR.len
  refine' Fn.intro (binds := [(Str.ofString "scanner", .ref c)]) ?ho ?hcd ?hb ?hl ?hd ?_ ?c2 ?c3 ?c4 ?c5
  (case ho => k_is)
  (case hcd => k_is)
  (case hb => (intro s0 hX0; exact BindsTo.of_eq rfl))
  (case hl => exact locs rfl)
  (case hd => first | decide | omega)
  (case c2 => exact rfl)
  (case c3 => exact rfl)
  (case c4 => exact rfl)
  (case c5 => decide)
  intro dp un gd l base g s Q E L' h₁ hdp hun B F N hlt X TP hL hret herr
  (try dsimp only)
  (try k_fold)
  repeat ((fail_if_success (with_reducible show wpAny _ _ (exec (Stmt.While _ _ _ _) _) _ _ _)); (first | (k_unfold; (try dsimp only)) | walk1 | (dsimp only; walk1)))
  refine gen_toks ?_
  intro tk9
  (try dsimp only)
  rename News g L' _ _ => N₂
  rename Fr g L' _ _ => F₂
  rename Obj.IsDictOf _ _ _ => hsd
  rename PyProof.V.FlatPairs _ _ _ => hfd
  refine While_inv2 (TagJ prog w c d t1 t2 Tx tT res _ _ _ _ _ _) F₂ N₂ (.mk hres hR' ⟨_, hsd, hfd⟩) ?_ ?_
  · clear N₂ F₂
    rintro n m₁ news₁ h₁ tk₁ F₁ N₁ ⟨hT, hR₁, hA⟩
    k_steps
    all_goals first
      | exact herr _ _ _ (by assumption) (by assumption)
      | (rename Fr g L' _ _ => F9
         rename News g L' _ _ => N9
         refine' ⟨_, _, _, _, _, rfl, F9, news_takes N9 ?tk9, ?lt9, .mk (by assumption) (by assumption) (by assumption)⟩
         (case tk9 => walk_at "use:takes")
         (case lt9 => assumption))
      | (refine hret _ _ _ _ (Fr.keep (by assumption)) (own_of (by assumption)) (size_of (by assumption) hL) ?_
         refine fun C k => k _ _ _ _ _ _ _ _ ?e9 (by assumption) (.mk ?_ ?_ ?_ ?_ ?_ hA)
         (case e9 => first | exact hT.e1 (by assumption) | exact hT.e2 (by assumption) (by assumption))
         all_goals first | walk_at "lt" | omega)
  · passes_own
end
end
section
theorem rk_Grow_0 : True := by
  k_with_none
  trivial


open PyProof.V
noncomputable abbrev grD (w : World) (k1 k2 : Tok) (vo : Value) (ol : Addr) : Obj := dictOf [⟨PyData.keyHash w.params (Str.ofString "outermost"), .str (Str.ofString "outermost") k1, vo⟩, ⟨PyData.keyHash w.params (Str.ofString "open"), .str (Str.ofString "open") k2, .ref ol⟩] 2
/-- the three objects of a Growing -/
noncomputable abbrev grO (w : World) (G gx : Addr) (k1 k2 : Tok) (vo : Value) (ol : Addr) (its : Array Value) (n : Nat) : List (Addr × Obj) := [(G, instObj 202 gx), (gx, grD w k1 k2 vo ol), (ol, W.listOf its n)]

section
variable {prog : Program} {w : World} {A : Around} {E : Value → Shared → Prop} {s : Shared}
theorem ne_nil {a b : Addr} {vs : Array Value} {Q : Value → Shared → Prop} (ha : s.heap.IsList a vs) (hb : s.heap.IsList b #[]) (hu : A.units < cLine) (h : Q (.bool (decide (0 < vs.size))) s) :
    wpAny (model prog w) A (compareOp .NotEq (.ref a) (.ref b)) Q E s := by
  by_cases e : vs.size = 0
  · have := SeqAt.RcNeAt.lists (A := A) (s := s) (e := fun _ => true) ha hb (by simpa using e) hu (fun j h1 h2 => absurd h1 (by omega)) prog w E Q
    refine this ?_
    rw [e] at h ⊢
    exact h
  · refine SeqAt.RcNeAt.lists_lengths (A := A) (s := s) ha hb (by simpa using e) hu prog w E Q ?_
    rw [decide_eq_true (by omega : 0 < vs.size)] at h
    exact h
theorem eq_nil {a b : Addr} {vs : Array Value} {Q : Value → Shared → Prop} (ha : s.heap.IsList a vs) (hb : s.heap.IsList b #[]) (hu : A.units < cLine) (h : Q (.bool (decide (vs.size = 0))) s) :
    wpAny (model prog w) A (compareOp .Eq (.ref a) (.ref b)) Q E s := by
  by_cases e : vs.size = 0
  · have := SeqAt.RcAt.lists (A := A) (s := s) (e := fun _ => true) ha hb (by simpa using e) hu (fun j h1 h2 => absurd h1 (by omega)) prog w E Q
    refine this ?_
    rw [e] at h ⊢
    exact h
  · refine SeqAt.RcAt.lists_lengths (A := A) (s := s) ha hb (by simpa using e) hu prog w E Q ?_
    rw [decide_eq_false e] at h
    exact h
theorem last_item {value slice : Expr} {l : Addr} {its : Array Value} {v : Value} {u : Tok} {Q : Value → Shared → Prop} (hl : s.heap.IsList l (its.push v)) (h : Q v s)
    (hs : subscripted slice false (.ref l) (.int (-1) u) = operate [.ref l, .int (-1) u] (getItem (.ref l) (.int (-1) u)) := by with_unfolding_all rfl) :
    wpAny (model prog w) A (subscriptTail value slice (.ref l) (.int (-1) u)) Q E s := by
  have e : its.push v = (its.toList ++ [v]).toArray := by rw [← Array.toList_push, Array.toArray_toList]
  rw [e] at hl
  refine kde_neg (j := its.size) (v := v) hl (by omega) (by omega) ?_ (by simp) h hs
  rw [PySem.MeetsSeq.seqIndex_neg (by omega) (by simp; omega)]
  congr 1
  simp only [List.length_append, Array.length_toList, List.length_cons, List.length_nil]
  omega
theorem pop_last {h₀ : Heap} {L D : Addr} {m : Str → Option Value} {news news' : List (Addr × Obj)} {its : Array Value} {n : Nat} {v : Value} {Q : Value → Shared → Prop} (F : Fr h₀ L s.heap m) (N : News h₀ L s.heap news)
    (U : Upd D (listOf (its.push v) n) (listOf its (n + 1)) news news') (hz : its.size < 1000) (h : ∀ h', Fr h₀ L h' m → News h₀ L h' news' → Q v { s with heap := h' }) :
    wpAny (model prog w) A (call (.builtin "list.pop") [.ref D]) Q E s := by
  refine kl_pop (its := its.push v) (p := its.toList) F N (by rw [Array.toList_push]; exact kpa_last _ _) (by simpa using U) (by simp [sizeLine_eq]; omega) h
end

section
variable {prog : Program} {w : World} {p : Program} {loose : List Str} {mean : ExcName → Option Value} {mg mb : Str → Option Value}

theorem rk_Grow_1 : True := by
  k_with "k_room" => (((try simp only [depth_under_make, depth_under_kw, depth_in1, depth_deeper, depth_caller]); (try dsimp only [top]); omega))
  trivial
theorem rk_Grow_2 : True := by
  k_with "k_units" => (((try simp only [units_in1, units_deeper, Around.mark_units]); (try dsimp only [top]); omega))
  trivial
theorem rk_Grow_3 : True := by
  k_with "units_room" => (((try simp only [units_in1, units_deeper, Around.mark_units]); (try dsimp only [top]); omega))
  trivial
theorem rk_Grow_4 : True := by
  k_with "k_ne" => (((try dsimp only); first | assumption | exact Ne.symm (by assumption) | (refine neN ?_; omega)))
  trivial
theorem rk_Grow_5 : True := by
  k_with "k_all" => (first | assumption | exact List.forall_mem_nil _ | (refine' List.forall_mem_cons.mpr ⟨?a, ?b⟩; (case a => k_ne); (case b => k_all)))
  trivial
theorem rk_Grow_6 : True := by
  k_with "use:takes" => (repeat' (first | exact Takes.nil | exact Take1.head | refine' Takes.cons ?_ ?_ | refine' Take1.tail ?_))
  trivial
theorem rk_Grow_7 : True := by
  k_with "use:apart" => (((try dsimp only); repeat' (first | assumption | exact List.forall_mem_nil _ | refine' List.forall_mem_cons.mpr ⟨_, _⟩ | (intro x9 hx9; exact absurd hx9 (by simp)) | (dsimp only; first | assumption | exact Ne.symm (by assumption)) | k_ne)))
  trivial
theorem rk_Grow_8 : True := by
  k_with "use:room" => (first | (refine' room3 ?h9 ?e9; (case h9 => assumption); (case e9 => exact rfl)) | (refine' room_le ?h8 ?e8; (case h8 => assumption); (case e8 => exact rfl)) | ((try dsimp only [top, Around.deeper]); omega))
  trivial
theorem rk_Grow_9 : True := by
  k_with "use:le" => (first | assumption | exact le_mil (by assumption) | omega)
  trivial
theorem rk_Grow_10 : True := by
  k_with "exec Raise some none" => ((k_here; refine raise_stmt rfl ?_))
  trivial
theorem rk_Grow_11 : True := by
  k_with "call ref" => ((k_here; (with_reducible show wpAny _ _ (call (Value.ref 44) [_]) _ _ _); k_dflt (refine' fault_use ?B ?F ?X ?N ?T rfl rfl ?hd ?hu ?_; (case B => k_asm); (case F => k_asm); (case X => k_asm); (case N => k_asm); (case T => k_asm); (case hd => walk_at "use:room"); (case hu => walk_at "use:room"); intro e' tp' dx' h' tk' F' N')))
  trivial
theorem rk_Grow_12 : True := by
  k_with "RaiseBack" => ((k_here; k_dflt (refine' ⟨_, _, _, rfl, faultCls ?X, News.get ?N (List.Mem.head _), ?_⟩; (case N => k_asm); (case X => k_in)); (try dsimp only)))
  trivial
theorem rk_Grow_13 : True := by
  k_with "leaving ref" => ((k_here; k_dflt (first | (refine' leave_new_F ?B ?F ?N (List.Mem.head _) rfl rfl ?_; (case B => k_asm); (case F => k_asm); (case N => k_asm); intro h' hfl') | (refine' leave_fly rfl rfl ?fl ?_; (case fl => assumption); intro h' hfl'))))
  trivial

theorem rk_Grow_14 : True := by
  k_with "compareOp NotEq ref ref" => ((k_here; k_dflt (refine' ne_nil ?a ?b ?u ?_; (case a => is_list); (case b => is_list); (case u => ke_room)); (try simp only [Array.size_push, Nat.zero_lt_succ, decide_true]); (try dsimp only)))
  trivial
theorem rk_Grow_15 : True := by
  k_with "compareOp Eq ref ref" => ((k_here; k_dflt (refine' eq_nil ?a ?b ?u ?_; (case a => is_list); (case b => is_list); (case u => ke_room)); (try simp only [Array.size_push, Nat.add_eq_zero_iff, Nat.succ_ne_zero, Nat.one_ne_zero, and_false, decide_false]); (try dsimp only)))
  trivial
theorem rk_Grow_16 : True := by
  k_with "subscriptTail" => ((k_here; (with_reducible show wpAny _ _ (subscriptTail _ _ (Value.ref _) (Value.int (-1) _)) _ _ _); k_dflt (refine' last_item ?l ?_ ?s; (case l => is_list); (case s => with_unfolding_all rfl)); (try dsimp only)))
  trivial
theorem rk_Grow_17 : True := by
  k_with "call builtin:list.pop" => ((k_here; k_dflt (refine' pop_last ?F ?N ?U ?z ?_; (case F => k_asm); (case N => k_asm); (case U => k_upd); (case z => omega)); intro h' F' N'; (try dsimp only); (try k_sweep)))
  trivial
theorem rk_Grow_18 : True := by
  k_with "call builtin:list.append" => ((k_here; (with_reducible show wpAny _ _ (call (Value.builtin _) [Value.ref _, _]) _ _ _); k_dflt (refine' append_K ?k1 ?k2 ?k3 ?_ ?z; (case k1 => k_asm); (case k2 => k_asm); (case k3 => k_upd); (case z => (simp only [Array.size_push, sizeLine_eq]; omega))); intro h' F' N'; (try dsimp only); (try k_sweep)))
  trivial

set_option pp.deepTerms false
set_option pp.proofs false
section
variable {G gx ol e ed kd cl e' : Addr} {k1 k2 a1 a2 a3 a4 tn ty tx : Tok} {vo : Value} {its kids : Array Value} {n kn : Nat} {nm x y : Str}
set_option maxHeartbeats 8000000 in
theorem ptext_top (h1 : G ≠ ed) (h2 : gx ≠ ed) (h3 : ol ≠ ed) (h4 : e ≠ ed) (hx : x.length + y.length ≤ 1000000) :
    Fn prog w p loose mean mg mb 199 3 40 [.ref G, .str x tx] (grO w G gx k1 k2 vo ol (its.push (.ref e)) n ++ [(e, instObj 71 ed), (ed, elD w nm a1 a2 a3 a4 tn kd cl y ty)])
      (fun _ r o => ∃ ty', r = .none ∧ o = grO w G gx k1 k2 vo ol (its.push (.ref e)) n ++ [(e, instObj 71 ed), (ed, elD w nm a1 a2 a3 a4 tn kd cl (y ++ x) ty')]) False := by
  refine' Fn.intro (binds := [(Str.ofString "self", .ref G), (Str.ofString "text", .str x tx)]) ?ho ?hcd ?hb ?hl ?hd ?_ ?c2 ?c3 ?c4 ?c5
  (case ho => k_is)
  (case hcd => k_is)
  (case hb => (intro s0 hX0; exact BindsTo.of_eq rfl))
  (case hl => exact locs rfl)
  (case hd => first | decide | omega)
  (case c2 => exact rfl)
  (case c3 => exact rfl)
  (case c4 => exact rfl)
  (case c5 => decide)
  intro dp un gd l base g s Q E L' h₁ hdp hun B F N hlt X TP hL hret herr
  (try dsimp only)
  (try k_fold)
  simp only [List.cons_append, List.nil_append] at N
  k_steps
  refine' hret _ ([(G, instObj 202 gx), (gx, grD w k1 k2 vo ol), (ol, W.listOf (its.push (.ref e)) n), (e, instObj 71 ed), (ed, elD w nm a1 a2 a3 a4 tn kd cl (y ++ x) _)]) _ _ (Fr.keep (by assumption)) (own_takes (by assumption) ?tk9) (size_of (by assumption) hL) ?_
  (case tk9 => walk_at "use:takes")
  exact ⟨_, rfl, rfl⟩
set_option maxHeartbeats 8000000 in
theorem ptext_blank :
    Fn prog w p loose mean mg mb 199 3 40 [.ref G, .str (Str.ofString "\n") tx] (grO w G gx k1 k2 vo ol #[] n) (fun _ r o => r = .none ∧ o = grO w G gx k1 k2 vo ol #[] n) False := by
  refine' Fn.intro (binds := [(Str.ofString "self", .ref G), (Str.ofString "text", .str (Str.ofString "\n") tx)]) ?ho ?hcd ?hb ?hl ?hd ?_ ?c2 ?c3 ?c4 ?c5
  (case ho => k_is)
  (case hcd => k_is)
  (case hb => (intro s0 hX0; exact BindsTo.of_eq rfl))
  (case hl => exact locs rfl)
  (case hd => first | decide | omega)
  (case c2 => exact rfl)
  (case c3 => exact rfl)
  (case c4 => exact rfl)
  (case c5 => decide)
  intro dp un gd l base g s Q E L' h₁ hdp hun B F N hlt X TP hL hret herr
  (try dsimp only)
  (try k_fold)
  k_steps
  refine' hret _ ([(G, instObj 202 gx), (gx, grD w k1 k2 vo ol), (ol, W.listOf #[] n)]) _ _ (Fr.keep (by assumption)) (own_takes (by assumption) ?tk9) (size_of (by assumption) hL) ?_
  (case tk9 => walk_at "use:takes")
  exact ⟨rfl, rfl⟩
set_option maxHeartbeats 8000000 in
theorem ptext_bad1 :
    Fn prog w p loose mean mg mb 199 3 40 [.ref G, .str (Str.ofString "x") tx] (grO w G gx k1 k2 vo ol #[] n) (fun _ r o => False) True := by
  refine' Fn.intro (binds := [(Str.ofString "self", .ref G), (Str.ofString "text", .str (Str.ofString "x") tx)]) ?ho ?hcd ?hb ?hl ?hd ?_ ?c2 ?c3 ?c4 ?c5
  (case ho => k_is)
  (case hcd => k_is)
  (case hb => (intro s0 hX0; exact BindsTo.of_eq rfl))
  (case hl => exact locs rfl)
  (case hd => first | decide | omega)
  (case c2 => exact rfl)
  (case c3 => exact rfl)
  (case c4 => exact rfl)
  (case c5 => decide)
  intro dp un gd l base g s Q E L' h₁ hdp hun B F N hlt X TP hL hret herr
  (try dsimp only)
  (try k_fold)
  k_steps
  all_goals (refine herr _ _ _ (by assumption) trivial)
set_option maxHeartbeats 8000000 in
theorem ptext_bad2 :
    Fn prog w p loose mean mg mb 199 3 40 [.ref G, .str (Str.ofString "\nx") tx] (grO w G gx k1 k2 vo ol #[] n) (fun _ r o => False) True := by
  refine' Fn.intro (binds := [(Str.ofString "self", .ref G), (Str.ofString "text", .str (Str.ofString "\nx") tx)]) ?ho ?hcd ?hb ?hl ?hd ?_ ?c2 ?c3 ?c4 ?c5
  (case ho => k_is)
  (case hcd => k_is)
  (case hb => (intro s0 hX0; exact BindsTo.of_eq rfl))
  (case hl => exact locs rfl)
  (case hd => first | decide | omega)
  (case c2 => exact rfl)
  (case c3 => exact rfl)
  (case c4 => exact rfl)
  (case c5 => decide)
  intro dp un gd l base g s Q E L' h₁ hdp hun B F N hlt X TP hL hret herr
  (try dsimp only)
  (try k_fold)
  k_steps
  all_goals (refine herr _ _ _ (by assumption) trivial)
end
end
end
section
theorem rk_Grow2_0 : True := by
  k_with_none
  trivial


section
variable {prog : Program} {w : World} {p : Program} {loose : List Str} {mean : ExcName → Option Value} {mg mb : Str → Option Value}

theorem ne_is {A : Around} {E : Value → Shared → Prop} {s : Shared} {x y : Str} {t u : Tok} {b : Bool} {Q : Value → Shared → Prop} (e : (x != y) = b) (h : Q (.bool b) s) : wpAny (model prog w) A (compareOp .NotEq (.str x t) (.str y u)) Q E s := PyProof.Rows.ne_str (e ▸ h)
end
section
variable {prog : Program} {w : World} {p : Program} {loose : List Str} {mean : ExcName → Option Value} {mg mb : Str → Option Value}

theorem rk_Grow2_1 : True := by
  k_with "k_room" => (((try simp only [depth_under_make, depth_under_kw, depth_in1, depth_deeper, depth_caller]); (try dsimp only [top]); omega))
  trivial
theorem rk_Grow2_2 : True := by
  k_with "k_units" => (((try simp only [units_in1, units_deeper, Around.mark_units]); (try dsimp only [top]); omega))
  trivial
theorem rk_Grow2_3 : True := by
  k_with "units_room" => (((try simp only [units_in1, units_deeper, Around.mark_units]); (try dsimp only [top]); omega))
  trivial
theorem rk_Grow2_4 : True := by
  k_with "k_ne" => (((try dsimp only); first | assumption | exact Ne.symm (by assumption) | (refine neN ?_; omega)))
  trivial
theorem rk_Grow2_5 : True := by
  k_with "k_all" => (first | assumption | exact List.forall_mem_nil _ | (refine' List.forall_mem_cons.mpr ⟨?a, ?b⟩; (case a => k_ne); (case b => k_all)))
  trivial
theorem rk_Grow2_6 : True := by
  k_with "use:takes" => (repeat' (first | exact Takes.nil | exact Take1.head | refine' Takes.cons ?_ ?_ | refine' Take1.tail ?_))
  trivial
theorem rk_Grow2_7 : True := by
  k_with "use:apart" => (((try dsimp only); repeat' (first | assumption | exact List.forall_mem_nil _ | refine' List.forall_mem_cons.mpr ⟨_, _⟩ | (intro x9 hx9; exact absurd hx9 (by simp)) | (dsimp only; first | assumption | exact Ne.symm (by assumption)) | k_ne)))
  trivial
theorem rk_Grow2_8 : True := by
  k_with "use:room" => (first | (refine' room3 ?h9 ?e9; (case h9 => assumption); (case e9 => exact rfl)) | (refine' room_le ?h8 ?e8; (case h8 => assumption); (case e8 => exact rfl)) | ((try dsimp only [top, Around.deeper]); omega))
  trivial
theorem rk_Grow2_9 : True := by
  k_with "use:le" => (first | assumption | exact le_mil (by assumption) | omega)
  trivial
theorem rk_Grow2_10 : True := by
  k_with "exec Raise some none" => ((k_here; refine raise_stmt rfl ?_))
  trivial
theorem rk_Grow2_11 : True := by
  k_with "call ref" => ((k_here; (with_reducible show wpAny _ _ (call (Value.ref 44) [_]) _ _ _); k_dflt (refine' fault_use ?B ?F ?X ?N ?T rfl rfl ?hd ?hu ?_; (case B => k_asm); (case F => k_asm); (case X => k_asm); (case N => k_asm); (case T => k_asm); (case hd => walk_at "use:room"); (case hu => walk_at "use:room"); intro e' tp' dx' h' tk' F' N')))
  trivial
theorem rk_Grow2_12 : True := by
  k_with "RaiseBack" => ((k_here; k_dflt (refine' ⟨_, _, _, rfl, faultCls ?X, News.get ?N (List.Mem.head _), ?_⟩; (case N => k_asm); (case X => k_in)); (try dsimp only)))
  trivial
theorem rk_Grow2_13 : True := by
  k_with "leaving ref" => ((k_here; k_dflt (first | (refine' leave_new_F ?B ?F ?N (List.Mem.head _) rfl rfl ?_; (case B => k_asm); (case F => k_asm); (case N => k_asm); intro h' hfl') | (refine' leave_fly rfl rfl ?fl ?_; (case fl => assumption); intro h' hfl'))))
  trivial

theorem rk_Grow2_14 : True := by
  k_with "compareOp NotEq ref ref" => ((k_here; k_dflt (refine' ne_nil ?a ?b ?u ?_; (case a => is_list); (case b => is_list); (case u => ke_room)); (try simp only [Array.size_push, Nat.zero_lt_succ, decide_true]); (try dsimp only)))
  trivial
theorem rk_Grow2_15 : True := by
  k_with "compareOp Eq ref ref" => ((k_here; k_dflt (refine' eq_nil ?a ?b ?u ?_; (case a => is_list); (case b => is_list); (case u => ke_room)); (try simp only [Array.size_push, Nat.add_eq_zero_iff, Nat.succ_ne_zero, Nat.one_ne_zero, and_false, decide_false]); (try dsimp only)))
  trivial
theorem rk_Grow2_16 : True := by
  k_with "subscriptTail" => ((k_here; (with_reducible show wpAny _ _ (subscriptTail _ _ (Value.ref _) (Value.int (-1) _)) _ _ _); k_dflt (refine' last_item ?l ?_ ?s; (case l => is_list); (case s => with_unfolding_all rfl)); (try dsimp only)))
  trivial
theorem rk_Grow2_17 : True := by
  k_with "call builtin:list.pop" => ((k_here; k_dflt (refine' pop_last ?F ?N ?U ?z ?_; (case F => k_asm); (case N => k_asm); (case U => k_upd); (case z => omega)); intro h' F' N'; (try dsimp only); (try k_sweep)))
  trivial
theorem rk_Grow2_18 : True := by
  k_with "call builtin:list.append" => ((k_here; (with_reducible show wpAny _ _ (call (Value.builtin _) [Value.ref _, _]) _ _ _); k_dflt (refine' append_K ?k1 ?k2 ?k3 ?_ ?z; (case k1 => k_asm); (case k2 => k_asm); (case k3 => k_upd); (case z => (simp only [Array.size_push, sizeLine_eq]; omega))); intro h' F' N'; (try dsimp only); (try k_sweep)))
  trivial

theorem rk_Grow2_19 : True := by
  k_with "compareOp NotEq str str" => ((k_here; k_dflt (refine' ne_is ?e ?_; (case e => assumption)); (try dsimp only)))
  trivial
set_option pp.deepTerms false
set_option pp.proofs false
section
variable {G gx ol e ed kd cl e' : Addr} {k1 k2 a1 a2 a3 a4 tn ty tx : Tok} {vo : Value} {its kids : Array Value} {n kn : Nat} {nm x y : Str}
set_option maxHeartbeats 8000000 in
theorem put_top_cl (h1 : ∀ q ∈ [G, gx, ol, e, ed], q ≠ cl) (hk : kids.size < 1000) :
    Fn prog w p loose mean mg mb 185 3 40 [.ref G, .ref e', .bool true] (grO w G gx k1 k2 vo ol (its.push (.ref e)) n ++ [(e, instObj 71 ed), (ed, elD w nm a1 a2 a3 a4 tn kd cl y ty), (cl, W.listOf kids kn)])
      (fun _ r o => r = .none ∧ o = grO w G gx k1 k2 vo ol (its.push (.ref e)) n ++ [(e, instObj 71 ed), (ed, elD w nm a1 a2 a3 a4 tn kd cl y ty), (cl, W.listOf (kids.push (.ref e')) (kn + 1))]) False := by
  simp only [List.forall_mem_cons] at h1
  obtain ⟨h1, h2, h3, h4, h5, _⟩ := h1
  refine' Fn.intro (binds := [(Str.ofString "self", .ref G), (Str.ofString "element", .ref e'), (Str.ofString "is_empty", .bool true)]) ?ho ?hcd ?hb ?hl ?hd ?_ ?c2 ?c3 ?c4 ?c5
  (case ho => k_is)
  (case hcd => k_is)
  (case hb => (intro s0 hX0; exact BindsTo.of_eq rfl))
  (case hl => exact locs rfl)
  (case hd => first | decide | omega)
  (case c2 => exact rfl)
  (case c3 => exact rfl)
  (case c4 => exact rfl)
  (case c5 => decide)
  intro dp un gd l base g s Q E L' h₁ hdp hun B F N hlt X TP hL hret herr
  (try dsimp only)
  (try k_fold)
  simp only [List.cons_append, List.nil_append] at N
  k_steps
  refine' hret _ ([(G, instObj 202 gx), (gx, grD w k1 k2 vo ol), (ol, W.listOf (its.push (.ref e)) n), (e, instObj 71 ed), (ed, elD w nm a1 a2 a3 a4 tn kd cl y ty), (cl, W.listOf (kids.push (.ref e')) (kn + 1))]) _ _ (Fr.keep (by assumption)) (own_takes (by assumption) ?tk9) (size_of (by assumption) hL) ?_
  (case tk9 => walk_at "use:takes")
  exact ⟨rfl, rfl⟩
set_option maxHeartbeats 8000000 in
theorem put_top_op (h1 : ∀ q ∈ [G, gx, ol, e, ed], q ≠ cl) (h2 : ∀ q ∈ [G, gx, e, ed, cl], q ≠ ol) (hk : kids.size < 1000) (hi : its.size < 1000) :
    Fn prog w p loose mean mg mb 185 3 40 [.ref G, .ref e', .bool false] (grO w G gx k1 k2 vo ol (its.push (.ref e)) n ++ [(e, instObj 71 ed), (ed, elD w nm a1 a2 a3 a4 tn kd cl y ty), (cl, W.listOf kids kn)])
      (fun _ r o => r = .none ∧ o = grO w G gx k1 k2 vo ol ((its.push (.ref e)).push (.ref e')) (n + 1) ++ [(e, instObj 71 ed), (ed, elD w nm a1 a2 a3 a4 tn kd cl y ty), (cl, W.listOf (kids.push (.ref e')) (kn + 1))]) False := by
  simp only [List.forall_mem_cons] at h1 h2
  obtain ⟨g1, g2, g3, g4, g5, _⟩ := h1
  obtain ⟨f1, f2, f3, f4, f5, _⟩ := h2
  refine' Fn.intro (binds := [(Str.ofString "self", .ref G), (Str.ofString "element", .ref e'), (Str.ofString "is_empty", .bool false)]) ?ho ?hcd ?hb ?hl ?hd ?_ ?c2 ?c3 ?c4 ?c5
  (case ho => k_is)
  (case hcd => k_is)
  (case hb => (intro s0 hX0; exact BindsTo.of_eq rfl))
  (case hl => exact locs rfl)
  (case hd => first | decide | omega)
  (case c2 => exact rfl)
  (case c3 => exact rfl)
  (case c4 => exact rfl)
  (case c5 => decide)
  intro dp un gd l base g s Q E L' h₁ hdp hun B F N hlt X TP hL hret herr
  (try dsimp only)
  (try k_fold)
  simp only [List.cons_append, List.nil_append] at N
  k_steps
  refine' hret _ ([(G, instObj 202 gx), (gx, grD w k1 k2 vo ol), (ol, W.listOf ((its.push (.ref e)).push (.ref e')) (n + 1)), (e, instObj 71 ed), (ed, elD w nm a1 a2 a3 a4 tn kd cl y ty), (cl, W.listOf (kids.push (.ref e')) (kn + 1))]) _ _ (Fr.keep (by assumption)) (own_takes (by assumption) ?tk9) (size_of (by assumption) hL) ?_
  (case tk9 => walk_at "use:takes")
  exact ⟨rfl, rfl⟩
set_option maxHeartbeats 8000000 in
theorem put_out_cl (h1 : ∀ q ∈ [G, ol], q ≠ gx) :
    Fn prog w p loose mean mg mb 185 3 40 [.ref G, .ref e', .bool true] (grO w G gx k1 k2 .none ol #[] n) (fun _ r o => r = .none ∧ o = grO w G gx k1 k2 (.ref e') ol #[] n) False := by
  simp only [List.forall_mem_cons] at h1
  obtain ⟨g1, g2, _⟩ := h1
  refine' Fn.intro (binds := [(Str.ofString "self", .ref G), (Str.ofString "element", .ref e'), (Str.ofString "is_empty", .bool true)]) ?ho ?hcd ?hb ?hl ?hd ?_ ?c2 ?c3 ?c4 ?c5
  (case ho => k_is)
  (case hcd => k_is)
  (case hb => (intro s0 hX0; exact BindsTo.of_eq rfl))
  (case hl => exact locs rfl)
  (case hd => first | decide | omega)
  (case c2 => exact rfl)
  (case c3 => exact rfl)
  (case c4 => exact rfl)
  (case c5 => decide)
  intro dp un gd l base g s Q E L' h₁ hdp hun B F N hlt X TP hL hret herr
  (try dsimp only)
  (try k_fold)
  k_steps
  refine' hret _ ([(G, instObj 202 gx), (gx, grD w k1 k2 (.ref e') ol), (ol, W.listOf #[] n)]) _ _ (Fr.keep (by assumption)) (own_takes (by assumption) ?tk9) (size_of (by assumption) hL) ?_
  (case tk9 => walk_at "use:takes")
  exact ⟨rfl, rfl⟩
set_option maxHeartbeats 8000000 in
theorem put_out_op (h1 : ∀ q ∈ [G, ol], q ≠ gx) (h2 : ∀ q ∈ [G, gx], q ≠ ol) :
    Fn prog w p loose mean mg mb 185 3 40 [.ref G, .ref e', .bool false] (grO w G gx k1 k2 .none ol #[] n) (fun _ r o => r = .none ∧ o = grO w G gx k1 k2 (.ref e') ol (Array.push #[] (.ref e')) (n + 1)) False := by
  simp only [List.forall_mem_cons] at h1 h2
  obtain ⟨g1, g2, _⟩ := h1
  obtain ⟨f1, f2, _⟩ := h2
  refine' Fn.intro (binds := [(Str.ofString "self", .ref G), (Str.ofString "element", .ref e'), (Str.ofString "is_empty", .bool false)]) ?ho ?hcd ?hb ?hl ?hd ?_ ?c2 ?c3 ?c4 ?c5
  (case ho => k_is)
  (case hcd => k_is)
  (case hb => (intro s0 hX0; exact BindsTo.of_eq rfl))
  (case hl => exact locs rfl)
  (case hd => first | decide | omega)
  (case c2 => exact rfl)
  (case c3 => exact rfl)
  (case c4 => exact rfl)
  (case c5 => decide)
  intro dp un gd l base g s Q E L' h₁ hdp hun B F N hlt X TP hL hret herr
  (try dsimp only)
  (try k_fold)
  k_steps
  refine' hret _ ([(G, instObj 202 gx), (gx, grD w k1 k2 (.ref e') ol), (ol, W.listOf (Array.push #[] (.ref e')) (n + 1))]) _ _ (Fr.keep (by assumption)) (own_takes (by assumption) ?tk9) (size_of (by assumption) hL) ?_
  (case tk9 => walk_at "use:takes")
  exact ⟨rfl, rfl⟩
set_option maxHeartbeats 8000000 in
theorem put_two {e0 : Addr} {b : Bool} :
    Fn prog w p loose mean mg mb 185 3 40 [.ref G, .ref e', .bool b] (grO w G gx k1 k2 (.ref e0) ol #[] n) (fun _ r o => False) True := by
  refine' Fn.intro (binds := [(Str.ofString "self", .ref G), (Str.ofString "element", .ref e'), (Str.ofString "is_empty", .bool b)]) ?ho ?hcd ?hb ?hl ?hd ?_ ?c2 ?c3 ?c4 ?c5
  (case ho => k_is)
  (case hcd => k_is)
  (case hb => (intro s0 hX0; exact BindsTo.of_eq rfl))
  (case hl => exact locs rfl)
  (case hd => first | decide | omega)
  (case c2 => exact rfl)
  (case c3 => exact rfl)
  (case c4 => exact rfl)
  (case c5 => decide)
  intro dp un gd l base g s Q E L' h₁ hdp hun B F N hlt X TP hL hret herr
  (try dsimp only)
  (try k_fold)
  k_steps
  all_goals (refine herr _ _ _ (by assumption) trivial)
set_option maxHeartbeats 8000000 in
theorem end_ok (h1 : ∀ q ∈ [G, gx, e, ed], q ≠ ol) (hi : its.size < 1000) (hx : (nm != x) = false) :
    Fn prog w p loose mean mg mb 192 3 40 [.ref G, .str x tx] (grO w G gx k1 k2 vo ol (its.push (.ref e)) n ++ [(e, instObj 71 ed), (ed, elD w nm a1 a2 a3 a4 tn kd cl y ty)])
      (fun _ r o => r = .none ∧ o = grO w G gx k1 k2 vo ol its (n + 1) ++ [(e, instObj 71 ed), (ed, elD w nm a1 a2 a3 a4 tn kd cl y ty)]) False := by
  simp only [List.forall_mem_cons] at h1
  obtain ⟨f1, f2, f3, f4, _⟩ := h1
  refine' Fn.intro (binds := [(Str.ofString "self", .ref G), (Str.ofString "name", .str x tx)]) ?ho ?hcd ?hb ?hl ?hd ?_ ?c2 ?c3 ?c4 ?c5
  (case ho => k_is)
  (case hcd => k_is)
  (case hb => (intro s0 hX0; exact BindsTo.of_eq rfl))
  (case hl => exact locs rfl)
  (case hd => first | decide | omega)
  (case c2 => exact rfl)
  (case c3 => exact rfl)
  (case c4 => exact rfl)
  (case c5 => decide)
  intro dp un gd l base g s Q E L' h₁ hdp hun B F N hlt X TP hL hret herr
  (try dsimp only)
  (try k_fold)
  simp only [List.cons_append, List.nil_append] at N
  k_steps
  refine' hret _ ([(G, instObj 202 gx), (gx, grD w k1 k2 vo ol), (ol, W.listOf its (n + 1)), (e, instObj 71 ed), (ed, elD w nm a1 a2 a3 a4 tn kd cl y ty)]) _ _ (Fr.keep (by assumption)) (own_takes (by assumption) ?tk9) (size_of (by assumption) hL) ?_
  (case tk9 => walk_at "use:takes")
  exact ⟨rfl, rfl⟩
set_option maxHeartbeats 8000000 in
theorem end_other (hx : (nm != x) = true) (hxl : x.length ≤ 100000) :
    Fn prog w p loose mean mg mb 192 3 40 [.ref G, .str x tx] (grO w G gx k1 k2 vo ol (its.push (.ref e)) n ++ [(e, instObj 71 ed), (ed, elD w nm a1 a2 a3 a4 tn kd cl y ty)]) (fun _ r o => False) True := by
  refine' Fn.intro (binds := [(Str.ofString "self", .ref G), (Str.ofString "name", .str x tx)]) ?ho ?hcd ?hb ?hl ?hd ?_ ?c2 ?c3 ?c4 ?c5
  (case ho => k_is)
  (case hcd => k_is)
  (case hb => (intro s0 hX0; exact BindsTo.of_eq rfl))
  (case hl => exact locs rfl)
  (case hd => first | decide | omega)
  (case c2 => exact rfl)
  (case c3 => exact rfl)
  (case c4 => exact rfl)
  (case c5 => decide)
  intro dp un gd l base g s Q E L' h₁ hdp hun B F N hlt X TP hL hret herr
  (try dsimp only)
  (try k_fold)
  simp only [List.cons_append, List.nil_append] at N
  k_steps
  all_goals (refine herr _ _ _ (by assumption) trivial)
set_option maxHeartbeats 8000000 in
theorem end_none (hxl : x.length ≤ 100000) :
    Fn prog w p loose mean mg mb 192 3 40 [.ref G, .str x tx] (grO w G gx k1 k2 vo ol #[] n) (fun _ r o => False) True := by
  refine' Fn.intro (binds := [(Str.ofString "self", .ref G), (Str.ofString "name", .str x tx)]) ?ho ?hcd ?hb ?hl ?hd ?_ ?c2 ?c3 ?c4 ?c5
  (case ho => k_is)
  (case hcd => k_is)
  (case hb => (intro s0 hX0; exact BindsTo.of_eq rfl))
  (case hl => exact locs rfl)
  (case hd => first | decide | omega)
  (case c2 => exact rfl)
  (case c3 => exact rfl)
  (case c4 => exact rfl)
  (case c5 => decide)
  intro dp un gd l base g s Q E L' h₁ hdp hun B F N hlt X TP hL hret herr
  (try dsimp only)
  (try k_fold)
  k_steps
  all_goals (refine herr _ _ _ (by assumption) trivial)
end
end
end
section
/-- what is read of a document type -/
inductive RDoc : List Nat → List Nat → Prop
  | plain {R : List Nat} {k : Nat} : fnd [62] R = some k → (R.take k).contains 91 = false → RDoc R (R.drop (k + 1))
  | brk {R : List Nat} {k j m : Nat} : fnd [62] R = some k → (R.take k).contains 91 = true → (R.take k).contains 93 = false → fnd [93] (R.drop (k + 1)) = some j → fnd [62] ((R.drop (k + 1)).drop (j + 1)) = some m → RDoc R (((R.drop (k + 1)).drop (j + 1)).drop (m + 1))
/-- a piece that leaves no trace -/
inductive RSkip : List Nat → List Nat → Prop
  | cm {R R1 : List Nat} {k : Nat} : strip [33, 45, 45] R = some R1 → fnd [45, 45, 62] R1 = some k → RSkip R (R1.drop (k + 3))
  | dt {R R1 R' : List Nat} : strip [33, 45, 45] R = none → strip [33, 91, 67, 68, 65, 84, 65, 91] R = none → strip [33, 68, 79, 67, 84, 89, 80, 69] R = some R1 → RDoc R1 R' → RSkip R R'
  | pi {R R1 : List Nat} {k : Nat} : strip [33, 45, 45] R = none → strip [33, 91, 67, 68, 65, 84, 65, 91] R = none → strip [33, 68, 79, 67, 84, 89, 80, 69] R = none → strip [63] R = some R1 → fnd [63, 62] R1 = some k → RSkip R (R1.drop (k + 2))
/-- nothing of what begins a piece, but an element -/
structure NoPre (R : List Nat) : Prop where
  n1 : strip [33, 45, 45] R = none
  n2 : strip [33, 91, 67, 68, 65, 84, 65, 91] R = none
  n3 : strip [33, 68, 79, 67, 84, 89, 80, 69] R = none
  n4 : strip [63] R = none

/-- an element that has been read -/
inductive Tr where
  | mk (nm : List Nat) (as : Ats) (kids : List Tr) (tx : List Nat)
/-- an element that is open -/
structure Nd where
  nm : List Nat
  as : Ats
  kids : List Tr
  tx : List Nat
noncomputable def Nd.close (n : Nd) : Tr := .mk n.nm n.as n.kids n.tx
/-- the reader's state -/
inductive PS where
  | start
  | opn (n : Nd) (r : List Nd)
  | done (t : Tr)
noncomputable def PS.pop (n : Nd) : List Nd → PS
  | [] => .done n.close
  | m :: r => .opn { m with kids := m.kids ++ [n.close] } r

/-- the text ahead of the next sign "<" -/
inductive RTxt : List Nat → PS → Option (List Nat × PS) → Prop
  | none {R : List Nat} {ps : PS} : fnd [60] R = some 0 → RTxt R ps (some (R, ps))
  | opn {R y : List Nat} {k : Nat} {n : Nd} {r : List Nd} : (fnd [60] R).getD R.length = k → 0 < k → Unesc (R.take k) (some y) → n.tx.length ≤ 50000 → y.length ≤ 50000 → RTxt R (.opn n r) (some (R.drop k, .opn { n with tx := n.tx ++ y } r))
  | bad {R : List Nat} {k : Nat} {ps : PS} : (fnd [60] R).getD R.length = k → 0 < k → Unesc (R.take k) none → RTxt R ps none
  | blankS {R : List Nat} {k : Nat} : (fnd [60] R).getD R.length = k → 0 < k → Unesc (R.take k) (some [10]) → RTxt R .start (some (R.drop k, .start))
  | blankD {R : List Nat} {k : Nat} {t : Tr} : (fnd [60] R).getD R.length = k → 0 < k → Unesc (R.take k) (some [10]) → RTxt R (.done t) (some (R.drop k, .done t))
  | outS {R : List Nat} {k : Nat} {y : List Nat} : (fnd [60] R).getD R.length = k → 0 < k → Unesc (R.take k) (some y) → y = [120] ∨ y = [10, 120] → RTxt R .start none
  | outD {R : List Nat} {k : Nat} {y : List Nat} {t : Tr} : (fnd [60] R).getD R.length = k → 0 < k → Unesc (R.take k) (some y) → y = [120] ∨ y = [10, 120] → RTxt R (.done t) none

/-- the piece behind the sign "<" -/
inductive RPie : List Nat → PS → Option (List Nat × PS) → Prop
  | skip {R R' : List Nat} {ps : PS} : RSkip R R' → RPie R ps (some (R', ps))
  | cmBad {R R1 : List Nat} {ps : PS} : strip [33, 45, 45] R = some R1 → fnd [45, 45, 62] R1 = none → RPie R ps none
  | cdata {R R1 : List Nat} {k : Nat} {n : Nd} {r : List Nd} : strip [33, 45, 45] R = none → strip [33, 91, 67, 68, 65, 84, 65, 91] R = some R1 → fnd [93, 93, 62] R1 = some k → n.tx.length ≤ 50000 →
      RPie R (.opn n r) (some (R1.drop (k + 3), .opn { n with tx := n.tx ++ R1.take k } r))
  | endOk {R R1 R' : List Nat} {n : Nd} {r : List Nd} : NoPre R → strip [47] R = some R1 → R1.takeWhile isN ≠ [] → strip [62] ((R1.dropWhile isN).dropWhile isB) = some R' → n.nm = R1.takeWhile isN → r.length ≤ 100 → (∀ m ∈ r, m.kids.length ≤ 100) → RPie R (.opn n r) (some (R', .pop n r))
  | endBad {R R1 : List Nat} {ps : PS} : NoPre R → strip [47] R = some R1 → R1.takeWhile isN ≠ [] → strip [62] ((R1.dropWhile isN).dropWhile isB) = none → RPie R ps none
  | endOther {R R1 R' : List Nat} {n : Nd} {r : List Nd} : NoPre R → strip [47] R = some R1 → R1.takeWhile isN ≠ [] → strip [62] ((R1.dropWhile isN).dropWhile isB) = some R' → n.nm ≠ R1.takeWhile isN → RPie R (.opn n r) none
  | endD {R R1 R' : List Nat} {t : Tr} : NoPre R → strip [47] R = some R1 → R1.takeWhile isN ≠ [] → strip [62] ((R1.dropWhile isN).dropWhile isB) = some R' → RPie R (.done t) none
  | stBad {R : List Nat} {ps : PS} : NoPre R → strip [47] R = none → R.takeWhile isN ≠ [] → RTagL (R.dropWhile isN) [] none → RPie R ps none
  | stTwo {R R' : List Nat} {as : Ats} {em : Bool} {t : Tr} : NoPre R → strip [47] R = none → R.takeWhile isN ≠ [] → RTagL (R.dropWhile isN) [] (some (R', as, em)) → RPie R (.done t) none
  | stOutCl {R R' : List Nat} {as : Ats} : NoPre R → strip [47] R = none → R.takeWhile isN ≠ [] → RTagL (R.dropWhile isN) [] (some (R', as, true)) → RPie R .start (some (R', .done (.mk (R.takeWhile isN) as [] [])))
  | stOutOp {R R' : List Nat} {as : Ats} : NoPre R → strip [47] R = none → R.takeWhile isN ≠ [] → RTagL (R.dropWhile isN) [] (some (R', as, false)) → RPie R .start (some (R', .opn ⟨R.takeWhile isN, as, [], []⟩ []))
  | stTopCl {R R' : List Nat} {as : Ats} {n : Nd} {r : List Nd} : NoPre R → strip [47] R = none → R.takeWhile isN ≠ [] → RTagL (R.dropWhile isN) [] (some (R', as, true)) → n.kids.length ≤ 100 →
      RPie R (.opn n r) (some (R', .opn { n with kids := n.kids ++ [.mk (R.takeWhile isN) as [] []] } r))
  | stTopOp {R R' : List Nat} {as : Ats} {n : Nd} {r : List Nd} : NoPre R → strip [47] R = none → R.takeWhile isN ≠ [] → RTagL (R.dropWhile isN) [] (some (R', as, false)) → n.kids.length ≤ 100 → r.length ≤ 100 →
      RPie R (.opn n r) (some (R', .opn ⟨R.takeWhile isN, as, [], []⟩ (n :: r)))

/-- what comes of reading R from a state on; none: it is refused -/
inductive Pz : List Nat → PS → Option Tr → Prop
  | ok {t : Tr} : Pz [] (.done t) (some t)
  | nothing : Pz [] .start none
  | left {n : Nd} {r : List Nd} : n.nm.length ≤ 1000 → Pz [] (.opn n r) none
  | bad1 {R : List Nat} {ps : PS} : R ≠ [] → RTxt R ps none → Pz R ps none
  | text {R : List Nat} {ps ps1 : PS} {res : Option Tr} : R ≠ [] → RTxt R ps (some ([], ps1)) → Pz [] ps1 res → Pz R ps res
  | bad2 {R R1 : List Nat} {ps ps1 : PS} : R ≠ [] → RTxt R ps (some (60 :: R1, ps1)) → RPie R1 ps1 none → Pz R ps none
  | turn {R R1 R2 : List Nat} {ps ps1 ps2 : PS} {res : Option Tr} : R ≠ [] → RTxt R ps (some (60 :: R1, ps1)) → RPie R1 ps1 (some (R2, ps2)) → R2.length < R.length → Pz R2 ps2 res → Pz R ps res

mutual
/-- the ledger bears an element -/
inductive ElIn (prog : Program) (w : World) (X : List (Addr × Obj)) : Addr → Tr → Prop
  | mk {e ed cl kd : Addr} {nm tx : List Nat} {as : Ats} {kids : List Tr} {a1 a2 a3 a4 tn ty : Tok} {ko : Obj} {kv : Array Value} {kn : Nat} :
      (e, instObj 71 ed) ∈ X → (ed, elD w (txt nm) a1 a2 a3 a4 tn kd cl (txt tx) ty) ∈ X → (cl, W.listOf kv kn) ∈ X → (kd, ko) ∈ X → AtD prog w ko as → (kd == sysModules) = false → ElsIn prog w X kv.toList kids → ElIn prog w X e (.mk nm as kids tx)
inductive ElsIn (prog : Program) (w : World) (X : List (Addr × Obj)) : List Value → List Tr → Prop
  | nil : ElsIn prog w X [] []
  | cons {e : Addr} {t : Tr} {vs : List Value} {ts : List Tr} : ElIn prog w X e t → ElsIn prog w X vs ts → ElsIn prog w X (.ref e :: vs) (t :: ts)
end
section
variable {prog : Program} {w : World}
mutual
theorem ElIn.mono {X Y : List (Addr × Obj)} (h : ∀ p ∈ X, p ∈ Y) : ∀ {e : Addr} {t : Tr}, ElIn prog w X e t → ElIn prog w Y e t
  | _, _, .mk h1 h2 h3 h4 h5 h6 h7 => .mk (h _ h1) (h _ h2) (h _ h3) (h _ h4) h5 h6 (ElsIn.mono h h7)
theorem ElsIn.mono {X Y : List (Addr × Obj)} (h : ∀ p ∈ X, p ∈ Y) : ∀ {vs : List Value} {ts : List Tr}, ElsIn prog w X vs ts → ElsIn prog w Y vs ts
  | _, _, .nil => .nil
  | _, _, .cons h1 h2 => .cons (ElIn.mono h h1) (ElsIn.mono h h2)
end
theorem ElsIn.snoc {X : List (Addr × Obj)} {e : Addr} {t : Tr} (h1 : ElIn prog w X e t) : ∀ {vs : List Value} {ts : List Tr}, ElsIn prog w X vs ts → ElsIn prog w X (vs ++ [.ref e]) (ts ++ [t])
  | _, _, .nil => .cons h1 .nil
  | _, _, .cons h2 h3 => .cons h2 (ElsIn.snoc h1 h3)
theorem ElsIn.len {X : List (Addr × Obj)} : ∀ {vs : List Value} {ts : List Tr}, ElsIn prog w X vs ts → vs.length = ts.length
  | _, _, .nil => rfl
  | _, _, .cons _ h => congrArg (· + 1) (ElsIn.len h)

/-- an open element with its objects -/
structure Sg where
  e : Addr
  ed : Addr
  cl : Addr
  kd : Addr
  ko : Obj
  nd : Nd
  kv : Array Value
  kn : Nat
  a1 : Tok
  a2 : Tok
  a3 : Tok
  a4 : Tok
  tn : Tok
  ty : Tok
  K : List (Addr × Obj)
noncomputable abbrev Sg.dict (w : World) (s : Sg) : Obj := elD w (txt s.nd.nm) s.a1 s.a2 s.a3 s.a4 s.tn s.kd s.cl (txt s.nd.tx) s.ty
noncomputable def Sg.kids (s : Sg) : Option Addr → Array Value
  | none => s.kv
  | some c => s.kv.push (.ref c)
noncomputable def stkL (w : World) : Option Addr → List Sg → List (Addr × Obj)
  | _, [] => []
  | ch, s :: r => (s.e, instObj 71 s.ed) :: (s.ed, s.dict w) :: (s.cl, W.listOf (s.kids ch) s.kn) :: (s.K ++ stkL w (some s.e) r)
noncomputable def stkV : List Sg → Array Value
  | [] => #[]
  | s :: r => (stkV r).push (.ref s.e)
theorem stkV_size : ∀ r : List Sg, (stkV r).size = r.length
  | [] => rfl
  | s :: r => by simp [stkV, stkV_size r]
noncomputable def botE (s : Sg) : List Sg → Addr
  | [] => s.e
  | s' :: r => botE s' r

structure SgOk (prog : Program) (w : World) (s : Sg) (lo hi : Nat) : Prop where
  b1 : @LE.le Nat _ lo s.ed
  b2 : @LT.lt Nat _ s.ed s.e
  b3 : @LT.lt Nat _ s.e s.cl
  b4 : @LT.lt Nat _ s.cl hi
  bK : ∀ p ∈ s.K, @LE.le Nat _ lo p.1 ∧ (@LT.lt Nat _ p.1 s.ed ∨ @LT.lt Nat _ s.cl p.1) ∧ @LT.lt Nat _ p.1 hi
  kd : (s.kd, s.ko) ∈ s.K
  at_ : AtD prog w s.ko s.nd.as
  sys : (s.kd == sysModules) = false
  kids : ElsIn prog w s.K s.kv.toList s.nd.kids
inductive StkOk (prog : Program) (w : World) (base : Nat) : List Sg → Nat → Prop
  | nil {hi : Nat} : base ≤ hi → StkOk prog w base [] hi
  | cons {s : Sg} {r : List Sg} {lo hi : Nat} : SgOk prog w s lo hi → StkOk prog w base r lo → StkOk prog w base (s :: r) hi

theorem SgOk.up {s : Sg} {lo hi hi' : Nat} (h : SgOk prog w s lo hi) (le : hi ≤ hi') : SgOk prog w s lo hi' :=
  ⟨h.b1, h.b2, h.b3, Nat.lt_of_lt_of_le h.b4 le, fun p hp => ⟨(h.bK p hp).1, (h.bK p hp).2.1, Nat.lt_of_lt_of_le (h.bK p hp).2.2 le⟩, h.kd, h.at_, h.sys, h.kids⟩
theorem StkOk.le {base : Nat} : ∀ {r : List Sg} {hi : Nat}, StkOk prog w base r hi → base ≤ hi
  | _, _, .nil h => h
  | _, _, .cons h1 h2 => by
    have a := h2.le
    have b := h1.b1
    have c := h1.b2
    have d := h1.b3
    have e := h1.b4
    omega
theorem StkOk.up {base hi hi' : Nat} {r : List Sg} (h : StkOk prog w base r hi) (le : hi ≤ hi') : StkOk prog w base r hi' := by
  cases h with
  | nil h => exact .nil (Nat.le_trans h le)
  | cons h1 h2 => exact .cons (h1.up le) h2
theorem StkOk.mem {base : Nat} : ∀ {r : List Sg} {hi : Nat} {ch : Option Addr}, StkOk prog w base r hi → ∀ p ∈ stkL w ch r, @LE.le Nat _ base p.1 ∧ @LT.lt Nat _ p.1 hi
  | _, _, _, .nil _, p, hp => nomatch hp
  | _, _, _, .cons (s := s) (r := r) h1 h2, p, hp => by
    have a := h2.le
    have b1 := h1.b1
    have b2 := h1.b2
    have b3 := h1.b3
    have b4 := h1.b4
    simp only [stkL, List.mem_cons, List.mem_append] at hp
    rcases hp with rfl | rfl | rfl | hp | hp
    · dsimp only; omega
    · dsimp only; omega
    · dsimp only; omega
    · have := h1.bK p hp; omega
    · have := h2.mem p hp; omega
/-- the bound may be drawn in to what all places are below -/
theorem StkOk.tight {base hi b : Nat} {s : Sg} {r : List Sg} {ch : Option Addr} (h : StkOk prog w base (s :: r) hi) (hb : ∀ p ∈ stkL w ch (s :: r), p.1 < b) : StkOk prog w base (s :: r) b := by
  cases h with
  | cons h1 h2 =>
    refine .cons ⟨h1.b1, h1.b2, h1.b3, hb (s.cl, W.listOf (s.kids ch) s.kn) (.tail _ (.tail _ (.head _))), fun p hp => ⟨(h1.bK p hp).1, (h1.bK p hp).2.1, hb p (by simp [stkL, hp])⟩, h1.kd, h1.at_, h1.sys, h1.kids⟩ h2
/-- what stands below the top's own three objects is apart from them -/
theorem StkOk.apart {base hi : Nat} {s : Sg} {r : List Sg} {ch : Option Addr} (h : StkOk prog w base (s :: r) hi) : ∀ p ∈ s.K ++ stkL w ch r, @LE.le Nat _ base p.1 ∧ (@LT.lt Nat _ p.1 s.ed ∨ @LT.lt Nat _ s.cl p.1) := by
  cases h with
  | cons h1 h2 =>
    intro p hp
    have a := h2.le
    have b1 := h1.b1
    rcases List.mem_append.mp hp with hp | hp
    · have := h1.bK p hp; omega
    · have := h2.mem p hp; omega
theorem StkOk.top {base hi : Nat} {s : Sg} {r : List Sg} (h : StkOk prog w base (s :: r) hi) : @LE.le Nat _ base s.ed ∧ @LT.lt Nat _ s.ed s.e ∧ @LT.lt Nat _ s.e s.cl ∧ @LT.lt Nat _ s.cl hi := by
  cases h with
  | cons h1 h2 =>
    have a := h2.le
    have b1 := h1.b1
    exact ⟨by omega, h1.b2, h1.b3, h1.b4⟩
/-- the top closed: an element -/
theorem SgOk.close {s : Sg} {lo hi : Nat} (h : SgOk prog w s lo hi) : ElIn prog w ((s.e, instObj 71 s.ed) :: (s.ed, s.dict w) :: (s.cl, W.listOf s.kv s.kn) :: s.K) s.e s.nd.close :=
  .mk (.head _) (.tail _ (.head _)) (.tail _ (.tail _ (.head _))) (.tail _ (.tail _ (.tail _ h.kd))) h.at_ h.sys (h.kids.mono fun p hp => .tail _ (.tail _ (.tail _ hp)))
/-- the top closed and handed to the element below -/
noncomputable def Sg.take (w : World) (s2 s : Sg) : Sg := { s2 with nd := { s2.nd with kids := s2.nd.kids ++ [s.nd.close] }, kv := s2.kv.push (.ref s.e), K := (s.e, instObj 71 s.ed) :: (s.ed, s.dict w) :: (s.cl, W.listOf s.kv s.kn) :: (s.K ++ s2.K) }
theorem StkOk.popped {base hi : Nat} {s s2 : Sg} {r : List Sg} (h : StkOk prog w base (s :: s2 :: r) hi) : StkOk prog w base (s2.take w s :: r) hi := by
  cases h with
  | cons h1 h2 =>
    rename_i lo
    cases h2 with
    | cons h3 h4 =>
      rename_i lo2
      have b1 := h1.b1
      have b2 := h1.b2
      have b3 := h1.b3
      have b4 := h1.b4
      have c1 := h3.b1
      have c2 := h3.b2
      have c3 := h3.b3
      have c4 := h3.b4
      refine .cons (lo := lo2) ⟨h3.b1, h3.b2, h3.b3, Nat.lt_of_lt_of_le c4 (Nat.le_trans b1 (Nat.le_of_lt (Nat.lt_trans b2 (Nat.lt_trans b3 b4)))), fun p hp => ?_, ?_, h3.at_, h3.sys, ?_⟩ h4
      · show @LE.le Nat _ lo2 p.1 ∧ (@LT.lt Nat _ p.1 s2.ed ∨ @LT.lt Nat _ s2.cl p.1) ∧ @LT.lt Nat _ p.1 hi
        have f : ∀ x : Nat, lo ≤ x → x < hi → (@LE.le Nat _ lo2 x ∧ (@LT.lt Nat _ x s2.ed ∨ @LT.lt Nat _ s2.cl x) ∧ x < hi) := fun x a b =>
          ⟨Nat.le_trans (Nat.le_trans c1 (Nat.le_of_lt (Nat.lt_trans c2 (Nat.lt_trans c3 c4)))) a, .inr (Nat.lt_of_lt_of_le c4 a), b⟩
        have d2 := Nat.le_trans b1 (Nat.le_of_lt b2)
        have u2 := Nat.lt_trans b3 b4
        simp only [Sg.take, List.mem_cons, List.mem_append] at hp
        rcases hp with rfl | rfl | rfl | hp | hp
        · exact f _ d2 u2
        · exact f _ b1 (Nat.lt_trans b2 u2)
        · exact f _ (Nat.le_trans d2 (Nat.le_of_lt b3)) b4
        · have := h1.bK p hp
          exact f _ this.1 this.2.2
        · have := h3.bK p hp
          exact ⟨this.1, this.2.1, Nat.lt_of_lt_of_le this.2.2 (Nat.le_trans d2 (Nat.le_of_lt u2))⟩
      · exact List.mem_cons_of_mem _ (List.mem_cons_of_mem _ (List.mem_cons_of_mem _ (List.mem_append_right _ h3.kd)))
      · show ElsIn prog w (s2.take w s).K (s2.kv.push (.ref s.e)).toList (s2.nd.kids ++ [s.nd.close])
        rw [Array.toList_push]
        refine ElsIn.snoc (h1.close.mono fun p hp => ?_) (h3.kids.mono fun p hp => ?_)
        · simp only [Sg.take, List.mem_cons, List.mem_append] at hp ⊢
          rcases hp with hp | hp | hp | hp <;> simp [hp]
        · simp only [Sg.take, List.mem_cons, List.mem_append]; simp [hp]
/-- a new child that is closed -/
noncomputable def Sg.leaf (w : World) (s : Sg) (e' ed' cl' kd' : Addr) (ko' : Obj) (nm : List Nat) (as : Ats) (a1 a2 a3 a4 tn ty : Tok) : Sg :=
  { s with nd := { s.nd with kids := s.nd.kids ++ [.mk nm as [] []] }, kv := s.kv.push (.ref e'), kn := s.kn + 1, K := (cl', W.listOf #[] 0) :: (e', instObj 71 ed') :: (ed', elD w (txt nm) a1 a2 a3 a4 tn kd' cl' (Str.ofString "") ty) :: (kd', ko') :: s.K }
theorem txt_nil : txt [] = Str.ofString "" := by decide +kernel
theorem leaf_in {e' ed' cl' kd' : Addr} {ko' : Obj} {nm : List Nat} {as : Ats} {a1 a2 a3 a4 tn ty : Tok} (hA : AtD prog w ko' as) (hs : (kd' == sysModules) = false) (X : List (Addr × Obj)) :
    ElIn prog w ((cl', W.listOf #[] 0) :: (e', instObj 71 ed') :: (ed', elD w (txt nm) a1 a2 a3 a4 tn kd' cl' (Str.ofString "") ty) :: (kd', ko') :: X) e' (.mk nm as [] []) :=
  .mk (ed := ed') (a1 := a1) (a2 := a2) (a3 := a3) (a4 := a4) (tn := tn) (ty := ty) (.tail _ (.head _)) (by rw [txt_nil]; exact .tail _ (.tail _ (.head _))) (.head _) (.tail _ (.tail _ (.tail _ (.head _)))) hA hs .nil
theorem StkOk.leaf {base hi hi' : Nat} {s : Sg} {r : List Sg} {e' ed' cl' kd' : Addr} {ko' : Obj} {nm : List Nat} {as : Ats} {a1 a2 a3 a4 tn ty : Tok} (h : StkOk prog w base (s :: r) hi) (hA : AtD prog w ko' as) (hs : (kd' == sysModules) = false)
    (b1 : hi ≤ kd') (b2 : kd' < ed') (b3 : ed' < e') (b4 : e' < cl') (b5 : cl' < hi') : StkOk prog w base (s.leaf w e' ed' cl' kd' ko' nm as a1 a2 a3 a4 tn ty :: r) hi' := by
  replace b1 : (hi : Nat) ≤ kd' := b1
  replace b2 : @LT.lt Nat _ kd' ed' := b2
  replace b3 : @LT.lt Nat _ ed' e' := b3
  replace b4 : @LT.lt Nat _ e' cl' := b4
  replace b5 : @LT.lt Nat _ cl' hi' := b5
  cases h with
  | cons h1 h2 =>
    rename_i lo
    have c1 := h1.b1
    have c2 := h1.b2
    have c3 := h1.b3
    have c4 := h1.b4
    refine .cons (lo := lo) ⟨h1.b1, h1.b2, h1.b3, Nat.lt_of_lt_of_le c4 (Nat.le_trans b1 (Nat.le_of_lt (Nat.lt_trans b2 (Nat.lt_trans b3 (Nat.lt_trans b4 b5))))), fun p hp => ?_, ?_, h1.at_, h1.sys, ?_⟩ h2
    · show @LE.le Nat _ lo p.1 ∧ (@LT.lt Nat _ p.1 s.ed ∨ @LT.lt Nat _ s.cl p.1) ∧ @LT.lt Nat _ p.1 hi'
      have f : ∀ x : Nat, hi ≤ x → x < hi' → (@LE.le Nat _ lo x ∧ (@LT.lt Nat _ x s.ed ∨ @LT.lt Nat _ s.cl x) ∧ x < hi') := fun x a b =>
        ⟨Nat.le_trans (Nat.le_trans c1 (Nat.le_of_lt (Nat.lt_trans c2 (Nat.lt_trans c3 c4)))) a, .inr (Nat.lt_of_lt_of_le c4 a), b⟩
      have d2 := Nat.le_trans b1 (Nat.le_of_lt b2)
      have d3 := Nat.le_trans d2 (Nat.le_of_lt b3)
      have d4 := Nat.le_trans d3 (Nat.le_of_lt b4)
      have u3 := Nat.lt_trans b4 b5
      have u2 := Nat.lt_trans b3 u3
      simp only [Sg.leaf, List.mem_cons] at hp
      rcases hp with rfl | rfl | rfl | rfl | hp
      · exact f _ d4 b5
      · exact f _ d3 u3
      · exact f _ d2 u2
      · exact f _ b1 (Nat.lt_trans b2 u2)
      · have := h1.bK p hp
        exact ⟨this.1, this.2.1, Nat.lt_trans this.2.2 (Nat.lt_of_le_of_lt d4 b5)⟩
    · exact List.mem_cons_of_mem _ (List.mem_cons_of_mem _ (List.mem_cons_of_mem _ (List.mem_cons_of_mem _ h1.kd)))
    · show ElsIn prog w (s.leaf w e' ed' cl' kd' ko' nm as a1 a2 a3 a4 tn ty).K (s.kv.push (.ref e')).toList (s.nd.kids ++ [.mk nm as [] []])
      rw [Array.toList_push]
      exact ElsIn.snoc (leaf_in hA hs _) (h1.kids.mono fun p hp => .tail _ (.tail _ (.tail _ (.tail _ hp))))
/-- a new child that is open -/
noncomputable def newSg (e' ed' cl' kd' : Addr) (ko' : Obj) (nm : List Nat) (as : Ats) (a1 a2 a3 a4 tn ty : Tok) : Sg := ⟨e', ed', cl', kd', ko', ⟨nm, as, [], []⟩, #[], 0, a1, a2, a3, a4, tn, ty, [(kd', ko')]⟩
theorem newOk {lo hi' : Nat} {e' ed' cl' kd' : Addr} {ko' : Obj} {nm : List Nat} {as : Ats} {a1 a2 a3 a4 tn ty : Tok} (hA : AtD prog w ko' as) (hs : (kd' == sysModules) = false)
    (b1 : lo ≤ kd') (b2 : kd' < ed') (b3 : ed' < e') (b4 : e' < cl') (b5 : cl' < hi') : SgOk prog w (newSg e' ed' cl' kd' ko' nm as a1 a2 a3 a4 tn ty) lo hi' := by
  replace b1 : (lo : Nat) ≤ kd' := b1
  replace b2 : @LT.lt Nat _ kd' ed' := b2
  replace b3 : @LT.lt Nat _ ed' e' := b3
  replace b4 : @LT.lt Nat _ e' cl' := b4
  replace b5 : @LT.lt Nat _ cl' hi' := b5
  refine ⟨by show @LE.le Nat _ lo ed'; omega, b3, b4, b5, fun p hp => ?_, .head _, hA, hs, .nil⟩
  rw [List.mem_singleton.mp hp]
  show @LE.le Nat _ lo kd' ∧ (@LT.lt Nat _ kd' ed' ∨ @LT.lt Nat _ cl' kd') ∧ @LT.lt Nat _ kd' hi'
  omega
end
end
section
open PyProof.V
/-! lists of places: what lies in what, for any elements (so that each use costs little) -/
section
variable {α : Type} {a b c d e f g h i j : α} {Y T : List α}
theorem sb1 (H : ∀ p ∈ T, p ∈ d :: e :: f :: g :: h :: i :: j :: Y) : ∀ p ∈ [a, b, c] ++ T, p ∈ ([a, b, c] ++ [d, e, f] ++ Y) ++ [g, h, i, j] := fun p hp => by
  have := H p
  simp only [List.cons_append, List.nil_append, List.mem_cons, List.mem_append, List.not_mem_nil, or_false] at this hp ⊢
  rcases hp with k | k | k | k
  · simp [k]
  · simp [k]
  · simp [k]
  · rcases this k with k | k | k | k | k | k | k | k <;> simp [k]
theorem sb2 (H : ∀ p ∈ T, p ∈ d :: e :: f :: Y) : ∀ p ∈ [a, b, c] ++ T, p ∈ [a, b, c] ++ [d, e] ++ f :: Y := fun p hp => by
  have := H p
  simp only [List.cons_append, List.nil_append, List.mem_cons] at this hp ⊢
  rcases hp with k | k | k | k
  · simp [k]
  · simp [k]
  · simp [k]
  · rcases this k with k | k | k | k <;> simp [k]
theorem sb3 : ∀ p ∈ [a, b, c] ++ [d, e] ++ f :: Y, p ∈ [a, b, c] ++ d :: e :: f :: Y := fun _ h => h
theorem sb4 : ∀ p ∈ [a, b, c] ++ [d, e, f] ++ Y, p ∈ [a, b, c] ++ d :: e :: f :: Y := fun _ h => h
theorem sb5 : ∀ p ∈ [a, b, c] ++ [d, e], p ∈ [a, b, c] ++ d :: e :: f :: Y := fun p hp => by
  simp only [List.cons_append, List.nil_append, List.mem_cons, List.not_mem_nil, or_false] at hp ⊢
  rcases hp with k | k | k | k | k <;> simp [k]
theorem sb6 : ∀ p ∈ f :: Y, p ∈ [a, b, c] ++ d :: e :: f :: Y := fun p hp => .tail _ (.tail _ (.tail _ (.tail _ (.tail _ hp))))
theorem sb7 : ∀ p ∈ [a, b, c] ++ [d, e, f], p ∈ [a, b, c] ++ d :: e :: f :: Y := fun p hp => by
  simp only [List.cons_append, List.nil_append, List.mem_cons, List.not_mem_nil, or_false] at hp ⊢
  rcases hp with k | k | k | k | k | k <;> simp [k]
theorem sb8 : ∀ p ∈ Y, p ∈ [a, b, c] ++ d :: e :: f :: Y := fun p hp => .tail _ (.tail _ (.tail _ (.tail _ (.tail _ (.tail _ hp)))))
theorem sb9 (H : ∀ p ∈ T, p ∈ d :: e :: f :: Y) : ∀ p ∈ [a, b, c] ++ T, p ∈ [a, b, c] ++ d :: e :: f :: Y := fun p hp => by
  have := H p
  simp only [List.cons_append, List.nil_append, List.mem_cons] at this hp ⊢
  rcases hp with k | k | k | k
  · exact .inl k
  · exact .inr (.inl k)
  · exact .inr (.inr (.inl k))
  · exact .inr (.inr (.inr (this k)))
theorem sp1 {K K2 R : List α} : ∀ p ∈ d :: e :: f :: ((a :: b :: c :: (K ++ K2)) ++ R), p ∈ a :: b :: c :: (K ++ (d :: e :: f :: (K2 ++ R))) := fun p hp => by
  simp only [List.mem_cons, List.mem_append] at hp ⊢
  rcases hp with k | k | k | (k | k | k | k | k) | k <;> simp [k]
theorem sp2 {R : List α} : ∀ p ∈ a :: b :: c :: ([d] ++ (e :: f :: g :: R)), p ∈ e :: f :: g :: c :: a :: b :: d :: R := fun p hp => by
  simp only [List.mem_cons, List.mem_append, List.not_mem_nil, or_false] at hp ⊢
  rcases hp with k | k | k | k | k | k | k | k <;> simp [k]
theorem sp3 : ∀ p ∈ a :: b :: c :: ([d] ++ []), p ∈ [c, a, b, d] := fun p hp => by
  simp only [List.mem_cons, List.mem_append, List.not_mem_nil, or_false] at hp ⊢
  rcases hp with k | k | k | k <;> simp [k]
end
section
variable {a b c d e f : Addr}
theorem ne5 (h1 : a ≠ f) (h2 : b ≠ f) (h3 : c ≠ f) (h4 : d ≠ f) (h5 : e ≠ f) : ∀ q ∈ [a, b, c, d, e], q ≠ f := by
  intro q hq
  simp only [List.mem_cons, List.not_mem_nil, or_false] at hq
  rcases hq with rfl | rfl | rfl | rfl | rfl <;> assumption
theorem ne4 (h1 : a ≠ f) (h2 : b ≠ f) (h3 : c ≠ f) (h4 : d ≠ f) : ∀ q ∈ [a, b, c, d], q ≠ f := by
  intro q hq
  simp only [List.mem_cons, List.not_mem_nil, or_false] at hq
  rcases hq with rfl | rfl | rfl | rfl <;> assumption
/-- the places of the top and of the growing tree -/
structure TopLt (G gx ol e ed cl : Addr) (bs : Nat) : Prop where
  n2 : G ≠ ol
  n3 : gx ≠ ol
  g1 : @LT.lt Nat _ G bs
  g2 : @LT.lt Nat _ gx bs
  g3 : @LT.lt Nat _ ol bs
  t1 : @LE.le Nat _ bs ed
  t2 : @LT.lt Nat _ ed e
  t3 : @LT.lt Nat _ e cl
variable {G gx ol e ed cl : Addr} {bs : Nat} {o1 o2 o3 o4 o5 o6 : Obj} {Y : List (Addr × Obj)}
theorem TopLt.ed5 (h : TopLt G gx ol e ed cl bs) : G ≠ ed ∧ gx ≠ ed ∧ ol ≠ ed ∧ e ≠ ed := by
  obtain ⟨_, _, g1, g2, g3, t1, t2, t3⟩ := h
  exact ⟨Nat.ne_of_lt (by omega), Nat.ne_of_lt (by omega), Nat.ne_of_lt (by omega), Nat.ne_of_gt t2⟩
theorem TopLt.cl5 (h : TopLt G gx ol e ed cl bs) : ∀ q ∈ [G, gx, ol, e, ed], q ≠ cl := by
  obtain ⟨_, _, g1, g2, g3, t1, t2, t3⟩ := h
  exact ne5 (Nat.ne_of_lt (by omega)) (Nat.ne_of_lt (by omega)) (Nat.ne_of_lt (by omega)) (Nat.ne_of_lt t3) (Nat.ne_of_lt (by omega))
theorem TopLt.ol4 (h : TopLt G gx ol e ed cl bs) : ∀ q ∈ [G, gx, e, ed], q ≠ ol := by
  obtain ⟨n2, n3, g1, g2, g3, t1, t2, t3⟩ := h
  exact ne4 n2 n3 (Nat.ne_of_gt (by omega)) (Nat.ne_of_gt (by omega))
theorem TopLt.ol5 (h : TopLt G gx ol e ed cl bs) : ∀ q ∈ [G, gx, e, ed, cl], q ≠ ol := by
  obtain ⟨n2, n3, g1, g2, g3, t1, t2, t3⟩ := h
  exact ne5 n2 n3 (Nat.ne_of_gt (by omega)) (Nat.ne_of_gt (by omega)) (Nat.ne_of_gt (by omega))
theorem TopLt.ap6 (h : TopLt G gx ol e ed cl bs) (f : ∀ p ∈ Y, @LE.le Nat _ bs p.1 ∧ (@LT.lt Nat _ p.1 ed ∨ @LT.lt Nat _ cl p.1)) : ∀ p ∈ [(G, o1), (gx, o2), (ol, o3)] ++ [(e, o4), (ed, o5), (cl, o6)], ∀ q ∈ Y, q.1 ≠ p.1 := by
  obtain ⟨_, _, g1, g2, g3, t1, t2, t3⟩ := h
  intro p hp q hq z
  have z' : @Eq Nat q.1 p.1 := z
  have := f q hq
  simp only [List.cons_append, List.nil_append, List.mem_cons, List.not_mem_nil, or_false] at hp
  rcases hp with rfl | rfl | rfl | rfl | rfl | rfl <;> dsimp only at z' <;> omega
theorem TopLt.ap5 (h : TopLt G gx ol e ed cl bs) (f : ∀ p ∈ Y, @LE.le Nat _ bs p.1 ∧ (@LT.lt Nat _ p.1 ed ∨ @LT.lt Nat _ cl p.1)) : ∀ p ∈ [(G, o1), (gx, o2), (ol, o3)] ++ [(e, o4), (ed, o5)], ∀ q ∈ (cl, o6) :: Y, q.1 ≠ p.1 := by
  have k := h
  obtain ⟨_, _, g1, g2, g3, t1, t2, t3⟩ := h
  intro p hp q hq
  rcases List.mem_cons.mp hq with rfl | hq
  · intro z
    have z' : @Eq Nat cl p.1 := z
    simp only [List.cons_append, List.nil_append, List.mem_cons, List.not_mem_nil, or_false] at hp
    rcases hp with rfl | rfl | rfl | rfl | rfl <;> dsimp only at z' <;> omega
  · exact k.ap6 (o1 := o1) (o2 := o2) (o3 := o3) (o4 := o4) (o5 := o5) (o6 := o6) f p (by simp only [List.cons_append, List.nil_append, List.mem_cons, List.not_mem_nil, or_false] at hp ⊢; rcases hp with h | h | h | h | h <;> simp [h]) q hq
theorem TopLt.low (h : TopLt G gx ol e ed cl bs) (f : ∀ p ∈ Y, @LE.le Nat _ bs p.1 ∧ (@LT.lt Nat _ p.1 ed ∨ @LT.lt Nat _ cl p.1)) : ∀ p ∈ (e, o4) :: (ed, o5) :: (cl, o6) :: Y, @LE.le Nat _ bs p.1 := by
  obtain ⟨_, _, g1, g2, g3, t1, t2, t3⟩ := h
  intro p hp
  simp only [List.mem_cons] at hp
  rcases hp with rfl | rfl | rfl | hp
  · dsimp only; omega
  · dsimp only; omega
  · dsimp only; omega
  · exact (f p hp).1
theorem out_ap (g1 : @LT.lt Nat _ G bs) (g2 : @LT.lt Nat _ gx bs) (g3 : @LT.lt Nat _ ol bs) (f : ∀ p ∈ Y, @LE.le Nat _ bs p.1) : ∀ p ∈ [(G, o1), (gx, o2), (ol, o3)], ∀ q ∈ Y, q.1 ≠ p.1 := by
  intro p hp q hq z
  have z' : @Eq Nat q.1 p.1 := z
  have := f q hq
  simp only [List.mem_cons, List.not_mem_nil, or_false] at hp
  rcases hp with rfl | rfl | rfl <;> dsimp only at z' <;> omega
end
inductive PsAt (prog : Program) (w : World) (base : Nat) : PS → Value → Array Value → List (Addr × Obj) → Prop
  | start : PsAt prog w base .start .none #[] []
  | opn {s : Sg} {r : List Sg} {hi : Nat} : StkOk prog w base (s :: r) hi → PsAt prog w base (.opn s.nd (r.map Sg.nd)) (.ref (botE s r)) (stkV (s :: r)) (stkL w none (s :: r))
  | done {Z : List (Addr × Obj)} {e : Addr} {t : Tr} : ElIn prog w Z e t → (∀ p ∈ Z, @LE.le Nat _ base p.1) → PsAt prog w base (.done t) (.ref e) #[] Z
theorem PsAt.base {prog : Program} {w : World} {base : Nat} {ps : PS} {vo : Value} {V : Array Value} {tl : List (Addr × Obj)} (h : PsAt prog w base ps vo V tl) : ∀ p ∈ tl, @LE.le Nat _ base p.1 := by
  cases h with
  | start => exact fun _ h => (nomatch h)
  | opn h => exact fun p hp => (h.mem p hp).1
  | done _ h => exact h
section
variable {prog : Program} {w : World} {p : Program} {loose : List Str} {mean : ExcName → Option Value} {mg mb : Str → Option Value}

variable {f : Addr} {d u : Nat} {vs : List Value} {own : List (Addr × Obj)} {Post : Nat → Value → List (Addr × Obj) → Prop} {Rz : Prop}
theorem Fn.weaken {O : List (Addr × Obj)} (H : Fn prog w p loose mean mg mb f d u vs own Post Rz) (h : ∀ p ∈ own, p ∈ O) : Fn prog w p loose mean mg mb f d u vs O Post Rz := by
  intro dp un gd l base g s Q E hdp hun hb hfr hX hT hst hsz hown hret herr
  exact H dp un gd l base g s Q E hdp hun hb hfr hX hT hst hsz (fun q hq => hown q (h q hq)) hret herr
/-- a call of a def turns nothing but its own -/
theorem Fn.framed {l rest : List (Addr × Obj)} (H : Fn prog w p loose mean mg mb f d u vs own Post Rz) (h1 : ∀ p ∈ own, p ∈ l) (h2 : ∀ p ∈ rest, p ∈ l) (h3 : ∀ p ∈ own, ∀ q ∈ rest, q.1 ≠ p.1) :
    Fn prog w p loose mean mg mb f d u vs l (fun b r o => ∃ o', Post b r o' ∧ o = o' ++ rest) Rz := by
  intro dp un gd fs base g s Q E hdp hun hb hfr hX hT hst hsz hown hret herr
  have nm : ∀ b o, g.get? b = some o → b ∉ own.map (·.1) := fun b o e q => by
    obtain ⟨p, hp, rfl⟩ := List.mem_map.mp q
    rw [(hown p (h1 p hp)).2] at e; cases e
  have st : g.StaysIn (hideAll s.heap (own.map (·.1))) := fun b o e => hideAll_get _ (hst b o e) (nm b o e)
  refine H dp un gd fs base (hideAll s.heap (own.map (·.1))) s Q E hdp hun (fun b o e => st b o (hb b o e)) (Heap.FunFrames.of_keeps (fun b o e _ => ⟨o, st b o e, rfl⟩) hfr) (hX.keeps fun b o e => st b o e) (hT.keeps fun b o e => st b o e)
    (fun b o e => of_hideAll _ e) (Nat.le_of_eq (hideAll_size _ _)) (fun p hp => ⟨(hown p (h1 p hp)).1, hideAll_none _ (List.mem_map_of_mem hp)⟩) (fun r own' h' tk' k1 k2 k3 k4 => ?_) herr
  refine hret r (own' ++ rest) h' tk' (fun b o e => k1 b o (st b o e)) (fun q hq => ?_) k3 ⟨own', k4, rfl⟩
  rcases List.mem_append.mp hq with hq | hq
  · refine ⟨(k2 q hq).1, ?_⟩
    cases e : g.get? q.1 with
    | none => rfl
    | some o => have := (k2 q hq).2; rw [st _ _ e] at this; cases this
  · refine ⟨k1 _ _ (hideAll_get _ (hown q (h2 q hq)).1 fun z => ?_), (hown q (h2 q hq)).2⟩
    obtain ⟨q', hq', e⟩ := List.mem_map.mp z
    exact h3 q' hq' q hq e.symm
theorem nm_ne {a b : List Nat} (h : a ≠ b) : (txt a != ⟨b.toArray⟩) = true := by
  rw [bne_iff_ne]
  exact fun e => h (by have := congrArg lst e; simpa [txt, lst] using this)
theorem nm_eq {a b : List Nat} (h : a = b) : (txt a != ⟨b.toArray⟩) = false := by
  subst h
  simp [txt]
theorem kv_size {base hi : Nat} {s : Sg} {r : List Sg} (h : StkOk prog w base (s :: r) hi) (hk : s.nd.kids.length ≤ 100) : s.kv.size < 1000 := by
  cases h with
  | cons h1 h2 =>
    have := h1.kids.len
    rw [Array.length_toList] at this
    omega
section
variable {G gx ol : Addr} {k1 k2 tx : Tok} {vo : Value} {n : Nat}
theorem ptext_blankL : Fn prog w p loose mean mg mb 199 3 40 [.ref G, .str ⟨[10].toArray⟩ tx] (grO w G gx k1 k2 vo ol #[] n) (fun _ r o => r = .none ∧ o = grO w G gx k1 k2 vo ol #[] n) False := by
  rw [show (⟨[10].toArray⟩ : Str) = Str.ofString "\n" from by decide +kernel]; exact ptext_blank
theorem ptext_bad1L : Fn prog w p loose mean mg mb 199 3 40 [.ref G, .str ⟨[120].toArray⟩ tx] (grO w G gx k1 k2 vo ol #[] n) (fun _ r o => False) True := by
  rw [show (⟨[120].toArray⟩ : Str) = Str.ofString "x" from by decide +kernel]; exact ptext_bad1
theorem ptext_bad2L : Fn prog w p loose mean mg mb 199 3 40 [.ref G, .str ⟨[10, 120].toArray⟩ tx] (grO w G gx k1 k2 vo ol #[] n) (fun _ r o => False) True := by
  rw [show (⟨[10, 120].toArray⟩ : Str) = Str.ofString "\nx" from by decide +kernel]; exact ptext_bad2
end
theorem txt_app (a b : List Nat) : txt (a ++ b) = txt a ++ ⟨b.toArray⟩ := by
  apply lst_inj
  rw [lst_app]
  simp [txt, lst]
theorem PsAt.text {bs hi : Nat} {s : Sg} {r : List Sg} (h : StkOk prog w bs (s :: r) hi) (y : List Nat) (ty' : Tok) :
    PsAt prog w bs (.opn { s.nd with tx := s.nd.tx ++ y } (r.map Sg.nd)) (.ref (botE s r)) ((stkV r).push (.ref s.e))
      ((s.e, instObj 71 s.ed) :: (s.ed, elD w (txt s.nd.nm) s.a1 s.a2 s.a3 s.a4 s.tn s.kd s.cl (txt s.nd.tx ++ ⟨y.toArray⟩) ty') :: (s.cl, W.listOf s.kv s.kn) :: (s.K ++ stkL w (some s.e) r)) := by
  have h2 : StkOk prog w bs ({ s with nd := { s.nd with tx := s.nd.tx ++ y }, ty := ty' } :: r) hi := by
    cases h with
    | cons h1 h2 => exact .cons ⟨h1.b1, h1.b2, h1.b3, h1.b4, h1.bK, h1.kd, h1.at_, h1.sys, h1.kids⟩ h2
  have := PsAt.opn h2
  rw [show botE { s with nd := { s.nd with tx := s.nd.tx ++ y }, ty := ty' } r = botE s r from by cases r <;> rfl] at this
  simp only [stkL, Sg.dict, txt_app, stkV, Sg.kids] at this
  exact this
theorem allLt_mem {d : Addr} {l : List (Addr × Obj)} (h : AllLt d l) : ∀ p ∈ l, @LT.lt Nat _ p.1 d := by
  induction l with
  | nil => exact fun _ hp => (nomatch hp)
  | cons a l ih =>
    intro p hp
    rcases List.mem_cons.mp hp with rfl | hp
    · exact h.1
    · exact ih h.2 p hp
theorem StkOk.tight2 {base hi b : Nat} {s : Sg} {r : List Sg} {ch : Option Addr} (h : StkOk prog w base (s :: r) hi) (h1 : @LT.lt Nat _ s.cl b) (h2 : AllLt b (s.K ++ stkL w ch r)) : StkOk prog w base (s :: r) b := by
  cases h with
  | cons h3 h4 => exact .cons ⟨h3.b1, h3.b2, h3.b3, h1, fun p hp => ⟨(h3.bK p hp).1, (h3.bK p hp).2.1, allLt_mem h2 p (List.mem_append_left _ hp)⟩, h3.kd, h3.at_, h3.sys, h3.kids⟩ h4
theorem PsAt.pop {bs hi : Nat} {s : Sg} {r : List Sg} (h : StkOk prog w bs (s :: r) hi) :
    ∃ tl', PsAt prog w bs (.pop s.nd (r.map Sg.nd)) (.ref (botE s r)) (stkV r) tl' ∧ ∀ p ∈ tl', p ∈ (s.e, instObj 71 s.ed) :: (s.ed, s.dict w) :: (s.cl, W.listOf s.kv s.kn) :: (s.K ++ stkL w (some s.e) r) := by
  cases r with
  | nil =>
    have t := h.top
    have m := h.mem (ch := none)
    cases h with
    | cons h1 h2 =>
      refine ⟨_, .done h1.close fun p hp => (m p ?_).1, fun p hp => ?_⟩
      · simp only [stkL, Sg.kids, List.append_nil]; exact hp
      · simp only [stkL, List.append_nil]; exact hp
  | cons s2 r =>
    have q := PsAt.opn h.popped
    rw [show botE (s2.take w s) r = botE s (s2 :: r) from by cases r <;> rfl] at q
    exact ⟨_, q, sp1⟩
section
variable {bs hi hi' : Nat} {s : Sg} {r : List Sg} {e' ed' cl' kd' : Addr} {ko' : Obj} {nm : List Nat} {as : Ats} {a1 a2 a3 a4 tn ty : Tok}
theorem PsAt.leafOut (hA : AtD prog w ko' as) (hs : (kd' == sysModules) = false) (b1 : @LE.le Nat _ bs kd') (b2 : @LT.lt Nat _ kd' ed') (b3 : @LT.lt Nat _ ed' e') (b4 : @LT.lt Nat _ e' cl') :
    PsAt prog w bs (.done (.mk nm as [] [])) (.ref e') #[] [(cl', W.listOf #[] 0), (e', instObj 71 ed'), (ed', elD w (txt nm) a1 a2 a3 a4 tn kd' cl' (Str.ofString "") ty), (kd', ko')] := by
  refine .done (leaf_in hA hs []) fun p hp => ?_
  simp only [List.mem_cons, List.not_mem_nil, or_false] at hp
  rcases hp with rfl | rfl | rfl | rfl <;> dsimp only <;> omega
theorem PsAt.openOut (hA : AtD prog w ko' as) (hs : (kd' == sysModules) = false) (b1 : @LE.le Nat _ bs kd') (b2 : @LT.lt Nat _ kd' ed') (b3 : @LT.lt Nat _ ed' e') (b4 : @LT.lt Nat _ e' cl') :
    ∃ tl', PsAt prog w bs (.opn ⟨nm, as, [], []⟩ []) (.ref e') (Array.push #[] (.ref e')) tl' ∧ ∀ p ∈ tl', p ∈ [(cl', W.listOf #[] 0), (e', instObj 71 ed'), (ed', elD w (txt nm) a1 a2 a3 a4 tn kd' cl' (Str.ofString "") ty), (kd', ko')] := by
  have h := newOk (nm := nm) (a1 := a1) (a2 := a2) (a3 := a3) (a4 := a4) (tn := tn) (ty := ty) hA hs b1 b2 b3 b4 (Nat.lt_succ_self cl')
  refine ⟨_, .opn (.cons h (.nil (Nat.le_refl _))), ?_⟩
  show ∀ p ∈ (e', instObj 71 ed') :: (ed', elD w (txt nm) a1 a2 a3 a4 tn kd' cl' (txt []) ty) :: (cl', W.listOf #[] 0) :: ([(kd', ko')] ++ []), _
  rw [txt_nil]
  exact sp3
theorem PsAt.leafTop (h : StkOk prog w bs (s :: r) hi) (hA : AtD prog w ko' as) (hs : (kd' == sysModules) = false) (b1 : @LE.le Nat _ hi kd') (b2 : @LT.lt Nat _ kd' ed') (b3 : @LT.lt Nat _ ed' e') (b4 : @LT.lt Nat _ e' cl') :
    ∃ tl', PsAt prog w bs (.opn { s.nd with kids := s.nd.kids ++ [.mk nm as [] []] } (r.map Sg.nd)) (.ref (botE s r)) ((stkV r).push (.ref s.e)) tl' ∧
      ∀ p ∈ tl', p ∈ (s.e, instObj 71 s.ed) :: (s.ed, s.dict w) :: (s.cl, W.listOf (s.kv.push (.ref e')) (s.kn + 1)) :: (cl', W.listOf #[] 0) :: (e', instObj 71 ed') :: (ed', elD w (txt nm) a1 a2 a3 a4 tn kd' cl' (Str.ofString "") ty) :: (kd', ko') :: (s.K ++ stkL w (some s.e) r) := by
  have h := h.leaf (nm := nm) (a1 := a1) (a2 := a2) (a3 := a3) (a4 := a4) (tn := tn) (ty := ty) hA hs b1 b2 b3 b4 (Nat.lt_succ_self cl')
  have q := PsAt.opn h
  rw [show botE (s.leaf w e' ed' cl' kd' ko' nm as a1 a2 a3 a4 tn ty) r = botE s r from by cases r <;> rfl] at q
  exact ⟨_, q, fun _ h => h⟩
theorem PsAt.openTop (h : StkOk prog w bs (s :: r) hi) (hA : AtD prog w ko' as) (hs : (kd' == sysModules) = false) (b1 : @LE.le Nat _ hi kd') (b2 : @LT.lt Nat _ kd' ed') (b3 : @LT.lt Nat _ ed' e') (b4 : @LT.lt Nat _ e' cl') :
    ∃ tl', PsAt prog w bs (.opn ⟨nm, as, [], []⟩ (s.nd :: r.map Sg.nd)) (.ref (botE s r)) (((stkV r).push (.ref s.e)).push (.ref e')) tl' ∧
      ∀ p ∈ tl', p ∈ (s.e, instObj 71 s.ed) :: (s.ed, s.dict w) :: (s.cl, W.listOf (s.kv.push (.ref e')) (s.kn + 1)) :: (cl', W.listOf #[] 0) :: (e', instObj 71 ed') :: (ed', elD w (txt nm) a1 a2 a3 a4 tn kd' cl' (Str.ofString "") ty) :: (kd', ko') :: (s.K ++ stkL w (some s.e) r) := by
  have hn := newOk (nm := nm) (a1 := a1) (a2 := a2) (a3 := a3) (a4 := a4) (tn := tn) (ty := ty) hA hs b1 b2 b3 b4 (Nat.lt_succ_self cl')
  have h2 : StkOk prog w bs ({ s with kn := s.kn + 1 } :: r) hi := by
    cases h with
    | cons h1 h2 => exact .cons ⟨h1.b1, h1.b2, h1.b3, h1.b4, h1.bK, h1.kd, h1.at_, h1.sys, h1.kids⟩ h2
  have q := PsAt.opn (.cons hn h2)
  rw [show botE (newSg e' ed' cl' kd' ko' nm as a1 a2 a3 a4 tn ty) ({ s with kn := s.kn + 1 } :: r) = botE s r from by cases r <;> rfl] at q
  refine ⟨_, q, ?_⟩
  show ∀ p ∈ (e', instObj 71 ed') :: (ed', elD w (txt nm) a1 a2 a3 a4 tn kd' cl' (txt []) ty) :: (cl', W.listOf #[] 0) :: ([(kd', ko')] ++ ((s.e, instObj 71 s.ed) :: (s.ed, s.dict w) :: (s.cl, W.listOf (s.kv.push (.ref e')) (s.kn + 1)) :: (s.K ++ stkL w (some s.e) r))), _
  rw [txt_nil]
  exact sp2
end
end
/-- the three places of a Growing: apart, below base -/
structure GApt (G gx ol : Addr) (base : Nat) : Prop where
  n1 : G ≠ gx
  n2 : G ≠ ol
  n3 : gx ≠ ol
  l1 : @LT.lt Nat _ G base
  l2 : @LT.lt Nat _ gx base
  l3 : @LT.lt Nat _ ol base
  sys : @LT.lt Nat _ sysModules base
/-- a ledger that bears the growing tree in the state ps -/
structure GrAt (prog : Program) (w : World) (G gx ol : Addr) (k1 k2 : Tok) (base : Nat) (ps : PS) (O : List (Addr × Obj)) : Prop where
  st : ∃ vo V on tl, PsAt prog w base ps vo V tl ∧ ∀ p ∈ grO w G gx k1 k2 vo ol V on ++ tl, p ∈ O
  loc : ∀ p ∈ O, @LE.le Nat _ base p.1 ∨ p.1 = G ∨ p.1 = gx ∨ p.1 = ol
/-- a place that is no place of the growing tree -/
structure Outside (a G gx ol : Addr) (base : Nat) : Prop where
  lt : @LT.lt Nat _ a base
  n1 : a ≠ G
  n2 : a ≠ gx
  n3 : a ≠ ol
/-- a text handed to the growing tree -/
inductive TxtSt (y : List Nat) : PS → Option PS → Prop
  | opn {n : Nd} {r : List Nd} : y.length + n.tx.length ≤ 1000000 → TxtSt y (.opn n r) (some (.opn { n with tx := n.tx ++ y } r))
  | blankS : y = [10] → TxtSt y .start (some .start)
  | blankD {t : Tr} : y = [10] → TxtSt y (.done t) (some (.done t))
  | outS : y = [120] ∨ y = [10, 120] → TxtSt y .start none
  | outD {t : Tr} : y = [120] ∨ y = [10, 120] → TxtSt y (.done t) none
/-- an end handed to it -/
inductive EndSt (x : List Nat) : PS → Option PS → Prop
  | ok {n : Nd} {r : List Nd} : n.nm = x → r.length ≤ 100 → EndSt x (.opn n r) (some (.pop n r))
  | other {n : Nd} {r : List Nd} : n.nm ≠ x → EndSt x (.opn n r) none
  | done {t : Tr} : EndSt x (.done t) none
/-- an element handed to it -/
inductive PutSt (nm : List Nat) (as : Ats) : Bool → PS → Option PS → Prop
  | outCl : PutSt nm as true .start (some (.done (.mk nm as [] [])))
  | outOp : PutSt nm as false .start (some (.opn ⟨nm, as, [], []⟩ []))
  | topCl {n : Nd} {r : List Nd} : n.kids.length ≤ 100 → PutSt nm as true (.opn n r) (some (.opn { n with kids := n.kids ++ [.mk nm as [] []] } r))
  | topOp {n : Nd} {r : List Nd} : n.kids.length ≤ 100 → r.length ≤ 100 → PutSt nm as false (.opn n r) (some (.opn ⟨nm, as, [], []⟩ (n :: r)))
  | two {t : Tr} {em : Bool} : PutSt nm as em (.done t) none

section
variable {prog : Program} {w : World} {G gx ol : Addr} {k1 k2 : Tok} {base : Nat} {ps : PS} {O : List (Addr × Obj)}
theorem GrAt.ne (h : GrAt prog w G gx ol k1 k2 base ps O) {a : Addr} (ha : Outside a G gx ol base) : NeAll a O := neAll_mk fun p hp e => by
  have h1 := ha.lt
  rcases h.loc p hp with h2 | h2 | h2 | h2
  · have e' : @Eq Nat p.1 a := e
    omega
  · exact ha.n1 (e.symm.trans h2)
  · exact ha.n2 (e.symm.trans h2)
  · exact ha.n3 (e.symm.trans h2)
theorem GrAt.of {vo : Value} {V : Array Value} {on : Nat} {tl T : List (Addr × Obj)} (hP : PsAt prog w base ps vo V tl) (hs : ∀ p ∈ grO w G gx k1 k2 vo ol V on ++ tl, p ∈ O) (hl : ∀ p ∈ O, p ∈ grO w G gx k1 k2 vo ol V on ++ T) (hT : ∀ p ∈ T, @LE.le Nat _ base p.1) :
    GrAt prog w G gx ol k1 k2 base ps O := by
  refine ⟨⟨_, _, _, _, hP, hs⟩, fun p hp => ?_⟩
  have := hl p hp
  simp only [List.cons_append, List.nil_append, List.mem_cons] at this
  rcases this with h | h | h | h
  · exact .inr (.inl (congrArg Prod.fst h))
  · exact .inr (.inr (.inl (congrArg Prod.fst h)))
  · exact .inr (.inr (.inr (congrArg Prod.fst h)))
  · exact .inl (hT p h)
end
section
variable {prog : Program} {w : World} {p : Program} {loose : List Str} {mean : ExcName → Option Value} {mg mb : Str → Option Value}

variable {G gx ol : Addr} {k1 k2 : Tok} {base : Nat} {ps : PS} {o : Option PS} {O : List (Addr × Obj)}
theorem topLt {bs hi : Nat} {s : Sg} {r : List Sg} (hg : GApt G gx ol bs) (h : StkOk prog w bs (s :: r) hi) : TopLt G gx ol s.e s.ed s.cl bs :=
  ⟨hg.n2, hg.n3, hg.l1, hg.l2, hg.l3, h.top.1, h.top.2.1, h.top.2.2.1⟩
theorem gtext_fn {y : List Nat} {tx : Tok} (hg : GApt G gx ol base) (hT : TxtSt y ps o) (hA : GrAt prog w G gx ol k1 k2 base ps O) :
    Fn prog w p loose mean mg mb 199 3 40 [.ref G, .str ⟨y.toArray⟩ tx] O (PK fun _ C => ∀ ps' O', o = some ps' → GrAt prog w G gx ol k1 k2 base ps' O' → C .none O') (o = none) := by
  obtain ⟨⟨vo, V, on, tl, hP, hs⟩, hl⟩ := hA
  refine Fn.weaken ?_ hs
  cases hT with
  | opn hl =>
    cases hP with
    | @opn s r hi hS =>
      have tl := topLt hg hS
      obtain ⟨m1, m2, m3, m4⟩ := tl.ed5
      refine Fn.mono (Fn.framed (rest := (s.cl, W.listOf s.kv s.kn) :: (s.K ++ stkL w (some s.e) r)) (ptext_top (its := stkV r) (e := s.e) (k1 := k1) (k2 := k2) (vo := .ref (botE s r)) (n := on) (gx := gx) (ol := ol) m1 m2 m3 m4 (by simpa [txt, Str.length] using hl)) sb5 sb6 (tl.ap5 hS.apart)) (fun _ _ o' ⟨o1, ⟨ty', e1, e2⟩, e3⟩ C k => ?_) (fun h => h.elim)
      subst e1 e2 e3
      have q := PsAt.text hS y ty'
      exact k _ _ rfl (.of (on := on) q sb3 sb3 q.base)
  | blankS e =>
    subst e
    cases hP
    refine Fn.mono ptext_blankL (fun _ _ _ ⟨e1, e2⟩ C k => ?_) (fun h => h.elim)
    subst e1 e2
    exact k _ _ rfl (.of .start (fun q h => h) (fun q h => h) fun _ h => nomatch h)
  | blankD e =>
    subst e
    cases hP with
    | done hE hZ =>
      refine Fn.mono (Fn.framed (rest := tl) ptext_blankL (fun q h => List.mem_append_left _ h) (fun q h => List.mem_append_right _ h) ?_) (fun _ _ _ ⟨o1, ⟨e1, e2⟩, e3⟩ C k => ?_) (fun h => h.elim)
      · exact out_ap hg.l1 hg.l2 hg.l3 hZ
      · subst e1 e2 e3
        exact k _ _ rfl (.of (.done hE hZ) (fun q h => h) (fun q h => h) hZ)
  | outS hy =>
    cases hP
    rcases hy with rfl | rfl
    · exact Fn.mono ptext_bad1L (fun _ _ _ h => h.elim) (fun _ => rfl)
    · exact Fn.mono ptext_bad2L (fun _ _ _ h => h.elim) (fun _ => rfl)
  | outD hy =>
    cases hP
    rcases hy with rfl | rfl
    · exact Fn.mono (Fn.weaken ptext_bad1L (fun q h => List.mem_append_left _ h)) (fun _ _ _ h => h.elim) (fun _ => rfl)
    · exact Fn.mono (Fn.weaken ptext_bad2L (fun q h => List.mem_append_left _ h)) (fun _ _ _ h => h.elim) (fun _ => rfl)
theorem gend_fn {x : List Nat} {tx : Tok} (hg : GApt G gx ol base) (hx : x.length ≤ 100000) (hT : EndSt x ps o) (hA : GrAt prog w G gx ol k1 k2 base ps O) :
    Fn prog w p loose mean mg mb 192 3 40 [.ref G, .str ⟨x.toArray⟩ tx] O (PK fun _ C => ∀ ps' O', o = some ps' → GrAt prog w G gx ol k1 k2 base ps' O' → C .none O') (o = none) := by
  obtain ⟨⟨vo, V, on, tl, hP, hs⟩, hl⟩ := hA
  refine Fn.weaken ?_ hs
  have hxl : (⟨x.toArray⟩ : Str).length ≤ 100000 := by simpa [Str.length] using hx
  cases hT with
  | ok hn hr =>
    cases hP with
    | @opn s r hi hS =>
      have tl := topLt hg hS
      have g9 : (stkV r).size < 1000 := by rw [stkV_size]; simp only [List.length_map] at hr; omega
      refine Fn.mono (Fn.framed (rest := (s.cl, W.listOf s.kv s.kn) :: (s.K ++ stkL w (some s.e) r)) (end_ok (its := stkV r) (e := s.e) (k1 := k1) (k2 := k2) (vo := .ref (botE s r)) (n := on) (gx := gx) (ed := s.ed) (nm := txt s.nd.nm) tl.ol4 g9 (nm_eq hn)) sb5 sb6 (tl.ap5 hS.apart)) (fun _ _ o' ⟨o1, ⟨e1, e2⟩, e3⟩ C k => ?_) (fun h => h.elim)
      subst e1 e2 e3
      obtain ⟨tl', q, hsub⟩ := PsAt.pop hS
      exact k _ _ rfl (.of (on := on + 1) (T := stkL w none (s :: r)) q (sb9 hsub) sb3 (PsAt.opn hS).base)
  | other hn =>
    cases hP with
    | @opn s r hi hS =>
      refine Fn.mono (Fn.weaken (end_other (its := stkV r) (e := s.e) (ed := s.ed) (nm := txt s.nd.nm) (y := txt s.nd.tx) (kd := s.kd) (cl := s.cl) (a1 := s.a1) (a2 := s.a2) (a3 := s.a3) (a4 := s.a4) (tn := s.tn) (ty := s.ty) (k1 := k1) (k2 := k2) (vo := .ref (botE s r)) (n := on) (gx := gx) (ol := ol) (nm_ne hn) hxl) sb5) (fun _ _ _ h => h.elim) (fun _ => rfl)
  | done =>
    cases hP
    exact Fn.mono (Fn.weaken (end_none hxl) (fun q h => List.mem_append_left _ h)) (fun _ _ _ h => h.elim) (fun _ => rfl)
theorem GrAt.put {vo : Value} {V : Array Value} {on : Nat} {tl T X o' : List (Addr × Obj)} (hP : PsAt prog w base ps vo V tl) (hs : ∀ p ∈ grO w G gx k1 k2 vo ol V on ++ tl, p ∈ o' ++ X) (hl : ∀ p ∈ o', p ∈ grO w G gx k1 k2 vo ol V on ++ T) (hT : ∀ p ∈ T, @LE.le Nat _ base p.1) (hX : ∀ p ∈ X, @LE.le Nat _ base p.1) :
    GrAt prog w G gx ol k1 k2 base ps (o' ++ X) :=
  .of (T := T ++ X) hP hs (fun p hp => by
    rcases List.mem_append.mp hp with h | h
    · rw [← List.append_assoc]; exact List.mem_append_left _ (hl p h)
    · rw [← List.append_assoc]; exact List.mem_append_right _ h) (fun p hp => by
    rcases List.mem_append.mp hp with h | h
    · exact hT p h
    · exact hX p h)
theorem NewEl.low {nm : List Nat} {as : Ats} {lo hi : Nat} {e' : Addr} {X : List (Addr × Obj)} (h : NewEl prog w nm as lo hi e' X) : ∀ p ∈ X, @LE.le Nat _ lo p.1 := by
  cases h with
  | mk b1 b2 b3 b4 b5 _ =>
    intro p hp
    simp only [List.mem_cons, List.not_mem_nil, or_false] at hp
    rcases hp with rfl | rfl | rfl | rfl <;> dsimp only <;> omega
theorem gput_fn {nm : List Nat} {as : Ats} {em : Bool} {lo hi : Nat} {e' : Addr} {X : List (Addr × Obj)} (hg : GApt G gx ol base) (hT : PutSt nm as em ps o) (hA : GrAt prog w G gx ol k1 k2 base ps O) (hX : NewEl prog w nm as lo hi e' X) (hO : AllLt lo O) :
    Fn prog w p loose mean mg mb 185 3 40 [.ref G, .ref e', .bool em] O (PK fun _ C => ∀ ps' O', o = some ps' → (@LE.le Nat _ base lo → GrAt prog w G gx ol k1 k2 base ps' (O' ++ X)) → C .none O') (o = none) := by
  obtain ⟨⟨vo, V, on, tl, hP, hs⟩, hl⟩ := hA
  have hlow := hX.low
  refine Fn.weaken ?_ hs
  cases hX with
  | mk b1 b2 b3 b4 b5 hAt =>
  rename_i ed' kd' cl' ko' c1 c2 c3 c4 c5 c6
  have ht : ∀ p ∈ tl, @LT.lt Nat _ p.1 lo := fun p hp => allLt_mem hO p (hs p (List.mem_append_right _ hp))
  have g0 := hg.sys
  have g1 := hg.l1
  have g2 := hg.l2
  have g3 := hg.l3
  have hsy : ∀ _ : @LE.le Nat _ base lo, (kd' == sysModules) = false := fun hb => beq_eq_false_iff_ne.mpr (Nat.ne_of_gt (by omega))
  have h5 : ∀ q ∈ [G, ol], q ≠ gx := fun q hq => by
    simp only [List.mem_cons, List.not_mem_nil, or_false] at hq
    rcases hq with rfl | rfl
    · exact hg.n1
    · exact hg.n3.symm
  have h6 : ∀ q ∈ [G, gx], q ≠ ol := fun q hq => by
    simp only [List.mem_cons, List.not_mem_nil, or_false] at hq
    rcases hq with rfl | rfl
    · exact hg.n2
    · exact hg.n3
  cases hT with
  | outCl =>
    cases hP
    refine Fn.mono (put_out_cl h5) (fun _ _ _ ⟨e1, e2⟩ C k => ?_) (fun h => h.elim)
    subst e1 e2
    exact k _ _ rfl fun hb => .put (T := []) (.leafOut hAt (hsy hb) (Nat.le_trans hb b1) b2 b3 b4) (fun q h => h) (fun q h => h) (fun _ h => nomatch h) (fun q hq => Nat.le_trans hb (hlow q hq))
  | outOp =>
    cases hP
    refine Fn.mono (put_out_op h5 h6) (fun _ _ _ ⟨e1, e2⟩ C k => ?_) (fun h => h.elim)
    subst e1 e2
    refine k _ _ rfl fun hb => ?_
    obtain ⟨tl', q, hsub⟩ := PsAt.openOut (bs := base) (nm := nm) (a1 := c1) (a2 := c2) (a3 := c3) (a4 := c4) (tn := c5) (ty := c6) hAt (hsy hb) (Nat.le_trans hb b1) b2 b3 b4
    refine .put (on := on + 1) (T := []) q (fun p hp => ?_) (fun q h => h) (fun _ h => nomatch h) (fun q hq => Nat.le_trans hb (hlow q hq))
    rcases List.mem_append.mp hp with h | h
    · exact List.mem_append_left _ h
    · exact List.mem_append_right _ (hsub p h)
  | two =>
    cases hP with
    | done hE hZ => exact Fn.mono (Fn.weaken put_two (fun q h => List.mem_append_left _ h)) (fun _ _ _ h => h.elim) (fun _ => rfl)
  | topCl hk =>
    cases hP with
    | @opn s r hi hS =>
      have tl := topLt hg hS
      refine Fn.mono (Fn.framed (rest := s.K ++ stkL w (some s.e) r) (put_top_cl (its := stkV r) (e := s.e) (ed := s.ed) (nm := txt s.nd.nm) (y := txt s.nd.tx) (kd := s.kd) (cl := s.cl) (a1 := s.a1) (a2 := s.a2) (a3 := s.a3) (a4 := s.a4) (tn := s.tn) (ty := s.ty) (k1 := k1) (k2 := k2) (vo := .ref (botE s r)) (n := on) (gx := gx) (ol := ol) (kn := s.kn) tl.cl5 (kv_size hS hk)) sb7 sb8 (tl.ap6 hS.apart)) (fun _ _ o' ⟨o1, ⟨e1, e2⟩, e3⟩ C k => ?_) (fun h => h.elim)
      subst e1 e2 e3
      refine k _ _ rfl fun hb2 => ?_
      obtain ⟨tl', q, hsub⟩ := PsAt.leafTop (nm := nm) (a1 := c1) (a2 := c2) (a3 := c3) (a4 := c4) (tn := c5) (ty := c6) (hS.tight (ch := none) ht) hAt (hsy hb2) b1 b2 b3 b4
      exact .put (on := on) q (sb1 hsub) sb4 (tl.low hS.apart) (fun q hq => Nat.le_trans hb2 (hlow q hq))
  | topOp hk hr =>
    cases hP with
    | @opn s r hi hS =>
      have tl := topLt hg hS
      have g9 : (stkV r).size < 1000 := by rw [stkV_size]; simp only [List.length_map] at hr; omega
      refine Fn.mono (Fn.framed (rest := s.K ++ stkL w (some s.e) r) (put_top_op (its := stkV r) (e := s.e) (ed := s.ed) (nm := txt s.nd.nm) (y := txt s.nd.tx) (kd := s.kd) (cl := s.cl) (a1 := s.a1) (a2 := s.a2) (a3 := s.a3) (a4 := s.a4) (tn := s.tn) (ty := s.ty) (k1 := k1) (k2 := k2) (vo := .ref (botE s r)) (n := on) (gx := gx) (ol := ol) (kn := s.kn) tl.cl5 tl.ol5 (kv_size hS hk) g9) sb7 sb8 (tl.ap6 hS.apart)) (fun _ _ o' ⟨o1, ⟨e1, e2⟩, e3⟩ C k => ?_) (fun h => h.elim)
      subst e1 e2 e3
      refine k _ _ rfl fun hb2 => ?_
      obtain ⟨tl', q, hsub⟩ := PsAt.openTop (nm := nm) (a1 := c1) (a2 := c2) (a3 := c3) (a4 := c4) (tn := c5) (ty := c6) (hS.tight (ch := none) ht) hAt (hsy hb2) b1 b2 b3 b4
      exact .put (on := on + 1) q (sb1 hsub) sb4 (tl.low hS.apart) (fun q hq => Nat.le_trans hb2 (hlow q hq))
end
end
section
theorem rk_Piece_0 : True := by
  k_with_none
  trivial


open PyProof.V
section
variable {prog : Program} {w : World} {p : Program} {loose : List Str} {mean : ExcName → Option Value} {mg mb : Str → Option Value}

theorem in_sign {A : Around} {E : Value → Shared → Prop} {s : Shared} {l : List Nat} {W : Str} {t u : Tok} {c : Nat} {b : Bool} {Q : Value → Shared → Prop} (hW : W = ⟨#[c]⟩) (e : l.contains c = b) (h : Q (.bool b) s) :
    wpAny (model prog w) A (compareOp .In (.str W u) (.str ⟨l.toArray⟩ t)) Q E s := by
  subst hW
  refine PyProof.Rows.in_str ?_
  rw [isEmpty_occ, Bool.not_not, lst_mk, ← List.contains_eq_mem, e]
  exact h
theorem notin_sign {A : Around} {E : Value → Shared → Prop} {s : Shared} {l : List Nat} {W : Str} {t u : Tok} {c : Nat} {b : Bool} {Q : Value → Shared → Prop} (hW : W = ⟨#[c]⟩) (e : l.contains c = b) (h : Q (.bool (!b)) s) :
    wpAny (model prog w) A (compareOp .NotIn (.str W u) (.str ⟨l.toArray⟩ t)) Q E s := by
  subst hW
  refine PyProof.Rows.notIn_str ?_
  rw [isEmpty_occ, Bool.not_not, lst_mk, ← List.contains_eq_mem, e]
  exact h
end
/-- an element's start, read: what it does to the growing tree -/
noncomputable def PutP (nm : List Nat) (as : Ats) (em : Bool) (R' : List Nat) (ps : PS) (res : Option (List Nat × PS)) : Prop := ∃ o, PutSt nm as em ps o ∧ res = o.map fun q => (R', q)
section
variable {R R1 R' : List Nat} {ps : PS} {res : Option (List Nat × PS)} {k : Nat}
theorem RPie.cm1 (h : RPie R ps res) (h1 : strip [33, 45, 45] R = some R1) (h2 : fnd [45, 45, 62] R1 = some k) : res = some (R1.drop (k + 3), ps) := by
  cases h with
  | skip h =>
    cases h with
    | cm a b => rw [h1] at a; cases a; rw [h2] at b; cases b; rfl
    | dt a => rw [h1] at a; cases a
    | pi a => rw [h1] at a; cases a
  | cmBad a b => rw [h1] at a; cases a; rw [h2] at b; cases b
  | cdata a => rw [h1] at a; cases a
  | endOk a | endBad a | endOther a | endD a | stBad a | stTwo a | stOutCl a | stOutOp a | stTopCl a | stTopOp a => exact nomatch h1.symm.trans a.n1
theorem RPie.cm2 (h : RPie R ps res) (h1 : strip [33, 45, 45] R = some R1) (h2 : fnd [45, 45, 62] R1 = none) : res = none := by
  cases h with
  | skip h =>
    cases h with
    | cm a b => rw [h1] at a; cases a; rw [h2] at b; cases b
    | dt a => rw [h1] at a; cases a
    | pi a => rw [h1] at a; cases a
  | cmBad => rfl
  | cdata a => rw [h1] at a; cases a
  | endOk a | endBad a | endOther a | endD a | stBad a | stTwo a | stOutCl a | stOutOp a | stTopCl a | stTopOp a => exact nomatch h1.symm.trans a.n1
theorem RPie.cd (h : RPie R ps res) (h0 : strip [33, 45, 45] R = none) (h1 : strip [33, 91, 67, 68, 65, 84, 65, 91] R = some R1) (hl : R1.length ≤ 100000) : ∃ k ps', fnd [93, 93, 62] R1 = some k ∧ TxtSt (R1.take k) ps (some ps') ∧ res = some (R1.drop (k + 3), ps') := by
  cases h with
  | skip h =>
    cases h with
    | cm a b => rw [h0] at a; cases a
    | dt _ a => rw [h1] at a; cases a
    | pi _ a => rw [h1] at a; cases a
  | cmBad a b => rw [h0] at a; cases a
  | cdata _ a b c =>
    rw [h1] at a; cases a
    exact ⟨_, _, b, .opn (by simp only [List.length_take]; omega), rfl⟩
  | endOk a | endBad a | endOther a | endD a | stBad a | stTwo a | stOutCl a | stOutOp a | stTopCl a | stTopOp a => exact nomatch h1.symm.trans a.n2
theorem RPie.dt (h : RPie R ps res) (h0 : strip [33, 45, 45] R = none) (h1 : strip [33, 91, 67, 68, 65, 84, 65, 91] R = none) (h2 : strip [33, 68, 79, 67, 84, 89, 80, 69] R = some R1) : ∃ R', RDoc R1 R' ∧ res = some (R', ps) := by
  cases h with
  | skip h =>
    cases h with
    | cm a b => rw [h0] at a; cases a
    | dt _ _ a b => rw [h2] at a; cases a; exact ⟨_, b, rfl⟩
    | pi _ _ a => rw [h2] at a; cases a
  | cmBad a b => rw [h0] at a; cases a
  | cdata _ a b c => rw [h1] at a; cases a
  | endOk a | endBad a | endOther a | endD a | stBad a | stTwo a | stOutCl a | stOutOp a | stTopCl a | stTopOp a => exact nomatch h2.symm.trans a.n3
theorem RPie.pi (h : RPie R ps res) (h0 : strip [33, 45, 45] R = none) (h1 : strip [33, 91, 67, 68, 65, 84, 65, 91] R = none) (h2 : strip [33, 68, 79, 67, 84, 89, 80, 69] R = none) (h3 : strip [63] R = some R1) : ∃ k, fnd [63, 62] R1 = some k ∧ res = some (R1.drop (k + 2), ps) := by
  cases h with
  | skip h =>
    cases h with
    | cm a b => rw [h0] at a; cases a
    | dt _ _ a b => rw [h2] at a; cases a
    | pi _ _ _ a b => rw [h3] at a; cases a; exact ⟨_, b, rfl⟩
  | cmBad a b => rw [h0] at a; cases a
  | cdata _ a b c => rw [h1] at a; cases a
  | endOk a | endBad a | endOther a | endD a | stBad a | stTwo a | stOutCl a | stOutOp a | stTopCl a | stTopOp a => exact nomatch h3.symm.trans a.n4
/-- a piece that is no comment and the like -/
inductive RPie2 : List Nat → PS → Option (List Nat × PS) → Prop
  | fin {R R1 : List Nat} {ps : PS} {res : Option (List Nat × PS)} : strip [47] R = some R1 → R1.takeWhile isN ≠ [] → (strip [62] ((R1.dropWhile isN).dropWhile isB) = none → res = none) →
      (∀ R', strip [62] ((R1.dropWhile isN).dropWhile isB) = some R' → ∃ o, EndSt (R1.takeWhile isN) ps o ∧ res = o.map fun q => (R', q)) → RPie2 R ps res
  | sta {R : List Nat} {ps : PS} {res : Option (List Nat × PS)} {r' : Option (List Nat × Ats × Bool)} : strip [47] R = none → R.takeWhile isN ≠ [] → RTagL (R.dropWhile isN) [] r' → (r' = none → res = none) →
      (∀ R' as em, r' = some (R', as, em) → PutP (R.takeWhile isN) as em R' ps res) → RPie2 R ps res
theorem RPie.two (h : RPie R ps res) (h0 : strip [33, 45, 45] R = none) (h1 : strip [33, 91, 67, 68, 65, 84, 65, 91] R = none) (h2 : strip [33, 68, 79, 67, 84, 89, 80, 69] R = none) (h3 : strip [63] R = none) : RPie2 R ps res := by
  cases h with
  | skip h =>
    cases h with
    | cm a b => rw [h0] at a; cases a
    | dt _ _ a b => rw [h2] at a; cases a
    | pi _ _ _ a b => rw [h3] at a; cases a
  | cmBad a b => rw [h0] at a; cases a
  | cdata _ a b c => rw [h1] at a; cases a
  | endOk _ a b c e f => exact .fin a b (fun z => by rw [c] at z; cases z) fun R' z => by rw [c] at z; cases z; exact ⟨_, .ok e (by simpa using f), rfl⟩
  | endBad _ a b c => exact .fin a b (fun _ => rfl) fun R' z => by rw [c] at z; cases z
  | endOther _ a b c e => exact .fin a b (fun _ => rfl) fun R' z => ⟨_, .other e, rfl⟩
  | endD _ a b c => exact .fin a b (fun _ => rfl) fun R' z => ⟨_, .done, rfl⟩
  | stBad _ a b c => exact .sta a b c (fun _ => rfl) fun _ _ _ z => nomatch z
  | stTwo _ a b c => exact .sta a b c (fun z => nomatch z) fun _ _ _ z => by cases z; exact ⟨_, .two, rfl⟩
  | stOutCl _ a b c => exact .sta a b c (fun z => nomatch z) fun _ _ _ z => by cases z; exact ⟨_, .outCl, rfl⟩
  | stOutOp _ a b c => exact .sta a b c (fun z => nomatch z) fun _ _ _ z => by cases z; exact ⟨_, .outOp, rfl⟩
  | stTopCl _ a b c e => exact .sta a b c (fun z => nomatch z) fun _ _ _ z => by cases z; exact ⟨_, .topCl e, rfl⟩
  | stTopOp _ a b c e f => exact .sta a b c (fun z => nomatch z) fun _ _ _ z => by cases z; exact ⟨_, .topOp e f, rfl⟩
theorem RPie2.f1 (h : RPie2 R ps res) (h1 : strip [47] R = some R1) : R1.takeWhile isN ≠ [] := by
  cases h with
  | fin a b => rw [h1] at a; cases a; exact b
  | sta a => rw [h1] at a; cases a
theorem RPie2.f2 (h : RPie2 R ps res) (h1 : strip [47] R = some R1) (h2 : strip [62] ((R1.dropWhile isN).dropWhile isB) = none) : res = none := by
  cases h with
  | fin a b c => rw [h1] at a; cases a; exact c h2
  | sta a => exact nomatch h1.symm.trans a
theorem RPie2.f3 (h : RPie2 R ps res) (h1 : strip [47] R = some R1) (h2 : strip [62] ((R1.dropWhile isN).dropWhile isB) = some R') : ∃ o, EndSt (R1.takeWhile isN) ps o ∧ res = o.map fun q => (R', q) := by
  cases h with
  | fin a b c d => rw [h1] at a; cases a; exact d _ h2
  | sta a => rw [h1] at a; cases a
theorem RPie2.s1 (h : RPie2 R ps res) (h1 : strip [47] R = none) : ∃ r', R.takeWhile isN ≠ [] ∧ RTagL (R.dropWhile isN) [] r' ∧ (r' = none → res = none) ∧ ∀ R' as em, r' = some (R', as, em) → PutP (R.takeWhile isN) as em R' ps res := by
  cases h with
  | fin a => rw [h1] at a; cases a
  | sta _ b c d e => exact ⟨_, b, c, d, e⟩
end
section
variable {prog : Program} {w : World} {p : Program} {loose : List Str} {mean : ExcName → Option Value} {mg mb : Str → Option Value}

theorem rk_Piece_1 : True := by
  k_with "k_room" => (((try simp only [depth_under_make, depth_under_kw, depth_in1, depth_deeper, depth_caller]); (try dsimp only [top]); omega))
  trivial
theorem rk_Piece_2 : True := by
  k_with "k_units" => (((try simp only [units_in1, units_deeper, Around.mark_units]); (try dsimp only [top]); omega))
  trivial
theorem rk_Piece_3 : True := by
  k_with "units_room" => (((try simp only [units_in1, units_deeper, Around.mark_units]); (try dsimp only [top]); omega))
  trivial
theorem rk_Piece_4 : True := by
  k_with "k_ne" => (((try dsimp only); first | assumption | exact Ne.symm (by assumption) | (refine neN ?_; omega)))
  trivial
theorem rk_Piece_5 : True := by
  k_with "k_all" => (first | assumption | exact List.forall_mem_nil _ | (refine' List.forall_mem_cons.mpr ⟨?a, ?b⟩; (case a => k_ne); (case b => k_all)))
  trivial
theorem rk_Piece_6 : True := by
  k_with "use:takes" => (repeat' (first | exact Takes.nil | exact Take1.head | refine' Takes.cons ?_ ?_ | refine' Take1.tail ?_))
  trivial
theorem rk_Piece_7 : True := by
  k_with "use:apart" => (((try dsimp only); repeat' (first | assumption | exact List.forall_mem_nil _ | refine' List.forall_mem_cons.mpr ⟨_, _⟩ | (intro x9 hx9; exact absurd hx9 (by simp)) | (dsimp only; first | assumption | exact Ne.symm (by assumption)) | k_ne)))
  trivial
theorem rk_Piece_8 : True := by
  k_with "use:room" => (first | (refine' room3 ?h9 ?e9; (case h9 => assumption); (case e9 => exact rfl)) | (refine' room_le ?h8 ?e8; (case h8 => assumption); (case e8 => exact rfl)) | ((try dsimp only [top, Around.deeper]); omega))
  trivial
theorem rk_Piece_9 : True := by
  k_with "use:le" => (first | assumption | exact le_mil (by assumption) | omega)
  trivial
theorem rk_Piece_10 : True := by
  k_with "exec Raise some none" => ((k_here; refine raise_stmt rfl ?_))
  trivial
theorem rk_Piece_11 : True := by
  k_with "call ref" => ((k_here; (with_reducible show wpAny _ _ (call (Value.ref 44) [_]) _ _ _); k_dflt (refine' fault_use ?B ?F ?X ?N ?T rfl rfl ?hd ?hu ?_; (case B => k_asm); (case F => k_asm); (case X => k_asm); (case N => k_asm); (case T => k_asm); (case hd => walk_at "use:room"); (case hu => walk_at "use:room"); intro e' tp' dx' h' tk' F' N')))
  trivial
theorem rk_Piece_12 : True := by
  k_with "RaiseBack" => ((k_here; k_dflt (refine' ⟨_, _, _, rfl, faultCls ?X, News.get ?N (List.Mem.head _), ?_⟩; (case N => k_asm); (case X => k_in)); (try dsimp only)))
  trivial
theorem rk_Piece_13 : True := by
  k_with "leaving ref" => ((k_here; k_dflt (first | (refine' leave_new_F ?B ?F ?N (List.Mem.head _) rfl rfl ?_; (case B => k_asm); (case F => k_asm); (case N => k_asm); intro h' hfl') | (refine' leave_fly rfl rfl ?fl ?_; (case fl => assumption); intro h' hfl'))))
  trivial

theorem rk_Piece_14 : True := by
  k_with "k_ne" => (first | assumption | exact Ne.symm (by assumption) | walk_at "ne:lt" | ((try dsimp only); first | assumption | exact Ne.symm (by assumption) | walk_at "ne:lt" | (refine neN ?_; omega)))
  trivial
theorem rk_Piece_15 : True := by
  k_with "k_all" => (first | assumption | exact List.forall_mem_nil _ | (refine neAll_of ?_; walk_at "use:conj"))
  trivial
theorem rk_Piece_16 : True := by
  k_with "use:conj" => (first | exact True.intro | assumption | ((refine And.intro ?_ ?_) <;> walk_at "use:conj") | ((with_reducible show NeAll _ _); refine neAll_lt ?_; walk_at "lastlt") | k_ne)
  trivial
theorem rk_Piece_17 : True := by
  k_with "ne:lt" => (first | (refine Nat.ne_of_lt ?_; walk_at "lt") | (refine Nat.ne_of_gt ?_; walk_at "lt"))
  trivial
theorem rk_Piece_18 : True := by
  k_with "lt" => (with_reducible first | assumption | exact pj0 (by assumption) | exact pj1 (by assumption) | exact pj2 (by assumption) | exact pj3 (by assumption) | exact pj4 (by assumption) | exact pj5 (by assumption) | exact pj6 (by assumption) | exact pj7 (by assumption) | exact pj8 (by assumption) | exact pj9 (by assumption) | exact pj10 (by assumption) | exact pj11 (by assumption))
  trivial
theorem rk_Piece_19 : True := by
  k_with "lastlt" => (with_reducible first | assumption | exact lk1 (by assumption) | exact lk2 (by assumption) | exact lk3 (by assumption) | exact lk4 (by assumption) | exact lk5 (by assumption) | exact lk6 (by assumption) | exact lk7 (by assumption))
  trivial
theorem rk_Piece_20 : True := by
  k_with "use:apart" => (walk_at "use:conj")
  trivial
theorem rk_Piece_21 : True := by
  k_with "use:sides" => (((case B => k_asm); (case F => k_asm); (case X => k_asm); (case N => k_asm); (case T => k_asm); (case tk => walk_at "use:takes"); (case dj => walk_at "use:apart"); (case hd => walk_at "use:room"); (case hu => walk_at "use:room")))
  trivial
theorem rk_Piece_22 : True := by
  k_with "use:in" => ((intro h' tk' F' N' hlt'; (try dsimp only [List.cons_append, List.nil_append] at N'); (try dsimp only [AllLt] at hlt'); (try dsimp only); (try k_sweep)))
  trivial

theorem rk_Piece_23 : True := by
  k_with "call ref" => ((k_here; (with_reducible show wpAny _ _ (call (Value.ref 110) _) _ _ _); k_dflt ((refine' Fn.useOk (until_ok ?u1 ?u2 ?u3 ?u4 ?u5 ?u6) ?B ?F ?X ?N ?T rfl rfl ?tk ?dj ?hd ?hu ?_); walk_at "use:sides"; (case u1 => assumption); (case u2 => walk_at "use:le"); (case u3 => assumption); (case u4 => with_reducible first | exact lit_eq | exact lit_dq | exact lit_sq | exact lit_cl | exact lit_gt | exact lit_lt | exact lit_cm | exact lit_cd | exact lit_dt | exact lit_qm | exact lit_sl | exact lit_ecm | exact lit_ecd | exact lit_eqm | exact lit_rb); (case u5 => decide); (case u6 => assumption); (intro tn' i' ti' hR'); walk_at "use:in")))
  trivial
theorem rk_Piece_24 : True := by
  k_with "compareOp In str str" => ((k_here; k_dflt (refine' in_sign (c := 91) ?W ?e ?_; (case W => decide +kernel); (case e => assumption)); (try dsimp only)))
  trivial
theorem rk_Piece_25 : True := by
  k_with "compareOp NotIn str str" => ((k_here; k_dflt (refine' notin_sign (c := 93) ?W ?e ?_; (case W => decide +kernel); (case e => assumption)); (try dsimp only)))
  trivial
set_option pp.deepTerms false
set_option pp.proofs false
set_option maxHeartbeats 8000000 in
theorem doc_fn {c d : Addr} {t1 t2 : Tok} {Tx : Str} {tT : Tok} {i : Int} {ti : Tok} {R R' : List Nat} (hcd : c ≠ d) (hx : Tx.length ≤ 100000) (hR : Rest Tx i R) (hres : RDoc R R') :
    Fn prog w p loose mean mg mb 164 6 60 [.ref c] (scO w c d t1 t2 Tx tT i ti) (PK fun _ C => ∀ i' ti', Rest Tx i' R' → C .none (scO w c d t1 t2 Tx tT i' ti')) False := by
  refine' Fn.intro (binds := [(Str.ofString "scanner", .ref c)]) ?ho ?hcd ?hb ?hl ?hd ?_ ?c2 ?c3 ?c4 ?c5
  (case ho => k_is)
  (case hcd => k_is)
  (case hb => (intro s0 hX0; exact BindsTo.of_eq rfl))
  (case hl => exact locs rfl)
  (case hd => first | decide | omega)
  (case c2 => exact rfl)
  (case c3 => exact rfl)
  (case c4 => exact rfl)
  (case c5 => decide)
  intro dp un gd l base g s Q E L' h₁ hdp hun B F N hlt X TP hL hret herr
  (try dsimp only)
  (try k_fold)
  cases hres with
  | plain h1 h2 =>
    k_steps
    refine' hret _ (scO w c d t1 t2 Tx tT i' ti') _ _ (Fr.keep (by assumption)) (own_takes (by assumption) ?tk9) (size_of (by assumption) hL) ?_
    (case tk9 => walk_at "use:takes")
    exact fun C k => k _ _ hR'
  | brk h1 h2 h3 h4 h5 =>
    k_steps
    refine' hret _ (scO w c d t1 t2 Tx tT i' ti') _ _ (Fr.keep (by assumption)) (own_takes (by assumption) ?tk9) (size_of (by assumption) hL) ?_
    (case tk9 => walk_at "use:takes")
    exact fun C k => k _ _ hR'
end
section
variable {prog : Program} {w : World} {p : Program} {loose : List Str} {mean : ExcName → Option Value} {mg mb : Str → Option Value}

section
variable {c d G gx ol : Addr} {t1 t2 : Tok} {Tx : Str} {tT : Tok} {i : Int} {ti : Tok} {R R0 R1 R' : List Nat} {ps : PS} {res : Option (List Nat × PS)} {k1 k2 : Tok} {base : Nat} {O : List (Addr × Obj)} {W : Str} {tw : Tok}
theorem rest_short (h : Rest Tx i R) (hx : Tx.length ≤ 100000) : R.length ≤ 100000 := by
  have h1 := h.len
  have h2 := h.1
  omega
theorem until_cd (hcd : c ≠ d) (hx : Tx.length ≤ 100000) (hR : Rest Tx i R1) (hW : lst W = [93, 93, 62]) (hP : RPie R0 ps res) (h0 : strip [33, 45, 45] R0 = none) (h1 : strip [33, 91, 67, 68, 65, 84, 65, 91] R0 = some R1) :
    Fn prog w p loose mean mg mb 110 4 40 [.ref c, .str W tw] (scO w c d t1 t2 Tx tT i ti)
      (PK fun _ C => ∀ k ps' t i' ti', TxtSt (R1.take k) ps (some ps') → res = some (R1.drop (k + 3), ps') → Rest Tx i' (R1.drop (k + 3)) → C (.str ⟨(R1.take k).toArray⟩ t) (scO w c d t1 t2 Tx tT i' ti')) False := by
  obtain ⟨k, ps', e1, e2, e3⟩ := hP.cd h0 h1 (rest_short hR hx)
  exact Fn.mono (until_ok hcd (le_mil hx) hR hW (by decide) e1) (fun _ _ _ h C f => h C fun t i' ti' h' => f k ps' t i' ti' e2 e3 h') (fun h => h)
theorem until_pi (hcd : c ≠ d) (hx : Tx.length ≤ 100000) (hR : Rest Tx i R1) (hW : lst W = [63, 62]) (hP : RPie R0 ps res) (h0 : strip [33, 45, 45] R0 = none) (h1 : strip [33, 91, 67, 68, 65, 84, 65, 91] R0 = none) (h2 : strip [33, 68, 79, 67, 84, 89, 80, 69] R0 = none) (h3 : strip [63] R0 = some R1) :
    Fn prog w p loose mean mg mb 110 4 40 [.ref c, .str W tw] (scO w c d t1 t2 Tx tT i ti)
      (PK fun _ C => ∀ k t i' ti', res = some (R1.drop (k + 2), ps) → Rest Tx i' (R1.drop (k + 2)) → C (.str ⟨(R1.take k).toArray⟩ t) (scO w c d t1 t2 Tx tT i' ti')) False := by
  obtain ⟨k, e1, e2⟩ := hP.pi h0 h1 h2 h3
  exact Fn.mono (until_ok hcd (le_mil hx) hR hW (by decide) e1) (fun _ _ _ h C f => h C fun t i' ti' h' => f k t i' ti' e2 h') (fun h => h)
theorem until_cm (hcd : c ≠ d) (hx : Tx.length ≤ 100000) (hR : Rest Tx i R1) (hW : lst W = [45, 45, 62]) (hP : RPie R0 ps res) (h0 : strip [33, 45, 45] R0 = some R1) :
    Fn prog w p loose mean mg mb 110 4 40 [.ref c, .str W tw] (scO w c d t1 t2 Tx tT i ti)
      (PK fun _ C => ∀ k t i' ti', res = some (R1.drop (k + 3), ps) → Rest Tx i' (R1.drop (k + 3)) → C (.str ⟨(R1.take k).toArray⟩ t) (scO w c d t1 t2 Tx tT i' ti')) (res = none) :=
  Fn.mono (until_two hcd (le_mil hx) hR hW (by decide)) (fun _ _ _ h C f => h C fun k t i' ti' e h' => f k t i' ti' (hP.cm1 h0 e) h') (fun h => hP.cm2 h0 h)
theorem doc_k (hcd : c ≠ d) (hx : Tx.length ≤ 100000) (hR : Rest Tx i R1) (hP : RPie R0 ps res) (h0 : strip [33, 45, 45] R0 = none) (h1 : strip [33, 91, 67, 68, 65, 84, 65, 91] R0 = none) (h2 : strip [33, 68, 79, 67, 84, 89, 80, 69] R0 = some R1) :
    Fn prog w p loose mean mg mb 164 6 60 [.ref c] (scO w c d t1 t2 Tx tT i ti) (PK fun _ C => ∀ R' i' ti', res = some (R', ps) → Rest Tx i' R' → C .none (scO w c d t1 t2 Tx tT i' ti')) False := by
  obtain ⟨R', e1, e2⟩ := hP.dt h0 h1 h2
  exact Fn.mono (doc_fn hcd hx hR e1) (fun _ _ _ h C f => h C fun i' ti' h' => f R' i' ti' e2 h') (fun h => h)
theorem name_e (hcd : c ≠ d) (hx : Tx.length ≤ 100000) (hR : Rest Tx i R1) (hP : RPie R0 ps res) (h0 : strip [33, 45, 45] R0 = none) (h1 : strip [33, 91, 67, 68, 65, 84, 65, 91] R0 = none) (h2 : strip [33, 68, 79, 67, 84, 89, 80, 69] R0 = none) (h3 : strip [63] R0 = none) (h4 : strip [47] R0 = some R1) :
    Fn prog w p loose mean mg mb 124 4 40 [.ref c] (scO w c d t1 t2 Tx tT i ti)
      (PK fun _ C => ∀ t i' ti', RPie2 R0 ps res → (R1.takeWhile isN).length ≤ 100000 → (⟨(R1.takeWhile isN).toArray⟩ : Str).length ≤ 100000 → Rest Tx i' (R1.dropWhile isN) → C (.str ⟨(R1.takeWhile isN).toArray⟩ t) (scO w c d t1 t2 Tx tT i' ti')) False := by
  have h := hP.two h0 h1 h2 h3
  have hl := Nat.le_trans (takeWhile_len_le isN R1) (rest_short hR hx)
  exact Fn.mono (name_ok hcd (le_mil hx) hR (h.f1 h4)) (fun _ _ _ a C f => a C fun t i' ti' h' => f t i' ti' h hl (by simpa [Str.length] using hl) h') (fun h => h)
theorem text_k {y : List Nat} {ps' : PS} {tx : Tok} (hg : GApt G gx ol base) (hT : TxtSt y ps (some ps')) (hA : GrAt prog w G gx ol k1 k2 base ps O) :
    Fn prog w p loose mean mg mb 199 3 40 [.ref G, .str ⟨y.toArray⟩ tx] O (PK fun _ C => ∀ O', GrAt prog w G gx ol k1 k2 base ps' O' → C .none O') False :=
  Fn.mono (gtext_fn hg hT hA) (fun _ _ _ h C f => h C fun ps2 O' e h' => f O' (by cases e; exact h')) (fun h => nomatch h)
theorem end_k {tx : Tok} (hg : GApt G gx ol base) (hl : (R1.takeWhile isN).length ≤ 100000) (hA : GrAt prog w G gx ol k1 k2 base ps O) (hP : RPie2 R0 ps res) (h4 : strip [47] R0 = some R1) (h5 : strip [62] ((R1.dropWhile isN).dropWhile isB) = some R') :
    Fn prog w p loose mean mg mb 192 3 40 [.ref G, .str ⟨(R1.takeWhile isN).toArray⟩ tx] O (PK fun _ C => ∀ ps' O', res = some (R', ps') → GrAt prog w G gx ol k1 k2 base ps' O' → C .none O') (res = none) := by
  obtain ⟨o, e1, e2⟩ := hP.f3 h4 h5
  exact Fn.mono (gend_fn hg hl e1 hA) (fun _ _ _ h C f => h C fun ps' O' e h' => f ps' O' (by rw [e2, e]; rfl) h') (fun e => by rw [e2, e]; rfl)
theorem tag_k (hcd : c ≠ d) (hx : Tx.length ≤ 100000) (hR : Rest Tx i R0) (hP : RPie R0 ps res) (h0 : strip [33, 45, 45] R0 = none) (h1 : strip [33, 91, 67, 68, 65, 84, 65, 91] R0 = none) (h2 : strip [33, 68, 79, 67, 84, 89, 80, 69] R0 = none) (h3 : strip [63] R0 = none) (h4 : strip [47] R0 = none) :
    Fn prog w p loose mean mg mb 157 10 400 [.ref c] (scO w c d t1 t2 Tx tT i ti)
      (PK fun b C => ∀ R' as em tup e i' ti' X, PutP (R0.takeWhile isN) as em R' ps res → Rest Tx i' R' → NewEl prog w (R0.takeWhile isN) as b tup e X → C (.ref tup) ((tup, tupObj [.ref e, .bool em]) :: (scO w c d t1 t2 Tx tT i' ti' ++ X))) (res = none) := by
  obtain ⟨r', a1, a2, a3, a4⟩ := (hP.two h0 h1 h2 h3).s1 h4
  exact Fn.mono (tag_fn hcd hx hR a1 a2) (fun _ _ _ h C f => h C fun R' as em tup e i' ti' X e1 => f R' as em tup e i' ti' X (a4 _ _ _ e1)) a3
theorem put_k {nm : List Nat} {as : Ats} {em : Bool} {lo hi : Nat} {e' : Addr} {X : List (Addr × Obj)} (hg : GApt G gx ol base) (hA : GrAt prog w G gx ol k1 k2 base ps O) (hT : PutP nm as em R' ps res) (hX : NewEl prog w nm as lo hi e' X) (hO : AllLt lo O) :
    Fn prog w p loose mean mg mb 185 3 40 [.ref G, .ref e', .bool em] O (PK fun _ C => ∀ ps' O', res = some (R', ps') → (@LE.le Nat _ base lo → GrAt prog w G gx ol k1 k2 base ps' (O' ++ X)) → C .none O') (res = none) := by
  obtain ⟨o, e1, e2⟩ := hT
  exact Fn.mono (gput_fn hg e1 hA hX hO) (fun _ _ _ h C f => h C fun ps' O' e h' => f ps' O' (by rw [e2, e]; rfl) h') (fun e => by rw [e2, e]; rfl)
theorem GrAt.mem {prog : Program} {w : World} (h : GrAt prog w G gx ol k1 k2 base ps O) : ∃ vo, (G, instObj 202 gx) ∈ O ∧ (gx, grD w k1 k2 vo ol) ∈ O := by
  obtain ⟨vo, V, on, tl, _, hs⟩ := h.st
  exact ⟨vo, hs _ (.head _), hs _ (.tail _ (.head _))⟩
theorem last3 {x1 x2 x3 x4 : Prop} (h : x1 ∧ x2 ∧ x3 ∧ x4) : x4 := h.2.2.2
theorem st_apart {nm : List Nat} {as : Ats} {lo hi : Nat} {e' : Addr} {X : List (Addr × Obj)} {o1 o2 o3 : Obj} (hX : NewEl prog w nm as lo hi e' X) (hO : AllLt lo O) (hc : NeAll c O) (hd : NeAll d O) : Apart O ((hi, o1) :: (c, o2) :: (d, o3) :: (X ++ [])) := by
  have hh : @LT.lt Nat _ lo hi := by
    cases hX with
    | mk b1 b2 b3 b4 b5 _ => omega
  refine apart_swap ⟨neAll_mk fun q hq => Nat.ne_of_lt (Nat.lt_trans (allLt_mem hO q hq) hh), hc, hd, apart_mk fun q hq r hr => ?_⟩
  rw [List.append_nil] at hq
  exact Nat.ne_of_lt (Nat.lt_of_lt_of_le (allLt_mem hO r hr) (hX.low q hq))
theorem own_st {g h : Heap} {L : Addr} {a b1 b2 : Addr × Obj} {O' X : List (Addr × Obj)} (N : News g L h (O' ++ (a :: b1 :: b2 :: (X ++ [])))) : Own g h ([b1, b2] ++ (O' ++ X)) := own_of fun p hp => N p (by
  simp only [List.append_nil, List.mem_append, List.mem_cons, List.not_mem_nil, or_false] at hp ⊢
  rcases hp with (h | h) | h | h <;> simp [h])
theorem own_g {g h : Heap} {L : Addr} {b1 b2 : Addr × Obj} {O' : List (Addr × Obj)} (N : News g L h (O' ++ [b1, b2])) : Own g h ([b1, b2] ++ O') := own_of fun p hp => N p (by
  simp only [List.mem_append, List.mem_cons, List.not_mem_nil, or_false] at hp ⊢
  exact hp.symm)
end
theorem rk_Piece_26 : True := by
  k_with "k_room" => (((try simp only [depth_under_make, depth_under_kw, depth_in1, depth_deeper, depth_caller]); (try dsimp only [top]); omega))
  trivial
theorem rk_Piece_27 : True := by
  k_with "k_units" => (((try simp only [units_in1, units_deeper, Around.mark_units]); (try dsimp only [top]); omega))
  trivial
theorem rk_Piece_28 : True := by
  k_with "units_room" => (((try simp only [units_in1, units_deeper, Around.mark_units]); (try dsimp only [top]); omega))
  trivial
theorem rk_Piece_29 : True := by
  k_with "k_ne" => (((try dsimp only); first | assumption | exact Ne.symm (by assumption) | (refine neN ?_; omega)))
  trivial
theorem rk_Piece_30 : True := by
  k_with "k_all" => (first | assumption | exact List.forall_mem_nil _ | (refine' List.forall_mem_cons.mpr ⟨?a, ?b⟩; (case a => k_ne); (case b => k_all)))
  trivial
theorem rk_Piece_31 : True := by
  k_with "use:takes" => (repeat' (first | exact Takes.nil | exact Take1.head | refine' Takes.cons ?_ ?_ | refine' Take1.tail ?_))
  trivial
theorem rk_Piece_32 : True := by
  k_with "use:apart" => (((try dsimp only); repeat' (first | assumption | exact List.forall_mem_nil _ | refine' List.forall_mem_cons.mpr ⟨_, _⟩ | (intro x9 hx9; exact absurd hx9 (by simp)) | (dsimp only; first | assumption | exact Ne.symm (by assumption)) | k_ne)))
  trivial
theorem rk_Piece_33 : True := by
  k_with "use:room" => (first | (refine' room3 ?h9 ?e9; (case h9 => assumption); (case e9 => exact rfl)) | (refine' room_le ?h8 ?e8; (case h8 => assumption); (case e8 => exact rfl)) | ((try dsimp only [top, Around.deeper]); omega))
  trivial
theorem rk_Piece_34 : True := by
  k_with "use:le" => (first | assumption | exact le_mil (by assumption) | omega)
  trivial
theorem rk_Piece_35 : True := by
  k_with "exec Raise some none" => ((k_here; refine raise_stmt rfl ?_))
  trivial
theorem rk_Piece_36 : True := by
  k_with "call ref" => ((k_here; (with_reducible show wpAny _ _ (call (Value.ref 44) [_]) _ _ _); k_dflt (refine' fault_use ?B ?F ?X ?N ?T rfl rfl ?hd ?hu ?_; (case B => k_asm); (case F => k_asm); (case X => k_asm); (case N => k_asm); (case T => k_asm); (case hd => walk_at "use:room"); (case hu => walk_at "use:room"); intro e' tp' dx' h' tk' F' N')))
  trivial
theorem rk_Piece_37 : True := by
  k_with "RaiseBack" => ((k_here; k_dflt (refine' ⟨_, _, _, rfl, faultCls ?X, News.get ?N (List.Mem.head _), ?_⟩; (case N => k_asm); (case X => k_in)); (try dsimp only)))
  trivial
theorem rk_Piece_38 : True := by
  k_with "leaving ref" => ((k_here; k_dflt (first | (refine' leave_new_F ?B ?F ?N (List.Mem.head _) rfl rfl ?_; (case B => k_asm); (case F => k_asm); (case N => k_asm); intro h' hfl') | (refine' leave_fly rfl rfl ?fl ?_; (case fl => assumption); intro h' hfl'))))
  trivial

theorem rk_Piece_39 : True := by
  k_with "k_ne" => (first | assumption | exact Ne.symm (by assumption) | walk_at "ne:lt" | ((try dsimp only); first | assumption | exact Ne.symm (by assumption) | walk_at "ne:lt" | (refine neN ?_; omega)))
  trivial
theorem rk_Piece_40 : True := by
  k_with "k_all" => (first | assumption | exact List.forall_mem_nil _ | (refine neAll_of ?_; walk_at "use:conj"))
  trivial
theorem rk_Piece_41 : True := by
  k_with "use:conj" => (first | exact True.intro | assumption | ((refine And.intro ?_ ?_) <;> walk_at "use:conj") | ((with_reducible show NeAll _ _); refine neAll_lt ?_; walk_at "lastlt") | k_ne)
  trivial
theorem rk_Piece_42 : True := by
  k_with "ne:lt" => (first | (refine Nat.ne_of_lt ?_; walk_at "lt") | (refine Nat.ne_of_gt ?_; walk_at "lt"))
  trivial
theorem rk_Piece_43 : True := by
  k_with "lt" => (with_reducible first | assumption | exact pj0 (by assumption) | exact pj1 (by assumption) | exact pj2 (by assumption) | exact pj3 (by assumption) | exact pj4 (by assumption) | exact pj5 (by assumption) | exact pj6 (by assumption) | exact pj7 (by assumption) | exact pj8 (by assumption) | exact pj9 (by assumption) | exact pj10 (by assumption) | exact pj11 (by assumption))
  trivial
theorem rk_Piece_44 : True := by
  k_with "lastlt" => (with_reducible first | assumption | exact lk1 (by assumption) | exact lk2 (by assumption) | exact lk3 (by assumption) | exact lk4 (by assumption) | exact lk5 (by assumption) | exact lk6 (by assumption) | exact lk7 (by assumption))
  trivial
theorem rk_Piece_45 : True := by
  k_with "use:apart" => (walk_at "use:conj")
  trivial
theorem rk_Piece_46 : True := by
  k_with "use:sides" => (((case B => k_asm); (case F => k_asm); (case X => k_asm); (case N => k_asm); (case T => k_asm); (case tk => walk_at "use:takes"); (case dj => walk_at "use:apart"); (case hd => walk_at "use:room"); (case hu => walk_at "use:room")))
  trivial
theorem rk_Piece_47 : True := by
  k_with "use:in" => ((intro h' tk' F' N' hlt'; (try dsimp only [List.cons_append, List.nil_append] at N'); (try dsimp only [AllLt] at hlt'); (try dsimp only); (try k_sweep)))
  trivial

theorem rk_Piece_48 : True := by
  k_with "call ref" => ((k_here; (with_reducible show wpAny _ _ (call (Value.ref 117) _) _ _ _); k_dflt ((refine' Fn.useOk (spaces_fn ?u1 ?u2 ?u3) ?B ?F ?X ?N ?T rfl rfl ?tk ?dj ?hd ?hu ?_); walk_at "use:sides"; (case u1 => assumption); (case u2 => walk_at "use:le"); (case u3 => assumption); (intro i' ti' hR'); walk_at "use:in")))
  trivial
theorem rk_Piece_49 : True := by
  k_with "call ref" => ((k_here; (with_reducible show wpAny _ _ (call (Value.ref 103) _) _ _ _); k_dflt ((refine' Fn.useOk (takes_two ?u1 ?u2 ?u3 ?u4 ?u5) ?B ?F ?X ?N ?T rfl rfl ?tk ?dj ?hd ?hu ?_); walk_at "use:sides"; (case u1 => assumption); (case u2 => walk_at "use:le"); (case u3 => assumption); (case u4 => with_reducible first | exact lit_cm | exact lit_cd | exact lit_dt | exact lit_qm | exact lit_sl | exact lit_gt); (case u5 => decide); (refine And.intro (fun hs' => ?_) (fun R' i' ti' hs' hR' => ?_)) <;> walk_at "use:in")))
  trivial
theorem rk_Piece_50 : True := by
  k_with "call ref" => ((k_here; (with_reducible show wpAny _ _ (call (Value.ref 110) _) _ _ _); k_dflt ((refine' Fn.useK (until_cm ?u1 ?u2 ?u3 ?u4 ?u5 ?u6) ?B ?F ?X ?N ?T rfl rfl ?tk ?dj ?hd ?hu ?_ ?_); walk_at "use:sides"; (case u1 => assumption); (case u2 => assumption); (case u3 => assumption); (case u4 => with_reducible exact lit_ecm); (case u5 => assumption); (case u6 => assumption); (intro k' tn' i' ti' hres' hR'); walk_at "use:in")))
  trivial
theorem rk_Piece_51 : True := by
  k_with "call ref" => ((k_here; (with_reducible show wpAny _ _ (call (Value.ref 110) _) _ _ _); k_dflt ((refine' Fn.useOk (until_cd ?u1 ?u2 ?u3 ?u4 ?u5 ?u6 ?u7) ?B ?F ?X ?N ?T rfl rfl ?tk ?dj ?hd ?hu ?_); walk_at "use:sides"; (case u1 => assumption); (case u2 => assumption); (case u3 => assumption); (case u4 => with_reducible exact lit_ecd); (case u5 => assumption); (case u6 => assumption); (case u7 => assumption); (intro k' ps' tn' i' ti' hT' hres' hR'); walk_at "use:in")))
  trivial
theorem rk_Piece_52 : True := by
  k_with "call ref" => ((k_here; (with_reducible show wpAny _ _ (call (Value.ref 110) _) _ _ _); k_dflt ((refine' Fn.useOk (until_pi ?u1 ?u2 ?u3 ?u4 ?u5 ?u6 ?u7 ?u8 ?u9) ?B ?F ?X ?N ?T rfl rfl ?tk ?dj ?hd ?hu ?_); walk_at "use:sides"; (case u1 => assumption); (case u2 => assumption); (case u3 => assumption); (case u4 => with_reducible exact lit_eqm); (case u5 => assumption); (case u6 => assumption); (case u7 => assumption); (case u8 => assumption); (case u9 => assumption); (intro k' tn' i' ti' hres' hR'); walk_at "use:in")))
  trivial
theorem rk_Piece_53 : True := by
  k_with "call ref" => ((k_here; (with_reducible show wpAny _ _ (call (Value.ref 164) _) _ _ _); k_dflt ((refine' Fn.useOk (doc_k ?u1 ?u2 ?u3 ?u4 ?u5 ?u6 ?u7) ?B ?F ?X ?N ?T rfl rfl ?tk ?dj ?hd ?hu ?_); walk_at "use:sides"; (case u1 => assumption); (case u2 => assumption); (case u3 => assumption); (case u4 => assumption); (case u5 => assumption); (case u6 => assumption); (case u7 => assumption); (intro R' i' ti' hres' hR'); walk_at "use:in")))
  trivial
theorem rk_Piece_54 : True := by
  k_with "call ref" => ((k_here; (with_reducible show wpAny _ _ (call (Value.ref 124) _) _ _ _); k_dflt ((refine' Fn.useOk (name_e ?u1 ?u2 ?u3 ?u4 ?u5 ?u6 ?u7 ?u8 ?u9) ?B ?F ?X ?N ?T rfl rfl ?tk ?dj ?hd ?hu ?_); walk_at "use:sides"; (case u1 => assumption); (case u2 => assumption); (case u3 => assumption); (case u4 => assumption); (case u5 => assumption); (case u6 => assumption); (case u7 => assumption); (case u8 => assumption); (case u9 => assumption); (intro tn' i' ti' hP2' hl' hl2' hR'); walk_at "use:in")))
  trivial
theorem rk_Piece_55 : True := by
  k_with "call ref" => ((k_here; (with_reducible show wpAny _ _ (call (Value.ref 157) _) _ _ _); k_dflt ((refine' Fn.useK (tag_k ?u1 ?u2 ?u3 ?u4 ?u5 ?u6 ?u7 ?u8 ?u9) ?B ?F ?X ?N ?T rfl rfl ?tk ?dj ?hd ?hu ?_ ?_); walk_at "use:sides"; (case u1 => assumption); (case u2 => assumption); (case u3 => assumption); (case u4 => assumption); (case u5 => assumption); (case u6 => assumption); (case u7 => assumption); (case u8 => assumption); (case u9 => assumption); (intro R' as' em' tup' e' i' ti' X' hT' hR' hX'); walk_at "use:in")))
  trivial
theorem rk_Piece_56 : True := by
  k_with "k_mem" => (first | assumption | ((with_reducible refine List.mem_append_right _ ?_); k_mem) | (refine List.mem_cons_of_mem _ ?_; k_mem))
  trivial
theorem rk_Piece_57 : True := by
  k_with "use:gsides" => (((case B => k_asm); (case F => k_asm); (case X => k_asm); (case N => k_asm); (case T => k_asm); (case tk => exact Takes.skip (Takes.skip Takes.all)); (case dj => exact apart_swap ⟨by assumption, by assumption, True.intro⟩); (case hd => walk_at "use:room"); (case hu => walk_at "use:room")))
  trivial
theorem rk_Piece_58 : True := by
  k_with "call ref" => ((k_here; (with_reducible show wpAny _ _ (call (Value.ref 199) _) _ _ _); k_dflt ((refine' Fn.useOk (text_k ?u1 ?u2 ?u3) ?B ?F ?X ?N ?T rfl rfl ?tk ?dj ?hd ?hu ?_); (case u3 => assumption); (case u1 => assumption); (case u2 => assumption); walk_at "use:gsides"; (intro O' hA'; walk_at "use:in"))))
  trivial
theorem rk_Piece_59 : True := by
  k_with "call ref" => ((k_here; (with_reducible show wpAny _ _ (call (Value.ref 192) _) _ _ _); k_dflt ((refine' Fn.useK (end_k ?u1 ?u2 ?u3 ?u4 ?u5 ?u6) ?B ?F ?X ?N ?T rfl rfl ?tk ?dj ?hd ?hu ?_ ?_); (case u3 => assumption); (case u1 => assumption); (case u2 => assumption); (case u4 => assumption); (case u5 => assumption); (case u6 => assumption); walk_at "use:gsides"; (intro ps2' O' hres' hA'; walk_at "use:in"))))
  trivial
theorem rk_Piece_60 : True := by
  k_with "call ref" => ((k_here; (with_reducible show wpAny _ _ (call (Value.ref 185) _) _ _ _); k_dflt ((refine' Fn.useK (put_k ?u1 ?u2 ?u3 ?u4 ?u5) ?B ?F ?X ?N ?T rfl rfl ?tk ?dj ?hd ?hu ?_ ?_); (case u2 => assumption); (case u1 => assumption); (case u3 => assumption); (case u4 => assumption); (case u5 => exact last3 (by assumption)); (case B => k_asm); (case F => k_asm); (case X => k_asm); (case N => k_asm); (case T => k_asm); (case tk => exact Takes.skip (Takes.skip (Takes.skip (Takes.app Takes.all)))); (case dj => exact st_apart (by assumption) (last3 (by assumption)) (by assumption) (by assumption)); (case hd => walk_at "use:room"); (case hu => walk_at "use:room"); (intro ps2' O' hres' hA'; walk_at "use:in"))))
  trivial
set_option pp.deepTerms false
set_option pp.proofs false
set_option maxHeartbeats 8000000 in
theorem piece_fn {c d G gx ol : Addr} {t1 t2 : Tok} {Tx : Str} {tT : Tok} {i : Int} {ti : Tok} {R : List Nat} {ps : PS} {res : Option (List Nat × PS)} {k1 k2 : Tok} {base : Nat} {O : List (Addr × Obj)} (hcd : c ≠ d) (hx : Tx.length ≤ 100000) (hR : Rest Tx i R) (hg : GApt G gx ol base) (hc : NeAll c O) (hd : NeAll d O) (hA : GrAt prog w G gx ol k1 k2 base ps O) (hP : RPie R ps res) :
    Fn prog w p loose mean mg mb 213 16 500 [.ref c, .ref G] (scO w c d t1 t2 Tx tT i ti ++ O)
      (PK fun b C => ∀ R' ps' i' ti' O', res = some (R', ps') → Rest Tx i' R' → (@LE.le Nat _ base b → GrAt prog w G gx ol k1 k2 base ps' O') → C .none (scO w c d t1 t2 Tx tT i' ti' ++ O')) (res = none) := by
  obtain ⟨vo, hG1, hG2⟩ := hA.mem
  refine' Fn.intro (binds := [(Str.ofString "scanner", .ref c), (Str.ofString "growing", .ref G)]) ?ho ?hcd ?hb ?hl ?hd ?_ ?c2 ?c3 ?c4 ?c5
  (case ho => k_is)
  (case hcd => k_is)
  (case hb => (intro s0 hX0; exact BindsTo.of_eq rfl))
  (case hl => exact locs rfl)
  (case hd => first | decide | omega)
  (case c2 => exact rfl)
  (case c3 => exact rfl)
  (case c4 => exact rfl)
  (case c5 => decide)
  intro dp un gd l base g s Q E L' h₁ hdp hun B F N hlt X TP hL hret herr
  (try dsimp only)
  (try k_fold)
  (try dsimp only [List.cons_append, List.nil_append] at N)
  k_steps
  all_goals first
    | exact herr _ _ _ (by assumption) (by assumption)
    | exact herr _ _ _ (by assumption) (RPie2.f2 (by assumption) (by assumption) (by assumption))
    | (refine hret _ _ _ _ (Fr.keep (by assumption)) (own_st (by assumption)) (size_of (by assumption) hL) ?_; exact fun C k => k _ _ _ _ _ hres' hR' fun hb => hA' (Nat.le_trans hb (Nat.le_of_lt (by rw [hL]; exact pj0 (by assumption)))))
    | (refine hret _ _ _ _ (Fr.keep (by assumption)) (own_g (by assumption)) (size_of (by assumption) hL) ?_; exact fun C k => k _ _ _ _ _ hres' hR' fun _ => hA')
    | (refine hret _ _ _ _ (Fr.keep (by assumption)) (own_of (by assumption)) (size_of (by assumption) hL) ?_; exact fun C k => k _ _ _ _ _ hres' hR' fun _ => hA)
end
end
section
open PyProof.V
/-- what follows the text ahead of a sign "<" -/
inductive Cont (n : Nat) : Option (List Nat × PS) → Option Tr → Prop
  | none : Cont n none none
  | text {ps1 : PS} {res : Option Tr} : Pz [] ps1 res → Cont n (some ([], ps1)) res
  | bad {R1 : List Nat} {ps1 : PS} : RPie R1 ps1 none → Cont n (some (60 :: R1, ps1)) none
  | piece {R1 R2 : List Nat} {ps1 ps2 : PS} {res : Option Tr} : RPie R1 ps1 (some (R2, ps2)) → R2.length < n → Pz R2 ps2 res → Cont n (some (60 :: R1, ps1)) res
theorem Pz.step {R : List Nat} {ps : PS} {res : Option Tr} (h : Pz R ps res) (hR : R ≠ []) : ∃ o, RTxt R ps o ∧ Cont R.length o res := by
  cases h with
  | ok => exact absurd rfl hR
  | nothing => exact absurd rfl hR
  | left _ => exact absurd rfl hR
  | bad1 _ h => exact ⟨_, h, .none⟩
  | text _ h1 h2 => exact ⟨_, h1, .text h2⟩
  | bad2 _ h1 h2 => exact ⟨_, h1, .bad h2⟩
  | turn _ h1 h2 h3 h4 => exact ⟨_, h1, .piece h2 h3 h4⟩
noncomputable def CutP (P : Shared → Prop) (f : Flow) (s : Shared) : Prop := f = .next ∧ P s
theorem execs_cut {M : Model} {A : Around} {env : Env} {st : Stmt} {rest : List Stmt} {Q : Flow → Shared → Prop} {E : Value → Shared → Prop} {s : Shared} (P : Shared → Prop)
    (h1 : wpAny M A (exec st env) (CutP P) E s) (h2 : ∀ s', P s' → wpAny M A (execs rest env) Q E s') : wpAny M A (execs (st :: rest) env) Q E s :=
  wpAny_execs_cons (wpAny_mono h1 (fun f s' ⟨e, h⟩ => by subst e; exact h2 s' h) (fun _ _ x => x))
/-- the state in the middle of a turn -/
noncomputable def MidP (g : Heap) (L : Addr) (s : Shared) (P : (Str → Option Value) → List (Addr × Obj) → Prop) (s' : Shared) : Prop :=
  ∃ h' tk' m news, s' = { s with heap := h', toks := tk' } ∧ Fr g L h' m ∧ News g L h' news ∧ P m news
theorem News.sub {g h : Heap} {L : Addr} {l l' : List (Addr × Obj)} (N : News g L h l) (hs : ∀ p ∈ l', p ∈ l) : News g L h l' := fun p hp => N p (hs p hp)
/-- the state in the middle of a turn: the frame, the ledger -/
inductive Mid (g : Heap) (L : Addr) (s : Shared) (P : (Str → Option Value) → List (Addr × Obj) → Prop) : Shared → Prop
  | mk {h' : Heap} {tk' : Nat} {m : Str → Option Value} {news : List (Addr × Obj)} : Fr g L h' m → News g L h' news → P m news → Mid g L s P { s with heap := h', toks := tk' }
theorem ini_mem {α : Type} {a b c d e f : α} : ∀ p ∈ [e, f, c, d, b], p ∈ [a, b, c, d, e, f] := fun p hp => by
  simp only [List.mem_cons] at hp ⊢
  rcases hp with hp | hp | hp | hp | hp | hp <;> simp [hp]
theorem ini_sub {w : World} {g h : Heap} {L D ol G gx c d : Addr} {o : Obj} {k1 k2 t1 t2 tT ti : Tok} {Tx : Str} (N : News g L h [(D, o), (ol, W.listOf #[] 0), (G, instObj 202 gx), (gx, grD w k1 k2 .none ol), (c, instObj 127 d), (d, scD w t1 t2 Tx tT 0 ti)]) :
    News g L h [(c, instObj 127 d), (d, scD w t1 t2 Tx tT 0 ti), (G, instObj 202 gx), (gx, grD w k1 k2 .none ol), (ol, W.listOf #[] 0)] := News.sub N ini_mem
theorem fnd_find {x : Str} {i : Int} {R : List Nat} (h : Rest x i R) : (Txt.find3 x (Str.ofString "<") i = -1 ∧ (fnd [60] R).getD R.length = R.length) ∨ (Txt.find3 x (Str.ofString "<") i = i + ((fnd [60] R).getD R.length : Nat)) := by
  have hff := find_fnd (W := Str.ofString "<") h
  rw [lit_lt] at hff
  rcases hff with ⟨a, b⟩ | ⟨k, a, b⟩
  · rw [b]; exact .inl ⟨a, rfl⟩
  · rw [b]; exact .inr a
theorem fnd_getle {R : List Nat} : (fnd [60] R).getD R.length ≤ R.length := by
  cases e : fnd [60] R with
  | none => exact Nat.le_refl _
  | some k =>
    have := fnd_le e
    simp only [Option.getD_some]
    omega

/-- the own places: apart, below base -/
structure MkE (c d G gx ol : Addr) (L base : Nat) : Prop where
  cd : c ≠ d
  g : GApt G gx ol base
  oc : Outside c G gx ol base
  od : Outside d G gx ol base
  low : @LT.lt Nat _ L base
  up : ∀ z, @LT.lt Nat _ L z → @LT.lt Nat _ c z → @LT.lt Nat _ d z → @LT.lt Nat _ G z → @LT.lt Nat _ gx z → @LT.lt Nat _ ol z → @LE.le Nat _ base z
theorem MkE.start {c d G gx ol L : Nat} (h : c ≠ d ∧ c ≠ G ∧ c ≠ gx ∧ c ≠ ol ∧ d ≠ G ∧ d ≠ gx ∧ d ≠ ol ∧ G ≠ gx ∧ G ≠ ol ∧ gx ≠ ol) (hs : @LT.lt Nat _ sysModules L) : MkE c d G gx ol L (max (max (max c d) (max G gx)) (max ol L) + 1) := by
  obtain ⟨h1, h2, h3, h4, h5, h6, h7, h8, h9, h10⟩ := h
  have m1 : max (max c d) (max G gx) ≤ max (max (max c d) (max G gx)) (max ol L) := Nat.le_max_left _ _
  have m2 : max ol L ≤ max (max (max c d) (max G gx)) (max ol L) := Nat.le_max_right _ _
  have m3 := Nat.le_trans (Nat.le_max_left (max c d) (max G gx)) m1
  have m4 := Nat.le_trans (Nat.le_max_right (max c d) (max G gx)) m1
  have l0 := Nat.lt_succ_of_le (Nat.le_trans (Nat.le_max_right ol L) m2)
  exact ⟨h1, ⟨h8, h9, h10, Nat.lt_succ_of_le (Nat.le_trans (Nat.le_max_left G gx) m4), Nat.lt_succ_of_le (Nat.le_trans (Nat.le_max_right G gx) m4), Nat.lt_succ_of_le (Nat.le_trans (Nat.le_max_left ol L) m2), Nat.lt_trans hs l0⟩,
    ⟨Nat.lt_succ_of_le (Nat.le_trans (Nat.le_max_left c d) m3), h2, h3, h4⟩, ⟨Nat.lt_succ_of_le (Nat.le_trans (Nat.le_max_right c d) m3), h5, h6, h7⟩, l0,
    fun z k1 k2 k3 k4 k5 k6 => Nat.succ_le_of_lt (Nat.max_lt.mpr ⟨Nat.max_lt.mpr ⟨Nat.max_lt.mpr ⟨k2, k3⟩, Nat.max_lt.mpr ⟨k4, k5⟩⟩, Nat.max_lt.mpr ⟨k6, k1⟩⟩)⟩
theorem MkE.at {prog : Program} {w : World} {c d G gx ol L base z : Nat} {k1 k2 : Tok} {ps : PS} {O : List (Addr × Obj)} (h : MkE c d G gx ol L base) (hA : GrAt prog w G gx ol k1 k2 base ps O) (hl : @LT.lt Nat _ L z ∧ @LT.lt Nat _ c z ∧ @LT.lt Nat _ d z ∧ AllLt z O) : @LE.le Nat _ base z := by
  obtain ⟨vo, V, on, tl, _, hs⟩ := hA.st
  obtain ⟨a1, a2, a3, a4⟩ := hl
  have f := allLt_mem a4
  exact h.up z a1 a2 a3 (f (G, _) (hs _ (.head _))) (f (gx, _) (hs _ (.tail _ (.head _)))) (f (ol, _) (hs _ (.tail _ (.tail _ (.head _)))))
/-- the frame of read_markup -/
noncomputable abbrev frM (c G : Addr) (Tx : Str) (tT : Tok) (ue : Option Value) : Str → Option Value := fun y => if y = Str.ofString "end" then ue else if y = Str.ofString "scanner" then some (.ref c) else if y = Str.ofString "growing" then some (.ref G) else if y = Str.ofString "text" then some (.str Tx tT) else none
theorem frM_of {c G : Addr} {Tx : Str} {tT : Tok} {m : Str → Option Value} {ue : Option Value} (h0 : m (Str.ofString "end") = ue) (h1 : m (Str.ofString "scanner") = some (.ref c)) (h2 : m (Str.ofString "growing") = some (.ref G)) (h3 : m (Str.ofString "text") = some (.str Tx tT))
    (h4 : ∀ y, y ≠ Str.ofString "end" → y ≠ Str.ofString "scanner" → y ≠ Str.ofString "growing" → y ≠ Str.ofString "text" → m y = none) (y : Str) : m y = frM c G Tx tT ue y := by
  show m y = if _ then _ else _
  by_cases q1 : y = Str.ofString "end"
  · rw [if_pos q1, q1, h0]
  · rw [if_neg q1]
    by_cases q2 : y = Str.ofString "scanner"
    · rw [if_pos q2, q2, h1]
    · rw [if_neg q2]
      by_cases q3 : y = Str.ofString "growing"
      · rw [if_pos q3, q3, h2]
      · rw [if_neg q3]
        by_cases q4 : y = Str.ofString "text"
        · rw [if_pos q4, q4, h3]
        · rw [if_neg q4]; exact h4 y q1 q2 q3 q4
inductive MkJ (prog : Program) (w : World) (Tx : Str) (tT : Tok) (L : Nat) (res : Option Tr) : Nat → (Str → Option Value) → List (Addr × Obj) → Prop
  | mk {c d G gx ol : Addr} {t1 t2 k1 k2 ti : Tok} {base : Nat} {i : Int} {ue : Option Value} {R : List Nat} {ps : PS} {O : List (Addr × Obj)} : MkE c d G gx ol L base → Rest Tx i R → GrAt prog w G gx ol k1 k2 base ps O → Pz R ps res →
      MkJ prog w Tx tT L res R.length (frM c G Tx tT ue) (scO w c d t1 t2 Tx tT i ti ++ O)
theorem tl_ne {base : Nat} {tl : List (Addr × Obj)} (h : ∀ p ∈ tl, @LE.le Nat _ base p.1) {a : Addr} (ha : @LT.lt Nat _ a base) : ∀ p ∈ tl, p.1 ≠ a := fun p hp e => by
  have h1 := h p hp
  have e' : @Eq Nat p.1 a := e
  omega
theorem ex_sub {a b : Addr × Obj} {l O : List (Addr × Obj)} (h : ∀ p ∈ l, p ∈ O) : ∀ p ∈ a :: b :: l, p ∈ a :: b :: O := fun p hp => by
  rcases List.mem_cons.mp hp with hp | hp
  · exact hp ▸ .head _
  · rcases List.mem_cons.mp hp with hp | hp
    · exact hp ▸ .tail _ (.head _)
    · exact .tail _ (.tail _ (h p hp))
/-- a turn's middle: the sign "<" has been sought -/
inductive P2 (c G : Addr) (Tx : Str) (tT : Tok) (v : Int) (news₀ : List (Addr × Obj)) : (Str → Option Value) → List (Addr × Obj) → Prop
  | mk {te : Tok} : P2 c G Tx tT v news₀ (frM c G Tx tT (some (.int v te))) news₀
/-- the text ahead of it is read -/
inductive P3 (prog : Program) (w : World) (c d G gx ol : Addr) (t1 t2 : Tok) (Tx : Str) (tT : Tok) (k1 k2 : Tok) (base : Nat) (o : Option (List Nat × PS)) : (Str → Option Value) → List (Addr × Obj) → Prop
  | mk {i : Int} {ue : Option Value} {R : List Nat} {ps : PS} {ti : Tok} {O : List (Addr × Obj)} : o = some (R, ps) → Rest Tx i R → GrAt prog w G gx ol k1 k2 base ps O → P3 prog w c d G gx ol t1 t2 Tx tT k1 k2 base o (frM c G Tx tT ue) (scO w c d t1 t2 Tx tT i ti ++ O)
/-- a text ahead of a sign "<", read -/
noncomputable def TxtP (y R : List Nat) (k : Nat) (ps : PS) (o : Option (List Nat × PS)) : Prop := ∃ o', TxtSt y ps o' ∧ o = o'.map fun q => (R.drop k, q)
theorem rtxt_zero {R : List Nat} {ps : PS} {o : Option (List Nat × PS)} (h : RTxt R ps o) (hk : (fnd [60] R).getD R.length = 0) (hR : R ≠ []) : o = some (R, ps) := by
  cases h with
  | none => rfl
  | opn h p => exact absurd p (by rw [← h, hk]; exact Nat.lt_irrefl 0)
  | bad h p => exact absurd p (by rw [← h, hk]; exact Nat.lt_irrefl 0)
  | blankS h p => exact absurd p (by rw [← h, hk]; exact Nat.lt_irrefl 0)
  | blankD h p => exact absurd p (by rw [← h, hk]; exact Nat.lt_irrefl 0)
  | outS h p => exact absurd p (by rw [← h, hk]; exact Nat.lt_irrefl 0)
  | outD h p => exact absurd p (by rw [← h, hk]; exact Nat.lt_irrefl 0)
theorem rtxt_two {R : List Nat} {ps : PS} {o : Option (List Nat × PS)} (h : RTxt R ps o) (hp : 0 < (fnd [60] R).getD R.length) : ∃ r, Unesc (R.take ((fnd [60] R).getD R.length)) r ∧ (r = none → o = none) ∧ ∀ y, r = some y → TxtP y R ((fnd [60] R).getD R.length) ps o := by
  cases h with
  | none h => rw [h] at hp; exact absurd hp (Nat.lt_irrefl 0)
  | opn h p u a b => subst h; exact ⟨_, u, (fun z => nomatch z), fun y z => by cases z; exact ⟨_, .opn (by omega), rfl⟩⟩
  | bad h p u => subst h; exact ⟨_, u, (fun _ => rfl), fun y z => nomatch z⟩
  | blankS h p u => subst h; exact ⟨_, u, (fun z => nomatch z), fun y z => by cases z; exact ⟨_, .blankS rfl, rfl⟩⟩
  | blankD h p u => subst h; exact ⟨_, u, (fun z => nomatch z), fun y z => by cases z; exact ⟨_, .blankD rfl, rfl⟩⟩
  | outS h p u a => subst h; exact ⟨_, u, (fun z => nomatch z), fun y z => by cases z; exact ⟨_, .outS a, rfl⟩⟩
  | outD h p u a => subst h; exact ⟨_, u, (fun z => nomatch z), fun y z => by cases z; exact ⟨_, .outD a, rfl⟩⟩
theorem cont_t0 {n : Nat} {R1 : List Nat} {ps1 : PS} {res : Option Tr} (h : Cont n (some (R1, ps1)) res) (h1 : strip [60] R1 = none) : R1 = [] ∧ Pz [] ps1 res := by
  cases h with
  | text h => exact ⟨rfl, h⟩
  | bad _ => exact nomatch h1
  | piece _ _ _ => exact nomatch h1
theorem cont_t1 {n : Nat} {R1 R5 : List Nat} {ps1 : PS} {res : Option Tr} (h : Cont n (some (R1, ps1)) res) (h1 : strip [60] R1 = some R5) : ∃ r, RPie R5 ps1 r ∧ (r = none → res = none) ∧ ∀ R2 ps2, r = some (R2, ps2) → R2.length < n ∧ Pz R2 ps2 res := by
  cases h with
  | text h => exact nomatch h1
  | bad h => cases h1; exact ⟨_, h, (fun _ => rfl), fun _ _ z => nomatch z⟩
  | piece a b c => cases h1; exact ⟨_, a, (fun z => nomatch z), fun _ _ z => by cases z; exact ⟨b, c⟩⟩
section
variable {prog : Program} {w : World} {p : Program} {loose : List Str} {mean : ExcName → Option Value} {mg mb : Str → Option Value}

variable {c d G gx ol : Addr} {t1 t2 : Tok} {Tx : Str} {tT : Tok} {i : Int} {ti : Tok} {R R1 R5 : List Nat} {ps ps1 : PS} {res : Option Tr} {k1 k2 : Tok} {base : Nat} {O : List (Addr × Obj)} {o : Option (List Nat × PS)} {n : Nat}
theorem over_yes (hcd : c ≠ d) (hx : Tx.length ≤ 1000000) (hR : Rest Tx i []) :
    Fn prog w p loose mean mg mb 96 1 10 [.ref c] (scO w c d t1 t2 Tx tT i ti) (PK fun _ C => C (.bool true) (scO w c d t1 t2 Tx tT i ti)) False := over_fn hcd hx hR
theorem over_no (hcd : c ≠ d) (hx : Tx.length ≤ 1000000) (hR : Rest Tx i R) (h : R ≠ []) :
    Fn prog w p loose mean mg mb 96 1 10 [.ref c] (scO w c d t1 t2 Tx tT i ti) (PK fun _ C => C (.bool false) (scO w c d t1 t2 Tx tT i ti)) False := by
  cases R with
  | nil => exact absurd rfl h
  | cons => exact over_fn hcd hx hR
theorem unesc_m {x : Str} {tx : Tok} (hx : x.length ≤ 100000) (hl : lst x = R.take ((fnd [60] R).getD R.length)) (hT : RTxt R ps o) (hp : 0 < (fnd [60] R).getD R.length) :
    Fn prog w p loose mean mg mb 143 6 220 [.str x tx] [] (PK fun _ C => ∀ y t, TxtP y R ((fnd [60] R).getD R.length) ps o → C (.str ⟨y.toArray⟩ t) []) (o = none) := by
  obtain ⟨r, a, b, f⟩ := rtxt_two hT hp
  exact Fn.mono (unesc_fn hx (hl ▸ a)) (fun _ _ _ h C k => h C fun y t e1 => k y t (f y e1)) b
theorem apart_nil {own : List (Addr × Obj)} : Apart own [] := apart_mk fun _ _ _ h => nomatch h
theorem news_nil {g h : Heap} {L : Addr} {l : List (Addr × Obj)} (N : News g L h (l ++ [])) : News g L h l := List.append_nil l ▸ N
theorem news_swap {g h : Heap} {L : Addr} {a b : Addr × Obj} {l : List (Addr × Obj)} (N : News g L h (l ++ [a, b])) : News g L h (a :: b :: l) := News.sub N fun p hp => by
  simp only [List.mem_append, List.mem_cons, List.not_mem_nil, or_false] at hp ⊢
  rcases hp with hp | hp | hp <;> simp [hp]
theorem text_m {L : Nat} {y : List Nat} {tx : Tok} {k : Nat} (hE : MkE c d G gx ol L base) (hT : TxtP y R k ps o) (hA : GrAt prog w G gx ol k1 k2 base ps O) :
    Fn prog w p loose mean mg mb 199 3 40 [.ref G, .str ⟨y.toArray⟩ tx] O (PK fun _ C => ∀ ps' O', o = some (R.drop k, ps') → GrAt prog w G gx ol k1 k2 base ps' O' → NeAll c O' → NeAll d O' → C .none O') (o = none) := by
  obtain ⟨o', e1, e2⟩ := hT
  exact Fn.mono (gtext_fn hE.g e1 hA) (fun _ _ _ h C f => h C fun ps' O' e h' => f ps' O' (by rw [e2, e]; rfl) h' (h'.ne hE.oc) (h'.ne hE.od)) (fun e => by rw [e2, e]; rfl)
theorem piece_m {L : Nat} (hE : MkE c d G gx ol L base) (hx : Tx.length ≤ 100000) (hR : Rest Tx i R5) (hA : GrAt prog w G gx ol k1 k2 base ps1 O) (hC : Cont n (some (R1, ps1)) res) (h1 : strip [60] R1 = some R5) :
    Fn prog w p loose mean mg mb 213 16 500 [.ref c, .ref G] (scO w c d t1 t2 Tx tT i ti ++ O)
      (PK fun b C => ∀ R' ps' i' ti' O', R'.length < n → Pz R' ps' res → Rest Tx i' R' → (@LE.le Nat _ base b → GrAt prog w G gx ol k1 k2 base ps' O') → C .none (scO w c d t1 t2 Tx tT i' ti' ++ O')) (res = none) := by
  obtain ⟨r, a, b, f⟩ := cont_t1 hC h1
  exact Fn.mono (piece_fn hE.cd hx hR hE.g (hA.ne hE.oc) (hA.ne hE.od) hA a) (fun _ _ _ h C k => h C fun R' ps' i' ti' O' e => k R' ps' i' ti' O' (f _ _ e).1 (f _ _ e).2) b
end
end
section
theorem rk_Mark_0 : True := by
  k_with_none
  trivial


section
variable {prog : Program} {w : World} {p : Program} {loose : List Str} {mean : ExcName → Option Value} {mg mb : Str → Option Value}

theorem rk_Mark_1 : True := by
  k_with "k_room" => (((try simp only [depth_under_make, depth_under_kw, depth_in1, depth_deeper, depth_caller]); (try dsimp only [top]); omega))
  trivial
theorem rk_Mark_2 : True := by
  k_with "k_units" => (((try simp only [units_in1, units_deeper, Around.mark_units]); (try dsimp only [top]); omega))
  trivial
theorem rk_Mark_3 : True := by
  k_with "units_room" => (((try simp only [units_in1, units_deeper, Around.mark_units]); (try dsimp only [top]); omega))
  trivial
theorem rk_Mark_4 : True := by
  k_with "k_ne" => (((try dsimp only); first | assumption | exact Ne.symm (by assumption) | (refine neN ?_; omega)))
  trivial
theorem rk_Mark_5 : True := by
  k_with "k_all" => (first | assumption | exact List.forall_mem_nil _ | (refine' List.forall_mem_cons.mpr ⟨?a, ?b⟩; (case a => k_ne); (case b => k_all)))
  trivial
theorem rk_Mark_6 : True := by
  k_with "use:takes" => (repeat' (first | exact Takes.nil | exact Take1.head | refine' Takes.cons ?_ ?_ | refine' Take1.tail ?_))
  trivial
theorem rk_Mark_7 : True := by
  k_with "use:apart" => (((try dsimp only); repeat' (first | assumption | exact List.forall_mem_nil _ | refine' List.forall_mem_cons.mpr ⟨_, _⟩ | (intro x9 hx9; exact absurd hx9 (by simp)) | (dsimp only; first | assumption | exact Ne.symm (by assumption)) | k_ne)))
  trivial
theorem rk_Mark_8 : True := by
  k_with "use:room" => (first | (refine' room3 ?h9 ?e9; (case h9 => assumption); (case e9 => exact rfl)) | (refine' room_le ?h8 ?e8; (case h8 => assumption); (case e8 => exact rfl)) | ((try dsimp only [top, Around.deeper]); omega))
  trivial
theorem rk_Mark_9 : True := by
  k_with "use:le" => (first | assumption | exact le_mil (by assumption) | omega)
  trivial
theorem rk_Mark_10 : True := by
  k_with "exec Raise some none" => ((k_here; refine raise_stmt rfl ?_))
  trivial
theorem rk_Mark_11 : True := by
  k_with "call ref" => ((k_here; (with_reducible show wpAny _ _ (call (Value.ref 44) [_]) _ _ _); k_dflt (refine' fault_use ?B ?F ?X ?N ?T rfl rfl ?hd ?hu ?_; (case B => k_asm); (case F => k_asm); (case X => k_asm); (case N => k_asm); (case T => k_asm); (case hd => walk_at "use:room"); (case hu => walk_at "use:room"); intro e' tp' dx' h' tk' F' N')))
  trivial
theorem rk_Mark_12 : True := by
  k_with "RaiseBack" => ((k_here; k_dflt (refine' ⟨_, _, _, rfl, faultCls ?X, News.get ?N (List.Mem.head _), ?_⟩; (case N => k_asm); (case X => k_in)); (try dsimp only)))
  trivial
theorem rk_Mark_13 : True := by
  k_with "leaving ref" => ((k_here; k_dflt (first | (refine' leave_new_F ?B ?F ?N (List.Mem.head _) rfl rfl ?_; (case B => k_asm); (case F => k_asm); (case N => k_asm); intro h' hfl') | (refine' leave_fly rfl rfl ?fl ?_; (case fl => assumption); intro h' hfl'))))
  trivial

theorem rk_Mark_14 : True := by
  k_with "k_ne" => (first | assumption | exact Ne.symm (by assumption) | walk_at "ne:lt" | ((try dsimp only); first | assumption | exact Ne.symm (by assumption) | walk_at "ne:lt" | (refine neN ?_; omega)))
  trivial
theorem rk_Mark_15 : True := by
  k_with "k_all" => (first | assumption | exact List.forall_mem_nil _ | (refine neAll_of ?_; walk_at "use:conj"))
  trivial
theorem rk_Mark_16 : True := by
  k_with "use:conj" => (first | exact True.intro | assumption | ((refine And.intro ?_ ?_) <;> walk_at "use:conj") | ((with_reducible show NeAll _ _); refine neAll_lt ?_; walk_at "lastlt") | k_ne)
  trivial
theorem rk_Mark_17 : True := by
  k_with "ne:lt" => (first | (refine Nat.ne_of_lt ?_; walk_at "lt") | (refine Nat.ne_of_gt ?_; walk_at "lt"))
  trivial
theorem rk_Mark_18 : True := by
  k_with "lt" => (with_reducible first | assumption | exact pj0 (by assumption) | exact pj1 (by assumption) | exact pj2 (by assumption) | exact pj3 (by assumption) | exact pj4 (by assumption) | exact pj5 (by assumption) | exact pj6 (by assumption) | exact pj7 (by assumption) | exact pj8 (by assumption) | exact pj9 (by assumption) | exact pj10 (by assumption) | exact pj11 (by assumption))
  trivial
theorem rk_Mark_19 : True := by
  k_with "lastlt" => (with_reducible first | assumption | exact lk1 (by assumption) | exact lk2 (by assumption) | exact lk3 (by assumption) | exact lk4 (by assumption) | exact lk5 (by assumption) | exact lk6 (by assumption) | exact lk7 (by assumption))
  trivial
theorem rk_Mark_20 : True := by
  k_with "use:apart" => (walk_at "use:conj")
  trivial
theorem rk_Mark_21 : True := by
  k_with "use:sides" => (((case B => k_asm); (case F => k_asm); (case X => k_asm); (case N => k_asm); (case T => k_asm); (case tk => walk_at "use:takes"); (case dj => walk_at "use:apart"); (case hd => walk_at "use:room"); (case hu => walk_at "use:room")))
  trivial
theorem rk_Mark_22 : True := by
  k_with "use:in" => ((intro h' tk' F' N' hlt'; (try dsimp only [List.cons_append, List.nil_append] at N'); (try dsimp only [AllLt] at hlt'); (try dsimp only); (try k_sweep)))
  trivial

theorem rk_Mark_23 : True := by
  k_with "compareOp NotEq ref ref" => ((k_here; k_dflt (refine' ne_nil ?a ?b ?u ?_; (case a => is_list); (case b => is_list); (case u => ke_room)); (try simp only [Array.size_push, Nat.zero_lt_succ, decide_true]); (try dsimp only)))
  trivial
theorem rk_Mark_24 : True := by
  k_with "compareOp Eq ref ref" => ((k_here; k_dflt (refine' eq_nil ?a ?b ?u ?_; (case a => is_list); (case b => is_list); (case u => ke_room)); (try simp only [Array.size_push, Nat.add_eq_zero_iff, Nat.succ_ne_zero, Nat.one_ne_zero, and_false, decide_false]); (try dsimp only)))
  trivial
theorem rk_Mark_25 : True := by
  k_with "subscriptTail" => ((k_here; (with_reducible show wpAny _ _ (subscriptTail _ _ (Value.ref _) (Value.int (-1) _)) _ _ _); k_dflt (refine' last_item ?l ?_ ?s; (case l => is_list); (case s => with_unfolding_all rfl)); (try dsimp only)))
  trivial
theorem rk_Mark_26 : True := by
  k_with "call builtin:list.pop" => ((k_here; k_dflt (refine' pop_last ?F ?N ?U ?z ?_; (case F => k_asm); (case N => k_asm); (case U => k_upd); (case z => omega)); intro h' F' N'; (try dsimp only); (try k_sweep)))
  trivial
theorem rk_Mark_27 : True := by
  k_with "call builtin:list.append" => ((k_here; (with_reducible show wpAny _ _ (call (Value.builtin _) [Value.ref _, _]) _ _ _); k_dflt (refine' append_K ?k1 ?k2 ?k3 ?_ ?z; (case k1 => k_asm); (case k2 => k_asm); (case k3 => k_upd); (case z => (simp only [Array.size_push, sizeLine_eq]; omega))); intro h' F' N'; (try dsimp only); (try k_sweep)))
  trivial

theorem rk_Mark_28 : True := by
  k_with "call ref" => ((k_here; (with_reducible show wpAny _ _ (call (Value.ref 103) _) _ _ _); k_dflt ((refine' Fn.useOk (takes_two ?u1 ?u2 ?u3 ?u4 ?u5) ?B ?F ?X ?N ?T rfl rfl ?tk ?dj ?hd ?hu ?_); walk_at "use:sides"; (case u1 => assumption); (case u2 => walk_at "use:le"); (case u3 => assumption); (case u4 => with_reducible exact lit_lt); (case u5 => decide); (refine And.intro (fun hs' => ?_) (fun R' i' ti' hs' hR' => ?_)) <;> walk_at "use:in")))
  trivial
theorem rk_Mark_29 : True := by
  k_with "call ref" => ((k_here; (with_reducible show wpAny _ _ (call (Value.ref 96) _) _ _ _); k_dflt ((refine' Fn.useOk (over_no ?u1 ?u2 ?u3 ?u4) ?B ?F ?X ?N ?T rfl rfl ?tk ?dj ?hd ?hu ?_); walk_at "use:sides"; (case u1 => assumption); (case u2 => walk_at "use:le"); (case u3 => assumption); (case u4 => assumption); walk_at "use:in")))
  trivial
theorem rk_Mark_30 : True := by
  k_with "call ref" => ((k_here; (with_reducible show wpAny _ _ (call (Value.ref 96) _) _ _ _); k_dflt ((refine' Fn.useOk (over_yes ?u1 ?u2 ?u3) ?B ?F ?X ?N ?T rfl rfl ?tk ?dj ?hd ?hu ?_); walk_at "use:sides"; (case u1 => assumption); (case u2 => walk_at "use:le"); (case u3 => assumption); walk_at "use:in")))
  trivial
theorem rk_Mark_31 : True := by
  k_with "call ref" => ((k_here; (with_reducible show wpAny _ _ (call (Value.ref 143) _) _ _ _); k_dflt ((refine' Fn.useK (unesc_m ?u1 ?u2 ?u3 ?u4) ?B ?F ?X ?N ?T rfl rfl ?tk ?dj ?hd ?hu ?_ ?_); walk_at "use:sides"; (case u2 => assumption); (case u1 => assumption); (case u3 => assumption); (case u4 => omega); (intro y' tn' hT'); walk_at "use:in")))
  trivial
theorem rk_Mark_32 : True := by
  k_with "k_mem" => (first | assumption | ((with_reducible refine List.mem_append_right _ ?_); k_mem) | (refine List.mem_cons_of_mem _ ?_; k_mem))
  trivial
theorem rk_Mark_33 : True := by
  k_with "call builtin:str.find" => ((k_here; k_dflt (refine' find_is ?e ?_; (case e => assumption)); (try dsimp only)))
  trivial
theorem rk_Mark_34 : True := by
  k_with "call ref" => ((k_here; (with_reducible show wpAny _ _ (call (Value.ref 199) _) _ _ _); k_dflt ((refine' Fn.useK (text_m ?u1 ?u2 ?u3) ?B ?F ?X ?N ?T rfl rfl ?tk ?dj ?hd ?hu ?_ ?_); (case u3 => assumption); (case u1 => assumption); (case u2 => assumption); (case B => k_asm); (case F => k_asm); (case X => k_asm); (case N => k_asm); (case T => k_asm); (case tk => exact Takes.skip (Takes.skip Takes.all)); (case dj => exact apart_swap ⟨by assumption, by assumption, True.intro⟩); (case hd => walk_at "use:room"); (case hu => walk_at "use:room"); (intro ps' O' ho' hA' hc' hd' h' tk' F' N'; replace N' := news_swap N'; intro hlt'; (try dsimp only [AllLt] at hlt'); (try dsimp only); (try k_sweep)))))
  trivial
theorem rk_Mark_35 : True := by
  k_with "call ref" => ((k_here; (with_reducible show wpAny _ _ (call (Value.ref 213) _) _ _ _); k_dflt ((refine' Fn.useK (piece_m ?u1 ?u2 ?u3 ?u4 ?u5 ?u6) ?B ?F ?X ?N ?T rfl rfl ?tk ?dj ?hd ?hu ?_ ?_); (case u1 => assumption); (case u2 => assumption); (case u3 => assumption); (case u4 => assumption); (case u5 => assumption); (case u6 => assumption); (case B => k_asm); (case F => k_asm); (case X => k_asm); (case N => k_asm); (case T => k_asm); (case tk => exact Takes.all); (case dj => exact apart_nil); (case hd => walk_at "use:room"); (case hu => walk_at "use:room"); (intro R' ps' i' ti' O' hl' hP' hR' hA' h' tk' F' N'; replace N' := news_nil N'; (try dsimp only [List.cons_append, List.nil_append] at N'); intro hlt'; (try dsimp only [AllLt] at hlt'); (try dsimp only); (try k_sweep)))))
  trivial
theorem fr_set {c G : Addr} {Tx : Str} {tT : Tok} {v v' : Option Value} (y : Str) : (if y = Str.ofString "end" then v else frM c G Tx tT v' y) = frM c G Tx tT v y := by
  show _ = if _ then _ else _
  by_cases h : y = Str.ofString "end"
  · rw [if_pos h, if_pos h]
  · rw [if_neg h, if_neg h]
    show (if _ then _ else _) = _
    rw [if_neg h]
theorem fr_set2 {c G : Addr} {Tx : Str} {tT : Tok} {v v' v2 : Option Value} (y : Str) : (if y = Str.ofString "end" then v else if y = Str.ofString "end" then v2 else frM c G Tx tT v' y) = frM c G Tx tT v y := by
  rw [fr_set, fr_set]
set_option pp.deepTerms false
set_option pp.proofs false
set_option maxHeartbeats 8000000 in
theorem markup_fn {Tx : Str} {tT : Tok} {res : Option Tr} (hx : Tx.length ≤ 100000) (hP : Pz (lst Tx) .start res) :
    Fn prog w p loose mean mg mb 220 30 600 [.str Tx tT] [] (PK fun b C => ∀ e t o, res = some t → ElIn prog w o e t → (∀ p ∈ o, @LE.le Nat _ b p.1) → C (.ref e) o) (res = none) := by
  refine' Fn.intro (binds := [(Str.ofString "text", .str Tx tT)]) ?ho ?hcd ?hb ?hl ?hd ?_ ?c2 ?c3 ?c4 ?c5
  (case ho => k_is)
  (case hcd => k_is)
  (case hb => (intro s0 hX0; exact BindsTo.of_eq rfl))
  (case hl => exact locs rfl)
  (case hd => first | decide | omega)
  (case c2 => exact rfl)
  (case c3 => exact rfl)
  (case c4 => exact rfl)
  (case c5 => decide)
  intro dp un gd l base g s Q E L' h₁ hdp hun B F N hlt X TP hL hret herr
  (try dsimp only)
  (try k_fold)
  have hsm : @LT.lt Nat _ sysModules L' := Nat.lt_of_lt_of_le (modules_low TP.nolimit) F.above
  repeat ((fail_if_success (with_reducible show wpAny _ _ (exec (Stmt.While _ _ _ _) _) _ _ _)); (first | (k_unfold; (try dsimp only)) | walk1 | (dsimp only; walk1)))
  refine gen_toks ?_
  intro tk9
  (try dsimp only)
  rename News g L' _ _ => N₂
  rename Fr g L' _ _ => F₂
  refine' While_inv2 (MkJ prog w Tx tT L' res) (Fr.congr (m' := frM _ _ Tx tT none) F₂ ?fr) (ini_sub N₂) (MkJ.mk (ue := none) (MkE.start ?ini hsm) (Rest.start Tx) (.of (on := 0) (T := []) .start (fun q h => h) (fun q h => h) (fun _ h => nomatch h)) hP) ?turn ?pas
  (case fr =>
    refine frM_of rfl rfl rfl rfl ?_
    intro y q1 q2 q3 q4
    simp [q2, q3, q4, List.lookup, beq_false_of_ne])
  (case ini => omega)
  (case pas => passes_own)
  (case turn =>
    clear N₂ F₂ hP
    rintro n m₁ news₁ h₁ tk₁ F₁ N₁ (@⟨c, d, G, gx, ol, t1, t2, k1, k2, ti, bs, i, ue, R, ps, O, hE, hR, hA, hP⟩)
    by_cases hR0 : R = []
    · subst hR0
      have hap := hE.g
      have z1 := hE.oc.n1
      have z2 := hE.oc.n2
      have z3 := hE.oc.n3
      have z4 := hE.od.n1
      have z5 := hE.od.n2
      have z6 := hE.od.n3
      have z7 := hE.cd
      have hlow := hE.low
      obtain ⟨⟨vo, V, on, tl, hPs, hs⟩, hl⟩ := hA
      have hct : NeAll c tl := neAll_mk (tl_ne hPs.base hE.oc.lt)
      have hdt : NeAll d tl := neAll_mk (tl_ne hPs.base hE.od.lt)
      have N₂ : News g L' h₁ ((c, instObj 127 d) :: (d, scD w t1 t2 Tx tT i ti) :: (G, instObj 202 gx) :: (gx, grD w k1 k2 vo ol) :: (ol, W.listOf V on) :: tl) := News.sub N₁ (ex_sub hs)
      clear N₁ hs hl hE hap
      cases hP with
      | nothing =>
        cases hPs with
        | start =>
          k_steps
          all_goals (refine herr _ _ _ (by assumption) rfl)
      | left hnm =>
        cases hPs with
        | @opn s9 r9 hi hS =>
          have hnl : (txt s9.nd.nm).length ≤ 1000 := by simpa [txt, Str.length] using hnm
          simp only [stkV, stkL, Sg.kids] at N₂ hct hdt
          generalize s9.K ++ stkL w (some s9.e) r9 = Y at N₂ hct hdt
          k_steps
          all_goals (refine herr _ _ _ (by assumption) rfl)
      | ok =>
        cases hPs with
        | done hE hZ =>
          k_steps
          rename News g L' _ _ => N9
          refine hret _ tl _ _ (Fr.keep (by assumption)) (own_of (News.sub N9 (fun p hp => ?_))) (size_of (by assumption) hL) ?_
          · simp [hp]
          · exact fun C k => k _ _ _ rfl hE fun p hp => by have := hZ p hp; have := hlow; omega
      | bad1 h => exact absurd rfl h
      | bad2 h => exact absurd rfl h
      | text h => exact absurd rfl h
      | turn h => exact absurd rfl h
    · obtain ⟨o, hT, hC⟩ := hP.step hR0
      clear hP
      have hc : NeAll c O := hA.ne hE.oc
      have hd : NeAll d O := hA.ne hE.od
      have hcd := hE.cd
      obtain ⟨vo, hG1, hG2⟩ := hA.mem
      obtain ⟨z, hz⟩ : ∃ z, Txt.find3 Tx (Str.ofString "<") i = z := ⟨_, rfl⟩
      dsimp only [List.cons_append, List.nil_append] at N₁
      repeat ((fail_if_success (with_reducible show wpAny _ _ (execs (Stmt.If _ _ _ _ :: _) _) _ _ _)); (first | (k_unfold; (try dsimp only)) | walk1 | (dsimp only; walk1)))
      rename News g L' _ _ => N₂
      rename Fr g L' _ _ => F₂
      refine execs_cut (Mid g L' s (P2 c G Tx tT (i + ((fnd [60] R).getD R.length : Nat)) ((c, instObj 127 d) :: (d, scD w t1 t2 Tx tT i ti) :: O))) ?s2 ?r2
      (case s2 =>
        have hl := hR.len
        have h0 := hR.1
        rcases fnd_find hR with ⟨hf, hk⟩ | hf
        · rw [hz] at hf
          subst hf
          have hk' : i + ((fnd [60] R).getD R.length : Nat) = (Tx.length : Int) := by omega
          rw [hk']
          k_steps
          (rename Fr g L' _ _ => F9; rename News g L' _ _ => N9; first | exact ⟨rfl, .mk (Fr.congr F9 fr_set) N9 .mk⟩ | exact ⟨rfl, .mk (Fr.congr F9 fr_set2) N9 .mk⟩)
        · rw [hz] at hf
          subst hf
          k_steps
          (rename Fr g L' _ _ => F9; rename News g L' _ _ => N9; first | exact ⟨rfl, .mk (Fr.congr F9 fr_set) N9 .mk⟩ | exact ⟨rfl, .mk (Fr.congr F9 fr_set2) N9 .mk⟩))
      (case r2 =>
        clear F₂ N₂
        rintro s' ⟨F₂, N₂, @⟨te⟩⟩
        have hkle := fnd_getle (R := R)
        have hl := hR.len
        have h0 := hR.1
        have hslL : lst (Txt.slice Tx (some i) (some (i + (((fnd [60] R).getD R.length : Nat) : Int)))) = R.take ((fnd [60] R).getD R.length) := by rw [slice_rest hR hkle, lst_mk]
        have hsll : (Txt.slice Tx (some i) (some (i + (((fnd [60] R).getD R.length : Nat) : Int)))).length ≤ 100000 := by rw [slice_rest hR hkle]; simp only [Str.length, List.size_toArray, List.length_take]; omega
        have hR1 := hR.move hkle
        refine execs_cut (Mid g L' s (P3 prog w c d G gx ol t1 t2 Tx tT k1 k2 bs o)) ?s3 ?r3
        (case s3 =>
          k_steps
          all_goals first
            | exact herr _ _ _ (by assumption) (by rename _ = none => hz9; rw [hz9] at hC; cases hC; rfl)
            | (rename Fr g L' _ _ => F9
               rename News g L' _ _ => N9
               exact ⟨rfl, .mk F9 N9 (.mk ho' hR1 hA')⟩)
            | (rename Fr g L' _ _ => F9
               rename News g L' _ _ => N9
               exact ⟨rfl, .mk F9 N9 (.mk (rtxt_zero hT (by omega) hR0) hR hA)⟩))
        (case r3 =>
          clear F₂ N₂ hc hd hslL hsll hR1 hR hA hG1 hG2 hT
          rintro s' ⟨F₃, N₃, @⟨i1, ue1, R1, ps1, ti1, O1, ho, hR, hA⟩⟩
          have hc : NeAll c O1 := hA.ne hE.oc
          have hd : NeAll d O1 := hA.ne hE.od
          subst ho
          dsimp only [List.cons_append, List.nil_append] at N₃
          k_steps
          all_goals first
            | exact herr _ _ _ (by assumption) (by assumption)
            | (rename Fr g L' _ _ => F9
               rename News g L' _ _ => N9
               exact ⟨_, _, _, _, _, rfl, F9, N9, hl', .mk hE hR' (hA' (hE.at hA hlt')) hP'⟩)
            | (rename Fr g L' _ _ => F9
               rename News g L' _ _ => N9
               obtain ⟨rfl, hP9⟩ := cont_t0 hC hs'
               exact ⟨_, _, _, _, _, rfl, F9, N9, List.length_pos_iff.mpr hR0, .mk hE hR hA hP9⟩))))
end
end
section
theorem rk_Take_0 : True := by
  k_with_none
  trivial


section
variable {prog : Program} {w : World} {p : Program} {loose : List Str} {mean : ExcName → Option Value} {mg mb : Str → Option Value}

/-- an item of a written list -/
theorem item_lit {A : Around} {E : Value → Shared → Prop} {s : Shared} {value slice : Expr} {l : Addr} {vs : List Value} {k : Int} {u : Tok} {v : Value} {Q : Value → Shared → Prop}
    (hl : s.heap.IsList l vs.toArray) (h0 : 0 ≤ k) (hhi : k < 2 ^ 63) (hx : vs[k.toNat]? = some v) (h : Q v s)
    (hs : subscripted slice false (.ref l) (.int k u) = operate [.ref l, .int k u] (getItem (.ref l) (.int k u)) := by with_unfolding_all rfl) :
    wpAny (model prog w) A (subscriptTail value slice (.ref l) (.int k u)) Q E s :=
  tail_any hl.typeIs slot_list_getitem.lookup (getItem_listL hl h0 hhi hx h) hs
theorem fm0 (x : Int) : 0 ≤ x.fmod 2147483647 := Int.fmod_nonneg_of_pos _ (by decide)
theorem fm1 (x : Int) : x.fmod 2147483647 < 2147483647 := Int.fmod_lt_of_pos _ (by decide)
theorem fm_bits (x : Int) : Builtin.Int.intBits (x.fmod 2147483647) ≤ 64 := intBits_le_64 (by have := fm0 x; omega) (by have := fm1 x; omega)
/-- the place of the draws: a list of two ints -/
noncomputable def Src (o : Obj) : Prop := ∃ a b ta tb n, 0 ≤ a ∧ o = W.listOf #[.int a ta, .int b tb] n
theorem rk_Take_1 : True := by
  k_with "k_room" => (((try simp only [depth_under_make, depth_under_kw, depth_in1, depth_deeper, depth_caller]); (try dsimp only [top]); omega))
  trivial
theorem rk_Take_2 : True := by
  k_with "k_units" => (((try simp only [units_in1, units_deeper, Around.mark_units]); (try dsimp only [top]); omega))
  trivial
theorem rk_Take_3 : True := by
  k_with "units_room" => (((try simp only [units_in1, units_deeper, Around.mark_units]); (try dsimp only [top]); omega))
  trivial
theorem rk_Take_4 : True := by
  k_with "k_ne" => (((try dsimp only); first | assumption | exact Ne.symm (by assumption) | (refine neN ?_; omega)))
  trivial
theorem rk_Take_5 : True := by
  k_with "k_all" => (first | assumption | exact List.forall_mem_nil _ | (refine' List.forall_mem_cons.mpr ⟨?a, ?b⟩; (case a => k_ne); (case b => k_all)))
  trivial
theorem rk_Take_6 : True := by
  k_with "use:takes" => (repeat' (first | exact Takes.nil | exact Take1.head | refine' Takes.cons ?_ ?_ | refine' Take1.tail ?_))
  trivial
theorem rk_Take_7 : True := by
  k_with "use:apart" => (((try dsimp only); repeat' (first | assumption | exact List.forall_mem_nil _ | refine' List.forall_mem_cons.mpr ⟨_, _⟩ | (intro x9 hx9; exact absurd hx9 (by simp)) | (dsimp only; first | assumption | exact Ne.symm (by assumption)) | k_ne)))
  trivial
theorem rk_Take_8 : True := by
  k_with "use:room" => (first | (refine' room3 ?h9 ?e9; (case h9 => assumption); (case e9 => exact rfl)) | (refine' room_le ?h8 ?e8; (case h8 => assumption); (case e8 => exact rfl)) | ((try dsimp only [top, Around.deeper]); omega))
  trivial
theorem rk_Take_9 : True := by
  k_with "use:le" => (first | assumption | exact le_mil (by assumption) | omega)
  trivial
theorem rk_Take_10 : True := by
  k_with "exec Raise some none" => ((k_here; refine raise_stmt rfl ?_))
  trivial
theorem rk_Take_11 : True := by
  k_with "call ref" => ((k_here; (with_reducible show wpAny _ _ (call (Value.ref 44) [_]) _ _ _); k_dflt (refine' fault_use ?B ?F ?X ?N ?T rfl rfl ?hd ?hu ?_; (case B => k_asm); (case F => k_asm); (case X => k_asm); (case N => k_asm); (case T => k_asm); (case hd => walk_at "use:room"); (case hu => walk_at "use:room"); intro e' tp' dx' h' tk' F' N')))
  trivial
theorem rk_Take_12 : True := by
  k_with "RaiseBack" => ((k_here; k_dflt (refine' ⟨_, _, _, rfl, faultCls ?X, News.get ?N (List.Mem.head _), ?_⟩; (case N => k_asm); (case X => k_in)); (try dsimp only)))
  trivial
theorem rk_Take_13 : True := by
  k_with "leaving ref" => ((k_here; k_dflt (first | (refine' leave_new_F ?B ?F ?N (List.Mem.head _) rfl rfl ?_; (case B => k_asm); (case F => k_asm); (case N => k_asm); intro h' hfl') | (refine' leave_fly rfl rfl ?fl ?_; (case fl => assumption); intro h' hfl'))))
  trivial

theorem rk_Take_14 : True := by
  k_with "k_ne" => (first | assumption | exact Ne.symm (by assumption) | walk_at "ne:lt" | ((try dsimp only); first | assumption | exact Ne.symm (by assumption) | walk_at "ne:lt" | (refine neN ?_; omega)))
  trivial
theorem rk_Take_15 : True := by
  k_with "k_all" => (first | assumption | exact List.forall_mem_nil _ | (refine neAll_of ?_; walk_at "use:conj"))
  trivial
theorem rk_Take_16 : True := by
  k_with "use:conj" => (first | exact True.intro | assumption | ((refine And.intro ?_ ?_) <;> walk_at "use:conj") | ((with_reducible show NeAll _ _); refine neAll_lt ?_; walk_at "lastlt") | k_ne)
  trivial
theorem rk_Take_17 : True := by
  k_with "ne:lt" => (first | (refine Nat.ne_of_lt ?_; walk_at "lt") | (refine Nat.ne_of_gt ?_; walk_at "lt"))
  trivial
theorem rk_Take_18 : True := by
  k_with "lt" => (with_reducible first | assumption | exact pj0 (by assumption) | exact pj1 (by assumption) | exact pj2 (by assumption) | exact pj3 (by assumption) | exact pj4 (by assumption) | exact pj5 (by assumption) | exact pj6 (by assumption) | exact pj7 (by assumption) | exact pj8 (by assumption) | exact pj9 (by assumption) | exact pj10 (by assumption) | exact pj11 (by assumption))
  trivial
theorem rk_Take_19 : True := by
  k_with "lastlt" => (with_reducible first | assumption | exact lk1 (by assumption) | exact lk2 (by assumption) | exact lk3 (by assumption) | exact lk4 (by assumption) | exact lk5 (by assumption) | exact lk6 (by assumption) | exact lk7 (by assumption))
  trivial
theorem rk_Take_20 : True := by
  k_with "use:apart" => (walk_at "use:conj")
  trivial
theorem rk_Take_21 : True := by
  k_with "use:sides" => (((case B => k_asm); (case F => k_asm); (case X => k_asm); (case N => k_asm); (case T => k_asm); (case tk => walk_at "use:takes"); (case dj => walk_at "use:apart"); (case hd => walk_at "use:room"); (case hu => walk_at "use:room")))
  trivial
theorem rk_Take_22 : True := by
  k_with "use:in" => ((intro h' tk' F' N' hlt'; (try dsimp only [List.cons_append, List.nil_append] at N'); (try dsimp only [AllLt] at hlt'); (try dsimp only); (try k_sweep)))
  trivial

theorem rk_Take_23 : True := by
  k_with "subscriptTail Name Constant ref int" => ((k_here; k_dflt (refine' item_lit ?l ?a ?b ?x ?_ ?s; (case l => is_list); (case a => decide); (case b => decide); (case x => exact rfl); (case s => with_unfolding_all rfl)); (try dsimp only)))
  trivial
theorem rk_Take_24 : True := by
  k_with "binaryOp Mult int int" => ((k_here; k_dflt (refine mul_int ?_ (IntMulOk.of_left (fm_bits _))); (try dsimp only)))
  trivial
set_option pp.deepTerms false
set_option pp.proofs false
set_option maxHeartbeats 8000000 in
theorem take_fn {sr : Addr} {so : Obj} {top : Int} {tt : Tok} (hs : Src so) (h1 : 1 ≤ top) (h2 : top ≤ 100) :
    Fn prog w p loose mean mg mb 234 1 40 [.ref sr, .int top tt] [(sr, so)]
      (PK fun _ C => ∀ k t so', 0 ≤ k → k < top → Src so' → C (.int k t) [(sr, so')]) False := by
  obtain ⟨a, b, ta, tb, n, ha, rfl⟩ := hs
  refine' Fn.intro (binds := [(Str.ofString "source", .ref sr), (Str.ofString "top", .int top tt)]) ?ho ?hcd ?hb ?hl ?hd ?_ ?c2 ?c3 ?c4 ?c5
  (case ho => k_is)
  (case hcd => k_is)
  (case hb => (intro s0 hX0; exact BindsTo.of_eq rfl))
  (case hl => exact locs rfl)
  (case hd => first | decide | omega)
  (case c2 => exact rfl)
  (case c3 => exact rfl)
  (case c4 => exact rfl)
  (case c5 => decide)
  intro dp un gd l base g s Q E L' h₁ hdp hun B F N hlt X TP hL hret herr
  (try dsimp only)
  (try k_fold)
  k_steps
  all_goals (try (dsimp only; k_steps))
  all_goals (refine hret _ _ _ _ (Fr.keep (by assumption)) (own_of (by assumption)) (size_of (by assumption) hL) fun C k9 => k9 _ _ _ (Int.fmod_nonneg_of_pos _ (by omega)) (Int.fmod_lt_of_pos _ (by omega)) ⟨_, _, _, _, _, ?_, rfl⟩)
  · exact Int.fdiv_nonneg ha (by omega)
  · exact ha
end
end
section
theorem rk_Law1_0 : True := by
  k_with_none
  trivial


section
variable {prog : Program} {w : World} {p : Program} {loose : List Str} {mean : ExcName → Option Value} {mg mb : Str → Option Value}

theorem item_mem {A : Around} {E : Value → Shared → Prop} {s : Shared} {value slice : Expr} {l : Addr} {vs : List Value} {k : Int} {u : Tok} {Q : Value → Shared → Prop}
    (hl : s.heap.IsList l vs.toArray) (h0 : 0 ≤ k) (hk : k < vs.length) (hz : vs.length ≤ 100) (h : ∀ v ∈ vs, Q v s)
    (hs : subscripted slice false (.ref l) (.int k u) = operate [.ref l, .int k u] (getItem (.ref l) (.int k u)) := by with_unfolding_all rfl) :
    wpAny (model prog w) A (subscriptTail value slice (.ref l) (.int k u)) Q E s := by
  have hlt : k.toNat < vs.length := by omega
  exact item_lit hl h0 (by omega) (List.getElem?_eq_getElem hlt) (h _ (List.getElem_mem hlt)) hs
theorem strs_mem {v : Value} : ∀ {vs : List Value} {xs : List Str}, StrsAre vs xs → v ∈ vs → ∃ x t, v = .str x t ∧ x ∈ xs
  | _, _, .cons y t r, hv => by
    rcases List.mem_cons.mp hv with rfl | hv
    · exact ⟨y, t, rfl, .head _⟩
    · obtain ⟨x, t', e, hx⟩ := strs_mem r hv
      exact ⟨x, t', e, .tail _ hx⟩
theorem len_lit {A : Around} {E : Value → Shared → Prop} {s : Shared} {l : Addr} {vs : List Value} {Q : Value → Shared → Prop} (hl : s.heap.IsList l vs.toArray) (hz : vs.length ≤ 100) (h : Q (.int (vs.length : Int) (s.toks + 1)) { s with toks := s.toks + 1 + 1 }) :
    wpAny (model prog w) A (call (.builtin "len") [.ref l]) Q E s := by
  refine Calls.call_len_list hl (by rw [List.size_toArray]; omega) ?_
  rw [List.size_toArray]
  exact h
theorem rk_Law1_1 : True := by
  k_with "k_room" => (((try simp only [depth_under_make, depth_under_kw, depth_in1, depth_deeper, depth_caller]); (try dsimp only [top]); omega))
  trivial
theorem rk_Law1_2 : True := by
  k_with "k_units" => (((try simp only [units_in1, units_deeper, Around.mark_units]); (try dsimp only [top]); omega))
  trivial
theorem rk_Law1_3 : True := by
  k_with "units_room" => (((try simp only [units_in1, units_deeper, Around.mark_units]); (try dsimp only [top]); omega))
  trivial
theorem rk_Law1_4 : True := by
  k_with "k_ne" => (((try dsimp only); first | assumption | exact Ne.symm (by assumption) | (refine neN ?_; omega)))
  trivial
theorem rk_Law1_5 : True := by
  k_with "k_all" => (first | assumption | exact List.forall_mem_nil _ | (refine' List.forall_mem_cons.mpr ⟨?a, ?b⟩; (case a => k_ne); (case b => k_all)))
  trivial
theorem rk_Law1_6 : True := by
  k_with "use:takes" => (repeat' (first | exact Takes.nil | exact Take1.head | refine' Takes.cons ?_ ?_ | refine' Take1.tail ?_))
  trivial
theorem rk_Law1_7 : True := by
  k_with "use:apart" => (((try dsimp only); repeat' (first | assumption | exact List.forall_mem_nil _ | refine' List.forall_mem_cons.mpr ⟨_, _⟩ | (intro x9 hx9; exact absurd hx9 (by simp)) | (dsimp only; first | assumption | exact Ne.symm (by assumption)) | k_ne)))
  trivial
theorem rk_Law1_8 : True := by
  k_with "use:room" => (first | (refine' room3 ?h9 ?e9; (case h9 => assumption); (case e9 => exact rfl)) | (refine' room_le ?h8 ?e8; (case h8 => assumption); (case e8 => exact rfl)) | ((try dsimp only [top, Around.deeper]); omega))
  trivial
theorem rk_Law1_9 : True := by
  k_with "use:le" => (first | assumption | exact le_mil (by assumption) | omega)
  trivial
theorem rk_Law1_10 : True := by
  k_with "exec Raise some none" => ((k_here; refine raise_stmt rfl ?_))
  trivial
theorem rk_Law1_11 : True := by
  k_with "call ref" => ((k_here; (with_reducible show wpAny _ _ (call (Value.ref 44) [_]) _ _ _); k_dflt (refine' fault_use ?B ?F ?X ?N ?T rfl rfl ?hd ?hu ?_; (case B => k_asm); (case F => k_asm); (case X => k_asm); (case N => k_asm); (case T => k_asm); (case hd => walk_at "use:room"); (case hu => walk_at "use:room"); intro e' tp' dx' h' tk' F' N')))
  trivial
theorem rk_Law1_12 : True := by
  k_with "RaiseBack" => ((k_here; k_dflt (refine' ⟨_, _, _, rfl, faultCls ?X, News.get ?N (List.Mem.head _), ?_⟩; (case N => k_asm); (case X => k_in)); (try dsimp only)))
  trivial
theorem rk_Law1_13 : True := by
  k_with "leaving ref" => ((k_here; k_dflt (first | (refine' leave_new_F ?B ?F ?N (List.Mem.head _) rfl rfl ?_; (case B => k_asm); (case F => k_asm); (case N => k_asm); intro h' hfl') | (refine' leave_fly rfl rfl ?fl ?_; (case fl => assumption); intro h' hfl'))))
  trivial

theorem rk_Law1_14 : True := by
  k_with "k_ne" => (first | assumption | exact Ne.symm (by assumption) | walk_at "ne:lt" | ((try dsimp only); first | assumption | exact Ne.symm (by assumption) | walk_at "ne:lt" | (refine neN ?_; omega)))
  trivial
theorem rk_Law1_15 : True := by
  k_with "k_all" => (first | assumption | exact List.forall_mem_nil _ | (refine neAll_of ?_; walk_at "use:conj"))
  trivial
theorem rk_Law1_16 : True := by
  k_with "use:conj" => (first | exact True.intro | assumption | ((refine And.intro ?_ ?_) <;> walk_at "use:conj") | ((with_reducible show NeAll _ _); refine neAll_lt ?_; walk_at "lastlt") | k_ne)
  trivial
theorem rk_Law1_17 : True := by
  k_with "ne:lt" => (first | (refine Nat.ne_of_lt ?_; walk_at "lt") | (refine Nat.ne_of_gt ?_; walk_at "lt"))
  trivial
theorem rk_Law1_18 : True := by
  k_with "lt" => (with_reducible first | assumption | exact pj0 (by assumption) | exact pj1 (by assumption) | exact pj2 (by assumption) | exact pj3 (by assumption) | exact pj4 (by assumption) | exact pj5 (by assumption) | exact pj6 (by assumption) | exact pj7 (by assumption) | exact pj8 (by assumption) | exact pj9 (by assumption) | exact pj10 (by assumption) | exact pj11 (by assumption))
  trivial
theorem rk_Law1_19 : True := by
  k_with "lastlt" => (with_reducible first | assumption | exact lk1 (by assumption) | exact lk2 (by assumption) | exact lk3 (by assumption) | exact lk4 (by assumption) | exact lk5 (by assumption) | exact lk6 (by assumption) | exact lk7 (by assumption))
  trivial
theorem rk_Law1_20 : True := by
  k_with "use:apart" => (walk_at "use:conj")
  trivial
theorem rk_Law1_21 : True := by
  k_with "use:sides" => (((case B => k_asm); (case F => k_asm); (case X => k_asm); (case N => k_asm); (case T => k_asm); (case tk => walk_at "use:takes"); (case dj => walk_at "use:apart"); (case hd => walk_at "use:room"); (case hu => walk_at "use:room")))
  trivial
theorem rk_Law1_22 : True := by
  k_with "use:in" => ((intro h' tk' F' N' hlt'; (try dsimp only [List.cons_append, List.nil_append] at N'); (try dsimp only [AllLt] at hlt'); (try dsimp only); (try k_sweep)))
  trivial

theorem rk_Law1_23 : True := by
  k_with "call builtin:len" => ((k_here; k_dflt (refine' len_lit ?l ?z ?_; (case l => is_list); (case z => assumption)); (try dsimp only)))
  trivial
theorem rk_Law1_24 : True := by
  k_with "call ref" => ((k_here; (with_reducible show wpAny _ _ (call (Value.ref 234) _) _ _ _); k_dflt ((refine' Fn.useOk (take_fn ?u1 ?u2 ?u3) ?B ?F ?X ?N ?T rfl rfl ?tk ?dj ?hd ?hu ?_); walk_at "use:sides"; (case u1 => assumption); (case u2 => omega); (case u3 => omega); (intro k' t' so' hk0 hk1 hS'); walk_at "use:in")))
  trivial
theorem rk_Law1_25 : True := by
  k_with "subscriptTail" => ((k_here; (with_reducible show wpAny _ _ (subscriptTail _ _ (Value.ref _) (Value.int _ _)) _ _ _); k_dflt (refine' item_mem ?l ?a ?b ?x ?_ ?s; (case l => is_list); (case a => assumption); (case b => assumption); (case x => omega); (case s => with_unfolding_all rfl)); intro v' hv'; (try dsimp only)))
  trivial
set_option pp.deepTerms false
set_option pp.proofs false
set_option maxHeartbeats 8000000 in
theorem one_fn {sr th : Addr} {so : Obj} {vs : List Value} {n : Nat} (hn : th ≠ sr) (hs : Src so) (h1 : 1 ≤ vs.length) (h2 : vs.length ≤ 100) :
    Fn prog w p loose mean mg mb 241 2 60 [.ref sr, .ref th] [(sr, so), (th, W.listOf vs.toArray n)]
      (PK fun _ C => ∀ v so', v ∈ vs → Src so' → C v [(sr, so')]) False := by
  refine' Fn.intro (binds := [(Str.ofString "source", .ref sr), (Str.ofString "things", .ref th)]) ?ho ?hcd ?hb ?hl ?hd ?_ ?c2 ?c3 ?c4 ?c5
  (case ho => k_is)
  (case hcd => k_is)
  (case hb => (intro s0 hX0; exact BindsTo.of_eq rfl))
  (case hl => exact locs rfl)
  (case hd => first | decide | omega)
  (case c2 => exact rfl)
  (case c3 => exact rfl)
  (case c4 => exact rfl)
  (case c5 => decide)
  intro dp un gd l base g s Q E L' h₁ hdp hun B F N hlt X TP hL hret herr
  (try dsimp only)
  (try k_fold)
  k_steps

  refine' hret _ ([(sr, so')]) _ _ (Fr.keep (by assumption)) (own_takes (by assumption) ?tk9) (size_of (by assumption) hL) ?_
  (case tk9 => walk_at "use:takes")
  exact fun C k9 => k9 _ _ hv' hS'
theorem one_strs {sr th : Addr} {so : Obj} {vs : List Value} {xs : List Str} {n : Nat} (hn : th ≠ sr) (hs : Src so) (hx : StrsAre vs xs) (h1 : 1 ≤ vs.length) (h2 : vs.length ≤ 100) :
    Fn prog w p loose mean mg mb 241 2 60 [.ref sr, .ref th] [(sr, so), (th, W.listOf vs.toArray n)]
      (PK fun _ C => ∀ x t so', x ∈ xs → Src so' → C (.str x t) [(sr, so')]) False :=
  Fn.mono (one_fn hn hs h1 h2) (fun _ _ _ h C k => h C fun v so' hv hS => by
    obtain ⟨x, t, e, hx⟩ := strs_mem hx hv
    subst e
    exact k x t so' hx hS) (fun h => h)
end
end
section
theorem rk_Law2_0 : True := by
  k_with_none
  trivial


noncomputable def valP : List (Str × Str) := [(Str.ofString "", Str.ofString ""), (Str.ofString "v w", Str.ofString "v w"), (Str.ofString "&lt;&#65;", Str.ofString "<A"), (Str.ofString "&quot;&apos;&amp;", Str.ofString "\"'&"), (Str.ofString "a>b", Str.ofString "a>b")]
noncomputable def txtP : List (Str × Str) := [(Str.ofString "x y", Str.ofString "x y"), (Str.ofString "&#x42;&gt;", Str.ofString "B>"), (Str.ofString "<![CDATA[<&]]>", Str.ofString "<&"), (Str.ofString "<!--c<d-->", Str.ofString ""), (Str.ofString "<?go <on?>", Str.ofString ""), (Str.ofString "", Str.ofString "")]
section
variable {prog : Program} {w : World} {p : Program} {loose : List Str} {mean : ExcName → Option Value} {mg mb : Str → Option Value}

/-- a new tuple, its place behind the frame's -/
theorem newTuple_L {A : Around} {E : Value → Shared → Prop} {s : Shared} {h₀ : Heap} {L : Addr} {m : Str → Option Value} {news : List (Addr × Obj)} {vs : List Value} {Q : Value → Shared → Prop} (F : Fr h₀ L s.heap m) (N : News h₀ L s.heap news)
    (h : ∀ D h', Fr h₀ L h' m → News h₀ L h' ((D, tupObj vs) :: news) → @LT.lt Nat _ L D ∧ AllLt D news → Q (.ref D) { s with heap := h' }) (hsz : vs.length ≤ 1000) :
    wpAny (model prog w) A (newTuple vs) Q E s :=
  newTuple_N F N (fun h' F' N' => h _ h' F' N' ⟨by obtain ⟨_, _, _, ho, _⟩ := F.ns; exact Heap.lt_size ho, allLt_of fun p hp => Heap.lt_size (N p hp).1⟩) (by rw [sizeLine_eq]; omega)
theorem newList_L {A : Around} {E : Value → Shared → Prop} {s : Shared} {h₀ : Heap} {L : Addr} {m : Str → Option Value} {news : List (Addr × Obj)} {vs : List Value} {Q : Value → Shared → Prop} (F : Fr h₀ L s.heap m) (N : News h₀ L s.heap news)
    (h : ∀ D h', Fr h₀ L h' m → News h₀ L h' ((D, W.listOf vs.toArray 0) :: news) → @LT.lt Nat _ L D ∧ AllLt D news → Q (.ref D) { s with heap := h' }) (hsz : vs.length ≤ 1000) :
    wpAny (model prog w) A (newList vs) Q E s :=
  newList_N F N (fun h' F' N' => h _ h' F' N' ⟨by obtain ⟨_, _, _, ho, _⟩ := F.ns; exact Heap.lt_size ho, allLt_of fun p hp => Heap.lt_size (N p hp).1⟩) (by rw [sizeLine_eq]; omega)
theorem rk_Law2_1 : True := by
  k_with "k_room" => (((try simp only [depth_under_make, depth_under_kw, depth_in1, depth_deeper, depth_caller]); (try dsimp only [top]); omega))
  trivial
theorem rk_Law2_2 : True := by
  k_with "k_units" => (((try simp only [units_in1, units_deeper, Around.mark_units]); (try dsimp only [top]); omega))
  trivial
theorem rk_Law2_3 : True := by
  k_with "units_room" => (((try simp only [units_in1, units_deeper, Around.mark_units]); (try dsimp only [top]); omega))
  trivial
theorem rk_Law2_4 : True := by
  k_with "k_ne" => (((try dsimp only); first | assumption | exact Ne.symm (by assumption) | (refine neN ?_; omega)))
  trivial
theorem rk_Law2_5 : True := by
  k_with "k_all" => (first | assumption | exact List.forall_mem_nil _ | (refine' List.forall_mem_cons.mpr ⟨?a, ?b⟩; (case a => k_ne); (case b => k_all)))
  trivial
theorem rk_Law2_6 : True := by
  k_with "use:takes" => (repeat' (first | exact Takes.nil | exact Take1.head | refine' Takes.cons ?_ ?_ | refine' Take1.tail ?_))
  trivial
theorem rk_Law2_7 : True := by
  k_with "use:apart" => (((try dsimp only); repeat' (first | assumption | exact List.forall_mem_nil _ | refine' List.forall_mem_cons.mpr ⟨_, _⟩ | (intro x9 hx9; exact absurd hx9 (by simp)) | (dsimp only; first | assumption | exact Ne.symm (by assumption)) | k_ne)))
  trivial
theorem rk_Law2_8 : True := by
  k_with "use:room" => (first | (refine' room3 ?h9 ?e9; (case h9 => assumption); (case e9 => exact rfl)) | (refine' room_le ?h8 ?e8; (case h8 => assumption); (case e8 => exact rfl)) | ((try dsimp only [top, Around.deeper]); omega))
  trivial
theorem rk_Law2_9 : True := by
  k_with "use:le" => (first | assumption | exact le_mil (by assumption) | omega)
  trivial
theorem rk_Law2_10 : True := by
  k_with "exec Raise some none" => ((k_here; refine raise_stmt rfl ?_))
  trivial
theorem rk_Law2_11 : True := by
  k_with "call ref" => ((k_here; (with_reducible show wpAny _ _ (call (Value.ref 44) [_]) _ _ _); k_dflt (refine' fault_use ?B ?F ?X ?N ?T rfl rfl ?hd ?hu ?_; (case B => k_asm); (case F => k_asm); (case X => k_asm); (case N => k_asm); (case T => k_asm); (case hd => walk_at "use:room"); (case hu => walk_at "use:room"); intro e' tp' dx' h' tk' F' N')))
  trivial
theorem rk_Law2_12 : True := by
  k_with "RaiseBack" => ((k_here; k_dflt (refine' ⟨_, _, _, rfl, faultCls ?X, News.get ?N (List.Mem.head _), ?_⟩; (case N => k_asm); (case X => k_in)); (try dsimp only)))
  trivial
theorem rk_Law2_13 : True := by
  k_with "leaving ref" => ((k_here; k_dflt (first | (refine' leave_new_F ?B ?F ?N (List.Mem.head _) rfl rfl ?_; (case B => k_asm); (case F => k_asm); (case N => k_asm); intro h' hfl') | (refine' leave_fly rfl rfl ?fl ?_; (case fl => assumption); intro h' hfl'))))
  trivial

theorem rk_Law2_14 : True := by
  k_with "k_ne" => (first | assumption | exact Ne.symm (by assumption) | walk_at "ne:lt" | ((try dsimp only); first | assumption | exact Ne.symm (by assumption) | walk_at "ne:lt" | (refine neN ?_; omega)))
  trivial
theorem rk_Law2_15 : True := by
  k_with "k_all" => (first | assumption | exact List.forall_mem_nil _ | (refine neAll_of ?_; walk_at "use:conj"))
  trivial
theorem rk_Law2_16 : True := by
  k_with "use:conj" => (first | exact True.intro | assumption | ((refine And.intro ?_ ?_) <;> walk_at "use:conj") | ((with_reducible show NeAll _ _); refine neAll_lt ?_; walk_at "lastlt") | k_ne)
  trivial
theorem rk_Law2_17 : True := by
  k_with "ne:lt" => (first | (refine Nat.ne_of_lt ?_; walk_at "lt") | (refine Nat.ne_of_gt ?_; walk_at "lt"))
  trivial
theorem rk_Law2_18 : True := by
  k_with "lt" => (with_reducible first | assumption | exact pj0 (by assumption) | exact pj1 (by assumption) | exact pj2 (by assumption) | exact pj3 (by assumption) | exact pj4 (by assumption) | exact pj5 (by assumption) | exact pj6 (by assumption) | exact pj7 (by assumption) | exact pj8 (by assumption) | exact pj9 (by assumption) | exact pj10 (by assumption) | exact pj11 (by assumption))
  trivial
theorem rk_Law2_19 : True := by
  k_with "lastlt" => (with_reducible first | assumption | exact lk1 (by assumption) | exact lk2 (by assumption) | exact lk3 (by assumption) | exact lk4 (by assumption) | exact lk5 (by assumption) | exact lk6 (by assumption) | exact lk7 (by assumption))
  trivial
theorem rk_Law2_20 : True := by
  k_with "use:apart" => (walk_at "use:conj")
  trivial
theorem rk_Law2_21 : True := by
  k_with "use:sides" => (((case B => k_asm); (case F => k_asm); (case X => k_asm); (case N => k_asm); (case T => k_asm); (case tk => walk_at "use:takes"); (case dj => walk_at "use:apart"); (case hd => walk_at "use:room"); (case hu => walk_at "use:room")))
  trivial
theorem rk_Law2_22 : True := by
  k_with "use:in" => ((intro h' tk' F' N' hlt'; (try dsimp only [List.cons_append, List.nil_append] at N'); (try dsimp only [AllLt] at hlt'); (try dsimp only); (try k_sweep)))
  trivial

theorem rk_Law2_23 : True := by
  k_with "newTuple" => ((k_here; k_dflt (refine' newTuple_L ?k1 ?k2 ?_ ?z; (case k1 => k_asm); (case k2 => k_asm); (case z => exact Nat.le_of_ble_eq_true rfl)); intro D' h' F' N' hlt'; (try dsimp only [AllLt] at hlt'); (try dsimp only); (try k_sweep)))
  trivial
theorem rk_Law2_24 : True := by
  k_with "newList" => ((k_here; k_dflt (refine' newList_L ?k1 ?k2 ?_ ?z; (case k1 => k_asm); (case k2 => k_asm); (case z => exact Nat.le_of_ble_eq_true rfl)); intro D' h' F' N' hlt'; (try dsimp only [AllLt] at hlt'); (try dsimp only); (try k_sweep)))
  trivial

theorem rk_Law2_25 : True := by
  k_with "lmem" => (first | (with_reducible exact List.mem_cons_self) | (refine List.mem_cons_of_mem _ ?_; walk_at "lmem"))
  trivial
theorem rk_Law2_26 : True := by
  k_with "call ref" => ((k_here; (with_reducible show wpAny _ _ (call (Value.ref 241) _) _ _ _); k_dflt ((refine' Fn.useOk (one_fn ?u1 ?u2 ?u3 ?u4) ?B ?F ?X ?N ?T rfl rfl ?tk ?dj ?hd ?hu ?_); walk_at "use:sides"; (case u1 => k_ne); (case u2 => assumption); (case u3 => exact Nat.le_of_ble_eq_true rfl); (case u4 => exact Nat.le_of_ble_eq_true rfl); (intro v' so' hv' hS'); walk_at "use:in")))
  trivial
set_option pp.deepTerms false
set_option pp.proofs false
set_option maxHeartbeats 8000000 in
theorem value_fn {sr : Addr} {so : Obj} (hs : Src so) :
    Fn prog w p loose mean mg mb 248 4 80 [.ref sr] [(sr, so)]
      (PK fun b C => ∀ x y tx ty tup so', (x, y) ∈ valP → Src so' → @LE.le Nat _ b tup → C (.ref tup) [(sr, so'), (tup, tupObj [.str x tx, .str y ty])]) False := by
  refine' Fn.intro (binds := [(Str.ofString "source", .ref sr)]) ?ho ?hcd ?hb ?hl ?hd ?_ ?c2 ?c3 ?c4 ?c5
  (case ho => k_is)
  (case hcd => k_is)
  (case hb => (intro s0 hX0; exact BindsTo.of_eq rfl))
  (case hl => exact locs rfl)
  (case hd => first | decide | omega)
  (case c2 => exact rfl)
  (case c3 => exact rfl)
  (case c4 => exact rfl)
  (case c5 => decide)
  intro dp un gd l base g s Q E L' h₁ hdp hun B F N hlt X TP hL hret herr
  (try dsimp only)
  (try k_fold)
  k_steps
  all_goals (try (k_unfold; (try dsimp only)))
  simp only [List.mem_cons, List.not_mem_nil, or_false] at hv'
  rcases hv' with rfl | rfl | rfl | rfl | rfl
  all_goals (refine' hret _ [(sr, so'), (_, tupObj [.str _ _, .str _ _])] _ _ (Fr.keep (by assumption)) (own_takes (by assumption) ?_) (size_of (by assumption) hL) fun C k9 => k9 _ _ _ _ _ _ ?_ hS' ?_)
  any_goals (with_reducible show Takes _ _ _; walk_at "use:takes")
  any_goals (with_reducible show _ ∈ _; unfold valP; walk_at "lmem")
  all_goals omega
set_option maxHeartbeats 8000000 in
theorem text_fn {sr : Addr} {so : Obj} (hs : Src so) :
    Fn prog w p loose mean mg mb 255 4 80 [.ref sr] [(sr, so)]
      (PK fun b C => ∀ x y tx ty tup so', (x, y) ∈ txtP → Src so' → @LE.le Nat _ b tup → C (.ref tup) [(sr, so'), (tup, tupObj [.str x tx, .str y ty])]) False := by
  refine' Fn.intro (binds := [(Str.ofString "source", .ref sr)]) ?ho ?hcd ?hb ?hl ?hd ?_ ?c2 ?c3 ?c4 ?c5
  (case ho => k_is)
  (case hcd => k_is)
  (case hb => (intro s0 hX0; exact BindsTo.of_eq rfl))
  (case hl => exact locs rfl)
  (case hd => first | decide | omega)
  (case c2 => exact rfl)
  (case c3 => exact rfl)
  (case c4 => exact rfl)
  (case c5 => decide)
  intro dp un gd l base g s Q E L' h₁ hdp hun B F N hlt X TP hL hret herr
  (try dsimp only)
  (try k_fold)
  k_steps
  all_goals (try (k_unfold; (try dsimp only)))
  simp only [List.mem_cons, List.not_mem_nil, or_false] at hv'
  rcases hv' with rfl | rfl | rfl | rfl | rfl | rfl
  all_goals (refine' hret _ [(sr, so'), (_, tupObj [.str _ _, .str _ _])] _ _ (Fr.keep (by assumption)) (own_takes (by assumption) ?_) (size_of (by assumption) hL) fun C k9 => k9 _ _ _ _ _ _ ?_ hS' ?_)
  any_goals (with_reducible show Takes _ _ _; walk_at "use:takes")
  any_goals (with_reducible show _ ∈ _; unfold txtP; walk_at "lmem")
  all_goals omega
end
end
section
/-! what the law writes -/
noncomputable def lstP (p : Str × Str) : List Nat × List Nat := (lst p.1, lst p.2)
noncomputable def valL : List (List Nat × List Nat) := valP.map lstP
noncomputable def txtL : List (List Nat × List Nat) := txtP.map lstP
noncomputable def nameL : List (List Nat) := [Str.ofString "g", Str.ofString "path", Str.ofString "xlink:a"].map lst
noncomputable def dK : List Nat := lst (Str.ofString "d")
noncomputable def xK : List Nat := lst (Str.ofString "xml:id")
/-- one attribute's text and value -/
noncomputable def WA (key T v : List Nat) : Prop := ∃ sp eq q raw, sp ∈ [[32], [10]] ∧ eq ∈ [[61], [32, 61, 32]] ∧ q ∈ [[34], [39]] ∧ (raw, v) ∈ valL ∧ T = sp ++ key ++ eq ++ q ++ raw ++ q
noncomputable def WAts (T : List Nat) (as : Ats) : Prop := (T = [] ∧ as = []) ∨ (∃ v, WA dK T v ∧ as = [(dK, v)]) ∨ (∃ T1 T2 v1 v2, WA dK T1 v1 ∧ WA xK T2 v2 ∧ T = T1 ++ T2 ∧ as = [(dK, v1), (xK, v2)])
mutual
/-- an element's text and tree; f: how much deeper it may go -/
inductive WrEl : Nat → List Nat → Tr → Prop
  | leaf {f : Nat} {nm T sp : List Nat} {as : Ats} : nm ∈ nameL → WAts T as → sp ∈ [[], [32]] → WrEl f ([60] ++ nm ++ T ++ sp ++ [47, 62]) (.mk nm as [] [])
  | node {f n : Nat} {nm T sp sp2 body tx : List Nat} {as : Ats} {kids : List Tr} : nm ∈ nameL → WAts T as → sp ∈ [[], [32]] → sp2 ∈ [[], [32]] → n ≤ 2 → WrB f n body kids tx →
      WrEl f ([60] ++ nm ++ T ++ sp ++ [62] ++ body ++ [60, 47] ++ nm ++ sp2 ++ [62]) (.mk nm as kids tx)
/-- what stands within an element, after n turns -/
inductive WrB : Nat → Nat → List Nat → List Tr → List Nat → Prop
  | nil {f : Nat} : WrB f 0 [] [] []
  | text {f n : Nat} {b raw plain tx : List Nat} {kids : List Tr} : WrB f n b kids tx → (raw, plain) ∈ txtL → WrB f (n + 1) (b ++ raw) kids (tx ++ plain)
  | kid {f n : Nat} {b raw plain tx more : List Nat} {kids : List Tr} {t : Tr} : WrB (f + 1) n b kids tx → (raw, plain) ∈ txtL → WrEl f more t → WrB (f + 1) (n + 1) (b ++ raw ++ more) (kids ++ [t]) (tx ++ plain)
end
mutual
/-- the ledger bears a row -/
inductive RowIn (prog : Program) (w : World) (X : List (Addr × Obj)) : Addr → Tr → Prop
  | mk {e kd li : Addr} {nm tx : List Nat} {as : Ats} {kids : List Tr} {tn ty : Tok} {ko : Obj} {kv : Array Value} {kn : Nat} :
      (e, tupObj [.str (txt nm) tn, .ref kd, .ref li, .str (txt tx) ty]) ∈ X → (li, W.listOf kv kn) ∈ X → (kd, ko) ∈ X → AtD prog w ko as → (kd == sysModules) = false → RowsIn prog w X kv.toList kids → RowIn prog w X e (.mk nm as kids tx)
inductive RowsIn (prog : Program) (w : World) (X : List (Addr × Obj)) : List Value → List Tr → Prop
  | nil : RowsIn prog w X [] []
  | cons {e : Addr} {t : Tr} {vs : List Value} {ts : List Tr} : RowIn prog w X e t → RowsIn prog w X vs ts → RowsIn prog w X (.ref e :: vs) (t :: ts)
end
section
variable {prog : Program} {w : World}
mutual
theorem RowIn.mono {X Y : List (Addr × Obj)} (h : ∀ p ∈ X, p ∈ Y) : ∀ {e : Addr} {t : Tr}, RowIn prog w X e t → RowIn prog w Y e t
  | _, _, .mk h1 h2 h3 h4 h5 h6 => .mk (h _ h1) (h _ h2) (h _ h3) h4 h5 (RowsIn.mono h h6)
theorem RowsIn.mono {X Y : List (Addr × Obj)} (h : ∀ p ∈ X, p ∈ Y) : ∀ {vs : List Value} {ts : List Tr}, RowsIn prog w X vs ts → RowsIn prog w Y vs ts
  | _, _, .nil => .nil
  | _, _, .cons h1 h2 => .cons (RowIn.mono h h1) (RowsIn.mono h h2)
end
theorem RowsIn.snoc {X : List (Addr × Obj)} {e : Addr} {t : Tr} (h1 : RowIn prog w X e t) : ∀ {vs : List Value} {ts : List Tr}, RowsIn prog w X vs ts → RowsIn prog w X (vs ++ [.ref e]) (ts ++ [t])
  | _, _, .nil => .cons h1 .nil
  | _, _, .cons h2 h3 => .cons h2 (RowsIn.snoc h1 h3)
theorem RowsIn.len {X : List (Addr × Obj)} : ∀ {vs : List Value} {ts : List Tr}, RowsIn prog w X vs ts → vs.length = ts.length
  | _, _, .nil => rfl
  | _, _, .cons _ h => congrArg (· + 1) (RowsIn.len h)
end
theorem lens_of {l : List (List Nat)} {x : List Nat} {k : Nat} (h : l.all (·.length ≤ k) = true) (hx : x ∈ l) : x.length ≤ k := by
  have := List.all_eq_true.mp h x hx
  simpa using this
theorem pair_len {l : List (List Nat × List Nat)} {x y : List Nat} {k : Nat} (h : l.all (fun p => p.1.length ≤ k && p.2.length ≤ k) = true) (hx : (x, y) ∈ l) : x.length ≤ k ∧ y.length ≤ k := by
  have := List.all_eq_true.mp h (x, y) hx
  simpa using this
theorem WA.len {key T v : List Nat} (h : WA key T v) : T.length ≤ 30 + key.length ∧ v.length ≤ 20 := by
  obtain ⟨sp, eq, q, raw, h1, h2, h3, h4, rfl⟩ := h
  have a := lens_of (k := 1) (by decide) h1
  have b := lens_of (k := 3) (by decide) h2
  have c := lens_of (k := 1) (by decide) h3
  have d := pair_len (k := 20) (by decide +kernel) h4
  simp only [List.length_append]
  omega
theorem WAts.len {T : List Nat} {as : Ats} (h : WAts T as) : T.length ≤ 80 ∧ as.length ≤ 2 := by
  have e1 : dK.length = 1 := by decide +kernel
  have e2 : xK.length = 6 := by decide +kernel
  rcases h with ⟨rfl, rfl⟩ | ⟨v, h, rfl⟩ | ⟨T1, T2, v1, v2, h1, h2, rfl, rfl⟩
  · simp
  · have := h.len; simp; omega
  · have := h1.len; have := h2.len; simp; omega
noncomputable def elMax : Nat → Nat
  | 0 => 200
  | f + 1 => 200 + 2 * (20 + elMax f)
theorem elMax_mono (f : Nat) : 200 ≤ elMax f := by cases f <;> simp [elMax] <;> omega
mutual
theorem WrEl.len : ∀ {f : Nat} {T : List Nat} {t : Tr}, WrEl f T t → T.length ≤ elMax f
  | f, _, _, .leaf h1 h2 h3 => by
    have a := lens_of (k := 7) (by decide +kernel) h1
    have b := h2.len
    have c := lens_of (k := 1) (by decide) h3
    have d := elMax_mono f
    simp only [List.length_append, List.length_cons, List.length_nil]
    omega
  | f, _, _, .node h1 h2 h3 h4 h5 h6 => by
    have a := lens_of (k := 7) (by decide +kernel) h1
    have b := h2.len
    have c := lens_of (k := 1) (by decide) h3
    have c2 := lens_of (k := 1) (by decide) h4
    have d := WrB.len h6
    simp only [List.length_append, List.length_cons, List.length_nil]
    cases f with
    | zero => simp only [elMax] at *; omega
    | succ f =>
      simp only [elMax] at *
      rename_i n _ _ _ _ _ _ _ _
      have : n * (20 + elMax f) ≤ 2 * (20 + elMax f) := Nat.mul_le_mul_right _ h5
      omega
theorem WrB.len : ∀ {f n : Nat} {b tx : List Nat} {kids : List Tr}, WrB f n b kids tx → b.length ≤ n * (20 + (match f with | 0 => 0 | g + 1 => elMax g))
  | _, _, _, _, _, .nil => by simp
  | f, _, _, _, _, .text (n := n) h1 h2 => by
    have a := WrB.len h1
    have b := pair_len (k := 20) (by decide +kernel) h2
    simp only [List.length_append, Nat.add_mul, Nat.one_mul]
    omega
  | _, _, _, _, _, .kid (n := n) h1 h2 h3 => by
    have a := WrB.len h1
    have b := pair_len (k := 20) (by decide +kernel) h2
    have c := WrEl.len h3
    simp only [List.length_append, Nat.add_mul, Nat.one_mul] at *
    omega
end
end
section
/-! equality of values that may hold dicts: for one program and one world -/
open PySem.SeqAt AutoSeq1 MeetsSeq MeetsSeq2 MeetsSeq3 SeqRoads2
section
variable {prog : Program} {w : World} {A : Around} {E : Value → Shared → Prop} {s : Shared}
/-- two values are found equal -/
noncomputable def EqP (prog : Program) (w : World) (A : Around) (s : Shared) (y x : Value) : Prop :=
  ∀ (E : Value → Shared → Prop) (Q : Bool → Shared → Prop), Q true s → wpAny (model prog w) A (eqBool y x) Q E s
theorem EqP.of {y x : Value} {b : Bool} (h : EqAt A s y x b) (e : b = true) : EqP prog w A s y x := fun E Q hq => h prog w E Q (e ▸ hq)
theorem EqP.refs {a b : Addr} (h : ∀ (E Q : Value → Shared → Prop), Q (.bool true) s → wpAny (model prog w) A (richCompare .Eq (.ref a) (.ref b)) Q E s) : EqP prog w A s (.ref a) (.ref b) := by
  intro E Q hq
  by_cases e : a = b
  · subst e
    exact EqAt.same (.ref a) prog w E Q hq
  · unfold eqBool
    refine wpAny_holding ?_
    refine wpAny_ite_split (fun hab => absurd (by have := eq_of_beq hab; injection this) e) (fun _ => ?_)
    exact wpAny_bind (h E _ (wpAny_truthy_bool hq))
theorem tuple_eqP {l b : Addr} {vs us : List Value} {n n2 : Nat} {dd dd2 : Option Addr} {sl sl2 : Array (Option Value)} {Q : Value → Shared → Prop}
    (hl : s.heap.get? l = some { cls := .type "tuple", dict := dd, data := .seq vs.toArray n, slots := sl }) (hb : s.heap.get? b = some { cls := .type "tuple", dict := dd2, data := .seq us.toArray n2, slots := sl2 })
    (hsz : vs.length = us.length) (he : ∀ p ∈ vs.zip us, EqP prog w A.in1 s p.1 p.2) (hu : A.units < cLine) (hq : Q (.bool true) s) :
    wpAny (model prog w) A (richCompare .Eq (.ref l) (.ref b)) Q E s := by
  have ta : s.TypeIs (.ref l) "tuple" := ⟨_, hl, rfl⟩
  have tb : s.TypeIs (.ref b) "tuple" := ⟨_, hb, rfl⟩
  refine wpAny_richCompare_same_room (op := .Eq) ta tb F.slot_tuple_eq (wpAny_call_entry F.slot_tuple_eq ta F.entry_tuple_eq ?_ (F.args_tuple_eq_2 _ _)) hu
  obtain ⟨hp, g, d, tk, os⟩ := s
  have f2 := AutoSeq1.sub_tuple_tuple
  wp_walk using wpAny_loadPart' hl, wpAny_loadPart' hb, wpAny_forIn_list _ (fun rest b s' => b.1 = none ∧ s' = ⟨hp, g, d, tk, os⟩ ∧ ∀ p ∈ rest, EqP prog w A.in1 ⟨hp, g, d, tk, os⟩ p.1 p.2) _
  case turn =>
    rintro ⟨y, x⟩ rest b s' ⟨hb', rfl, hr⟩
    refine wpAny_bind (hr (y, x) List.mem_cons_self _ _ ?_)
    wp_walk
    exact ⟨rfl, rfl, fun p hp => hr p (List.mem_cons_of_mem _ hp)⟩
  case fin =>
    rintro ⟨b1, b2⟩ s' ⟨hb', rfl, hr⟩
    simp only at hb'
    subst hb'
    wp_walk
    simpa [Builtin.Tuple.tupleCompareSizes, hsz] using hq
  case h =>
    exact ⟨rfl, rfl, fun p hp => he p (by simpa using hp)⟩
theorem tuple_neP {l b : Addr} {vs us : List Value} {n n2 : Nat} {dd dd2 : Option Addr} {sl sl2 : Array (Option Value)} {Q : Value → Shared → Prop}
    (hl : s.heap.get? l = some { cls := .type "tuple", dict := dd, data := .seq vs.toArray n, slots := sl }) (hb : s.heap.get? b = some { cls := .type "tuple", dict := dd2, data := .seq us.toArray n2, slots := sl2 })
    (hsz : vs.length = us.length) (he : ∀ p ∈ vs.zip us, EqP prog w A.in1 s p.1 p.2) (hu : A.units < cLine) (hq : Q (.bool false) s) :
    wpAny (model prog w) A (richCompare .NotEq (.ref l) (.ref b)) Q E s := by
  have ta : s.TypeIs (.ref l) "tuple" := ⟨_, hl, rfl⟩
  have tb : s.TypeIs (.ref b) "tuple" := ⟨_, hb, rfl⟩
  refine wpAny_richCompare_same_room (op := .NotEq) ta tb F.slot_tuple_ne (wpAny_call_entry F.slot_tuple_ne ta F.entry_tuple_ne ?_ (F.args_tuple_ne_2 _ _)) hu
  obtain ⟨hp, g, d, tk, os⟩ := s
  have f2 := AutoSeq1.sub_tuple_tuple
  wp_walk using wpAny_loadPart' hl, wpAny_loadPart' hb, wpAny_forIn_list _ (fun rest b s' => b.1 = none ∧ s' = ⟨hp, g, d, tk, os⟩ ∧ ∀ p ∈ rest, EqP prog w A.in1 ⟨hp, g, d, tk, os⟩ p.1 p.2) _
  case turn =>
    rintro ⟨y, x⟩ rest b s' ⟨hb', rfl, hr⟩
    refine wpAny_bind (hr (y, x) List.mem_cons_self _ _ ?_)
    wp_walk
    exact ⟨rfl, rfl, fun p hp => hr p (List.mem_cons_of_mem _ hp)⟩
  case fin =>
    rintro ⟨b1, b2⟩ s' ⟨hb', rfl, hr⟩
    simp only at hb'
    subst hb'
    wp_walk
    simpa [Builtin.Tuple.tupleCompareSizes, hsz] using hq
  case h =>
    exact ⟨rfl, rfl, fun p hp => he p (by simpa using hp)⟩
/-- the list's loop, at one program and world -/
theorem list_loopP {l b : Addr} {vs us : Array Value} {n n2 : Nat} {dd dd2 : Option Addr} {sl sl2 : Array (Option Value)} (hsz : vs.size = us.size) {R : Result → Shared → Prop}
    (hl : s.heap.get? l = some { cls := .type "list", dict := dd, data := .seq vs n, slots := sl }) (hb : s.heap.get? b = some { cls := .type "list", dict := dd2, data := .seq us n2, slots := sl2 })
    (he : ∀ j (h1 : j < vs.size) (h2 : j < us.size), EqP prog w A.in1 s vs[j] us[j]) (hq : R (.ok (.ret (.bool true))) s) (k : Nat) :
    ∀ i : Nat, vs.size - i = k → wpAny (model prog w) A.in1 (Builtin.«list.__eq__.loop» ⟨[.ref l, .ref b, rawInt i, rawInt 2], []⟩)
      (fun fin s' => match fin with | .done f => R (.ok f) s' | .again c' => c'.quiet = true ∧ codeAny (model prog w) A c' R s') (fun e s' => R (.error e) s') s := by
  obtain ⟨hp, g, d, tk, os⟩ := s
  induction k with
  | zero =>
    intro i hk
    wp_walk using wpAny_loadPart' hl, wpAny_loadPart' hb
    rw [show vs[((i : Nat) : Int).toNat]? = none by simp; omega, show us[((i : Nat) : Int).toNat]? = none by simp; omega]
    wp_walk using wpAny_loadPart' hl, wpAny_loadPart' hb
    show R (.ok (.ret (.bool (vs.size == us.size)))) _
    rw [hsz, beq_self_eq_true]
    exact hq
  | succ k ih =>
    intro i hk
    have i1 : i < vs.size := by omega
    have i2 : i < us.size := by omega
    wp_walk using wpAny_loadPart' hl, wpAny_loadPart' hb
    rw [show vs[((i : Nat) : Int).toNat]? = some vs[i] by simp [i1], show us[((i : Nat) : Int).toNat]? = some us[i] by simp [i2]]
    refine wpAny_bind (he i i1 i2 _ _ ?_)
    wp_walk
    rw [show ((i : Int) + 1) = ((i + 1 : Nat) : Int) by push_cast; rfl]
    refine ⟨plainId_quiet plain_eq_loop _, codeAny_builtin entry_eq_loop ?_⟩
    rw [Around.under_plainId plain_eq_loop _]
    exact ih (i + 1) (by omega)
theorem list_eqP {l b : Addr} {vs us : Array Value} {n n2 : Nat} {dd dd2 : Option Addr} {sl sl2 : Array (Option Value)} {Q : Value → Shared → Prop} (hsz : vs.size = us.size)
    (hl : s.heap.get? l = some { cls := .type "list", dict := dd, data := .seq vs n, slots := sl }) (hb : s.heap.get? b = some { cls := .type "list", dict := dd2, data := .seq us n2, slots := sl2 })
    (he : ∀ j (h1 : j < vs.size) (h2 : j < us.size), EqP prog w A.in1 s vs[j] us[j]) (hu : A.units < cLine) (hq : Q (.bool true) s) :
    wpAny (model prog w) A (richCompare .Eq (.ref l) (.ref b)) Q E s := by
  have ta : s.TypeIs (.ref l) "list" := ⟨_, hl, rfl⟩
  have tb : s.TypeIs (.ref b) "list" := ⟨_, hb, rfl⟩
  refine wpAny_richCompare_same_room (op := .Eq) ta tb F.slot_list_eq (wpAny_call (codeAny_call_builtin F.slot_list_eq.plain F.entry_list_eq (F.slot_list_eq.check _ _ _ _ _ _ _ _ ta (F.args_list_eq_2 _ _) ?_))) hu
  have L := list_loopP (prog := prog) (w := w) (A := A) hsz (R := wants (fun v s' => v ≠ .notImplemented ∧ Q v s') E) hl hb he ⟨(fun x => nomatch x), hq⟩ _ 0 rfl
  obtain ⟨hp, g, d, tk, os⟩ := s
  have f3 := AutoSeq1.sub_list_list
  have hne : ¬ (vs.size != us.size) = true := by simp [hsz]
  wp_walk using wpAny_loadPart' hl, wpAny_loadPart' hb
  refine ⟨plainId_quiet plain_eq_loop _, codeAny_builtin entry_eq_loop ?_⟩
  rw [Around.under_plainId plain_eq_loop _]
  exact L
end
end
section
/-! two rows of one tree are equal -/
open PySem.SeqAt
mutual
/-- a tree at most n high, at most 100 children each -/
inductive Sh : Nat → Tr → Prop
  | mk {n : Nat} {nm tx : List Nat} {as : Ats} {kids : List Tr} : Shs n kids → kids.length ≤ 100 → Sh (n + 1) (.mk nm as kids tx)
inductive Shs : Nat → List Tr → Prop
  | nil {n : Nat} : Shs n []
  | cons {n : Nat} {t : Tr} {ts : List Tr} : Sh n t → Shs n ts → Shs n (t :: ts)
end
theorem Shs.snoc {n : Nat} {t : Tr} (h1 : Sh n t) : ∀ {ts : List Tr}, Shs n ts → Shs n (ts ++ [t])
  | _, .nil => .cons h1 .nil
  | _, .cons h h2 => .cons h (Shs.snoc h1 h2)
mutual
theorem WrEl.sh : ∀ {f : Nat} {T : List Nat} {t : Tr}, WrEl f T t → Sh (f + 1) t
  | _, _, _, .leaf _ _ _ => .mk .nil (Nat.zero_le _)
  | _, _, _, .node _ _ _ _ h5 h6 => .mk (WrB.sh h6).1 (by have := (WrB.sh h6).2; omega)
theorem WrB.sh : ∀ {f n : Nat} {b tx : List Nat} {kids : List Tr}, WrB f n b kids tx → Shs f kids ∧ kids.length ≤ n
  | _, _, _, _, _, .nil => ⟨.nil, Nat.zero_le _⟩
  | _, _, _, _, _, .text h1 _ => ⟨(WrB.sh h1).1, by have := (WrB.sh h1).2; omega⟩
  | _, _, _, _, _, .kid h1 _ h3 => ⟨(WrB.sh h1).1.snoc (WrEl.sh h3), by have := (WrB.sh h1).2; simp only [List.length_append, List.length_cons, List.length_nil]; omega⟩
end
section
variable {prog : Program} {w : World} {A : Around} {E : Value → Shared → Prop} {s : Shared}
theorem valueAt_mid {pre suf : List (Str × Value)} {k : Str} {y : Value} (h : k ∉ pre.map (·.1)) : valueAt (pre ++ (k, y) :: suf) k = some y := by
  unfold valueAt
  rw [List.find?_append, List.find?_eq_none.mpr fun p hp e => h ?_]
  · simp
  · have : p.1 = k := by simpa using e
    exact this ▸ List.mem_map_of_mem hp
theorem hits_same : ∀ {as : Ats} {ka kb pre : List (Str × Value)}, PyProof.V.FlatPairs PyData.str ka (encA as) → PyProof.V.FlatPairs PyData.str kb (encA as) → ((pre ++ kb).map (·.1)).Nodup → KeqHits A s (pre ++ kb) ka true
  | [], ka, kb, pre, ha, hb, hn => by
    cases ha
    exact .nil
  | (a, v) :: as, ka, kb, pre, ha, hb, hn => by
    change PyProof.V.FlatPairs PyData.str ka ((PyData.str (txt a), PyData.str (txt v)) :: encA as) at ha
    change PyProof.V.FlatPairs PyData.str kb ((PyData.str (txt a), PyData.str (txt v)) :: encA as) at hb
    generalize hk : PyData.str (txt a) = d1 at ha hb
    cases ha with
    | cons f1 r1 =>
      rename_i k1 v1 kvs1
      generalize hk2 : PyData.str k1 = d2 at hb
      cases hb with
      | cons f2 r2 =>
        rename_i k2 v2 kvs2
        obtain rfl : k1 = k2 := by cases hk2; rfl
        obtain ⟨t1, rfl⟩ := f1.str_inv
        obtain ⟨t2, rfl⟩ := f2.str_inv
        have hnot : k1 ∉ pre.map (·.1) := by
          rw [List.map_append, List.nodup_append] at hn
          intro hm
          exact hn.2.2 k1 hm k1 (by simp) rfl
        have hr := hits_same (as := as) (ka := kvs1) (kb := kvs2) (pre := pre ++ [(k1, .str (txt v) t2)]) r1 r2 (by simpa using hn)
        have e1 := EqAt.str_str (A := A) (s := s) (txt v) t1 (txt v) t2
        have := KeqHits.hit (A := A) (s := s) (kb := pre ++ (k1, .str (txt v) t2) :: kvs2) (k := k1) (v := .str (txt v) t1) (valueAt_mid hnot) e1 (by simpa using hr)
        rw [beq_self_eq_true, Bool.true_and] at this
        exact this
theorem at_eqP {a b : Addr} {oa ob : Obj} {as : Ats} (ha : s.heap.get? a = some oa) (hb : s.heap.get? b = some ob) (da : AtD prog w oa as) (db : AtD prog w ob as) (sa : (a == sysModules) = false) (sb : (b == sysModules) = false) (hu : A.units < cLine) :
    EqP prog w A s (.ref a) (.ref b) := by
  obtain ⟨ka, da, fa⟩ := da
  obtain ⟨kb, db, fb⟩ := db
  refine EqP.refs fun E Q hq => ?_
  have hn : (kb.map (·.1)).Nodup := by obtain ⟨_, _, _, _, _, _, h⟩ := db; exact h
  have := keq_eq (prog := prog) (w := w) (knd := strKind prog w) (A := A) (E := E) (s := s) (Q := Q) (r := true) sa sb (Heap.dictOf_iff.mpr ⟨_, ha, da⟩) (Heap.dictOf_iff.mpr ⟨_, hb, db⟩) hu (fun _ => hits_same (pre := []) fa fb hn) ?_
  · exact this
  · rw [← fa.length, ← fb.length, beq_self_eq_true]; exact hq
theorem str_eqP (x : Str) (t u : Tok) : EqP prog w A s (.str x t) (.str x u) := .of (EqAt.str_str x t x u) (beq_self_eq_true _)
variable {X Y : List (Addr × Obj)}
mutual
theorem row_items : ∀ {v : Addr} {t : Tr}, RowIn prog w X v t → ∀ {A : Around} {u : Addr} {n : Nat}, (∀ p ∈ X, s.heap.get? p.1 = some p.2) → (∀ p ∈ Y, s.heap.get? p.1 = some p.2) → RowIn prog w Y u t → Sh n t → A.units + 2 * n < cLine →
    ∃ vs us, s.heap.get? v = some (tupObj vs) ∧ s.heap.get? u = some (tupObj us) ∧ vs.length = us.length ∧ ∀ p ∈ vs.zip us, EqP prog w A.in1 s p.1 p.2
  | _, _, .mk h1 h2 h3 h4 h5 h6, A, u, n, hX, hY, hU, hS, hu => by
    cases hU with
    | mk g1 g2 g3 g4 g5 g6 =>
      cases hS with
      | mk k1 k2 =>
        refine ⟨_, _, hX _ h1, hY _ g1, rfl, ?_⟩
        have u1 : A.in1.units = A.units + 1 := rfl
        intro p hp
        simp only [List.zip_cons_cons, List.zip_nil_right, List.mem_cons, List.not_mem_nil, or_false] at hp
        rcases hp with rfl | rfl | rfl | rfl
        · exact str_eqP _ _ _
        · exact at_eqP (hX _ h3) (hY _ g3) h4 g4 h5 g5 (by omega)
        · refine EqP.refs fun E Q hq => list_eqP ?_ (hX _ h2) (hY _ g2) (fun j j1 j2 => ?_) (by omega) hq
          · have := h6.len.trans g6.len.symm
            simpa using this
          · have := rows_items (A := A.in1.in1) h6 hX hY g6 k1 (by show A.units + 1 + 1 + 2 * _ < cLine; omega) j (by simpa using j1) (by simpa using j2)
            simpa using this
        · exact str_eqP _ _ _
theorem rows_items : ∀ {vs : List Value} {ts : List Tr}, RowsIn prog w X vs ts → ∀ {A : Around} {us : List Value} {n : Nat}, (∀ p ∈ X, s.heap.get? p.1 = some p.2) → (∀ p ∈ Y, s.heap.get? p.1 = some p.2) → RowsIn prog w Y us ts → Shs n ts → A.units + 2 * n < cLine →
    ∀ j (j1 : j < vs.length) (j2 : j < us.length), EqP prog w A s vs[j] us[j]
  | _, _, .nil, A, us, n, hX, hY, hU, hS, hu, j, j1, j2 => absurd j1 (Nat.not_lt_zero _)
  | _, _, .cons h1 h2, A, us, n, hX, hY, hU, hS, hu, j, j1, j2 => by
    cases hU with
    | cons g1 g2 =>
      cases hS with
      | cons k1 k2 =>
        cases j with
        | zero =>
          obtain ⟨vs, us, e1, e2, e3, e4⟩ := row_items h1 hX hY g1 k1 hu
          refine EqP.refs fun E Q hq => tuple_eqP e1 e2 e3 e4 (by omega) hq
        | succ j =>
          exact rows_items h2 hX hY g2 k2 hu j (by simpa using j1) (by simpa using j2)
end
/-- != of two rows of one tree -/
theorem row_ne {v u : Addr} {t : Tr} {n : Nat} {Q : Value → Shared → Prop} (h : RowIn prog w X v t) (hX : ∀ p ∈ X, s.heap.get? p.1 = some p.2) (hY : ∀ p ∈ Y, s.heap.get? p.1 = some p.2) (g : RowIn prog w Y u t) (hS : Sh n t) (hu : A.units + 2 * n < cLine)
    (hq : Q (.bool false) s) : wpAny (model prog w) A (compareOp .NotEq (.ref v) (.ref u)) Q E s := by
  obtain ⟨vs, us, e1, e2, e3, e4⟩ := row_items h hX hY g hS hu
  exact tuple_neP e1 e2 e3 e4 (by omega) hq
end
end
section
/-! a comprehension over a list, by what holds between the turns -/
open LCg
section
variable {prog : Program} {w : World} {A : Around} {E : Value → Shared → Prop} {s : Shared} {h₀ : Heap} {L : Addr} {m : Str → Option Value} {env : Env}
theorem CompRest_inv {elt : Expr} {x : Str} {scope : Scope} {cl : List (Str × Addr)} {S : List (Addr × Obj) → Prop} {P : Nat → Value → Prop} {Fin : List Value → List (Addr × Obj) → Prop} {n : Nat} (J : Nat → List Value → List (Addr × Obj) → Prop)
    (turn : ∀ i v I oI C oC D m₂ h tk ys news (E' : Value → Shared → Prop), i < n → P i v → J i ys news → NsObj oC m₂ → m₂ x = some v → Fr h₀ L h m → News h₀ L h ((I, oI) :: (C, oC) :: (D, LCg.lst ys) :: news) → Off3 I C D news → ((@Ne Nat I C) ∧ (@Ne Nat I D) ∧ (@Ne Nat C D)) →
      wpAny (model prog w) A (eval elt (compEnvC scope cl C env)) (CompEnd h₀ L m { s with heap := h, toks := tk } I oI C oC D (LCg.lst ys) S (fun y news' => J (i + 1) (ys ++ [y]) news')) E' { s with heap := h, toks := tk })
    (done : ∀ ys news, J n ys news → Fin ys news) : ∀ (k i : Nat) (ys : List Value) (news : List (Addr × Obj)), i + k = n → J i ys news → CompRest prog w A h₀ L m env elt x scope cl s S P Fin k i ys news := by
  intro k
  induction k with
  | zero =>
    intro i ys news e hJ
    obtain rfl : i = n := by omega
    exact .zero (done _ _ hJ)
  | succ k ih =>
    intro i ys news e hJ
    refine .succ fun v I oI C oC D m₂ h tk E' h1 h2 h3 h4 h5 h6 h7 => ?_
    refine wpAny_mono (turn i v I oI C oC D m₂ h tk ys news E' (by omega) h1 hJ h2 h3 h4 h5 h6 h7) (fun y s₂ q => ?_) fun _ _ x => x
    obtain ⟨h', tk', nw, a, b, c, d, f, g⟩ := q
    exact ⟨h', tk', nw, a, b, c, d, f, ih (i + 1) _ _ (by omega) g⟩
end
theorem ElsIn.at {prog : Program} {w : World} {X : List (Addr × Obj)} : ∀ {vs : List Value} {ts : List Tr}, ElsIn prog w X vs ts → ∀ {i : Nat} {v : Value}, vs[i]? = some v → ∃ e t, v = .ref e ∧ ts[i]? = some t ∧ ElIn prog w X e t
  | _, _, .nil, i, v, h => by cases i <;> cases h
  | _, _, .cons h1 h2, i, v, h => by
    cases i with
    | zero => cases h; exact ⟨_, _, rfl, rfl, h1⟩
    | succ i => exact ElsIn.at h2 (by simpa using h)
theorem Shs.at {n : Nat} : ∀ {ts : List Tr}, Shs n ts → ∀ {i : Nat} {t : Tr}, ts[i]? = some t → Sh n t
  | _, .nil, i, t, h => by cases i <;> cases h
  | _, .cons h1 h2, i, t, h => by
    cases i with
    | zero => cases h; exact h1
    | succ i => exact Shs.at h2 (by simpa using h)
end
section
/-! a call that turns nothing: what it makes is new in the whole heap -/
section
variable {prog : Program} {w : World} {p : Program} {loose : List Str} {mean : ExcName → Option Value} {mg mb : Str → Option Value} {f : Addr} {d u : Nat} {vs : List Value} {XX : List (Addr × Obj)} {Post : Value → List (Addr × Obj) → Prop}
noncomputable def FnR (prog : Program) (w : World) (p : Program) (loose : List Str) (mean : ExcName → Option Value) (mg mb : Str → Option Value) (f : Addr) (d u : Nat) (vs : List Value) (XX : List (Addr × Obj)) (Post : Value → List (Addr × Obj) → Prop) : Prop :=
  ∀ (dp un : Nat) (gd : Option (List Code)) (l : List Env) (base g : Heap) (s : Shared) (Q E : Value → Shared → Prop),
    dp + d < recursionLimit → un + u < cLine → base.StaysIn g → g.FunFrames base l → (Mine.hd.heap_1_1 w.params).In g → Top p loose mean mg mb g →
    g.StaysIn s.heap → g.objs.size ≤ s.heap.objs.size → Own g s.heap XX →
    (∀ r own' h' tk', s.heap.StaysIn h' → Own s.heap h' own' → Post r own' → Q r { s with heap := h', toks := tk' }) →
    wpAny (model prog w) (top dp un gd l) (call (.ref f) vs) Q E s
theorem FnR.intro {name qual : Str} {params : Arguments} {body : List Stmt} {scope : Scope} {dV kV doc pm cdv ct oc : Value} {an od : Option Addr} {osl : Array (Option Value)} {binds : List (Str × Value)}
    (ho : (Mine.hd.heap_1_1 w.params).lookup f = some ⟨oc, od, .func (fnOf name qual params body scope dV kV doc pm an cdv ct), osl⟩) (hcd : codeIn (Mine.hd.heap_1_1 w.params) cdv qual = true)
    (hbind : ∀ s : Shared, (Mine.hd.heap_1_1 w.params).In s.heap → BindsTo s (fnOf name qual params body scope dV kV doc pm an cdv ct) ⟨vs, []⟩ binds) (hloc : ∀ y ∈ binds, scope.names.lookup y.1 = some .local)
    (hd : 0 < d)
    (h : ∀ (dp un : Nat) (gd : Option (List Code)) (l : List Env) (base g : Heap) (s : Shared) (Q E : Value → Shared → Prop) (L' : Addr) (h₁ : Heap),
      dp + d < recursionLimit → un + u < cLine → Below (top dp un gd l) base l g → Fr g L' h₁ (fun y => binds.reverse.lookup y) → News g L' h₁ XX → (∀ p ∈ XX, p.1 < L') → (Mine.hd.heap_1_1 w.params).In g → Top p loose mean mg mb g →
      s.heap.objs.size = L' → True ∧ Fr s.heap L' h₁ (fun y => binds.reverse.lookup y) → Own g s.heap XX → (∀ b o, s.heap.get? b = some o → g.get? b = some o ∨ b ∈ XX.map (·.1)) → g.StaysIn s.heap →
      (∀ r own' h' tk', s.heap.StaysIn h' → Own s.heap h' own' → Post r own' → Q r { s with heap := h', toks := tk' }) →
      wpAny (model prog w) ((top dp un gd l).deeper (envOf qual scope L' f cdv)) (execs body (envOf qual scope L' f cdv))
        (fun fl s' => Q (match fl with | .ret v => v | _ => .none) s')
        (fun e s' => wpAny (model prog w) ((top dp un gd l).deeper (envOf qual scope L' f cdv)) (leaving (envOf qual scope L' f cdv) e) (fun _ s'' => E e s'') (fun e' s'' => E e' s'') s')
        { s with heap := h₁, toks := s.toks + binds.length })
    (hco : scope.isCoroutine = false) (hgen : scope.isGenerator = false) (hk : scope.kind = .function) (hcell : ∀ x ∈ scope.names, x.2 ≠ .cell) :
    FnR prog w p loose mean mg mb f d u vs XX Post := by
  intro dp un gd l base g s Q E hdp hun hb hfr hX hT hst hsz hown hret
  have nm : ∀ b o, g.get? b = some o → b ∉ XX.map (·.1) := fun b o e q => by
    obtain ⟨p, hp, rfl⟩ := List.mem_map.mp q
    rw [(hown p hp).2] at e; cases e
  have st : g.StaysIn (hideAll s.heap (XX.map (·.1))) := fun b o e => hideAll_get _ (hst b o e) (nm b o e)
  have so : (hideAll s.heap (XX.map (·.1))).StaysIn s.heap := fun b o e => of_hideAll _ e
  refine wpAny_call ?_
  refine codeAny_call_def (fd := fnOf name qual params body scope dV kV doc pm an cdv ct) (body := body) (binds := binds) (by show dp < _; omega) ((hX.keeps hst) _ _ ho) rfl (hT.nolimit.keeps hst) (codeRec_of (hX.keeps hst) hcd) rfl (hbind s (hX.keeps hst)) hcell hloc (fun h₁ hns hk₁ => ?_) hco hgen hk
  refine h dp un gd l base (hideAll s.heap (XX.map (·.1))) s Q E s.heap.objs.size h₁ hdp hun ⟨rfl, fun b o e => st b o (hb b o e), hfr.of_keeps fun b o e _ => ⟨o, st b o e, rfl⟩⟩ ⟨hns, fun b o e => hk₁ _ _ (so _ _ e), Nat.le_of_eq (hideAll_size _ _)⟩
    (fun p hp => ⟨hk₁ _ _ (hown p hp).1, Nat.ne_of_lt (Heap.lt_size (hown p hp).1), hideAll_none _ (List.mem_map_of_mem hp)⟩) (fun p hp => Heap.lt_size (hown p hp).1) (hX.keeps fun b o e => st b o e) (hT.keeps fun b o e => st b o e) rfl ⟨trivial, hns, hk₁, Nat.le_refl _⟩
    (fun p hp => ⟨(hown p hp).1, hideAll_none _ (List.mem_map_of_mem hp)⟩) (fun b o e => ?_) so hret
  by_cases q : b ∈ XX.map (·.1)
  · exact .inr q
  · exact .inl (hideAll_get _ e q)
theorem FnR.use {dp un : Nat} {gd : Option (List Code)} {env : Env} {outer : List Env} {A₀ : Around} {base h₀ : Heap} {L : Addr} {m : Str → Option Value} {news : List (Addr × Obj)} {s : Shared} {Q E : Value → Shared → Prop}
    (H : FnR prog w p loose mean mg mb f d u vs XX Post)
    (B : Below A₀ base outer h₀) (F : Fr h₀ L s.heap m) (X : (Mine.hd.heap_1_1 w.params).In h₀) (N : News h₀ L s.heap news) (T : Top p loose mean mg mb h₀)
    (hf : env.frame = some L) (hke : env.scope.kind = .function) (h1 : ∀ p ∈ XX, p ∈ news)
    (hd : dp + d < recursionLimit) (hu : un + u < cLine)
    (ret : ∀ r own' h' tk', s.heap.StaysIn h' → Own s.heap h' own' → Post r own' → Q r { s with heap := h', toks := tk' }) :
    wpAny (model prog w) (top dp un gd (env :: outer)) (call (.ref f) vs) Q E s := by
  have nm : ∀ b o, h₀.get? b = some o → b ∉ XX.map (·.1) := fun b o e q => by
    obtain ⟨p, hp, rfl⟩ := List.mem_map.mp q
    rw [(N p (h1 p hp)).2.2] at e; cases e
  have st : h₀.StaysIn (hideAll s.heap (XX.map (·.1))) := fun b o e => hideAll_get _ (F.keep b o e) (nm b o e)
  obtain ⟨oL, es, ep, hL, hLd, hLk, hLf⟩ := F.ns
  have nL : L ∉ XX.map (·.1) := fun q => by
    obtain ⟨p, hp, e⟩ := List.mem_map.mp q
    exact (N p (h1 p hp)).2.1 e
  have B₁ := pushX B F hf hke
  refine H dp un gd (env :: outer) base (hideAll s.heap (XX.map (·.1))) s Q E hd hu (fun b o e => st b o (B.stays b o e)) (funFrames_hideAll B₁.frames fun env' he b hb hf' => ?_) (X.keeps fun b o e => st b o e) (T.keeps fun b o e => st b o e)
    (fun b o e => of_hideAll _ e) (Nat.le_of_eq (hideAll_size _ _)) (fun p hp => ⟨(N p (h1 p hp)).1, hideAll_none _ (List.mem_map_of_mem hp)⟩) ret
  cases he with
  | head => exact nL ((Option.some.inj (hf.symm.trans hf') : L = b) ▸ hb)
  | tail _ he =>
    obtain ⟨L₁, o₁, hf₁, ho₁⟩ := funFrames_in B.frames env' he
    rw [hf₁] at hf'
    exact nm L₁ o₁ ho₁ ((Option.some.inj hf' : L₁ = b) ▸ hb)
end
theorem news_own {h₀ h h' : Heap} {L : Addr} {m : Str → Option Value} {own news : List (Addr × Obj)} (F : Fr h₀ L h m) (N : News h₀ L h news) (st : h.StaysIn h') (O : Own h h' own) : News h₀ L h' (own ++ news) := fun p hp => by
  rcases List.mem_append.mp hp with hp | hp
  · refine ⟨(O p hp).1, fun q => ?_, ?_⟩
    · obtain ⟨_, _, _, hL, _⟩ := F.ns
      have := (O p hp).2; rw [q, hL] at this; cases this
    · cases q : h₀.get? p.1 with
      | none => rfl
      | some o => have := (O p hp).2; rw [F.keep _ _ q] at this; cases this
  · exact ⟨st _ _ (N p hp).1, (N p hp).2⟩
end
section
theorem rk_Row_0 : True := by
  k_with_none
  trivial


theorem own_sub' {g h : Heap} {L : Addr} {l own : List (Addr × Obj)} (N : News g L h l) (hs : ∀ p ∈ own, p ∈ l) : Own g h own := fun p hp => own_of N p (hs p hp)
section
variable {prog : Program} {w : World} {p : Program} {loose : List Str} {mean : ExcName → Option Value} {mg mb : Str → Option Value}

theorem ltAll {d : Addr} {l : List (Addr × Obj)} (h : AllLt d l) : ∀ p ∈ l, @LT.lt Nat _ p.1 d := by
  induction l with
  | nil => exact fun _ hp => (nomatch hp)
  | cons a l ih =>
    intro p hp
    rcases List.mem_cons.mp hp with rfl | hp
    · exact h.1
    · exact ih h.2 p hp
theorem rk_Row_1 : True := by
  k_with "k_room" => (((try simp only [depth_under_make, depth_under_kw, depth_in1, depth_deeper, depth_caller]); (try dsimp only [top]); omega))
  trivial
theorem rk_Row_2 : True := by
  k_with "k_units" => (((try simp only [units_in1, units_deeper, Around.mark_units]); (try dsimp only [top]); omega))
  trivial
theorem rk_Row_3 : True := by
  k_with "units_room" => (((try simp only [units_in1, units_deeper, Around.mark_units]); (try dsimp only [top]); omega))
  trivial
theorem rk_Row_4 : True := by
  k_with "k_ne" => (((try dsimp only); first | assumption | exact Ne.symm (by assumption) | (refine neN ?_; omega)))
  trivial
theorem rk_Row_5 : True := by
  k_with "k_all" => (first | assumption | exact List.forall_mem_nil _ | (refine' List.forall_mem_cons.mpr ⟨?a, ?b⟩; (case a => k_ne); (case b => k_all)))
  trivial
theorem rk_Row_6 : True := by
  k_with "use:takes" => (repeat' (first | exact Takes.nil | exact Take1.head | refine' Takes.cons ?_ ?_ | refine' Take1.tail ?_))
  trivial
theorem rk_Row_7 : True := by
  k_with "use:apart" => (((try dsimp only); repeat' (first | assumption | exact List.forall_mem_nil _ | refine' List.forall_mem_cons.mpr ⟨_, _⟩ | (intro x9 hx9; exact absurd hx9 (by simp)) | (dsimp only; first | assumption | exact Ne.symm (by assumption)) | k_ne)))
  trivial
theorem rk_Row_8 : True := by
  k_with "use:room" => (first | (refine' room3 ?h9 ?e9; (case h9 => assumption); (case e9 => exact rfl)) | (refine' room_le ?h8 ?e8; (case h8 => assumption); (case e8 => exact rfl)) | ((try dsimp only [top, Around.deeper]); omega))
  trivial
theorem rk_Row_9 : True := by
  k_with "use:le" => (first | assumption | exact le_mil (by assumption) | omega)
  trivial
theorem rk_Row_10 : True := by
  k_with "exec Raise some none" => ((k_here; refine raise_stmt rfl ?_))
  trivial
theorem rk_Row_11 : True := by
  k_with "call ref" => ((k_here; (with_reducible show wpAny _ _ (call (Value.ref 44) [_]) _ _ _); k_dflt (refine' fault_use ?B ?F ?X ?N ?T rfl rfl ?hd ?hu ?_; (case B => k_asm); (case F => k_asm); (case X => k_asm); (case N => k_asm); (case T => k_asm); (case hd => walk_at "use:room"); (case hu => walk_at "use:room"); intro e' tp' dx' h' tk' F' N')))
  trivial
theorem rk_Row_12 : True := by
  k_with "RaiseBack" => ((k_here; k_dflt (refine' ⟨_, _, _, rfl, faultCls ?X, News.get ?N (List.Mem.head _), ?_⟩; (case N => k_asm); (case X => k_in)); (try dsimp only)))
  trivial
theorem rk_Row_13 : True := by
  k_with "leaving ref" => ((k_here; k_dflt (first | (refine' leave_new_F ?B ?F ?N (List.Mem.head _) rfl rfl ?_; (case B => k_asm); (case F => k_asm); (case N => k_asm); intro h' hfl') | (refine' leave_fly rfl rfl ?fl ?_; (case fl => assumption); intro h' hfl'))))
  trivial

theorem rk_Row_14 : True := by
  k_with "k_ne" => (first | assumption | exact Ne.symm (by assumption) | walk_at "ne:lt" | ((try dsimp only); first | assumption | exact Ne.symm (by assumption) | walk_at "ne:lt" | (refine neN ?_; omega)))
  trivial
theorem rk_Row_15 : True := by
  k_with "k_all" => (first | assumption | exact List.forall_mem_nil _ | (refine neAll_of ?_; walk_at "use:conj"))
  trivial
theorem rk_Row_16 : True := by
  k_with "use:conj" => (first | exact True.intro | assumption | ((refine And.intro ?_ ?_) <;> walk_at "use:conj") | ((with_reducible show NeAll _ _); refine neAll_lt ?_; walk_at "lastlt") | k_ne)
  trivial
theorem rk_Row_17 : True := by
  k_with "ne:lt" => (first | (refine Nat.ne_of_lt ?_; walk_at "lt") | (refine Nat.ne_of_gt ?_; walk_at "lt"))
  trivial
theorem rk_Row_18 : True := by
  k_with "lt" => (with_reducible first | assumption | exact pj0 (by assumption) | exact pj1 (by assumption) | exact pj2 (by assumption) | exact pj3 (by assumption) | exact pj4 (by assumption) | exact pj5 (by assumption) | exact pj6 (by assumption) | exact pj7 (by assumption) | exact pj8 (by assumption) | exact pj9 (by assumption) | exact pj10 (by assumption) | exact pj11 (by assumption))
  trivial
theorem rk_Row_19 : True := by
  k_with "lastlt" => (with_reducible first | assumption | exact lk1 (by assumption) | exact lk2 (by assumption) | exact lk3 (by assumption) | exact lk4 (by assumption) | exact lk5 (by assumption) | exact lk6 (by assumption) | exact lk7 (by assumption))
  trivial
theorem rk_Row_20 : True := by
  k_with "use:apart" => (walk_at "use:conj")
  trivial
theorem rk_Row_21 : True := by
  k_with "use:sides" => (((case B => k_asm); (case F => k_asm); (case X => k_asm); (case N => k_asm); (case T => k_asm); (case tk => walk_at "use:takes"); (case dj => walk_at "use:apart"); (case hd => walk_at "use:room"); (case hu => walk_at "use:room")))
  trivial
theorem rk_Row_22 : True := by
  k_with "use:in" => ((intro h' tk' F' N' hlt'; (try dsimp only [List.cons_append, List.nil_append] at N'); (try dsimp only [AllLt] at hlt'); (try dsimp only); (try k_sweep)))
  trivial

theorem rk_Row_23 : True := by
  k_with "newTuple" => ((k_here; k_dflt (refine' newTuple_L ?k1 ?k2 ?_ ?z; (case k1 => k_asm); (case k2 => k_asm); (case z => exact Nat.le_of_ble_eq_true rfl)); intro D' h' F' N' hlt'; (try dsimp only [AllLt] at hlt'); (try dsimp only); (try k_sweep)))
  trivial
theorem rk_Row_24 : True := by
  k_with "newList" => ((k_here; k_dflt (refine' newList_L ?k1 ?k2 ?_ ?z; (case k1 => k_asm); (case k2 => k_asm); (case z => exact Nat.le_of_ble_eq_true rfl)); intro D' h' F' N' hlt'; (try dsimp only [AllLt] at hlt'); (try dsimp only); (try k_sweep)))
  trivial

theorem rk_Row_25 : True := by
  k_with "newTuple" => ((k_here; k_dflt (refine' newTuple_L ?k1 ?k2 ?_ ?z; (case k1 => k_asm); (case k2 => k_asm); (case z => exact Nat.le_of_ble_eq_true rfl)); intro D' h' F' N' hlt'; (have l0 := ltAll hlt'.2); (try dsimp only [AllLt] at hlt'); (try dsimp only); (try k_sweep)))
  trivial
theorem rk_Row_26 : True := by
  k_with "exec Assign cons ListComp" => ((k_here; k_dflt (refine LCg.Assign_ListComp_U (h₀ := ?G9) (F₀ := (?FS9 : True ∧ _).2) (by rfl) (by with_unfolding_all rfl) (by rfl) (by decide) (by rfl) (by decide) (by rfl) (by rfl) (by rfl) ?_)))
  trivial
set_option pp.deepTerms false
set_option pp.proofs false
set_option maxHeartbeats 8000000 in
theorem row_fn : ∀ (n : Nat), n ≤ 10 → ∀ {e : Addr} {t : Tr} {XX : List (Addr × Obj)}, ElIn prog w XX e t → Sh n t →
    FnR prog w p loose mean mg mb 267 (5 * n) (100 * n) [.ref e] XX (fun r o => ∃ v, r = .ref v ∧ RowIn prog w (o ++ XX) v t) := by
  intro n
  induction n with
  | zero => intro _ e t XX _ hS; cases hS
  | succ n IH =>
    intro hn e t XX hE hS
    cases hE with
    | mk x1 x2 x3 x4 x5 x6 x7 =>
    rename_i ed cl kd nm tx as kids a1 a2 a3 a4 tn ty ko kv kn
    cases hS with
    | mk k1 k2 =>
    have hkv : kv.size = kids.length := by have := x7.len; simpa using this
    refine' FnR.intro (binds := [(Str.ofString "element", .ref e)]) ?ho ?hcd ?hb ?hl ?hd ?_ ?c2 ?c3 ?c4 ?c5
    (case ho => k_is)
    (case hcd => k_is)
    (case hb => (intro s0 hX0; exact BindsTo.of_eq rfl))
    (case hl => exact locs rfl)
    (case hd => omega)
    (case c2 => exact rfl)
    (case c3 => exact rfl)
    (case c4 => exact rfl)
    (case c5 => decide)
    intro dp un gd l base g s Q E L' h₁ hdp hun B F N hlt X TP hL FS hOw hGo hGs hret
    (try dsimp only)
    (try k_fold)
    have N0 : News g L' h₁ ((e, instObj 71 ed) :: (ed, elD w (txt nm) a1 a2 a3 a4 tn kd cl (txt tx) ty) :: (cl, W.listOf kv kn) :: (kd, ko) :: XX) := News.sub N fun p hp => by
      simp only [List.mem_cons] at hp
      rcases hp with rfl | rfl | rfl | rfl | hp <;> assumption
    clear N
    have hcl : s.heap.IsList cl kv := ⟨_, (hOw _ x3).1, rfl, kn, rfl⟩
    refine wpAny_execs_cons ?_
    refine LCg.Assign_ListComp_U (h₀ := s.heap) (F₀ := FS.2) (by rfl) (by with_unfolding_all rfl) (by rfl) (by decide) (by rfl) (by decide) (by rfl) (by rfl) (by rfl) ?_
    repeat ((fail_if_success (with_reducible show LCg.CompSrc _ _ _ _ _ _ _ _ _ _ _ _ _ _)); (first | (k_unfold; (try dsimp only)) | walk1 | (dsimp only; walk1)))
    refine LCg.CompSrc.base (its := kv) rfl FS.2 (News.nil : News s.heap L' h₁ []) hcl ?sz (fun g' => CompRest_inv (n := kv.size) (fun i ys nw => RowsIn prog w (nw ++ XX) ys (kids.take i)) ?turn ?done _ 0 [] _ (Nat.zero_add _) .nil)
    (case sz => rw [hkv, sizeLine_eq]; omega)
    (case turn =>
      rintro i v I oI C oC D m₂ h tk ys nw E' hi hv hr hC hx F5 N5 off ne
      obtain ⟨e', t', rfl, ht, hE'⟩ := x7.at (i := i) (v := v) (by simpa using hv)
      have F6 : Fr g L' h (fun y => List.lookup y [(Str.ofString "element", Value.ref e)].reverse) := ⟨F5.ns, fun b o q => F5.keep b o (hGs b o q), F.above⟩
      have hXX : ∀ p ∈ XX, h.get? p.1 = some p.2 := fun p hp => F5.keep _ _ (hOw p hp).1
      have N6 : News g L' h ((I, oI) :: (C, oC) :: (D, LCg.lst ys) :: XX) := fun p hp => by
        have nn : ∀ q ∈ ((I, oI) :: (C, oC) :: (D, LCg.lst ys) :: nw), h.get? q.1 = some q.2 ∧ q.1 ≠ L' ∧ g.get? q.1 = none := fun q hq => ⟨(N5 q hq).1, (N5 q hq).2.1, by
          cases z : g.get? q.1 with
          | none => rfl
          | some o => have := (N5 q hq).2.2; rw [hGs _ _ z] at this; cases this⟩
        simp only [List.mem_cons] at hp
        rcases hp with rfl | rfl | rfl | hp
        · exact nn _ (by k_mem)
        · exact nn _ (by k_mem)
        · exact nn _ (by k_mem)
        · exact ⟨hXX p hp, Nat.ne_of_lt (hlt p hp), (hOw p hp).2⟩
      clear F N0
      repeat ((fail_if_success (with_reducible show wpAny _ _ (call (Value.ref 267) _) _ _ _)); (first | (k_unfold; (try dsimp only)) | walk1 | (dsimp only; walk1)))
      refine FnR.use (IH (by omega) hE' (k1.at ht)) B F6 X N6 TP rfl rfl ?o1 ?o4 ?o5 ?o6
      (case o1 => intro p hp; simp [hp])
      (case o4 => show dp + 1 + 5 * n < recursionLimit; omega)
      (case o5 => show un + 3 + 100 * n < cLine; omega)
      (case o6 =>
        rintro r own' h' tk' st O ⟨v', rfl, hR⟩
        refine ⟨h', tk', own' ++ nw, rfl, F5.keeps fun b o q => st b o q, ?g1, ?g2, ?g3, ?g4⟩
        (case g1 =>
          refine News.sub (news_own F5 N5 st O) fun p hp => ?_
          simp only [List.mem_cons, List.mem_append] at hp ⊢
          rcases hp with rfl | rfl | rfl | hp | hp <;> simp [*])
        (case g2 =>
          refine LCg.Off3.of fun p hp => ?_
          rcases List.mem_append.mp hp with hp | hp
          · have hq : h.get? p.1 = none := (O p hp).2
            have ap : ∀ q ∈ ((I, oI) :: (C, oC) :: (D, LCg.lst ys) :: nw), p.1 ≠ q.1 := fun q hq' z => by
              have := (N5 q hq').1
              rw [← z, hq] at this; cases this
            exact ⟨ap (I, oI) (by k_mem), ap (C, oC) (by k_mem), ap (D, _) (by k_mem)⟩
          · exact off.mem p hp)
        (case g3 => exact .inl hcl)
        (case g4 =>
          rw [List.take_add_one, ht]
          refine RowsIn.snoc (hR.mono fun p hp => ?_) (hr.mono fun p hp => ?_)
          · simp only [List.mem_append] at hp ⊢
            rcases hp with hp | hp <;> simp [hp]
          · simp only [List.mem_append] at hp ⊢
            rcases hp with hp | hp <;> simp [hp])))
    (case done =>
      rintro ys nw hr
      unfold LCg.FinA
      intro D8 h8 tk8 F8 N8 o8
      dsimp only
      rw [hkv, List.take_length] at hr
      have F9 := F8
      replace F8 : Fr g L' h8 _ := ⟨F9.ns, fun b o q => F9.keep b o (hGs b o q), F.above⟩
      have hXX : ∀ p ∈ XX, h8.get? p.1 = some p.2 := fun p hp => F9.keep _ _ (hOw p hp).1
      have nn : ∀ q ∈ ((D8, LCg.lst ys) :: nw), h8.get? q.1 = some q.2 ∧ q.1 ≠ L' ∧ g.get? q.1 = none := fun q hq => ⟨(N8 q hq).1, (N8 q hq).2.1, by
        cases z : g.get? q.1 with
        | none => rfl
        | some o => have := (N8 q hq).2.2; rw [hGs _ _ z] at this; cases this⟩
      have N7 : News g L' h8 ((e, instObj 71 ed) :: (ed, elD w (txt nm) a1 a2 a3 a4 tn kd cl (txt tx) ty) :: (cl, W.listOf kv kn) :: (kd, ko) :: (D8, W.listOf ys.toArray ys.length) :: (nw ++ XX)) := fun p hp => by
        have own : ∀ q ∈ XX, h8.get? q.1 = some q.2 ∧ q.1 ≠ L' ∧ g.get? q.1 = none := fun q hq => ⟨hXX q hq, Nat.ne_of_lt (hlt q hq), (hOw q hq).2⟩
        simp only [List.mem_cons, List.mem_append] at hp
        rcases hp with rfl | rfl | rfl | rfl | rfl | hp | hp
        · exact own _ x1
        · exact own _ x2
        · exact own _ x3
        · exact own _ x4
        · exact nn _ (by k_mem)
        · exact nn _ (List.mem_cons_of_mem _ hp)
        · exact own _ hp
      obtain ⟨NS, hNS⟩ : ∃ NS : True ∧ News s.heap L' h8 ((D8, LCg.lst ys) :: nw), True := ⟨⟨trivial, N8⟩, trivial⟩
      clear N8 F9 F N0
      k_steps
      (try k_unfold)
      (try dsimp only)
      refine hret _ ((D', tupObj [.str (txt nm) tn, .ref kd, .ref D8, .str (txt tx) ty]) :: (D8, W.listOf ys.toArray ys.length) :: nw) _ _ (fun b o q => ?st) (fun p hp => ⟨(N' p ?m1).1, ?fr⟩) ⟨_, rfl, .mk (kd := kd) (li := D8) (tn := tn) (ty := ty) (nm := nm) (tx := tx) (ko := ko) (kv := ys.toArray) (kn := ys.length) ?w1 ?w2 ?w3 x5 x6 (hr.mono fun p hp => ?w4)⟩
      (case st =>
        rcases hGo b o q with q2 | q2
        · exact F'.keep _ _ q2
        · obtain ⟨p, hp, rfl⟩ := List.mem_map.mp q2
          rw [(hOw p hp).1] at q
          cases q
          exact (N' p (by simp [hp])).1)
      (case m1 =>
        simp only [List.mem_cons] at hp
        rcases hp with rfl | rfl | hp <;> simp [*])
      (case fr =>
        simp only [List.mem_cons] at hp
        rcases hp with rfl | rfl | hp
        · cases z : s.heap.get? D' with
          | none => first | exact z | rfl
          | some o =>
            rcases hGo _ _ z with q2 | q2
            · have := (N' (D', tupObj [.str (txt nm) tn, .ref kd, .ref D8, .str (txt tx) ty]) (by simp)).2.2
              rw [q2] at this; cases this
            · obtain ⟨p, hp, e9⟩ := List.mem_map.mp q2
              have : @LT.lt Nat _ p.1 D' := l0 p (by simp [hp])
              have e9' : @Eq Nat p.1 D' := e9
              omega
        · exact (NS.2 (D8, LCg.lst ys) (by simp)).2.2
        · exact (NS.2 p (by simp [hp])).2.2)
      (case w1 => simp)
      (case w2 => simp)
      (case w3 => simp [x4])
      (case w4 => simp only [List.mem_append, List.mem_cons] at hp ⊢; rcases hp with hp | hp <;> simp [hp]))
end
end
section
theorem rk_Read_0 : True := by
  k_with_none
  trivial


section
variable {prog : Program} {w : World} {p : Program} {loose : List Str} {mean : ExcName → Option Value} {mg mb : Str → Option Value}

theorem markup_ok {Tx : Str} {tT : Tok} {t : Tr} (hx : Tx.length ≤ 100000) (hP : Pz (lst Tx) .start (some t)) :
    Fn prog w p loose mean mg mb 220 30 600 [.str Tx tT] [] (PK fun _ C => ∀ e o, ElIn prog w o e t → C (.ref e) o) False :=
  Fn.mono (markup_fn hx hP) (fun _ _ _ h C k => h C fun e t' o e1 h1 _ => by cases e1; exact k e o h1) (fun h => nomatch h)
theorem markup_bad {Tx : Str} {tT : Tok} (hx : Tx.length ≤ 100000) (hP : Pz (lst Tx) .start none) :
    Fn prog w p loose mean mg mb 220 30 600 [.str Tx tT] [] (fun b r o => False) True :=
  Fn.mono (markup_fn hx hP) (fun _ _ _ h => h (fun _ _ => False) fun _ _ _ e => nomatch e) (fun _ => trivial)
theorem rk_Read_1 : True := by
  k_with "k_room" => (((try simp only [depth_under_make, depth_under_kw, depth_in1, depth_deeper, depth_caller]); (try dsimp only [top]); omega))
  trivial
theorem rk_Read_2 : True := by
  k_with "k_units" => (((try simp only [units_in1, units_deeper, Around.mark_units]); (try dsimp only [top]); omega))
  trivial
theorem rk_Read_3 : True := by
  k_with "units_room" => (((try simp only [units_in1, units_deeper, Around.mark_units]); (try dsimp only [top]); omega))
  trivial
theorem rk_Read_4 : True := by
  k_with "k_ne" => (((try dsimp only); first | assumption | exact Ne.symm (by assumption) | (refine neN ?_; omega)))
  trivial
theorem rk_Read_5 : True := by
  k_with "k_all" => (first | assumption | exact List.forall_mem_nil _ | (refine' List.forall_mem_cons.mpr ⟨?a, ?b⟩; (case a => k_ne); (case b => k_all)))
  trivial
theorem rk_Read_6 : True := by
  k_with "use:takes" => (repeat' (first | exact Takes.nil | exact Take1.head | refine' Takes.cons ?_ ?_ | refine' Take1.tail ?_))
  trivial
theorem rk_Read_7 : True := by
  k_with "use:apart" => (((try dsimp only); repeat' (first | assumption | exact List.forall_mem_nil _ | refine' List.forall_mem_cons.mpr ⟨_, _⟩ | (intro x9 hx9; exact absurd hx9 (by simp)) | (dsimp only; first | assumption | exact Ne.symm (by assumption)) | k_ne)))
  trivial
theorem rk_Read_8 : True := by
  k_with "use:room" => (first | (refine' room3 ?h9 ?e9; (case h9 => assumption); (case e9 => exact rfl)) | (refine' room_le ?h8 ?e8; (case h8 => assumption); (case e8 => exact rfl)) | ((try dsimp only [top, Around.deeper]); omega))
  trivial
theorem rk_Read_9 : True := by
  k_with "use:le" => (first | assumption | exact le_mil (by assumption) | omega)
  trivial
theorem rk_Read_10 : True := by
  k_with "exec Raise some none" => ((k_here; refine raise_stmt rfl ?_))
  trivial
theorem rk_Read_11 : True := by
  k_with "call ref" => ((k_here; (with_reducible show wpAny _ _ (call (Value.ref 44) [_]) _ _ _); k_dflt (refine' fault_use ?B ?F ?X ?N ?T rfl rfl ?hd ?hu ?_; (case B => k_asm); (case F => k_asm); (case X => k_asm); (case N => k_asm); (case T => k_asm); (case hd => walk_at "use:room"); (case hu => walk_at "use:room"); intro e' tp' dx' h' tk' F' N')))
  trivial
theorem rk_Read_12 : True := by
  k_with "RaiseBack" => ((k_here; k_dflt (refine' ⟨_, _, _, rfl, faultCls ?X, News.get ?N (List.Mem.head _), ?_⟩; (case N => k_asm); (case X => k_in)); (try dsimp only)))
  trivial
theorem rk_Read_13 : True := by
  k_with "leaving ref" => ((k_here; k_dflt (first | (refine' leave_new_F ?B ?F ?N (List.Mem.head _) rfl rfl ?_; (case B => k_asm); (case F => k_asm); (case N => k_asm); intro h' hfl') | (refine' leave_fly rfl rfl ?fl ?_; (case fl => assumption); intro h' hfl'))))
  trivial

theorem rk_Read_14 : True := by
  k_with "k_ne" => (first | assumption | exact Ne.symm (by assumption) | walk_at "ne:lt" | ((try dsimp only); first | assumption | exact Ne.symm (by assumption) | walk_at "ne:lt" | (refine neN ?_; omega)))
  trivial
theorem rk_Read_15 : True := by
  k_with "k_all" => (first | assumption | exact List.forall_mem_nil _ | (refine neAll_of ?_; walk_at "use:conj"))
  trivial
theorem rk_Read_16 : True := by
  k_with "use:conj" => (first | exact True.intro | assumption | ((refine And.intro ?_ ?_) <;> walk_at "use:conj") | ((with_reducible show NeAll _ _); refine neAll_lt ?_; walk_at "lastlt") | k_ne)
  trivial
theorem rk_Read_17 : True := by
  k_with "ne:lt" => (first | (refine Nat.ne_of_lt ?_; walk_at "lt") | (refine Nat.ne_of_gt ?_; walk_at "lt"))
  trivial
theorem rk_Read_18 : True := by
  k_with "lt" => (with_reducible first | assumption | exact pj0 (by assumption) | exact pj1 (by assumption) | exact pj2 (by assumption) | exact pj3 (by assumption) | exact pj4 (by assumption) | exact pj5 (by assumption) | exact pj6 (by assumption) | exact pj7 (by assumption) | exact pj8 (by assumption) | exact pj9 (by assumption) | exact pj10 (by assumption) | exact pj11 (by assumption))
  trivial
theorem rk_Read_19 : True := by
  k_with "lastlt" => (with_reducible first | assumption | exact lk1 (by assumption) | exact lk2 (by assumption) | exact lk3 (by assumption) | exact lk4 (by assumption) | exact lk5 (by assumption) | exact lk6 (by assumption) | exact lk7 (by assumption))
  trivial
theorem rk_Read_20 : True := by
  k_with "use:apart" => (walk_at "use:conj")
  trivial
theorem rk_Read_21 : True := by
  k_with "use:sides" => (((case B => k_asm); (case F => k_asm); (case X => k_asm); (case N => k_asm); (case T => k_asm); (case tk => walk_at "use:takes"); (case dj => walk_at "use:apart"); (case hd => walk_at "use:room"); (case hu => walk_at "use:room")))
  trivial
theorem rk_Read_22 : True := by
  k_with "use:in" => ((intro h' tk' F' N' hlt'; (try dsimp only [List.cons_append, List.nil_append] at N'); (try dsimp only [AllLt] at hlt'); (try dsimp only); (try k_sweep)))
  trivial

theorem rk_Read_23 : True := by
  k_with "call ref" => ((k_here; (with_reducible show wpAny _ _ (call (Value.ref 220) _) _ _ _); k_dflt ((refine' Fn.useOk (markup_ok ?u1 ?u2) ?B ?F ?X ?N ?T rfl rfl ?tk ?dj ?hd ?hu ?_); walk_at "use:sides"; (case u1 => assumption); (case u2 => assumption); (intro e' own' hE'); walk_at "use:in")))
  trivial
set_option pp.deepTerms false
set_option pp.proofs false
set_option maxHeartbeats 8000000 in
theorem read_fn {Tx : Str} {tT : Tok} {t : Tr} (hx : Tx.length ≤ 100000) (hP : Pz (lst Tx) .start (some t)) (hS : Sh 3 t) :
    Fn prog w p loose mean mg mb 274 40 1000 [.str Tx tT] [] (PK fun _ C => ∀ v o, RowIn prog w o v t → C (.ref v) o) False := by
  refine' Fn.intro (binds := [(Str.ofString "text", .str Tx tT)]) ?ho ?hcd ?hb ?hl ?hd ?_ ?c2 ?c3 ?c4 ?c5
  (case ho => k_is)
  (case hcd => k_is)
  (case hb => (intro s0 hX0; exact BindsTo.of_eq rfl))
  (case hl => exact locs rfl)
  (case hd => first | decide | omega)
  (case c2 => exact rfl)
  (case c3 => exact rfl)
  (case c4 => exact rfl)
  (case c5 => decide)
  intro dp un gd l base g s Q E L' h₁ hdp hun B F N hlt X TP hL hret herr
  (try dsimp only)
  (try k_fold)
  repeat ((fail_if_success (with_reducible show wpAny _ _ (call (Value.ref 267) _) _ _ _)); (first | (k_unfold; (try dsimp only)) | walk1 | (dsimp only; walk1)))
  refine FnR.use (row_fn 3 (by decide) hE' hS) B F' X N' TP rfl rfl (by intro p hp; simp [hp]) (by show dp + 1 + 15 < recursionLimit; omega) (by show un + 3 + 300 < cLine; omega) ?_
  rintro r own2 h2 tk2 st O ⟨v, rfl, hR⟩
  (try k_unfold)
  (try dsimp only)
  have N2 := news_own F' N' st O
  have F2 := F'.keeps (fun b o q => st b o q)
  refine hret _ (own2 ++ own') _ _ (Fr.keep F2) (own_sub' N2 fun p hp => ?_) (size_of F2 hL) fun C k => k v _ hR
  simp only [List.mem_append] at hp ⊢
  rcases hp with hp | hp <;> simp [hp]
end
end
section
theorem rk_Ref_0 : True := by
  k_with_none
  trivial


section
variable {prog : Program} {w : World} {p : Program} {loose : List Str} {mean : ExcName → Option Value} {mg mb : Str → Option Value}

/-- a call that may leave nothing but the base as it was -/
noncomputable def FnB (prog : Program) (w : World) (p : Program) (loose : List Str) (mean : ExcName → Option Value) (mg mb : Str → Option Value) (f : Addr) (d u : Nat) (vs : List Value) (r : Value) : Prop :=
  ∀ (dp un : Nat) (gd : Option (List Code)) (l : List Env) (base g : Heap) (s : Shared) (Q E : Value → Shared → Prop),
    dp + d < recursionLimit → un + u < cLine → base.StaysIn g → g.FunFrames base l → (Mine.hd.heap_1_1 w.params).In base → Top p loose mean mg mb base →
    g.StaysIn s.heap → g.objs.size ≤ s.heap.objs.size →
    (∀ h' tk', base.StaysIn h' → Q r { s with heap := h', toks := tk' }) →
    wpAny (model prog w) (top dp un gd l) (call (.ref f) vs) Q E s
theorem FnB.intro {f : Addr} {d u : Nat} {vs : List Value} {r : Value} {name qual : Str} {params : Arguments} {body : List Stmt} {scope : Scope} {dV kV doc pm cdv ct oc : Value} {an od : Option Addr} {osl : Array (Option Value)} {binds : List (Str × Value)}
    (ho : (Mine.hd.heap_1_1 w.params).lookup f = some ⟨oc, od, .func (fnOf name qual params body scope dV kV doc pm an cdv ct), osl⟩) (hcd : codeIn (Mine.hd.heap_1_1 w.params) cdv qual = true)
    (hbind : ∀ s : Shared, (Mine.hd.heap_1_1 w.params).In s.heap → BindsTo s (fnOf name qual params body scope dV kV doc pm an cdv ct) ⟨vs, []⟩ binds) (hloc : ∀ y ∈ binds, scope.names.lookup y.1 = some .local)
    (hd : 0 < d)
    (h : ∀ (dp un : Nat) (gd : Option (List Code)) (l : List Env) (base g : Heap) (s : Shared) (Q E : Value → Shared → Prop) (L' : Addr) (h₁ : Heap),
      dp + d < recursionLimit → un + u < cLine → Below (top dp un gd l) base l g → Fr g L' h₁ (fun y => binds.reverse.lookup y) → News g L' h₁ [] → (Mine.hd.heap_1_1 w.params).In g → Top p loose mean mg mb g →
      True ∧ (Mine.hd.heap_1_1 w.params).In base ∧ Top p loose mean mg mb base → s.heap.objs.size = L' →
      (∀ h' tk', base.StaysIn h' → Q r { s with heap := h', toks := tk' }) →
      wpAny (model prog w) ((top dp un gd l).deeper (envOf qual scope L' f cdv)) (execs body (envOf qual scope L' f cdv))
        (fun fl s' => Q (match fl with | .ret v => v | _ => .none) s')
        (fun e s' => wpAny (model prog w) ((top dp un gd l).deeper (envOf qual scope L' f cdv)) (leaving (envOf qual scope L' f cdv) e) (fun _ s'' => E e s'') (fun e' s'' => E e' s'') s')
        { s with heap := h₁, toks := s.toks + binds.length })
    (hco : scope.isCoroutine = false) (hgen : scope.isGenerator = false) (hk : scope.kind = .function) (hcell : ∀ x ∈ scope.names, x.2 ≠ .cell) :
    FnB prog w p loose mean mg mb f d u vs r := by
  intro dp un gd l base g s Q E hdp hun hb hfr hX hT hst hsz hret
  have hs : base.StaysIn s.heap := fun b o e => hst b o (hb b o e)
  refine wpAny_call ?_
  refine codeAny_call_def (fd := fnOf name qual params body scope dV kV doc pm an cdv ct) (body := body) (binds := binds) (by show dp < _; omega) ((hX.keeps fun b o e => hs b o e) _ _ ho) rfl (hT.nolimit.keeps fun b o e => hs b o e) (codeRec_of (hX.keeps fun b o e => hs b o e) hcd) rfl (hbind s (hX.keeps fun b o e => hs b o e)) hcell hloc (fun h₁ hns hk₁ => ?_) hco hgen hk
  exact h dp un gd l base g s Q E s.heap.objs.size h₁ hdp hun ⟨rfl, hb, hfr⟩ ⟨hns, fun b o e => hk₁ _ _ (hst _ _ e), hsz⟩ News.nil (hX.keeps fun b o e => hb b o e) (hT.keeps fun b o e => hb b o e) ⟨trivial, hX, hT⟩ rfl hret
theorem ld_fault {A : Around} {E : Value → Shared → Prop} {s : Shared} {base : Heap} {env : Env} {pos : Pos} {Q : Value → Shared → Prop} (kb : base.StaysIn s.heap) (X : (Mine.hd.heap_1_1 w.params).In base) (T : Top p loose mean mg mb base) (h : Q (.ref 44) s)
    (hg : env.globals = mainGlobals) (hk : env.scope.kind = .function) (hx : env.kindOf (Str.ofString "SheetFault") = some .globalImplicit) : wpAny (model prog w) A (eval (.Name (Str.ofString "SheetFault") pos) env) Q E s :=
  Name_function_global hk hx (loadGlobal_global (env := env) (by rw [hg]; exact T.g.keeps fun b o e => kb b o e) (mg_of X T.g (by k_is)) h) (by decide)
theorem caught_F {A : Around} {E : Value → Shared → Prop} {s : Shared} {base : Heap} {l : List Env} {env : Env} {L e : Addr} {b₀ : Stmt} {suite : List Stmt} {pos np : Pos} {rest : List ExceptHandler} {Q : Flow → Shared → Prop}
    (hfr : A.frames = some (env :: l)) (hf : env.frame = some L) (X : (Mine.hd.heap_1_1 w.params).In base) (T : Top p loose mean mg mb base) (hfl : Heap.Flying base (env :: l) e (.ref 44) s.heap)
    (k : ∀ h', base.StaysIn h' → wpAny (model prog w) (A.mark (some (.ref e))) (execs (b₀ :: suite) env) Q (notedBy (model prog w) (A.mark (some (.ref e))) env (cameBackBy (model prog w) A env E)) { s with heap := h' })
    (hg : env.globals = mainGlobals) (hk : env.scope.kind = .function) (hx : env.kindOf (Str.ofString "SheetFault") = some .globalImplicit) :
    wpAny (model prog w) A (noteFrame (.ref e) env) (fun _ s₂ => wpAny (model prog w) A (setFlight (.ref e) none) (fun _ s₃ =>
      wpAny (model prog w) A (handleBy (.ref e) env (.ExceptHandler (some (.Name (Str.ofString "SheetFault") np)) none (b₀ :: suite) pos :: rest)) Q E s₃) E s₂) E s := by
  obtain ⟨f1, f2, f3, oe, vs, T', oT, ts, a1, a2, a3, a4, a5⟩ := hfl
  have h0 : 0 < vs.size := by
    have := (Array.getElem?_eq_some_iff.mp a4).1
    omega
  have hW : Heap.FlyingW base (env :: l) e (.ref 44) vs[0] s.heap := ⟨f1, f2, f3, oe, vs, T', oT, ts, a1, ⟨a2, Array.getElem?_eq_getElem h0⟩, a3, a4, a5⟩
  refine wpAny_looks_onW hfr hf hW fun h₄ held₄ _ => ?_
  refine wpAny_landsW held₄ fun h₅ held _ => ?_
  refine wpAny_handleBy_cons (codeAny_handlers_test (ld_fault (s := { s with heap := h₅ }) held.1 X T ?_ hg hk hx)) (by intro q; cases q)
  obtain ⟨bs, sub, ab, col, dd, k0, k1, k2, k3, k5, hC⟩ := faultCls (X.keeps fun b o e => held.1 b o e)
  obtain ⟨ob, hob, hoc⟩ := held.there
  refine wpAny_excMatches_sub_self hC hob hoc (by decide +kernel) ?_
  exact codeAny_handlers_suite (lands_againW held fun h₆ hfl₆ _ => k h₆ hfl₆.1)
theorem rk_Ref_1 : True := by
  k_with "k_room" => (((try simp only [depth_under_make, depth_under_kw, depth_in1, depth_deeper, depth_caller]); (try dsimp only [top]); omega))
  trivial
theorem rk_Ref_2 : True := by
  k_with "k_units" => (((try simp only [units_in1, units_deeper, Around.mark_units]); (try dsimp only [top]); omega))
  trivial
theorem rk_Ref_3 : True := by
  k_with "units_room" => (((try simp only [units_in1, units_deeper, Around.mark_units]); (try dsimp only [top]); omega))
  trivial
theorem rk_Ref_4 : True := by
  k_with "k_ne" => (((try dsimp only); first | assumption | exact Ne.symm (by assumption) | (refine neN ?_; omega)))
  trivial
theorem rk_Ref_5 : True := by
  k_with "k_all" => (first | assumption | exact List.forall_mem_nil _ | (refine' List.forall_mem_cons.mpr ⟨?a, ?b⟩; (case a => k_ne); (case b => k_all)))
  trivial
theorem rk_Ref_6 : True := by
  k_with "use:takes" => (repeat' (first | exact Takes.nil | exact Take1.head | refine' Takes.cons ?_ ?_ | refine' Take1.tail ?_))
  trivial
theorem rk_Ref_7 : True := by
  k_with "use:apart" => (((try dsimp only); repeat' (first | assumption | exact List.forall_mem_nil _ | refine' List.forall_mem_cons.mpr ⟨_, _⟩ | (intro x9 hx9; exact absurd hx9 (by simp)) | (dsimp only; first | assumption | exact Ne.symm (by assumption)) | k_ne)))
  trivial
theorem rk_Ref_8 : True := by
  k_with "use:room" => (first | (refine' room3 ?h9 ?e9; (case h9 => assumption); (case e9 => exact rfl)) | (refine' room_le ?h8 ?e8; (case h8 => assumption); (case e8 => exact rfl)) | ((try dsimp only [top, Around.deeper]); omega))
  trivial
theorem rk_Ref_9 : True := by
  k_with "use:le" => (first | assumption | exact le_mil (by assumption) | omega)
  trivial
theorem rk_Ref_10 : True := by
  k_with "exec Raise some none" => ((k_here; refine raise_stmt rfl ?_))
  trivial
theorem rk_Ref_11 : True := by
  k_with "call ref" => ((k_here; (with_reducible show wpAny _ _ (call (Value.ref 44) [_]) _ _ _); k_dflt (refine' fault_use ?B ?F ?X ?N ?T rfl rfl ?hd ?hu ?_; (case B => k_asm); (case F => k_asm); (case X => k_asm); (case N => k_asm); (case T => k_asm); (case hd => walk_at "use:room"); (case hu => walk_at "use:room"); intro e' tp' dx' h' tk' F' N')))
  trivial
theorem rk_Ref_12 : True := by
  k_with "RaiseBack" => ((k_here; k_dflt (refine' ⟨_, _, _, rfl, faultCls ?X, News.get ?N (List.Mem.head _), ?_⟩; (case N => k_asm); (case X => k_in)); (try dsimp only)))
  trivial
theorem rk_Ref_13 : True := by
  k_with "leaving ref" => ((k_here; k_dflt (first | (refine' leave_new_F ?B ?F ?N (List.Mem.head _) rfl rfl ?_; (case B => k_asm); (case F => k_asm); (case N => k_asm); intro h' hfl') | (refine' leave_fly rfl rfl ?fl ?_; (case fl => assumption); intro h' hfl'))))
  trivial

theorem rk_Ref_14 : True := by
  k_with "k_ne" => (first | assumption | exact Ne.symm (by assumption) | walk_at "ne:lt" | ((try dsimp only); first | assumption | exact Ne.symm (by assumption) | walk_at "ne:lt" | (refine neN ?_; omega)))
  trivial
theorem rk_Ref_15 : True := by
  k_with "k_all" => (first | assumption | exact List.forall_mem_nil _ | (refine neAll_of ?_; walk_at "use:conj"))
  trivial
theorem rk_Ref_16 : True := by
  k_with "use:conj" => (first | exact True.intro | assumption | ((refine And.intro ?_ ?_) <;> walk_at "use:conj") | ((with_reducible show NeAll _ _); refine neAll_lt ?_; walk_at "lastlt") | k_ne)
  trivial
theorem rk_Ref_17 : True := by
  k_with "ne:lt" => (first | (refine Nat.ne_of_lt ?_; walk_at "lt") | (refine Nat.ne_of_gt ?_; walk_at "lt"))
  trivial
theorem rk_Ref_18 : True := by
  k_with "lt" => (with_reducible first | assumption | exact pj0 (by assumption) | exact pj1 (by assumption) | exact pj2 (by assumption) | exact pj3 (by assumption) | exact pj4 (by assumption) | exact pj5 (by assumption) | exact pj6 (by assumption) | exact pj7 (by assumption) | exact pj8 (by assumption) | exact pj9 (by assumption) | exact pj10 (by assumption) | exact pj11 (by assumption))
  trivial
theorem rk_Ref_19 : True := by
  k_with "lastlt" => (with_reducible first | assumption | exact lk1 (by assumption) | exact lk2 (by assumption) | exact lk3 (by assumption) | exact lk4 (by assumption) | exact lk5 (by assumption) | exact lk6 (by assumption) | exact lk7 (by assumption))
  trivial
theorem rk_Ref_20 : True := by
  k_with "use:apart" => (walk_at "use:conj")
  trivial
theorem rk_Ref_21 : True := by
  k_with "use:sides" => (((case B => k_asm); (case F => k_asm); (case X => k_asm); (case N => k_asm); (case T => k_asm); (case tk => walk_at "use:takes"); (case dj => walk_at "use:apart"); (case hd => walk_at "use:room"); (case hu => walk_at "use:room")))
  trivial
theorem rk_Ref_22 : True := by
  k_with "use:in" => ((intro h' tk' F' N' hlt'; (try dsimp only [List.cons_append, List.nil_append] at N'); (try dsimp only [AllLt] at hlt'); (try dsimp only); (try k_sweep)))
  trivial

theorem rk_Ref_23 : True := by
  k_with "call ref" => ((k_here; (with_reducible show wpAny _ _ (call (Value.ref 220) _) _ _ _); k_dflt ((refine' Fn.useBad (markup_bad ?u1 ?u2) ?B ?F ?X ?N ?T rfl rfl ?tk ?dj ?hd ?hu ?_); walk_at "use:sides"; (case u1 => assumption); (case u2 => assumption); (intro e9 h9 tk9 hf9; (try dsimp only)))))
  trivial
set_option pp.deepTerms false
set_option pp.proofs false
set_option maxHeartbeats 8000000 in
theorem refused_fn {Tx : Str} {tT : Tok} (hx : Tx.length ≤ 100000) (hP : Pz (lst Tx) .start none) :
    FnB prog w p loose mean mg mb 281 40 1000 [.str Tx tT] (.bool true) := by
  refine' FnB.intro (binds := [(Str.ofString "text", .str Tx tT)]) ?ho ?hcd ?hb ?hl ?hd ?_ ?c2 ?c3 ?c4 ?c5
  (case ho => k_is)
  (case hcd => k_is)
  (case hb => (intro s0 hX0; exact BindsTo.of_eq rfl))
  (case hl => exact locs rfl)
  (case hd => decide)
  (case c2 => exact rfl)
  (case c3 => exact rfl)
  (case c4 => exact rfl)
  (case c5 => decide)
  intro dp un gd l base g s Q E L' h₁ hdp hun B F N X TP hB hL hret
  (try dsimp only)
  (try k_fold)
  k_steps
  refine caught_F rfl rfl hB.2.1 hB.2.2 hf9 (fun h8 kb => ?_) rfl rfl rfl
  (try dsimp only)
  k_steps
  (try k_unfold)
  (try dsimp only)
  exact hret _ _ kb
end
end
section
/-! loops whose state is any word on the frame and the ledger -/
section
variable {prog : Program} {w : World} {A : Around} {E : Value → Shared → Prop} {s : Shared} {env : Env} {h₀ : Heap} {x : Str} {body : List Stmt} {Q : Flow → Shared → Prop}
noncomputable def JEnd (h₀ : Heap) (L I : Addr) (oI : Obj) (J : (Str → Option Value) → List (Addr × Obj) → Prop) (s₁ s₂ : Shared) : Prop :=
  ∃ h' tk m' nx, s₂ = { s₁ with heap := h', toks := tk } ∧ Fr h₀ L h' m' ∧ News h₀ L h' ((I, oI) :: nx) ∧ (∀ p ∈ nx, p.1 ≠ I) ∧ J m' nx
noncomputable def JPost (h₀ : Heap) (L I : Addr) (oI : Obj) (J : (Str → Option Value) → List (Addr × Obj) → Prop) (s₁ : Shared) (Q : Flow → Shared → Prop) (f : Flow) (s₂ : Shared) : Prop :=
  match f with
  | .ret v => Q (.ret v) s₂
  | .brk => Q .next s₂
  | _ => JEnd h₀ L I oI J s₁ s₂
theorem iter_listJ {l : Addr} {vs : List Value} {nn : Nat} {m₀ : Str → Option Value} {news : List (Addr × Obj)} (J : Nat → (Str → Option Value) → List (Addr × Obj) → Prop)
    (hh : A.handled = none) (hl : (l, W.listOf vs.toArray nn) ∈ news) (F : Fr h₀ env.locals s.heap m₀) (N : News h₀ env.locals s.heap news) (hj : J 0 m₀ news) (hJl : ∀ i m nx, J i m nx → (l, W.listOf vs.toArray nn) ∈ nx)
    (turn : ∀ I i v m₁ news₁ h tk oI, (∀ p ∈ news, @LT.lt Nat _ p.1 I) → vs[i]? = some v → J i m₁ news₁ → (∀ p ∈ news₁, p.1 ≠ I) → Fr h₀ env.locals h (fun y => if y = x then some v else m₁ y) → News h₀ env.locals h ((I, oI) :: news₁) →
      wpAny (model prog w) A (execs body env) (JPost h₀ env.locals I oI (J (i + 1)) { s with heap := h, toks := tk } Q) E { s with heap := h, toks := tk })
    (done : ∀ m₁ news₁ h tk, J vs.length m₁ news₁ → Fr h₀ env.locals h m₁ → News h₀ env.locals h news₁ → Q .next { s with heap := h, toks := tk }) :
    wpAny (model prog w) A (pyIter (.ref l)) (fun it s₂ => LoopAtV prog w A h₀ env x body Q E it s₂) E s := by
  have hol : s.heap.get? l = some (W.listOf vs.toArray nn) := (N _ hl).1
  have hls : s.heap.IsList l vs.toArray := ⟨_, hol, rfl, nn, rfl⟩
  have hne : l ≠ s.heap.objs.size := Nat.ne_of_lt (Heap.lt_size hol)
  refine wpAny_pyIter_list hls ?_
  have Wk := Walks.list (prog := prog) (w := w) hh s.heap.objs.size l hne vs.toArray
  have hlen : vs.toArray.size = vs.length := by simp
  rw [hlen] at Wk
  refine ⟨_, _, _, vs.length, _, _, m₀, news, J, rfl, Wk, ?_, ?_, ?_, ⟨⟨_, Heap.get?_push_size _ rfl, rfl, rfl⟩, hls.at fun o e => Heap.get?_push_of_some _ e⟩, F.push _, (fun p hp => ⟨Heap.get?_push_of_some _ (N p hp).1, (N p hp).2⟩), hj, ?_, ?_⟩
  · intro hm
    rcases List.mem_cons.mp hm with e | hm
    · exact absurd F.ns.lt (e ▸ Nat.lt_irrefl _)
    · exact (N _ hl).2.1 ((List.mem_singleton.mp hm).symm)
  · intro b hb
    rw [List.mem_singleton.mp hb]
    exact next_is_new F
  · intro p hp hI
    exact absurd (Heap.lt_size (N p hp).1) ((List.mem_singleton.mp hI) ▸ Nat.lt_irrefl _)
  · rintro i v m₁ news₁ s₁ own ⟨hh', tk', rfl⟩ hin hP hJ hoff hown hget hfp hst F₁ N₁
    have hv : vs[i]? = some v := by simpa using hP
    have hl₁ := hJl _ _ _ hJ
    have hlo : hh'.get? l = some (W.listOf vs.toArray nn) := (N₁ _ (List.mem_append.mpr (.inr hl₁))).1
    obtain ⟨oI, hoI, _⟩ := hst.1
    have hmem := hfp s.heap.objs.size (List.mem_cons_self ..) (next_is_new F) _ hoI
    have N₂ : News h₀ env.locals hh' ((s.heap.objs.size, oI) :: news₁) := fun p hp => by
      rcases List.mem_cons.mp hp with rfl | hp
      · exact N₁ _ (List.mem_append.mpr (.inl hmem))
      · exact N₁ p (List.mem_append.mpr (.inr hp))
    refine wpAny_mono (turn s.heap.objs.size i v m₁ news₁ hh' tk' oI (fun p hp => Heap.lt_size (N p hp).1) hv hJ (fun p hp e => hoff p hp (List.mem_singleton.mpr e)) F₁ N₂) (fun f s₂ p => ?_) fun _ _ e => e
    have fin : JEnd h₀ env.locals s.heap.objs.size oI (J (i + 1)) { s with heap := hh', toks := tk' } s₂ → LoopStepU h₀ env.locals [s.heap.objs.size] own (J (i + 1)) { s with heap := hh', toks := tk' } .next s₂ := by
      rintro ⟨h', tk, m', nx, e, F', N', ho, hm⟩
      refine ⟨rfl, h', tk, m', nx, e, F', fun p hp => ?_, fun p hp hI => ho p hp (List.mem_singleton.mp hI), hm⟩
      rcases List.mem_append.mp hp with h | h
      · have h2 : hh'.get? p.1 = some p.2 := hget p h
        rcases List.mem_cons.mp (hown p h) with h1 | h1
        · rw [h1, hoI] at h2
          have h3 : p = (s.heap.objs.size, oI) := Prod.ext h1 (Option.some.inj h2).symm
          rw [h3]; exact N' _ (List.mem_cons_self ..)
        · have h1 := List.mem_singleton.mp h1
          rw [h1, hlo] at h2
          have h3 : p = (l, listOf vs.toArray nn) := Prod.ext h1 (Option.some.inj h2).symm
          rw [h3]
          exact N' _ (List.mem_cons_of_mem _ (hJl _ _ _ hm))
      · exact N' p (List.mem_cons_of_mem _ h)
    cases f with
    | ret v => exact .ret p
    | brk => exact .brk p
    | next => exact .next (fin p)
    | cont => exact .cont (fin p)
  · rintro h' tk m' news' F' N' _ hJ
    exact done m' news' h' tk hJ F' N'

theorem RangeRest.inv {I : Addr} {a : Int} {n : Nat} (J : Nat → (Str → Option Value) → List (Addr × Obj) → Prop)
    (turn : ∀ i t m news h tk it, i < n → J i m news → (∀ p ∈ news, p.1 ≠ I) → Fr h₀ env.locals h (fun y => if y = x then some (.int (a + (i : Int)) t) else m y) → News h₀ env.locals h ((I, it) :: news) →
      wpAny (model prog w) A (execs body env) (UnrPost h₀ env.locals { s with heap := h, toks := tk } I it (fun m' news' => (∀ p ∈ news', p.1 ≠ I) ∧ J (i + 1) m' news') Q) E { s with heap := h, toks := tk })
    (done : ∀ m news h tk, J n m news → Fr h₀ env.locals h m → News h₀ env.locals h news → Q .next { s with heap := h, toks := tk }) :
    ∀ (k i : Nat) (m : Str → Option Value) (news : List (Addr × Obj)), i + k = n → (∀ p ∈ news, p.1 ≠ I) → J i m news → RangeRest prog w A E h₀ env x body Q s I a n k i m news := by
  intro k
  induction k with
  | zero =>
    intro i m news e ho hJ
    obtain rfl : i = n := by omega
    exact .zero fun h tk F N => done m news h tk hJ F N
  | succ k ih =>
    intro i m news e ho hJ
    refine .succ fun t h tk F N => ?_
    refine wpAny_mono (turn i t m news h tk _ (by omega) hJ ho F N) (fun f s₂ p => ?_) fun _ _ e => e
    have fin : UnrEnd h₀ env.locals { s with heap := h, toks := tk } I (itR (a + ((i + 1 : Nat) : Int)) ((n : Int) - ((i + 1 : Nat) : Int))) (fun m' news' => (∀ p ∈ news', p.1 ≠ I) ∧ J (i + 1) m' news') s₂ →
        UnrEnd h₀ env.locals { s with heap := h, toks := tk } I (itR (a + ((i + 1 : Nat) : Int)) ((n : Int) - ((i + 1 : Nat) : Int))) (RangeRest prog w A E h₀ env x body Q s I a n k (i + 1)) s₂ := by
      rintro ⟨h', tk', m', news', e', F', N', ho', ho2, hJ'⟩
      exact ⟨h', tk', m', news', e', F', N', ho', ih (i + 1) m' news' (by omega) ho2 hJ'⟩
    cases f with
    | ret v => exact p
    | brk => exact p
    | next => exact fin p
    | cont => exact fin p
end
end
section
theorem rk_Elem_0 : True := by
  k_with_none
  trivial


section
variable {prog : Program} {w : World} {p : Program} {loose : List Str} {mean : ExcName → Option Value} {mg mb : Str → Option Value}

theorem own_sub {g h : Heap} {L : Addr} {l own : List (Addr × Obj)} (N : News g L h l) (hs : ∀ p ∈ own, p ∈ l) : Own g h own := fun p hp => own_of N p (hs p hp)
theorem lit_lts : lst (Str.ofString "</") = [60, 47] := by decide +kernel
theorem str_le {xs : List Str} {x : Str} {k : Nat} (h : xs.all (fun y => y.length ≤ k) = true) (hx : x ∈ xs) : x.length ≤ k := by
  have := List.all_eq_true.mp h x hx
  simpa using this
theorem pstr_le {xs : List (Str × Str)} {x y : Str} {k : Nat} (h : xs.all (fun p => p.1.length ≤ k && p.2.length ≤ k) = true) (hx : (x, y) ∈ xs) : x.length ≤ k ∧ y.length ≤ k := by
  have := List.all_eq_true.mp h (x, y) hx
  simpa using this
/-- what _law_element gives back -/
noncomputable abbrev ElK (prog : Program) (w : World) (sr : Addr) (P : List Nat → Tr → Prop) : Nat → (Value → List (Addr × Obj) → Prop) → Prop := fun b C =>
  ∀ l X tx v t so' Z n, P (lst X) t → Src so' → RowIn prog w Z v t → (∀ p ∈ Z, @LE.le Nat _ b p.1) → @LE.le Nat _ b l → C (.ref l) ((l, W.listOf #[.str X tx, .ref v] n) :: (sr, so') :: Z)
theorem atD0 {o : Obj} (h1 : o.IsDictOf (strKind prog w) []) (h2 : PyProof.V.FlatPairs PyData.str [] []) : AtD prog w o [] := ⟨_, h1, h2⟩
theorem txt_lst (x : Str) : txt (lst x) = x := mk_lst x
/-- the frame of _law_element: what later statements read; the rest is u's -/
noncomputable abbrev ElM (sr kd : Addr) (dp' : Int) (td : Tok) (X nm : Str) (tX tn : Tok) (u : Str → Option Value) : Str → Option Value := fun y =>
  if y = Str.ofString "text" then some (.str X tX) else if y = Str.ofString "attributes" then some (.ref kd) else if y = Str.ofString "name" then some (.str nm tn) else if y = Str.ofString "source" then some (.ref sr)
  else if y = Str.ofString "depth" then some (.int dp' td) else u y
theorem ElM.is {sr kd : Addr} {dp' : Int} {td : Tok} {X nm : Str} {tX tn : Tok} {m : Str → Option Value} (h1 : m (Str.ofString "text") = some (.str X tX)) (h2 : m (Str.ofString "attributes") = some (.ref kd))
    (h3 : m (Str.ofString "name") = some (.str nm tn)) (h4 : m (Str.ofString "source") = some (.ref sr)) (h5 : m (Str.ofString "depth") = some (.int dp' td)) : m = ElM sr kd dp' td X nm tX tn m := by
  funext y
  show _ = if _ then _ else _
  by_cases q1 : y = Str.ofString "text"
  · rw [if_pos q1, q1, h1]
  · rw [if_neg q1]
    by_cases q2 : y = Str.ofString "attributes"
    · rw [if_pos q2, q2, h2]
    · rw [if_neg q2]
      by_cases q3 : y = Str.ofString "name"
      · rw [if_pos q3, q3, h3]
      · rw [if_neg q3]
        by_cases q4 : y = Str.ofString "source"
        · rw [if_pos q4, q4, h4]
        · rw [if_neg q4]
          by_cases q5 : y = Str.ofString "depth"
          · rw [if_pos q5, q5, h5]
          · rw [if_neg q5]
theorem ElM.fr {g h : Heap} {L sr kd : Addr} {dp' : Int} {td : Tok} {X nm : Str} {tX tn : Tok} {m : Str → Option Value} (F : Fr g L h m) (h1 : m (Str.ofString "text") = some (.str X tX)) (h2 : m (Str.ofString "attributes") = some (.ref kd))
    (h3 : m (Str.ofString "name") = some (.str nm tn)) (h4 : m (Str.ofString "source") = some (.ref sr)) (h5 : m (Str.ofString "depth") = some (.int dp' td)) : Fr g L h (ElM sr kd dp' td X nm tX tn m) := ElM.is h1 h2 h3 h4 h5 ▸ F
/-- the attributes after i turns -/
noncomputable def WAi (i : Nat) (T : List Nat) (as : Ats) : Prop := (i = 0 ∧ T = [] ∧ as = []) ∨ (i = 1 ∧ ∃ v, WA dK T v ∧ as = [(dK, v)]) ∨ (i = 2 ∧ ∃ T1 T2 v1 v2, WA dK T1 v1 ∧ WA xK T2 v2 ∧ T = T1 ++ T2 ∧ as = [(dK, v1), (xK, v2)])
theorem WAi.all {i : Nat} {T : List Nat} {as : Ats} (h : WAi i T as) : WAts T as := by
  rcases h with ⟨_, h⟩ | ⟨_, h⟩ | ⟨_, h⟩
  · exact .inl h
  · exact .inr (.inl h)
  · exact .inr (.inr h)
inductive EP0 (prog : Program) (w : World) (sr : Addr) (dp' : Int) (td : Tok) (L : Addr) : (Str → Option Value) → List (Addr × Obj) → Prop
  | mk {X nm : Str} {tX tn : Tok} {kd : Addr} {ko so' : Obj} {u : Str → Option Value} : lst X = [60] ++ lst nm → AtD prog w ko [] → lst nm ∈ nameL → Src so' → @LT.lt Nat _ L kd → @LT.lt Nat _ sr kd → (kd == sysModules) = false → X.length ≤ 100 →
      EP0 prog w sr dp' td L (ElM sr kd dp' td X nm tX tn u) [(sr, so'), (kd, ko)]
inductive EP1 (prog : Program) (w : World) (sr kd : Addr) (dp' : Int) (td : Tok) : (Str → Option Value) → List (Addr × Obj) → Prop
  | mk {X nm : Str} {tX tn : Tok} {ko so' : Obj} {T : List Nat} {as : Ats} {u : Str → Option Value} : lst X = [60] ++ lst nm ++ T → WAts T as → AtD prog w ko as → lst nm ∈ nameL → Src so' → X.length ≤ 1000 →
      EP1 prog w sr kd dp' td (ElM sr kd dp' td X nm tX tn u) [(sr, so'), (kd, ko)]
inductive EJ1 (prog : Program) (w : World) (sr kd D : Addr) (vs : List Value) (dp' : Int) (td : Tok) : Nat → (Str → Option Value) → List (Addr × Obj) → Prop
  | mk {i : Nat} {X nm : Str} {tX tn : Tok} {ko so' : Obj} {T : List Nat} {as : Ats} {u : Str → Option Value} : lst X = [60] ++ lst nm ++ T → WAi i T as → AtD prog w ko as → lst nm ∈ nameL → Src so' → X.length ≤ 100 + 400 * i →
      EJ1 prog w sr kd D vs dp' td i (ElM sr kd dp' td X nm tX tn u) [(sr, so'), (kd, ko), (D, W.listOf vs.toArray 0)]
/-- the i-th known attribute -/
noncomputable def Kn (i : Nat) (kx : Str) : Prop := (i = 0 ∧ kx = Str.ofString "d") ∨ (i = 1 ∧ kx = Str.ofString "xml:id")
inductive KnX (i : Nat) : Value → Prop
  | mk {kx : Str} {t : Tok} : Kn i kx → KnX i (.str kx t)
inductive IterP (g : Heap) (L : Addr) (s : Shared) (sr kd : Addr) (ko : Obj) (m : Str → Option Value) : Value → Shared → Prop
  | mk {h : Heap} {tk : Nat} {D : Addr} {vs : List Value} {so' : Obj} : Fr g L h m → News g L h [(sr, so'), (kd, ko), (D, W.listOf vs.toArray 0)] → Src so' → D ≠ sr → D ≠ kd → vs.length ≤ 2 → (∀ i v, vs[i]? = some v → KnX i v) →
      IterP g L s sr kd ko m (.ref D) { s with heap := h, toks := tk }
theorem mem_lst {x : Str} {xs : List Str} {l : List (List Nat)} (h : x ∈ xs) (e : xs.map lst = l) : lst x ∈ l := e ▸ List.mem_map_of_mem h
theorem mem_val {x y : Str} (h : (x, y) ∈ valP) : (lst x, lst y) ∈ valL := List.mem_map_of_mem (f := lstP) h
theorem mem_txt {x y : Str} (h : (x, y) ∈ txtP) : (lst x, lst y) ∈ txtL := List.mem_map_of_mem (f := lstP) h
theorem Kn.len {i : Nat} {kx : Str} (h : Kn i kx) : kx.length ≤ 6 := by
  rcases h with ⟨_, rfl⟩ | ⟨_, rfl⟩
  · decide +kernel
  · decide +kernel
theorem Kn.fresh {i : Nat} {kx : Str} {T : List Nat} {as : Ats} (h : Kn i kx) (hw : WAi i T as) : (PySem.Spec.lookup (.str kx) (encA as)).isSome = false := by
  rcases h with ⟨rfl, rfl⟩ | ⟨rfl, rfl⟩
  · rcases hw with ⟨_, _, rfl⟩ | ⟨e, _⟩ | ⟨e, _⟩
    · rfl
    · exact nomatch e
    · exact nomatch e
  · rcases hw with ⟨e, _⟩ | ⟨_, v, _, rfl⟩ | ⟨e, _⟩
    · exact nomatch e
    · have e : (Str.ofString "xml:id" == txt dK) = false := by decide +kernel
      have e2 : Str.ofString "xml:id" ≠ txt dK := by decide +kernel
      simp only [encA, List.map_cons, List.map_nil, PySem.Spec.lookup, PySem.Spec.same]
      simp [e, e2, Ne.symm e2]
    · exact nomatch e
theorem Kn.add {i : Nat} {kx : Str} {T sp eq q raw v : List Nat} {as : Ats} (h : Kn i kx) (hw : WAi i T as) (h1 : sp ∈ [[32], [10]]) (h2 : eq ∈ [[61], [32, 61, 32]]) (h3 : q ∈ [[34], [39]]) (h4 : (raw, v) ∈ valL) :
    WAi (i + 1) (T ++ (sp ++ lst kx ++ eq ++ q ++ raw ++ q)) (as ++ [(lst kx, v)]) := by
  rcases h with ⟨rfl, rfl⟩ | ⟨rfl, rfl⟩
  · rcases hw with ⟨_, rfl, rfl⟩ | ⟨e, _⟩ | ⟨e, _⟩
    · exact .inr (.inl ⟨rfl, v, ⟨sp, eq, q, raw, h1, h2, h3, h4, rfl⟩, rfl⟩)
    · exact nomatch e
    · exact nomatch e
  · rcases hw with ⟨e, _⟩ | ⟨_, v1, hW, rfl⟩ | ⟨e, _⟩
    · exact nomatch e
    · exact .inr (.inr ⟨rfl, T, _, v1, v, hW, ⟨sp, eq, q, raw, h1, h2, h3, h4, rfl⟩, rfl, rfl⟩)
    · exact nomatch e
theorem atD_set {o : Obj} {kvs : List (Str × Value)} {as : Ats} {x y : Str} {v : Value} (h : (PySem.Spec.lookup (.str x) (encA as)).isSome = false) (hd : o.IsDictOf (strKind prog w) (stored kvs x v))
    (hf : PyProof.V.FlatPairs PyData.str (stored kvs x v) (PyProof.V.putD (.str x) (.str y) (encA as))) : AtD prog w o (as ++ [(lst x, lst y)]) :=
  atD_put (n := lst x) (y := lst y) (by rw [txt_lst]; exact h) (by rw [txt_lst]; exact hd) (by rw [txt_lst, txt_lst]; exact hf)
/-- the frame behind the start tag -/
noncomputable abbrev ElN (sr kd li : Addr) (dp' : Int) (td : Tok) (X nm TL : Str) (tX tn tl : Tok) (u : Str → Option Value) : Str → Option Value := fun y =>
  if y = Str.ofString "inner" then some (.ref li) else if y = Str.ofString "told" then some (.str TL tl) else ElM sr kd dp' td X nm tX tn u y
theorem ElN.is {sr kd li : Addr} {dp' : Int} {td : Tok} {X nm TL : Str} {tX tn tl : Tok} {m : Str → Option Value} (h6 : m (Str.ofString "inner") = some (.ref li)) (h7 : m (Str.ofString "told") = some (.str TL tl)) (h1 : m (Str.ofString "text") = some (.str X tX)) (h2 : m (Str.ofString "attributes") = some (.ref kd))
    (h3 : m (Str.ofString "name") = some (.str nm tn)) (h4 : m (Str.ofString "source") = some (.ref sr)) (h5 : m (Str.ofString "depth") = some (.int dp' td)) : m = ElN sr kd li dp' td X nm TL tX tn tl m := by
  funext y
  show _ = if _ then _ else _
  by_cases q1 : y = Str.ofString "inner"
  · rw [if_pos q1, q1, h6]
  · rw [if_neg q1]
    by_cases q2 : y = Str.ofString "told"
    · rw [if_pos q2, q2, h7]
    · rw [if_neg q2]
      exact congrFun (ElM.is h1 h2 h3 h4 h5) y
theorem ElN.fr {g h : Heap} {L sr kd li : Addr} {dp' : Int} {td : Tok} {X nm TL : Str} {tX tn tl : Tok} {m : Str → Option Value} (F : Fr g L h m) (h6 : m (Str.ofString "inner") = some (.ref li)) (h7 : m (Str.ofString "told") = some (.str TL tl)) (h1 : m (Str.ofString "text") = some (.str X tX)) (h2 : m (Str.ofString "attributes") = some (.ref kd))
    (h3 : m (Str.ofString "name") = some (.str nm tn)) (h4 : m (Str.ofString "source") = some (.ref sr)) (h5 : m (Str.ofString "depth") = some (.int dp' td)) : Fr g L h (ElN sr kd li dp' td X nm TL tX tn tl m) := ElN.is h6 h7 h1 h2 h3 h4 h5 ▸ F
inductive EJ2 (prog : Program) (w : World) (sr kd : Addr) (dp' : Int) (td : Tok) (f : Nat) (nm : Str) (pre : List Nat) (ko : Obj) (b : Nat) : Nat → (Str → Option Value) → List (Addr × Obj) → Prop
  | mk {i : Nat} {X TL : Str} {tX tn tl : Tok} {li : Addr} {kv : Array Value} {kn : Nat} {so' : Obj} {body : List Nat} {kids : List Tr} {Z : List (Addr × Obj)} {u : Str → Option Value} : lst X = pre ++ body → WrB f i body kids (lst TL) → RowsIn prog w Z kv.toList kids →
      (∀ p ∈ Z, @LE.le Nat _ b p.1) → Src so' → kids.length ≤ i → @LE.le Nat _ b li → X.length ≤ 2000 + 3000 * i → TL.length ≤ 100 * i →
      EJ2 prog w sr kd dp' td f nm pre ko b i (ElN sr kd li dp' td X nm TL tX tn tl u) ((sr, so') :: (kd, ko) :: (li, W.listOf kv kn) :: Z)
inductive E2 (J : Nat → (Str → Option Value) → List (Addr × Obj) → Prop) (m : Str → Option Value) (news : List (Addr × Obj)) : Prop
  | mk {i : Nat} : i ≤ 2 → J i m news → E2 J m news
theorem rsmall {n : Nat} (h : n ≤ 2) : Builtin.Range.small 0 (n : Int) 1 = true := by
  obtain rfl | rfl | rfl : n = 0 ∨ n = 1 ∨ n = 2 := by omega
  all_goals decide
theorem rsize {n : Nat} (h : n ≤ 2) : Builtin.Range.rangeSize 0 (n : Int) 1 = (n : Int) := by
  obtain rfl | rfl | rfl : n = 0 ∨ n = 1 ∨ n = 2 := by omega
  all_goals decide
theorem tail_swap {g h : Heap} {L : Addr} {a b : Addr × Obj} {Z R : List (Addr × Obj)} (N : News g L h (a :: b :: Z ++ R)) : News g L h (a :: b :: (R ++ Z)) := News.sub N fun p hp => by
  simp only [List.cons_append, List.mem_cons, List.mem_append] at hp ⊢
  rcases hp with hp | hp | hp | hp <;> simp [hp]
theorem neAll_ge {a : Addr} {b : Nat} {Y : List (Addr × Obj)} (h2 : ∀ p ∈ Y, @LE.le Nat _ b p.1) (h3 : @LT.lt Nat _ a b) : NeAll a Y := neAll_mk fun p hp q => by
  have h4 := h2 p hp
  have h5 : @Eq Nat p.1 a := q
  omega
theorem el_len {f : Nat} {X : Str} {t : Tr} (h : WrEl f (lst X) t) (hf : f ≤ 1) : X.length ≤ 700 := by
  have := h.len
  rw [lst_len] at this
  obtain rfl | rfl : f = 0 ∨ f = 1 := by omega
  · simp only [elMax] at this; omega
  · simp only [elMax] at this; omega
theorem add_row {A : Around} {E : Value → Shared → Prop} {s : Shared} {h₀ : Heap} {L l b : Addr} {m : Str → Option Value} {news : List (Addr × Obj)} {kv : Array Value} {v : Value} {Q : Value → Shared → Prop} (F : Fr h₀ L s.heap m) (N : News h₀ L s.heap news)
    (hl : s.heap.IsList l kv) (hb : s.heap.IsList b #[v]) (hz : kv.size ≤ 100) (h : ∀ D h', Fr h₀ L h' m → News h₀ L h' ((D, W.listOf (kv.push v) 0) :: news) → @LT.lt Nat _ L D ∧ AllLt D news → Q (.ref D) { s with heap := h' }) :
    wpAny (model prog w) A (binaryOp .Add (.ref l) (.ref b)) Q E s := by
  refine add_arrays F N hl hb (fun h' F' N' => ?_) (by rw [sizeLine_eq]; simp; omega)
  have e : (kv.toList ++ (#[v] : Array Value).toList).toArray = kv.push v := by rw [← Array.toArray_toList (xs := kv.push v), Array.toList_push]
  rw [e] at N'
  exact h _ h' F' N' ⟨by obtain ⟨_, _, _, ho, _⟩ := F.ns; exact Heap.lt_size ho, allLt_of fun p hp => Heap.lt_size (N p hp).1⟩
inductive IterR (g : Heap) (L : Addr) (s : Shared) (J : (Str → Option Value) → List (Addr × Obj) → Prop) : Value → Shared → Prop
  | mk {h : Heap} {tk : Nat} {r : Addr} {n : Nat} {t u v : Tok} {m : Str → Option Value} {news : List (Addr × Obj)} : n ≤ 2 → IsRange h r 0 (n : Int) 1 t u v → Fr g L h m → News g L h news → J m news → IterR g L s J (.ref r) { s with heap := h, toks := tk }
/-- an element one step deeper -/
noncomputable def WrK (f : Nat) (T : List Nat) (t : Tr) : Prop := ∃ g, f = g + 1 ∧ WrEl g T t
theorem WrK.len {f : Nat} {X : Str} {t : Tr} (h : WrK f (lst X) t) (hf : f ≤ 2) : X.length ≤ 700 := by
  obtain ⟨g, rfl, h⟩ := h
  exact el_len h (by omega)
theorem WrK.kid {f n : Nat} {b raw plain tx more : List Nat} {kids : List Tr} {t : Tr} (h : WrK f more t) (h1 : WrB f n b kids tx) (h2 : (raw, plain) ∈ txtL) : WrB f (n + 1) (b ++ raw ++ more) (kids ++ [t]) (tx ++ plain) := by
  obtain ⟨g, rfl, h⟩ := h
  exact .kid h1 h2 h
theorem rk_Elem_1 : True := by
  k_with "k_room" => (((try simp only [depth_under_make, depth_under_kw, depth_in1, depth_deeper, depth_caller]); (try dsimp only [top]); omega))
  trivial
theorem rk_Elem_2 : True := by
  k_with "k_units" => (((try simp only [units_in1, units_deeper, Around.mark_units]); (try dsimp only [top]); omega))
  trivial
theorem rk_Elem_3 : True := by
  k_with "units_room" => (((try simp only [units_in1, units_deeper, Around.mark_units]); (try dsimp only [top]); omega))
  trivial
theorem rk_Elem_4 : True := by
  k_with "k_ne" => (((try dsimp only); first | assumption | exact Ne.symm (by assumption) | (refine neN ?_; omega)))
  trivial
theorem rk_Elem_5 : True := by
  k_with "k_all" => (first | assumption | exact List.forall_mem_nil _ | (refine' List.forall_mem_cons.mpr ⟨?a, ?b⟩; (case a => k_ne); (case b => k_all)))
  trivial
theorem rk_Elem_6 : True := by
  k_with "use:takes" => (repeat' (first | exact Takes.nil | exact Take1.head | refine' Takes.cons ?_ ?_ | refine' Take1.tail ?_))
  trivial
theorem rk_Elem_7 : True := by
  k_with "use:apart" => (((try dsimp only); repeat' (first | assumption | exact List.forall_mem_nil _ | refine' List.forall_mem_cons.mpr ⟨_, _⟩ | (intro x9 hx9; exact absurd hx9 (by simp)) | (dsimp only; first | assumption | exact Ne.symm (by assumption)) | k_ne)))
  trivial
theorem rk_Elem_8 : True := by
  k_with "use:room" => (first | (refine' room3 ?h9 ?e9; (case h9 => assumption); (case e9 => exact rfl)) | (refine' room_le ?h8 ?e8; (case h8 => assumption); (case e8 => exact rfl)) | ((try dsimp only [top, Around.deeper]); omega))
  trivial
theorem rk_Elem_9 : True := by
  k_with "use:le" => (first | assumption | exact le_mil (by assumption) | omega)
  trivial
theorem rk_Elem_10 : True := by
  k_with "exec Raise some none" => ((k_here; refine raise_stmt rfl ?_))
  trivial
theorem rk_Elem_11 : True := by
  k_with "call ref" => ((k_here; (with_reducible show wpAny _ _ (call (Value.ref 44) [_]) _ _ _); k_dflt (refine' fault_use ?B ?F ?X ?N ?T rfl rfl ?hd ?hu ?_; (case B => k_asm); (case F => k_asm); (case X => k_asm); (case N => k_asm); (case T => k_asm); (case hd => walk_at "use:room"); (case hu => walk_at "use:room"); intro e' tp' dx' h' tk' F' N')))
  trivial
theorem rk_Elem_12 : True := by
  k_with "RaiseBack" => ((k_here; k_dflt (refine' ⟨_, _, _, rfl, faultCls ?X, News.get ?N (List.Mem.head _), ?_⟩; (case N => k_asm); (case X => k_in)); (try dsimp only)))
  trivial
theorem rk_Elem_13 : True := by
  k_with "leaving ref" => ((k_here; k_dflt (first | (refine' leave_new_F ?B ?F ?N (List.Mem.head _) rfl rfl ?_; (case B => k_asm); (case F => k_asm); (case N => k_asm); intro h' hfl') | (refine' leave_fly rfl rfl ?fl ?_; (case fl => assumption); intro h' hfl'))))
  trivial

theorem rk_Elem_14 : True := by
  k_with "k_ne" => (first | assumption | exact Ne.symm (by assumption) | walk_at "ne:lt" | ((try dsimp only); first | assumption | exact Ne.symm (by assumption) | walk_at "ne:lt" | (refine neN ?_; omega)))
  trivial
theorem rk_Elem_15 : True := by
  k_with "k_all" => (first | assumption | exact List.forall_mem_nil _ | (refine neAll_of ?_; walk_at "use:conj"))
  trivial
theorem rk_Elem_16 : True := by
  k_with "use:conj" => (first | exact True.intro | assumption | ((refine And.intro ?_ ?_) <;> walk_at "use:conj") | ((with_reducible show NeAll _ _); refine neAll_lt ?_; walk_at "lastlt") | k_ne)
  trivial
theorem rk_Elem_17 : True := by
  k_with "ne:lt" => (first | (refine Nat.ne_of_lt ?_; walk_at "lt") | (refine Nat.ne_of_gt ?_; walk_at "lt"))
  trivial
theorem rk_Elem_18 : True := by
  k_with "lt" => (with_reducible first | assumption | exact pj0 (by assumption) | exact pj1 (by assumption) | exact pj2 (by assumption) | exact pj3 (by assumption) | exact pj4 (by assumption) | exact pj5 (by assumption) | exact pj6 (by assumption) | exact pj7 (by assumption) | exact pj8 (by assumption) | exact pj9 (by assumption) | exact pj10 (by assumption) | exact pj11 (by assumption))
  trivial
theorem rk_Elem_19 : True := by
  k_with "lastlt" => (with_reducible first | assumption | exact lk1 (by assumption) | exact lk2 (by assumption) | exact lk3 (by assumption) | exact lk4 (by assumption) | exact lk5 (by assumption) | exact lk6 (by assumption) | exact lk7 (by assumption))
  trivial
theorem rk_Elem_20 : True := by
  k_with "use:apart" => (walk_at "use:conj")
  trivial
theorem rk_Elem_21 : True := by
  k_with "use:sides" => (((case B => k_asm); (case F => k_asm); (case X => k_asm); (case N => k_asm); (case T => k_asm); (case tk => walk_at "use:takes"); (case dj => walk_at "use:apart"); (case hd => walk_at "use:room"); (case hu => walk_at "use:room")))
  trivial
theorem rk_Elem_22 : True := by
  k_with "use:in" => ((intro h' tk' F' N' hlt'; (try dsimp only [List.cons_append, List.nil_append] at N'); (try dsimp only [AllLt] at hlt'); (try dsimp only); (try k_sweep)))
  trivial

theorem rk_Elem_23 : True := by
  k_with "newTuple" => ((k_here; k_dflt (refine' newTuple_L ?k1 ?k2 ?_ ?z; (case k1 => k_asm); (case k2 => k_asm); (case z => exact Nat.le_of_ble_eq_true rfl)); intro D' h' F' N' hlt'; (try dsimp only [AllLt] at hlt'); (try dsimp only); (try k_sweep)))
  trivial
theorem rk_Elem_24 : True := by
  k_with "newList" => ((k_here; k_dflt (refine' newList_L ?k1 ?k2 ?_ ?z; (case k1 => k_asm); (case k2 => k_asm); (case z => exact Nat.le_of_ble_eq_true rfl)); intro D' h' F' N' hlt'; (try dsimp only [AllLt] at hlt'); (try dsimp only); (try k_sweep)))
  trivial

theorem rk_Elem_25 : True := by
  k_with "call ref" => ((k_here; (with_reducible show wpAny _ _ (call (Value.ref 241) _) _ _ _); k_dflt ((refine' Fn.useOk (one_strs ?u1 ?u2 ?u3 ?u4 ?u5) ?B ?F ?X ?N ?T rfl rfl ?tk ?dj ?hd ?hu ?_); walk_at "use:sides"; (case u1 => k_ne); (case u2 => assumption); (case u3 => (repeat' (first | exact StrsAre.nil | apply StrsAre.cons))); (case u4 => exact Nat.le_of_ble_eq_true rfl); (case u5 => exact Nat.le_of_ble_eq_true rfl); (intro x' t' so' hx' hS'); (have hxl' := str_le (k := 50) (by decide +kernel) hx'); walk_at "use:in")))
  trivial
theorem rk_Elem_26 : True := by
  k_with "call ref" => ((k_here; (with_reducible show wpAny _ _ (call (Value.ref 248) _) _ _ _); k_dflt ((refine' Fn.useOk (value_fn ?u1) ?B ?F ?X ?N ?T rfl rfl ?tk ?dj ?hd ?hu ?_); walk_at "use:sides"; (case u1 => assumption); (intro x' y' tx' ty' tup' so' hxy' hS' hb' h' tk' F' N' hlt'); (have hlu' := lt_up hlt' hb'); (try dsimp only [AllLt] at hlu'); (try dsimp only at hb'); (have hxl' := (pstr_le (k := 50) (by decide +kernel) hxy').1); (have hyl' := (pstr_le (k := 50) (by decide +kernel) hxy').2); (try dsimp only [List.cons_append, List.nil_append] at N'); (try dsimp only [AllLt] at hlt'); (try dsimp only); (try k_sweep))))
  trivial
theorem rk_Elem_27 : True := by
  k_with "call ref" => ((k_here; (with_reducible show wpAny _ _ (call (Value.ref 255) _) _ _ _); k_dflt ((refine' Fn.useOk (text_fn ?u1) ?B ?F ?X ?N ?T rfl rfl ?tk ?dj ?hd ?hu ?_); walk_at "use:sides"; (case u1 => assumption); (intro x' y' tx' ty' tup' so' hxy' hS' hb' h' tk' F' N' hlt'); (have hlu' := lt_up hlt' hb'); (try dsimp only [AllLt] at hlu'); (try dsimp only at hb'); (have hxl' := (pstr_le (k := 50) (by decide +kernel) hxy').1); (have hyl' := (pstr_le (k := 50) (by decide +kernel) hxy').2); (try dsimp only [List.cons_append, List.nil_append] at N'); (try dsimp only [AllLt] at hlt'); (try dsimp only); (try k_sweep))))
  trivial
theorem rk_Elem_28 : True := by
  k_with "call ref" => ((k_here; (with_reducible show wpAny _ _ (call (Value.ref 234) _) _ _ _); k_dflt ((refine' Fn.useOk (take_fn ?u1 ?u2 ?u3) ?B ?F ?X ?N ?T rfl rfl ?tk ?dj ?hd ?hu ?_); walk_at "use:sides"; (case u1 => assumption); (case u2 => first | decide | omega); (case u3 => first | decide | omega); (intro k' t' so' hk0' hk1' hS'); walk_at "use:in")))
  trivial
theorem rk_Elem_29 : True := by
  k_with "binaryOp Add str str" => ((k_here; k_dflt (refine' add_le ?hx8 ?hy8 ?hc8 ?_; (case hx8 => with_reducible assumption); (case hy8 => with_reducible assumption); (case hc8 => exact Nat.le_of_ble_eq_true rfl)); intro t8' k8' hxy8'; (try dsimp only [Nat.reduceAdd] at hxy8'); (try dsimp only)))
  trivial

theorem rk_Elem_30 : True := by
  k_with "use:takes" => (repeat' (first | exact Takes.nil | exact Take1.head | refine' Takes.cons ?_ ?_ | refine' Take1.tail ?_ | exact Takes.all | refine' Takes.skip ?_))
  trivial
theorem rk_Elem_31 : True := by
  k_with "binaryOp Add ref ref" => ((k_here; k_dflt (refine' add_row ?adF ?adN ?ada ?adb ?adz ?_; (case adF => k_asm); (case adN => k_asm); (case ada => is_list); (case adb => is_list); (case adz => omega)); intro Dk' h' F' N' hlt'; (try dsimp only [AllLt] at hlt'); (try dsimp only); (try k_sweep)))
  trivial
theorem rk_Elem_32 : True := by
  k_with "call ref" => ((k_here; (with_reducible show wpAny _ _ (call (Value.ref 262) _) _ _ _); k_dflt ((refine' Fn.useOk (IH ?u0 _ _ _ ?u1) ?B ?F ?X ?N ?T rfl rfl ?tk ?dj ?hd ?hu ?_); walk_at "use:sides"; (case u0 => assumption); (case u1 => assumption); (intro l9' X9' tx9' v9' t9' so' Z9' n9' hw9' hS' hr9' hz9' hl9' h' tk' F' N' hlt'); (have hlu' := lt_up hlt' hl9'); (try dsimp only [AllLt] at hlu'); (try dsimp only at hl9' hz9'); (replace N' := tail_swap N'); (try dsimp only [List.cons_append, List.nil_append] at N'); (try dsimp only [AllLt] at hlt'); (obtain ⟨ZZ, hZZ⟩ : ∃ ZZ, ZZ = Z ++ Z9' := ⟨_, rfl⟩); (rw [← hZZ] at N'); (have zz1 : NeAll sr ZZ := hZZ ▸ neAll_app z1 (neAll_ge hz9' (by walk_at "lt"))); (have zz2 : NeAll I ZZ := hZZ ▸ neAll_app q4 (neAll_ge hz9' (by walk_at "lt"))); (have hX9 : X9'.length ≤ 700 := hw9'.len hf2); (try dsimp only); (try k_sweep))))
  trivial
theorem rk_Elem_33 : True := by
  k_with "eval Dict nil nil" => ((k_here; k_dflt (refine' newDict_K2 ?k1 ?k2 (TopRead.nolimit (by k_asm)) ?_; (case k1 => k_asm); (case k2 => k_asm)); intro d' h' o' F' N' l1 lL' lo' hs' fs'; (try k_lt l1); (try k_lt2 lL'); (try dsimp only); (try k_sweep)))
  trivial
theorem rk_Elem_34 : True := by
  k_with "setItem ref str" => ((k_here; k_dflt (refine' setItem_K PyProof.V.same_str (strKind_is _ _ _ _) (PyProof.V.Flat.str _ _) ?F ?N ?U ?d ?f ?_ ?z; (case F => k_asm); (case N => k_asm); (case U => k_updF); (case d => k_asm); (case f => k_asm); (case z => (simp only [encA, List.length_map, sizeLine_eq]; omega))); intro h' o' F' N' hd' hf'; (try dsimp only at N'); (try dsimp only); (try k_sweep)))
  trivial
set_option pp.deepTerms false
set_option pp.proofs false
set_option maxHeartbeats 0 in
theorem el_fn {sr : Addr} {so : Obj} {td : Tok} {dp' : Int} (f : Nat) (hf : dp' = 2 - (f : Int)) (hf2 : f ≤ 2) (hs : Src so)
    (IH : dp' < 2 → ∀ (sr : Addr) (so : Obj) (td : Tok), Src so → Fn prog w p loose mean mg mb 262 (10 * f) (200 * f) [.ref sr, .int (dp' + 1) td] [(sr, so)] (PK (ElK prog w sr (WrK f))) False) :
    Fn prog w p loose mean mg mb 262 (10 * (f + 1)) (200 * (f + 1)) [.ref sr, .int dp' td] [(sr, so)] (PK (ElK prog w sr (WrEl f))) False := by
  refine' Fn.intro (binds := [(Str.ofString "source", .ref sr), (Str.ofString "depth", .int dp' td)]) ?ho ?hcd ?hb ?hl ?hd ?_ ?c2 ?c3 ?c4 ?c5
  (case ho => k_is)
  (case hcd => k_is)
  (case hb => (intro s0 hX0; exact BindsTo.of_eq rfl))
  (case hl => exact locs rfl)
  (case hd => first | decide | omega)
  (case c2 => exact rfl)
  (case c3 => exact rfl)
  (case c4 => exact rfl)
  (case c5 => decide)
  intro dp un gd l base g s Q E L' h₁ hdp hun B F N hlt X TP hL hret herr
  (try dsimp only)
  (try k_fold)
  have hsr : @LT.lt Nat _ sr L' := hlt (sr, so) (List.Mem.head _)
  have c1 : (Str.ofString "<").length ≤ 1 := by decide +kernel
  have c2 : (Str.ofString ">").length ≤ 1 := by decide +kernel
  have c3 : (Str.ofString "</").length ≤ 2 := by decide +kernel
  have c4 : (Str.ofString "/>").length ≤ 2 := by decide +kernel
  have c5 : (Str.ofString "").length ≤ 0 := by decide +kernel
  repeat ((fail_if_success (with_reducible show wpAny _ _ (execs (Stmt.Assign [Expr.Tuple _ _ _] _ _ :: _) _) _ _ _)); (first | (k_unfold; (try dsimp only)) | walk1 | (dsimp only; walk1)))
  refine execs_cut (Mid g L' s (EP0 prog w sr dp' td L')) ?s0 ?r0
  (case s0 =>
    k_steps
    rename News g L' _ _ => N9
    rename Fr g L' _ _ => F9
    rename Obj.IsDictOf _ _ _ => hsd
    rename PyProof.V.FlatPairs _ _ _ => hfd
    refine' ⟨rfl, .mk (ElM.fr F9 rfl rfl rfl rfl rfl) (news_takes N9 ?tk9) (.mk ?_ (atD0 hsd hfd) (mem_lst hx' rfl) hS' ?_ ?_ ?_ ?_)⟩
    (case tk9 => walk_at "use:takes")
    · rw [lst_app, lit_lt]
    · first | walk_at "lt" | omega
    · first | walk_at "lt" | omega
    · assumption
    · have : (Str.ofString "<").length = 1 := by decide +kernel
      rw [strLen_append]
      omega)
  (case r0 =>
    rintro s' ⟨F2, N2, @⟨X0, nm, tX, tn, kd, ko, so1, u, hX0, hA0, hnm, hS1, hLk, hsk, hys, hXl⟩⟩
    refine execs_cut (Mid g L' s (EP1 prog w sr kd dp' td)) ?s1 ?r1
    (case s1 =>
      refine For_invV g rfl rfl (wpAny_mono (Q := IterP g L' s sr kd ko (ElM sr kd dp' td X0 nm tX tn u)) ?it (fun xv s₁ hI => ?lp) (fun _ _ x => x)) (by intro _; rfl) (by passes_own)
      (case it =>
        repeat ((fail_if_success (with_reducible show wpAny _ _ (subscriptTail _ _ _ _) _ _ _)); (first | (k_unfold; (try dsimp only)) | walk1 | (dsimp only; walk1)))
        obtain rfl | rfl | rfl : k' = 0 ∨ k' = 1 ∨ k' = 2 := by omega
        · k_steps
          rename News g L' _ _ => N9
          rename Fr g L' _ _ => F9
          refine' IterP.mk (vs := []) F9 (news_takes N9 ?tk9) hS' ?_ ?_ ?_ ?_
          (case tk9 => walk_at "use:takes")
          · k_ne
          · k_ne
          · simp
          · intro i v h; cases i <;> cases h
        · k_steps
          rename News g L' _ _ => N9
          rename Fr g L' _ _ => F9
          refine' IterP.mk (vs := [.str (Str.ofString "d") _]) F9 (news_takes N9 ?tk8) hS' ?_ ?_ ?_ ?_
          (case tk8 => walk_at "use:takes")
          · k_ne
          · k_ne
          · simp
          · rintro (_ | i) v h
            · cases h; exact .mk (.inl ⟨rfl, rfl⟩)
            · cases i <;> cases h
        · k_steps
          rename News g L' _ _ => N9
          rename Fr g L' _ _ => F9
          refine' IterP.mk (vs := [.str (Str.ofString "d") _, .str (Str.ofString "xml:id") _]) F9 (news_takes N9 ?tk7) hS' ?_ ?_ ?_ ?_
          (case tk7 => walk_at "use:takes")
          · k_ne
          · k_ne
          · simp
          · rintro (_ | _ | i) v h
            · cases h; exact .mk (.inl ⟨rfl, rfl⟩)
            · cases h; exact .mk (.inr ⟨rfl, rfl⟩)
            · cases i <;> cases h)
      (case lp =>
        clear F2 N2
        revert hI
        rintro @⟨h3, tk3, D, vs, so2, F3, N3, hS2, hD1, hD2, hvl, hvs⟩
        refine iter_listJ (vs := vs) (nn := 0) (EJ1 prog w sr kd D vs dp' td) rfl (by k_mem) F3 N3 ?j0 ?jl ?turn ?done
        (case j0 => exact .mk (by simpa using hX0) (.inl ⟨rfl, rfl, rfl⟩) hA0 hnm hS2 (by omega))
        (case jl => rintro i m nx ⟨⟩; simp)
        (case done =>
          rintro m₁ news₁ h tk ⟨e1, e2, e3, e4, e5, e7⟩ F N
          exact ⟨rfl, .mk F (news_takes N (.cons .head (.cons .head .nil))) (.mk e1 e2.all e3 e4 e5 (by omega))⟩)
        (case turn =>
          clear F3 N3
          rintro I i v m₁ news₁ h tk oI hI hv (@⟨X, nm1, tX1, tn1, ko1, so3, T, as, u1, e1, e2, e3, e4, e5, e7⟩) hoff F N
          have i1 : @LT.lt Nat _ sr I := hI (sr, so2) (by k_mem)
          have i2 : @LT.lt Nat _ kd I := hI (kd, ko) (by k_mem)
          have i3 : @LT.lt Nat _ D I := hI (D, W.listOf vs.toArray 0) (by k_mem)
          have hX500 : X.length ≤ 500 + 400 := by have := (List.getElem?_eq_some_iff.mp hv).1; omega
          have i9 : i ≤ 1 := by have := (List.getElem?_eq_some_iff.mp hv).1; omega
          obtain ⟨kvs, hd, hf⟩ := e3
          obtain @⟨kx, t, hk⟩ := hvs i v hv
          have hkl := hk.len
          have hal : List.length as ≤ 2 := e2.all.len.2
          k_steps
          rename News g L' _ _ => N9
          rename Fr g L' _ _ => F9
          rename (_, _) ∈ valP => g4
          rename _ ∈ [Str.ofString " ", Str.ofString "\n"] => g1
          rename _ ∈ [Str.ofString "=", Str.ofString " = "] => g2
          rename _ ∈ [Str.ofString "\"", Str.ofString "'"] => g3
          refine' ⟨_, _, _, [(sr, _), (kd, _), (D, _)], rfl, ElM.fr F9 rfl rfl rfl rfl rfl, news_takes N9 ?sub0, ?off0, .mk ?lx0 (hk.add e2 (mem_lst g1 rfl) (mem_lst g2 rfl) (mem_lst g3 rfl) (mem_val g4)) (atD_set (hk.fresh e2) hd' hf') e4 hS' ?len0⟩
          (case sub0 => walk_at "use:takes")
          (case off0 => k_all)
          (case lx0 => simp only [lst_app, e1, List.append_assoc])
          (case len0 =>
            simp only [strLen_append]
            omega))))
    (case r1 =>
      clear F2 N2
      rintro s' ⟨F4, N4, @⟨X1, nm1, tX1, tn1, ko1, so4, T, as, u4, hX1, hW, hA1, hnm1, hS4, hXl1⟩⟩
      repeat' ((fail_if_success (with_reducible show wpAny _ _ (execs (Stmt.Assign [Expr.Tuple _ _ _] _ _ :: _) _) _ _ _)); (first | (k_unfold; (try dsimp only)) | walk1 | (dsimp only; walk1)))
      · (try k_unfold)
        (try dsimp only)
        rename News g L' _ _ => N9
        rename Fr g L' _ _ => F9
        have hwr := WrEl.leaf (f := f) hnm1 hW (mem_lst (l := [[], [32]]) hx' (by decide +kernel))
        refine' hret _ ((_, W.listOf #[.str _ _, .ref _] 0) :: (sr, so') :: [(_, tupObj [.str nm1 _, .ref kd, .ref _, .str (Str.ofString "") _]), (_, W.listOf #[] 0), (kd, ko1)]) _ _ (Fr.keep F9) (own_takes N9 ?tkA) (size_of F9 hL)
          fun C k => k _ _ _ _ _ so' _ _ ?wrA hS' ?rowA ?bbA ?blA
        (case tkA => walk_at "use:takes")
        (case wrA =>
          simp only [lst_app, hX1, lit_cl]
          exact hwr)
        (case rowA => exact .mk (nm := lst nm1) (tx := []) (by rw [txt_nil, txt_lst]; k_mem) (by k_mem) (by k_mem) hA1 hys .nil)
        (case bbA =>
          intro p hp
          simp only [List.mem_cons, List.not_mem_nil, or_false] at hp
          rcases hp with rfl | rfl | rfl <;> dsimp only <;> omega)
        (case blA => omega)
      · have hLb : s.heap.objs.size ≤ L' := Nat.le_of_eq hL
        rename _ ∈ [Str.ofString "", Str.ofString " "] => hx1
        repeat' ((fail_if_success (with_reducible show wpAny _ _ (execs (Stmt.For _ _ _ _ _ :: _) _) _ _ _)); (first | (k_unfold; (try dsimp only)) | walk1 | (dsimp only; walk1)))
        refine execs_cut (Mid g L' s (E2 (EJ2 prog w sr kd dp' td f nm1 (lst X1 ++ lst x' ++ [62]) ko1 s.heap.objs.size))) ?s2 ?r2
        (case s2 =>
          refine For_invV g rfl rfl (wpAny_mono (Q := IterR g L' s (EJ2 prog w sr kd dp' td f nm1 (lst X1 ++ lst x' ++ [62]) ko1 s.heap.objs.size 0)) ?it2 (fun xv s₁ hI => ?lp2) (fun _ _ x => x)) (by intro _; rfl) (by passes_own)
          (case it2 =>
            repeat ((fail_if_success (with_reducible show wpAny _ _ (call (Value.type "range") _) _ _ _)); (first | (k_unfold; (try dsimp only)) | walk1 | (dsimp only; walk1)))
            obtain ⟨n', hn', rfl⟩ : ∃ n' : Nat, n' ≤ 2 ∧ k' = (n' : Int) := ⟨k'.toNat, by omega, by omega⟩
            k_steps
            rename News g L' _ _ => N9
            rename Fr g L' _ _ => F9
            rename IsRange _ _ _ _ _ _ _ _ => R9
            refine' IterR.mk (n := n') hn' (by simpa using R9) (ElN.fr F9 rfl rfl rfl rfl rfl rfl rfl) (news_takes N9 ?tkr0) (.mk (X := X1 ++ x' ++ Str.ofString ">") (TL := Str.ofString "") (kv := #[]) (kn := 0) (so' := so') (body := []) (kids := []) (Z := []) ?lxr0 ?wbr0 .nil (fun _ h => (nomatch h)) hS' (Nat.le_refl _) ?lir0 ?ler0 ?lfr0)
            (case tkr0 => walk_at "use:takes")
            (case lxr0 => simp only [lst_app, lit_gt, List.append_nil])
            (case wbr0 => rw [show lst (Str.ofString "") = [] from by decide +kernel]; exact .nil)
            (case lir0 => omega)
            (case ler0 =>
              have : (Str.ofString ">").length = 1 := by decide +kernel
              simp only [strLen_append]
              omega)
            (case lfr0 => exact Nat.le_of_ble_eq_true rfl))
          (case lp2 =>
            revert hI
            rintro @⟨h5, tk5, r5, n, t5, u5, v5, m5, news5, hn2, hr5, F5, N5, hJ5⟩
            refine iter_rangeUnr (n := n) rfl hr5 (rsmall hn2) (rsize hn2) F5 N5 (fun I hI => RangeRest.inv (EJ2 prog w sr kd dp' td f nm1 (lst X1 ++ lst x' ++ [62]) ko1 s.heap.objs.size) ?turn2 ?done2 n 0 _ _ (by omega) (fun p hp q => ?off2) hJ5)
            (case off2 =>
              have q1 : @LT.lt Nat _ p.1 I := hI p hp
              have q2 : @Eq Nat p.1 I := q
              omega)
            (case done2 =>
              intro m news h tk hJ F N
              exact ⟨rfl, .mk F N (.mk hn2 hJ)⟩)
            (case turn2 =>
              rintro i t m news h tk it hi (@⟨X, TL, tX, tn, tl, li, kv, kn, so6, body, kids, Z, u, e1, e2, e3, e4, e5, e6, e7, e8, e9⟩) hoff F N
              replace hoff := neAll_mk hoff
              obtain ⟨q1, q2, q3, q4⟩ := hoff
              have z1 : NeAll sr Z := neAll_ge e4 (by omega)
              have kvl : kv.size ≤ 5 := by have := e3.len; rw [Array.length_toList] at this; omega
              have hX500 : X.length ≤ 8000 := by omega
              have hT500 : TL.length ≤ 200 := by omega
              k_steps
              all_goals first
                | (rename News g L' _ _ => N9
                   rename Fr g L' _ _ => F9
                   refine' ⟨_, _, _, (sr, _) :: (kd, ko1) :: (Dk', W.listOf (kv.push (.ref v9')) 0) :: ZZ, rfl, ElN.fr F9 rfl rfl rfl rfl rfl rfl rfl, news_takes N9 ?subC, ?offC, ?offD, .mk (X := X ++ x' ++ X9') (TL := TL ++ y') (kv := kv.push (.ref v9')) (kn := 0) (body := body ++ lst x' ++ lst X9') (kids := kids ++ [t9']) ?lxC ?wbC ?rowC ?bbC hS' ?klC ?liC ?leC ?lfC⟩
                   (case subC => walk_at "use:takes")
                   (case offC => k_all)
                   (case offD => k_all)
                   (case lxC => simp only [lst_app, e1, List.append_assoc])
                   (case wbC => rw [lst_app]; exact hw9'.kid e2 (mem_txt hxy'))
                   (case rowC =>
                     rw [Array.toList_push]
                     exact RowsIn.snoc (hr9'.mono fun p hp => hZZ ▸ List.mem_append_right _ hp) (e3.mono fun p hp => hZZ ▸ List.mem_append_left _ hp))
                   (case bbC =>
                     intro p hp
                     rw [hZZ] at hp
                     rcases List.mem_append.mp hp with hp | hp
                     · exact e4 p hp
                     · have h5 := hz9' p hp
                       omega)
                   (case klC => rw [List.length_append]; simp only [List.length_cons, List.length_nil]; omega)
                   (case liC => omega)
                   (case leC => simp only [strLen_append]; omega)
                   (case lfC => simp only [strLen_append]; omega))
                | (rename News g L' _ _ => N9
                   rename Fr g L' _ _ => F9
                   refine' ⟨_, _, _, (sr, _) :: (kd, ko1) :: (li, W.listOf kv kn) :: Z, rfl, ElN.fr F9 rfl rfl rfl rfl rfl rfl rfl, news_takes N9 ?subP, ?offP, ?ofyP, .mk (X := X ++ x') (TL := TL ++ y') (body := body ++ lst x') ?lxP ?wbP e3 e4 hS' (Nat.le_succ_of_le e6) e7 ?leP ?lfP⟩
                   (case subP => walk_at "use:takes")
                   (case offP => k_all)
                   (case ofyP => k_all)
                   (case lxP => simp only [lst_app, e1, List.append_assoc])
                   (case wbP => rw [lst_app]; exact .text e2 (mem_txt hxy'))
                   (case leP => simp only [strLen_append]; omega)
                   (case lfP => simp only [strLen_append]; omega)))))
        (case r2 =>
          rintro s' ⟨F5, N5, @⟨i, hi, (@⟨X, TL, tX, tn, tl, li, kv, kn, so6, body, kids, Z, u, e1, e2, e3, e4, e5, e6, e7, e8, e9⟩)⟩⟩
          have z1 : NeAll sr Z := neAll_ge e4 (by omega)
          have kvl : kv.size ≤ 5 := by have := e3.len; rw [Array.length_toList] at this; omega
          have hX500 : X.length ≤ 8000 := by omega
          have hnl : nm1.length ≤ 7 := by
            have := lens_of (k := 7) (by decide +kernel) hnm1
            rw [lst_len] at this
            exact this
          k_steps
          (try k_unfold)
          (try dsimp only)
          rename News g L' _ _ => N9
          rename Fr g L' _ _ => F9
          have hwr := WrEl.node (f := f) hnm1 hW (mem_lst (l := [[], [32]]) hx1 (by decide +kernel)) (mem_lst (l := [[], [32]]) hx' (by decide +kernel)) hi e2
          refine' hret _ ((_, W.listOf #[.str _ _, .ref _] 0) :: (sr, so') :: (_, tupObj [.str nm1 _, .ref kd, .ref li, .str TL _]) :: (kd, ko1) :: (li, W.listOf kv kn) :: Z) _ _ (Fr.keep F9) (own_takes N9 ?tkR) (size_of F9 hL)
            fun C k => k _ _ _ _ _ so' _ _ ?wrR hS' ?rowR ?bbR ?blR
          (case tkR => walk_at "use:takes")
          (case wrR =>
            simp only [lst_app, e1, hX1, lit_gt, lit_lts]
            exact hwr)
          (case rowR => exact .mk (nm := lst nm1) (tx := lst TL) (by rw [txt_lst, txt_lst]; k_mem) (by k_mem) (by k_mem) hA1 hys (e3.mono fun p hp => by simp [hp]))
          (case bbR =>
            intro p hp
            simp only [List.mem_cons] at hp
            rcases hp with rfl | rfl | rfl | hp
            any_goals (dsimp only; omega)
            exact e4 p hp)
          (case blR => omega))))
theorem el_two {sr : Addr} {so : Obj} {td : Tok} (hs : Src so) : Fn prog w p loose mean mg mb 262 10 200 [.ref sr, .int 2 td] [(sr, so)] (PK (ElK prog w sr (WrEl 0))) False :=
  el_fn 0 rfl (by decide) hs fun h => absurd h (by decide)
theorem el_up {f : Nat} {sr : Addr} {a : Int} {so : Obj} {td : Tok} {d u : Nat} (H : Fn prog w p loose mean mg mb 262 d u [.ref sr, .int a td] [(sr, so)] (PK (ElK prog w sr (WrEl f))) False) : Fn prog w p loose mean mg mb 262 d u [.ref sr, .int a td] [(sr, so)] (PK (ElK prog w sr (WrK (f + 1)))) False :=
  Fn.mono H (fun _ _ _ h C k => h C fun l X tx v t so' Z n hw => k l X tx v t so' Z n ⟨f, rfl, hw⟩) (fun h => h)
theorem el_one {sr : Addr} {so : Obj} {td : Tok} (hs : Src so) : Fn prog w p loose mean mg mb 262 20 400 [.ref sr, .int 1 td] [(sr, so)] (PK (ElK prog w sr (WrEl 1))) False :=
  el_fn 1 rfl (by decide) hs fun _ _ _ _ hs => el_up (el_two hs)
theorem el_zero {sr : Addr} {so : Obj} {td : Tok} (hs : Src so) : Fn prog w p loose mean mg mb 262 30 600 [.ref sr, .int 0 td] [(sr, so)] (PK (ElK prog w sr (WrEl 2))) False :=
  el_fn 2 rfl (by decide) hs fun _ _ _ _ hs => el_up (el_one hs)
end
end
section
/-! the plain law: what the law writes is read so -/
theorem fnd1_cons (c a : Nat) (R : List Nat) : fnd [c] (a :: R) = if c = a then some 0 else (fnd [c] R).map (· + 1) := by
  have e : [c].isPrefixOf (a :: R) = (c == a) := by simp [List.isPrefixOf]
  show (if [c].isPrefixOf (a :: R) then some 0 else (fnd [c] R).map (· + 1)) = _
  rw [e]
  by_cases h : c = a <;> simp [h]
theorem fnd1_nil (c : Nat) : fnd [c] [] = none := rfl
theorem fnd1_app {c : Nat} : ∀ {P R : List Nat}, (∀ x ∈ P, x ≠ c) → fnd [c] (P ++ c :: R) = some P.length
  | [], R, _ => by rw [List.nil_append, fnd1_cons, if_pos rfl]; rfl
  | a :: P, R, h => by
    rw [List.cons_append, fnd1_cons, if_neg (fun e => h a List.mem_cons_self e.symm), fnd1_app fun x hx => h x (List.mem_cons_of_mem _ hx)]
    rfl
theorem fnd1_none {c : Nat} : ∀ {P : List Nat}, (∀ x ∈ P, x ≠ c) → fnd [c] P = none
  | [], _ => rfl
  | a :: P, h => by
    rw [fnd1_cons, if_neg (fun e => h a List.mem_cons_self e.symm), fnd1_none fun x hx => h x (List.mem_cons_of_mem _ hx)]
    rfl
theorem fnd1_free {c : Nat} : ∀ {P : List Nat}, fnd [c] P = none → ∀ x ∈ P, x ≠ c
  | [], _, x, hx => nomatch hx
  | a :: P, h, x, hx => by
    rw [fnd1_cons] at h
    by_cases e : c = a
    · rw [if_pos e] at h; cases h
    · rw [if_neg e, Option.map_eq_none_iff] at h
      rcases List.mem_cons.mp hx with rfl | hx
      · exact Ne.symm e
      · exact fnd1_free h x hx
theorem fnd1_some_app {c : Nat} {Q : List Nat} : ∀ {P : List Nat} {k : Nat}, fnd [c] P = some k → fnd [c] (P ++ Q) = some k
  | [], _, h => by cases h
  | a :: P, k, h => by
    rw [fnd1_cons] at h
    rw [List.cons_append, fnd1_cons]
    by_cases e : c = a
    · rw [if_pos e] at h ⊢; exact h
    · rw [if_neg e] at h ⊢
      cases hf : fnd [c] P with
      | none => rw [hf] at h; cases h
      | some j => rw [hf] at h; rw [fnd1_some_app hf]; exact h
theorem fnd1_none_app {c : Nat} {Q : List Nat} : ∀ {P : List Nat}, fnd [c] P = none → fnd [c] (P ++ Q) = (fnd [c] Q).map (P.length + ·)
  | [], _ => by cases h : fnd [c] Q <;> simp [h]
  | a :: P, h => by
    rw [fnd1_cons] at h
    rw [List.cons_append, fnd1_cons]
    by_cases e : c = a
    · rw [if_pos e] at h; cases h
    · rw [if_neg e, Option.map_eq_none_iff] at h
      rw [if_neg e, fnd1_none_app h]
      cases fnd [c] Q with
      | none => rfl
      | some j => simp only [Option.map_some, List.length_cons]; congr 1; omega
theorem fnd1_lt {c k : Nat} {P : List Nat} (h : fnd [c] P = some k) : k + 1 ≤ P.length := fnd_le h
theorem unesc_app {Q z : List Nat} (hQ : Unesc Q (some z)) : ∀ {P : List Nat} {r : Option (List Nat)}, Unesc P r → ∀ y, r = some y → Unesc (P ++ Q) (some (y ++ z)) := by
  intro P r h
  induction h with
  | nil => intro y e; cases e; simpa using hQ
  | plain hP hf =>
    intro y e
    cases e
    rename_i R
    generalize hz : some z = z' at hQ
    cases hQ with
    | nil => cases hz; simpa using Unesc.plain hP hf
    | plain hq hg =>
      cases hz
      refine .plain (by simp [hP]) ?_
      rw [fnd1_none_app hf, hg]; rfl
    | open_ _ _ => cases hz
    | bad _ _ _ => cases hz
    | ok h1 h2 h3 h4 =>
      rename_i c k e res
      cases res with
      | none => cases hz
      | some y =>
        cases hz
        have e1 : fnd [38] (R ++ Q) = some (R.length + k) := by rw [fnd1_none_app hf, h1]; rfl
        have e2 : (R ++ Q).drop (R.length + k) = Q.drop k := List.drop_length_add_append k
        have e3 : (R ++ Q).drop (R.length + k + 1) = Q.drop (k + 1) := List.drop_length_add_append (k + 1)
        have e4 : (R ++ Q).drop (R.length + k + e + 2) = Q.drop (k + e + 2) := by
          rw [show R.length + k + e + 2 = R.length + (k + e + 2) by omega]; exact List.drop_length_add_append _
        have e5 : (R ++ Q).take (R.length + k) = R ++ Q.take k := List.take_length_add_append k
        have := Unesc.ok (R := R ++ Q) (k := R.length + k) (e := e) (c := c) (res := some y) e1 (by rw [e2]; exact h2) (by rw [e3]; exact h3) (by rw [e4]; exact h4)
        rw [Option.map_some, e5] at this
        simpa using this
  | open_ _ _ => intro y e; cases e
  | bad _ _ _ => intro y e; cases e
  | ok h1 h2 h3 h4 ih =>
    intro y e
    rename_i R c k e' res
    cases res with
    | none => cases e
    | some y0 =>
      cases e
      have l1 := fnd1_lt h1
      have l2 := fnd1_lt h2
      rw [List.length_drop] at l2
      have e2 : (R ++ Q).drop k = R.drop k ++ Q := List.drop_append_of_le_length (by omega)
      have e3 : (R ++ Q).drop (k + 1) = R.drop (k + 1) ++ Q := List.drop_append_of_le_length (by omega)
      have e6 : (R.drop (k + 1) ++ Q).take e' = (R.drop (k + 1)).take e' := List.take_append_of_le_length (by rw [List.length_drop]; omega)
      have e4 : (R ++ Q).drop (k + e' + 2) = R.drop (k + e' + 2) ++ Q := List.drop_append_of_le_length (by omega)
      have e5 : (R ++ Q).take k = R.take k := List.take_append_of_le_length (by omega)
      have := Unesc.ok (R := R ++ Q) (k := k) (e := e') (c := c) (res := some (y0 ++ z)) (fnd1_some_app h1) (by rw [e2]; exact fnd1_some_app h2) (by rw [e3, e6]; exact h3) (by rw [e4]; exact ih _ rfl)
      rw [Option.map_some, e5] at this
      simpa using this

/-- a text without "<" -/
structure Txt1 (P y : List Nat) : Prop where
  free : ∀ x ∈ P, x ≠ 60
  un : Unesc P (some y)
theorem Txt1.nil : Txt1 [] [] := ⟨fun _ h => (nomatch h), .nil⟩
theorem Txt1.app {P y Q z : List Nat} (h1 : Txt1 P y) (h2 : Txt1 Q z) : Txt1 (P ++ Q) (y ++ z) :=
  ⟨fun x hx => (List.mem_append.mp hx).elim (h1.free x) (h2.free x), unesc_app h2.un h1.un _ rfl⟩
theorem Txt1.empty {y : List Nat} (h : Txt1 [] y) : y = [] := by
  have := h.un
  generalize hr : some y = r at this
  cases this with
  | nil => cases hr; rfl
  | plain h _ => exact absurd rfl h
  | open_ h _ => cases h
  | bad h _ _ => cases h
  | ok h _ _ _ => cases h

noncomputable def ofS : List Nd → PS
  | [] => .start
  | n :: r => .opn n r
noncomputable def put (t : Tr) : List Nd → PS
  | [] => .done t
  | n :: r => .opn { n with kids := n.kids ++ [t] } r
theorem pop_is (n : Nd) (r : List Nd) : PS.pop n r = put n.close r := by cases r <;> rfl

/-- from a sign "<" on: what is read -/
theorem at_lt {R1 : List Nat} {ps : PS} {q : Option (List Nat × PS)} (h : RTxt (60 :: R1) ps q) : q = some (60 :: R1, ps) := by
  have f0 : fnd [60] (60 :: R1) = some 0 := by rw [fnd1_cons, if_pos rfl]
  cases h with
  | none _ => rfl
  | opn h h0 _ _ _ => rw [f0] at h; exact absurd h (by simp only [Option.getD_some]; omega)
  | bad h h0 _ => rw [f0] at h; exact absurd h (by simp only [Option.getD_some]; omega)
  | blankS h h0 _ => rw [f0] at h; exact absurd h (by simp only [Option.getD_some]; omega)
  | blankD h h0 _ => rw [f0] at h; exact absurd h (by simp only [Option.getD_some]; omega)
  | outS h h0 _ _ => rw [f0] at h; exact absurd h (by simp only [Option.getD_some]; omega)
  | outD h h0 _ _ => rw [f0] at h; exact absurd h (by simp only [Option.getD_some]; omega)
theorem no_text (R1 : List Nat) (ps : PS) : RTxt (60 :: R1) ps (some (60 :: R1, ps)) := .none (by rw [fnd1_cons, if_pos rfl])
/-- a text ahead, read first -/
theorem ahead {P R1 : List Nat} {ps ps1 : PS} {res : Option Tr} (h1 : RTxt (P ++ 60 :: R1) ps (some (60 :: R1, ps1))) (h : Pz (60 :: R1) ps1 res) : Pz (P ++ 60 :: R1) ps res := by
  have ne : P ++ 60 :: R1 ≠ [] := by simp
  generalize hX : 60 :: R1 = X at h
  cases h with
  | ok => cases hX
  | nothing => cases hX
  | left _ => cases hX
  | bad1 _ h2 => subst hX; cases at_lt h2
  | text _ h2 _ => subst hX; cases at_lt h2
  | bad2 _ h2 h3 => subst hX; cases at_lt h2; exact .bad2 ne h1 h3
  | turn _ h2 h3 h4 h5 =>
    subst hX; cases at_lt h2
    exact .turn ne h1 h3 (by simp only [List.length_append, List.length_cons] at h4 ⊢; omega) h5
theorem pend {P y R1 : List Nat} {n : Nd} {r : List Nd} {res : Option Tr} (hP : Txt1 P y) (b1 : n.tx.length ≤ 50000) (b2 : y.length ≤ 50000) (h : Pz (60 :: R1) (.opn { n with tx := n.tx ++ y } r) res) : Pz (P ++ 60 :: R1) (.opn n r) res := by
  cases P with
  | nil =>
    obtain rfl := hP.empty
    obtain ⟨a, b, c, d⟩ := n
    simpa using h
  | cons a P =>
    refine ahead ?_ h
    have f0 : fnd [60] ((a :: P) ++ 60 :: R1) = some (a :: P).length := fnd1_app hP.free
    have := RTxt.opn (R := (a :: P) ++ 60 :: R1) (k := (a :: P).length) (y := y) (n := n) (r := r) (by rw [f0]; rfl) (Nat.succ_pos _) (by rw [List.take_left]; exact hP.un) b1 b2
    rw [List.drop_left] at this
    exact this
theorem un10 : Unesc [10] (some [10]) := .plain (by decide) (by decide)
theorem nl_ahead {R1 : List Nat} {res : Option Tr} (h : Pz (60 :: R1) .start res) : Pz (10 :: 60 :: R1) .start res :=
  ahead (P := [10]) (.blankS (k := 1) (by rfl) (by decide) un10) h
theorem nl_aheadD {R1 : List Nat} {t : Tr} {res : Option Tr} (h : Pz (60 :: R1) (.done t) res) : Pz (10 :: 60 :: R1) (.done t) res :=
  ahead (P := [10]) (.blankD (k := 1) (by rfl) (by decide) un10) h
/-- a piece that leaves no trace -/
theorem skip_rd {R1 R2 : List Nat} {ps : PS} {res : Option Tr} (h1 : RSkip R1 R2) (hl : R2.length ≤ R1.length) (h : Pz R2 ps res) : Pz (60 :: R1) ps res :=
  .turn (by simp) (no_text _ _) (.skip h1) (by simp only [List.length_cons]; omega) h
theorem piece_rd {R1 R2 : List Nat} {ps ps2 : PS} {res : Option Tr} (h1 : RPie R1 ps (some (R2, ps2))) (hl : R2.length ≤ R1.length) (h : Pz R2 ps2 res) : Pz (60 :: R1) ps res :=
  .turn (by simp) (no_text _ _) h1 (by simp only [List.length_cons]; omega) h
theorem pbad_rd {R1 : List Nat} {ps : PS} (h1 : RPie R1 ps none) : Pz (60 :: R1) ps none := .bad2 (by simp) (no_text _ _) h1

/-! names, attributes, tags -/
theorem dw_pos {p : Nat → Bool} {l R : List Nat} (h : l.all p = true) : (l ++ R).dropWhile p = R.dropWhile p := List.dropWhile_append_of_pos fun a ha => List.all_eq_true.mp h a ha
theorem tw_pos {p : Nat → Bool} {l R : List Nat} (h : l.all p = true) : (l ++ R).takeWhile p = l ++ R.takeWhile p := List.takeWhile_append_of_pos fun a ha => List.all_eq_true.mp h a ha
theorem dw_stop {p : Nat → Bool} {l R : List Nat} {c : Nat} (h : l.all p = true) (hc : p c = false) : (l ++ c :: R).dropWhile p = c :: R := by rw [dw_pos h, List.dropWhile_cons_of_neg (by simp [hc])]
theorem tw_stop {p : Nat → Bool} {l R : List Nat} {c : Nat} (h : l.all p = true) (hc : p c = false) : (l ++ c :: R).takeWhile p = l := by rw [tw_pos h, List.takeWhile_cons_of_neg (by simp [hc]), List.append_nil]
theorem strip_app (l R : List Nat) : strip l (l ++ R) = some R := by
  induction l with
  | nil => cases R <;> rfl
  | cons a l ih => simp only [List.cons_append, strip, if_true]; exact ih
theorem valL_is : valL = [([], []), ([118, 32, 119], [118, 32, 119]), ([38, 108, 116, 59, 38, 35, 54, 53, 59], [60, 65]), ([38, 113, 117, 111, 116, 59, 38, 97, 112, 111, 115, 59, 38, 97, 109, 112, 59], [34, 39, 38]), ([97, 62, 98], [97, 62, 98])] := by decide +kernel
theorem txtL_is : txtL = [([120, 32, 121], [120, 32, 121]), ([38, 35, 120, 52, 50, 59, 38, 103, 116, 59], [66, 62]), ([60, 33, 91, 67, 68, 65, 84, 65, 91, 60, 38, 93, 93, 62], [60, 38]), ([60, 33, 45, 45, 99, 60, 100, 45, 45, 62], []), ([60, 63, 103, 111, 32, 60, 111, 110, 63, 62], []), ([], [])] := by decide +kernel
theorem nameL_is : nameL = [[103], [112, 97, 116, 104], [120, 108, 105, 110, 107, 58, 97]] := by decide +kernel
theorem un_val {raw v : List Nat} (h : (raw, v) ∈ valL) : Unesc raw (some v) ∧ (∀ x ∈ raw, x ≠ 34) ∧ (∀ x ∈ raw, x ≠ 39) := by
  rw [valL_is] at h
  simp only [List.mem_cons, Prod.mk.injEq, List.not_mem_nil, or_false] at h
  rcases h with ⟨rfl, rfl⟩ | ⟨rfl, rfl⟩ | ⟨rfl, rfl⟩ | ⟨rfl, rfl⟩ | ⟨rfl, rfl⟩
  · exact ⟨.nil, by decide, by decide⟩
  · exact ⟨.plain (by decide) (by decide), by decide, by decide⟩
  · exact ⟨.ok (k := 0) (e := 2) (c := [60]) (res := some [65]) (by decide) (by decide) .lt (.ok (k := 0) (e := 3) (c := [65]) (res := some []) (by decide) (by decide) .n65 .nil), by decide, by decide⟩
  · exact ⟨.ok (k := 0) (e := 4) (c := [34]) (res := some [39, 38]) (by decide) (by decide) .quot (.ok (k := 0) (e := 4) (c := [39]) (res := some [38]) (by decide) (by decide) .apos (.ok (k := 0) (e := 3) (c := [38]) (res := some []) (by decide) (by decide) .amp .nil)), by decide, by decide⟩
  · exact ⟨.plain (by decide) (by decide), by decide, by decide⟩
theorem attr_rd {key T v Z : List Nat} {as : Ats} (hk : key.all isN = true) (hk0 : key ≠ []) (h : WA key T v) (hl : (PySem.Spec.lookup (.str (txt key)) (encA as)).isSome = false) : RAttr ((T ++ Z).dropWhile isB) as (some (Z, as ++ [(key, v)])) := by
  obtain ⟨sp, eq, q, raw, h1, h2, h3, h4, rfl⟩ := h
  obtain ⟨u1, u2, u3⟩ := un_val h4
  obtain ⟨k0, key, rfl⟩ : ∃ k0 k, key = k0 :: k := by cases key with | nil => exact absurd rfl hk0 | cons a l => exact ⟨a, l, rfl⟩
  have hk1 : isN k0 = true := by simp only [List.all_cons, Bool.and_eq_true] at hk; exact hk.1
  have hb : isB k0 = false := by
    unfold isN at hk1; unfold isB
    simp only [Bool.not_eq_true', Bool.or_eq_false_iff] at hk1 ⊢
    simp [hk1]
  have e0 : ((sp ++ (k0 :: key) ++ eq ++ q ++ raw ++ q) ++ Z).dropWhile isB = (k0 :: key) ++ (eq ++ (q ++ (raw ++ (q ++ Z)))) := by
    simp only [List.append_assoc]
    have hs : sp.all isB = true := by
      simp only [List.mem_cons, List.not_mem_nil, or_false] at h1
      rcases h1 with rfl | rfl <;> decide
    rw [dw_pos hs, List.cons_append, List.dropWhile_cons_of_neg (by simp [hb])]
  rw [e0]
  obtain ⟨e1, e2⟩ : ((k0 :: key) ++ (eq ++ (q ++ (raw ++ (q ++ Z))))).takeWhile isN = k0 :: key ∧ ∃ R2, strip [61] ((((k0 :: key) ++ (eq ++ (q ++ (raw ++ (q ++ Z))))).dropWhile isN).dropWhile isB) = some R2 ∧ R2.dropWhile isB = q ++ (raw ++ (q ++ Z)) := by
    have hqb : ∀ X, (q ++ X).dropWhile isB = q ++ X := by
      intro X
      simp only [List.mem_cons, List.not_mem_nil, or_false] at h3
      rcases h3 with rfl | rfl <;> rfl
    simp only [List.mem_cons, List.not_mem_nil, or_false] at h2
    rcases h2 with rfl | rfl
    · refine ⟨tw_stop hk (by decide), _, ?_, hqb _⟩
      rw [List.singleton_append, dw_stop hk (by decide)]
      rfl
    · refine ⟨tw_stop (c := 32) hk (by decide), 32 :: (q ++ (raw ++ (q ++ Z))), ?_, ?_⟩
      · rw [show [32, 61, 32] ++ (q ++ (raw ++ (q ++ Z))) = 32 :: (61 :: 32 :: (q ++ (raw ++ (q ++ Z)))) from rfl, dw_stop hk (by decide)]
        rfl
      · rw [List.dropWhile_cons_of_pos (by decide)]; exact hqb _
  obtain ⟨R2, e2, e3⟩ := e2
  have tk : ∀ c : Nat, (raw ++ c :: Z).take raw.length = raw := fun c => List.take_left
  have dr : ∀ c : Nat, (raw ++ c :: Z).drop (raw.length + 1) = Z := fun c => List.drop_length_add_append 1
  simp only [List.mem_cons, List.not_mem_nil, or_false] at h3
  rcases h3 with rfl | rfl
  · have := RAttr.dq (R := (k0 :: key) ++ (eq ++ ([34] ++ (raw ++ ([34] ++ Z))))) (R2 := R2) (R3 := raw ++ 34 :: Z) (y := v) (as := as) (k := raw.length) (by rw [e1]; simp) e2 (by rw [e1]; exact hl) (by rw [e3]; rfl) (fnd1_app u2) (by rw [tk]; exact u1)
    rw [e1, dr] at this
    exact this
  · have := RAttr.sq (R := (k0 :: key) ++ (eq ++ ([39] ++ (raw ++ ([39] ++ Z))))) (R2 := R2) (R3 := raw ++ 39 :: Z) (y := v) (as := as) (k := raw.length) (by rw [e1]; simp) e2 (by rw [e1]; exact hl) (by rw [e3]; rfl) (by rw [e3]; rfl) (fnd1_app u3) (by rw [tk]; exact u1)
    rw [e1, dr] at this
    exact this
theorem attr_hd {key T v Z : List Nat} (h : WA key T v) {k0 : Nat} {k : List Nat} (hk : key = k0 :: k) (hb : isB k0 = false) : ∃ Y, (T ++ Z).dropWhile isB = k0 :: Y := by
  obtain ⟨sp, eq, q, raw, h1, h2, h3, h4, rfl⟩ := h
  subst hk
  simp only [List.append_assoc]
  have hs : sp.all isB = true := by
    simp only [List.mem_cons, List.not_mem_nil, or_false] at h1
    rcases h1 with rfl | rfl <;> decide
  rw [dw_pos hs, List.cons_append, List.dropWhile_cons_of_neg (by simp [hb])]
  exact ⟨_, rfl⟩
theorem dK_is : dK = [100] := by decide +kernel
theorem xK_is : xK = [120, 109, 108, 58, 105, 100] := by decide +kernel
theorem noLk0 (k : List Nat) : (PySem.Spec.lookup (.str (txt k)) (encA [])).isSome = false := rfl
theorem noLk1 (v : List Nat) : (PySem.Spec.lookup (.str (txt xK)) (encA [(dK, v)])).isSome = false := by
  have e : (txt xK == txt dK) = false := by decide +kernel
  have e2 : txt xK ≠ txt dK := by decide +kernel
  simp only [encA, List.map_cons, List.map_nil, PySem.Spec.lookup, PySem.Spec.same]
  simp [e, e2, Ne.symm e2]
theorem tag_one {key T v Z : List Nat} {as : Ats} {res : Option (List Nat × Ats × Bool)} {k0 : Nat} {k : List Nat} (hk : key = k0 :: k) (hn : key.all isN = true) (hb : isB k0 = false) (h47 : k0 ≠ 47) (h62 : k0 ≠ 62) (h : WA key T v)
    (hl : (PySem.Spec.lookup (.str (txt key)) (encA as)).isSome = false) (hz : as.length ≤ 1000) (hZ : RTagL Z (as ++ [(key, v)]) res) : RTagL (T ++ Z) as res := by
  obtain ⟨Y, e⟩ := attr_hd (Z := Z) h hk hb
  refine .more ?_ ?_ hz (attr_rd hn (by rw [hk]; simp) h hl) hZ
  · rw [e]; simp only [strip]; rw [if_neg (Ne.symm h47)]
  · rw [e]; simp only [strip]; rw [if_neg (Ne.symm h62)]
theorem tag_rd {T Z : List Nat} {as : Ats} {res : Option (List Nat × Ats × Bool)} (h : WAts T as) (hZ : RTagL Z as res) : RTagL (T ++ Z) [] res := by
  rcases h with ⟨rfl, rfl⟩ | ⟨v, h, rfl⟩ | ⟨T1, T2, v1, v2, h1, h2, rfl, rfl⟩
  · exact hZ
  · exact tag_one dK_is (by rw [dK_is]; decide) (by decide) (by decide) (by decide) h (noLk0 _) (by simp) hZ
  · rw [List.append_assoc]
    exact tag_one dK_is (by rw [dK_is]; decide) (by decide) (by decide) (by decide) h1 (noLk0 _) (by simp) (tag_one xK_is (by rw [xK_is]; decide) (by decide) (by decide) (by decide) h2 (noLk1 _) (by simp) hZ)
/-- the first sign behind the name is none of a name's -/
theorem ats_hd {T : List Nat} {as : Ats} (h : WAts T as) (c : Nat) (Z : List Nat) (hc : isN c = false) : ∃ b Y, T ++ c :: Z = b :: Y ∧ isN b = false := by
  have one : ∀ {key T v Y : List Nat}, WA key T v → ∃ b W, T ++ Y = b :: W ∧ isN b = false := by
    rintro key T v Y ⟨sp, eq, q, raw, h1, h2, h3, h4, rfl⟩
    simp only [List.mem_cons, List.not_mem_nil, or_false] at h1
    rcases h1 with rfl | rfl
    · exact ⟨32, _, rfl, by decide⟩
    · exact ⟨10, _, rfl, by decide⟩
  rcases h with ⟨rfl, rfl⟩ | ⟨v, h, rfl⟩ | ⟨T1, T2, v1, v2, h1, h2, rfl, rfl⟩
  · exact ⟨c, Z, rfl, hc⟩
  · exact one h
  · rw [List.append_assoc]; exact one h1
theorem name_ok' {nm : List Nat} (h : nm ∈ nameL) : nm.all isN = true ∧ nm ≠ [] ∧ ∀ R, NoPre (nm ++ R) ∧ strip [47] (nm ++ R) = none := by
  rw [nameL_is] at h
  simp only [List.mem_cons, List.not_mem_nil, or_false] at h
  rcases h with rfl | rfl | rfl
  · exact ⟨by decide, by decide, fun R => ⟨⟨rfl, rfl, rfl, rfl⟩, rfl⟩⟩
  · exact ⟨by decide, by decide, fun R => ⟨⟨rfl, rfl, rfl, rfl⟩, rfl⟩⟩
  · exact ⟨by decide, by decide, fun R => ⟨⟨rfl, rfl, rfl, rfl⟩, rfl⟩⟩
/-- a start tag's parts -/
theorem start_rd {nm T Z : List Nat} {c : Nat} {as : Ats} {res : Option (List Nat × Ats × Bool)} (hn : nm ∈ nameL) (hT : WAts T as) (hc : isN c = false) (hZ : RTagL (c :: Z) as res) :
    let R := nm ++ (T ++ c :: Z)
    NoPre R ∧ strip [47] R = none ∧ R.takeWhile isN = nm ∧ R.takeWhile isN ≠ [] ∧ RTagL (R.dropWhile isN) [] res := by
  obtain ⟨h1, h2, h3⟩ := name_ok' hn
  obtain ⟨b, Y, e, hb⟩ := ats_hd hT c Z hc
  have e1 : (nm ++ (T ++ c :: Z)).takeWhile isN = nm := by rw [e]; exact tw_stop h1 hb
  refine ⟨(h3 _).1, (h3 _).2, e1, by rw [e1]; exact h2, ?_⟩
  have e2 : (nm ++ (T ++ c :: Z)).dropWhile isN = T ++ c :: Z := by rw [e]; exact dw_stop h1 hb
  rw [e2]
  exact tag_rd hT hZ
noncomputable def Room (st : List Nd) (f : Nat) : Prop := st.length + f ≤ 50 ∧ ∀ m ∈ st, m.kids.length ≤ 100
theorem cl_rd {nm T sp Z : List Nat} {as : Ats} {st : List Nd} {f : Nat} {res : Option Tr} (hn : nm ∈ nameL) (hT : WAts T as) (hsp : sp ∈ [[], [32]]) (hr : Room st f) (h : Pz Z (put (.mk nm as [] []) st) res) :
    Pz (60 :: (nm ++ (T ++ (sp ++ (47 :: 62 :: Z))))) (ofS st) res := by
  obtain ⟨c, Y, e, hc, hZ⟩ : ∃ c Y, sp ++ (47 :: 62 :: Z) = c :: Y ∧ isN c = false ∧ RTagL (c :: Y) as (some (Z, as, true)) := by
    simp only [List.mem_cons, List.not_mem_nil, or_false] at hsp
    rcases hsp with rfl | rfl
    · exact ⟨_, _, rfl, by decide, .cl rfl⟩
    · exact ⟨_, _, rfl, by decide, .cl rfl⟩
  rw [e]
  obtain ⟨a1, a2, a3, a4, a5⟩ := start_rd hn hT hc hZ
  have hlen : Z.length ≤ (nm ++ (T ++ c :: Y)).length := by rw [← e]; simp only [List.length_append, List.length_cons]; omega
  cases st with
  | nil =>
    have := RPie.stOutCl a1 a2 a4 a5
    rw [a3] at this
    exact piece_rd this hlen h
  | cons n r =>
    have := RPie.stTopCl (n := n) (r := r) a1 a2 a4 a5 (hr.2 n List.mem_cons_self)
    rw [a3] at this
    exact piece_rd this hlen h
theorem op_rd {nm T sp Z : List Nat} {as : Ats} {st : List Nd} {f : Nat} {res : Option Tr} (hn : nm ∈ nameL) (hT : WAts T as) (hsp : sp ∈ [[], [32]]) (hr : Room st f) (h : Pz Z (.opn ⟨nm, as, [], []⟩ st) res) :
    Pz (60 :: (nm ++ (T ++ (sp ++ (62 :: Z))))) (ofS st) res := by
  obtain ⟨c, Y, e, hc, hZ⟩ : ∃ c Y, sp ++ (62 :: Z) = c :: Y ∧ isN c = false ∧ RTagL (c :: Y) as (some (Z, as, false)) := by
    simp only [List.mem_cons, List.not_mem_nil, or_false] at hsp
    rcases hsp with rfl | rfl
    · exact ⟨_, _, rfl, by decide, .gt rfl rfl⟩
    · exact ⟨_, _, rfl, by decide, .gt rfl rfl⟩
  rw [e]
  obtain ⟨a1, a2, a3, a4, a5⟩ := start_rd hn hT hc hZ
  have hlen : Z.length ≤ (nm ++ (T ++ c :: Y)).length := by rw [← e]; simp only [List.length_append, List.length_cons]; omega
  cases st with
  | nil =>
    have := RPie.stOutOp a1 a2 a4 a5
    rw [a3] at this
    exact piece_rd this hlen h
  | cons n r =>
    have := RPie.stTopOp (n := n) (r := r) a1 a2 a4 a5 (hr.2 n List.mem_cons_self) (by have := hr.1; simp only [List.length_cons] at this; omega)
    rw [a3] at this
    exact piece_rd this hlen h
/-- an end tag -/
theorem end_parts {nm sp Z : List Nat} (hn : nm ∈ nameL) (hsp : sp ∈ [[], [32]]) : let R := 47 :: (nm ++ (sp ++ Z))
    NoPre R ∧ strip [47] R = some (nm ++ (sp ++ Z)) := ⟨⟨rfl, rfl, rfl, rfl⟩, rfl⟩
theorem end_nm {nm sp : List Nat} {c : Nat} {Z : List Nat} (hn : nm ∈ nameL) (hsp : sp ∈ [[], [32]]) (hc : isN c = false) (hb : isB c = false) :
    (nm ++ (sp ++ c :: Z)).takeWhile isN = nm ∧ ((nm ++ (sp ++ c :: Z)).dropWhile isN).dropWhile isB = c :: Z := by
  obtain ⟨h1, h2, h3⟩ := name_ok' hn
  simp only [List.mem_cons, List.not_mem_nil, or_false] at hsp
  rcases hsp with rfl | rfl
  · rw [List.nil_append, tw_stop h1 hc, dw_stop h1 hc, List.dropWhile_cons_of_neg (by simp [hb])]
    exact ⟨rfl, rfl⟩
  · rw [show [32] ++ c :: Z = 32 :: (c :: Z) from rfl, tw_stop h1 (by decide), dw_stop h1 (by decide), List.dropWhile_cons_of_pos (by decide), List.dropWhile_cons_of_neg (by simp [hb])]
    exact ⟨rfl, rfl⟩
theorem endok_rd {nm sp Z tx : List Nat} {as : Ats} {kids : List Tr} {st : List Nd} {f : Nat} {res : Option Tr} (hn : nm ∈ nameL) (hsp : sp ∈ [[], [32]]) (hr : Room st f) (h : Pz Z (put (.mk nm as kids tx) st) res) :
    Pz (60 :: 47 :: (nm ++ (sp ++ 62 :: Z))) (.opn ⟨nm, as, kids, tx⟩ st) res := by
  obtain ⟨a1, a2⟩ := end_nm (Z := Z) (c := 62) hn hsp (by decide) (by decide)
  have := RPie.endOk (R := 47 :: (nm ++ (sp ++ 62 :: Z))) (R' := Z) (n := ⟨nm, as, kids, tx⟩) (r := st) ⟨rfl, rfl, rfl, rfl⟩ rfl (by rw [a1]; exact (name_ok' hn).2.1) (by rw [a2]; rfl) a1.symm (by have := hr.1; omega) hr.2
  rw [pop_is] at this
  exact piece_rd this (by simp only [List.length_append, List.length_cons]; omega) h
theorem un_b : Unesc [38, 35, 120, 52, 50, 59, 38, 103, 116, 59] (some [66, 62]) := .ok (k := 0) (e := 4) (c := [66]) (res := some [62]) (by decide) (by decide) .x42 (.ok (k := 0) (e := 2) (c := [62]) (res := some []) (by decide) (by decide) .gt .nil)
theorem len_a (l S : List Nat) : S.length ≤ (l ++ S).length := by simp
theorem raw_rd {raw plain P y tx0 tx S nm : List Nat} {as : Ats} {kids : List Tr} {st : List Nd} {res : Option Tr} (h : (raw, plain) ∈ txtL) (hP : Txt1 P y) (he : tx0 ++ y = tx) (hb : tx.length ≤ 20000)
    (H : ∀ P' y' tx0', Txt1 P' y' → tx0' ++ y' = tx ++ plain → Pz (P' ++ S) (.opn ⟨nm, as, kids, tx0'⟩ st) res) : Pz (P ++ (raw ++ S)) (.opn ⟨nm, as, kids, tx0⟩ st) res := by
  have hb1 : tx0.length ≤ 50000 ∧ y.length ≤ 50000 := by rw [← he, List.length_append] at hb; omega
  have pd : ∀ R1, Pz (60 :: R1) (.opn ⟨nm, as, kids, tx⟩ st) res → Pz (P ++ 60 :: R1) (.opn ⟨nm, as, kids, tx0⟩ st) res := fun R1 h => pend (n := ⟨nm, as, kids, tx0⟩) hP hb1.1 hb1.2 (by rw [← he] at h; exact h)
  rw [txtL_is] at h
  simp only [List.mem_cons, Prod.mk.injEq, List.not_mem_nil, or_false] at h
  rcases h with ⟨rfl, rfl⟩ | ⟨rfl, rfl⟩ | ⟨rfl, rfl⟩ | ⟨rfl, rfl⟩ | ⟨rfl, rfl⟩ | ⟨rfl, rfl⟩
  · rw [← List.append_assoc]
    exact H _ _ tx0 (hP.app ⟨by decide, .plain (by decide) (by decide)⟩) (by rw [← List.append_assoc, he])
  · rw [← List.append_assoc]
    exact H _ _ tx0 (hP.app ⟨by decide, un_b⟩) (by rw [← List.append_assoc, he])
  · refine pd _ (piece_rd (R2 := S) (RPie.cdata (R1 := 60 :: 38 :: 93 :: 93 :: 62 :: S) (k := 2) (n := ⟨nm, as, kids, tx⟩) rfl rfl rfl (by show tx.length ≤ _; omega)) (len_a [33, 91, 67, 68, 65, 84, 65, 91, 60, 38, 93, 93, 62] S) ?_)
    exact H [] [] _ .nil (by simp)
  · refine pd _ (skip_rd (R2 := S) (RSkip.cm (R1 := 99 :: 60 :: 100 :: 45 :: 45 :: 62 :: S) (k := 3) rfl rfl) (len_a [33, 45, 45, 99, 60, 100, 45, 45, 62] S) ?_)
    exact H [] [] _ .nil (by simp)
  · refine pd _ (skip_rd (R2 := S) (RSkip.pi (R1 := 103 :: 111 :: 32 :: 60 :: 111 :: 110 :: 63 :: 62 :: S) (k := 6) rfl rfl rfl rfl rfl) (len_a [63, 103, 111, 32, 60, 111, 110, 63, 62] S) ?_)
    exact H [] [] _ .nil (by simp)
  · exact H P y tx0 hP (by simpa using he)
theorem WrB.txlen : ∀ {f n : Nat} {b tx : List Nat} {kids : List Tr}, WrB f n b kids tx → tx.length ≤ 20 * n ∧ kids.length ≤ n
  | _, _, _, _, _, .nil => by simp
  | _, _, _, _, _, .text h1 h2 => by
    have a := WrB.txlen h1
    have b := pair_len (k := 20) (by decide +kernel) h2
    simp only [List.length_append]
    omega
  | _, _, _, _, _, .kid h1 h2 h3 => by
    have a := WrB.txlen h1
    have b := pair_len (k := 20) (by decide +kernel) h2
    simp only [List.length_append, List.length_cons, List.length_nil]
    omega
theorem WrEl.hd {f : Nat} {X : List Nat} {t : Tr} (h : WrEl f X t) : ∃ X1, X = 60 :: X1 := by
  cases h with
  | leaf _ _ _ => exact ⟨_, by simp only [List.append_assoc]; rfl⟩
  | node _ _ _ _ _ _ => exact ⟨_, by simp only [List.append_assoc]; rfl⟩
mutual
theorem el_rd : ∀ {f : Nat} {X : List Nat} {t : Tr}, WrEl f X t → ∀ {st : List Nd} {Z : List Nat} {res : Option Tr}, Room st f → Pz Z (put t st) res → Pz (X ++ Z) (ofS st) res
  | _, _, _, .leaf h1 h2 h3, st, Z, res, hr, h => by
    have := cl_rd h1 h2 h3 hr h
    simpa only [List.append_assoc, List.cons_append, List.nil_append] using this
  | _, _, _, .node h1 h2 h3 h4 h5 h6, st, Z, res, hr, h => by
    have hl := WrB.txlen h6
    have := op_rd h1 h2 h3 hr (body_rd h6 (by omega) hr fun P y tx0 hP he => by
      have hb : tx0.length ≤ 50000 ∧ y.length ≤ 50000 := by have := hl.1; rw [← he, List.length_append] at this; omega
      exact pend hP hb.1 hb.2 (by have := endok_rd (kids := _) (tx := _) h1 h4 hr h; rw [← he] at this; exact this))
    simpa only [List.append_assoc, List.cons_append, List.nil_append] using this
theorem body_rd : ∀ {f m : Nat} {b tx : List Nat} {kids : List Tr}, WrB f m b kids tx → ∀ {nm S : List Nat} {as : Ats} {st : List Nd} {res : Option Tr}, m ≤ 50 → Room st f →
    (∀ P y tx0, Txt1 P y → tx0 ++ y = tx → Pz (P ++ S) (.opn ⟨nm, as, kids, tx0⟩ st) res) → Pz (b ++ S) (.opn ⟨nm, as, [], []⟩ st) res
  | _, _, _, _, _, .nil, nm, S, as, st, res, hm, hr, H => H [] [] [] .nil rfl
  | _, _, _, _, _, .text h1 h2, nm, S, as, st, res, hm, hr, H => by
    rw [List.append_assoc]
    exact body_rd h1 (by omega) hr fun P y tx0 hP he => raw_rd h2 hP he (by have := (WrB.txlen h1).1; omega) H
  | _, _, _, _, _, .kid (more := more) (kids := kids) (tx := tx) (plain := plain) h1 h2 h3, nm, S, as, st, res, hm, hr, H => by
    rw [List.append_assoc, List.append_assoc]
    refine body_rd h1 (by omega) hr fun P y tx0 hP he => raw_rd h2 hP he (by have := (WrB.txlen h1).1; omega) fun P' y' tx0' hP' he' => ?_
    have b2 := (WrB.txlen h1).1
    have b3 := pair_len (k := 20) (by decide +kernel) h2
    have b4 : tx0'.length ≤ 50000 ∧ y'.length ≤ 50000 := by
      have : (tx ++ plain).length ≤ 50000 := by rw [List.length_append]; omega
      rw [← he', List.length_append] at this; omega
    have hz := el_rd h3 (st := ⟨nm, as, kids, tx ++ plain⟩ :: st) (Z := S) (res := res) ⟨by have := hr.1; simp only [List.length_cons]; omega, fun m hm => by
      rcases List.mem_cons.mp hm with rfl | hm
      · have := (WrB.txlen h1).2
        show kids.length ≤ 100
        omega
      · exact hr.2 m hm⟩ (H [] [] (tx ++ plain) .nil (by simp))
    obtain ⟨X1, hX⟩ := h3.hd
    rw [hX] at hz ⊢
    exact pend (n := ⟨nm, as, kids, tx0'⟩) hP' b4.1 b4.2 (by rw [← he'] at hz; exact hz)
end

noncomputable def headL : List (List Nat) := [[], [10], [60, 63, 120, 109, 108, 32, 118, 101, 114, 115, 105, 111, 110, 61, 39, 49, 46, 48, 39, 63, 62], [60, 33, 68, 79, 67, 84, 89, 80, 69, 32, 115, 118, 103, 32, 91, 60, 33, 69, 78, 84, 73, 84, 89, 32, 97, 32, 39, 62, 39, 62, 93, 62, 10], [60, 33, 68, 79, 67, 84, 89, 80, 69, 32, 115, 118, 103, 62]]
noncomputable def tailL : List (List Nat) := [[], [10, 60, 33, 45, 45, 116, 45, 45, 62]]
theorem doc1 (R : List Nat) : RDoc (32 :: 115 :: 118 :: 103 :: 32 :: 91 :: 60 :: 33 :: 69 :: 78 :: 84 :: 73 :: 84 :: 89 :: 32 :: 97 :: 32 :: 39 :: 62 :: 39 :: 62 :: 93 :: 62 :: 10 :: R) (10 :: R) :=
  RDoc.brk (R := 32 :: 115 :: 118 :: 103 :: 32 :: 91 :: 60 :: 33 :: 69 :: 78 :: 84 :: 73 :: 84 :: 89 :: 32 :: 97 :: 32 :: 39 :: 62 :: 39 :: 62 :: 93 :: 62 :: 10 :: R) (k := 18) (j := 2) (m := 0) rfl rfl rfl rfl rfl
theorem doc2 (R : List Nat) : RDoc (32 :: 115 :: 118 :: 103 :: 62 :: R) R := RDoc.plain (R := 32 :: 115 :: 118 :: 103 :: 62 :: R) (k := 4) rfl rfl
theorem pi1 (R : List Nat) : RSkip (63 :: 120 :: 109 :: 108 :: 32 :: 118 :: 101 :: 114 :: 115 :: 105 :: 111 :: 110 :: 61 :: 39 :: 49 :: 46 :: 48 :: 39 :: 63 :: 62 :: R) R :=
  RSkip.pi (R1 := 120 :: 109 :: 108 :: 32 :: 118 :: 101 :: 114 :: 115 :: 105 :: 111 :: 110 :: 61 :: 39 :: 49 :: 46 :: 48 :: 39 :: 63 :: 62 :: R) (k := 17) rfl rfl rfl rfl rfl
theorem head_rd {h R : List Nat} {res : Option Tr} (hh : h ∈ headL) (H1 : Pz R .start res) (H2 : Pz (10 :: R) .start res) : Pz (h ++ R) .start res := by
  simp only [headL, List.mem_cons, List.not_mem_nil, or_false] at hh
  rcases hh with rfl | rfl | rfl | rfl | rfl
  · exact H1
  · exact H2
  · exact skip_rd (pi1 R) (len_a [63, 120, 109, 108, 32, 118, 101, 114, 115, 105, 111, 110, 61, 39, 49, 46, 48, 39, 63, 62] R) H1
  · exact skip_rd (RSkip.dt rfl rfl rfl (doc1 R)) (len_a [33, 68, 79, 67, 84, 89, 80, 69, 32, 115, 118, 103, 32, 91, 60, 33, 69, 78, 84, 73, 84, 89, 32, 97, 32, 39, 62, 39, 62, 93, 62] (10 :: R)) H2
  · exact skip_rd (RSkip.dt rfl rfl rfl (doc2 R)) (len_a [33, 68, 79, 67, 84, 89, 80, 69, 32, 115, 118, 103, 62] R) H1
theorem tail_rd {tl : List Nat} (h : tl ∈ tailL) (t : Tr) : Pz tl (.done t) (some t) := by
  simp only [tailL, List.mem_cons, List.not_mem_nil, or_false] at h
  rcases h with rfl | rfl
  · exact .ok
  · exact nl_aheadD (skip_rd (R2 := []) (RSkip.cm (R1 := [116, 45, 45, 62]) (k := 1) rfl rfl) (by decide) .ok)
theorem both {h R1 : List Nat} {res : Option Tr} (hh : h ∈ headL) (H : Pz (60 :: R1) .start res) : Pz (h ++ 60 :: R1) .start res := head_rd hh H (nl_ahead H)
theorem room0 (f : Nat) (h : f ≤ 50) : Room [] f := ⟨by simpa using h, fun _ h => (nomatch h)⟩
theorem read_ok {X h tl : List Nat} {t : Tr} (hX : WrEl 2 X t) (hh : h ∈ headL) (ht : tl ∈ tailL) : Pz (h ++ X ++ tl) .start (some t) := by
  have hz := el_rd hX (st := []) (Z := tl) (res := some t) (room0 2 (by decide)) (tail_rd ht t)
  obtain ⟨X1, e⟩ := hX.hd
  subst e
  rw [List.append_assoc]
  exact both hh hz

/-! what is wrong is refused -/
noncomputable def wrongL (X : List Nat) : List (List Nat) := [X.dropLast, X ++ [60, 47, 103, 62], X ++ X, X ++ [120], 120 :: X, [60, 97, 62] ++ X,
  [60, 97, 32, 98, 61, 39, 49, 39, 32, 98, 61, 39, 50, 39, 47, 62], [60, 97, 32, 98, 61, 49, 47, 62], [60, 97, 32, 98, 47, 62], [60, 97, 62, 38, 120, 59, 60, 47, 97, 62], [60, 97, 62, 38, 35, 59, 60, 47, 97, 62],
  [60, 97, 62, 38, 35, 120, 49, 49, 48, 48, 48, 48, 59, 60, 47, 97, 62], [60, 97, 62, 38, 108, 116, 60, 47, 97, 62], [], [60, 33, 45, 45, 97, 45, 45, 62], [60, 97, 62, 60, 47, 98, 62, 60, 47, 97, 62], [60, 97, 62, 60, 33, 45, 45, 60, 47, 97, 62]]
theorem two_rd {f : Nat} {X : List Nat} {t t0 : Tr} (h : WrEl f X t) : Pz X (.done t0) none := by
  have fin : ∀ {nm T Z : List Nat} {c : Nat} {as : Ats} {em : Bool} {Y : List Nat}, nm ∈ nameL → WAts T as → isN c = false → RTagL (c :: Z) as (some (Y, as, em)) → Pz (60 :: (nm ++ (T ++ c :: Z))) (.done t0) none := by
    intro nm T Z c as em Y h1 h2 h3 h4
    obtain ⟨a1, a2, a3, a4, a5⟩ := start_rd h1 h2 h3 h4
    exact pbad_rd (.stTwo a1 a2 a4 a5)
  cases h with
  | leaf h1 h2 h3 =>
    simp only [List.mem_cons, List.not_mem_nil, or_false] at h3
    rcases h3 with rfl | rfl
    · have := fin (Z := [62]) (c := 47) (em := true) (Y := []) h1 h2 (by decide) (.cl rfl)
      simpa only [List.append_assoc, List.cons_append, List.nil_append] using this
    · have := fin (Z := [47, 62]) (c := 32) (em := true) (Y := []) h1 h2 (by decide) (.cl rfl)
      simpa only [List.append_assoc, List.cons_append, List.nil_append] using this
  | node h1 h2 h3 h4 h5 h6 =>
    rename_i n nm T sp sp2 body tx as kids
    simp only [List.mem_cons, List.not_mem_nil, or_false] at h3
    rcases h3 with rfl | rfl
    · have := fin (Z := body ++ (60 :: 47 :: (nm ++ (sp2 ++ [62])))) (c := 62) (em := false) (Y := body ++ (60 :: 47 :: (nm ++ (sp2 ++ [62])))) h1 h2 (by decide) (.gt rfl rfl)
      simpa only [List.append_assoc, List.cons_append, List.nil_append] using this
    · have := fin (Z := 62 :: (body ++ (60 :: 47 :: (nm ++ (sp2 ++ [62]))))) (c := 32) (em := false) (Y := body ++ (60 :: 47 :: (nm ++ (sp2 ++ [62])))) h1 h2 (by decide) (.gt rfl rfl)
      simpa only [List.append_assoc, List.cons_append, List.nil_append] using this
theorem ats_small {T : List Nat} {as : Ats} (h : WAts T as) : as.length ≤ 1000 := by have := h.len; omega
theorem cut_rd {f : Nat} {X : List Nat} {t : Tr} (h : WrEl f X t) (hf : f ≤ 50) : ∃ X1, X.dropLast = 60 :: X1 ∧ Pz (60 :: X1) .start none := by
  have dl : ∀ (Y : List Nat) (c : Nat), (Y ++ [c]).dropLast = Y := fun Y c => List.dropLast_concat
  cases h with
  | leaf h1 h2 h3 =>
    rename_i nm T sp as
    refine ⟨nm ++ (T ++ (sp ++ [47])), ?_, ?_⟩
    · rw [show [60] ++ nm ++ T ++ sp ++ [47, 62] = ([60] ++ nm ++ T ++ sp ++ [47]) ++ [62] by simp, dl]
      simp
    · have bad : ∃ c Z, sp ++ [47] = c :: Z ∧ isN c = false ∧ RTagL (c :: Z) as none := by
        simp only [List.mem_cons, List.not_mem_nil, or_false] at h3
        rcases h3 with rfl | rfl
        · exact ⟨_, _, rfl, by decide, .bad rfl rfl (ats_small h2) (.noName rfl)⟩
        · exact ⟨_, _, rfl, by decide, .bad rfl rfl (ats_small h2) (.noName rfl)⟩
      obtain ⟨c, Z, e, hc, hb⟩ := bad
      rw [e]
      obtain ⟨a1, a2, a3, a4, a5⟩ := start_rd h1 h2 hc hb
      exact pbad_rd (.stBad a1 a2 a4 a5)
  | node h1 h2 h3 h4 h5 h6 =>
    rename_i n nm T sp sp2 body tx as kids
    have hl := WrB.txlen h6
    have hr : Room [] f := room0 f hf
    refine ⟨nm ++ (T ++ (sp ++ (62 :: (body ++ (60 :: 47 :: (nm ++ sp2)))))), ?_, ?_⟩
    · rw [dl]
      simp
    · refine op_rd (st := []) (f := f) h1 h2 h3 hr (body_rd h6 (by omega) hr fun P y tx0 hP he => ?_)
      have hb : tx0.length ≤ 50000 ∧ y.length ≤ 50000 := by have := hl.1; rw [← he, List.length_append] at this; omega
      refine pend hP hb.1 hb.2 ?_
      obtain ⟨n1, n2, _⟩ := name_ok' h1
      simp only [List.mem_cons, List.not_mem_nil, or_false] at h4
      rcases h4 with rfl | rfl
      · have e1 : (nm ++ ([] : List Nat)).takeWhile isN = nm := by rw [tw_pos n1]; simp
        have e2 : (nm ++ ([] : List Nat)).dropWhile isN = [] := by rw [dw_pos n1]; rfl
        exact pbad_rd (.endBad (R1 := nm ++ []) ⟨rfl, rfl, rfl, rfl⟩ rfl (by rw [e1]; exact n2) (by rw [e2]; rfl))
      · have e1 : (nm ++ [32]).takeWhile isN = nm := tw_stop n1 (by decide)
        have e2 : (nm ++ [32]).dropWhile isN = [32] := dw_stop n1 (by decide)
        exact pbad_rd (.endBad (R1 := nm ++ [32]) ⟨rfl, rfl, rfl, rfl⟩ rfl (by rw [e1]; exact n2) (by rw [e2]; rfl))
theorem a_rd {Z : List Nat} {res : Option Tr} (h : Pz Z (.opn ⟨[97], [], [], []⟩ []) res) : Pz (60 :: 97 :: 62 :: Z) .start res :=
  piece_rd (RPie.stOutOp (R := 97 :: 62 :: Z) ⟨rfl, rfl, rfl, rfl⟩ rfl (by simp [List.takeWhile, isN]) (.gt rfl rfl)) (by simp only [List.length_cons]; omega) h
theorem abad {P R1 : List Nat} {ps : PS} (hne : P ≠ []) (hP : ∀ x ∈ P, x ≠ 60) (hU : Unesc P none) : Pz (P ++ 60 :: R1) ps none := by
  have f0 : fnd [60] (P ++ 60 :: R1) = some P.length := fnd1_app hP
  refine .bad1 (by simp) (.bad (k := P.length) (by rw [f0]; rfl) (List.length_pos_iff.mpr hne) (by rw [List.take_left]; exact hU))
theorem read_bad {X h wr : List Nat} {t : Tr} (hX : WrEl 2 X t) (hh : h ∈ headL) (hw : wr ∈ wrongL X) : Pz (h ++ wr) .start none := by
  have el : ∀ {st : List Nd} {Z : List Nat} {res : Option Tr}, Room st 2 → Pz Z (put t st) res → Pz (X ++ Z) (ofS st) res := fun a b => el_rd hX a b
  obtain ⟨X1, e1⟩ := hX.hd
  have b1 : ∀ {Z : List Nat}, Pz Z (.done t) none → Pz (h ++ (X ++ Z)) .start none := fun hz => by
    have := el (st := []) (room0 2 (by decide)) hz
    rw [e1] at this ⊢
    exact both hh this
  simp only [wrongL, List.mem_cons, List.not_mem_nil, or_false] at hw
  rcases hw with rfl | rfl | rfl | rfl | rfl | rfl | rfl | rfl | rfl | rfl | rfl | rfl | rfl | rfl | rfl | rfl | rfl
  · obtain ⟨X2, e2, hz⟩ := cut_rd hX (by decide)
    rw [e2]
    exact both hh hz
  · exact b1 (pbad_rd (.endD (R1 := [103, 62]) (R' := []) ⟨rfl, rfl, rfl, rfl⟩ rfl (by decide) rfl))
  · exact b1 (two_rd hX)
  · exact b1 (.bad1 (by simp) (.outD (k := 1) (y := [120]) rfl (by decide) (.plain (by decide) (by decide)) (.inl rfl)))
  · rw [e1]
    exact head_rd hh (.bad1 (by simp) (.outS (k := 1) (y := [120]) rfl (by decide) (.plain (by simp) (by rfl)) (.inl rfl))) (.bad1 (by simp) (.outS (k := 2) (y := [10, 120]) rfl (by decide) (.plain (by simp) (by rfl)) (.inr rfl)))
  · refine both hh (a_rd ?_)
    have := el (st := [⟨[97], [], [], []⟩]) (Z := []) (res := none) ⟨by decide, by simp⟩ (.left (by simp))
    rw [List.append_nil] at this
    exact this
  · exact both hh (pbad_rd (.stBad ⟨rfl, rfl, rfl, rfl⟩ rfl (by decide) (.more rfl rfl (by decide) (RAttr.sq (R2 := [39, 49, 39, 32, 98, 61, 39, 50, 39, 47, 62]) (R3 := [49, 39, 32, 98, 61, 39, 50, 39, 47, 62]) (k := 1) (y := [49]) (by decide) (by decide) rfl (by decide) (by decide) (by decide) (.plain (by decide) (by decide)))
      (.bad rfl rfl (by decide) (.twice (R2 := [39, 50, 39, 47, 62]) (by decide) (by decide) (by decide +kernel))))))
  · exact both hh (pbad_rd (.stBad ⟨rfl, rfl, rfl, rfl⟩ rfl (by decide) (.bad rfl rfl (by decide) (.noQuote (R2 := [49, 47, 62]) (by decide) (by decide) rfl (by decide) (by decide)))))
  · exact both hh (pbad_rd (.stBad ⟨rfl, rfl, rfl, rfl⟩ rfl (by decide) (.bad rfl rfl (by decide) (.noEq (by decide) (by decide)))))
  · exact both hh (a_rd (abad (P := [38, 120, 59]) (by decide) (by decide) (.bad (k := 0) (e := 1) (by decide) (by decide) .x)))
  · exact both hh (a_rd (abad (P := [38, 35, 59]) (by decide) (by decide) (.bad (k := 0) (e := 1) (by decide) (by decide) .hash)))
  · exact both hh (a_rd (abad (P := [38, 35, 120, 49, 49, 48, 48, 48, 48, 59]) (by decide) (by decide) (.bad (k := 0) (e := 8) (by decide) (by decide) .big)))
  · exact both hh (a_rd (abad (P := [38, 108, 116]) (by decide) (by decide) (.open_ (k := 0) (by decide) (by decide))))
  · exact head_rd hh .nothing (.text (by simp) (.blankS (k := 1) rfl (by decide) (.plain (by decide) (by decide))) .nothing)
  · exact both hh (skip_rd (R2 := []) (RSkip.cm (R1 := [97, 45, 45, 62]) (k := 1) rfl rfl) (by decide) .nothing)
  · exact both hh (a_rd (pbad_rd (.endOther (R1 := [98, 62, 60, 47, 97, 62]) (R' := [60, 47, 97, 62]) ⟨rfl, rfl, rfl, rfl⟩ rfl (by decide) (by decide) (by decide))))
  · exact both hh (a_rd (pbad_rd (.cmBad (R1 := [60, 47, 97, 62]) rfl (by decide))))
theorem heads_is : [Str.ofString "", Str.ofString "\n", Str.ofString "<?xml version='1.0'?>", Str.ofString "<!DOCTYPE svg [<!ENTITY a '>'>]>\n", Str.ofString "<!DOCTYPE svg>"].map lst = headL := by decide +kernel
theorem tails_is : [Str.ofString "", Str.ofString "\n<!--t-->"].map lst = tailL := by decide +kernel
theorem read_len {X h tl : List Nat} {t : Tr} (hX : WrEl 2 X t) (hh : h ∈ headL) : X.length ≤ 1520 ∧ h.length ≤ 40 := by
  have a := hX.len
  have b := lens_of (k := 40) (by decide) hh
  simp only [elMax] at a
  omega
end
section
/-- a frame of which some names are known -/
noncomputable def FM : List (Str × Value) → (Str → Option Value) → Str → Option Value
  | [], u => u
  | (k, v) :: r, u => fun y => if y = k then some v else FM r u y
inductive FMs (m : Str → Option Value) : List (Str × Value) → Prop
  | nil : FMs m []
  | cons {k : Str} {v : Value} {r : List (Str × Value)} : m k = some v → FMs m r → FMs m ((k, v) :: r)
theorem FMs.is {m : Str → Option Value} {l : List (Str × Value)} (h : FMs m l) : m = FM l m := by
  induction h with
  | nil => rfl
  | cons h1 _ ih =>
    rename_i k v r _
    funext y
    show m y = if y = k then some v else FM r m y
    by_cases q : y = k
    · rw [if_pos q, q, h1]
    · rw [if_neg q, ← ih]
noncomputable abbrev nS : Str := Str.ofString "source"
noncomputable abbrev nT : Str := Str.ofString "text"
noncomputable abbrev nR : Str := Str.ofString "row"
noncomputable abbrev nH : Str := Str.ofString "head"
noncomputable abbrev nL : Str := Str.ofString "tail"
noncomputable abbrev nW : Str := Str.ofString "wrong"
theorem FMs.fr {g h : Heap} {L : Addr} {m : Str → Option Value} {l : List (Str × Value)} (F : Fr g L h m) (x : FMs m l) : Fr g L h (FM l m) := x.is ▸ F
inductive LP0 : (Str → Option Value) → List (Addr × Obj) → Prop
  | mk {sr : Addr} {so : Obj} {u : Str → Option Value} : Src so → LP0 (FM [(nS, .ref sr)] u) [(sr, so)]
inductive LP1 (prog : Program) (w : World) : (Str → Option Value) → List (Addr × Obj) → Prop
  | mk {sr : Addr} {so : Obj} {X : Str} {tX : Tok} {v : Addr} {t : Tr} {Z : List (Addr × Obj)} {u : Str → Option Value} : Src so → WrEl 2 (lst X) t → RowIn prog w Z v t → NeAll sr Z → X.length ≤ 1520 →
      LP1 prog w (FM [(nS, .ref sr), (nT, .str X tX), (nR, .ref v)] u) ((sr, so) :: Z)
inductive LP2 (prog : Program) (w : World) : (Str → Option Value) → List (Addr × Obj) → Prop
  | mk {sr : Addr} {so : Obj} {X : Str} {tX : Tok} {v : Addr} {t : Tr} {Z : List (Addr × Obj)} {Hd : Str} {tH : Tok} {u : Str → Option Value} : Src so → WrEl 2 (lst X) t → RowIn prog w Z v t → NeAll sr Z → X.length ≤ 1520 → lst Hd ∈ headL →
      LP2 prog w (FM [(nS, .ref sr), (nT, .str X tX), (nR, .ref v), (nH, .str Hd tH)] u) ((sr, so) :: Z)
inductive LP3 (prog : Program) (w : World) : (Str → Option Value) → List (Addr × Obj) → Prop
  | mk {sr : Addr} {so : Obj} {X : Str} {tX : Tok} {v : Addr} {t : Tr} {Z : List (Addr × Obj)} {Hd : Str} {tH : Tok} {Tl : Str} {tL : Tok} {u : Str → Option Value} : Src so → WrEl 2 (lst X) t → RowIn prog w Z v t → X.length ≤ 1520 → lst Hd ∈ headL → lst Tl ∈ tailL →
      LP3 prog w (FM [(nS, .ref sr), (nT, .str X tX), (nR, .ref v), (nH, .str Hd tH), (nL, .str Tl tL)] u) ((sr, so) :: Z)
inductive LP4 : (Str → Option Value) → List (Addr × Obj) → Prop
  | mk {sr : Addr} {so : Obj} {X : Str} {tX : Tok} {t : Tr} {Hd : Str} {tH : Tok} {u : Str → Option Value} : Src so → WrEl 2 (lst X) t → X.length ≤ 1520 → lst Hd ∈ headL → LP4 (FM [(nS, .ref sr), (nT, .str X tX), (nH, .str Hd tH)] u) [(sr, so)]
inductive LP5 : (Str → Option Value) → List (Addr × Obj) → Prop
  | mk {X : Str} {t : Tr} {Hd : Str} {tH : Tok} {Wr : Str} {tW : Tok} {u : Str → Option Value} : WrEl 2 (lst X) t → lst Hd ∈ headL → lst Wr ∈ wrongL (lst X) → LP5 (FM [(nH, .str Hd tH), (nW, .str Wr tW)] u) []
theorem head_len {x : Str} (h : lst x ∈ headL) : x.length ≤ 40 := by
  have := lens_of (k := 40) (by decide) h
  rw [lst_len] at this
  exact this
theorem tail_len {x : Str} (h : lst x ∈ tailL) : x.length ≤ 40 := by
  have := lens_of (k := 40) (by decide) h
  rw [lst_len] at this
  exact this
theorem el_len2 {X : Str} {t : Tr} (h : WrEl 2 (lst X) t) : X.length ≤ 1520 := by
  have := h.len
  rw [lst_len] at this
  simp only [elMax] at this
  omega
theorem wrong_len {X Wr : Str} {t : Tr} (h : WrEl 2 (lst X) t) (hw : lst Wr ∈ wrongL (lst X)) : Wr.length ≤ 4000 := by
  have h1 := el_len2 h
  rw [← lst_len] at h1
  rw [← lst_len]
  simp only [wrongL, List.mem_cons, List.not_mem_nil, or_false] at hw
  rcases hw with e | e | e | e | e | e | e | e | e | e | e | e | e | e | e | e | e <;> rw [e] <;> simp only [List.length_append, List.length_dropLast, List.length_cons, List.length_nil] <;> omega
end
section
theorem cut_is {X : Str} (h : 1 ≤ X.length) : lst (Txt.slice X none (some (-1))) = (lst X).dropLast := by
  have e : Txt.slice X none (some (-1)) = Txt.slice X (some 0) (some (0 + ((X.length - 1 : Nat) : Int))) := by
    have e1 : Builtin.Str.strSliceIndices none (some (-1)) 1 X.length = Builtin.Str.strSliceIndices (some 0) (some (0 + ((X.length - 1 : Nat) : Int))) 1 X.length := by
      unfold Builtin.Str.strSliceIndices
      dsimp only
      rw [if_pos (by decide : (-1 : Int) < 0), if_neg (by decide : ¬ (0 : Int) < 0), if_neg (by omega : ¬ (0 + ((X.length - 1 : Nat) : Int)) < 0)]
      simp only [show (1 : Int) > 0 by decide, if_true]
      congr 1 <;> omega
    unfold Txt.slice
    rw [e1]
  rw [e, slice_rest (R := lst X) (k := X.length - 1) (Rest.start X) (by rw [lst_len]; omega), lst_mk, List.dropLast_eq_take, lst_len]
theorem wrongs_is {X : Str} (h : 1 ≤ X.length) : [Txt.slice X none (some (-1)), X ++ Str.ofString "</g>", X ++ X, X ++ Str.ofString "x", Str.ofString "x" ++ X,
      Str.ofString "<a>" ++ X, Str.ofString "<a b='1' b='2'/>", Str.ofString "<a b=1/>", Str.ofString "<a b/>",
      Str.ofString "<a>&x;</a>", Str.ofString "<a>&#;</a>", Str.ofString "<a>&#x110000;</a>", Str.ofString "<a>&lt</a>",
      Str.ofString "", Str.ofString "<!--a-->", Str.ofString "<a></b></a>", Str.ofString "<a><!--</a>"].map lst = wrongL (lst X) := by
  have c : [Str.ofString "</g>", Str.ofString "x", Str.ofString "<a>", Str.ofString "<a b='1' b='2'/>", Str.ofString "<a b=1/>", Str.ofString "<a b/>",
      Str.ofString "<a>&x;</a>", Str.ofString "<a>&#;</a>", Str.ofString "<a>&#x110000;</a>", Str.ofString "<a>&lt</a>",
      Str.ofString "", Str.ofString "<!--a-->", Str.ofString "<a></b></a>", Str.ofString "<a><!--</a>"].map lst = [[60, 47, 103, 62], [120], [60, 97, 62],
      [60, 97, 32, 98, 61, 39, 49, 39, 32, 98, 61, 39, 50, 39, 47, 62], [60, 97, 32, 98, 61, 49, 47, 62], [60, 97, 32, 98, 47, 62], [60, 97, 62, 38, 120, 59, 60, 47, 97, 62], [60, 97, 62, 38, 35, 59, 60, 47, 97, 62],
      [60, 97, 62, 38, 35, 120, 49, 49, 48, 48, 48, 48, 59, 60, 47, 97, 62], [60, 97, 62, 38, 108, 116, 60, 47, 97, 62], [], [60, 33, 45, 45, 97, 45, 45, 62], [60, 97, 62, 60, 47, 98, 62, 60, 47, 97, 62], [60, 97, 62, 60, 33, 45, 45, 60, 47, 97, 62]] := by decide +kernel
  simp only [List.map_cons, List.map_nil, List.cons.injEq, and_true] at c
  obtain ⟨c1, c2, c3, c4, c5, c6, c7, c8, c9, c10, c11, c12, c13, c14⟩ := c
  simp only [List.map_cons, List.map_nil, lst_app, cut_is h, c1, c2, c3, c4, c5, c6, c7, c8, c9, c10, c11, c12, c13, c14, wrongL, List.cons_append, List.nil_append]
theorem el_pos {X : Str} {t : Tr} (h : WrEl 2 (lst X) t) : 1 ≤ X.length := by
  obtain ⟨X1, e⟩ := h.hd
  rw [← lst_len, e]
  simp
end
section
theorem rk_LawW_0 : True := by
  k_with_none
  trivial


section
variable {prog : Program} {w : World} {p : Program} {loose : List Str} {mean : ExcName → Option Value} {mg mb : Str → Option Value}

theorem rk_LawW_1 : True := by
  k_with "k_room" => (((try simp only [depth_under_make, depth_under_kw, depth_in1, depth_deeper, depth_caller]); (try dsimp only [top]); omega))
  trivial
theorem rk_LawW_2 : True := by
  k_with "k_units" => (((try simp only [units_in1, units_deeper, Around.mark_units]); (try dsimp only [top]); omega))
  trivial
theorem rk_LawW_3 : True := by
  k_with "units_room" => (((try simp only [units_in1, units_deeper, Around.mark_units]); (try dsimp only [top]); omega))
  trivial
theorem rk_LawW_4 : True := by
  k_with "k_ne" => (((try dsimp only); first | assumption | exact Ne.symm (by assumption) | (refine neN ?_; omega)))
  trivial
theorem rk_LawW_5 : True := by
  k_with "k_all" => (first | assumption | exact List.forall_mem_nil _ | (refine' List.forall_mem_cons.mpr ⟨?a, ?b⟩; (case a => k_ne); (case b => k_all)))
  trivial
theorem rk_LawW_6 : True := by
  k_with "use:takes" => (repeat' (first | exact Takes.nil | exact Take1.head | refine' Takes.cons ?_ ?_ | refine' Take1.tail ?_))
  trivial
theorem rk_LawW_7 : True := by
  k_with "use:apart" => (((try dsimp only); repeat' (first | assumption | exact List.forall_mem_nil _ | refine' List.forall_mem_cons.mpr ⟨_, _⟩ | (intro x9 hx9; exact absurd hx9 (by simp)) | (dsimp only; first | assumption | exact Ne.symm (by assumption)) | k_ne)))
  trivial
theorem rk_LawW_8 : True := by
  k_with "use:room" => (first | (refine' room3 ?h9 ?e9; (case h9 => assumption); (case e9 => exact rfl)) | (refine' room_le ?h8 ?e8; (case h8 => assumption); (case e8 => exact rfl)) | ((try dsimp only [top, Around.deeper]); omega))
  trivial
theorem rk_LawW_9 : True := by
  k_with "use:le" => (first | assumption | exact le_mil (by assumption) | omega)
  trivial
theorem rk_LawW_10 : True := by
  k_with "exec Raise some none" => ((k_here; refine raise_stmt rfl ?_))
  trivial
theorem rk_LawW_11 : True := by
  k_with "call ref" => ((k_here; (with_reducible show wpAny _ _ (call (Value.ref 44) [_]) _ _ _); k_dflt (refine' fault_use ?B ?F ?X ?N ?T rfl rfl ?hd ?hu ?_; (case B => k_asm); (case F => k_asm); (case X => k_asm); (case N => k_asm); (case T => k_asm); (case hd => walk_at "use:room"); (case hu => walk_at "use:room"); intro e' tp' dx' h' tk' F' N')))
  trivial
theorem rk_LawW_12 : True := by
  k_with "RaiseBack" => ((k_here; k_dflt (refine' ⟨_, _, _, rfl, faultCls ?X, News.get ?N (List.Mem.head _), ?_⟩; (case N => k_asm); (case X => k_in)); (try dsimp only)))
  trivial
theorem rk_LawW_13 : True := by
  k_with "leaving ref" => ((k_here; k_dflt (first | (refine' leave_new_F ?B ?F ?N (List.Mem.head _) rfl rfl ?_; (case B => k_asm); (case F => k_asm); (case N => k_asm); intro h' hfl') | (refine' leave_fly rfl rfl ?fl ?_; (case fl => assumption); intro h' hfl'))))
  trivial

theorem rk_LawW_14 : True := by
  k_with "k_ne" => (first | assumption | exact Ne.symm (by assumption) | walk_at "ne:lt" | ((try dsimp only); first | assumption | exact Ne.symm (by assumption) | walk_at "ne:lt" | (refine neN ?_; omega)))
  trivial
theorem rk_LawW_15 : True := by
  k_with "k_all" => (first | assumption | exact List.forall_mem_nil _ | (refine neAll_of ?_; walk_at "use:conj"))
  trivial
theorem rk_LawW_16 : True := by
  k_with "use:conj" => (first | exact True.intro | assumption | ((refine And.intro ?_ ?_) <;> walk_at "use:conj") | ((with_reducible show NeAll _ _); refine neAll_lt ?_; walk_at "lastlt") | k_ne)
  trivial
theorem rk_LawW_17 : True := by
  k_with "ne:lt" => (first | (refine Nat.ne_of_lt ?_; walk_at "lt") | (refine Nat.ne_of_gt ?_; walk_at "lt"))
  trivial
theorem rk_LawW_18 : True := by
  k_with "lt" => (with_reducible first | assumption | exact pj0 (by assumption) | exact pj1 (by assumption) | exact pj2 (by assumption) | exact pj3 (by assumption) | exact pj4 (by assumption) | exact pj5 (by assumption) | exact pj6 (by assumption) | exact pj7 (by assumption) | exact pj8 (by assumption) | exact pj9 (by assumption) | exact pj10 (by assumption) | exact pj11 (by assumption))
  trivial
theorem rk_LawW_19 : True := by
  k_with "lastlt" => (with_reducible first | assumption | exact lk1 (by assumption) | exact lk2 (by assumption) | exact lk3 (by assumption) | exact lk4 (by assumption) | exact lk5 (by assumption) | exact lk6 (by assumption) | exact lk7 (by assumption))
  trivial
theorem rk_LawW_20 : True := by
  k_with "use:apart" => (walk_at "use:conj")
  trivial
theorem rk_LawW_21 : True := by
  k_with "use:sides" => (((case B => k_asm); (case F => k_asm); (case X => k_asm); (case N => k_asm); (case T => k_asm); (case tk => walk_at "use:takes"); (case dj => walk_at "use:apart"); (case hd => walk_at "use:room"); (case hu => walk_at "use:room")))
  trivial
theorem rk_LawW_22 : True := by
  k_with "use:in" => ((intro h' tk' F' N' hlt'; (try dsimp only [List.cons_append, List.nil_append] at N'); (try dsimp only [AllLt] at hlt'); (try dsimp only); (try k_sweep)))
  trivial

theorem rk_LawW_23 : True := by
  k_with "newTuple" => ((k_here; k_dflt (refine' newTuple_L ?k1 ?k2 ?_ ?z; (case k1 => k_asm); (case k2 => k_asm); (case z => exact Nat.le_of_ble_eq_true rfl)); intro D' h' F' N' hlt'; (try dsimp only [AllLt] at hlt'); (try dsimp only); (try k_sweep)))
  trivial
theorem rk_LawW_24 : True := by
  k_with "newList" => ((k_here; k_dflt (refine' newList_L ?k1 ?k2 ?_ ?z; (case k1 => k_asm); (case k2 => k_asm); (case z => exact Nat.le_of_ble_eq_true rfl)); intro D' h' F' N' hlt'; (try dsimp only [AllLt] at hlt'); (try dsimp only); (try k_sweep)))
  trivial

theorem rk_LawW_25 : True := by
  k_with "use:room" => ((first | decide | decide +kernel))
  trivial
theorem rk_LawW_26 : True := by
  k_with "fms" => (repeat' (first | exact FMs.nil | refine FMs.cons rfl ?_))
  trivial
theorem rk_LawW_27 : True := by
  k_with "use:takes" => (repeat' (first | exact Takes.nil | exact Take1.head | refine' Takes.cons ?_ ?_ | refine' Take1.tail ?_ | exact Takes.all | refine' Takes.skip ?_))
  trivial
theorem rk_LawW_28 : True := by
  k_with "call ref" => ((k_here; (with_reducible show wpAny _ _ (call (Value.ref 241) _) _ _ _); k_dflt ((refine' Fn.useOk (one_strs ?u1 ?u2 ?u3 ?u4 ?u5) ?B ?F ?X ?N ?T rfl rfl ?tk ?dj ?hd ?hu ?_); walk_at "use:sides"; (case u1 => k_ne); (case u2 => assumption); (case u3 => (repeat' (first | exact StrsAre.nil | apply StrsAre.cons))); (case u4 => exact Nat.le_of_ble_eq_true rfl); (case u5 => exact Nat.le_of_ble_eq_true rfl); (intro x' t' so' hx' hS'); walk_at "use:in")))
  trivial
theorem rk_LawW_29 : True := by
  k_with "call ref" => ((k_here; (with_reducible show wpAny _ _ (call (Value.ref 262) _) _ _ _); k_dflt ((refine' Fn.useOk (el_zero ?u1) ?B ?F ?X ?N ?T rfl rfl ?tk ?dj ?hd ?hu ?_); walk_at "use:sides"; (case u1 => assumption); (intro l9' X9' tx9' v9' t9' so' Z9' n9' hw9' hS' hr9' hz9' hl9'); (try dsimp only at hz9' hl9'); (have hX9 := el_len2 hw9'); walk_at "use:in")))
  trivial
theorem rk_LawW_30 : True := by
  k_with "call ref" => ((k_here; (with_reducible show wpAny _ _ (call (Value.ref 274) _) _ _ _); k_dflt ((refine' Fn.useOk (read_fn ?u1 ?u2 ?u3) ?B ?F ?X ?N ?T rfl rfl ?tk ?dj ?hd ?hu ?_); walk_at "use:sides"; (case u1 => (simp only [strLen_append]; omega)); (case u2 => assumption); (case u3 => assumption); (intro v9' o9' hR9'); walk_at "use:in")))
  trivial
end
set_option pp.deepTerms false
set_option pp.proofs false
noncomputable def law_holds.tw4503035019201841076 : Nat := 0
noncomputable def law_holds.tw11846676642670509255 : Nat := 0
noncomputable def law_holds.tw14160533322030094474 : Nat := 0
noncomputable def law_holds.tw1414043511812021011 : Nat := 0
noncomputable def law_holds.tw18340598423539479173 : Nat := 0
noncomputable def law_holds.tw8720880381367431298 : Nat := 0
noncomputable def law_holds.tw6860709855171689206 : Nat := 0
noncomputable def law_holds.tw9168033884955339765 : Nat := 0
noncomputable def law_holds.tw15005287543988543360 : Nat := 0
noncomputable def law_holds.tw9288214680346807717 : Nat := 0
noncomputable def law_holds.tw10028117763298573888 : Nat := 0
noncomputable def law_holds.tw16805829885119392726 : Nat := 0
noncomputable def law_holds.tw3035144380315620824 : Nat := 0
noncomputable def law_holds.tw8514742172934523775 : Nat := 0
noncomputable def law_holds.tw7696488724909661519 : Nat := 0
noncomputable def law_holds.tw11097350217990362986 : Nat := 0
noncomputable def law_holds.tw2503670479209048990 : Nat := 0
noncomputable def law_holds.tw18326849912455186884 : Nat := 0
noncomputable def law_holds.tw3253568177066640346 : Nat := 0
noncomputable def law_holds.tw16893121556090616931 : Nat := 0
noncomputable def law_holds.tw10007947361888340627 : Nat := 0
noncomputable def law_holds.tw14497384708736915567 : Nat := 0
noncomputable def law_holds.tw3756308257209627903 : Nat := 0
noncomputable def law_holds.tw18261290160731607033 : Nat := 0
noncomputable def law_holds.tw6727219029552735585 : Nat := 0
noncomputable def law_holds.tw2907507879108658156 : Nat := 0
noncomputable def law_holds.tw12134408205421670959 : Nat := 0
noncomputable def law_holds.tw17993387198741990920 : Nat := 0
noncomputable def law_holds.tw2613993436085324816 : Nat := 0
noncomputable def law_holds.tw12889056044993165476 : Nat := 0
noncomputable def law_holds.tw5506821171919863439 : Nat := 0
noncomputable def law_holds.tw13397297893571687751 : Nat := 0
noncomputable def law_holds.tw6667284449218939238 : Nat := 0
noncomputable def law_holds.tw17713402740875732926 : Nat := 0
noncomputable def law_holds.tw14774650325386425613 : Nat := 0
noncomputable def law_holds.tw1670043908289496885 : Nat := 0
noncomputable def law_holds.tw2269544990204364226 : Nat := 0
noncomputable def law_holds.tw6896717019858035522 : Nat := 0
noncomputable def law_holds.tw15472126771306010800 : Nat := 0
noncomputable def law_holds.tw3850334171643177529 : Nat := 0
noncomputable def law_holds.tw15609566024721092083 : Nat := 0
noncomputable def law_holds.tw12116493165278983582 : Nat := 0
noncomputable def law_holds.tw3186734533307500241 : Nat := 0
noncomputable def law_holds.tw1385162719727133579 : Nat := 0
noncomputable def law_holds.tw14326059299131336239 : Nat := 0
noncomputable def law_holds.tw16461882675039125421 : Nat := 0
noncomputable def law_holds.tw17898386970248378688 : Nat := 0
noncomputable def law_holds.tw907578622648922086 : Nat := 0
noncomputable def law_holds.tw11690447701083486646 : Nat := 0
noncomputable def law_holds.tw15661869461025623997 : Nat := 0
noncomputable def law_holds.tw2152083551845799040 : Nat := 0
noncomputable def law_holds.tw18090433342136740992 : Nat := 0
noncomputable def law_holds.tw15150646450996357022 : Nat := 0
noncomputable def law_holds.tw4581845663705801772 : Nat := 0
noncomputable def law_holds.tw9423440377400516374 : Nat := 0
noncomputable def law_holds.tw6499956759230125245 : Nat := 0
noncomputable def law_holds.tw11100686419730198450 : Nat := 0
noncomputable def law_holds.tw10829313771624777081 : Nat := 0
noncomputable def law_holds.tw15154110283740273250 : Nat := 0
noncomputable def law_holds.tw3682559726232862161 : Nat := 0
noncomputable def law_holds.tw17765402900961652773 : Nat := 0
noncomputable def law_holds.tw8266603773606604290 : Nat := 0
noncomputable def law_holds.tw14925382992726071281 : Nat := 0
noncomputable def law_holds.tw6507877686720480950 : Nat := 0
noncomputable def law_holds.tw4329158554759489670 : Nat := 0
noncomputable def law_holds.tw16470317323979864763 : Nat := 0
noncomputable def law_holds.tw1762888911704233025 : Nat := 0
noncomputable def law_holds.tw2618386414584295968 : Nat := 0
noncomputable def law_holds.tw5389484754426515990 : Nat := 0
noncomputable def law_holds.tw9849722394096787677 : Nat := 0
noncomputable def law_holds.tw4889031023730116350 : Nat := 0
noncomputable def law_holds.tw13766487248619392586 : Nat := 0
noncomputable def law_holds.tw17253691774821329096 : Nat := 0
noncomputable def law_holds.tw8857742495270377987 : Nat := 0
noncomputable def law_holds.tw6159533029260741167 : Nat := 0
noncomputable def law_holds.tw3850375180904979519 : Nat := 0
noncomputable def law_holds.tw9875236377963488844 : Nat := 0
noncomputable def law_holds.tw10371022188087798493 : Nat := 0
noncomputable def law_holds.tw10958410103948607464 : Nat := 0
noncomputable def law_holds.tw11677100312832694166 : Nat := 0
noncomputable def law_holds.tw3366817510852727610 : Nat := 0
noncomputable def law_holds.tw545109181885906688 : Nat := 0
noncomputable def law_holds.tw676263390381983339 : Nat := 0
noncomputable def law_holds.tw9131877904366575398 : Nat := 0
noncomputable def law_holds.tw9779807473162285230 : Nat := 0
noncomputable def law_holds.tw4441770287765753910 : Nat := 0
noncomputable def law_holds.tw1819975233463548508 : Nat := 0
noncomputable def law_holds.tw13182730311906835528 : Nat := 0
noncomputable def law_holds.tw12626328134170644701 : Nat := 0
noncomputable def law_holds.tw13220211186989608806 : Nat := 0
noncomputable def law_holds.tw2842810181116790245 : Nat := 0
noncomputable def law_holds.tw784011647948385275 : Nat := 0
noncomputable def law_holds.tw11625900857008200698 : Nat := 0
noncomputable def law_holds.tw16106779387088534511 : Nat := 0
noncomputable def law_holds.tw4037582482628031876 : Nat := 0
noncomputable def law_holds.tw15274831704391544125 : Nat := 0
noncomputable def law_holds.tw7120836010843673076 : Nat := 0
noncomputable def law_holds.tw699380112222796084 : Nat := 0
noncomputable def law_holds.tw6141124093129480003 : Nat := 0
noncomputable def law_holds.tw1298917362307582566 : Nat := 0
noncomputable def law_holds.tw13800757232730249582 : Nat := 0
noncomputable def law_holds.tw3742325753681652743 : Nat := 0
noncomputable def law_holds.tw17255088995462705879 : Nat := 0
noncomputable def law_holds.tw10264638600885302300 : Nat := 0
noncomputable def law_holds.tw1689763614830377041 : Nat := 0
noncomputable def law_holds.tw3253820488102484341 : Nat := 0
noncomputable def law_holds.tw575232530192455986 : Nat := 0
noncomputable def law_holds.tw7910590604623066228 : Nat := 0
noncomputable def law_holds.tw3943428198234077543 : Nat := 0
noncomputable def law_holds.tw3426384778480675251 : Nat := 0
noncomputable def law_holds.tw15759456685926392790 : Nat := 0
noncomputable def law_holds.tw10817052189556005596 : Nat := 0
noncomputable def law_holds.tw14983226153234331074 : Nat := 0
noncomputable def law_holds.tw2055734563569237896 : Nat := 0
noncomputable def law_holds.tw13280740594461564331 : Nat := 0
noncomputable def law_holds.tw2856731137302751260 : Nat := 0
noncomputable def law_holds.tw13392613628428298086 : Nat := 0
noncomputable def law_holds.tw15014403891855920072 : Nat := 0
noncomputable def law_holds.tw11966672015165255308 : Nat := 0
noncomputable def law_holds.tw6564709946809587534 : Nat := 0
noncomputable def law_holds.tw17180001009569633970 : Nat := 0
noncomputable def law_holds.tw10024239376800412576 : Nat := 0
noncomputable def law_holds.tw15607887362523206001 : Nat := 0
noncomputable def law_holds.tw6911747868599837429 : Nat := 0
noncomputable def law_holds.tw7408322871517469003 : Nat := 0
noncomputable def law_holds.tw8957123355933967898 : Nat := 0
noncomputable def law_holds.tw8970147916757833333 : Nat := 0
noncomputable def law_holds.tw11781800970755023335 : Nat := 0
noncomputable def law_holds.tw2102315897755806987 : Nat := 0
noncomputable def law_holds.tw519298541982818421 : Nat := 0
noncomputable def law_holds.tw12303009252429188658 : Nat := 0
noncomputable def law_holds.tw17253903310271361901 : Nat := 0
noncomputable def law_holds.tw8441880690091102137 : Nat := 0
noncomputable def law_holds.tw13478230802861573701 : Nat := 0
noncomputable def law_holds.tw12889673554181485818 : Nat := 0
noncomputable def law_holds.tw15006436103509636135 : Nat := 0
noncomputable def law_holds.tw11126432536435168541 : Nat := 0
noncomputable def law_holds.tw10188763426450519768 : Nat := 0
noncomputable def law_holds.tw14571795756577361901 : Nat := 0
noncomputable def law_holds.tw9843604407834444796 : Nat := 0
noncomputable def law_holds.tw14289194402921355359 : Nat := 0
noncomputable def law_holds.tw1377309892636839040 : Nat := 0
noncomputable def law_holds.tw4818577856007422655 : Nat := 0
noncomputable def law_holds.tw8909828626151137519 : Nat := 0
noncomputable def law_holds.tw16273140198857503625 : Nat := 0
noncomputable def law_holds.tw18254337876149969668 : Nat := 0
noncomputable def law_holds.tw10368410895845634921 : Nat := 0
noncomputable def law_holds.tw15162217921772873613 : Nat := 0
noncomputable def law_holds.tw653560878884961445 : Nat := 0
noncomputable def law_holds.tw4916342969005030805 : Nat := 0
noncomputable def law_holds.tw14988988175077273356 : Nat := 0
noncomputable def law_holds.tw11182679623053108816 : Nat := 0
noncomputable def law_holds.tw2143268655074302082 : Nat := 0
noncomputable def law_holds.tw5112083995522966620 : Nat := 0
noncomputable def law_holds.tw14883556706271630602 : Nat := 0
noncomputable def law_holds.tw12831907817818079685 : Nat := 0
noncomputable def law_holds.tw718173064312146323 : Nat := 0
noncomputable def law_holds.tw9001190932507784697 : Nat := 0
noncomputable def law_holds.tw17911580528928914924 : Nat := 0
noncomputable def law_holds.tw7504726725593181219 : Nat := 0
noncomputable def law_holds.tw4614512636035447770 : Nat := 0
noncomputable def law_holds.tw9529696498207198238 : Nat := 0
noncomputable def law_holds.tw8786122383778125906 : Nat := 0
noncomputable def law_holds.tw1832781179975386347 : Nat := 0
noncomputable def law_holds.tw3850404396616230974 : Nat := 0
noncomputable def law_holds.tw8835965917227929528 : Nat := 0
noncomputable def law_holds.tw7356724547972884604 : Nat := 0
noncomputable def law_holds.tw8666519363043736892 : Nat := 0
noncomputable def law_holds.tw14385925486924208373 : Nat := 0
noncomputable def law_holds.tw6861490101519172755 : Nat := 0
noncomputable def law_holds.tw8191475993861738794 : Nat := 0
noncomputable def law_holds.tw13154458805202713791 : Nat := 0
noncomputable def law_holds.tw17499823404086765753 : Nat := 0
noncomputable def law_holds.tw18234560199702728603 : Nat := 0
noncomputable def law_holds.tw3882201998751590657 : Nat := 0
noncomputable def law_holds.tw8854015012368427407 : Nat := 0
noncomputable def law_holds.tw11223184984439025696 : Nat := 0
noncomputable def law_holds.tw15617896438947887921 : Nat := 0
noncomputable def law_holds.tw8984712037535005518 : Nat := 0
noncomputable def law_holds.tw8652346329174877282 : Nat := 0
noncomputable def law_holds.tw1426424393278487926 : Nat := 0
noncomputable def law_holds.tw1622690429015379626 : Nat := 0
noncomputable def law_holds.tw7304591109411159013 : Nat := 0
noncomputable def law_holds.tw10841264019214440115 : Nat := 0
noncomputable def law_holds.tw6776455111828631412 : Nat := 0
noncomputable def law_holds.tw2643271747718453845 : Nat := 0
noncomputable def law_holds.tw5212653520564569363 : Nat := 0
noncomputable def law_holds.tw17974257514489008736 : Nat := 0
noncomputable def law_holds.tw4439653461905209652 : Nat := 0
noncomputable def law_holds.tw123295346585929383 : Nat := 0
noncomputable def law_holds.tw10609929442622069884 : Nat := 0
noncomputable def law_holds.tw9207643191828677137 : Nat := 0
noncomputable def law_holds.tw6709271908398517637 : Nat := 0
noncomputable def law_holds.tw2043166853727251185 : Nat := 0
noncomputable def law_holds.tw15191720212996534143 : Nat := 0
noncomputable def law_holds.tw13402424001964919149 : Nat := 0
noncomputable def law_holds.tw5640673133297012132 : Nat := 0
noncomputable def law_holds.tw14828999820898988419 : Nat := 0
noncomputable def law_holds.tw8549365171731915398 : Nat := 0
noncomputable def law_holds.tw10465528174321978529 : Nat := 0
noncomputable def law_holds.tw15352839923633478061 : Nat := 0
noncomputable def law_holds.tw6869992995446874880 : Nat := 0
noncomputable def law_holds.tw9992725586745946429 : Nat := 0
noncomputable def law_holds.tw4781243967656130014 : Nat := 0
noncomputable def law_holds.tw14991590004735058009 : Nat := 0
noncomputable def law_holds.tw4833173496992025938 : Nat := 0
noncomputable def law_holds.tw3912811242725288453 : Nat := 0
noncomputable def law_holds.tw14997073306097389879 : Nat := 0
noncomputable def law_holds.tw14596297492920191028 : Nat := 0
noncomputable def law_holds.tw16098122237329998606 : Nat := 0
noncomputable def law_holds.tw7185456241796803578 : Nat := 0
noncomputable def law_holds.tw8745285889728075598 : Nat := 0
noncomputable def law_holds.tw15694993059591697976 : Nat := 0
noncomputable def law_holds.tw5062152199769849712 : Nat := 0
noncomputable def law_holds.tw2322801206320994539 : Nat := 0
noncomputable def law_holds.tw10140654463863922226 : Nat := 0
noncomputable def law_holds.tw8176227357466254829 : Nat := 0
noncomputable def law_holds.tw14545874151571354728 : Nat := 0
noncomputable def law_holds.tw1767730674963353768 : Nat := 0
noncomputable def law_holds.tw11609493526922420660 : Nat := 0
noncomputable def law_holds.tw11924911360389889469 : Nat := 0
noncomputable def law_holds.tw16836969012518115619 : Nat := 0
noncomputable def law_holds.tw12476058986133298565 : Nat := 0
noncomputable def law_holds.tw14051398506283589457 : Nat := 0
noncomputable def law_holds.tw9682718004065560343 : Nat := 0
noncomputable def law_holds.tw6317479115527610633 : Nat := 0
noncomputable def law_holds.tw8785698371604719795 : Nat := 0
noncomputable def law_holds.tw1186782194237197914 : Nat := 0
noncomputable def law_holds.tw12342728606916771844 : Nat := 0
noncomputable def law_holds.tw1989176631692091739 : Nat := 0
noncomputable def law_holds.tw8553002610548859549 : Nat := 0
noncomputable def law_holds.tw9552830710289189752 : Nat := 0
noncomputable def law_holds.tw9184033795430018204 : Nat := 0
noncomputable def law_holds.tw15448297888555860652 : Nat := 0
noncomputable def law_holds.tw724200737284857819 : Nat := 0
noncomputable def law_holds.tw11764581739189218997 : Nat := 0
noncomputable def law_holds.tw4273555757443719353 : Nat := 0
noncomputable def law_holds.tw6934448944433832347 : Nat := 0
noncomputable def law_holds.tw1285599515219305098 : Nat := 0
noncomputable def law_holds.tw11289095316329951393 : Nat := 0
noncomputable def law_holds.tw7820799176418779761 : Nat := 0
noncomputable def law_holds.tw3956099054510807996 : Nat := 0
noncomputable def law_holds.tw17237755526102222789 : Nat := 0
noncomputable def law_holds.tw6629495429873386292 : Nat := 0
noncomputable def law_holds.tw6765152471904792315 : Nat := 0
noncomputable def law_holds.tw576407869801174206 : Nat := 0
noncomputable def law_holds.tw455179833554555240 : Nat := 0
noncomputable def law_holds.tw13709617746848070560 : Nat := 0
noncomputable def law_holds.tw7407239408455114201 : Nat := 0
noncomputable def law_holds.tw15806970514647361693 : Nat := 0
noncomputable def law_holds.tw16099233806120587224 : Nat := 0
noncomputable def law_holds.tw17942709131360195518 : Nat := 0
noncomputable def law_holds.tw12223724995276690173 : Nat := 0
noncomputable def law_holds.tw5274592661964301406 : Nat := 0
noncomputable def law_holds.tw18269650602155537469 : Nat := 0
noncomputable def law_holds.tw12732824653754844360 : Nat := 0
noncomputable def law_holds.tw8369274380968253667 : Nat := 0
noncomputable def law_holds.tw302768837105346163 : Nat := 0
noncomputable def law_holds.tw2295933128562542503 : Nat := 0
noncomputable def law_holds.tw9255152265573255198 : Nat := 0
noncomputable def law_holds.tw15544829507116839252 : Nat := 0
noncomputable def law_holds.tw12835091436910803158 : Nat := 0
noncomputable def law_holds.tw3158129796062787159 : Nat := 0
noncomputable def law_holds.tw16614716721108272449 : Nat := 0
noncomputable def law_holds.tw12115171985352901274 : Nat := 0
noncomputable def law_holds.tw18203989763732354715 : Nat := 0
noncomputable def law_holds.tw7019463264422422977 : Nat := 0
noncomputable def law_holds.tw13882729330811710610 : Nat := 0
noncomputable def law_holds.tw4030767218360268280 : Nat := 0
noncomputable def law_holds.tw2387193687640843687 : Nat := 0
noncomputable def law_holds.tw6723812968561706957 : Nat := 0
noncomputable def law_holds.tw11803358882649189518 : Nat := 0
noncomputable def law_holds.tw7636989558263936852 : Nat := 0
set_option Elab.async true in
set_option maxRecDepth 100000 in
set_option maxHeartbeats 8000000 in
theorem law_holds : PySem.Challenge.rw_nu0020_01.Holds := by
  (w_on; o_law; k_head; (case hw => w_witness2))
  k_go0
  (all_goals try k_fold)
  rename Shared => s₁
  rename World => w
  rename Fr _ _ _ _ => F
  rename News _ _ _ _ => N
  rename Below _ _ _ _ => B
  rename Top _ _ _ _ _ _ => TP
  rename Frag.In _ _ => KX0
  have KX : (Mine.hd.heap_1_1 w.params).In s₁.heap := KX0
  clear KX0
  rename s₁.gens = _ => hg
  refine execs_cut (Mid s₁.heap s₁.heap.objs.size s₁ LP0) ?s0 ?r0
  (case s0 =>
    k_steps
    all_goals (rename News _ _ _ _ => N9; rename Fr _ _ _ _ => F9; refine' ⟨rfl, .mk (FMs.fr F9 (.cons rfl .nil)) N9 (.mk ⟨_, _, _, _, _, ?_, rfl⟩)⟩)
    all_goals (refine Int.mul_nonneg ?_ ?_)
    all_goals (split <;> omega))
  (case r0 =>
    clear F N
    rintro s' ⟨F, N, @⟨sr, so, u, hS⟩⟩
    dsimp only [FM] at F
    refine execs_cut (Mid s₁.heap s₁.heap.objs.size s₁ (LP1 PySem.Challenge.rw_nu0020_01.row.prog w)) ?s1 ?r1
    (case s1 =>
      k_steps
      rename News _ _ _ _ => N9
      rename Fr _ _ _ _ => F9
      refine' ⟨rfl, .mk (FMs.fr F9 ?fm1) (News.sub N9 ?sub1) (LP1.mk (sr := sr) (so := so') (X := X9') (tX := tx9') (v := v9') (Z := Z9') hS' hw9' hr9' (neAll_ge hz9' (by omega)) hX9)⟩
      (case fm1 => walk_at "fms")
      (case sub1 => intro p hp; simp only [List.mem_cons, List.mem_append] at hp ⊢; rcases hp with hp | hp <;> simp [hp]))
    (case r1 =>
      clear F N
      rintro s' ⟨F, N, @⟨sr, so, X, tX, v, t, Z, u, hS, hW, hR, hz, hXl⟩⟩
      dsimp only [FM] at F
      refine execs_cut (Mid s₁.heap s₁.heap.objs.size s₁ (LP2 PySem.Challenge.rw_nu0020_01.row.prog w)) ?s2 ?r2
      (case s2 =>
        k_steps
        rename News _ _ _ _ => N9
        rename Fr _ _ _ _ => F9
        refine' ⟨rfl, .mk (FMs.fr F9 ?fm2) (news_takes N9 ?sub2) (LP2.mk (sr := sr) (so := so') (X := X) (tX := tX) (v := v) (Z := Z) (Hd := x') (tH := t') hS' hW hR hz hXl (mem_lst hx' heads_is))⟩
        (case fm2 => walk_at "fms")
        (case sub2 => walk_at "use:takes"))
      (case r2 =>
        clear F N
        rintro s' ⟨F, N, @⟨sr, so, X, tX, v, t, Z, Hd, tH, u, hS, hW, hR, hz, hXl, hHd⟩⟩
        dsimp only [FM] at F
        refine execs_cut (Mid s₁.heap s₁.heap.objs.size s₁ (LP3 PySem.Challenge.rw_nu0020_01.row.prog w)) ?s3 ?r3
        (case s3 =>
          k_steps
          rename News _ _ _ _ => N9
          rename Fr _ _ _ _ => F9
          refine' ⟨rfl, .mk (FMs.fr F9 ?fm3) (news_takes N9 ?sub3) (LP3.mk (sr := sr) (so := so') (X := X) (tX := tX) (v := v) (Z := Z) (Hd := Hd) (tH := tH) (Tl := x') (tL := t') hS' hW hR hXl hHd (mem_lst hx' tails_is))⟩
          (case fm3 => walk_at "fms")
          (case sub3 => walk_at "use:takes"))
        (case r3 =>
          clear F N
          rintro s' ⟨F, N, @⟨sr, so, X, tX, v, t, Z, Hd, tH, Tl, tL, u, hS, hW, hR, hXl, hHd, hTl⟩⟩
          dsimp only [FM] at F
          have hPz : Pz (lst (Hd ++ X ++ Tl)) .start (some t) := by rw [lst_app, lst_app]; exact read_ok hW hHd hTl
          have hSh : Sh 3 t := hW.sh
          have hHl := head_len hHd
          have hTlen := tail_len hTl
          refine execs_cut (Mid s₁.heap s₁.heap.objs.size s₁ LP4) ?s4 ?r4
          (case s4 =>
            repeat ((fail_if_success (with_reducible show wpAny _ _ (compareOp CmpOp.NotEq _ _) _ _ _)); (first | (k_unfold; (try dsimp only)) | walk1 | (dsimp only; walk1)))
            refine row_ne (n := 3) hR9' (fun p hp => (N' p ?in1).1) (fun p hp => (N' p ?in2).1) hR hSh ?room ?_
            (case in1 => simp [hp])
            (case in2 => simp [hp])
            (case room => (show callerA.units + 3 + 2 * 3 < cLine; decide))
            (try dsimp only)
            k_steps
            rename News _ _ _ _ => N9
            rename Fr _ _ _ _ => F9
            refine' ⟨rfl, .mk (FMs.fr F9 ?fm4) (News.sub N9 ?sub4) (LP4.mk (sr := sr) (so := so) (X := X) (tX := tX) (Hd := Hd) (tH := tH) hS hW hXl hHd)⟩
            (case fm4 => walk_at "fms")
            (case sub4 => intro p hp; simp only [List.mem_cons, List.not_mem_nil, or_false] at hp; simp [hp]))
          (case r4 =>
            clear F N
            rintro s' ⟨F, N, @⟨sr, so, X, tX, t, Hd, tH, u, hS, hW, hXl, hHd⟩⟩
            dsimp only [FM] at F
            have hHl := head_len hHd
            refine execs_cut (Mid s₁.heap s₁.heap.objs.size s₁ LP5) ?s5 ?r5
            (case s5 =>
              k_steps
              rename News _ _ _ _ => N9
              rename Fr _ _ _ _ => F9
              have hWr : lst x' ∈ wrongL (lst X) := mem_lst hx' (wrongs_is (el_pos hW))
              refine' ⟨rfl, .mk (FMs.fr F9 ?fm5) News.nil (LP5.mk (Hd := Hd) (tH := tH) (Wr := x') (tW := t') hW hHd hWr)⟩
              (case fm5 => walk_at "fms"))
            (case r5 =>
              clear F N
              rintro s' ⟨F, N, @⟨X, t, Hd, tH, Wr, tW, u, hW, hHd, hWr⟩⟩
              dsimp only [FM] at F
              have hHl := head_len hHd
              have hWl := wrong_len hW hWr
              have hPz : Pz (lst (Hd ++ Wr)) .start none := by rw [lst_app]; exact read_bad hW hHd hWr
              repeat ((fail_if_success (with_reducible show wpAny _ _ (call (Value.ref 281) _) _ _ _)); (first | (k_unfold; (try dsimp only)) | walk1 | (dsimp only; walk1)))
              refine refused_fn ?len8 hPz _ _ _ _ _ _ _ _ _ ?d8 ?u8 (fun b o e => F.keep b o e) (Below.push B F).frames KX TP (fun b o e => e) (Nat.le_refl _) (fun h' tk' kb => ?_)
              (case len8 => rw [strLen_append]; omega)
              (case d8 => decide)
              (case u8 => decide)
              refine ⟨.inl ⟨.bool true, .bool true, [], rfl, raisesW_false ?_, .bool true, ?_, unshared_nil⟩, fun b o e => kb b o e, rfl, hg⟩
              · wrow_none_raised
              · kc_post))))))
end
end Mine
theorem PySem.Challenge.cw_nu0020_01_holds : PySem.Challenge.rw_nu0020_01.Holds := by
  exact Mine.law_holds
