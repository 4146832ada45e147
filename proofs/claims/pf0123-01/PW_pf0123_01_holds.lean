import PyProof.Rows.All
import Wide.All
import OpenK.AllK
import Wide.FinOn
import PySem.Challenge.RW_pf0123_01
set_option Elab.async false
set_option autoImplicit false
set_option maxRecDepth 100000
set_option maxHeartbeats 8000000
set_option linter.unusedVariables false
set_option linter.unusedSimpArgs false
namespace Mine
open PySem
noncomputable def Blank : Str := Str.ofString " "
theorem blank_eq : Str.ofString " " = Blank := rfl
end Mine
name_quick tw16864618592142003386 for Mine.Blank by Mine.blank_eq
name_quick tw14904681115217272601 for Mine.Blank by Mine.blank_eq
name_quick tw11898673842065290130 for Mine.Blank by Mine.blank_eq
name_quick tw4684226298888400098 for Mine.Blank by Mine.blank_eq
name_quick tw6128106870883400570 for Mine.Blank by Mine.blank_eq
name_quick tw8060666987683057360 for Mine.Blank by Mine.blank_eq
name_quick tw4683681711962371626 for Mine.Blank by Mine.blank_eq
name_quick tw16822532161544500889 for Mine.Blank by Mine.blank_eq
name_quick tw13462424878891718212 for Mine.Blank by Mine.blank_eq
name_quick tw6953138203311097117 for Mine.Blank by Mine.blank_eq
name_quick tw11738243743197964597 for Mine.Blank by Mine.blank_eq
name_quick tw6148498323302512570 for Mine.Blank by Mine.blank_eq
name_quick tw8739830900816887780 for Mine.Blank by Mine.blank_eq
name_quick tw4734895289157585001 for Mine.Blank by Mine.blank_eq
name_quick tw3308634892276815127 for Mine.Blank by Mine.blank_eq
name_quick tw11401859456886640639 for Mine.Blank by Mine.blank_eq
name_quick tw10294118229990073760 for Mine.Blank by Mine.blank_eq
name_quick tw18101783494082082527 for Mine.Blank by Mine.blank_eq
name_quick tw15621415185263527259 for Mine.Blank by Mine.blank_eq
name_quick tw13034982811429478159 for Mine.Blank by Mine.blank_eq
name_quick tw3919386906821981792 for Mine.Blank by Mine.blank_eq
name_quick tw12887044766017154078 for Mine.Blank by Mine.blank_eq
name_quick tw7217548393331319763 for Mine.Blank by Mine.blank_eq
name_quick tw4971374062829452455 for Mine.Blank by Mine.blank_eq
name_quick tw15254633091992210921 for Mine.Blank by Mine.blank_eq
name_quick tw8047209995159408440 for Mine.Blank by Mine.blank_eq
name_quick tw11564986514327137767 for Mine.Blank by Mine.blank_eq
name_quick tw17214186515701724070 for Mine.Blank by Mine.blank_eq
name_quick tw9592521066531166775 for Mine.Blank by Mine.blank_eq
name_quick tw9461873434466728008 for Mine.Blank by Mine.blank_eq
name_quick tw6522051377940421278 for Mine.Blank by Mine.blank_eq
name_quick tw8374155422468719031 for Mine.Blank by Mine.blank_eq
name_quick tw4562827626845409882 for Mine.Blank by Mine.blank_eq
name_quick tw2135409205425526673 for Mine.Blank by Mine.blank_eq
name_quick tw16902440903046159558 for Mine.Blank by Mine.blank_eq
name_quick tw4075453323654395381 for Mine.Blank by Mine.blank_eq
name_quick tw2295934692909999376 for Mine.Blank by Mine.blank_eq
name_quick tw9689729476882780088 for Mine.Blank by Mine.blank_eq
name_quick tw7476452910721959123 for Mine.Blank by Mine.blank_eq
name_quick tw3985964047577975286 for Mine.Blank by Mine.blank_eq
name_quick tw8002303944043701648 for Mine.Blank by Mine.blank_eq
name_quick tw12954591660760965231 for Mine.Blank by Mine.blank_eq
name_quick tw936880607376485977 for Mine.Blank by Mine.blank_eq
name_quick tw8966131664815694762 for Mine.Blank by Mine.blank_eq
name_quick tw13946496683202179788 for Mine.Blank by Mine.blank_eq
name_quick tw15042883488752021643 for Mine.Blank by Mine.blank_eq
name_quick tw12459912946257978736 for Mine.Blank by Mine.blank_eq
name_quick tw10258873121960336067 for Mine.Blank by Mine.blank_eq
name_quick tw10510056951384868246 for Mine.Blank by Mine.blank_eq
name_quick tw1950803216711332702 for Mine.Blank by Mine.blank_eq
name_quick tw3300257896294614128 for Mine.Blank by Mine.blank_eq
name_quick tw1825952489489211193 for Mine.Blank by Mine.blank_eq
name_quick tw17338325484393633139 for Mine.Blank by Mine.blank_eq
name_quick tw5832305185047221409 for Mine.Blank by Mine.blank_eq
name_quick tw13444670453868202053 for Mine.Blank by Mine.blank_eq
name_quick tw5890639436620234070 for Mine.Blank by Mine.blank_eq
name_quick tw11907897558876765624 for Mine.Blank by Mine.blank_eq
name_quick tw13812277999558781770 for Mine.Blank by Mine.blank_eq
name_quick tw3215387988796971590 for Mine.Blank by Mine.blank_eq
name_quick tw8219003486749837733 for Mine.Blank by Mine.blank_eq
name_quick tw11606288678410610225 for Mine.Blank by Mine.blank_eq
name_quick tw12917704675397863716 for Mine.Blank by Mine.blank_eq
name_quick tw13421457143807847188 for Mine.Blank by Mine.blank_eq
name_quick tw3235425350174046738 for Mine.Blank by Mine.blank_eq
name_quick tw2107523057676978006 for Mine.Blank by Mine.blank_eq
name_quick tw14424681132571578402 for Mine.Blank by Mine.blank_eq
name_quick tw2483420100392427323 for Mine.Blank by Mine.blank_eq
name_quick tw14243238205550065757 for Mine.Blank by Mine.blank_eq
name_quick tw14935467056822913822 for Mine.Blank by Mine.blank_eq
name_quick tw6822071536725586909 for Mine.Blank by Mine.blank_eq
name_quick tw16409965706819354750 for Mine.Blank by Mine.blank_eq
name_quick tw8733291241859026926 for Mine.Blank by Mine.blank_eq
name_quick tw10016166984437732892 for Mine.Blank by Mine.blank_eq
name_quick tw14782755387869428366 for Mine.Blank by Mine.blank_eq
name_quick tw4635989785427082552 for Mine.Blank by Mine.blank_eq
name_quick tw16955839230299176341 for Mine.Blank by Mine.blank_eq
name_quick tw17435391645217708394 for Mine.Blank by Mine.blank_eq
name_quick tw11823594873375168262 for Mine.Blank by Mine.blank_eq
name_quick tw16279288168775177219 for Mine.Blank by Mine.blank_eq
name_quick tw1915925776726481438 for Mine.Blank by Mine.blank_eq
name_quick tw1979317910248211280 for Mine.Blank by Mine.blank_eq
name_quick tw9784134513789038367 for Mine.Blank by Mine.blank_eq
name_quick tw17187875760726034783 for Mine.Blank by Mine.blank_eq
name_quick tw12297992134047619483 for Mine.Blank by Mine.blank_eq
name_quick tw446995266069924076 for Mine.Blank by Mine.blank_eq
name_quick tw14022695629967993375 for Mine.Blank by Mine.blank_eq
name_quick tw2400638427578300857 for Mine.Blank by Mine.blank_eq
name_quick tw6798380500665416597 for Mine.Blank by Mine.blank_eq
name_quick tw13135312941875745310 for Mine.Blank by Mine.blank_eq
name_quick tw2144661209622563809 for Mine.Blank by Mine.blank_eq
name_quick tw447263597446747957 for Mine.Blank by Mine.blank_eq
name_quick tw11161164713144168021 for Mine.Blank by Mine.blank_eq
name_quick tw17464319187374939960 for Mine.Blank by Mine.blank_eq
name_quick tw9972681490609642005 for Mine.Blank by Mine.blank_eq
name_quick tw7086961617601330827 for Mine.Blank by Mine.blank_eq
name_quick tw861502493610598483 for Mine.Blank by Mine.blank_eq
name_quick tw17062427158221528723 for Mine.Blank by Mine.blank_eq
name_quick tw140236481695663071 for Mine.Blank by Mine.blank_eq
name_quick tw13757698761724263525 for Mine.Blank by Mine.blank_eq
name_quick tw16729077633258034165 for Mine.Blank by Mine.blank_eq
name_quick tw2314633323536394700 for Mine.Blank by Mine.blank_eq
name_quick tw5459702643516471331 for Mine.Blank by Mine.blank_eq
name_quick tw17318462890700432884 for Mine.Blank by Mine.blank_eq
name_quick tw14387916025512776202 for Mine.Blank by Mine.blank_eq
name_quick tw7164969610272591079 for Mine.Blank by Mine.blank_eq
name_quick tw1717767836212652739 for Mine.Blank by Mine.blank_eq
name_quick tw16140922888777852060 for Mine.Blank by Mine.blank_eq
name_quick tw896239598344801917 for Mine.Blank by Mine.blank_eq
name_quick tw10698057553749749337 for Mine.Blank by Mine.blank_eq
name_quick tw2261719852989239553 for Mine.Blank by Mine.blank_eq
name_quick tw3042748168174471775 for Mine.Blank by Mine.blank_eq
name_quick tw5344687154915797982 for Mine.Blank by Mine.blank_eq
name_quick tw140001813534094272 for Mine.Blank by Mine.blank_eq
name_quick tw726351398001015727 for Mine.Blank by Mine.blank_eq
name_quick tw12652081859355081885 for Mine.Blank by Mine.blank_eq
name_quick tw5721168408972991864 for Mine.Blank by Mine.blank_eq
name_quick tw13622603851894308203 for Mine.Blank by Mine.blank_eq
name_quick tw16919654943277366748 for Mine.Blank by Mine.blank_eq
name_quick tw5498123283257192965 for Mine.Blank by Mine.blank_eq
name_quick tw16108870410212019532 for Mine.Blank by Mine.blank_eq
name_quick tw2950685276103557050 for Mine.Blank by Mine.blank_eq
name_quick tw10374632558016547081 for Mine.Blank by Mine.blank_eq
name_quick tw17351735930882485243 for Mine.Blank by Mine.blank_eq
name_quick tw8157277791214410489 for Mine.Blank by Mine.blank_eq
name_quick tw11066385474520676512 for Mine.Blank by Mine.blank_eq
name_quick tw126342902990734186 for Mine.Blank by Mine.blank_eq
name_quick tw4490611911172417597 for Mine.Blank by Mine.blank_eq
name_quick tw17292613610259460706 for Mine.Blank by Mine.blank_eq
name_quick tw1383625962624193546 for Mine.Blank by Mine.blank_eq
name_quick tw4321966507151631593 for Mine.Blank by Mine.blank_eq
name_quick tw6105849179199505303 for Mine.Blank by Mine.blank_eq
name_quick tw14664691819916384248 for Mine.Blank by Mine.blank_eq
name_quick tw1708089923452030704 for Mine.Blank by Mine.blank_eq
name_quick tw15925456577456769635 for Mine.Blank by Mine.blank_eq
name_quick tw4548300405975405348 for Mine.Blank by Mine.blank_eq
name_quick tw16298917771340976007 for Mine.Blank by Mine.blank_eq
name_quick tw5217270863462422736 for Mine.Blank by Mine.blank_eq
name_quick tw3300454383303005205 for Mine.Blank by Mine.blank_eq
name_quick tw11421057715548341654 for Mine.Blank by Mine.blank_eq
name_quick tw7322748291113730364 for Mine.Blank by Mine.blank_eq
name_quick tw6469784823511061222 for Mine.Blank by Mine.blank_eq
name_quick tw13855379610559885079 for Mine.Blank by Mine.blank_eq
name_quick tw14703100239697439463 for Mine.Blank by Mine.blank_eq
name_quick tw6858818405166986180 for Mine.Blank by Mine.blank_eq
name_quick tw17518593693041627797 for Mine.Blank by Mine.blank_eq
name_quick tw5622701340561072331 for Mine.Blank by Mine.blank_eq
name_quick tw8760152093665844161 for Mine.Blank by Mine.blank_eq
name_quick tw2941924889016668590 for Mine.Blank by Mine.blank_eq
name_quick tw28018229315631829 for Mine.Blank by Mine.blank_eq
name_quick tw9796564346219866840 for Mine.Blank by Mine.blank_eq
name_quick tw18157406047293677543 for Mine.Blank by Mine.blank_eq
name_quick tw10910644110388302437 for Mine.Blank by Mine.blank_eq
name_quick tw15685335758407661847 for Mine.Blank by Mine.blank_eq
name_quick tw5101696844757716304 for Mine.Blank by Mine.blank_eq
name_quick tw13810262117814702294 for Mine.Blank by Mine.blank_eq
name_quick tw2789304352393801511 for Mine.Blank by Mine.blank_eq
name_quick tw11766667032028208565 for Mine.Blank by Mine.blank_eq
name_quick tw1725486776273817318 for Mine.Blank by Mine.blank_eq
name_quick tw8480184845173159842 for Mine.Blank by Mine.blank_eq
name_quick tw3721919958574915784 for Mine.Blank by Mine.blank_eq
name_quick tw9848817304349107530 for Mine.Blank by Mine.blank_eq
name_quick tw4884199854448574 for Mine.Blank by Mine.blank_eq
name_quick tw15438627641174518403 for Mine.Blank by Mine.blank_eq
name_quick tw5994696166404524948 for Mine.Blank by Mine.blank_eq
name_quick tw9116068151291705539 for Mine.Blank by Mine.blank_eq
name_quick tw14842496431369740429 for Mine.Blank by Mine.blank_eq
name_quick tw15401437161963490237 for Mine.Blank by Mine.blank_eq
name_quick tw17483705464198625004 for Mine.Blank by Mine.blank_eq
name_quick tw4804111812005502284 for Mine.Blank by Mine.blank_eq
name_quick tw1205274952441263945 for Mine.Blank by Mine.blank_eq
name_quick tw16682895059504647277 for Mine.Blank by Mine.blank_eq
name_quick tw12727641955093265886 for Mine.Blank by Mine.blank_eq
name_quick tw13953587524928339648 for Mine.Blank by Mine.blank_eq
name_quick tw17963105932079019327 for Mine.Blank by Mine.blank_eq
name_quick tw2353497105660221152 for Mine.Blank by Mine.blank_eq
name_quick tw17760279517084355780 for Mine.Blank by Mine.blank_eq
name_quick tw15433366417846715934 for Mine.Blank by Mine.blank_eq
name_quick tw1972164579936704799 for Mine.Blank by Mine.blank_eq
name_quick tw9919008367099125623 for Mine.Blank by Mine.blank_eq
name_quick tw2646887283097553488 for Mine.Blank by Mine.blank_eq
name_quick tw14172470266813156586 for Mine.Blank by Mine.blank_eq
name_quick tw9879335643197240621 for Mine.Blank by Mine.blank_eq
name_quick tw15173544498738437827 for Mine.Blank by Mine.blank_eq
name_quick tw16120054744476736488 for Mine.Blank by Mine.blank_eq
name_quick tw6968137755033780318 for Mine.Blank by Mine.blank_eq
name_quick tw12382822922155266910 for Mine.Blank by Mine.blank_eq
name_quick tw4906484309439969231 for Mine.Blank by Mine.blank_eq
name_quick tw3419001889969749887 for Mine.Blank by Mine.blank_eq
name_quick tw4699756791338806529 for Mine.Blank by Mine.blank_eq
name_quick tw443766864951011646 for Mine.Blank by Mine.blank_eq
name_quick tw643336161829623379 for Mine.Blank by Mine.blank_eq
name_quick tw4436474186459923750 for Mine.Blank by Mine.blank_eq
name_quick tw9137623295666814452 for Mine.Blank by Mine.blank_eq
name_quick tw4171853373547519906 for Mine.Blank by Mine.blank_eq
name_quick tw4953865588907285216 for Mine.Blank by Mine.blank_eq
name_quick tw5702276774652866934 for Mine.Blank by Mine.blank_eq
name_quick tw10519837036962490867 for Mine.Blank by Mine.blank_eq
name_quick tw3382625519597670723 for Mine.Blank by Mine.blank_eq
name_quick tw938635154573522699 for Mine.Blank by Mine.blank_eq
name_quick tw9495317472360511255 for Mine.Blank by Mine.blank_eq
name_quick tw15539815450414544023 for Mine.Blank by Mine.blank_eq
name_quick tw17013487888433625170 for Mine.Blank by Mine.blank_eq
name_quick tw7774113678449685934 for Mine.Blank by Mine.blank_eq
name_quick tw5362036446546632119 for Mine.Blank by Mine.blank_eq
name_quick tw8285278889055680438 for Mine.Blank by Mine.blank_eq
name_quick tw15469066318462344783 for Mine.Blank by Mine.blank_eq
name_quick tw10879749546641988924 for Mine.Blank by Mine.blank_eq
name_quick tw18418582437962087742 for Mine.Blank by Mine.blank_eq
name_quick tw8422229294311615681 for Mine.Blank by Mine.blank_eq
name_quick tw4096438862311573950 for Mine.Blank by Mine.blank_eq
name_quick tw6036195411386958342 for Mine.Blank by Mine.blank_eq
name_quick tw6229817132586351632 for Mine.Blank by Mine.blank_eq
name_quick tw523537741815420091 for Mine.Blank by Mine.blank_eq
name_quick tw10876078143196172821 for Mine.Blank by Mine.blank_eq
name_quick tw2455152089536381482 for Mine.Blank by Mine.blank_eq
name_quick tw17817366049700826239 for Mine.Blank by Mine.blank_eq
name_quick tw12431713363859531893 for Mine.Blank by Mine.blank_eq
name_quick tw5072417060200589145 for Mine.Blank by Mine.blank_eq
name_quick tw14760874974797668852 for Mine.Blank by Mine.blank_eq
name_quick tw7480016910919988345 for Mine.Blank by Mine.blank_eq
name_quick tw5002640475654186023 for Mine.Blank by Mine.blank_eq
name_quick tw1070438729232803039 for Mine.Blank by Mine.blank_eq
name_quick tw15127105006835628225 for Mine.Blank by Mine.blank_eq
name_quick tw11266997524610791606 for Mine.Blank by Mine.blank_eq
name_quick tw6356304189028158447 for Mine.Blank by Mine.blank_eq
name_quick tw9977182230042388008 for Mine.Blank by Mine.blank_eq
name_quick tw5094820788120690377 for Mine.Blank by Mine.blank_eq
name_quick tw4039707410889071942 for Mine.Blank by Mine.blank_eq
name_quick tw11373181179767321252 for Mine.Blank by Mine.blank_eq
name_quick tw5449601097390414333 for Mine.Blank by Mine.blank_eq
name_quick tw15779231459743154856 for Mine.Blank by Mine.blank_eq
name_quick tw15402603294489630176 for Mine.Blank by Mine.blank_eq
name_quick tw2496362408549399009 for Mine.Blank by Mine.blank_eq
name_quick tw772564365185477556 for Mine.Blank by Mine.blank_eq
name_quick tw10295913840692754127 for Mine.Blank by Mine.blank_eq
name_quick tw14827714588952709054 for Mine.Blank by Mine.blank_eq
name_quick tw4849480874435393781 for Mine.Blank by Mine.blank_eq
name_quick tw1840220198017710270 for Mine.Blank by Mine.blank_eq
name_quick tw13055953723892786844 for Mine.Blank by Mine.blank_eq
name_quick tw18146532975450069615 for Mine.Blank by Mine.blank_eq
name_quick tw9456574344343218679 for Mine.Blank by Mine.blank_eq
name_quick tw7424060955962978353 for Mine.Blank by Mine.blank_eq
name_quick tw15227483606004533461 for Mine.Blank by Mine.blank_eq
name_quick tw2692750590507578028 for Mine.Blank by Mine.blank_eq
name_quick tw2492000799826889573 for Mine.Blank by Mine.blank_eq
name_quick tw8949853181751564097 for Mine.Blank by Mine.blank_eq
name_quick tw209982475168477708 for Mine.Blank by Mine.blank_eq
name_quick tw10792498714594961201 for Mine.Blank by Mine.blank_eq
name_quick tw9615563845995560447 for Mine.Blank by Mine.blank_eq
name_quick tw740290905518256060 for Mine.Blank by Mine.blank_eq
name_quick tw4547051000311932777 for Mine.Blank by Mine.blank_eq
name_quick tw13053770412826190925 for Mine.Blank by Mine.blank_eq
name_quick tw16670775579421159206 for Mine.Blank by Mine.blank_eq
name_quick tw13674586047789940208 for Mine.Blank by Mine.blank_eq
name_quick tw12770481643036789091 for Mine.Blank by Mine.blank_eq
name_quick tw6549852094080907030 for Mine.Blank by Mine.blank_eq
name_quick tw3239113980409921550 for Mine.Blank by Mine.blank_eq
name_quick tw11429584451438056573 for Mine.Blank by Mine.blank_eq
name_quick tw3606636064424874999 for Mine.Blank by Mine.blank_eq
name_quick tw9860861378791804195 for Mine.Blank by Mine.blank_eq
name_quick tw5667099127317398114 for Mine.Blank by Mine.blank_eq
name_quick tw8997383693586321770 for Mine.Blank by Mine.blank_eq
name_quick tw12772213712371865176 for Mine.Blank by Mine.blank_eq
name_quick tw3270257207059953099 for Mine.Blank by Mine.blank_eq
section
open PySem PySem.W PyProof.Rows
open_top hd for PySem.Challenge.rw_pf0123_01
end

namespace Mine
open PySem PySem.W PyProof.Rows PySem.Calls

/-! pure values -/
inductive Sc where
  | none
  | bool (b : Bool)
  | int (i : Int)
  | str (x : Str)
  | tup (l : List Sc)
  | any

inductive PV where
  | sc (v : Sc)
  | lst (l : List Sc)
  | lt (l : List Sc) (r : List Sc)
  | unb

inductive Rs (α : Type) where
  | ok (a : α)
  | exc (n : Int)
  | bad

noncomputable def Rs.bind {α β : Type} (r : Rs α) (f : α → Rs β) : Rs β := match r with
  | .ok a => f a
  | .exc n => .exc n
  | .bad => .bad

inductive SR where
  | next (σ : List PV)
  | cont (σ : List PV)
  | ret (v : PV)
  | exc (n : Int)
  | bad

mutual
noncomputable def RepS (h : Heap) : Sc → Value → Prop
  | .none, v => v = .none
  | .bool b, v => v = .bool b
  | .int i, v => ∃ t, v = .int i t
  | .str x, v => ∃ t, v = .str x t
  | .tup l, v => ∃ a vs, v = .ref a ∧ IsTup h a (List.toArray vs) ∧ RepSL h l vs
  | .any, _ => True
noncomputable def RepSL (h : Heap) : List Sc → List Value → Prop
  | [], vs => vs = []
  | p :: ps, vs => ∃ v r, vs = v :: r ∧ RepS h p v ∧ RepSL h ps r
end

noncomputable def RepP (hb h : Heap) : PV → Value → Prop
  | .sc p, v => RepS h p v
  | .lst l, v => ∃ a vs, v = .ref a ∧ h.PlainList a (List.toArray vs) ∧ RepSL h l vs ∧ hb.get? a = none
  | .lt l r, v => ∃ a v0 vr, v = .ref a ∧ IsTup h a (List.toArray (v0 :: vr)) ∧ (∃ a vs, v0 = .ref a ∧ h.PlainList a (List.toArray vs) ∧ RepSL h l vs ∧ hb.get? a = none) ∧ RepSL h r vr
  | .unb, _ => False

mutual
theorem RepS.keeps {h h' : Heap} (k : h.StaysIn h') : ∀ {p : Sc} {v : Value}, RepS h p v → RepS h' p v
  | .none, _, r => r
  | .bool _, _, r => r
  | .int _, _, r => r
  | .str _, _, r => r
  | .tup _, _, ⟨a, vs, e, t, r⟩ => ⟨a, vs, e, t.keeps k, RepSL.keeps k r⟩
  | .any, _, _ => trivial
theorem RepSL.keeps {h h' : Heap} (k : h.StaysIn h') : ∀ {p : List Sc} {v : List Value}, RepSL h p v → RepSL h' p v
  | [], _, r => r
  | _ :: _, _, ⟨v, r, e, a, b⟩ => ⟨v, r, e, RepS.keeps k a, RepSL.keeps k b⟩
end
theorem isList_keeps {h h' : Heap} (k : h.StaysIn h') {a : Addr} {its : Array Value} (x : h.PlainList a its) : h'.PlainList a its := let ⟨n, ho⟩ := x; ⟨n, k a _ ho⟩
theorem fresh_up {h h' : Heap} (k : h.StaysIn h') {a : Addr} (x : h'.get? a = none) : h.get? a = none := by
  cases q : h.get? a with
  | none => rfl
  | some o => have := k a o q; rw [x] at this; cases this
theorem RepP.keeps {hb hb' h h' : Heap} (kb : hb'.StaysIn hb) (k : h.StaysIn h') : ∀ {p : PV} {v : Value}, RepP hb h p v → RepP hb' h' p v
  | .sc _, _, r => RepS.keeps k r
  | .lst _, _, ⟨a, vs, e, t, r, f⟩ => ⟨a, vs, e, isList_keeps k t, RepSL.keeps k r, fresh_up kb f⟩
  | .lt _ _, _, ⟨a, v0, vr, e, t, ⟨b, vs, e2, t2, r2, f2⟩, r⟩ => ⟨a, v0, vr, e, t.keeps k, ⟨b, vs, e2, isList_keeps k t2, RepSL.keeps k r2, fresh_up kb f2⟩, RepSL.keeps k r⟩
theorem stays_refl (h : Heap) : h.StaysIn h := fun _ _ e => e
theorem stays_trans {a b c : Heap} (x : a.StaysIn b) (y : b.StaysIn c) : a.StaysIn c := fun p o e => y p o (x p o e)

/-! the fixed ground -/
structure Gx where
  prog : Program
  w : World
  K : Frag
  p : Program
  loose : List Str
  mg : Str → Option Value
  mb : Str → Option Value
  base : Heap
  C : Addr
  kin : K.In base
  top : TopRead p loose mg mb base

/-- an exception of ours on its way: fl = none (no traceback yet), some .none (in flight), some (rawInt L) (held in frame L) -/
noncomputable def FlyAt (G : Gx) (base : Heap) (l : List Env) (n : Int) (fl : Option Value) (e : Addr) (h : Heap) : Prop :=
  base.StaysIn h ∧ base.get? e = none ∧ h.FunFrames base l ∧ ∃ oe vs d m t, h.get? e = some oe ∧ oe.cls = .ref G.C ∧ oe.data = .fields vs ∧ 1 < vs.size ∧ oe.dict = some d ∧ h.Ns d m ∧ m "at" = some (.int n t) ∧
    match fl with
    | none => vs[1]? = some .none
    | some f => ∃ T oT ts, vs[1]? = some (.ref T) ∧ base.get? T = none ∧ T ≠ e ∧ h.get? T = some oT ∧ oT.data = .fields ts ∧ ts[3]? = some f

noncomputable def Room (A : Around) (k : Nat) : Prop := A.depth + k + 8 < recursionLimit ∧ A.units + 10 * k + 60 < cLine

noncomputable def PostV (G : Gx) (base : Heap) (l : List Env) (hb : Heap) (s : Shared) (r : Rs PV) (Q E : Value → Shared → Prop) : Prop := match r with
  | .ok p => ∀ v h' tk', s.heap.StaysIn h' → RepP hb h' p v → Q v { s with heap := h', toks := tk' }
  | .exc n => ∀ e h' tk', FlyAt G base l n (some .none) e h' → s.heap.UpToSlots h' → E (.ref e) { s with heap := h', toks := tk' }
  | .bad => False

noncomputable def Meets (G : Gx) (f : Addr) (k : Nat) (F : List Sc → Rs PV) : Prop :=
  ∀ (A : Around) (base : Heap) (outer : List Env) (s : Shared) (ps : List Sc) (vs : List Value) (Q E : Value → Shared → Prop),
    G.base.StaysIn base → Below A base outer s.heap → A.handled = none → Room A k → RepSL s.heap ps vs → PostV G base outer s.heap s (F ps) Q E → wpAny (model G.prog G.w) A (call (.ref f) vs) Q E s

structure Bx (G : Gx) where
  A0 : Around
  base : Heap
  outer : List Env
  h0 : Heap
  L : Addr
  f : Addr
  qual : Str
  scope : Scope
  cdv : Value
  nm : List Str
  k : Nat
  gb : G.base.StaysIn base
  bel : Below A0 base outer h0
  hh : A0.handled = none
  kind : scope.kind = .function
  room : Room A0 (k + 1)
  nodup : nm.Nodup
  locs : ∀ x ∈ nm, scope.names.lookup x = some .local ∧ (x == ("__debug__" : Str)) = false

variable {G : Gx} {b : Bx G}
noncomputable def Bx.env (b : Bx G) : Env := envOf b.qual b.scope b.L b.f b.cdv
noncomputable def Bx.A (b : Bx G) : Around := b.A0.deeper b.env
noncomputable def Bx.M (_b : Bx G) : Model := model G.prog G.w

structure St (b : Bx G) (h : Heap) (σ : List PV) : Prop where
  fr : ∃ m, Fr b.h0 b.L h m ∧ ∀ (i : Nat) (x : Str) (p : PV), b.nm[i]? = some x → σ[i]? = some p → (match p with | .unb => True | _ => ∃ v, m x = some v ∧ RepP b.h0 h p v)

theorem fr_up {h₀ h h' : Heap} {L : Addr} {m : Str → Option Value} (F : Fr h₀ L h m) (k : h.StaysIn h') : Fr h₀ L h' m :=
  ⟨let ⟨o, es, ep, ho, r⟩ := F.ns; ⟨o, es, ep, k _ _ ho, r⟩, fun a o e => k _ _ (F.keep a o e), F.above⟩
theorem St.keeps {h h' : Heap} {σ : List PV} (x : St b h σ) (k : h.StaysIn h') : St b h' σ := by
  obtain ⟨m, F, r⟩ := x.fr
  refine ⟨m, fr_up F k, fun i y p hi hp => ?_⟩
  have := r i y p hi hp
  cases p with
  | unb => trivial
  | sc _ | lst _ | lt _ _ => obtain ⟨v, e, q⟩ := this; exact ⟨v, e, q.keeps (stays_refl _) k⟩
theorem St.stays {h : Heap} {σ : List PV} (x : St b h σ) : b.h0.StaysIn h := let ⟨_, F, _⟩ := x.fr; F.keep
theorem St.below {h : Heap} {σ : List PV} (x : St b h σ) : Below b.A b.base (b.env :: b.outer) h := by
  obtain ⟨m, F, _⟩ := x.fr
  exact pushX b.bel F rfl b.kind
theorem St.kin {h : Heap} {σ : List PV} (x : St b h σ) : G.K.In h := G.kin.keeps (stays_trans b.gb (stays_trans b.bel.stays x.stays))
theorem handledA : b.A.handled = none := b.hh

/-! expressions -/
noncomputable def Ev (b : Bx G) (e : Expr) (r : List PV → Rs PV) : Prop :=
  ∀ (s : Shared) (σ : List PV) (Q E : Value → Shared → Prop), St b s.heap σ → PostV G b.base (b.env :: b.outer) b.h0 s (r σ) Q E → wpAny b.M b.A (eval e b.env) Q E s

noncomputable def PostT (G : Gx) (base : Heap) (l : List Env) (s : Shared) (r : Rs Bool) (Q : Bool → Shared → Prop) (E : Value → Shared → Prop) : Prop := match r with
  | .ok c => ∀ h' tk', s.heap.StaysIn h' → Q c { s with heap := h', toks := tk' }
  | .exc n => ∀ e h' tk', FlyAt G base l n (some .none) e h' → s.heap.UpToSlots h' → E (.ref e) { s with heap := h', toks := tk' }
  | .bad => False
noncomputable def Tr (b : Bx G) (e : Expr) (r : List PV → Rs Bool) : Prop :=
  ∀ (s : Shared) (σ : List PV) (Q : Bool → Shared → Prop) (E : Value → Shared → Prop), St b s.heap σ → PostT G b.base (b.env :: b.outer) s (r σ) Q E → wpAny b.M b.A (isTrue e b.env (eval e b.env)) Q E s

noncomputable def getL (i : Nat) (σ : List PV) : Rs PV := match σ[i]? with
  | some .unb => .bad
  | some p => .ok p
  | none => .bad

theorem Ev_loc {i : Nat} {x : Str} {pos : Pos} (hi : b.nm[i]? = some x) : Ev b (.Name x pos) (getL i) := by
  intro s σ Q E S P
  obtain ⟨m, F, r⟩ := S.fr
  have hl := b.locs x (List.mem_of_getElem? hi)
  cases hp : σ[i]? with
  | none => simp only [getL, hp, PostV] at P
  | some p =>
    have := r i x p hi hp
    cases p with
    | unb => simp only [getL, hp, PostV] at P
    | sc q | lst q | lt q q2 =>
      obtain ⟨v, e, q⟩ := this
      simp only [getL, hp, PostV] at P
      exact wpAny_Name (wpAny_loadName_local b.kind hl.1 F.ns e (P v s.heap s.toks (stays_refl _) q)) hl.2

theorem Ev_glb {x : Str} {pos : Pos} {v : Value} {q : Sc} (hv : nsIn G.K mainGlobals x = some (some v)) (hr : RepS G.base q v) (hx : b.scope.names.lookup x = some .globalImplicit) (hd : (x == ("__debug__" : Str)) = false := by decide) :
    Ev b (.Name x pos) (fun _ => .ok (.sc q)) := by
  intro s σ Q E S P
  obtain ⟨m, F, _⟩ := S.fr
  exact nameX_K (cl := []) F (G.kin.keeps (stays_trans b.gb b.bel.stays)) (G.top.keeps (stays_trans b.gb b.bel.stays)) hv (P v s.heap s.toks (stays_refl _) (hr.keeps (stays_trans b.gb (stays_trans b.bel.stays F.keep)))) b.kind hx hd

theorem Ev_none {k : Nat} {pos : Pos} : Ev b (.Constant .none k pos) (fun _ => .ok (.sc .none)) := by
  intro s σ Q E S P
  exact Constant_none (P _ s.heap s.toks (stays_refl _) rfl)
theorem Ev_bool {c : Bool} {k : Nat} {pos : Pos} : Ev b (.Constant (.bool c) k pos) (fun _ => .ok (.sc (.bool c))) := by
  intro s σ Q E S P
  exact Constant_bool (P _ s.heap s.toks (stays_refl _) rfl)
theorem Ev_int {c : Int} {k : Nat} {pos : Pos} : Ev b (.Constant (.int c) k pos) (fun _ => .ok (.sc (.int c))) := by
  intro s σ Q E S P
  exact wpAny_Constant_int (P _ s.heap _ (stays_refl _) ⟨_, rfl⟩)
theorem Ev_str {c : Str} {k : Nat} {pos : Pos} : Ev b (.Constant (.str c) k pos) (fun _ => .ok (.sc (.str c))) := by
  intro s σ Q E S P
  exact Constant_str (P _ s.heap _ (stays_refl _) ⟨_, rfl⟩)

theorem PostV.after {base hb : Heap} {l : List Env} {s : Shared} {r : Rs PV} {Q E : Value → Shared → Prop} {h' : Heap} {tk' : Nat} (k : s.heap.StaysIn h') (P : PostV G base l hb s r Q E) :
    PostV G base l hb { s with heap := h', toks := tk' } r Q E := by
  cases r with
  | bad => exact P
  | exc n => exact fun e h3 tk3 fl up => P e h3 tk3 fl ((Heap.UpToSlots.of_keeps k).trans up)
  | ok r => exact fun v3 h3 tk3 k3 r3 => P v3 h3 tk3 (stays_trans k k3) r3
theorem PostT.after {base : Heap} {l : List Env} {s : Shared} {r : Rs Bool} {Q : Bool → Shared → Prop} {E : Value → Shared → Prop} {h' : Heap} {tk' : Nat} (k : s.heap.StaysIn h') (P : PostT G base l s r Q E) :
    PostT G base l { s with heap := h', toks := tk' } r Q E := by
  cases r with
  | bad => exact P
  | exc n => exact fun e h3 tk3 fl up => P e h3 tk3 fl ((Heap.UpToSlots.of_keeps k).trans up)
  | ok r => exact fun h3 tk3 k3 => P h3 tk3 (stays_trans k k3)
theorem PostV.bind {base hb : Heap} {l : List Env} {s : Shared} {r : Rs PV} {f : PV → Rs PV} {Q E : Value → Shared → Prop} (P : PostV G base l hb s (r.bind f) Q E) :
    PostV G base l hb s r (fun v s' => ∀ p, r = .ok p → RepP hb s'.heap p v → s.heap.StaysIn s'.heap → PostV G base l hb s' (f p) Q E) E := by
  cases r with
  | bad => exact P
  | exc n => exact P
  | ok p =>
    intro v h' tk' k rv q e rq k'
    cases e
    exact PostV.after k P

/-- two expressions one behind the other -/
theorem Ev_two {x y : Expr} {rx ry : List PV → Rs PV} {s : Shared} {σ : List PV} {Q : Value → Shared → Prop} {E : Value → Shared → Prop} (hx : Ev b x rx) (hy : Ev b y ry) (S : St b s.heap σ)
    {f : PV → PV → Rs PV} {k : Value → Value → Shared → Prop} (P : PostV G b.base (b.env :: b.outer) b.h0 s ((rx σ).bind fun p => (ry σ).bind fun q => f p q) Q E)
    (hk : ∀ p q v u (s' : Shared), s.heap.StaysIn s'.heap → St b s'.heap σ → RepP b.h0 s'.heap p v → RepP b.h0 s'.heap q u → PostV G b.base (b.env :: b.outer) b.h0 s' (f p q) Q E → k v u s') :
    wpAny b.M b.A (eval x b.env) (fun v s₁ => wpAny b.M b.A (eval y b.env) (fun u s₂ => k v u s₂) E s₁) E s := by
  refine hx s σ _ _ S ?_
  cases hp : rx σ with
  | bad => simp only [hp, Rs.bind, PostV] at P
  | exc n => simpa only [hp, Rs.bind, PostV] using P
  | ok p =>
    simp only [hp, Rs.bind] at P
    intro v h' tk' kh rv
    refine hy _ σ _ _ (S.keeps kh) ?_
    cases hq : ry σ with
    | bad => simp only [hq, PostV] at P
    | exc n =>
      simp only [hq, PostV] at P
      intro e h'' tk'' fl up
      exact P e h'' tk'' fl ((Heap.UpToSlots.of_keeps kh).trans up)
    | ok q =>
      simp only [hq] at P
      intro u h'' tk'' kh' ru
      exact hk p q v u _ (stays_trans kh kh') ((S.keeps kh).keeps kh') (rv.keeps (stays_refl _) kh') ru (PostV.after (s := s) (stays_trans kh kh') P)

end Mine

namespace Mine
open PySem PySem.W PyProof.Rows PySem.Calls
variable {G : Gx} {b : Bx G}

inductive BOp where | add | sub | mul
noncomputable def BOp.op : BOp → Operator
  | .add => .Add
  | .sub => .Sub
  | .mul => .Mult
noncomputable def small (i : Int) : Bool := decide (-(2 ^ 62) < i ∧ i < 2 ^ 62)
noncomputable def binR : BOp → PV → PV → Rs PV
  | .add, .sc (.int i), .sc (.int j) => .ok (.sc (.int (i + j)))
  | .sub, .sc (.int i), .sc (.int j) => .ok (.sc (.int (i - j)))
  | .mul, .sc (.int i), .sc (.int j) => if small i then .ok (.sc (.int (i * j))) else .bad
  | .add, .sc (.str x), .sc (.str y) => if x.length + y.length ≤ sizeLine then .ok (.sc (.str (x ++ y))) else .bad
  | _, _, _ => .bad

theorem small_bits {i : Int} (h : small i = true) : Builtin.Int.intBits i ≤ 64 := by
  simp only [small, decide_eq_true_eq] at h
  exact intBits_le_64 (by omega) (by omega)

theorem bin_sound {op : BOp} {p q : PV} {v u : Value} {s : Shared} {Q E : Value → Shared → Prop} {l : List Env} {bs hb : Heap} {A : Around} (rv : RepP hb s.heap p v) (ru : RepP hb s.heap q u)
    (P : PostV G bs l hb s (binR op p q) Q E) : wpAny (model G.prog G.w) A (binaryOp op.op v u) Q E s := by
  unfold binR at P
  split at P
  · obtain ⟨t, rfl⟩ := rv; obtain ⟨t', rfl⟩ := ru
    exact add_int (P _ s.heap _ (stays_refl _) ⟨_, rfl⟩)
  · obtain ⟨t, rfl⟩ := rv; obtain ⟨t', rfl⟩ := ru
    exact PyProof.Rows.sub_int (P _ s.heap _ (stays_refl _) ⟨_, rfl⟩)
  · split at P
    · rename_i hs
      obtain ⟨t, rfl⟩ := rv; obtain ⟨t', rfl⟩ := ru
      exact PyProof.Rows.mul_int (P _ s.heap _ (stays_refl _) ⟨_, rfl⟩) (IntMulOk.of_left (small_bits hs))
    · exact P.elim
  · split at P
    · rename_i hs
      obtain ⟨t, rfl⟩ := rv; obtain ⟨t', rfl⟩ := ru
      exact PyProof.Rows.add_str (fun t' tk => P _ s.heap _ (stays_refl _) ⟨_, rfl⟩) hs
    · exact P.elim
  · exact P.elim

theorem Ev_bin (op : BOp) {x y : Expr} {pos : Pos} {rx ry : List PV → Rs PV} (hx : Ev b x rx) (hy : Ev b y ry) :
    Ev b (.BinOp x op.op y pos) (fun σ => (rx σ).bind fun p => (ry σ).bind fun q => binR op p q) := by
  intro s σ Q E S P
  exact wpAny_BinOp (Ev_two hx hy S P fun p q v u s' _ _ rv ru P => bin_sound rv ru P)
theorem Ev_add {x y : Expr} {pos : Pos} {rx ry : List PV → Rs PV} (hx : Ev b x rx) (hy : Ev b y ry) :
    Ev b (.BinOp x .Add y pos) (fun σ => (rx σ).bind fun p => (ry σ).bind fun q => binR .add p q) := Ev_bin .add hx hy
theorem Ev_sub {x y : Expr} {pos : Pos} {rx ry : List PV → Rs PV} (hx : Ev b x rx) (hy : Ev b y ry) :
    Ev b (.BinOp x .Sub y pos) (fun σ => (rx σ).bind fun p => (ry σ).bind fun q => binR .sub p q) := Ev_bin .sub hx hy
theorem Ev_mul {x y : Expr} {pos : Pos} {rx ry : List PV → Rs PV} (hx : Ev b x rx) (hy : Ev b y ry) :
    Ev b (.BinOp x .Mult y pos) (fun σ => (rx σ).bind fun p => (ry σ).bind fun q => binR .mul p q) := Ev_bin .mul hx hy

/-- one expression, then a step -/
theorem Ev_one {x : Expr} {rx : List PV → Rs PV} {s : Shared} {σ : List PV} {Q : Value → Shared → Prop} {E : Value → Shared → Prop} (hx : Ev b x rx) (S : St b s.heap σ)
    {f : PV → Rs PV} {k : Value → Shared → Prop} (P : PostV G b.base (b.env :: b.outer) b.h0 s ((rx σ).bind f) Q E)
    (hk : ∀ p v (s' : Shared), s.heap.StaysIn s'.heap → St b s'.heap σ → RepP b.h0 s'.heap p v → PostV G b.base (b.env :: b.outer) b.h0 s' (f p) Q E → k v s') :
    wpAny b.M b.A (eval x b.env) (fun v s₁ => k v s₁) E s := by
  refine hx s σ _ _ S ?_
  cases hp : rx σ with
  | bad => simp only [hp, Rs.bind, PostV] at P
  | exc n => simpa only [hp, Rs.bind, PostV] using P
  | ok p =>
    simp only [hp, Rs.bind] at P
    intro v h' tk' kh rv
    exact hk p v _ kh (S.keeps kh) rv (P.after kh)

noncomputable def negR : PV → Rs PV
  | .sc (.int i) => .ok (.sc (.int (-i)))
  | _ => .bad
theorem Ev_neg {x : Expr} {pos : Pos} {rx : List PV → Rs PV} (hx : Ev b x rx) : Ev b (.UnaryOp .USub x pos) (fun σ => (rx σ).bind negR) := by
  intro s σ Q E S P
  refine UnaryOp_ (Ev_one hx S P fun p v s' _ _ rv P => ?_)
  unfold negR at P
  split at P
  · obtain ⟨t, rfl⟩ := rv
    exact neg_int (P _ s'.heap _ (stays_refl _) ⟨_, rfl⟩)
  · exact P.elim

/-! built-in functions of one text -/
noncomputable def lenR : PV → Rs PV
  | .sc (.str x) => if x.length ≤ sizeLine then .ok (.sc (.int x.length)) else .bad
  | _ => .bad
noncomputable def ordR : PV → Rs PV
  | .sc (.str x) => if x.length = 1 then .ok (.sc (.int ((x.cps.getD 0 0 : Nat) : Int))) else .bad
  | _ => .bad

theorem callB {pos : Pos} {id : String} {e : Expr} {rest : List Expr} {s : Shared} {Q E : Value → Shared → Prop} {A : Around} {M : Model} {env : Env}
    (h : wpAny M A (spliced (backTo pos (starEach (e :: rest) env))) (fun vs s₁ => wpAny M A (call (.builtin id) vs) Q E s₁) E s)
    (he : starEach (e :: rest) env = (false, eval e env) :: starEach rest env) (hp : (backTo pos (starEach rest env)).any (·.1) = false) :
    wpAny M A (callWith pos (.builtin id) [] (backTo pos (starEach (e :: rest) env)) []) Q E s := PyProof.Rows.callWith_builtin1 h he hp

noncomputable def notStar : Expr → Bool
  | .Starred _ _ => false
  | _ => true
theorem star_one {e : Expr} {rest : List Expr} {env : Env} (h : notStar e = true) : starEach (e :: rest) env = (false, eval e env) :: starEach rest env := by
  cases e <;> first | rfl | cases h
theorem backTo_plain {pos : Pos} {env : Env} : ∀ {es : List Expr}, es.all notStar = true → (backTo pos (starEach es env)).any (·.1) = false
  | [], _ => rfl
  | e :: r, h => by
    simp only [List.all_cons, Bool.and_eq_true] at h
    rw [star_one h.1]
    show (false || (backTo pos (starEach r env)).any (·.1)) = false
    rw [backTo_plain h.2]; rfl

theorem Ev_builtinName {x : Str} {id : String} {pos : Pos} {s : Shared} {σ : List PV} {Q E : Value → Shared → Prop} (S : St b s.heap σ) (hv : nsIn G.K mainGlobals x = some none) (hb : bootBuiltins x = some (.builtin id)) (hn : x ≠ ("__name__" : Str))
    (hx : b.scope.names.lookup x = some .globalImplicit) (hd : (x == ("__debug__" : Str)) = false) (h : Q (.builtin id) s) : wpAny b.M b.A (eval (.Name x pos) b.env) Q E s := by
  obtain ⟨m, F, _⟩ := S.fr
  exact nameX_B (cl := []) F (G.kin.keeps (stays_trans b.gb b.bel.stays)) (G.top.keeps (stays_trans b.gb b.bel.stays)) hv hb hn h b.kind hx hd

theorem Ev_call1 {x : Str} {id : String} {np pos : Pos} {e : Expr} {re : List PV → Rs PV} {f : PV → Rs PV} (he : Ev b e re) (hv : nsIn G.K mainGlobals x = some none) (hb : bootBuiltins x = some (.builtin id)) (hn : x ≠ ("__name__" : Str))
    (hx : b.scope.names.lookup x = some .globalImplicit) (hd : (x == ("__debug__" : Str)) = false) (hs : notStar e = true)
    (hk : ∀ p v (s' : Shared) (Q E : Value → Shared → Prop), St b s'.heap [] → RepP b.h0 s'.heap p v → PostV G b.base (b.env :: b.outer) b.h0 s' (f p) Q E → wpAny b.M b.A (call (.builtin id) [v]) Q E s') :
    Ev b (.Call (.Name x np) [e] [] pos) (fun σ => (re σ).bind f) := by
  intro s σ Q E S P
  refine Call_ (Ev_builtinName S hv hb hn hx hd ?_) rfl
  refine callB ?_ (star_one hs) (backTo_plain rfl)
  refine args_cons ?_ (star_one hs)
  have hst : ∀ {h : Heap}, St b h σ → St b h [] := fun ⟨m, F, _⟩ => ⟨m, F, fun i x p _ h => by simp at h⟩
  refine Ev_one he S P fun p v s' _ S' rv P => args_nil (hk p v s' Q E (hst S') rv P)

theorem Ev_len {np pos : Pos} {e : Expr} {re : List PV → Rs PV} (he : Ev b e re) (hv : nsIn G.K mainGlobals "len" = some none) (hb : bootBuiltins "len" = some (.builtin "len")) (hx : b.scope.names.lookup ("len" : Str) = some .globalImplicit) (hs : notStar e = true) :
    Ev b (.Call (.Name "len" np) [e] [] pos) (fun σ => (re σ).bind lenR) := by
  refine Ev_call1 he hv hb (by decide) hx (by decide) hs fun p v s' Q E S rv P => ?_
  unfold lenR at P
  split at P
  · split at P
    · rename_i x hl
      obtain ⟨t, rfl⟩ := rv
      exact PyProof.Rows.len_str (by rw [sizeLine_eq] at hl; omega) (P _ s'.heap _ (stays_refl _) ⟨_, rfl⟩)
    · exact P.elim
  · exact P.elim
theorem Ev_ord {np pos : Pos} {e : Expr} {re : List PV → Rs PV} (he : Ev b e re) (hv : nsIn G.K mainGlobals "ord" = some none) (hb : bootBuiltins "ord" = some (.builtin "ord")) (hx : b.scope.names.lookup ("ord" : Str) = some .globalImplicit) (hs : notStar e = true) :
    Ev b (.Call (.Name "ord" np) [e] [] pos) (fun σ => (re σ).bind ordR) := by
  refine Ev_call1 he hv hb (by decide) hx (by decide) hs fun p v s' Q E S rv P => ?_
  unfold ordR at P
  split at P
  · split at P
    · rename_i x hl
      obtain ⟨t, rfl⟩ := rv
      exact ord_of_one hl (P _ s'.heap _ (stays_refl _) ⟨_, rfl⟩)
    · exact P.elim
  · exact P.elim

end Mine

namespace Mine
open PySem PySem.W PyProof.Rows PySem.Calls
variable {G : Gx} {b : Bx G}

noncomputable def maxR : PV → PV → Rs PV
  | .sc (.int i), .sc (.int j) => .ok (.sc (.int (if j > i then j else i)))
  | _, _ => .bad
theorem Ev_max {np pos : Pos} {x y : Expr} {rx ry : List PV → Rs PV} (hx : Ev b x rx) (hy : Ev b y ry) (hv : nsIn G.K mainGlobals "max" = some none) (hb : bootBuiltins "max" = some (.builtin "max"))
    (hn : b.scope.names.lookup ("max" : Str) = some .globalImplicit) (hs : notStar x = true) (hs' : notStar y = true) :
    Ev b (.Call (.Name "max" np) [x, y] [] pos) (fun σ => (rx σ).bind fun p => (ry σ).bind fun q => maxR p q) := by
  intro s σ Q E S P
  refine Call_ (Ev_builtinName S hv hb (by decide) hn (by decide) ?_) rfl
  refine callB ?_ (star_one hs) (backTo_plain (by simp [hs']))
  refine args_cons ?_ (star_one hs)
  refine wpAny_mono (Ev_two (k := fun v u s' => wpAny b.M b.A (call (.builtin "max") [v, u]) Q E s') hx hy S P fun p q v u s' _ S' rv ru P => ?_) (fun v s' h => args_cons (wpAny_mono h (fun u s₂ h₂ => args_nil h₂) fun _ _ h => h) (star_one hs')) fun _ _ h => h
  unfold maxR at P
  split at P
  · rename_i i j
    obtain ⟨t, rfl⟩ := rv; obtain ⟨t', rfl⟩ := ru
    refine max_two_ints handledA fun h' tk k => ?_
    split
    · rename_i c; rw [if_pos c] at P; exact P _ h' tk k ⟨_, rfl⟩
    · rename_i c; rw [if_neg c] at P; exact P _ h' tk k ⟨_, rfl⟩
  · exact P.elim

/-- the callee of `NAME.meth(e)` -/
theorem method1 {x : Str} {name : Str} {np ap pos : Pos} {e : Expr} {s : Shared} {Q E : Value → Shared → Prop} {M : Model} {A : Around} {env : Env} (hs : notStar e = true) (hl : (ap.endLine == pos.line) = true)
    (h : wpAny M A (eval (.Name x np) env) (fun ov s₁ => ∀ pl, wpAny M A (getMethod ov name pl) (fun fx s₂ => wpAny M A (callWith pos fx.1 fx.2 (backTo pos (starEach [e] env)) []) Q E s₂) E s₁) E s) :
    wpAny M A (eval (.Call (.Attribute (.Name x np) name ap) [e] [] pos) env) Q E s := by
  have e1 : eval (.Call (.Attribute (.Name x np) name ap) [e] [] pos) env = (do
      let ov ← eval (.Name x np) env
      standAt ap.atName
      methodCall (.Name x np) name ap pos env ov 1 (backTo pos (starEach [e] env)) []) := rfl
  rw [e1]
  refine wpAny_bind (wpAny_mono h (fun ov s₁ h₁ => wpAny_bind (wpAny_standAt ?_)) fun _ _ h => h)
  have hf : methodCallForm 1 (backTo pos (starEach [e] env)) [] = true := by
    unfold methodCallForm
    rw [star_one hs]
    rfl
  unfold methodCall
  rw [hf]
  refine wpAny_bind (wpAny_holding ?_)
  unfold calleeOf
  rw [if_pos rfl]
  refine wpAny_mono (h₁ _) (fun fx s₂ h₂ => ?_) fun _ _ h => h
  unfold methodCallPos
  rw [hl]
  exact wpAny_bind (wpAny_pure h₂)

noncomputable def findR (x : Str) : PV → Rs PV
  | .sc (.str y) => .ok (.sc (.int (Txt.find x y)))
  | _ => .bad
/-- TEXT.find(e) -/
theorem Ev_find {x z : Str} {np ap pos : Pos} {e : Expr} {re : List PV → Rs PV} (ho : Ev b (.Name x np) (fun _ => .ok (.sc (.str z)))) (he : Ev b e re) (hs : notStar e = true) (hl : (ap.endLine == pos.line) = true) :
    Ev b (.Call (.Attribute (.Name x np) "find" ap) [e] [] pos) (fun σ => (re σ).bind (findR z)) := by
  intro s σ Q E S P
  refine method1 hs hl ?_
  refine ho s σ _ _ S ?_
  intro v h' tk' kh rv pl
  obtain ⟨t, rfl⟩ := rv
  refine GM.find ?_
  refine callWith_method1 ?_ (star_one hs) rfl
  refine args_cons ?_ (star_one hs)
  refine Ev_one he (S.keeps kh) (P.after kh) fun q u s' _ S' ru P => args_nil ?_
  unfold findR at P
  split at P
  · obtain ⟨t', rfl⟩ := ru
    exact SC.find (P _ s'.heap _ (stays_refl _) ⟨_, rfl⟩)
  · exact P.elim

/-! items and slices -/
noncomputable def notSlice : Expr → Bool
  | .Slice _ _ _ _ => false
  | _ => true
theorem sub_plain {e : Expr} (h : notSlice e = true) (o i : Value) : subscripted e false o i = operate [o, i] (getItem o i) := by
  cases e <;> first | rfl | cases h
noncomputable def idxR : PV → PV → Rs PV
  | .sc (.str x), .sc (.int i) => if 0 ≤ i ∧ i < x.length ∧ x.length ≤ sizeLine then .ok (.sc (.str (Txt.item x i))) else .bad
  | .sc (.tup l), .sc (.int i) => if 0 ≤ i ∧ i < 2 ^ 62 then (match l[i.toNat]? with | some p => .ok (.sc p) | none => .bad) else .bad
  | .lst l, .sc (.int i) => if i = -1 ∧ l.length ≤ sizeLine then (match l.getLast? with | some p => .ok (.sc p) | none => .bad) else .bad
  | _, _ => .bad

theorem repSL_length {h : Heap} : ∀ {l : List Sc} {vs : List Value}, RepSL h l vs → vs.length = l.length
  | [], _, e => by cases e; rfl
  | _ :: _, _, ⟨_, _, e, _, r⟩ => by subst e; rw [List.length_cons, List.length_cons, repSL_length r]
theorem repSL_get {h : Heap} : ∀ {l : List Sc} {vs : List Value} {i : Nat} {p : Sc}, RepSL h l vs → l[i]? = some p → ∃ v, vs[i]? = some v ∧ RepS h p v
  | [], _, _, _, _, e => by simp at e
  | q :: ps, _, 0, p, ⟨v, r, e, a, _⟩, e' => by subst e; simp at e'; subst e'; exact ⟨v, by simp, a⟩
  | q :: ps, _, i + 1, p, ⟨v, r, e, _, b⟩, e' => by subst e; simp at e' ⊢; exact repSL_get b e'

theorem fits_ssize {i : Int} (h0 : -(2 ^ 63) ≤ i) (h1 : i < 2 ^ 63) : fitsSsize i = true := by
  unfold fitsSsize
  first | (simp only [decide_eq_true_eq, Bool.and_eq_true]; omega) | (simp; omega)
theorem seqIdx {i : Int} {n : Nat} (h0 : 0 ≤ i) (h1 : i.toNat < n) : seqIndex? i n = some i.toNat := by
  unfold seqIndex?
  have h : ¬ i < 0 := by omega
  simp only [h, if_false]
  rw [if_pos (by simp only [Bool.and_eq_true, decide_eq_true_eq]; omega)]
theorem tailN {x : Str} {np : Pos} {slice : Expr} {o i : Value} {ops : List Value} {T id : String} {s : Shared} {Q E : Value → Shared → Prop} {M : Model} {A : Around} (hT : s.TypeIs o T)
    (hl : typeLookup (.type T) "__getitem__" = pure (some (.builtin id))) (hg : wpAny M A (getItem o i) Q E s)
    (hs : subscripted slice false o i = operate ops (getItem o i)) : wpAny M A (subscriptTail (.Name x np) slice o i) Q E s :=
  tail_of_ItemOn ⟨T, id, hl, hT, hg⟩ hs (fun _ => rfl)

theorem Ev_idx {x : Str} {np pos : Pos} {e : Expr} {ro re : List PV → Rs PV} (ho : Ev b (.Name x np) ro) (he : Ev b e re) (hn : notSlice e = true) :
    Ev b (.Subscript (.Name x np) e pos) (fun σ => (ro σ).bind fun p => (re σ).bind fun q => idxR p q) := by
  intro s σ Q E S P
  refine Subscript_ (Ev_two ho he S P fun p q v u s' _ S' rv ru P => ?_)
  unfold idxR at P
  split at P
  · split at P
    · rename_i z i hc
      obtain ⟨t, rfl⟩ := rv; obtain ⟨t', rfl⟩ := ru
      have hsz := hc.2.2
      rw [sizeLine_eq] at hsz
      refine item_str (fits_ssize (by omega) (by omega)) (by omega) hc.2.1 (fun _ => P _ s'.heap _ (stays_refl _) ⟨_, rfl⟩) (sub_plain hn _ _) fun _ => rfl
    · exact P.elim
  · split at P
    · rename_i l i hc
      split at P
      · rename_i p hp
        obtain ⟨a, vs, rfl, ht, rl⟩ := rv; obtain ⟨t', rfl⟩ := ru
        obtain ⟨w, hw, rw'⟩ := repSL_get rl hp
        have hlt : i.toNat < vs.length := (List.getElem?_eq_some_iff.mp hw).1
        refine tailN ht.typeIs slot_tuple_getitem.lookup (getItem_tuple (j := i.toNat) ht (by omega) (by omega) ?_ (by simpa using hw) (P _ s'.heap s'.toks (stays_refl _) rw')) (sub_plain hn _ _)
        exact seqIdx hc.1 (by simpa using hlt)
      · exact P.elim
    · exact P.elim
  · split at P
    · rename_i l i hc
      split at P
      · rename_i p hp
        obtain ⟨a, vs, rfl, ht, rl, _⟩ := rv; obtain ⟨t', rfl⟩ := ru
        obtain ⟨rfl, _⟩ := hc
        have hlen := repSL_length rl
        have hne : l ≠ [] := fun q => by subst q; simp at hp
        have hpos : 0 < l.length := List.length_pos_iff.mpr hne
        have hp' : l[l.length - 1]? = some p := by rw [← List.getLast?_eq_getElem?]; exact hp
        obtain ⟨w, hw, rw'⟩ := repSL_get rl hp'
        refine tailN ht.isList.typeIs slot_list_getitem.lookup (wpAny_getItem_list_neg ht.isList (by decide) (by rw [List.size_toArray]; omega) (by decide) ?_ (P _ s'.heap s'.toks (stays_refl _) rw')) (sub_plain hn _ _)
        rw [List.size_toArray, hlen]
        have : (-1 + (l.length : Int)).toNat = l.length - 1 := by omega
        rw [this]
        simpa using hw
      · exact P.elim
    · exact P.elim
  · exact P.elim

theorem Ev_three {x y z : Expr} {rx ry rz : List PV → Rs PV} {s : Shared} {σ : List PV} {Q : Value → Shared → Prop} {E : Value → Shared → Prop} (hx : Ev b x rx) (hy : Ev b y ry) (hz : Ev b z rz) (S : St b s.heap σ)
    {f : PV → PV → PV → Rs PV} {k : Value → Value → Value → Shared → Prop} (P : PostV G b.base (b.env :: b.outer) b.h0 s ((rx σ).bind fun p => (ry σ).bind fun q => (rz σ).bind fun r => f p q r) Q E)
    (hk : ∀ p q r v u t (s' : Shared), s.heap.StaysIn s'.heap → St b s'.heap σ → RepP b.h0 s'.heap p v → RepP b.h0 s'.heap q u → RepP b.h0 s'.heap r t → PostV G b.base (b.env :: b.outer) b.h0 s' (f p q r) Q E → k v u t s') :
    wpAny b.M b.A (eval x b.env) (fun v s₁ => wpAny b.M b.A (eval y b.env) (fun u s₂ => wpAny b.M b.A (eval z b.env) (fun t s₃ => k v u t s₃) E s₂) E s₁) E s := by
  refine hx s σ _ _ S ?_
  cases hp : rx σ with
  | bad => simp only [hp, Rs.bind, PostV] at P
  | exc n => simpa only [hp, Rs.bind, PostV] using P
  | ok p =>
    simp only [hp, Rs.bind] at P
    intro v h' tk' kh rv
    exact Ev_two (f := fun q r => f p q r) hy hz (S.keeps kh) (P.after kh) fun q r u t s' k' S' ru rt P' => hk p q r v u t s' (stays_trans kh k') S' (rv.keeps (stays_refl _) k') ru rt P'

theorem stays_push (h : Heap) (o : Obj) : h.StaysIn (h.push o) := fun _ _ e => Heap.get?_push_of_some _ e
noncomputable def slcR : PV → PV → PV → Rs PV
  | .sc (.str x), .sc (.int i), .sc (.int j) => if x.length ≤ sizeLine then .ok (.sc (.str (Txt.slice x (some i) (some j)))) else .bad
  | _, _, _ => .bad
theorem Ev_slc {x : Str} {np pos p2 : Pos} {lo hi : Expr} {ro rl rh : List PV → Rs PV} (ho : Ev b (.Name x np) ro) (hl : Ev b lo rl) (hh : Ev b hi rh) :
    Ev b (.Subscript (.Name x np) (.Slice (some lo) (some hi) none p2) pos) (fun σ => (ro σ).bind fun p => (rl σ).bind fun q => (rh σ).bind fun r => slcR p q r) := by
  intro s σ Q E S P
  refine Subscript_ (wpAny_mono (Ev_three (k := fun o l u s₃ => wpAny b.M b.A (subscriptTail (.Name x np) (.Slice (some lo) (some hi) none p2) o (.ref s₃.heap.objs.size)) Q E { s₃ with heap := s₃.heap.push { cls := .type "slice", data := .fields #[l, u, .none] } }) ho hl hh S P fun p q r v u t s' _ S' rv ru rt P => ?_)
    (fun o s₁ h₁ => wpAny_Slice (wpAny_mono h₁ (fun l s₂ h₂ => wpAny_mono h₂ (fun u s₃ h₃ => wpAny_pure h₃) fun _ _ h => h) fun _ _ h => h)) fun _ _ h => h)
  unfold slcR at P
  split at P
  · split at P
    · rename_i z i j hc
      obtain ⟨t1, rfl⟩ := rv; obtain ⟨t2, rfl⟩ := ru; obtain ⟨t3, rfl⟩ := rt
      exact tail_of_ItemOn (ops := [_, _]) (SBH.sliceItem_ss (P := fun h => s'.heap.StaysIn h) (fun h ob k => stays_trans k (stays_push h ob)) (stays_refl _) (fun h' t' k hk => P _ h' k hk ⟨_, rfl⟩) hc) rfl (fun _ => rfl)
    · exact P.elim
  · exact P.elim
end Mine

namespace Mine
open PySem PySem.W PyProof.Rows PySem.Calls
variable {G : Gx} {b : Bx G}

inductive COp where | eq | ne | lt | le | gt | ge | is_ | in_ | notin
noncomputable def COp.op : COp → CmpOp
  | .eq => .Eq
  | .ne => .NotEq
  | .lt => .Lt
  | .le => .LtE
  | .gt => .Gt
  | .ge => .GtE
  | .is_ => .Is
  | .in_ => .In
  | .notin => .NotIn
noncomputable def bl (c : Bool) : Rs PV := .ok (.sc (.bool c))
noncomputable def cmpR : COp → PV → PV → Rs PV
  | .eq, .sc (.int i), .sc (.int j) => bl (i == j)
  | .ne, .sc (.int i), .sc (.int j) => bl (i != j)
  | .lt, .sc (.int i), .sc (.int j) => bl (decide (i < j))
  | .le, .sc (.int i), .sc (.int j) => bl (decide (i ≤ j))
  | .gt, .sc (.int i), .sc (.int j) => bl (decide (j < i))
  | .ge, .sc (.int i), .sc (.int j) => bl (decide (j ≤ i))
  | .eq, .sc .none, .sc (.int _) => bl false
  | .eq, .sc (.str x), .sc (.str y) => bl (x == y)
  | .ne, .sc (.str x), .sc (.str y) => bl (x != y)
  | .in_, .sc (.str x), .sc (.str y) => bl (Txt.contains y x)
  | .notin, .sc (.str x), .sc (.str y) => bl (!Txt.contains y x)
  | .is_, .sc .none, .sc .none => bl true
  | .is_, .sc (.int _), .sc .none => bl false
  | _, _, _ => .bad

theorem cmp_sound {op : COp} {p q : PV} {v u : Value} {s : Shared} {Q E : Value → Shared → Prop} {l : List Env} {bs hb : Heap} {A : Around} (rv : RepP hb s.heap p v) (ru : RepP hb s.heap q u)
    (P : PostV G bs l hb s (cmpR op p q) Q E) : wpAny (model G.prog G.w) A (compareOp op.op v u) Q E s := by
  unfold cmpR at P
  have go : ∀ {c : Bool}, PostV G bs l hb s (bl c) Q E → Q (.bool c) s := fun P => P _ s.heap s.toks (stays_refl _) rfl
  split at P
  · obtain ⟨t, rfl⟩ := rv; obtain ⟨t', rfl⟩ := ru; exact eq_int (go P)
  · obtain ⟨t, rfl⟩ := rv; obtain ⟨t', rfl⟩ := ru; exact ne_int (go P)
  · obtain ⟨t, rfl⟩ := rv; obtain ⟨t', rfl⟩ := ru; exact PyProof.Rows.lt_int (go P)
  · obtain ⟨t, rfl⟩ := rv; obtain ⟨t', rfl⟩ := ru; exact le_int (go P)
  · obtain ⟨t, rfl⟩ := rv; obtain ⟨t', rfl⟩ := ru; exact gt_int (go P)
  · obtain ⟨t, rfl⟩ := rv; obtain ⟨t', rfl⟩ := ru; exact ge_int (go P)
  · obtain rfl := rv; obtain ⟨t', rfl⟩ := ru; exact EqNone.eq_none_int (go P)
  · obtain ⟨t, rfl⟩ := rv; obtain ⟨t', rfl⟩ := ru; exact PyProof.Rows.eq_str (go P)
  · obtain ⟨t, rfl⟩ := rv; obtain ⟨t', rfl⟩ := ru; exact PyProof.Rows.ne_str (go P)
  · obtain ⟨t, rfl⟩ := rv; obtain ⟨t', rfl⟩ := ru; exact PyProof.Rows.in_str (go P)
  · obtain ⟨t, rfl⟩ := rv; obtain ⟨t', rfl⟩ := ru; exact PyProof.Rows.notIn_str (go P)
  · obtain rfl := rv; obtain rfl := ru; exact is_none_none (go P)
  · obtain ⟨t, rfl⟩ := rv; obtain rfl := ru; exact is_none_ne (fun h => by cases h) (go P)
  · exact P.elim

noncomputable def plainR (op : CmpOp) (e : Expr) : Bool := !behindInMarks op e
theorem Ev_cmp (op : COp) {x y : Expr} {pos : Pos} {rx ry : List PV → Rs PV} (hx : Ev b x rx) (hy : Ev b y ry) (hm : behindInMarks op.op y = false) :
    Ev b (.Compare x [op.op] [y] pos) (fun σ => (rx σ).bind fun p => (ry σ).bind fun q => cmpR op p q) := by
  intro s σ Q E S P
  exact wpAny_Compare1 (Ev_two hx hy S P fun p q v u s' _ _ rv ru P => cmp_sound rv ru P) hm

/-! the truth of a value -/
noncomputable def truthR : PV → Rs Bool
  | .sc (.bool c) => .ok c
  | _ => .bad
theorem truth_of {x : Expr} {rx : List PV → Rs PV} {s : Shared} {σ : List PV} {Q : Bool → Shared → Prop} {E : Value → Shared → Prop} (hx : Ev b x rx) (S : St b s.heap σ)
    (P : PostT G b.base (b.env :: b.outer) s ((rx σ).bind truthR) Q E) : wpAny b.M b.A (eval x b.env) (fun v s₁ => wpAny b.M b.A (truthy v) Q E s₁) E s := by
  refine hx s σ _ _ S ?_
  cases hp : rx σ with
  | bad => simp only [hp, Rs.bind, PostT] at P
  | exc n => simpa only [hp, Rs.bind, PostT, PostV] using P
  | ok p =>
    simp only [hp, Rs.bind] at P
    intro v h' tk' kh rv
    unfold truthR at P
    split at P
    · obtain rfl := rv
      exact wpAny_truthy_bool (P h' tk' kh)
    · exact P.elim
noncomputable def plainT : Expr → Bool
  | .UnaryOp .Not _ _ => false
  | .BoolOp _ _ _ => false
  | .IfExp _ _ _ _ => false
  | .Compare _ _ _ _ => false
  | _ => true
theorem isTrue_eq {e : Expr} (h : plainT e = true) (env : Env) (whole : Sem Value) : isTrue e env whole = (do let v ← whole; standAt e.pos; holding [v] (truthy v)) := by
  cases e with
  | UnaryOp op _ _ => cases op <;> first | rfl | cases h
  | _ => first | rfl | cases h
theorem Tr_of {x : Expr} {rx : List PV → Rs PV} (hx : Ev b x rx) (hp : plainT x = true) : Tr b x (fun σ => (rx σ).bind truthR) := by
  intro s σ Q E S P
  exact isTrue_plain (truth_of hx S P) (isTrue_eq hp _ _)

theorem Tr_cmp (op : COp) {x y : Expr} {pos : Pos} {rx ry : List PV → Rs PV} (hx : Ev b x rx) (hy : Ev b y ry) (hm : behindInMarks op.op y = false) :
    Tr b (.Compare x [op.op] [y] pos) (fun σ => (rx σ).bind fun p => (ry σ).bind fun q => (cmpR op p q).bind truthR) := by
  intro s σ Q E S P
  refine wpAny_isTrue_Compare1 ?_ hm
  have P' : PostV G b.base (b.env :: b.outer) b.h0 s ((rx σ).bind fun p => (ry σ).bind fun q => cmpR op p q) (fun v s₁ => wpAny b.M b.A (truthy v) Q E s₁) E := by
    cases hp : rx σ with
    | bad => simp only [hp, Rs.bind, PostT] at P
    | exc n => simpa only [hp, Rs.bind, PostT, PostV] using P
    | ok p =>
      simp only [hp, Rs.bind] at P ⊢
      cases hq : ry σ with
      | bad => simp only [hq, PostT] at P
      | exc n => simpa only [hq, PostT, PostV] using P
      | ok q =>
        simp only [hq] at P ⊢
        cases hc : cmpR op p q with
        | bad => simp only [hc, PostT] at P
        | exc n => simpa only [hc, PostT, PostV] using P
        | ok c =>
          simp only [hc] at P
          intro v h' tk' kh rv
          unfold truthR at P
          split at P
          · obtain rfl := rv
            exact wpAny_truthy_bool (P h' tk' kh)
          · exact P.elim
  refine wpAny_mono (Ev_two (k := fun v u s₂ => wpAny b.M b.A (compareOp op.op v u) (fun c s₃ => wpAny b.M b.A (truthy c) Q E s₃) E s₂) hx hy S P' fun p q v u s' _ _ rv ru P => cmp_sound rv ru P) (fun _ _ h => h) fun _ _ h => h

theorem Tr_not {x : Expr} {pos : Pos} {rx : List PV → Rs Bool} (hx : Tr b x rx) : Tr b (.UnaryOp .Not x pos) (fun σ => (rx σ).bind fun c => .ok (!c)) := by
  intro s σ Q E S P
  refine isTrue_not (hx s σ _ _ S ?_)
  cases hp : rx σ with
  | bad => simp only [hp, Rs.bind, PostT] at P
  | exc n => simpa only [hp, Rs.bind, PostT] using P
  | ok p => simp only [hp, Rs.bind] at P; exact P

/-- the rest of a chain of and | or -/
noncomputable def TrL (b : Bx G) (op : BoolOp) (es : List Expr) (r : List PV → Rs Bool) : Prop :=
  ∀ (s : Shared) (σ : List PV) (Q : Bool → Shared → Prop) (E : Value → Shared → Prop) (pos : Pos) (whole : Sem Value), St b s.heap σ → PostT G b.base (b.env :: b.outer) s (r σ) Q E → wpAny b.M b.A (isTrue (.BoolOp op es pos) b.env whole) Q E s
theorem TrL_one {op : BoolOp} {x : Expr} {rx : List PV → Rs Bool} (hx : Tr b x rx) : TrL b op [x] rx := by
  intro s σ Q E pos whole S P
  cases op with
  | And =>
    refine isTrue_and (wpAny_mono (hx s σ Q E S P) (fun c s' h => ?_) fun _ _ h => h)
    cases c with
    | true => exact isTrue_and_nil h
    | false => exact h
  | Or =>
    refine isTrue_or (wpAny_mono (hx s σ Q E S P) (fun c s' h => ?_) fun _ _ h => h)
    cases c with
    | true => exact h
    | false => exact isTrue_or_nil h
theorem TrL_and {x y : Expr} {rest : List Expr} {rx ry : List PV → Rs Bool} (hx : Tr b x rx) (hy : TrL b .And (y :: rest) ry) : TrL b .And (x :: y :: rest) (fun σ => (rx σ).bind fun c => if c then ry σ else .ok false) := by
  intro s σ Q E pos whole S P
  refine isTrue_and (hx s σ _ _ S ?_)
  cases hp : rx σ with
  | bad => simp only [hp, Rs.bind, PostT] at P
  | exc n => simpa only [hp, Rs.bind, PostT] using P
  | ok c =>
    simp only [hp, Rs.bind] at P
    intro h' tk' kh
    cases c with
    | true => exact hy _ σ Q E pos whole (S.keeps kh) (PostT.after (s := s) kh P)
    | false => exact P h' tk' kh
theorem TrL_or {x y : Expr} {rest : List Expr} {rx ry : List PV → Rs Bool} (hx : Tr b x rx) (hy : TrL b .Or (y :: rest) ry) : TrL b .Or (x :: y :: rest) (fun σ => (rx σ).bind fun c => if c then .ok true else ry σ) := by
  intro s σ Q E pos whole S P
  refine isTrue_or (hx s σ _ _ S ?_)
  cases hp : rx σ with
  | bad => simp only [hp, Rs.bind, PostT] at P
  | exc n => simpa only [hp, Rs.bind, PostT] using P
  | ok c =>
    simp only [hp, Rs.bind] at P
    intro h' tk' kh
    cases c with
    | false => exact hy _ σ Q E pos whole (S.keeps kh) (PostT.after (s := s) kh P)
    | true => exact P h' tk' kh
theorem Tr_bool {op : BoolOp} {es : List Expr} {pos : Pos} {r : List PV → Rs Bool} (h : TrL b op es r) : Tr b (.BoolOp op es pos) r := fun s σ Q E S P => h s σ Q E pos _ S P

/-- and | or as a value, all of whose parts are bools -/
noncomputable def EvL (b : Bx G) (op : BoolOp) (es : List Expr) (r : List PV → Rs PV) : Prop :=
  ∀ (s : Shared) (σ : List PV) (Q : Value → Shared → Prop) (E : Value → Shared → Prop) (pos : Pos), St b s.heap σ → PostV G b.base (b.env :: b.outer) b.h0 s (r σ) Q E → wpAny b.M b.A (eval (.BoolOp op es pos) b.env) Q E s
theorem EvL_one {op : BoolOp} {x : Expr} {rx : List PV → Rs PV} (hx : Ev b x rx) : EvL b op [x] rx := fun s σ Q E pos S P => BoolOp_one (hx s σ Q E S P)
theorem EvL_and {x y : Expr} {rest : List Expr} {rx ry : List PV → Rs PV} (hx : Ev b x rx) (hy : EvL b .And (y :: rest) ry) :
    EvL b .And (x :: y :: rest) (fun σ => (rx σ).bind fun p => (truthR p).bind fun c => if c then ry σ else bl false) := by
  intro s σ Q E pos S P
  refine BoolOp_and (Ev_one hx S P fun p v s' _ S' rv P => ?_)
  unfold truthR at P
  split at P
  · rename_i c
    obtain rfl := rv
    refine wpAny_truthy_bool ?_
    cases c with
    | true => exact hy s' σ Q E pos S' P
    | false => exact P _ s'.heap s'.toks (stays_refl _) rfl
  · exact P.elim
theorem EvL_or {x y : Expr} {rest : List Expr} {rx ry : List PV → Rs PV} (hx : Ev b x rx) (hy : EvL b .Or (y :: rest) ry) :
    EvL b .Or (x :: y :: rest) (fun σ => (rx σ).bind fun p => (truthR p).bind fun c => if c then bl true else ry σ) := by
  intro s σ Q E pos S P
  refine BoolOp_or (Ev_one hx S P fun p v s' _ S' rv P => ?_)
  unfold truthR at P
  split at P
  · rename_i c
    obtain rfl := rv
    refine wpAny_truthy_bool ?_
    cases c with
    | false => exact hy s' σ Q E pos S' P
    | true => exact P _ s'.heap s'.toks (stays_refl _) rfl
  · exact P.elim
theorem Ev_boolop {op : BoolOp} {es : List Expr} {pos : Pos} {r : List PV → Rs PV} (h : EvL b op es r) : Ev b (.BoolOp op es pos) r := fun s σ Q E S P => h s σ Q E pos S P

theorem Ev_not {x : Expr} {pos : Pos} {rx : List PV → Rs PV} (hx : Ev b x rx) : Ev b (.UnaryOp .Not x pos) (fun σ => (rx σ).bind fun p => (truthR p).bind fun c => bl (!c)) := by
  intro s σ Q E S P
  refine UnaryOp_ (Ev_one hx S P fun p v s' _ S' rv P => ?_)
  unfold truthR at P
  split at P
  · obtain rfl := rv
    exact not_of (wpAny_truthy_bool (P _ s'.heap s'.toks (stays_refl _) rfl))
  · exact P.elim

theorem Ev_ite {t x y : Expr} {pos : Pos} {rt : List PV → Rs Bool} {rx ry : List PV → Rs PV} (ht : Tr b t rt) (hx : Ev b x rx) (hy : Ev b y ry) :
    Ev b (.IfExp t x y pos) (fun σ => (rt σ).bind fun c => if c then rx σ else ry σ) := by
  intro s σ Q E S P
  refine IfExp_ (ht s σ _ _ S ?_)
  cases hp : rt σ with
  | bad => simp only [hp, Rs.bind, PostV] at P
  | exc n => simpa only [hp, Rs.bind, PostV, PostT] using P
  | ok c =>
    simp only [hp, Rs.bind] at P
    intro h' tk' kh
    cases c with
    | true => exact hx _ σ Q E (S.keeps kh) (PostV.after (s := s) kh P)
    | false => exact hy _ σ Q E (S.keeps kh) (PostV.after (s := s) kh P)
end Mine

namespace Mine
open PySem PySem.W PyProof.Rows PySem.Calls PySem.SeqAt
variable {G : Gx} {b : Bx G}

/-! a comparison whose right side is looked at in its own way -/
noncomputable def CmpK (b : Bx G) (op : CmpOp) (y : Expr) (f : PV → Rs PV) : Prop :=
  ∀ (s : Shared) (σ : List PV) (v : Value) (p : PV) (Q E : Value → Shared → Prop), St b s.heap σ → RepP b.h0 s.heap p v → PostV G b.base (b.env :: b.outer) b.h0 s (f p) Q E → wpAny b.M b.A (eval y b.env) (fun u s₂ => wpAny b.M b.A (compareOp op v u) Q E s₂) E s
theorem Ev_cmpK {op : CmpOp} {x y : Expr} {pos : Pos} {rx : List PV → Rs PV} {f : PV → Rs PV} (hx : Ev b x rx) (hy : CmpK b op y f) (hm : behindInMarks op y = false) :
    Ev b (.Compare x [op] [y] pos) (fun σ => (rx σ).bind f) := by
  intro s σ Q E S P
  exact wpAny_Compare1 (Ev_one hx S P fun p v s' _ S' rv P => hy s' σ v p Q E S' rv P) hm
theorem Tr_cmpK {op : CmpOp} {x y : Expr} {pos : Pos} {rx : List PV → Rs PV} {f : PV → Rs PV} (hx : Ev b x rx) (hy : CmpK b op y f) (hm : behindInMarks op y = false) :
    Tr b (.Compare x [op] [y] pos) (fun σ => (rx σ).bind fun p => (f p).bind truthR) := by
  intro s σ Q E S P
  refine wpAny_isTrue_Compare1 ?_ hm
  refine hx s σ _ _ S ?_
  cases hp : rx σ with
  | bad => simp only [hp, Rs.bind, PostT] at P
  | exc n => simpa only [hp, Rs.bind, PostT, PostV] using P
  | ok p =>
    simp only [hp, Rs.bind] at P
    intro v h' tk' kh rv
    refine wpAny_mono (hy _ σ v p (fun c s₃ => wpAny b.M b.A (truthy c) Q E s₃) E (S.keeps kh) rv ?_) (fun _ _ h => h) fun _ _ h => h
    cases hc : f p with
    | bad => simp only [hc, PostT] at P
    | exc n =>
      simp only [hc, PostT] at P
      exact fun e h3 tk3 fl up => P e h3 tk3 fl ((Heap.UpToSlots.of_keeps kh).trans up)
    | ok c =>
      simp only [hc] at P
      intro u h3 tk3 k3 ru
      unfold truthR at P
      split at P
      · obtain rfl := ru
        exact wpAny_truthy_bool (P h3 tk3 (stays_trans kh k3))
      · exact P.elim

theorem units_lt : b.A.units < cLine := by
  have h := b.room.2
  show b.A0.units + 3 < cLine
  omega
noncomputable def nilR : PV → Rs PV
  | .lst l => bl l.isEmpty
  | _ => .bad
noncomputable def nnilR : PV → Rs PV
  | .lst l => bl (!l.isEmpty)
  | _ => .bad
theorem CmpK_nil {lp : Pos} : CmpK b .Eq (.List [] lp) nilR := by
  intro s σ v p Q E S rv P
  refine List_ (args_nil ?_)
  unfold newList
  refine wpAny_newObj_type ?_ (by show (0 : Nat) ≤ _; exact Nat.zero_le _)
  unfold nilR at P
  split at P
  · rename_i l
    obtain ⟨a, vs, rfl, hl, rl, _⟩ := rv
    have hlen := repSL_length rl
    have hl' := (isList_keeps (stays_push s.heap { cls := .type "list", data := .seq #[] }) hl).isList
    have hn : (s.heap.push { cls := .type "list", data := .seq #[] }).IsList s.heap.objs.size #[] := ⟨_, Heap.get?_push_size _ rfl, rfl, 0, rfl⟩
    cases l with
    | nil =>
      obtain rfl : vs = [] := rl
      exact eq_listAt (e := fun _ => true) hl' hn rfl units_lt (fun j h1 _ => absurd h1 (Nat.not_lt_zero _)) (P _ _ _ (stays_push _ _) rfl)
    | cons q ps =>
      refine eq_list_lengthsAt hl' hn ?_ units_lt (P _ _ _ (stays_push _ _) rfl)
      rw [List.size_toArray, hlen]; simp
  · exact P.elim
theorem CmpK_nnil {lp : Pos} : CmpK b .NotEq (.List [] lp) nnilR := by
  intro s σ v p Q E S rv P
  refine List_ (args_nil ?_)
  unfold newList
  refine wpAny_newObj_type ?_ (by show (0 : Nat) ≤ _; exact Nat.zero_le _)
  unfold nnilR at P
  split at P
  · rename_i l
    obtain ⟨a, vs, rfl, hl, rl, _⟩ := rv
    have hlen := repSL_length rl
    have hl' := (isList_keeps (stays_push s.heap { cls := .type "list", data := .seq #[] }) hl).isList
    have hn : (s.heap.push { cls := .type "list", data := .seq #[] }).IsList s.heap.objs.size #[] := ⟨_, Heap.get?_push_size _ rfl, rfl, 0, rfl⟩
    cases l with
    | nil =>
      obtain rfl : vs = [] := rl
      exact RcNeAt.lists (items := #[]) (items2 := #[]) (e := fun _ => true) hl' hn rfl units_lt (fun j h1 _ => absurd h1 (Nat.not_lt_zero _)) _ _ _ _ (P _ _ _ (stays_push _ _) rfl)
    | cons q ps =>
      refine RcNeAt.lists_lengths hl' hn ?_ units_lt _ _ _ _ (P _ _ _ (stays_push _ _) rfl)
      rw [List.size_toArray, hlen]; simp
  · exact P.elim

/-! lists of expressions -/
noncomputable def RepL (hb h : Heap) : List PV → List Value → Prop
  | [], vs => vs = []
  | p :: ps, vs => ∃ v r, vs = v :: r ∧ RepP hb h p v ∧ RepL hb h ps r
theorem RepL.keeps {hb hb' h h' : Heap} (kb : hb'.StaysIn hb) (k : h.StaysIn h') : ∀ {ps : List PV} {vs : List Value}, RepL hb h ps vs → RepL hb' h' ps vs
  | [], _, e => e
  | _ :: _, _, ⟨v, r, e, a, q⟩ => ⟨v, r, e, a.keeps kb k, RepL.keeps kb k q⟩
noncomputable def PostL (G : Gx) (base : Heap) (l : List Env) (hb : Heap) (s : Shared) (r : Rs (List PV)) (Q : List Value → Shared → Prop) (E : Value → Shared → Prop) : Prop := match r with
  | .ok ps => ∀ vs h' tk', s.heap.StaysIn h' → RepL hb h' ps vs → Q vs { s with heap := h', toks := tk' }
  | .exc n => ∀ e h' tk', FlyAt G base l n (some .none) e h' → s.heap.UpToSlots h' → E (.ref e) { s with heap := h', toks := tk' }
  | .bad => False
noncomputable def EvA (b : Bx G) (es : List Expr) (r : List PV → Rs (List PV)) : Prop :=
  ∀ (s : Shared) (σ : List PV) (Q : List Value → Shared → Prop) (E : Value → Shared → Prop) (pos : Pos), St b s.heap σ → PostL G b.base (b.env :: b.outer) b.h0 s (r σ) Q E → wpAny b.M b.A (spliced (backTo pos (starEach es b.env))) Q E s
theorem EvA_nil : EvA b [] (fun _ => .ok []) := fun s σ Q E pos S P => args_nil (P [] s.heap s.toks (stays_refl _) rfl)
theorem EvA_cons {x : Expr} {es : List Expr} {rx : List PV → Rs PV} {rs : List PV → Rs (List PV)} (hx : Ev b x rx) (hs : EvA b es rs) (hn : notStar x = true) :
    EvA b (x :: es) (fun σ => (rx σ).bind fun p => (rs σ).bind fun ps => .ok (p :: ps)) := by
  intro s σ Q E pos S P
  refine args_cons (hx s σ _ _ S ?_) (star_one hn)
  cases hp : rx σ with
  | bad => simp only [hp, Rs.bind, PostL] at P
  | exc n => simpa only [hp, Rs.bind, PostL, PostV] using P
  | ok p =>
    simp only [hp, Rs.bind] at P
    intro v h' tk' kh rv
    refine hs _ σ _ _ pos (S.keeps kh) ?_
    cases hq : rs σ with
    | bad => simp only [hq, PostL] at P
    | exc n =>
      simp only [hq, PostL] at P
      exact fun e h3 tk3 fl up => P e h3 tk3 fl ((Heap.UpToSlots.of_keeps kh).trans up)
    | ok ps =>
      simp only [hq] at P
      intro vs h3 tk3 k3 r3
      exact P (v :: vs) h3 tk3 (stays_trans kh k3) ⟨v, vs, rfl, rv.keeps (stays_refl _) k3, r3⟩

noncomputable def scOf : PV → Sc
  | .sc v => v
  | _ => .any
theorem rep_scOf {hb h : Heap} {p : PV} {v : Value} (r : RepP hb h p v) : RepS h (scOf p) v := by
  cases p with
  | sc q => exact r
  | lst _ | lt _ _ | unb => trivial
theorem repL_scOf {hb h : Heap} : ∀ {ps : List PV} {vs : List Value}, RepL hb h ps vs → RepSL h (ps.map scOf) vs
  | [], _, e => e
  | _ :: _, _, ⟨v, r, e, a, q⟩ => ⟨v, r, e, rep_scOf a, repL_scOf q⟩
theorem repL_length {hb h : Heap} : ∀ {l : List PV} {vs : List Value}, RepL hb h l vs → vs.length = l.length
  | [], _, e => by cases e; rfl
  | _ :: _, _, ⟨_, _, e, _, r⟩ => by subst e; rw [List.length_cons, List.length_cons, repL_length r]
noncomputable def mkTup (ps : List PV) : Rs PV := if ps.length ≤ 8 then (match ps with
  | .lst l :: rest => .ok (.lt l (rest.map scOf))
  | ps => .ok (.sc (.tup (ps.map scOf)))) else .bad

/-- a tuple, written out -/
theorem Ev_tup {es : List Expr} {k : Nat} {pos : Pos} {rs : List PV → Rs (List PV)} (h : EvA b es rs) : Ev b (.Tuple es k pos) (fun σ => (rs σ).bind mkTup) := by
  intro s σ Q E S P
  refine Tuple_ (h s σ _ _ pos S ?_)
  cases hp : rs σ with
  | bad => simp only [hp, Rs.bind, PostV] at P
  | exc n => simpa only [hp, Rs.bind, PostL, PostV] using P
  | ok ps =>
    simp only [hp, Rs.bind] at P
    intro vs h' tk' kh rv
    unfold mkTup at P
    split at P
    · rename_i hle
      have hlen := repL_length rv
      unfold newTuple
      refine wpAny_newObj_type ?_ (by show vs.toArray.size ≤ sizeLine; rw [List.size_toArray, hlen, sizeLine_eq]; omega)
      have ks := stays_push h' { cls := .type "tuple", data := .seq vs.toArray }
      have ht : IsTup (h'.push { cls := .type "tuple", data := .seq vs.toArray }) h'.objs.size vs.toArray := ⟨_, Heap.get?_push_size _ rfl, rfl, 0, rfl⟩
      have rv' := rv.keeps (stays_refl _) ks
      split at P
      · rename_i l rest
        obtain ⟨v0, vr, rfl, r0, rr⟩ := rv'
        exact P _ _ _ (stays_trans kh ks) ⟨_, v0, vr, rfl, ht, r0, repL_scOf rr⟩
      · exact P _ _ _ (stays_trans kh ks) ⟨_, vs, rfl, ht, repL_scOf rv'⟩
    · exact P.elim

/-! x in (c, d, ..) over texts -/
noncomputable def inTupR (l : List Str) : PV → Rs PV
  | .sc (.str x) => bl (l.any fun c => c == x)
  | _ => .bad
noncomputable def strOf : Value → Str → Bool
  | .str y _, x => y == x
  | _, _ => false
theorem any_strs {h : Heap} {x : Str} : ∀ {l : List Str} {vs : List Value}, RepSL h (l.map Sc.str) vs → vs.any (fun v => strOf v x) = l.any (fun c => c == x) ∧ ∀ v ∈ vs, ∃ y t, v = .str y t
  | [], _, e => by obtain rfl := e; exact ⟨rfl, fun _ h => nomatch h⟩
  | c :: l, _, ⟨v, r, e, ⟨t, ev⟩, q⟩ => by
    subst e ev
    obtain ⟨a, b⟩ := any_strs (x := x) q
    refine ⟨by simp only [List.any_cons, a]; rfl, fun v hv => ?_⟩
    rcases List.mem_cons.mp hv with rfl | hv
    · exact ⟨_, _, rfl⟩
    · exact b v hv
theorem CmpK_in {es : List Expr} {k : Nat} {tp : Pos} {l : List Str} (h : EvA b es (fun _ => .ok (l.map fun c => .sc (.str c)))) (hl : l.length ≤ 8) : CmpK b .In (.Tuple es k tp) (inTupR l) := by
  intro s σ v p Q E S rv P
  unfold inTupR at P
  split at P
  · rename_i x
    refine Ev_tup h s σ _ _ S ?_
    have e1 : mkTup (l.map fun c => PV.sc (.str c)) = .ok (.sc (.tup (l.map Sc.str))) := by
      unfold mkTup
      rw [if_pos (by simpa using hl)]
      cases l with
      | nil => rfl
      | cons c r => simp only [List.map_cons, scOf, List.map_map]; rfl
    simp only [Rs.bind, e1]
    intro u h' tk' kh ru
    obtain ⟨t, rfl⟩ := rv
    obtain ⟨a, vs, rfl, ht, rl⟩ := ru
    obtain ⟨ha, hs⟩ := any_strs (x := x) rl
    refine in_tupleAt (items := vs.toArray) (fun v => strOf v x) ht (fun y hy => ?_) ?_
    · obtain ⟨z, t', rfl⟩ := hs y (by simpa using hy)
      exact EqAt.str_str z t' x t
    · have : vs.toArray.any (fun v => strOf v x) = l.any fun c => c == x := by simpa using ha
      rw [this]
      exact P _ h' tk' kh rfl
  · exact P.elim

/-! calls of the text's own functions -/
theorem Room.mono {A : Around} {k k' : Nat} (h : Room A k) (hk : k' ≤ k) : Room A k' := ⟨by have := h.1; omega, by have := h.2; omega⟩
theorem roomA : Room b.A b.k := by
  obtain ⟨h1, h2⟩ := b.room
  refine ⟨?_, ?_⟩
  · show b.A0.depth + 1 + b.k + 8 < recursionLimit; omega
  · show b.A0.units + 3 + 10 * b.k + 60 < cLine; omega
noncomputable def allSc : List PV → Rs (List Sc)
  | [] => .ok []
  | .sc p :: r => (allSc r).bind fun ps => .ok (p :: ps)
  | _ => .bad
theorem allSc_rep {hb h : Heap} : ∀ {ps : List PV} {vs : List Value} {qs : List Sc}, RepL hb h ps vs → allSc ps = .ok qs → RepSL h qs vs
  | [], _, _, r, e => by cases e; exact r
  | .sc p :: r, _, qs, ⟨v, vr, ev, rv, rr⟩, e => by
    simp only [allSc] at e
    cases hq : allSc r with
    | bad => simp only [hq, Rs.bind] at e; cases e
    | exc n => simp only [hq, Rs.bind] at e; cases e
    | ok ps => simp only [hq, Rs.bind] at e; cases e; exact ⟨v, vr, ev, rv, allSc_rep rr hq⟩
  | .lst _ :: _, _, _, _, e => by cases e
  | .lt _ _ :: _, _, _, _, e => by cases e
  | .unb :: _, _, _, _, e => by cases e
theorem allSc_exc : ∀ {ps : List PV} {n : Int}, allSc ps ≠ .exc n
  | [], _ => by intro e; cases e
  | .sc p :: r, n => by
    simp only [allSc]
    cases hq : allSc r with
    | bad => intro e; cases e
    | exc m => exact absurd hq allSc_exc
    | ok _ => intro e; cases e
  | .lst _ :: _, _ => by intro e; cases e
  | .lt _ _ :: _, _ => by intro e; cases e
  | .unb :: _, _ => by intro e; cases e

theorem Ev_call {x : Str} {np pos : Pos} {a : Expr} {as : List Expr} {rs : List PV → Rs (List PV)} {f : Addr} {k : Nat} {F : List Sc → Rs PV} (hF : Meets G f k F) (hk : k ≤ b.k) (hs : EvA b (a :: as) rs)
    (hv : nsIn G.K mainGlobals x = some (some (.ref f))) (hkeep : keepIn G.K (.ref f) = true) (hx : b.scope.names.lookup x = some .globalImplicit) (hns : (a :: as).all notStar = true) (hd : (x == ("__debug__" : Str)) = false := by decide) :
    Ev b (.Call (.Name x np) (a :: as) [] pos) (fun σ => (rs σ).bind fun ps => (allSc ps).bind F) := by
  intro s σ Q E S P
  obtain ⟨m, F', _⟩ := S.fr
  have hns' := hns
  simp only [List.all_cons, Bool.and_eq_true] at hns'
  refine Call_ (nameX_K (cl := []) F' (G.kin.keeps (stays_trans b.gb b.bel.stays)) (G.top.keeps (stays_trans b.gb b.bel.stays)) hv ?_ b.kind hx hd) rfl
  refine callWith_K (G.kin.keeps (stays_trans b.gb b.bel.stays)) hkeep (hs s σ _ _ pos S ?_) (star_one hns'.1) (backTo_plain hns'.2)
  cases hp : rs σ with
  | bad => simp only [hp, Rs.bind, PostV] at P
  | exc n => simpa only [hp, Rs.bind, PostL, PostV] using P
  | ok ps =>
    simp only [hp, Rs.bind] at P
    intro vs h' tk' kh rv
    refine ⟨(S.keeps kh).kin, ?_⟩
    cases hq : allSc ps with
    | bad => simp only [hq, PostV] at P
    | exc n => exact absurd hq allSc_exc
    | ok qs =>
      simp only [hq] at P
      refine hF b.A b.base (b.env :: b.outer) _ qs vs Q E b.gb (S.keeps kh).below handledA (roomA.mono hk) (allSc_rep rv hq) ?_
      cases hr : F qs with
      | bad => simp only [hr, PostV] at P
      | exc n =>
        simp only [hr, PostV] at P
        exact fun e h3 tk3 fl up => P e h3 tk3 fl ((Heap.UpToSlots.of_keeps kh).trans up)
      | ok p =>
        simp only [hr, PostV] at P
        intro v h3 tk3 k3 r3
        exact P v h3 tk3 (stays_trans kh k3) (r3.keeps (S.keeps kh).stays (stays_refl _))
end Mine

namespace Mine
open PySem PySem.W PyProof.Rows PySem.Calls PySem.SeqAt
variable {G : Gx} {b : Bx G}

/-! stores -/
theorem repS_same {h h' : Heap} (k : ∀ a o, h.get? a = some o → o.cls = .type "tuple" → h'.get? a = some o) : ∀ {p : Sc} {v : Value}, RepS h p v → RepS h' p v := by
  have tup : ∀ {a its}, IsTup h a its → IsTup h' a its := fun ⟨o, ho, hc, r⟩ => ⟨o, k _ _ ho hc, hc, r⟩
  exact fun r => go tup r
where
  go {h h' : Heap} (tup : ∀ {a its}, IsTup h a its → IsTup h' a its) : ∀ {p : Sc} {v : Value}, RepS h p v → RepS h' p v
    | .none, _, r => r
    | .bool _, _, r => r
    | .int _, _, r => r
    | .str _, _, r => r
    | .tup _, _, ⟨a, vs, e, t, r⟩ => ⟨a, vs, e, tup t, goL tup r⟩
    | .any, _, _ => trivial
  goL {h h' : Heap} (tup : ∀ {a its}, IsTup h a its → IsTup h' a its) : ∀ {p : List Sc} {v : List Value}, RepSL h p v → RepSL h' p v
    | [], _, r => r
    | _ :: _, _, ⟨v, r, e, a, b⟩ => ⟨v, r, e, go tup a, goL tup b⟩
theorem repSL_same {h h' : Heap} (k : ∀ a o, h.get? a = some o → o.cls = .type "tuple" → h'.get? a = some o) : ∀ {p : List Sc} {v : List Value}, RepSL h p v → RepSL h' p v
  | [], _, r => r
  | _ :: _, _, ⟨v, r, e, a, b⟩ => ⟨v, r, e, repS_same k a, repSL_same k b⟩

theorem rep_store {hb h h' : Heap} {L : Addr} {o : Obj} {es : Array DictEntry} {n : Nat} (hL : h.get? L = some o) (hd : o.data = .dict es n) (hs : Heap.SameBut L h h') {p : PV} {v : Value} (r : RepP hb h p v) : RepP hb h' p v := by
  have ks : ∀ a ob, h.get? a = some ob → (∃ xs m, ob.data = .seq xs m) → h'.get? a = some ob := fun a ob e ⟨xs, m, q⟩ => (hs.2 a fun z => by rw [z, hL] at e; cases e; rw [hd] at q; cases q).trans e
  have tup : ∀ {a its}, IsTup h a its → IsTup h' a its := fun ⟨ob, ho, hc, m, hq⟩ => ⟨ob, ks _ _ ho ⟨_, m, hq⟩, hc, m, hq⟩
  have lst : ∀ {a its}, h.PlainList a its → h'.PlainList a its := fun ⟨m, ho⟩ => ⟨m, ks _ _ ho ⟨_, m, rfl⟩⟩
  cases p with
  | sc q => exact repS_same.go tup r
  | lst l => obtain ⟨a, vs, e, t, q, f⟩ := r; exact ⟨a, vs, e, lst t, repS_same.goL tup q, f⟩
  | lt l l' => obtain ⟨a, v0, vr, e, t, ⟨c, vs, e2, t2, q2, f2⟩, q⟩ := r; exact ⟨a, v0, vr, e, tup t, ⟨c, vs, e2, lst t2, repS_same.goL tup q2, f2⟩, repS_same.goL tup q⟩
  | unb => exact r

theorem store {s : Shared} {σ : List PV} {i : Nat} {x : Str} {p : PV} {v : Value} {Q : Unit → Shared → Prop} {E : Value → Shared → Prop} (S : St b s.heap σ) (hi : b.nm[i]? = some x) (r : RepP b.h0 s.heap p v)
    (h : ∀ h' tk' , St b h' (σ.set i p) → (∀ (q : PV) u, RepP b.h0 s.heap q u → RepP b.h0 h' q u) → Q () { s with heap := h', toks := tk' }) : wpAny b.M b.A (storeName b.env x v) Q E s := by
  obtain ⟨m, F, rr⟩ := S.fr
  have hl := b.locs x (List.mem_of_getElem? hi)
  obtain ⟨oL, es, ep, hL, hLd, _⟩ := F.ns
  refine wpAny_storeName_local hl.1 F.ns (fun h' hn hs => ?_) (by show (b.scope.kind == .class || (b.scope.kind == .module && b.L != mainGlobals)) = false; rw [b.kind]; rfl)
  have up : ∀ (q : PV) u, RepP b.h0 s.heap q u → RepP b.h0 h' q u := fun q u hq => rep_store hL hLd hs hq
  refine h h' _ ⟨_, F.set hn hs, fun j y q hj hq => ?_⟩ up
  by_cases hji : j = i
  · subst hji
    rw [hi] at hj; cases hj
    have hlen : j < σ.length := by
      have := (List.getElem?_eq_some_iff.mp hq).1
      simpa using this
    rw [List.getElem?_set_self hlen] at hq
    cases hq
    have : ∃ v', (if x = x then some v else m x) = some v' ∧ RepP b.h0 h' p v' := ⟨v, if_pos rfl, up p v r⟩
    cases p <;> first | trivial | exact this
  · rw [List.getElem?_set_ne (Ne.symm hji)] at hq
    have hne : y ≠ x := fun e => by
      subst e
      have h1 := (List.getElem?_eq_some_iff.mp hj)
      have h2 := (List.getElem?_eq_some_iff.mp hi)
      exact hji ((List.getElem_inj b.nodup).mp (h1.2.trans h2.2.symm))
    have := rr j y q hj hq
    cases q with
    | unb => trivial
    | sc _ | lst _ | lt _ _ => obtain ⟨u, e, ru⟩ := this; exact ⟨u, by rw [if_neg hne]; exact e, up _ _ ru⟩

/-! statements -/
noncomputable def okFl (L : Addr) (fl : Option Value) : Prop := fl = none ∨ fl = some .none ∨ fl = some (rawInt L)
noncomputable def PostS (b : Bx G) (s : Shared) (r : SR) (Q : Flow → Shared → Prop) (E : Value → Shared → Prop) : Prop := match r with
  | .next σ => ∀ h' tk', St b h' σ → Q .next { s with heap := h', toks := tk' }
  | .cont σ => ∀ h' tk', St b h' σ → Q .cont { s with heap := h', toks := tk' }
  | .ret p => ∀ v h' tk', b.h0.StaysIn h' → RepP b.h0 h' p v → Q (.ret v) { s with heap := h', toks := tk' }
  | .exc n => ∀ e fl h' tk', okFl b.L fl → FlyAt G b.base (b.env :: b.outer) n fl e h' → b.h0.UpToSlots h' → E (.ref e) { s with heap := h', toks := tk' }
  | .bad => False
theorem PostS.after {s : Shared} {r : SR} {Q : Flow → Shared → Prop} {E : Value → Shared → Prop} {h' : Heap} {tk' : Nat} (P : PostS b s r Q E) : PostS b { s with heap := h', toks := tk' } r Q E := by
  cases r <;> exact P
noncomputable def Ex (b : Bx G) (st : Stmt) (r : List PV → SR) : Prop :=
  ∀ (s : Shared) (σ : List PV) (Q : Flow → Shared → Prop) (E : Value → Shared → Prop), St b s.heap σ → PostS b s (r σ) Q E → wpAny b.M b.A (exec st b.env) Q E s
noncomputable def Exs (b : Bx G) (sts : List Stmt) (r : List PV → SR) : Prop :=
  ∀ (s : Shared) (σ : List PV) (Q : Flow → Shared → Prop) (E : Value → Shared → Prop), St b s.heap σ → PostS b s (r σ) Q E → wpAny b.M b.A (execs sts b.env) Q E s

noncomputable def Rs.to {α : Type} (r : Rs α) (f : α → SR) : SR := match r with
  | .ok a => f a
  | .exc n => .exc n
  | .bad => .bad
noncomputable def SR.andThen (r : SR) (f : List PV → SR) : SR := match r with
  | .next σ => f σ
  | r => r

theorem ev_then {x : Expr} {rx : List PV → Rs PV} {s : Shared} {σ : List PV} {Q : Flow → Shared → Prop} {E : Value → Shared → Prop} (hx : Ev b x rx) (S : St b s.heap σ)
    {f : PV → SR} {k : Value → Shared → Prop} (P : PostS b s ((rx σ).to f) Q E)
    (hk : ∀ p v h' tk', St b h' σ → RepP b.h0 h' p v → PostS b { s with heap := h', toks := tk' } (f p) Q E → k v { s with heap := h', toks := tk' }) :
    wpAny b.M b.A (eval x b.env) (fun v s₁ => k v s₁) E s := by
  refine hx s σ _ _ S ?_
  cases hp : rx σ with
  | bad => simp only [hp, Rs.to, PostS] at P
  | exc n =>
    simp only [hp, Rs.to, PostS] at P
    exact fun e h' tk' fl up => P e _ h' tk' (.inr (.inl rfl)) fl ((Heap.UpToSlots.of_keeps S.stays).trans up)
  | ok p =>
    simp only [hp, Rs.to] at P
    exact fun v h' tk' kh rv => hk p v h' tk' (S.keeps kh) rv (PostS.after P)
theorem tr_then {x : Expr} {rx : List PV → Rs Bool} {s : Shared} {σ : List PV} {Q : Flow → Shared → Prop} {E : Value → Shared → Prop} (hx : Tr b x rx) (S : St b s.heap σ)
    {f : Bool → SR} {k : Bool → Shared → Prop} (P : PostS b s ((rx σ).to f) Q E)
    (hk : ∀ c h' tk', St b h' σ → PostS b { s with heap := h', toks := tk' } (f c) Q E → k c { s with heap := h', toks := tk' }) :
    wpAny b.M b.A (isTrue x b.env (eval x b.env)) (fun v s₁ => k v s₁) E s := by
  refine hx s σ _ _ S ?_
  cases hp : rx σ with
  | bad => simp only [hp, Rs.to, PostS] at P
  | exc n =>
    simp only [hp, Rs.to, PostS] at P
    exact fun e h' tk' fl up => P e _ h' tk' (.inr (.inl rfl)) fl ((Heap.UpToSlots.of_keeps S.stays).trans up)
  | ok p =>
    simp only [hp, Rs.to] at P
    exact fun h' tk' kh => hk p h' tk' (S.keeps kh) (PostS.after P)

theorem Ex_assign {x : Str} {i : Nat} {np pos : Pos} {e : Expr} {re : List PV → Rs PV} (he : Ev b e re) (hi : b.nm[i]? = some x) (hs : swapsWith e (some (.Name x np)) pos.line b.env = pure false) :
    Ex b (.Assign [.Name x np] e pos) (fun σ => (re σ).to fun p => .next (σ.set i p)) := by
  intro s σ Q E S P
  refine wpAny_Assign_Name (ev_then he S P fun p v h' tk' S' rv P' => ?_) hs
  exact store (s := { s with heap := h', toks := tk' }) S' hi rv fun h2 tk2 S2 _ => P' h2 tk2 S2

noncomputable def setAll : List Nat → List Sc → List PV → List PV
  | i :: is, p :: ps, σ => setAll is ps (σ.set i (.sc p))
  | _, _, σ => σ
noncomputable def NamesAt (nm : List Str) : List Expr → List Nat → Prop
  | [], [] => True
  | .Name n _ :: xs, i :: is => nm[i]? = some n ∧ NamesAt nm xs is
  | _, _ => False
theorem namesAt_cons {nm : List Str} {x : Expr} {xs : List Expr} {i : Nat} {is : List Nat} (h : NamesAt nm (x :: xs) (i :: is)) : ∃ n p, x = .Name n p ∧ nm[i]? = some n ∧ NamesAt nm xs is := by
  cases x with
  | Name n p => exact ⟨n, p, rfl, h⟩
  | _ => exact absurd h (by simp [NamesAt])
theorem repSL_up {h h2 : Heap} (up : ∀ (q : PV) u, RepP b.h0 h q u → RepP b.h0 h2 q u) : ∀ {ps : List Sc} {vs : List Value}, RepSL h ps vs → RepSL h2 ps vs
  | [], _, e => e
  | q :: ps, _, ⟨v2, vr2, e2, r2, rr2⟩ => ⟨v2, vr2, e2, up (.sc q) v2 r2, repSL_up up rr2⟩
theorem storeAll {E : Value → Shared → Prop} : ∀ {xs : List Expr} {is : List Nat} {ps : List Sc} {vs : List Value} {s : Shared} {σ : List PV} {Q : Unit → Shared → Prop},
    St b s.heap σ → RepSL s.heap ps vs → NamesAt b.nm xs is → ps.length = is.length →
    (∀ h' tk', St b h' (setAll is ps σ) → Q () { s with heap := h', toks := tk' }) → wpAny b.M b.A (assignInOrder ((assignEach xs b.env).map (·.2)) vs) Q E s
  | [], [], ps, vs, s, σ, Q, S, r, f, hl, h => by
    cases ps with
    | cons _ _ => simp at hl
    | nil =>
      obtain rfl : vs = [] := r
      exact wpAny_pure (h s.heap s.toks S)
  | [], _ :: _, ps, vs, s, σ, Q, S, r, f, hl, h => f.elim
  | x :: xs, [], ps, vs, s, σ, Q, S, r, f, hl, h => by cases x <;> exact f.elim
  | x :: xs, i :: is, ps, vs, s, σ, Q, S, r, f, hl, h => by
    obtain ⟨n, p, rfl, hi, f'⟩ := namesAt_cons f
    cases ps with
    | nil => simp at hl
    | cons q ps =>
      obtain ⟨v, vr, rfl, rv, rr⟩ := r
      show wpAny b.M b.A (do holding vr (assign (.Name n p) b.env v); assignInOrder ((assignEach xs b.env).map (·.2)) vr) Q E s
      refine wpAny_bind (wpAny_holding ?_)
      refine assign_Name (store (p := .sc q) S hi rv fun h2 tk2 S2 up => ?_)
      exact storeAll (s := { s with heap := h2, toks := tk2 }) S2 (repSL_up up rr) f' (by simpa using hl) fun h3 tk3 S3 => h h3 tk3 S3

theorem assignEach_names {env : Env} {nm : List Str} : ∀ {xs : List Expr} {is : List Nat}, NamesAt nm xs is → (assignEach xs env).length = is.length ∧ (assignEach xs env).findIdx? (·.1) = none
  | [], [], _ => ⟨rfl, rfl⟩
  | [], _ :: _, h => h.elim
  | x :: xs, [], h => by cases x <;> exact h.elim
  | x :: xs, i :: is, h => by
    obtain ⟨n, p, rfl, _, h'⟩ := namesAt_cons h
    obtain ⟨a, c⟩ := assignEach_names (env := env) h'
    have e : assignEach (.Name n p :: xs) env = (false, assign (.Name n p) env) :: assignEach xs env := rfl
    rw [e]
    refine ⟨by simp [a], ?_⟩
    rw [List.findIdx?_cons]
    simp [c]

theorem extBut_stays {h h' : Heap} (he : Heap.ExtBut h.objs.size h h') : h.StaysIn h' := fun a o e => he a o (Nat.ne_of_lt (Heap.lt_size e)) e

/-- a, b = e : what is unpacked is a tuple -/
noncomputable def unpR (is : List Nat) (σ : List PV) : PV → SR
  | .sc (.tup l) => if l.length = is.length then .next (setAll is l σ) else .bad
  | .lt l r => (match is with
    | i :: is => if r.length = is.length then .next (setAll is r (σ.set i (.lst l))) else .bad
    | [] => .bad)
  | _ => .bad
theorem Ex_unpack {xs : List Expr} {is : List Nat} {k : Nat} {tpos pos : Pos} {e : Expr} {re : List PV → Rs PV} (he : Ev b e re) (hi : NamesAt b.nm xs is)
    (hs : swapsWithSole [.Tuple xs k tpos] e pos.line b.env = pure false) (hw : swappedStores [.Tuple xs k tpos] e b.env = pure none) :
    Ex b (.Assign [.Tuple xs k tpos] e pos) (fun σ => (re σ).to (unpR is σ)) := by
  intro s σ Q E S P
  refine Assign_Tuple (ev_then he S P fun p v h' tk' S' rv P' => ?_) hs hw
  obtain ⟨hlen, hst⟩ := assignEach_names (env := b.env) hi
  unfold unpR at P'
  split at P'
  · rename_i l
    split at P'
    · rename_i hl
      obtain ⟨a, vs, rfl, ht, rl⟩ := rv
      show wpAny b.M b.A (do standAt tpos; unpack (.ref a) (assignEach xs b.env)) _ _ _
      refine wpAny_bind (wpAny_standAt ?_)
      refine unpack_tuple handledA ht (by rw [hlen, List.size_toArray, repSL_length rl, hl]) hst fun h2 he2 => ?_
      have k2 := extBut_stays he2
      exact storeAll (s := { s with heap := h2, toks := tk' }) (S'.keeps k2) (rl.keeps k2) hi hl fun h3 tk3 S3 => P' h3 tk3 S3
    · exact P'.elim
  · rename_i l r
    split at P'
    · rename_i i is
      split at P'
      · rename_i hl
        obtain ⟨a, v0, vr, rfl, ht, r0, rl⟩ := rv
        show wpAny b.M b.A (do standAt tpos; unpack (.ref a) (assignEach xs b.env)) _ _ _
        refine wpAny_bind (wpAny_standAt ?_)
        refine unpack_tuple handledA ht (by rw [hlen, List.size_toArray, List.length_cons, List.length_cons, repSL_length rl, hl]) hst fun h2 he2 => ?_
        have k2 := extBut_stays he2
        cases xs with
        | nil => exact hi.elim
        | cons x xs =>
          obtain ⟨n, p, rfl, hn, hi'⟩ := namesAt_cons hi
          show wpAny b.M b.A (do holding vr (assign (.Name n p) b.env v0); assignInOrder ((assignEach xs b.env).map (·.2)) vr) _ _ _
          refine wpAny_bind (wpAny_holding ?_)
          have r0' : RepP b.h0 h2 (.lst l) v0 := RepP.keeps (hb := b.h0) (h := h') (stays_refl _) k2 (p := .lst l) r0
          refine assign_Name (store (s := { s with heap := h2, toks := tk' }) (p := .lst l) (S'.keeps k2) hn r0' fun h3 tk3 S3 up => ?_)
          exact storeAll (s := { s with heap := h3, toks := tk3 }) S3 (repSL_up up (rl.keeps k2)) hi' hl fun h4 tk4 S4 => P' h4 tk4 S4
      · exact P'.elim
    · exact P'.elim
  · exact P'.elim

noncomputable def augR : PV → PV → Rs PV
  | .sc (.int i), .sc (.int j) => .ok (.sc (.int (i + j)))
  | .sc (.str x), .sc (.str y) => if x.length + y.length ≤ sizeLine then .ok (.sc (.str (x ++ y))) else .bad
  | _, _ => .bad
/-- NAME += e -/
theorem Ex_aug {x : Str} {i : Nat} {np pos : Pos} {e : Expr} {re : List PV → Rs PV} (he : Ev b e re) (hi : b.nm[i]? = some x) :
    Ex b (.AugAssign (.Name x np) .Add e pos) (fun σ => (((getL i σ).bind fun p => (re σ).bind fun q => augR p q)).to fun p => .next (σ.set i p)) := by
  intro s σ Q E S P
  refine wpAny_AugAssign_Name ?_
  have hx := Ev_loc (pos := np) hi
  have hl := b.locs x (List.mem_of_getElem? hi)
  obtain ⟨m, F, r⟩ := S.fr
  cases hp : σ[i]? with
  | none => simp only [getL, hp, Rs.bind, Rs.to, PostS] at P
  | some p =>
    have hr := r i x p hi hp
    have go : ∀ v, m x = some v → RepP b.h0 s.heap p v → PostS b s (((re σ).bind fun q => augR p q).to fun p => .next (σ.set i p)) Q E →
        wpAny b.M b.A (loadName b.env x) (fun old s₁ => wpAny b.M b.A (eval e b.env) (fun v s₂ => wpAny b.M b.A (inplaceOp .Add old v) (fun r s₃ => wpAny b.M b.A (storeName b.env x r) (fun _ => Q .next) E s₃) E s₂) E s₁) E s := by
      intro v hv rv P
      refine wpAny_loadName_local b.kind hl.1 F.ns hv ?_
      refine he s σ _ _ S ?_
      cases hq : re σ with
      | bad => simp only [hq, Rs.bind, Rs.to, PostS] at P
      | exc n =>
        simp only [hq, Rs.bind, Rs.to, PostS] at P
        exact fun e h' tk' fl up => P e _ h' tk' (.inr (.inl rfl)) fl ((Heap.UpToSlots.of_keeps S.stays).trans up)
      | ok q =>
        simp only [hq, Rs.bind] at P
        intro u h' tk' kh ru
        have S' := S.keeps kh
        have rv' := rv.keeps (stays_refl _) kh
        have fin : ∀ (z : PV) (zv : Value) tk2, RepP b.h0 h' z zv → PostS b s (.next (σ.set i z)) Q E → wpAny b.M b.A (storeName b.env x zv) (fun _ => Q .next) E { s with heap := h', toks := tk2 } :=
          fun z zv tk2 rz Pz => store (s := { s with heap := h', toks := tk2 }) S' hi rz fun h2 tk3 S2 _ => Pz h2 tk3 S2
        unfold augR at P
        split at P
        · obtain ⟨t, rfl⟩ := rv'; obtain ⟨t', rfl⟩ := ru
          exact PyProof.Rows.iadd_int (fin (.sc (.int _)) _ _ ⟨_, rfl⟩ P)
        · split at P
          · rename_i hz
            obtain ⟨t, rfl⟩ := rv'; obtain ⟨t', rfl⟩ := ru
            exact PyProof.Rows.iadd_str (fun t2 tk2 => fin (.sc (.str _)) _ _ ⟨_, rfl⟩ P) hz
          · exact P.elim
        · exact P.elim
    cases p with
    | unb => simp only [getL, hp, Rs.bind, Rs.to, PostS] at P
    | sc _ | lst _ | lt _ _ =>
      obtain ⟨v, e1, q⟩ := hr
      simp only [getL, hp, Rs.bind] at P
      exact go v e1 q P

theorem Ex_if {t : Expr} {body orelse : List Stmt} {pos : Pos} {rt : List PV → Rs Bool} {rb ro : List PV → SR} (ht : Tr b t rt) (hb : Exs b body rb) (ho : Exs b orelse ro) :
    Ex b (.If t body orelse pos) (fun σ => (rt σ).to fun c => if c then rb σ else ro σ) := by
  intro s σ Q E S P
  refine wpAny_If (tr_then ht S P fun c h' tk' S' P' => ?_)
  cases c with
  | true => exact hb _ σ Q E S' P'
  | false => exact ho _ σ Q E S' P'
theorem Ex_ret {e : Expr} {pos : Pos} {re : List PV → Rs PV} (he : Ev b e re) : Ex b (.Return (some e) pos) (fun σ => (re σ).to .ret) := by
  intro s σ Q E S P
  exact wpAny_Return_some (ev_then he S P fun p v h' tk' S' rv P' => P' v h' tk' S'.stays rv)
theorem Ex_cont {pos : Pos} : Ex b (.Continue pos) (fun σ => .cont σ) := by
  intro s σ Q E S P
  exact wpAny_Continue (P s.heap s.toks S)
theorem Exs_nil : Exs b [] (fun σ => .next σ) := by
  intro s σ Q E S P
  exact wpAny_execs_nil (P s.heap s.toks S)
theorem Exs_cons {st : Stmt} {sts : List Stmt} {r : List PV → SR} {rs : List PV → SR} (h : Ex b st r) (hs : Exs b sts rs) : Exs b (st :: sts) (fun σ => (r σ).andThen rs) := by
  intro s σ Q E S P
  refine wpAny_execs_cons (h s σ _ _ S ?_)
  cases hr : r σ with
  | bad => simp only [hr, SR.andThen] at P; exact P.elim
  | exc n => simp only [hr, SR.andThen] at P; exact P
  | ret p => simp only [hr, SR.andThen] at P; exact P
  | cont σ' => simp only [hr, SR.andThen] at P; exact P
  | next σ' =>
    simp only [hr, SR.andThen] at P
    exact fun h' tk' S' => hs _ σ' Q E S' (PostS.after P)

/-! NAME.append(e) -/
noncomputable def flat : PV → Bool
  | .sc _ => true
  | .unb => true
  | _ => false
noncomputable def othersFlat (i : Nat) : Nat → List PV → Bool
  | _, [] => true
  | k, p :: r => (k == i || flat p) && othersFlat i (k + 1) r
theorem othersFlat_get {i : Nat} : ∀ {σ : List PV} {k j : Nat} {p : PV}, othersFlat i k σ = true → σ[j]? = some p → k + j ≠ i → flat p = true
  | [], _, _, _, _, e, _ => by simp at e
  | q :: r, k, 0, p, h, e, n => by
    simp only [List.getElem?_cons_zero, Option.some.injEq] at e
    subst e
    simp only [othersFlat, Bool.and_eq_true, Bool.or_eq_true, beq_iff_eq] at h
    rcases h.1 with h | h
    · exact absurd h n
    · exact h
  | q :: r, k, j + 1, p, h, e, n => by
    simp only [List.getElem?_cons_succ] at e
    simp only [othersFlat, Bool.and_eq_true] at h
    exact othersFlat_get h.2 e (by omega)
noncomputable def appR (i j : Nat) (σ : List PV) : SR := match σ[i]?, σ[j]? with
  | some (.lst l), some (.sc p) => if othersFlat i 0 σ && decide (l.length < 2 ^ 20) then .next (σ.set i (.lst (l ++ [p]))) else .bad
  | _, _ => .bad
theorem repSL_snoc {h : Heap} {p : Sc} {v : Value} : ∀ {l : List Sc} {vs : List Value}, RepSL h l vs → RepS h p v → RepSL h (l ++ [p]) (vs ++ [v])
  | [], _, e, r => by obtain rfl := e; exact ⟨v, [], rfl, r, rfl⟩
  | _ :: _, _, ⟨u, vr, e, a, q⟩, r => by subst e; exact ⟨u, vr ++ [v], rfl, a, repSL_snoc q r⟩
theorem inter : interactive b.env = false := by
  have hk : b.env.scope.kind = .function := b.kind
  unfold interactive
  simp [hk]
theorem Ex_append {x y : Str} {i j : Nat} {np np2 ap pos spos : Pos} (hi : b.nm[i]? = some x) (hj : b.nm[j]? = some y) (hl : (ap.endLine == pos.line) = true) :
    Ex b (.Expr (.Call (.Attribute (.Name x np) "append" ap) [.Name y np2] [] pos) spos) (appR i j) := by
  intro s σ Q E S P
  unfold appR at P
  split at P
  · rename_i l p hpi hpj
    split at P
    · rename_i hc
      simp only [Bool.and_eq_true, decide_eq_true_eq] at hc
      obtain ⟨hof, hlen⟩ := hc
      obtain ⟨m, F, rr⟩ := S.fr
      obtain ⟨va, hva, ra⟩ := rr i x _ hi hpi
      obtain ⟨vu, hvu, ru⟩ := rr j y _ hj hpj
      obtain ⟨a, vs, rfl, hL, rl, hf⟩ := ra
      have hlx := b.locs x (List.mem_of_getElem? hi)
      have hly := b.locs y (List.mem_of_getElem? hj)
      refine wpAny_Expr (method1 rfl hl ?_) inter rfl
      refine wpAny_Name (wpAny_loadName_local b.kind hlx.1 F.ns hva ?_) hlx.2
      intro pl
      obtain ⟨nn, hob⟩ := id hL
      refine getMethod_list_append hob rfl rfl ?_
      refine callWith_method1 (args_cons ?_ rfl) rfl rfl
      refine wpAny_Name (wpAny_loadName_local b.kind hly.1 F.ns hvu ?_) hly.2
      refine args_nil ?_
      refine wpAny_list_append_plain (x := vu) hL (fun h3 hp3 hs3 => ?_) (by rw [List.size_toArray, repSL_length rl, sizeLine_eq]; omega)
      refine P h3 s.toks ?_
      have e3 : vs.toArray.push vu = (vs ++ [vu]).toArray := by simp
      rw [e3] at hp3
      obtain ⟨oL, es, ep, hLo, hLd, hLk⟩ := F.ns
      have neL : a ≠ b.L := fun z => by
        rw [z, hLo] at hob; cases hob; cases hLd
      have tup : ∀ c o, s.heap.get? c = some o → o.cls = .type "tuple" → h3.get? c = some o := fun c o e ec => (hs3.2 c fun z => by
        rw [z, hob] at e; cases e; simp at ec).trans e
      refine ⟨m, ⟨⟨oL, es, ep, (hs3.2 _ (Ne.symm neL)).trans hLo, hLd, hLk⟩, fun c o e => (hs3.2 c fun z => by rw [z, hf] at e; cases e).trans (F.keep c o e), F.above⟩, fun q y2 z hq hz => ?_⟩
      by_cases hqi : q = i
      · subst hqi
        rw [hi] at hq; cases hq
        have hlt : q < σ.length := by
          have := (List.getElem?_eq_some_iff.mp hz).1
          simpa using this
        rw [List.getElem?_set_self hlt] at hz
        cases hz
        exact ⟨.ref a, hva, a, vs ++ [vu], rfl, hp3, repSL_snoc (repSL_same tup rl) (repS_same tup ru), hf⟩
      · rw [List.getElem?_set_ne (Ne.symm hqi)] at hz
        have hfl := othersFlat_get (p := z) hof hz (by omega)
        have hr := rr q y2 z hq hz
        cases z with
        | unb => trivial
        | sc q2 => obtain ⟨u2, hu2, r2⟩ := hr; exact ⟨u2, hu2, repS_same tup r2⟩
        | lst _ => cases hfl
        | lt _ _ => cases hfl
    · exact P.elim
  · exact P.elim
end Mine

namespace Mine
open PySem PySem.W PyProof.Rows PySem.Calls PySem.SeqAt
variable {G : Gx}

/-! the flight of our own exception -/
noncomputable def ExcBody (G : Gx) (base : Heap) (l : List Env) (n : Int) (e : Addr) (vs : Array Value) (h : Heap) : Prop :=
  base.StaysIn h ∧ base.get? e = none ∧ h.FunFrames base l ∧ ∃ oe d m t, h.get? e = some oe ∧ oe.cls = .ref G.C ∧ oe.data = .fields vs ∧ 1 < vs.size ∧ oe.dict = some d ∧ h.Ns d m ∧ m "at" = some (.int n t)
noncomputable def TraceAt (base : Heap) (e : Addr) (vs : Array Value) (fl : Option Value) (h : Heap) : Prop := match fl with
  | none => vs[1]? = some .none
  | some f => ∃ T oT ts, vs[1]? = some (.ref T) ∧ base.get? T = none ∧ T ≠ e ∧ h.get? T = some oT ∧ oT.data = .fields ts ∧ ts[3]? = some f
theorem flyAt_iff {base : Heap} {l : List Env} {n : Int} {fl : Option Value} {e : Addr} {h : Heap} : FlyAt G base l n fl e h ↔ ∃ vs, ExcBody G base l n e vs h ∧ TraceAt base e vs fl h := by
  constructor
  · rintro ⟨a1, a2, a3, oe, vs, d, m, t, b1, b2, b3, b4, b5, b6, b7, b8⟩
    exact ⟨vs, ⟨a1, a2, a3, oe, d, m, t, b1, b2, b3, b4, b5, b6, b7⟩, by cases fl <;> exact b8⟩
  · rintro ⟨vs, ⟨a1, a2, a3, oe, d, m, t, b1, b2, b3, b4, b5, b6, b7⟩, b8⟩
    exact ⟨a1, a2, a3, oe, vs, d, m, t, b1, b2, b3, b4, b5, b6, b7, by cases fl <;> exact b8⟩

/-- the heap with one record changed -/
theorem upd_upToSlots {h : Heap} {a : Addr} {o : Obj} {ws : Array Value} {f : Obj → Obj} (ho : h.get? a = some o) (hd : o.data = .fields ws) : h.UpToSlots (h.update a f) := fun b ob e hn =>
  ⟨ob.slots, (Heap.get?_update_other _ _ fun q => by subst q; rw [ho] at e; cases e; exact hn ws hd).trans e⟩
theorem funFrames_up {base h h' : Heap} {l : List Env} (hl : h.FunFrames base l) (u : h.UpToSlots h') : h'.FunFrames base l :=
  hl.of_keeps fun b o hb hn => let ⟨sl, e⟩ := u b o hb hn; ⟨_, e, rfl⟩

theorem ExcBody.setE {base : Heap} {l : List Env} {n : Int} {e : Addr} {vs : Array Value} {h : Heap} {i : Nat} {x : Value} (X : ExcBody G base l n e vs h) :
    ExcBody G base l n e (vs.setIfInBounds i x) (h.update e (Obj.mapFields (·.setIfInBounds i x))) := by
  obtain ⟨a1, a2, a3, oe, d, m, t, b1, b2, b3, b4, b5, b6, b7⟩ := X
  have u := upd_upToSlots (f := Obj.mapFields (·.setIfInBounds i x)) b1 b3
  have hd := Obj.data_mapFields b3 (·.setIfInBounds i x)
  refine ⟨fun b o hb => (Heap.get?_update_other _ _ fun q => by subst q; rw [a2] at hb; cases hb).trans (a1 b o hb), a2, funFrames_up a3 u, _, d, m, t, Heap.get?_update_self _ b1 (Obj.isFreed_of_fields hd), (Obj.cls_mapFields _ _).trans b2, hd, by simpa using b4, ?_, u.ns b6, b7⟩
  obtain ⟨c, dd, da, sl⟩ := oe
  simp only at b3 b5
  subst b3
  exact b5
theorem ExcBody.setT {base : Heap} {l : List Env} {n : Int} {e T : Addr} {vs ts : Array Value} {oT : Obj} {h : Heap} {i : Nat} {x : Value} (X : ExcBody G base l n e vs h) (hT : h.get? T = some oT) (hd : oT.data = .fields ts) (hb : base.get? T = none) (hne : T ≠ e) :
    ExcBody G base l n e vs (h.update T (Obj.mapFields (·.setIfInBounds i x))) := by
  obtain ⟨a1, a2, a3, oe, d, m, t, b1, b2, b3, b4, b5, b6, b7⟩ := X
  have u := upd_upToSlots (f := Obj.mapFields (·.setIfInBounds i x)) hT hd
  exact ⟨fun b o hb' => (Heap.get?_update_other _ _ fun q => by subst q; rw [hb] at hb'; cases hb').trans (a1 b o hb'), a2, funFrames_up a3 u, oe, d, m, t, (Heap.get?_update_other _ _ hne).trans b1, b2, b3, b4, b5, u.ns b6, b7⟩
theorem ExcBody.push {base : Heap} {l : List Env} {n : Int} {e : Addr} {vs : Array Value} {h : Heap} (X : ExcBody G base l n e vs h) (o : Obj) : ExcBody G base l n e vs (h.push o) := by
  obtain ⟨a1, a2, a3, oe, d, m, t, b1, b2, b3, b4, b5, b6, b7⟩ := X
  have k := stays_push h o
  exact ⟨stays_trans a1 k, a2, funFrames_up a3 (Heap.UpToSlots.of_keeps k), oe, d, m, t, k _ _ b1, b2, b3, b4, b5, (Heap.UpToSlots.of_keeps k).ns b6, b7⟩
theorem slotsOnly_up {S : List Addr} {h h' : Heap} (x : Heap.SlotsOnly S h h') : h.UpToSlots h' := fun b o ho _ => x.2.2 b o ho
theorem ExcBody.slots {base : Heap} {l : List Env} {n : Int} {e : Addr} {vs : Array Value} {h h' : Heap} (X : ExcBody G base l n e vs h) (x : Heap.SlotsOnly (l.filterMap (·.frame)) h h') : ExcBody G base l n e vs h' := by
  obtain ⟨a1, a2, a3, oe, d, m, t, b1, b2, b3, b4, b5, b6, b7⟩ := X
  have hne : e ∉ l.filterMap (·.frame) := fun q => by
    obtain ⟨_, o, ho, hn⟩ := a3.mem q
    rw [b1] at ho; cases ho; exact hn vs b3
  exact ⟨fun b o hb => (x.2.1 b fun q => by rw [(a3.mem q).1] at hb; cases hb).trans (a1 b o hb), a2, funFrames_up a3 (slotsOnly_up x), oe, d, m, t, (x.2.1 e hne).trans b1, b2, b3, b4, b5, (slotsOnly_up x).ns b6, b7⟩

section
variable {M : Model} {A : Around} {E : Value → Shared → Prop} {s : Shared} {base : Heap} {env : Env} {outer : List Env} {L e : Addr} {n : Int} {vs : Array Value} {Q : Unit → Shared → Prop}

theorem fly_entry {head : Value} {hadNext : Bool} (hfr : A.frames = some (env :: outer)) (hf : env.frame = some L) (X : ExcBody G base (env :: outer) n e vs s.heap)
    (h : ∀ h', FlyAt G base (env :: outer) n (some (rawInt L)) e h' → s.heap.UpToSlots h' → Q () { s with heap := h' }) :
    wpAny M A (do let a ← frameOf env; let pl ← entryPlaceOf L hadNext; let b ← EntryCells.newEntry head a .none (rawInt L) .none pl; setField (.ref e) 1 b) Q E s := by
  refine wpAny_bind (wpAny_frameOf_fun hfr X.2.2.1 hf fun h₁ hs₁ => ?_)
  refine wpAny_bind (wpAny_entryPlaceOf fun pl hpl => ?_)
  unfold EntryCells.newEntry newFields
  refine wpAny_bind (wpAny_newObj_type ?_ (hpl.sizeOk5 _ _ _ _ _))
  have X₁ := X.slots hs₁
  have X₂ := X₁.push { cls := .type "traceback", dict := none, data := .fields ([head, .ref L, .none, rawInt L, .none] ++ (if pl.isEmpty then List.replicate 6 Value.none else pl)).toArray }
  have hTe : h₁.objs.size ≠ e := by
    obtain ⟨_, _, _, oe, _, _, _, b1, _⟩ := X₁
    exact Nat.ne_of_gt (Heap.lt_size b1)
  have hTb : base.get? h₁.objs.size = none := Heap.StaysIn.fresh X₁.1
  have X₃ := X₂.setE (i := 1) (x := Value.ref h₁.objs.size)
  obtain ⟨_, _, _, oe, _, _, _, b1, _, b3, b4, _⟩ := id X₂
  refine wpAny_setField b1 b3 b4 (h _ (flyAt_iff.mpr ⟨_, X₃, ?_⟩) ?_)
  · refine ⟨h₁.objs.size, _, _, by simp [b4], hTb, hTe, (Heap.get?_update_other _ _ (Ne.symm hTe)).trans (Heap.get?_push_size _ rfl), rfl, ?_⟩
    first | (simp; done) | (rcases hpl with rfl | ⟨_, _, _, _, _, _, _, rfl⟩ <;> simp)
  · exact (slotsOnly_up hs₁).trans ((Heap.UpToSlots.of_keeps (stays_push _ _)).trans (upd_upToSlots b1 b3))

theorem fly_note {fl : Option Value} (hfr : A.frames = some (env :: outer)) (hf : env.frame = some L) (X : FlyAt G base (env :: outer) n fl e s.heap) (hfl : okFl L fl)
    (h : ∀ h', FlyAt G base (env :: outer) n (some (rawInt L)) e h' → s.heap.UpToSlots h' → Q () { s with heap := h' }) : wpAny M A (noteFrame (.ref e) env) Q E s := by
  obtain ⟨vs, Y, T⟩ := flyAt_iff.mp X
  obtain ⟨_, _, _, oe, _, _, _, b1, _, b3, b4, _⟩ := id Y
  unfold noteFrame
  simp only [hf]
  cases fl with
  | none =>
    refine wpAny_bind (wpAny_field b1 b3 T ?_)
    rw [if_neg (by decide)]
    exact fly_entry hfr hf Y h
  | some f =>
    obtain ⟨T, oT, ts, t1, t2, t3, t4, t5, t6⟩ := T
    refine wpAny_bind (wpAny_field b1 b3 t1 ?_)
    rw [if_pos (show (Value.ref T != Value.none) = true from by simp)]
    refine wpAny_bind (wpAny_field t4 t5 t6 ?_)
    rcases hfl with q | q | q
    · cases q
    · cases q
      rw [if_neg (show ¬ ((Value.none == rawInt L) = true) from by simp [rawInt])]
      refine wpAny_bind (wpAny_setField t4 t5 (Array.getElem?_eq_some_iff.mp t6).1 ?_)
      exact fly_entry (s := { s with heap := _ }) hfr hf (Y.setT t4 t5 t2 t3) fun h' a u => h h' a ((upd_upToSlots t4 t5).trans u)
    · cases q
      rw [if_pos (show (rawInt L == rawInt L) = true from by simp)]
      exact wpAny_pure (h s.heap (flyAt_iff.mpr ⟨vs, Y, T, oT, ts, t1, t2, t3, t4, t5, t6⟩) (Heap.UpToSlots.refl _))

theorem fly_set {fr : Option Addr} {f : Value} (X : FlyAt G base outer n (some f) e s.heap)
    (h : ∀ h', FlyAt G base outer n (some (fr.elim .none fun a => rawInt a)) e h' → s.heap.UpToSlots h' → Q () { s with heap := h' }) : wpAny M A (setFlight (.ref e) fr) Q E s := by
  obtain ⟨vs, Y, T, oT, ts, t1, t2, t3, t4, t5, t6⟩ := flyAt_iff.mp X
  obtain ⟨_, _, _, oe, _, _, _, b1, _, b3, b4, _⟩ := id Y
  have hsz3 : 3 < ts.size := (Array.getElem?_eq_some_iff.mp t6).1
  unfold setFlight
  refine wpAny_bind (wpAny_field b1 b3 t1 ?_)
  rw [if_pos (show (Value.ref T != Value.none) = true from by simp)]
  refine wpAny_setField t4 t5 hsz3 (h _ (flyAt_iff.mpr ⟨vs, Y.setT t4 t5 t2 t3, T, _, _, t1, t2, t3, Heap.get?_update_self _ t4 (Obj.isFreed_of_fields (Obj.data_mapFields t5 _)), Obj.data_mapFields t5 _, by simp [hsz3]⟩) (upd_upToSlots t4 t5))

theorem fly_drop {fl : Option Value} {h : Heap} (X : FlyAt G base (env :: outer) n fl e h) : FlyAt G base outer n fl e h := by
  obtain ⟨a1, a2, ⟨_, _, a3⟩, r⟩ := X
  exact ⟨a1, a2, a3, r⟩

/-- it leaves a frame -/
theorem fly_leaving {fl : Option Value} (hfr : A.frames = some (env :: outer)) (hf : env.frame = some L) (X : FlyAt G base (env :: outer) n fl e s.heap) (hfl : okFl L fl)
    (h : ∀ h', FlyAt G base outer n (some .none) e h' → s.heap.UpToSlots h' → Q () { s with heap := h' }) : wpAny M A (leaving env (.ref e)) Q E s := by
  unfold leaving
  refine wpAny_bind (fly_note hfr hf X hfl fun h₁ X₁ u₁ => ?_)
  refine fly_set (s := { s with heap := h₁ }) (fr := none) X₁ fun h₂ X₂ u₂ => h h₂ (fly_drop X₂) (u₁.trans u₂)

/-- it leaves a while of the frame's own -/
theorem fly_cameBack {E' : Value → Shared → Prop} (hf : env.frame = some L) (X : FlyAt G base (env :: outer) n (some (rawInt L)) e s.heap)
    (h : ∀ h', FlyAt G base (env :: outer) n (some (rawInt L)) e h' → s.heap.UpToSlots h' → E' (.ref e) { s with heap := h' }) : cameBackBy M A env E' (.ref e) s := by
  obtain ⟨vs, X', T, oT, ts, t1, t2, t3, t4, t5, t6⟩ := flyAt_iff.mp X
  obtain ⟨_, _, _, oe, _, _, _, b1, _, b3, b4, _⟩ := id X'
  unfold cameBackBy
  refine wpAny_bind (wpAny_field b1 b3 t1 ?_)
  rw [if_neg (by simp)]
  rw [hf]
  exact fly_set (fr := some L) X fun h' X2 u => h h' X2 u
end

variable {b : Bx G}
/-! while -/
noncomputable def loopR : Nat → (List PV → Rs Bool) → (List PV → SR) → List PV → SR
  | 0, _, _, _ => .bad
  | n + 1, c, f, σ => (c σ).to fun t => if t then (match f σ with
    | .next σ' => loopR n c f σ'
    | .cont σ' => loopR n c f σ'
    | r => r) else .next σ

theorem Ex_while {t : Expr} {body : List Stmt} {pos : Pos} {rt : List PV → Rs Bool} {rb : List PV → SR} (N : Nat) (ht : Tr b t rt) (hb : Exs b body rb) :
    Ex b (.While t body [] pos) (loopR N rt rb) := by
  intro s σ Q E S P
  refine wpAny_While ?_
  have hfr : ∀ {h : Heap} {σ : List PV}, St b h σ → b.A.frames = some (b.env :: b.outer) := fun S => S.below.stack
  refine codeAny_whileLoop (prog := G.prog) (w := G.w) (I := fun n s' => ∃ σ h tk, s' = { s with heap := h, toks := tk } ∧ St b h σ ∧ PostS b s (loopR n rt rb σ) Q E) (fun n s' hI => ?_) N ⟨σ, s.heap, s.toks, rfl, S, P⟩
  obtain ⟨σ, h, tk, rfl, S, P⟩ := hI
  cases n with
  | zero => exact P.elim
  | succ n =>
    simp only [loopR] at P
    have out : ∀ (s' : Shared) (e : Addr) (fl : Option Value) (m : Int), (∃ h' tk', s' = { s with heap := h', toks := tk' }) → okFl b.L fl → FlyAt G b.base (b.env :: b.outer) m fl e s'.heap → b.h0.UpToSlots s'.heap → PostS b s (.exc m) Q E →
        notedBy (model G.prog G.w) b.A b.env (fun e s' => cameBackBy (model G.prog G.w) b.A b.env E e s') (.ref e) s' := by
      rintro s' e fl m ⟨h', tk', rfl⟩ hfl X u Pm
      unfold notedBy
      refine fly_note (hfr S) rfl X hfl fun h2 X2 u2 => ?_
      refine fly_cameBack (s := { s with heap := h2, toks := tk' }) rfl X2 fun h3 X3 u3 => ?_
      exact Pm e _ h3 tk' (.inr (.inr rfl)) X3 (u.trans (u2.trans u3))
    refine ht _ σ _ _ S ?_
    cases hc : rt σ with
    | bad => simp only [hc, Rs.to] at P; exact P.elim
    | exc m =>
      simp only [hc, Rs.to] at P
      exact fun e h' tk' X u => out _ e _ m ⟨h', tk', rfl⟩ (.inr (.inl rfl)) X ((Heap.UpToSlots.of_keeps S.stays).trans u) P
    | ok c =>
      simp only [hc, Rs.to] at P
      intro h' tk' kh
      have S' := S.keeps kh
      cases c with
      | false =>
        simp only [Bool.false_eq_true, if_false] at P ⊢
        exact wpAny_execs_nil (P h' tk' S')
      | true =>
        simp only [if_true] at P ⊢
        refine hb _ σ _ _ S' ?_
        cases hr : rb σ with
        | bad => simp only [hr] at P; exact P.elim
        | exc m =>
          simp only [hr] at P
          exact fun e fl h2 tk2 hfl X u => out _ e fl m ⟨h2, tk2, rfl⟩ hfl X u P
        | ret p => simp only [hr] at P; exact P
        | next σ' =>
          simp only [hr] at P
          exact fun h2 tk2 S2 => ⟨n, Nat.lt_succ_self _, σ', h2, tk2, rfl, S2, P⟩
        | cont σ' =>
          simp only [hr] at P
          exact fun h2 tk2 S2 => ⟨n, Nat.lt_succ_self _, σ', h2, tk2, rfl, S2, P⟩
end Mine

namespace Mine
open PySem PySem.W PyProof.Rows PySem.Calls PySem.SeqAt
variable {G : Gx} {b : Bx G}

/-! a, b = x, y (the stores stand the other way round) -/
theorem repSL_append {h : Heap} : ∀ {l l' : List Sc} {vs us : List Value}, RepSL h l vs → RepSL h l' us → RepSL h (l ++ l') (vs ++ us)
  | [], _, _, _, e, r => by obtain rfl := e; exact r
  | _ :: _, _, _, _, ⟨u, vr, e, a, q⟩, r => by subst e; exact ⟨u, _, rfl, a, repSL_append q r⟩
theorem repSL_reverse {h : Heap} : ∀ {l : List Sc} {vs : List Value}, RepSL h l vs → RepSL h l.reverse vs.reverse
  | [], _, e => by obtain rfl := e; rfl
  | q :: l, _, ⟨u, vr, e, a, r⟩ => by subst e; rw [List.reverse_cons, List.reverse_cons]; exact repSL_append (repSL_reverse r) ⟨u, [], rfl, a, rfl⟩
noncomputable def SlotsAt (nm : List Str) : List Str → List Nat → Prop
  | [], [] => True
  | n :: xs, i :: is => nm[i]? = some n ∧ SlotsAt nm xs is
  | _, _ => False
theorem bindAll {E : Value → Shared → Prop} : ∀ {xs : List Str} {is : List Nat} {ps : List Sc} {vs : List Value} {s : Shared} {σ : List PV} {Q : Unit → Shared → Prop},
    St b s.heap σ → RepSL s.heap ps vs → SlotsAt b.nm xs is → ps.length = is.length →
    (∀ h' tk', St b h' (setAll is ps σ) → Q () { s with heap := h', toks := tk' }) → wpAny b.M b.A (assignInOrder (xs.map fun n => bindName b.env n) vs) Q E s
  | [], [], ps, vs, s, σ, Q, S, r, f, hl, h => by
    cases ps with
    | cons _ _ => simp at hl
    | nil =>
      obtain rfl : vs = [] := r
      exact wpAny_pure (h s.heap s.toks S)
  | [], _ :: _, ps, vs, s, σ, Q, S, r, f, hl, h => f.elim
  | x :: xs, [], ps, vs, s, σ, Q, S, r, f, hl, h => f.elim
  | x :: xs, i :: is, ps, vs, s, σ, Q, S, r, f, hl, h => by
    cases ps with
    | nil => simp at hl
    | cons q ps =>
      obtain ⟨v, vr, rfl, rv, rr⟩ := r
      show wpAny b.M b.A (do holding vr (bindName b.env x v); assignInOrder (xs.map fun n => bindName b.env n) vr) Q E s
      refine wpAny_bind (wpAny_holding ?_)
      refine bindName_ (store (p := .sc q) S f.1 rv fun h2 tk2 S2 up => ?_)
      exact bindAll (s := { s with heap := h2, toks := tk2 }) S2 (repSL_up up rr) f.2 (by simpa using hl) fun h3 tk3 S3 => h h3 tk3 S3
noncomputable def unpRevR (is : List Nat) (σ : List PV) : PV → SR
  | .sc (.tup l) => if l.length = is.length then .next (setAll is l.reverse σ) else .bad
  | _ => .bad
theorem Ex_swap {xs : List Expr} {names : List Str} {is : List Nat} {k : Nat} {tpos pos : Pos} {e : Expr} {re : List PV → Rs PV} (he : Ev b e re) (hi : SlotsAt b.nm names.reverse is)
    (hs : swapsWithSole [.Tuple xs k tpos] e pos.line b.env = pure false) (hw : swappedStores [.Tuple xs k tpos] e b.env = pure (some names)) (hn : names.length = is.length) :
    Ex b (.Assign [.Tuple xs k tpos] e pos) (fun σ => (re σ).to (unpRevR is σ)) := by
  intro s σ Q E S P
  refine Assign_Tuple_swapped (ev_then he S P fun p v h' tk' S' rv P' => ?_) hs hw
  unfold unpRevR at P'
  split at P'
  · rename_i l
    split at P'
    · rename_i hl
      obtain ⟨a, vs, rfl, ht, rl⟩ := rv
      rw [show names.length = vs.toArray.size by rw [List.size_toArray, repSL_length rl, hl, hn]]
      refine unpackItems_tuple handledA ht fun h2 he2 => ?_
      have k2 := extBut_stays he2
      exact bindAll (s := { s with heap := h2, toks := tk' }) (S'.keeps k2) (repSL_reverse (rl.keeps k2)) hi (by simpa using hl) fun h3 tk3 S3 => P' h3 tk3 S3
    · exact P'.elim
  · exact P'.elim

/-! a def of the text -/
noncomputable def funR (np nr : Nat) (r : List PV → SR) (ps : List Sc) : Rs PV := if ps.length = np then (match r (ps.map .sc ++ List.replicate nr .unb) with
  | .ret p => .ok p
  | .exc n => .exc n
  | _ => .bad) else .bad

theorem lookup_mem : ∀ {l : List (Str × Value)} {x : Str} {v : Value}, (l.map (·.1)).Nodup → (x, v) ∈ l → l.lookup x = some v
  | (y, u) :: l, x, v, hn, hm => by
    rw [List.map_cons, List.nodup_cons] at hn
    rw [List.lookup_cons]
    rcases List.mem_cons.mp hm with e | hm2
    · cases e
      rw [beq_self_eq_true]
    · have hne : (x == y) = false := by
        rw [beq_eq_false_iff_ne]
        intro e
        subst e
        exact hn.1 (List.mem_map.mpr ⟨_, hm2, rfl⟩)
      rw [hne]
      exact lookup_mem hn.2 hm2
theorem map_zip : ∀ {ps : List Str} {vs : List Value}, vs.length = ps.length → (ps.zip vs).map (·.1) = ps
  | [], _, _ => by simp
  | p :: ps, [], h => by simp at h
  | p :: ps, v :: vs, h => by simp only [List.zip_cons_cons, List.map_cons]; rw [map_zip (by simpa using h)]
theorem lookup_zip {ps : List Str} {vs : List Value} {i : Nat} {x : Str} {v : Value} (hn : ps.Nodup) (hl : vs.length = ps.length) (hx : ps[i]? = some x) (hv : vs[i]? = some v) : (ps.zip vs).reverse.lookup x = some v := by
  refine lookup_mem ?_ ?_
  · rw [List.map_reverse, map_zip hl]
    exact List.pairwise_reverse.mpr (hn.imp fun h => Ne.symm h)
  · rw [List.mem_reverse]
    refine List.mem_of_getElem? (i := i) ?_
    rw [List.getElem?_zip_eq_some]
    exact ⟨hx, hv⟩

theorem Meets_fn {f : Addr} {oc : Value} {od an : Option Addr} {osl : Array (Option Value)} {name qual : Str} {params : Arguments} {body : List Stmt} {scope : Scope} {dV kV doc pm cdv ct : Value} {pn rest : List Str} {k : Nat} {r : List PV → SR}
    (ho : G.K.lookup f = some ⟨oc, od, .func (fnOf name qual params body scope dV kV doc pm an cdv ct), osl⟩) (hcd : codeIn G.K cdv qual = true)
    (hp : ∀ vs : List Value, vs.length = pn.length → bindArgs (fnOf name qual params body scope dV kV doc pm an cdv ct) ⟨vs, []⟩ = pure (pn.zip vs))
    (hnd : (pn ++ rest).Nodup) (hloc : ∀ x ∈ pn ++ rest, scope.names.lookup x = some .local ∧ (x == ("__debug__" : Str)) = false) (hk : scope.kind = .function) (hco : scope.isCoroutine = false) (hgen : scope.isGenerator = false)
    (hcell : ∀ x ∈ scope.names, x.2 ≠ .cell) (hb : ∀ b : Bx G, b.scope = scope → b.nm = pn ++ rest → b.k = k → Exs b body r) : Meets G f (k + 1) (funR pn.length rest.length r) := by
  intro A base outer s ps vs Q E gb B hh room rep P
  unfold funR at P
  split at P
  · rename_i hlen
    have hvl := repSL_length rep
    have kb : G.base.StaysIn s.heap := stays_trans gb B.stays
    refine wpAny_call (codeAny_call_def (fd := fnOf name qual params body scope dV kV doc pm an cdv ct) (body := body) (binds := pn.zip vs) (by have := room.1; omega) (kb _ _ (G.kin _ _ ho)) rfl (G.top.nolimit.keeps kb) (codeRec_of (G.kin.keeps kb) hcd) rfl
      (BindsTo.of_eq (hp vs (by rw [hvl, hlen]))) hcell ?_ (fun h₁ hns hk₁ => ?_) hco hgen hk)
    · intro y hy
      have : y.1 ∈ pn := by
        have := List.mem_map_of_mem (f := (·.1)) hy
        rwa [map_zip (by rw [hvl, hlen])] at this
      exact (hloc y.1 (List.mem_append_left _ this)).1
    · let b : Bx G := { A0 := A, base, outer, h0 := s.heap, L := s.heap.objs.size, f, qual, scope, cdv, nm := pn ++ rest, k, gb, bel := B, hh, kind := hk, room, nodup := hnd, locs := hloc }
      have hnp : pn.Nodup := (List.nodup_append.mp hnd).1
      have S : St b h₁ (ps.map .sc ++ List.replicate rest.length .unb) := by
        refine ⟨_, ⟨hns, hk₁, Nat.le_refl _⟩, fun i x p hi hp => ?_⟩
        by_cases hlt : i < ps.length
        · rw [List.getElem?_append_left (by simpa using hlt), List.getElem?_map] at hp
          obtain ⟨q, hq, rfl⟩ := Option.map_eq_some_iff.mp hp
          obtain ⟨v, hv, rv⟩ := repSL_get rep hq
          have hix : pn[i]? = some x := by
            have h2 : (pn ++ rest)[i]? = some x := hi
            rwa [List.getElem?_append_left (by omega)] at h2
          exact ⟨v, lookup_zip hnp (by rw [hvl, hlen]) hix hv, rv.keeps hk₁⟩
        · rw [List.getElem?_append_right (by simpa using hlt)] at hp
          have := List.mem_of_getElem? hp
          rw [List.eq_of_mem_replicate this]
          trivial
      refine hb b rfl rfl rfl { s with heap := h₁, toks := _ } _ _ _ S ?_
      revert P
      cases hr : r (ps.map .sc ++ List.replicate rest.length .unb) with
      | bad => exact fun P => P.elim
      | next σ => exact fun P => P.elim
      | cont σ => exact fun P => P.elim
      | ret p => exact fun P v h' tk' kk rv => P v h' tk' kk rv
      | exc n =>
        intro P e fl h' tk' hfl X u
        have hfr : b.A.frames = some (b.env :: b.outer) := S.below.stack
        refine fly_leaving (s := { s with heap := h', toks := tk' }) hfr rfl X hfl fun h2 X2 u2 => ?_
        exact P e h2 tk' X2 (u.trans u2)
  · exact P.elim
end Mine

namespace Mine
open PySem PySem.W PyProof.Rows PySem.Calls PySem.SeqAt
variable {G : Gx} {b : Bx G}

/-! the little language that the bodies are told in -/
noncomputable abbrev XP := List PV → Rs PV
noncomputable abbrev XB := List PV → Rs Bool
noncomputable abbrev XL := List PV → Rs (List PV)
noncomputable abbrev XS := List PV → SR
noncomputable def xC (c : Sc) : XP := fun _ => .ok (.sc c)
noncomputable def xNil : XP := fun _ => .ok (.lst [])
noncomputable def xBin (op : BOp) (x y : XP) : XP := fun σ => (x σ).bind fun p => (y σ).bind fun q => binR op p q
noncomputable def xNeg (x : XP) : XP := fun σ => (x σ).bind negR
noncomputable def xLen (x : XP) : XP := fun σ => (x σ).bind lenR
noncomputable def xOrd (x : XP) : XP := fun σ => (x σ).bind ordR
noncomputable def xMax (x y : XP) : XP := fun σ => (x σ).bind fun p => (y σ).bind fun q => maxR p q
noncomputable def xFind (z : Str) (x : XP) : XP := fun σ => (x σ).bind (findR z)
noncomputable def xIdx (x y : XP) : XP := fun σ => (x σ).bind fun p => (y σ).bind fun q => idxR p q
noncomputable def xSlc (x y z : XP) : XP := fun σ => (x σ).bind fun p => (y σ).bind fun q => (z σ).bind fun r => slcR p q r
noncomputable def xCmp (op : COp) (x y : XP) : XP := fun σ => (x σ).bind fun p => (y σ).bind fun q => cmpR op p q
noncomputable def tCmp (op : COp) (x y : XP) : XB := fun σ => (x σ).bind fun p => (y σ).bind fun q => (cmpR op p q).bind truthR
noncomputable def xK (f : PV → Rs PV) (x : XP) : XP := fun σ => (x σ).bind f
noncomputable def tK (f : PV → Rs PV) (x : XP) : XB := fun σ => (x σ).bind fun p => (f p).bind truthR
noncomputable def tOf (x : XP) : XB := fun σ => (x σ).bind truthR
noncomputable def tNot (x : XB) : XB := fun σ => (x σ).bind fun c => .ok (!c)
noncomputable def tAnd (x y : XB) : XB := fun σ => (x σ).bind fun c => if c then y σ else .ok false
noncomputable def tOr (x y : XB) : XB := fun σ => (x σ).bind fun c => if c then .ok true else y σ
noncomputable def xAnd (x y : XP) : XP := fun σ => (x σ).bind fun p => (truthR p).bind fun c => if c then y σ else bl false
noncomputable def xOr (x y : XP) : XP := fun σ => (x σ).bind fun p => (truthR p).bind fun c => if c then bl true else y σ
noncomputable def xNot (x : XP) : XP := fun σ => (x σ).bind fun p => (truthR p).bind fun c => bl (!c)
noncomputable def xIte (t : XB) (x y : XP) : XP := fun σ => (t σ).bind fun c => if c then x σ else y σ
noncomputable def aNil : XL := fun _ => .ok []
noncomputable def aCons (x : XP) (r : XL) : XL := fun σ => (x σ).bind fun p => (r σ).bind fun ps => .ok (p :: ps)
noncomputable def aStrs (l : List Str) : XL := fun _ => .ok (l.map fun c => .sc (.str c))
noncomputable def xTup (r : XL) : XP := fun σ => (r σ).bind mkTup
noncomputable def xCall (F : List Sc → Rs PV) (r : XL) : XP := fun σ => (r σ).bind fun ps => (allSc ps).bind F
noncomputable def sAssign (i : Nat) (x : XP) : XS := fun σ => (x σ).to fun p => .next (σ.set i p)
noncomputable def sUnp (is : List Nat) (x : XP) : XS := fun σ => (x σ).to (unpR is σ)
noncomputable def sSwap (is : List Nat) (x : XP) : XS := fun σ => (x σ).to (unpRevR is σ)
noncomputable def sAug (i : Nat) (x : XP) : XS := fun σ => ((getL i σ).bind fun p => (x σ).bind fun q => augR p q).to fun p => .next (σ.set i p)
noncomputable def sIf (t : XB) (x y : XS) : XS := fun σ => (t σ).to fun c => if c then x σ else y σ
noncomputable def sRet (x : XP) : XS := fun σ => (x σ).to .ret
noncomputable def sCont : XS := fun σ => .cont σ
noncomputable def sNil : XS := fun σ => .next σ
noncomputable def sCons (x y : XS) : XS := fun σ => (x σ).andThen y
noncomputable def raiseR : PV → SR
  | .sc (.int n) => .exc n
  | _ => .bad
noncomputable def sRaise (x : XP) : XS := fun σ => (x σ).to raiseR

theorem pC_none {k : Nat} {pos : Pos} : Ev b (.Constant .none k pos) (xC .none) := Ev_none
theorem pC_bool {c : Bool} {k : Nat} {pos : Pos} : Ev b (.Constant (.bool c) k pos) (xC (.bool c)) := Ev_bool
theorem pC_int {c : Int} {k : Nat} {pos : Pos} : Ev b (.Constant (.int c) k pos) (xC (.int c)) := Ev_int
theorem pC_str {c : Str} {k : Nat} {pos : Pos} : Ev b (.Constant (.str c) k pos) (xC (.str c)) := Ev_str
theorem pGlb {x : Str} {pos : Pos} {v : Value} {q : Sc} (hv : nsIn G.K mainGlobals x = some (some v)) (hr : RepS G.base q v) (hx : b.scope.names.lookup x = some .globalImplicit) (hd : (x == ("__debug__" : Str)) = false) : Ev b (.Name x pos) (xC q) := Ev_glb hv hr hx hd
theorem pNil {lp : Pos} : Ev b (.List [] lp) xNil := by
  intro s σ Q E S P
  refine List_ (args_nil ?_)
  unfold newList
  refine wpAny_newObj_type ?_ (by show (0 : Nat) ≤ _; exact Nat.zero_le _)
  have hn : (s.heap.push { cls := .type "list", data := .seq #[] }).PlainList s.heap.objs.size #[] := ⟨0, Heap.get?_push_size _ rfl⟩
  exact P _ _ s.toks (stays_push _ _) ⟨_, [], rfl, hn, rfl, Heap.StaysIn.fresh S.stays⟩
theorem pAdd {x y : Expr} {pos : Pos} {rx ry : XP} (hx : Ev b x rx) (hy : Ev b y ry) : Ev b (.BinOp x .Add y pos) (xBin .add rx ry) := Ev_add hx hy
theorem pSub {x y : Expr} {pos : Pos} {rx ry : XP} (hx : Ev b x rx) (hy : Ev b y ry) : Ev b (.BinOp x .Sub y pos) (xBin .sub rx ry) := Ev_sub hx hy
theorem pMul {x y : Expr} {pos : Pos} {rx ry : XP} (hx : Ev b x rx) (hy : Ev b y ry) : Ev b (.BinOp x .Mult y pos) (xBin .mul rx ry) := Ev_mul hx hy
theorem pNeg {x : Expr} {pos : Pos} {rx : XP} (hx : Ev b x rx) : Ev b (.UnaryOp .USub x pos) (xNeg rx) := Ev_neg hx
theorem pLen {np pos : Pos} {e : Expr} {re : XP} (he : Ev b e re) (hv : nsIn G.K mainGlobals "len" = some none) (hx : b.scope.names.lookup ("len" : Str) = some .globalImplicit) (hs : notStar e = true) : Ev b (.Call (.Name "len" np) [e] [] pos) (xLen re) := Ev_len he hv boot_len hx hs
theorem pOrd {np pos : Pos} {e : Expr} {re : XP} (he : Ev b e re) (hv : nsIn G.K mainGlobals "ord" = some none) (hx : b.scope.names.lookup ("ord" : Str) = some .globalImplicit) (hs : notStar e = true) : Ev b (.Call (.Name "ord" np) [e] [] pos) (xOrd re) := Ev_ord he hv boot_ord hx hs
theorem pMax {np pos : Pos} {x y : Expr} {rx ry : XP} (hx : Ev b x rx) (hy : Ev b y ry) (hv : nsIn G.K mainGlobals "max" = some none) (hn : b.scope.names.lookup ("max" : Str) = some .globalImplicit) (hs : notStar x = true) (hs' : notStar y = true) :
    Ev b (.Call (.Name "max" np) [x, y] [] pos) (xMax rx ry) := Ev_max hx hy hv boot_max hn hs hs'
theorem pFind {x z : Str} {np ap pos : Pos} {e : Expr} {re : XP} (ho : Ev b (.Name x np) (xC (.str z))) (he : Ev b e re) (hs : notStar e = true) (hl : (ap.endLine == pos.line) = true) : Ev b (.Call (.Attribute (.Name x np) "find" ap) [e] [] pos) (xFind z re) := Ev_find ho he hs hl
theorem pIdx {x : Str} {np pos : Pos} {e : Expr} {ro re : XP} (ho : Ev b (.Name x np) ro) (he : Ev b e re) (hn : notSlice e = true) : Ev b (.Subscript (.Name x np) e pos) (xIdx ro re) := Ev_idx ho he hn
theorem pSlc {x : Str} {np pos p2 : Pos} {lo hi : Expr} {ro rl rh : XP} (ho : Ev b (.Name x np) ro) (hl : Ev b lo rl) (hh : Ev b hi rh) : Ev b (.Subscript (.Name x np) (.Slice (some lo) (some hi) none p2) pos) (xSlc ro rl rh) := Ev_slc ho hl hh
theorem pCmp (op : COp) {op' : CmpOp} {x y : Expr} {pos : Pos} {rx ry : XP} (hx : Ev b x rx) (hy : Ev b y ry) (hm : behindInMarks op.op y = false) (ho : op.op = op') : Ev b (.Compare x [op'] [y] pos) (xCmp op rx ry) := ho ▸ Ev_cmp op hx hy hm
theorem qCmp (op : COp) {op' : CmpOp} {x y : Expr} {pos : Pos} {rx ry : XP} (hx : Ev b x rx) (hy : Ev b y ry) (hm : behindInMarks op.op y = false) (ho : op.op = op') : Tr b (.Compare x [op'] [y] pos) (tCmp op rx ry) := ho ▸ Tr_cmp op hx hy hm
theorem pK {op : CmpOp} {x y : Expr} {pos : Pos} {rx : XP} {f : PV → Rs PV} (hx : Ev b x rx) (hy : CmpK b op y f) (hm : behindInMarks op y = false) : Ev b (.Compare x [op] [y] pos) (xK f rx) := Ev_cmpK hx hy hm
theorem qK {op : CmpOp} {x y : Expr} {pos : Pos} {rx : XP} {f : PV → Rs PV} (hx : Ev b x rx) (hy : CmpK b op y f) (hm : behindInMarks op y = false) : Tr b (.Compare x [op] [y] pos) (tK f rx) := Tr_cmpK hx hy hm
theorem qOf {x : Expr} {rx : XP} (hx : Ev b x rx) (hp : plainT x = true) : Tr b x (tOf rx) := Tr_of hx hp
theorem qNot {x : Expr} {pos : Pos} {rx : XB} (hx : Tr b x rx) : Tr b (.UnaryOp .Not x pos) (tNot rx) := Tr_not hx
theorem lOne {op : BoolOp} {x : Expr} {rx : XB} (hx : Tr b x rx) : TrL b op [x] rx := TrL_one hx
theorem lAnd {x y : Expr} {rest : List Expr} {rx ry : XB} (hx : Tr b x rx) (hy : TrL b .And (y :: rest) ry) : TrL b .And (x :: y :: rest) (tAnd rx ry) := TrL_and hx hy
theorem lOr {x y : Expr} {rest : List Expr} {rx ry : XB} (hx : Tr b x rx) (hy : TrL b .Or (y :: rest) ry) : TrL b .Or (x :: y :: rest) (tOr rx ry) := TrL_or hx hy
theorem qBool {op : BoolOp} {es : List Expr} {pos : Pos} {r : XB} (h : TrL b op es r) : Tr b (.BoolOp op es pos) r := Tr_bool h
theorem mOne {op : BoolOp} {x : Expr} {rx : XP} (hx : Ev b x rx) : EvL b op [x] rx := EvL_one hx
theorem mAnd {x y : Expr} {rest : List Expr} {rx ry : XP} (hx : Ev b x rx) (hy : EvL b .And (y :: rest) ry) : EvL b .And (x :: y :: rest) (xAnd rx ry) := EvL_and hx hy
theorem mOr {x y : Expr} {rest : List Expr} {rx ry : XP} (hx : Ev b x rx) (hy : EvL b .Or (y :: rest) ry) : EvL b .Or (x :: y :: rest) (xOr rx ry) := EvL_or hx hy
theorem pBool {op : BoolOp} {es : List Expr} {pos : Pos} {r : XP} (h : EvL b op es r) : Ev b (.BoolOp op es pos) r := Ev_boolop h
theorem pNot {x : Expr} {pos : Pos} {rx : XP} (hx : Ev b x rx) : Ev b (.UnaryOp .Not x pos) (xNot rx) := Ev_not hx
theorem pIte {t x y : Expr} {pos : Pos} {rt : XB} {rx ry : XP} (ht : Tr b t rt) (hx : Ev b x rx) (hy : Ev b y ry) : Ev b (.IfExp t x y pos) (xIte rt rx ry) := Ev_ite ht hx hy
theorem eNil : EvA b [] aNil := EvA_nil
theorem eCons {x : Expr} {es : List Expr} {rx : XP} {rs : XL} (hx : Ev b x rx) (hs : EvA b es rs) (hn : notStar x = true) : EvA b (x :: es) (aCons rx rs) := EvA_cons hx hs hn
theorem eStr {c : Str} {l : List Str} {k : Nat} {pos : Pos} {es : List Expr} (h : EvA b es (aStrs l)) : EvA b (.Constant (.str c) k pos :: es) (aStrs (c :: l)) := EvA_cons Ev_str h rfl
theorem eStrNil : EvA b [] (aStrs []) := EvA_nil
theorem pTup {es : List Expr} {k : Nat} {pos : Pos} {rs : XL} (h : EvA b es rs) : Ev b (.Tuple es k pos) (xTup rs) := Ev_tup h
theorem kIn {es : List Expr} {k : Nat} {tp : Pos} {l : List Str} (h : EvA b es (aStrs l)) (hl : l.length ≤ 8) : CmpK b .In (.Tuple es k tp) (inTupR l) := CmpK_in h hl
theorem pCall {x : Str} {np pos : Pos} {a : Expr} {as : List Expr} {rs : XL} {f : Addr} {k : Nat} {F : List Sc → Rs PV} (hF : Meets G f k F) (hk : k ≤ b.k) (hs : EvA b (a :: as) rs)
    (hv : nsIn G.K mainGlobals x = some (some (.ref f))) (hkeep : keepIn G.K (.ref f) = true) (hx : b.scope.names.lookup x = some .globalImplicit) (hns : (a :: as).all notStar = true) (hd : (x == ("__debug__" : Str)) = false) :
    Ev b (.Call (.Name x np) (a :: as) [] pos) (xCall F rs) := Ev_call hF hk hs hv hkeep hx hns hd
theorem sAssign' {x : Str} {i : Nat} {np pos : Pos} {e : Expr} {re : XP} (he : Ev b e re) (hi : b.nm[i]? = some x) (hs : swapsWith e (some (.Name x np)) pos.line b.env = pure false) : Ex b (.Assign [.Name x np] e pos) (sAssign i re) := Ex_assign he hi hs
theorem sUnp' {xs : List Expr} {is : List Nat} {k : Nat} {tpos pos : Pos} {e : Expr} {re : XP} (he : Ev b e re) (hi : NamesAt b.nm xs is)
    (hs : swapsWithSole [.Tuple xs k tpos] e pos.line b.env = pure false) (hw : swappedStores [.Tuple xs k tpos] e b.env = pure none) : Ex b (.Assign [.Tuple xs k tpos] e pos) (sUnp is re) := Ex_unpack he hi hs hw
theorem sSwap' {xs : List Expr} (names : List Str) {is : List Nat} {k : Nat} {tpos pos : Pos} {e : Expr} {re : XP} (he : Ev b e re) (hi : SlotsAt b.nm names.reverse is)
    (hs : swapsWithSole [.Tuple xs k tpos] e pos.line b.env = pure false) (hw : swappedStores [.Tuple xs k tpos] e b.env = pure (some names)) (hn : names.length = is.length) : Ex b (.Assign [.Tuple xs k tpos] e pos) (sSwap is re) := Ex_swap he hi hs hw hn
theorem sAug' {x : Str} {i : Nat} {np pos : Pos} {e : Expr} {re : XP} (he : Ev b e re) (hi : b.nm[i]? = some x) : Ex b (.AugAssign (.Name x np) .Add e pos) (sAug i re) := Ex_aug he hi
theorem sIf' {t : Expr} {body orelse : List Stmt} {pos : Pos} {rt : XB} {rb ro : XS} (ht : Tr b t rt) (hb : Exs b body rb) (ho : Exs b orelse ro) : Ex b (.If t body orelse pos) (sIf rt rb ro) := Ex_if ht hb ho
theorem sRet' {e : Expr} {pos : Pos} {re : XP} (he : Ev b e re) : Ex b (.Return (some e) pos) (sRet re) := Ex_ret he
theorem sCont' {pos : Pos} : Ex b (.Continue pos) sCont := Ex_cont
theorem sNil' : Exs b [] sNil := Exs_nil
theorem sCons' {st : Stmt} {sts : List Stmt} {r rs : XS} (h : Ex b st r) (hs : Exs b sts rs) : Exs b (st :: sts) (sCons r rs) := Exs_cons h hs
theorem sApp' {x y : Str} {i j : Nat} {np np2 ap pos spos : Pos} (hi : b.nm[i]? = some x) (hj : b.nm[j]? = some y) (hl : (ap.endLine == pos.line) = true) : Ex b (.Expr (.Call (.Attribute (.Name x np) "append" ap) [.Name y np2] [] pos) spos) (appR i j) := Ex_append hi hj hl
theorem sWhile' {t : Expr} {body : List Stmt} {pos : Pos} {rt : XB} {rb : XS} (N : Nat) (ht : Tr b t rt) (hb : Exs b body rb) : Ex b (.While t body [] pos) (loopR N rt rb) := Ex_while N ht hb

/-- raise FormatFault(e, 'text') -/
noncomputable def RaiseOk (G : Gx) : Prop := ∀ (b : Bx G) (e : Expr) (re : XP) (msg : Str) (np cpos pos mp : Pos) (k : Nat), Ev b e re → notStar e = true → b.scope.names.lookup ("FormatFault" : Str) = some .globalImplicit →
  Ex b (.Raise (some (.Call (.Name "FormatFault" np) [e, .Constant (.str msg) k mp] [] cpos)) none pos) (sRaise re)
end Mine

namespace Mine
open PySem PySem.W PyProof.Rows PySem.Calls PySem.SeqAt

inductive Fn where
  | pass_blanks
  | number_at
  | size_at
  | is_at
  | places_at
  | exponent_at
  | whole_edit
  | real_edit
  | value_edit
  | quoted_at
  | counted_text
  | scale_at
  | control_at
  | group_at
  | counted_at
  | item_at
  | may_join
  | items_at
  | format_prefix
  | parse_format
  | lawSkip
  | lawFigures
  | lawValued
  | lawQuoted
  | lawControl
  | lawCounted
  | lawBracket
  | lawItem
  | lawRow
  | lawDue
noncomputable def Fn.addr : Fn → Addr
  | .pass_blanks => 60
  | .number_at => 67
  | .size_at => 74
  | .is_at => 81
  | .places_at => 88
  | .exponent_at => 95
  | .whole_edit => 102
  | .real_edit => 109
  | .value_edit => 116
  | .quoted_at => 123
  | .counted_text => 130
  | .scale_at => 137
  | .control_at => 144
  | .group_at => 151
  | .counted_at => 158
  | .item_at => 165
  | .may_join => 172
  | .items_at => 179
  | .format_prefix => 186
  | .parse_format => 193
  | .lawSkip => 213
  | .lawFigures => 220
  | .lawValued => 227
  | .lawQuoted => 234
  | .lawControl => 241
  | .lawCounted => 248
  | .lawBracket => 255
  | .lawItem => 262
  | .lawRow => 269
  | .lawDue => 276
noncomputable abbrev Phi := Fn → List Sc → Rs PV
noncomputable def r_pass_blanks (φ : Phi) : XS := (sCons (loopR 4096 (tAnd (tCmp .lt (getL 1) (xLen (getL 0))) (tCmp .eq (xIdx (getL 0) (getL 1)) (xC (.str (Str.ofString " "))))) (sCons (sAug 1 (xC (.int 1))) sNil)) (sCons (sRet (getL 1)) sNil))
noncomputable def r_number_at (φ : Phi) : XS := (sCons (sAssign 2 (xCall (φ .pass_blanks) (aCons (getL 0) (aCons (getL 1) aNil)))) (sCons (sAssign 3 (xC .none)) (sCons (loopR 4096 (tAnd (tCmp .lt (getL 2) (xLen (getL 0))) (tCmp .in_ (xIdx (getL 0) (getL 2)) (xC (.str (Str.ofString "0123456789"))))) (sCons (sIf (tCmp .is_ (getL 3) (xC .none)) (sCons (sAssign 3 (xC (.int 0))) sNil) sNil) (sCons (sAssign 3 (xBin .add (xBin .mul (xC (.int 10)) (getL 3)) (xFind (Str.ofString "0123456789") (xIdx (getL 0) (getL 2))))) (sCons (sIf (tCmp .gt (getL 3) (xC (.int 9999))) (sCons (sRaise (getL 2)) sNil) sNil) (sCons (sAssign 2 (xCall (φ .pass_blanks) (aCons (getL 0) (aCons (xBin .add (getL 2) (xC (.int 1))) aNil)))) sNil))))) (sCons (sRet (xTup (aCons (getL 3) (aCons (getL 2) aNil)))) sNil))))
noncomputable def r_size_at (φ : Phi) : XS := (sCons (sUnp [3, 4] (xCall (φ .number_at) (aCons (getL 0) (aCons (getL 1) aNil)))) (sCons (sIf (tOr (tCmp .is_ (getL 3) (xC .none)) (tCmp .lt (getL 3) (getL 2))) (sCons (sRaise (getL 4)) sNil) sNil) (sCons (sRet (xTup (aCons (getL 3) (aCons (getL 4) aNil)))) sNil)))
noncomputable def r_is_at (φ : Phi) : XS := (sCons (sRet (xCmp .eq (xSlc (getL 0) (getL 1) (xBin .add (getL 1) (xC (.int 1)))) (getL 2))) sNil)
noncomputable def r_places_at (φ : Phi) : XS := (sCons (sIf (tNot (tOf (xCall (φ .is_at) (aCons (getL 0) (aCons (getL 1) (aCons (xC (.str (Str.ofString "."))) aNil)))))) (sCons (sRaise (getL 1)) sNil) sNil) (sCons (sRet (xCall (φ .size_at) (aCons (getL 0) (aCons (xBin .add (getL 1) (xC (.int 1))) (aCons (xC (.int 0)) aNil))))) sNil))
noncomputable def r_exponent_at (φ : Phi) : XS := (sCons (sIf (tNot (tOf (xCall (φ .is_at) (aCons (getL 0) (aCons (getL 1) (aCons (xC (.str (Str.ofString "E"))) aNil)))))) (sCons (sRet (xTup (aCons (xC .none) (aCons (getL 1) aNil)))) sNil) sNil) (sCons (sRet (xCall (φ .size_at) (aCons (getL 0) (aCons (xBin .add (getL 1) (xC (.int 1))) (aCons (xC (.int 1)) aNil))))) sNil))
noncomputable def r_whole_edit (φ : Phi) : XS := (sCons (sUnp [2, 3] (xCall (φ .size_at) (aCons (getL 0) (aCons (getL 1) (aCons (xC (.int 1)) aNil))))) (sCons (sIf (tNot (tOf (xCall (φ .is_at) (aCons (getL 0) (aCons (getL 3) (aCons (xC (.str (Str.ofString "."))) aNil)))))) (sCons (sRet (xTup (aCons (xTup (aCons (xC (.str (Str.ofString "I"))) (aCons (getL 2) (aCons (xC .none) aNil)))) (aCons (getL 3) aNil)))) sNil) sNil) (sCons (sUnp [4, 3] (xCall (φ .size_at) (aCons (getL 0) (aCons (xBin .add (getL 3) (xC (.int 1))) (aCons (xC (.int 0)) aNil))))) (sCons (sIf (tCmp .gt (getL 4) (getL 2)) (sCons (sRaise (getL 3)) sNil) sNil) (sCons (sRet (xTup (aCons (xTup (aCons (xC (.str (Str.ofString "I"))) (aCons (getL 2) (aCons (getL 4) aNil)))) (aCons (getL 3) aNil)))) sNil)))))
noncomputable def r_real_edit (φ : Phi) : XS := (sCons (sUnp [3, 4] (xCall (φ .size_at) (aCons (getL 1) (aCons (getL 2) (aCons (xC (.int 1)) aNil))))) (sCons (sUnp [5, 4] (xCall (φ .places_at) (aCons (getL 1) (aCons (getL 4) aNil)))) (sCons (sIf (tOr (tCmp .eq (getL 0) (xC (.str (Str.ofString "F")))) (tCmp .eq (getL 0) (xC (.str (Str.ofString "D"))))) (sCons (sRet (xTup (aCons (xTup (aCons (getL 0) (aCons (getL 3) (aCons (getL 5) aNil)))) (aCons (getL 4) aNil)))) sNil) sNil) (sCons (sUnp [6, 4] (xCall (φ .exponent_at) (aCons (getL 1) (aCons (getL 4) aNil)))) (sCons (sRet (xTup (aCons (xTup (aCons (getL 0) (aCons (getL 3) (aCons (getL 5) (aCons (getL 6) aNil))))) (aCons (getL 4) aNil)))) sNil)))))
noncomputable def r_value_edit (φ : Phi) : XS := (sCons (sAssign 2 (xIdx (getL 0) (getL 1))) (sCons (sIf (tCmp .eq (getL 2) (xC (.str (Str.ofString "I")))) (sCons (sRet (xCall (φ .whole_edit) (aCons (getL 0) (aCons (xBin .add (getL 1) (xC (.int 1))) aNil)))) sNil) sNil) (sCons (sIf (tCmp .eq (getL 2) (xC (.str (Str.ofString "L")))) (sCons (sUnp [3, 4] (xCall (φ .size_at) (aCons (getL 0) (aCons (xBin .add (getL 1) (xC (.int 1))) (aCons (xC (.int 1)) aNil))))) (sCons (sRet (xTup (aCons (xTup (aCons (xC (.str (Str.ofString "L"))) (aCons (getL 3) aNil))) (aCons (getL 4) aNil)))) sNil)) sNil) (sCons (sIf (tCmp .eq (getL 2) (xC (.str (Str.ofString "A")))) (sCons (sUnp [3, 4] (xCall (φ .number_at) (aCons (getL 0) (aCons (xBin .add (getL 1) (xC (.int 1))) aNil)))) (sCons (sIf (tCmp .eq (getL 3) (xC (.int 0))) (sCons (sRaise (getL 4)) sNil) sNil) (sCons (sRet (xTup (aCons (xTup (aCons (xC (.str (Str.ofString "A"))) (aCons (getL 3) aNil))) (aCons (getL 4) aNil)))) sNil))) sNil) (sCons (sRet (xCall (φ .real_edit) (aCons (getL 2) (aCons (getL 0) (aCons (xBin .add (getL 1) (xC (.int 1))) aNil))))) sNil)))))
noncomputable def r_quoted_at (φ : Phi) : XS := (sCons (sAssign 2 (xC (.str (Str.ofString "")))) (sCons (sAssign 3 (xBin .add (getL 1) (xC (.int 1)))) (sCons (loopR 4096 (tCmp .lt (getL 3) (xLen (getL 0))) (sCons (sIf (tCmp .ne (xIdx (getL 0) (getL 3)) (xC (.str (Str.ofString "'")))) (sCons (sAug 2 (xIdx (getL 0) (getL 3))) (sCons (sAug 3 (xC (.int 1))) sNil)) (sCons (sIf (tOf (xCall (φ .is_at) (aCons (getL 0) (aCons (xBin .add (getL 3) (xC (.int 1))) (aCons (xC (.str (Str.ofString "'"))) aNil))))) (sCons (sAug 2 (xC (.str (Str.ofString "'")))) (sCons (sAug 3 (xC (.int 2))) sNil)) (sCons (sIf (tCmp .eq (getL 2) (xC (.str (Str.ofString "")))) (sCons (sRaise (getL 1)) sNil) sNil) (sCons (sRet (xTup (aCons (xTup (aCons (xC (.str (Str.ofString "H"))) (aCons (getL 2) aNil))) (aCons (xBin .add (getL 3) (xC (.int 1))) aNil)))) sNil))) sNil)) sNil)) (sCons (sRaise (getL 1)) sNil))))
noncomputable def r_counted_text (φ : Phi) : XS := (sCons (sIf (tCmp .gt (xBin .add (getL 1) (getL 2)) (xLen (getL 0))) (sCons (sRaise (getL 1)) sNil) sNil) (sCons (sRet (xTup (aCons (xTup (aCons (xC (.str (Str.ofString "H"))) (aCons (xSlc (getL 0) (getL 1) (xBin .add (getL 1) (getL 2))) aNil))) (aCons (xBin .add (getL 1) (getL 2)) aNil)))) sNil))
noncomputable def r_scale_at (φ : Phi) : XS := (sCons (sUnp [2, 3] (xCall (φ .size_at) (aCons (getL 0) (aCons (xBin .add (getL 1) (xC (.int 1))) (aCons (xC (.int 0)) aNil))))) (sCons (sIf (tNot (tOf (xCall (φ .is_at) (aCons (getL 0) (aCons (getL 3) (aCons (xC (.str (Str.ofString "P"))) aNil)))))) (sCons (sRaise (getL 3)) sNil) sNil) (sCons (sIf (tCmp .eq (xIdx (getL 0) (getL 1)) (xC (.str (Str.ofString "-")))) (sCons (sAssign 2 (xNeg (getL 2))) sNil) sNil) (sCons (sRet (xTup (aCons (xTup (aCons (xC (.str (Str.ofString "P"))) (aCons (getL 2) aNil))) (aCons (xBin .add (getL 3) (xC (.int 1))) aNil)))) sNil))))
noncomputable def r_control_at (φ : Phi) : XS := (sCons (sAssign 2 (xIdx (getL 0) (getL 1))) (sCons (sIf (tOr (tCmp .eq (getL 2) (xC (.str (Str.ofString "/")))) (tCmp .eq (getL 2) (xC (.str (Str.ofString ":"))))) (sCons (sRet (xTup (aCons (xTup (aCons (getL 2) aNil)) (aCons (xBin .add (getL 1) (xC (.int 1))) aNil)))) sNil) sNil) (sCons (sAssign 3 (xCall (φ .pass_blanks) (aCons (getL 0) (aCons (xBin .add (getL 1) (xC (.int 1))) aNil)))) (sCons (sIf (tCmp .eq (getL 2) (xC (.str (Str.ofString "S")))) (sCons (sIf (tOr (tOf (xCall (φ .is_at) (aCons (getL 0) (aCons (getL 3) (aCons (xC (.str (Str.ofString "P"))) aNil))))) (tOf (xCall (φ .is_at) (aCons (getL 0) (aCons (getL 3) (aCons (xC (.str (Str.ofString "S"))) aNil)))))) (sCons (sRet (xTup (aCons (xTup (aCons (xBin .add (xC (.str (Str.ofString "S"))) (xIdx (getL 0) (getL 3))) aNil)) (aCons (xBin .add (getL 3) (xC (.int 1))) aNil)))) sNil) sNil) (sCons (sRet (xTup (aCons (xTup (aCons (xC (.str (Str.ofString "S"))) aNil)) (aCons (getL 3) aNil)))) sNil)) sNil) (sCons (sIf (tAnd (tCmp .eq (getL 2) (xC (.str (Str.ofString "B")))) (tOr (tOf (xCall (φ .is_at) (aCons (getL 0) (aCons (getL 3) (aCons (xC (.str (Str.ofString "N"))) aNil))))) (tOf (xCall (φ .is_at) (aCons (getL 0) (aCons (getL 3) (aCons (xC (.str (Str.ofString "Z"))) aNil))))))) (sCons (sRet (xTup (aCons (xTup (aCons (xBin .add (xC (.str (Str.ofString "B"))) (xIdx (getL 0) (getL 3))) aNil)) (aCons (xBin .add (getL 3) (xC (.int 1))) aNil)))) sNil) sNil) (sCons (sIf (tCmp .eq (getL 2) (xC (.str (Str.ofString "T")))) (sCons (sAssign 4 (xC (.str (Str.ofString "T")))) (sCons (sIf (tOr (tOf (xCall (φ .is_at) (aCons (getL 0) (aCons (getL 3) (aCons (xC (.str (Str.ofString "L"))) aNil))))) (tOf (xCall (φ .is_at) (aCons (getL 0) (aCons (getL 3) (aCons (xC (.str (Str.ofString "R"))) aNil)))))) (sCons (sAssign 4 (xBin .add (xC (.str (Str.ofString "T"))) (xIdx (getL 0) (getL 3)))) (sCons (sAug 3 (xC (.int 1))) sNil)) sNil) (sCons (sUnp [5, 3] (xCall (φ .size_at) (aCons (getL 0) (aCons (getL 3) (aCons (xC (.int 1)) aNil))))) (sCons (sRet (xTup (aCons (xTup (aCons (getL 4) (aCons (getL 5) aNil))) (aCons (getL 3) aNil)))) sNil)))) sNil) (sCons (sRaise (getL 1)) sNil)))))))
noncomputable def r_group_at (φ : Phi) : XS := (sCons (sIf (tCmp .eq (getL 3) (xC (.int 10))) (sCons (sRaise (getL 1)) sNil) sNil) (sCons (sUnp [4, 5] (xCall (φ .items_at) (aCons (getL 0) (aCons (xBin .add (getL 1) (xC (.int 1))) (aCons (xBin .add (getL 3) (xC (.int 1))) aNil))))) (sCons (sIf (tK nilR (getL 4)) (sCons (sRaise (getL 5)) sNil) sNil) (sCons (sRet (xTup (aCons (xTup (aCons (xC (.str (Str.ofString "group"))) (aCons (getL 2) (aCons (getL 4) aNil)))) (aCons (xBin .add (getL 5) (xC (.int 1))) aNil)))) sNil))))
noncomputable def r_counted_at (φ : Phi) : XS := (sCons (sUnp [3, 4] (xCall (φ .number_at) (aCons (getL 0) (aCons (getL 1) aNil)))) (sCons (sAssign 5 (xSlc (getL 0) (getL 4) (xBin .add (getL 4) (xC (.int 1))))) (sCons (sIf (tCmp .eq (getL 5) (xC (.str (Str.ofString "P")))) (sCons (sRet (xTup (aCons (xTup (aCons (xC (.str (Str.ofString "P"))) (aCons (getL 3) aNil))) (aCons (xBin .add (getL 4) (xC (.int 1))) aNil)))) sNil) sNil) (sCons (sIf (tCmp .eq (getL 3) (xC (.int 0))) (sCons (sRaise (getL 1)) sNil) sNil) (sCons (sIf (tCmp .eq (getL 5) (xC (.str (Str.ofString "X")))) (sCons (sRet (xTup (aCons (xTup (aCons (xC (.str (Str.ofString "X"))) (aCons (getL 3) aNil))) (aCons (xBin .add (getL 4) (xC (.int 1))) aNil)))) sNil) sNil) (sCons (sIf (tCmp .eq (getL 5) (xC (.str (Str.ofString "H")))) (sCons (sRet (xCall (φ .counted_text) (aCons (getL 0) (aCons (xBin .add (getL 4) (xC (.int 1))) (aCons (getL 3) aNil))))) sNil) sNil) (sCons (sIf (tCmp .eq (getL 5) (xC (.str (Str.ofString "(")))) (sCons (sRet (xCall (φ .group_at) (aCons (getL 0) (aCons (getL 4) (aCons (getL 3) (aCons (getL 2) aNil)))))) sNil) sNil) (sCons (sIf (tOr (tCmp .eq (getL 5) (xC (.str (Str.ofString "")))) (tCmp .notin (getL 5) (xC (.str (Str.ofString "IFEDGLA"))))) (sCons (sRaise (getL 4)) sNil) sNil) (sCons (sUnp [6, 7] (xCall (φ .value_edit) (aCons (getL 0) (aCons (getL 4) aNil)))) (sCons (sIf (tCmp .gt (getL 3) (xC (.int 1))) (sCons (sAssign 6 (xTup (aCons (xC (.str (Str.ofString "repeat"))) (aCons (getL 3) (aCons (getL 6) aNil))))) sNil) sNil) (sCons (sRet (xTup (aCons (getL 6) (aCons (getL 7) aNil)))) sNil)))))))))))
noncomputable def r_item_at (φ : Phi) : XS := (sCons (sAssign 3 (xIdx (getL 0) (getL 1))) (sCons (sIf (tCmp .in_ (getL 3) (xC (.str (Str.ofString "0123456789")))) (sCons (sRet (xCall (φ .counted_at) (aCons (getL 0) (aCons (getL 1) (aCons (getL 2) aNil))))) sNil) sNil) (sCons (sIf (tCmp .eq (getL 3) (xC (.str (Str.ofString "'")))) (sCons (sRet (xCall (φ .quoted_at) (aCons (getL 0) (aCons (getL 1) aNil)))) sNil) sNil) (sCons (sIf (tOr (tCmp .eq (getL 3) (xC (.str (Str.ofString "+")))) (tCmp .eq (getL 3) (xC (.str (Str.ofString "-"))))) (sCons (sRet (xCall (φ .scale_at) (aCons (getL 0) (aCons (getL 1) aNil)))) sNil) sNil) (sCons (sIf (tCmp .eq (getL 3) (xC (.str (Str.ofString "(")))) (sCons (sRet (xCall (φ .group_at) (aCons (getL 0) (aCons (getL 1) (aCons (xC (.int 1)) (aCons (getL 2) aNil)))))) sNil) sNil) (sCons (sIf (tCmp .in_ (getL 3) (xC (.str (Str.ofString "IFEDGLA")))) (sCons (sRet (xCall (φ .value_edit) (aCons (getL 0) (aCons (getL 1) aNil)))) sNil) sNil) (sCons (sRet (xCall (φ .control_at) (aCons (getL 0) (aCons (getL 1) aNil)))) sNil)))))))
noncomputable def r_may_join (φ : Phi) : XS := (sCons (sIf (tOr (tCmp .in_ (xIdx (getL 0) (xC (.int 0))) (xC (.str (Str.ofString "/:")))) (tCmp .in_ (xIdx (getL 1) (xC (.int 0))) (xC (.str (Str.ofString "/:"))))) (sCons (sRet (xC (.bool true))) sNil) sNil) (sCons (sIf (tCmp .eq (xIdx (getL 1) (xC (.int 0))) (xC (.str (Str.ofString "repeat")))) (sCons (sAssign 1 (xIdx (getL 1) (xC (.int 2)))) sNil) sNil) (sCons (sRet (xAnd (xCmp .eq (xIdx (getL 0) (xC (.int 0))) (xC (.str (Str.ofString "P")))) (xCmp .in_ (xIdx (getL 1) (xC (.int 0))) (xC (.str (Str.ofString "FEDG")))))) sNil)))
noncomputable def r_items_at (φ : Phi) : XS := (sCons (sAssign 3 xNil) (sCons (sAssign 4 (xC (.bool false))) (sCons (loopR 4096 (tOf (xC (.bool true))) (sCons (sAssign 5 (xCall (φ .pass_blanks) (aCons (getL 0) (aCons (getL 1) aNil)))) (sCons (sAssign 6 (xSlc (getL 0) (getL 5) (xBin .add (getL 5) (xC (.int 1))))) (sCons (sIf (tCmp .eq (getL 6) (xC (.str (Str.ofString "")))) (sCons (sRaise (getL 5)) sNil) sNil) (sCons (sIf (tOr (tCmp .eq (getL 6) (xC (.str (Str.ofString ",")))) (tCmp .eq (getL 6) (xC (.str (Str.ofString ")"))))) (sCons (sIf (tOr (tOf (getL 4)) (tAnd (tCmp .eq (getL 6) (xC (.str (Str.ofString ",")))) (tK nilR (getL 3)))) (sCons (sRaise (getL 5)) sNil) sNil) (sCons (sIf (tCmp .eq (getL 6) (xC (.str (Str.ofString ")")))) (sCons (sRet (xTup (aCons (getL 3) (aCons (getL 5) aNil)))) sNil) sNil) (sCons (sAssign 4 (xC (.bool true))) (sCons (sAssign 1 (xBin .add (getL 5) (xC (.int 1)))) sNil)))) (sCons (sUnp [7, 1] (xCall (φ .item_at) (aCons (getL 0) (aCons (getL 5) (aCons (getL 2) aNil))))) (sCons (sIf (tAnd (tK nnilR (getL 3)) (tAnd (tNot (tOf (getL 4))) (tNot (tOf (xCall (φ .may_join) (aCons (xIdx (getL 3) (xNeg (xC (.int 1)))) (aCons (getL 7) aNil))))))) (sCons (sRaise (getL 5)) sNil) sNil) (sCons (appR 3 7) (sCons (sAssign 4 (xC (.bool false))) sNil))))) sNil))))) sNil)))
noncomputable def r_format_prefix (φ : Phi) : XS := (sCons (sAssign 1 (xCall (φ .pass_blanks) (aCons (getL 0) (aCons (xC (.int 0)) aNil)))) (sCons (sIf (tNot (tOf (xCall (φ .is_at) (aCons (getL 0) (aCons (getL 1) (aCons (xC (.str (Str.ofString "("))) aNil)))))) (sCons (sRaise (getL 1)) sNil) sNil) (sCons (sUnp [2, 1] (xCall (φ .items_at) (aCons (getL 0) (aCons (xBin .add (getL 1) (xC (.int 1))) (aCons (xC (.int 0)) aNil))))) (sCons (sRet (xTup (aCons (getL 2) (aCons (xBin .add (getL 1) (xC (.int 1))) aNil)))) sNil))))
noncomputable def r_parse_format (φ : Phi) : XS := (sCons (sUnp [1, 2] (xCall (φ .format_prefix) (aCons (getL 0) aNil))) (sCons (sAssign 2 (xCall (φ .pass_blanks) (aCons (getL 0) (aCons (getL 2) aNil)))) (sCons (sIf (tCmp .lt (getL 2) (xLen (getL 0))) (sCons (sRaise (getL 2)) sNil) sNil) (sCons (sRet (getL 1)) sNil))))
noncomputable def r_lawSkip (φ : Phi) : XS := (sCons (loopR 4096 (tCmp .eq (xSlc (getL 0) (getL 1) (xBin .add (getL 1) (xC (.int 1)))) (xC (.str (Str.ofString " ")))) (sCons (sAssign 1 (xBin .add (getL 1) (xC (.int 1)))) sNil)) (sCons (sRet (getL 1)) sNil))
noncomputable def r_lawFigures (φ : Phi) : XS := (sCons (sSwap [4, 3] (xTup (aCons (xCall (φ .lawSkip) (aCons (getL 0) (aCons (getL 1) aNil))) (aCons (xNeg (xC (.int 1))) aNil)))) (sCons (loopR 4096 (tAnd (tCmp .ne (xSlc (getL 0) (getL 3) (xBin .add (getL 3) (xC (.int 1)))) (xC (.str (Str.ofString "")))) (tCmp .in_ (xIdx (getL 0) (getL 3)) (xC (.str (Str.ofString "0123456789"))))) (sCons (sAssign 4 (xBin .sub (xBin .add (xBin .mul (xMax (getL 4) (xC (.int 0))) (xC (.int 10))) (xOrd (xIdx (getL 0) (getL 3)))) (xC (.int 48)))) (sCons (sIf (tCmp .gt (getL 4) (xC (.int 9999))) (sCons (sRet (xTup (aCons (getL 4) (aCons (getL 3) (aCons (getL 3) aNil))))) sNil) sNil) (sCons (sAssign 3 (xCall (φ .lawSkip) (aCons (getL 0) (aCons (xBin .add (getL 3) (xC (.int 1))) aNil)))) sNil)))) (sCons (sRet (xTup (aCons (getL 4) (aCons (getL 3) (aCons (xIte (tCmp .lt (getL 4) (getL 2)) (getL 3) (xNeg (xC (.int 1)))) aNil))))) sNil)))
noncomputable def r_lawValued (φ : Phi) : XS := (sCons (sAssign 2 (xIdx (getL 0) (getL 1))) (sCons (sIf (tCmp .eq (getL 2) (xC (.str (Str.ofString "A")))) (sCons (sUnp [3, 4, 5] (xCall (φ .lawFigures) (aCons (getL 0) (aCons (xBin .add (getL 1) (xC (.int 1))) (aCons (xNeg (xC (.int 1))) aNil))))) (sCons (sRet (xTup (aCons (getL 2) (aCons (getL 4) (aCons (xIte (tAnd (tCmp .eq (getL 3) (xC (.int 0))) (tCmp .lt (getL 5) (xC (.int 0)))) (getL 4) (getL 5)) aNil))))) sNil)) sNil) (sCons (sUnp [6, 4, 5] (xCall (φ .lawFigures) (aCons (getL 0) (aCons (xBin .add (getL 1) (xC (.int 1))) (aCons (xC (.int 1)) aNil))))) (sCons (sIf (tOr (tCmp .ge (getL 5) (xC (.int 0))) (tCmp .eq (getL 2) (xC (.str (Str.ofString "L"))))) (sCons (sRet (xTup (aCons (getL 2) (aCons (getL 4) (aCons (getL 5) aNil))))) sNil) sNil) (sCons (sIf (tCmp .ne (xSlc (getL 0) (getL 4) (xBin .add (getL 4) (xC (.int 1)))) (xC (.str (Str.ofString ".")))) (sCons (sRet (xTup (aCons (getL 2) (aCons (getL 4) (aCons (xIte (tCmp .eq (getL 2) (xC (.str (Str.ofString "I")))) (xNeg (xC (.int 1))) (getL 4)) aNil))))) sNil) sNil) (sCons (sUnp [7, 4, 5] (xCall (φ .lawFigures) (aCons (getL 0) (aCons (xBin .add (getL 4) (xC (.int 1))) (aCons (xC (.int 0)) aNil))))) (sCons (sIf (tAnd (tCmp .lt (getL 5) (xC (.int 0))) (tAnd (tCmp .eq (getL 2) (xC (.str (Str.ofString "I")))) (tCmp .gt (getL 7) (getL 6)))) (sCons (sRet (xTup (aCons (getL 2) (aCons (getL 4) (aCons (getL 4) aNil))))) sNil) sNil) (sCons (sIf (tAnd (tCmp .lt (getL 5) (xC (.int 0))) (tAnd (tCmp .in_ (getL 2) (xC (.str (Str.ofString "EG")))) (tCmp .eq (xSlc (getL 0) (getL 4) (xBin .add (getL 4) (xC (.int 1)))) (xC (.str (Str.ofString "E")))))) (sCons (sUnp [8, 4, 5] (xCall (φ .lawFigures) (aCons (getL 0) (aCons (xBin .add (getL 4) (xC (.int 1))) (aCons (xC (.int 1)) aNil))))) sNil) sNil) (sCons (sRet (xTup (aCons (getL 2) (aCons (getL 4) (aCons (getL 5) aNil))))) sNil)))))))))
noncomputable def r_lawQuoted (φ : Phi) : XS := (sCons (sAssign 2 (xBin .add (getL 1) (xC (.int 1)))) (sCons (loopR 4096 (tCmp .lt (getL 2) (xLen (getL 0))) (sCons (sIf (tAnd (tCmp .eq (xIdx (getL 0) (getL 2)) (xC (.str (Str.ofString "'")))) (tCmp .ne (xSlc (getL 0) (xBin .add (getL 2) (xC (.int 1))) (xBin .add (getL 2) (xC (.int 2)))) (xC (.str (Str.ofString "'"))))) (sCons (sRet (xTup (aCons (xC (.str (Str.ofString "H"))) (aCons (xBin .add (getL 2) (xC (.int 1))) (aCons (xIte (tCmp .eq (getL 2) (xBin .add (getL 1) (xC (.int 1)))) (getL 1) (xNeg (xC (.int 1)))) aNil))))) sNil) sNil) (sCons (sAssign 2 (xBin .add (getL 2) (xIte (tCmp .eq (xIdx (getL 0) (getL 2)) (xC (.str (Str.ofString "'")))) (xC (.int 2)) (xC (.int 1))))) sNil))) (sCons (sRet (xTup (aCons (xC (.str (Str.ofString "H"))) (aCons (getL 2) (aCons (getL 1) aNil))))) sNil)))
noncomputable def r_lawControl (φ : Phi) : XS := (sCons (sSwap [3, 2] (xTup (aCons (xIdx (getL 0) (getL 1)) (aCons (xCall (φ .lawSkip) (aCons (getL 0) (aCons (xBin .add (getL 1) (xC (.int 1))) aNil))) aNil)))) (sCons (sIf (tCmp .in_ (getL 2) (xC (.str (Str.ofString "/:")))) (sCons (sRet (xTup (aCons (getL 2) (aCons (xBin .add (getL 1) (xC (.int 1))) (aCons (xNeg (xC (.int 1))) aNil))))) sNil) sNil) (sCons (sIf (tCmp .eq (getL 2) (xC (.str (Str.ofString "S")))) (sCons (sRet (xTup (aCons (getL 2) (aCons (xIte (tK (inTupR [(Str.ofString "P"), (Str.ofString "S")]) (xSlc (getL 0) (getL 3) (xBin .add (getL 3) (xC (.int 1))))) (xBin .add (getL 3) (xC (.int 1))) (getL 3)) (aCons (xNeg (xC (.int 1))) aNil))))) sNil) sNil) (sCons (sIf (tAnd (tCmp .eq (getL 2) (xC (.str (Str.ofString "B")))) (tK (inTupR [(Str.ofString "N"), (Str.ofString "Z")]) (xSlc (getL 0) (getL 3) (xBin .add (getL 3) (xC (.int 1)))))) (sCons (sRet (xTup (aCons (getL 2) (aCons (xBin .add (getL 3) (xC (.int 1))) (aCons (xNeg (xC (.int 1))) aNil))))) sNil) sNil) (sCons (sIf (tCmp .eq (getL 2) (xC (.str (Str.ofString "T")))) (sCons (sUnp [4, 3, 5] (xCall (φ .lawFigures) (aCons (getL 0) (aCons (xIte (tK (inTupR [(Str.ofString "L"), (Str.ofString "R")]) (xSlc (getL 0) (getL 3) (xBin .add (getL 3) (xC (.int 1))))) (xBin .add (getL 3) (xC (.int 1))) (getL 3)) (aCons (xC (.int 1)) aNil))))) (sCons (sRet (xTup (aCons (getL 2) (aCons (getL 3) (aCons (getL 5) aNil))))) sNil)) sNil) (sCons (sRet (xTup (aCons (getL 2) (aCons (getL 1) (aCons (getL 1) aNil))))) sNil))))))
noncomputable def r_lawCounted (φ : Phi) : XS := (sCons (sUnp [3, 4, 5] (xCall (φ .lawFigures) (aCons (getL 0) (aCons (getL 1) (aCons (xNeg (xC (.int 1))) aNil))))) (sCons (sAssign 6 (xSlc (getL 0) (getL 4) (xBin .add (getL 4) (xC (.int 1))))) (sCons (sIf (tOr (tCmp .ge (getL 5) (xC (.int 0))) (tCmp .eq (getL 6) (xC (.str (Str.ofString "P"))))) (sCons (sRet (xTup (aCons (xC (.str (Str.ofString "P"))) (aCons (xBin .add (getL 4) (xC (.int 1))) (aCons (getL 5) aNil))))) sNil) sNil) (sCons (sIf (tCmp .eq (getL 3) (xC (.int 0))) (sCons (sRet (xTup (aCons (getL 6) (aCons (getL 4) (aCons (getL 1) aNil))))) sNil) sNil) (sCons (sIf (tCmp .eq (getL 6) (xC (.str (Str.ofString "X")))) (sCons (sRet (xTup (aCons (getL 6) (aCons (xBin .add (getL 4) (xC (.int 1))) (aCons (xNeg (xC (.int 1))) aNil))))) sNil) sNil) (sCons (sIf (tCmp .eq (getL 6) (xC (.str (Str.ofString "H")))) (sCons (sRet (xTup (aCons (getL 6) (aCons (xBin .add (xBin .add (getL 4) (xC (.int 1))) (getL 3)) (aCons (xIte (tCmp .gt (xBin .add (xBin .add (getL 4) (xC (.int 1))) (getL 3)) (xLen (getL 0))) (xBin .add (getL 4) (xC (.int 1))) (xNeg (xC (.int 1)))) aNil))))) sNil) sNil) (sCons (sIf (tCmp .eq (getL 6) (xC (.str (Str.ofString "(")))) (sCons (sRet (xCall (φ .lawBracket) (aCons (getL 0) (aCons (getL 4) (aCons (getL 2) aNil))))) sNil) sNil) (sCons (sIf (tOr (tCmp .eq (getL 6) (xC (.str (Str.ofString "")))) (tCmp .notin (getL 6) (xC (.str (Str.ofString "IFEDGLA"))))) (sCons (sRet (xTup (aCons (getL 6) (aCons (getL 4) (aCons (getL 4) aNil))))) sNil) sNil) (sCons (sRet (xCall (φ .lawValued) (aCons (getL 0) (aCons (getL 4) aNil)))) sNil)))))))))
noncomputable def r_lawBracket (φ : Phi) : XS := (sCons (sIf (tCmp .eq (getL 2) (xC (.int 10))) (sCons (sRet (xTup (aCons (xC (.str (Str.ofString "("))) (aCons (getL 1) (aCons (getL 1) aNil))))) sNil) sNil) (sCons (sUnp [3, 4, 5] (xCall (φ .lawRow) (aCons (getL 0) (aCons (xBin .add (getL 1) (xC (.int 1))) (aCons (xBin .add (getL 2) (xC (.int 1))) aNil))))) (sCons (sRet (xTup (aCons (xC (.str (Str.ofString "("))) (aCons (xBin .add (getL 4) (xC (.int 1))) (aCons (xIte (tAnd (tCmp .lt (getL 5) (xC (.int 0))) (tCmp .eq (getL 3) (xC (.int 0)))) (getL 4) (getL 5)) aNil))))) sNil)))
noncomputable def r_lawItem (φ : Phi) : XS := (sCons (sAssign 3 (xIdx (getL 0) (getL 1))) (sCons (sIf (tCmp .in_ (getL 3) (xC (.str (Str.ofString "0123456789")))) (sCons (sRet (xCall (φ .lawCounted) (aCons (getL 0) (aCons (getL 1) (aCons (getL 2) aNil))))) sNil) sNil) (sCons (sIf (tCmp .eq (getL 3) (xC (.str (Str.ofString "'")))) (sCons (sRet (xCall (φ .lawQuoted) (aCons (getL 0) (aCons (getL 1) aNil)))) sNil) sNil) (sCons (sIf (tCmp .in_ (getL 3) (xC (.str (Str.ofString "+-")))) (sCons (sUnp [4, 5, 6] (xCall (φ .lawFigures) (aCons (getL 0) (aCons (xBin .add (getL 1) (xC (.int 1))) (aCons (xC (.int 0)) aNil))))) (sCons (sRet (xTup (aCons (xC (.str (Str.ofString "P"))) (aCons (xBin .add (getL 5) (xC (.int 1))) (aCons (xIte (tAnd (tCmp .lt (getL 6) (xC (.int 0))) (tCmp .ne (xSlc (getL 0) (getL 5) (xBin .add (getL 5) (xC (.int 1)))) (xC (.str (Str.ofString "P"))))) (getL 5) (getL 6)) aNil))))) sNil)) sNil) (sCons (sIf (tCmp .eq (getL 3) (xC (.str (Str.ofString "(")))) (sCons (sRet (xCall (φ .lawBracket) (aCons (getL 0) (aCons (getL 1) (aCons (getL 2) aNil))))) sNil) sNil) (sCons (sRet (xIte (tCmp .in_ (getL 3) (xC (.str (Str.ofString "IFEDGLA")))) (xCall (φ .lawValued) (aCons (getL 0) (aCons (getL 1) aNil))) (xCall (φ .lawControl) (aCons (getL 0) (aCons (getL 1) aNil))))) sNil))))))
noncomputable def r_lawRow (φ : Phi) : XS := (sCons (sUnp [3, 4, 5] (xTup (aCons (xC (.int 0)) (aCons (xC (.str (Str.ofString ""))) (aCons (xC (.bool true)) aNil))))) (sCons (loopR 4096 (tOf (xC (.bool true))) (sCons (sAssign 6 (xCall (φ .lawSkip) (aCons (getL 0) (aCons (getL 1) aNil)))) (sCons (sAssign 7 (xSlc (getL 0) (getL 6) (xBin .add (getL 6) (xC (.int 1))))) (sCons (sIf (tCmp .eq (getL 7) (xC (.str (Str.ofString "")))) (sCons (sRet (xTup (aCons (getL 3) (aCons (getL 6) (aCons (getL 6) aNil))))) sNil) sNil) (sCons (sIf (tCmp .in_ (getL 7) (xC (.str (Str.ofString ",)")))) (sCons (sIf (tOr (tAnd (tCmp .eq (getL 7) (xC (.str (Str.ofString ",")))) (tOf (getL 5))) (tAnd (tCmp .eq (getL 7) (xC (.str (Str.ofString ")")))) (tAnd (tOf (getL 5)) (tCmp .gt (getL 3) (xC (.int 0)))))) (sCons (sRet (xTup (aCons (getL 3) (aCons (getL 6) (aCons (getL 6) aNil))))) sNil) sNil) (sCons (sIf (tCmp .eq (getL 7) (xC (.str (Str.ofString ")")))) (sCons (sRet (xTup (aCons (getL 3) (aCons (getL 6) (aCons (xNeg (xC (.int 1))) aNil))))) sNil) sNil) (sCons (sSwap [1, 5] (xTup (aCons (xC (.bool true)) (aCons (xBin .add (getL 6) (xC (.int 1))) aNil)))) (sCons sCont sNil)))) sNil) (sCons (sUnp [8, 1, 9] (xCall (φ .lawItem) (aCons (getL 0) (aCons (getL 6) (aCons (getL 2) aNil))))) (sCons (sIf (tCmp .ge (getL 9) (xC (.int 0))) (sCons (sRet (xTup (aCons (getL 3) (aCons (getL 6) (aCons (getL 9) aNil))))) sNil) sNil) (sCons (sAssign 10 (xOr (xK (inTupR [(Str.ofString "/"), (Str.ofString ":")]) (getL 4)) (xOr (xK (inTupR [(Str.ofString "/"), (Str.ofString ":")]) (getL 8)) (xAnd (xCmp .eq (getL 4) (xC (.str (Str.ofString "P")))) (xK (inTupR [(Str.ofString "F"), (Str.ofString "E"), (Str.ofString "D"), (Str.ofString "G")]) (getL 8)))))) (sCons (sIf (tAnd (tNot (tOf (getL 5))) (tNot (tOf (getL 10)))) (sCons (sRet (xTup (aCons (getL 3) (aCons (getL 6) (aCons (getL 6) aNil))))) sNil) sNil) (sCons (sSwap [5, 4, 3] (xTup (aCons (xBin .add (getL 3) (xC (.int 1))) (aCons (getL 8) (aCons (xC (.bool false)) aNil))))) sNil)))))))))) sNil))
noncomputable def r_lawDue (φ : Phi) : XS := (sCons (sAssign 1 (xCall (φ .lawSkip) (aCons (getL 0) (aCons (xC (.int 0)) aNil)))) (sCons (sIf (tCmp .ne (xSlc (getL 0) (getL 1) (xBin .add (getL 1) (xC (.int 1)))) (xC (.str (Str.ofString "(")))) (sCons (sRet (getL 1)) sNil) sNil) (sCons (sUnp [2, 1, 3] (xCall (φ .lawRow) (aCons (getL 0) (aCons (xBin .add (getL 1) (xC (.int 1))) (aCons (xC (.int 0)) aNil))))) (sCons (sIf (tCmp .ge (getL 3) (xC (.int 0))) (sCons (sRet (getL 3)) sNil) sNil) (sCons (sAssign 1 (xCall (φ .lawSkip) (aCons (getL 0) (aCons (xBin .add (getL 1) (xC (.int 1))) aNil)))) (sCons (sRet (xIte (tCmp .lt (getL 1) (xLen (getL 0))) (getL 1) (xNeg (xC (.int 1))))) sNil))))))
noncomputable def Φ : Nat → Phi
  | 0, _ => fun _ => .bad
  | k + 1, f => match f with
    | .pass_blanks => funR 2 0 (r_pass_blanks (Φ k))
    | .number_at => funR 2 2 (r_number_at (Φ k))
    | .size_at => funR 3 2 (r_size_at (Φ k))
    | .is_at => funR 3 0 (r_is_at (Φ k))
    | .places_at => funR 2 0 (r_places_at (Φ k))
    | .exponent_at => funR 2 0 (r_exponent_at (Φ k))
    | .whole_edit => funR 2 3 (r_whole_edit (Φ k))
    | .real_edit => funR 3 4 (r_real_edit (Φ k))
    | .value_edit => funR 2 3 (r_value_edit (Φ k))
    | .quoted_at => funR 2 2 (r_quoted_at (Φ k))
    | .counted_text => funR 3 0 (r_counted_text (Φ k))
    | .scale_at => funR 2 2 (r_scale_at (Φ k))
    | .control_at => funR 2 4 (r_control_at (Φ k))
    | .group_at => funR 4 2 (r_group_at (Φ k))
    | .counted_at => funR 3 5 (r_counted_at (Φ k))
    | .item_at => funR 3 1 (r_item_at (Φ k))
    | .may_join => funR 2 0 (r_may_join (Φ k))
    | .items_at => funR 3 5 (r_items_at (Φ k))
    | .format_prefix => funR 1 2 (r_format_prefix (Φ k))
    | .parse_format => funR 1 2 (r_parse_format (Φ k))
    | .lawSkip => funR 2 0 (r_lawSkip (Φ k))
    | .lawFigures => funR 3 2 (r_lawFigures (Φ k))
    | .lawValued => funR 2 7 (r_lawValued (Φ k))
    | .lawQuoted => funR 2 1 (r_lawQuoted (Φ k))
    | .lawControl => funR 2 4 (r_lawControl (Φ k))
    | .lawCounted => funR 3 4 (r_lawCounted (Φ k))
    | .lawBracket => funR 3 3 (r_lawBracket (Φ k))
    | .lawItem => funR 3 4 (r_lawItem (Φ k))
    | .lawRow => funR 3 8 (r_lawRow (Φ k))
    | .lawDue => funR 1 3 (r_lawDue (Φ k))

structure Gp (G : Gx) (P : Params) : Prop where
  K : G.K = hd.heap_39 P
variable {G : Gx} {P : Params}

theorem Gp.gl_pass_blanks (h : Gp G P) : nsIn G.K mainGlobals (Str.ofString "pass_blanks") = some (some (.ref (Fn.addr .pass_blanks))) := by rw [h.K]; kernel_rfl
theorem Gp.gl_number_at (h : Gp G P) : nsIn G.K mainGlobals (Str.ofString "number_at") = some (some (.ref (Fn.addr .number_at))) := by rw [h.K]; kernel_rfl
theorem Gp.gl_size_at (h : Gp G P) : nsIn G.K mainGlobals (Str.ofString "size_at") = some (some (.ref (Fn.addr .size_at))) := by rw [h.K]; kernel_rfl
theorem Gp.gl_is_at (h : Gp G P) : nsIn G.K mainGlobals (Str.ofString "is_at") = some (some (.ref (Fn.addr .is_at))) := by rw [h.K]; kernel_rfl
theorem Gp.gl_places_at (h : Gp G P) : nsIn G.K mainGlobals (Str.ofString "places_at") = some (some (.ref (Fn.addr .places_at))) := by rw [h.K]; kernel_rfl
theorem Gp.gl_exponent_at (h : Gp G P) : nsIn G.K mainGlobals (Str.ofString "exponent_at") = some (some (.ref (Fn.addr .exponent_at))) := by rw [h.K]; kernel_rfl
theorem Gp.gl_whole_edit (h : Gp G P) : nsIn G.K mainGlobals (Str.ofString "whole_edit") = some (some (.ref (Fn.addr .whole_edit))) := by rw [h.K]; kernel_rfl
theorem Gp.gl_real_edit (h : Gp G P) : nsIn G.K mainGlobals (Str.ofString "real_edit") = some (some (.ref (Fn.addr .real_edit))) := by rw [h.K]; kernel_rfl
theorem Gp.gl_value_edit (h : Gp G P) : nsIn G.K mainGlobals (Str.ofString "value_edit") = some (some (.ref (Fn.addr .value_edit))) := by rw [h.K]; kernel_rfl
theorem Gp.gl_quoted_at (h : Gp G P) : nsIn G.K mainGlobals (Str.ofString "quoted_at") = some (some (.ref (Fn.addr .quoted_at))) := by rw [h.K]; kernel_rfl
theorem Gp.gl_counted_text (h : Gp G P) : nsIn G.K mainGlobals (Str.ofString "counted_text") = some (some (.ref (Fn.addr .counted_text))) := by rw [h.K]; kernel_rfl
theorem Gp.gl_scale_at (h : Gp G P) : nsIn G.K mainGlobals (Str.ofString "scale_at") = some (some (.ref (Fn.addr .scale_at))) := by rw [h.K]; kernel_rfl
theorem Gp.gl_control_at (h : Gp G P) : nsIn G.K mainGlobals (Str.ofString "control_at") = some (some (.ref (Fn.addr .control_at))) := by rw [h.K]; kernel_rfl
theorem Gp.gl_group_at (h : Gp G P) : nsIn G.K mainGlobals (Str.ofString "group_at") = some (some (.ref (Fn.addr .group_at))) := by rw [h.K]; kernel_rfl
theorem Gp.gl_counted_at (h : Gp G P) : nsIn G.K mainGlobals (Str.ofString "counted_at") = some (some (.ref (Fn.addr .counted_at))) := by rw [h.K]; kernel_rfl
theorem Gp.gl_item_at (h : Gp G P) : nsIn G.K mainGlobals (Str.ofString "item_at") = some (some (.ref (Fn.addr .item_at))) := by rw [h.K]; kernel_rfl
theorem Gp.gl_may_join (h : Gp G P) : nsIn G.K mainGlobals (Str.ofString "may_join") = some (some (.ref (Fn.addr .may_join))) := by rw [h.K]; kernel_rfl
theorem Gp.gl_items_at (h : Gp G P) : nsIn G.K mainGlobals (Str.ofString "items_at") = some (some (.ref (Fn.addr .items_at))) := by rw [h.K]; kernel_rfl
theorem Gp.gl_format_prefix (h : Gp G P) : nsIn G.K mainGlobals (Str.ofString "format_prefix") = some (some (.ref (Fn.addr .format_prefix))) := by rw [h.K]; kernel_rfl
theorem Gp.gl_parse_format (h : Gp G P) : nsIn G.K mainGlobals (Str.ofString "parse_format") = some (some (.ref (Fn.addr .parse_format))) := by rw [h.K]; kernel_rfl
theorem Gp.gl_lawSkip (h : Gp G P) : nsIn G.K mainGlobals (Str.ofString "_law_skip") = some (some (.ref (Fn.addr .lawSkip))) := by rw [h.K]; kernel_rfl
theorem Gp.gl_lawFigures (h : Gp G P) : nsIn G.K mainGlobals (Str.ofString "_law_figures") = some (some (.ref (Fn.addr .lawFigures))) := by rw [h.K]; kernel_rfl
theorem Gp.gl_lawValued (h : Gp G P) : nsIn G.K mainGlobals (Str.ofString "_law_valued") = some (some (.ref (Fn.addr .lawValued))) := by rw [h.K]; kernel_rfl
theorem Gp.gl_lawQuoted (h : Gp G P) : nsIn G.K mainGlobals (Str.ofString "_law_quoted") = some (some (.ref (Fn.addr .lawQuoted))) := by rw [h.K]; kernel_rfl
theorem Gp.gl_lawControl (h : Gp G P) : nsIn G.K mainGlobals (Str.ofString "_law_control") = some (some (.ref (Fn.addr .lawControl))) := by rw [h.K]; kernel_rfl
theorem Gp.gl_lawCounted (h : Gp G P) : nsIn G.K mainGlobals (Str.ofString "_law_counted") = some (some (.ref (Fn.addr .lawCounted))) := by rw [h.K]; kernel_rfl
theorem Gp.gl_lawBracket (h : Gp G P) : nsIn G.K mainGlobals (Str.ofString "_law_bracket") = some (some (.ref (Fn.addr .lawBracket))) := by rw [h.K]; kernel_rfl
theorem Gp.gl_lawItem (h : Gp G P) : nsIn G.K mainGlobals (Str.ofString "_law_item") = some (some (.ref (Fn.addr .lawItem))) := by rw [h.K]; kernel_rfl
theorem Gp.gl_lawRow (h : Gp G P) : nsIn G.K mainGlobals (Str.ofString "_law_row") = some (some (.ref (Fn.addr .lawRow))) := by rw [h.K]; kernel_rfl
theorem Gp.gl_lawDue (h : Gp G P) : nsIn G.K mainGlobals (Str.ofString "_law_due") = some (some (.ref (Fn.addr .lawDue))) := by rw [h.K]; kernel_rfl
theorem Gp.gl_len (h : Gp G P) : nsIn G.K mainGlobals (Str.ofString "len") = some none := by rw [h.K]; kernel_rfl
theorem Gp.gl_ord (h : Gp G P) : nsIn G.K mainGlobals (Str.ofString "ord") = some none := by rw [h.K]; kernel_rfl
theorem Gp.gl_max (h : Gp G P) : nsIn G.K mainGlobals (Str.ofString "max") = some none := by rw [h.K]; kernel_rfl
theorem Gp.keep (h : Gp G P) (f : Fn) : keepIn G.K (.ref f.addr) = true := by rw [h.K]; cases f <;> kernel_rfl
theorem Gp.gl_DIGITS (h : Gp G P) : nsIn G.K mainGlobals (Str.ofString "DIGITS") = some (some (.str (Str.ofString "0123456789") 246)) ∧ RepS G.base (Sc.str (Str.ofString "0123456789")) (.str (Str.ofString "0123456789") 246) := ⟨by rw [h.K]; kernel_rfl, _, rfl⟩
theorem Gp.gl_MOST_NUMBER (h : Gp G P) : nsIn G.K mainGlobals (Str.ofString "MOST_NUMBER") = some (some (.int 9999 248)) ∧ RepS G.base (Sc.int 9999) (.int 9999 248) := ⟨by rw [h.K]; kernel_rfl, _, rfl⟩
theorem Gp.gl_MOST_DEPTH (h : Gp G P) : nsIn G.K mainGlobals (Str.ofString "MOST_DEPTH") = some (some (.int 10 250)) ∧ RepS G.base (Sc.int 10) (.int 10 250) := ⟨by rw [h.K]; kernel_rfl, _, rfl⟩
theorem m_pass_blanks (hG : Gp G P) (hR : RaiseOk G) {k : Nat} {φ : Phi} (hφ : ∀ f : Fn, Meets G f.addr k (φ f)) : Meets G (Fn.addr .pass_blanks) (k + 1) (funR 2 0 (r_pass_blanks φ)) := by
  refine Meets_fn (pn := [(Str.ofString "text"), (Str.ofString "at")]) (rest := []) (by rw [hG.K]; exact rfl) (by rw [hG.K]; kernel_rfl) ?_ (by decide +kernel) (by decide +kernel) rfl rfl rfl (by decide +kernel) ?_
  · intro vs hv
    match vs, hv with
    | [a0, a1], _ => rfl
  · intro b hs hn hk
    obtain ⟨A0, base, outer, h0, L, f, qual, scope, cdv, nm, kk, gb, bel, hh, kind, room, nodup, locs⟩ := b
    simp only at hs hn hk
    subst hs hn hk
    exact (sCons' (sWhile' 4096 (qBool (lAnd (qCmp .lt (Ev_loc rfl) (pLen (Ev_loc rfl) hG.gl_len (by kernel_rfl) rfl) rfl rfl) (lOne (qCmp .eq (pIdx (Ev_loc rfl) (Ev_loc rfl) rfl) pC_str rfl rfl)))) (sCons' (sAug' pC_int rfl) sNil')) (sCons' (sRet' (Ev_loc rfl)) sNil'))
theorem m_number_at (hG : Gp G P) (hR : RaiseOk G) {k : Nat} {φ : Phi} (hφ : ∀ f : Fn, Meets G f.addr k (φ f)) : Meets G (Fn.addr .number_at) (k + 1) (funR 2 2 (r_number_at φ)) := by
  refine Meets_fn (pn := [(Str.ofString "text"), (Str.ofString "at")]) (rest := [(Str.ofString "here"), (Str.ofString "value")]) (by rw [hG.K]; exact rfl) (by rw [hG.K]; kernel_rfl) ?_ (by decide +kernel) (by decide +kernel) rfl rfl rfl (by decide +kernel) ?_
  · intro vs hv
    match vs, hv with
    | [a0, a1], _ => rfl
  · intro b hs hn hk
    obtain ⟨A0, base, outer, h0, L, f, qual, scope, cdv, nm, kk, gb, bel, hh, kind, room, nodup, locs⟩ := b
    simp only at hs hn hk
    subst hs hn hk
    exact (sCons' (sAssign' (pCall (hφ .pass_blanks) (Nat.le_refl _) (eCons (Ev_loc rfl) (eCons (Ev_loc rfl) eNil rfl) rfl) hG.gl_pass_blanks (hG.keep .pass_blanks) (by kernel_rfl) rfl (by kernel_rfl)) rfl rfl) (sCons' (sAssign' pC_none rfl rfl) (sCons' (sWhile' 4096 (qBool (lAnd (qCmp .lt (Ev_loc rfl) (pLen (Ev_loc rfl) hG.gl_len (by kernel_rfl) rfl) rfl rfl) (lOne (qCmp .in_ (pIdx (Ev_loc rfl) (Ev_loc rfl) rfl) (pGlb (hG.gl_DIGITS).1 (hG.gl_DIGITS).2 (by kernel_rfl) (by kernel_rfl)) rfl rfl)))) (sCons' (sIf' (qCmp .is_ (Ev_loc rfl) pC_none rfl rfl) (sCons' (sAssign' pC_int rfl rfl) sNil') sNil') (sCons' (sAssign' (pAdd (pMul pC_int (Ev_loc rfl)) (pFind (pGlb (hG.gl_DIGITS).1 (hG.gl_DIGITS).2 (by kernel_rfl) (by kernel_rfl)) (pIdx (Ev_loc rfl) (Ev_loc rfl) rfl) rfl rfl)) rfl rfl) (sCons' (sIf' (qCmp .gt (Ev_loc rfl) (pGlb (hG.gl_MOST_NUMBER).1 (hG.gl_MOST_NUMBER).2 (by kernel_rfl) (by kernel_rfl)) rfl rfl) (sCons' (hR _ _ _ _ _ _ _ _ _ (Ev_loc rfl) rfl (by kernel_rfl)) sNil') sNil') (sCons' (sAssign' (pCall (hφ .pass_blanks) (Nat.le_refl _) (eCons (Ev_loc rfl) (eCons (pAdd (Ev_loc rfl) pC_int) eNil rfl) rfl) hG.gl_pass_blanks (hG.keep .pass_blanks) (by kernel_rfl) rfl (by kernel_rfl)) rfl rfl) sNil'))))) (sCons' (sRet' (pTup (eCons (Ev_loc rfl) (eCons (Ev_loc rfl) eNil rfl) rfl))) sNil'))))
theorem m_size_at (hG : Gp G P) (hR : RaiseOk G) {k : Nat} {φ : Phi} (hφ : ∀ f : Fn, Meets G f.addr k (φ f)) : Meets G (Fn.addr .size_at) (k + 1) (funR 3 2 (r_size_at φ)) := by
  refine Meets_fn (pn := [(Str.ofString "text"), (Str.ofString "at"), (Str.ofString "least")]) (rest := [(Str.ofString "value"), (Str.ofString "here")]) (by rw [hG.K]; exact rfl) (by rw [hG.K]; kernel_rfl) ?_ (by decide +kernel) (by decide +kernel) rfl rfl rfl (by decide +kernel) ?_
  · intro vs hv
    match vs, hv with
    | [a0, a1, a2], _ => rfl
  · intro b hs hn hk
    obtain ⟨A0, base, outer, h0, L, f, qual, scope, cdv, nm, kk, gb, bel, hh, kind, room, nodup, locs⟩ := b
    simp only at hs hn hk
    subst hs hn hk
    exact (sCons' (sUnp' (pCall (hφ .number_at) (Nat.le_refl _) (eCons (Ev_loc rfl) (eCons (Ev_loc rfl) eNil rfl) rfl) hG.gl_number_at (hG.keep .number_at) (by kernel_rfl) rfl (by kernel_rfl)) ⟨rfl, rfl, trivial⟩ rfl (by kernel_rfl)) (sCons' (sIf' (qBool (lOr (qCmp .is_ (Ev_loc rfl) pC_none rfl rfl) (lOne (qCmp .lt (Ev_loc rfl) (Ev_loc rfl) rfl rfl)))) (sCons' (hR _ _ _ _ _ _ _ _ _ (Ev_loc rfl) rfl (by kernel_rfl)) sNil') sNil') (sCons' (sRet' (pTup (eCons (Ev_loc rfl) (eCons (Ev_loc rfl) eNil rfl) rfl))) sNil')))
theorem m_is_at (hG : Gp G P) (hR : RaiseOk G) {k : Nat} {φ : Phi} (hφ : ∀ f : Fn, Meets G f.addr k (φ f)) : Meets G (Fn.addr .is_at) (k + 1) (funR 3 0 (r_is_at φ)) := by
  refine Meets_fn (pn := [(Str.ofString "text"), (Str.ofString "at"), (Str.ofString "sign")]) (rest := []) (by rw [hG.K]; exact rfl) (by rw [hG.K]; kernel_rfl) ?_ (by decide +kernel) (by decide +kernel) rfl rfl rfl (by decide +kernel) ?_
  · intro vs hv
    match vs, hv with
    | [a0, a1, a2], _ => rfl
  · intro b hs hn hk
    obtain ⟨A0, base, outer, h0, L, f, qual, scope, cdv, nm, kk, gb, bel, hh, kind, room, nodup, locs⟩ := b
    simp only at hs hn hk
    subst hs hn hk
    exact (sCons' (sRet' (pCmp .eq (pSlc (Ev_loc rfl) (Ev_loc rfl) (pAdd (Ev_loc rfl) pC_int)) (Ev_loc rfl) rfl rfl)) sNil')
theorem m_places_at (hG : Gp G P) (hR : RaiseOk G) {k : Nat} {φ : Phi} (hφ : ∀ f : Fn, Meets G f.addr k (φ f)) : Meets G (Fn.addr .places_at) (k + 1) (funR 2 0 (r_places_at φ)) := by
  refine Meets_fn (pn := [(Str.ofString "text"), (Str.ofString "at")]) (rest := []) (by rw [hG.K]; exact rfl) (by rw [hG.K]; kernel_rfl) ?_ (by decide +kernel) (by decide +kernel) rfl rfl rfl (by decide +kernel) ?_
  · intro vs hv
    match vs, hv with
    | [a0, a1], _ => rfl
  · intro b hs hn hk
    obtain ⟨A0, base, outer, h0, L, f, qual, scope, cdv, nm, kk, gb, bel, hh, kind, room, nodup, locs⟩ := b
    simp only at hs hn hk
    subst hs hn hk
    exact (sCons' (sIf' (qNot (qOf (pCall (hφ .is_at) (Nat.le_refl _) (eCons (Ev_loc rfl) (eCons (Ev_loc rfl) (eCons pC_str eNil rfl) rfl) rfl) hG.gl_is_at (hG.keep .is_at) (by kernel_rfl) rfl (by kernel_rfl)) rfl)) (sCons' (hR _ _ _ _ _ _ _ _ _ (Ev_loc rfl) rfl (by kernel_rfl)) sNil') sNil') (sCons' (sRet' (pCall (hφ .size_at) (Nat.le_refl _) (eCons (Ev_loc rfl) (eCons (pAdd (Ev_loc rfl) pC_int) (eCons pC_int eNil rfl) rfl) rfl) hG.gl_size_at (hG.keep .size_at) (by kernel_rfl) rfl (by kernel_rfl))) sNil'))
theorem m_exponent_at (hG : Gp G P) (hR : RaiseOk G) {k : Nat} {φ : Phi} (hφ : ∀ f : Fn, Meets G f.addr k (φ f)) : Meets G (Fn.addr .exponent_at) (k + 1) (funR 2 0 (r_exponent_at φ)) := by
  refine Meets_fn (pn := [(Str.ofString "text"), (Str.ofString "at")]) (rest := []) (by rw [hG.K]; exact rfl) (by rw [hG.K]; kernel_rfl) ?_ (by decide +kernel) (by decide +kernel) rfl rfl rfl (by decide +kernel) ?_
  · intro vs hv
    match vs, hv with
    | [a0, a1], _ => rfl
  · intro b hs hn hk
    obtain ⟨A0, base, outer, h0, L, f, qual, scope, cdv, nm, kk, gb, bel, hh, kind, room, nodup, locs⟩ := b
    simp only at hs hn hk
    subst hs hn hk
    exact (sCons' (sIf' (qNot (qOf (pCall (hφ .is_at) (Nat.le_refl _) (eCons (Ev_loc rfl) (eCons (Ev_loc rfl) (eCons pC_str eNil rfl) rfl) rfl) hG.gl_is_at (hG.keep .is_at) (by kernel_rfl) rfl (by kernel_rfl)) rfl)) (sCons' (sRet' (pTup (eCons pC_none (eCons (Ev_loc rfl) eNil rfl) rfl))) sNil') sNil') (sCons' (sRet' (pCall (hφ .size_at) (Nat.le_refl _) (eCons (Ev_loc rfl) (eCons (pAdd (Ev_loc rfl) pC_int) (eCons pC_int eNil rfl) rfl) rfl) hG.gl_size_at (hG.keep .size_at) (by kernel_rfl) rfl (by kernel_rfl))) sNil'))
theorem m_whole_edit (hG : Gp G P) (hR : RaiseOk G) {k : Nat} {φ : Phi} (hφ : ∀ f : Fn, Meets G f.addr k (φ f)) : Meets G (Fn.addr .whole_edit) (k + 1) (funR 2 3 (r_whole_edit φ)) := by
  refine Meets_fn (pn := [(Str.ofString "text"), (Str.ofString "at")]) (rest := [(Str.ofString "width"), (Str.ofString "here"), (Str.ofString "digits")]) (by rw [hG.K]; exact rfl) (by rw [hG.K]; kernel_rfl) ?_ (by decide +kernel) (by decide +kernel) rfl rfl rfl (by decide +kernel) ?_
  · intro vs hv
    match vs, hv with
    | [a0, a1], _ => rfl
  · intro b hs hn hk
    obtain ⟨A0, base, outer, h0, L, f, qual, scope, cdv, nm, kk, gb, bel, hh, kind, room, nodup, locs⟩ := b
    simp only at hs hn hk
    subst hs hn hk
    exact (sCons' (sUnp' (pCall (hφ .size_at) (Nat.le_refl _) (eCons (Ev_loc rfl) (eCons (Ev_loc rfl) (eCons pC_int eNil rfl) rfl) rfl) hG.gl_size_at (hG.keep .size_at) (by kernel_rfl) rfl (by kernel_rfl)) ⟨rfl, rfl, trivial⟩ rfl (by kernel_rfl)) (sCons' (sIf' (qNot (qOf (pCall (hφ .is_at) (Nat.le_refl _) (eCons (Ev_loc rfl) (eCons (Ev_loc rfl) (eCons pC_str eNil rfl) rfl) rfl) hG.gl_is_at (hG.keep .is_at) (by kernel_rfl) rfl (by kernel_rfl)) rfl)) (sCons' (sRet' (pTup (eCons (pTup (eCons pC_str (eCons (Ev_loc rfl) (eCons pC_none eNil rfl) rfl) rfl)) (eCons (Ev_loc rfl) eNil rfl) rfl))) sNil') sNil') (sCons' (sUnp' (pCall (hφ .size_at) (Nat.le_refl _) (eCons (Ev_loc rfl) (eCons (pAdd (Ev_loc rfl) pC_int) (eCons pC_int eNil rfl) rfl) rfl) hG.gl_size_at (hG.keep .size_at) (by kernel_rfl) rfl (by kernel_rfl)) ⟨rfl, rfl, trivial⟩ rfl (by kernel_rfl)) (sCons' (sIf' (qCmp .gt (Ev_loc rfl) (Ev_loc rfl) rfl rfl) (sCons' (hR _ _ _ _ _ _ _ _ _ (Ev_loc rfl) rfl (by kernel_rfl)) sNil') sNil') (sCons' (sRet' (pTup (eCons (pTup (eCons pC_str (eCons (Ev_loc rfl) (eCons (Ev_loc rfl) eNil rfl) rfl) rfl)) (eCons (Ev_loc rfl) eNil rfl) rfl))) sNil')))))
theorem m_real_edit (hG : Gp G P) (hR : RaiseOk G) {k : Nat} {φ : Phi} (hφ : ∀ f : Fn, Meets G f.addr k (φ f)) : Meets G (Fn.addr .real_edit) (k + 1) (funR 3 4 (r_real_edit φ)) := by
  refine Meets_fn (pn := [(Str.ofString "letter"), (Str.ofString "text"), (Str.ofString "at")]) (rest := [(Str.ofString "width"), (Str.ofString "here"), (Str.ofString "digits"), (Str.ofString "exponent")]) (by rw [hG.K]; exact rfl) (by rw [hG.K]; kernel_rfl) ?_ (by decide +kernel) (by decide +kernel) rfl rfl rfl (by decide +kernel) ?_
  · intro vs hv
    match vs, hv with
    | [a0, a1, a2], _ => rfl
  · intro b hs hn hk
    obtain ⟨A0, base, outer, h0, L, f, qual, scope, cdv, nm, kk, gb, bel, hh, kind, room, nodup, locs⟩ := b
    simp only at hs hn hk
    subst hs hn hk
    exact (sCons' (sUnp' (pCall (hφ .size_at) (Nat.le_refl _) (eCons (Ev_loc rfl) (eCons (Ev_loc rfl) (eCons pC_int eNil rfl) rfl) rfl) hG.gl_size_at (hG.keep .size_at) (by kernel_rfl) rfl (by kernel_rfl)) ⟨rfl, rfl, trivial⟩ rfl (by kernel_rfl)) (sCons' (sUnp' (pCall (hφ .places_at) (Nat.le_refl _) (eCons (Ev_loc rfl) (eCons (Ev_loc rfl) eNil rfl) rfl) hG.gl_places_at (hG.keep .places_at) (by kernel_rfl) rfl (by kernel_rfl)) ⟨rfl, rfl, trivial⟩ rfl (by kernel_rfl)) (sCons' (sIf' (qBool (lOr (qCmp .eq (Ev_loc rfl) pC_str rfl rfl) (lOne (qCmp .eq (Ev_loc rfl) pC_str rfl rfl)))) (sCons' (sRet' (pTup (eCons (pTup (eCons (Ev_loc rfl) (eCons (Ev_loc rfl) (eCons (Ev_loc rfl) eNil rfl) rfl) rfl)) (eCons (Ev_loc rfl) eNil rfl) rfl))) sNil') sNil') (sCons' (sUnp' (pCall (hφ .exponent_at) (Nat.le_refl _) (eCons (Ev_loc rfl) (eCons (Ev_loc rfl) eNil rfl) rfl) hG.gl_exponent_at (hG.keep .exponent_at) (by kernel_rfl) rfl (by kernel_rfl)) ⟨rfl, rfl, trivial⟩ rfl (by kernel_rfl)) (sCons' (sRet' (pTup (eCons (pTup (eCons (Ev_loc rfl) (eCons (Ev_loc rfl) (eCons (Ev_loc rfl) (eCons (Ev_loc rfl) eNil rfl) rfl) rfl) rfl)) (eCons (Ev_loc rfl) eNil rfl) rfl))) sNil')))))
theorem m_value_edit (hG : Gp G P) (hR : RaiseOk G) {k : Nat} {φ : Phi} (hφ : ∀ f : Fn, Meets G f.addr k (φ f)) : Meets G (Fn.addr .value_edit) (k + 1) (funR 2 3 (r_value_edit φ)) := by
  refine Meets_fn (pn := [(Str.ofString "text"), (Str.ofString "at")]) (rest := [(Str.ofString "letter"), (Str.ofString "width"), (Str.ofString "here")]) (by rw [hG.K]; exact rfl) (by rw [hG.K]; kernel_rfl) ?_ (by decide +kernel) (by decide +kernel) rfl rfl rfl (by decide +kernel) ?_
  · intro vs hv
    match vs, hv with
    | [a0, a1], _ => rfl
  · intro b hs hn hk
    obtain ⟨A0, base, outer, h0, L, f, qual, scope, cdv, nm, kk, gb, bel, hh, kind, room, nodup, locs⟩ := b
    simp only at hs hn hk
    subst hs hn hk
    exact (sCons' (sAssign' (pIdx (Ev_loc rfl) (Ev_loc rfl) rfl) rfl rfl) (sCons' (sIf' (qCmp .eq (Ev_loc rfl) pC_str rfl rfl) (sCons' (sRet' (pCall (hφ .whole_edit) (Nat.le_refl _) (eCons (Ev_loc rfl) (eCons (pAdd (Ev_loc rfl) pC_int) eNil rfl) rfl) hG.gl_whole_edit (hG.keep .whole_edit) (by kernel_rfl) rfl (by kernel_rfl))) sNil') sNil') (sCons' (sIf' (qCmp .eq (Ev_loc rfl) pC_str rfl rfl) (sCons' (sUnp' (pCall (hφ .size_at) (Nat.le_refl _) (eCons (Ev_loc rfl) (eCons (pAdd (Ev_loc rfl) pC_int) (eCons pC_int eNil rfl) rfl) rfl) hG.gl_size_at (hG.keep .size_at) (by kernel_rfl) rfl (by kernel_rfl)) ⟨rfl, rfl, trivial⟩ rfl (by kernel_rfl)) (sCons' (sRet' (pTup (eCons (pTup (eCons pC_str (eCons (Ev_loc rfl) eNil rfl) rfl)) (eCons (Ev_loc rfl) eNil rfl) rfl))) sNil')) sNil') (sCons' (sIf' (qCmp .eq (Ev_loc rfl) pC_str rfl rfl) (sCons' (sUnp' (pCall (hφ .number_at) (Nat.le_refl _) (eCons (Ev_loc rfl) (eCons (pAdd (Ev_loc rfl) pC_int) eNil rfl) rfl) hG.gl_number_at (hG.keep .number_at) (by kernel_rfl) rfl (by kernel_rfl)) ⟨rfl, rfl, trivial⟩ rfl (by kernel_rfl)) (sCons' (sIf' (qCmp .eq (Ev_loc rfl) pC_int rfl rfl) (sCons' (hR _ _ _ _ _ _ _ _ _ (Ev_loc rfl) rfl (by kernel_rfl)) sNil') sNil') (sCons' (sRet' (pTup (eCons (pTup (eCons pC_str (eCons (Ev_loc rfl) eNil rfl) rfl)) (eCons (Ev_loc rfl) eNil rfl) rfl))) sNil'))) sNil') (sCons' (sRet' (pCall (hφ .real_edit) (Nat.le_refl _) (eCons (Ev_loc rfl) (eCons (Ev_loc rfl) (eCons (pAdd (Ev_loc rfl) pC_int) eNil rfl) rfl) rfl) hG.gl_real_edit (hG.keep .real_edit) (by kernel_rfl) rfl (by kernel_rfl))) sNil')))))
theorem m_quoted_at (hG : Gp G P) (hR : RaiseOk G) {k : Nat} {φ : Phi} (hφ : ∀ f : Fn, Meets G f.addr k (φ f)) : Meets G (Fn.addr .quoted_at) (k + 1) (funR 2 2 (r_quoted_at φ)) := by
  refine Meets_fn (pn := [(Str.ofString "text"), (Str.ofString "at")]) (rest := [(Str.ofString "out"), (Str.ofString "here")]) (by rw [hG.K]; exact rfl) (by rw [hG.K]; kernel_rfl) ?_ (by decide +kernel) (by decide +kernel) rfl rfl rfl (by decide +kernel) ?_
  · intro vs hv
    match vs, hv with
    | [a0, a1], _ => rfl
  · intro b hs hn hk
    obtain ⟨A0, base, outer, h0, L, f, qual, scope, cdv, nm, kk, gb, bel, hh, kind, room, nodup, locs⟩ := b
    simp only at hs hn hk
    subst hs hn hk
    exact (sCons' (sAssign' pC_str rfl rfl) (sCons' (sAssign' (pAdd (Ev_loc rfl) pC_int) rfl rfl) (sCons' (sWhile' 4096 (qCmp .lt (Ev_loc rfl) (pLen (Ev_loc rfl) hG.gl_len (by kernel_rfl) rfl) rfl rfl) (sCons' (sIf' (qCmp .ne (pIdx (Ev_loc rfl) (Ev_loc rfl) rfl) pC_str rfl rfl) (sCons' (sAug' (pIdx (Ev_loc rfl) (Ev_loc rfl) rfl) rfl) (sCons' (sAug' pC_int rfl) sNil')) (sCons' (sIf' (qOf (pCall (hφ .is_at) (Nat.le_refl _) (eCons (Ev_loc rfl) (eCons (pAdd (Ev_loc rfl) pC_int) (eCons pC_str eNil rfl) rfl) rfl) hG.gl_is_at (hG.keep .is_at) (by kernel_rfl) rfl (by kernel_rfl)) rfl) (sCons' (sAug' pC_str rfl) (sCons' (sAug' pC_int rfl) sNil')) (sCons' (sIf' (qCmp .eq (Ev_loc rfl) pC_str rfl rfl) (sCons' (hR _ _ _ _ _ _ _ _ _ (Ev_loc rfl) rfl (by kernel_rfl)) sNil') sNil') (sCons' (sRet' (pTup (eCons (pTup (eCons pC_str (eCons (Ev_loc rfl) eNil rfl) rfl)) (eCons (pAdd (Ev_loc rfl) pC_int) eNil rfl) rfl))) sNil'))) sNil')) sNil')) (sCons' (hR _ _ _ _ _ _ _ _ _ (Ev_loc rfl) rfl (by kernel_rfl)) sNil'))))
theorem m_counted_text (hG : Gp G P) (hR : RaiseOk G) {k : Nat} {φ : Phi} (hφ : ∀ f : Fn, Meets G f.addr k (φ f)) : Meets G (Fn.addr .counted_text) (k + 1) (funR 3 0 (r_counted_text φ)) := by
  refine Meets_fn (pn := [(Str.ofString "text"), (Str.ofString "at"), (Str.ofString "count")]) (rest := []) (by rw [hG.K]; exact rfl) (by rw [hG.K]; kernel_rfl) ?_ (by decide +kernel) (by decide +kernel) rfl rfl rfl (by decide +kernel) ?_
  · intro vs hv
    match vs, hv with
    | [a0, a1, a2], _ => rfl
  · intro b hs hn hk
    obtain ⟨A0, base, outer, h0, L, f, qual, scope, cdv, nm, kk, gb, bel, hh, kind, room, nodup, locs⟩ := b
    simp only at hs hn hk
    subst hs hn hk
    exact (sCons' (sIf' (qCmp .gt (pAdd (Ev_loc rfl) (Ev_loc rfl)) (pLen (Ev_loc rfl) hG.gl_len (by kernel_rfl) rfl) rfl rfl) (sCons' (hR _ _ _ _ _ _ _ _ _ (Ev_loc rfl) rfl (by kernel_rfl)) sNil') sNil') (sCons' (sRet' (pTup (eCons (pTup (eCons pC_str (eCons (pSlc (Ev_loc rfl) (Ev_loc rfl) (pAdd (Ev_loc rfl) (Ev_loc rfl))) eNil rfl) rfl)) (eCons (pAdd (Ev_loc rfl) (Ev_loc rfl)) eNil rfl) rfl))) sNil'))
theorem m_scale_at (hG : Gp G P) (hR : RaiseOk G) {k : Nat} {φ : Phi} (hφ : ∀ f : Fn, Meets G f.addr k (φ f)) : Meets G (Fn.addr .scale_at) (k + 1) (funR 2 2 (r_scale_at φ)) := by
  refine Meets_fn (pn := [(Str.ofString "text"), (Str.ofString "at")]) (rest := [(Str.ofString "value"), (Str.ofString "here")]) (by rw [hG.K]; exact rfl) (by rw [hG.K]; kernel_rfl) ?_ (by decide +kernel) (by decide +kernel) rfl rfl rfl (by decide +kernel) ?_
  · intro vs hv
    match vs, hv with
    | [a0, a1], _ => rfl
  · intro b hs hn hk
    obtain ⟨A0, base, outer, h0, L, f, qual, scope, cdv, nm, kk, gb, bel, hh, kind, room, nodup, locs⟩ := b
    simp only at hs hn hk
    subst hs hn hk
    exact (sCons' (sUnp' (pCall (hφ .size_at) (Nat.le_refl _) (eCons (Ev_loc rfl) (eCons (pAdd (Ev_loc rfl) pC_int) (eCons pC_int eNil rfl) rfl) rfl) hG.gl_size_at (hG.keep .size_at) (by kernel_rfl) rfl (by kernel_rfl)) ⟨rfl, rfl, trivial⟩ rfl (by kernel_rfl)) (sCons' (sIf' (qNot (qOf (pCall (hφ .is_at) (Nat.le_refl _) (eCons (Ev_loc rfl) (eCons (Ev_loc rfl) (eCons pC_str eNil rfl) rfl) rfl) hG.gl_is_at (hG.keep .is_at) (by kernel_rfl) rfl (by kernel_rfl)) rfl)) (sCons' (hR _ _ _ _ _ _ _ _ _ (Ev_loc rfl) rfl (by kernel_rfl)) sNil') sNil') (sCons' (sIf' (qCmp .eq (pIdx (Ev_loc rfl) (Ev_loc rfl) rfl) pC_str rfl rfl) (sCons' (sAssign' (pNeg (Ev_loc rfl)) rfl rfl) sNil') sNil') (sCons' (sRet' (pTup (eCons (pTup (eCons pC_str (eCons (Ev_loc rfl) eNil rfl) rfl)) (eCons (pAdd (Ev_loc rfl) pC_int) eNil rfl) rfl))) sNil'))))
theorem m_control_at (hG : Gp G P) (hR : RaiseOk G) {k : Nat} {φ : Phi} (hφ : ∀ f : Fn, Meets G f.addr k (φ f)) : Meets G (Fn.addr .control_at) (k + 1) (funR 2 4 (r_control_at φ)) := by
  refine Meets_fn (pn := [(Str.ofString "text"), (Str.ofString "at")]) (rest := [(Str.ofString "letter"), (Str.ofString "here"), (Str.ofString "word"), (Str.ofString "count")]) (by rw [hG.K]; exact rfl) (by rw [hG.K]; kernel_rfl) ?_ (by decide +kernel) (by decide +kernel) rfl rfl rfl (by decide +kernel) ?_
  · intro vs hv
    match vs, hv with
    | [a0, a1], _ => rfl
  · intro b hs hn hk
    obtain ⟨A0, base, outer, h0, L, f, qual, scope, cdv, nm, kk, gb, bel, hh, kind, room, nodup, locs⟩ := b
    simp only at hs hn hk
    subst hs hn hk
    exact (sCons' (sAssign' (pIdx (Ev_loc rfl) (Ev_loc rfl) rfl) rfl rfl) (sCons' (sIf' (qBool (lOr (qCmp .eq (Ev_loc rfl) pC_str rfl rfl) (lOne (qCmp .eq (Ev_loc rfl) pC_str rfl rfl)))) (sCons' (sRet' (pTup (eCons (pTup (eCons (Ev_loc rfl) eNil rfl)) (eCons (pAdd (Ev_loc rfl) pC_int) eNil rfl) rfl))) sNil') sNil') (sCons' (sAssign' (pCall (hφ .pass_blanks) (Nat.le_refl _) (eCons (Ev_loc rfl) (eCons (pAdd (Ev_loc rfl) pC_int) eNil rfl) rfl) hG.gl_pass_blanks (hG.keep .pass_blanks) (by kernel_rfl) rfl (by kernel_rfl)) rfl rfl) (sCons' (sIf' (qCmp .eq (Ev_loc rfl) pC_str rfl rfl) (sCons' (sIf' (qBool (lOr (qOf (pCall (hφ .is_at) (Nat.le_refl _) (eCons (Ev_loc rfl) (eCons (Ev_loc rfl) (eCons pC_str eNil rfl) rfl) rfl) hG.gl_is_at (hG.keep .is_at) (by kernel_rfl) rfl (by kernel_rfl)) rfl) (lOne (qOf (pCall (hφ .is_at) (Nat.le_refl _) (eCons (Ev_loc rfl) (eCons (Ev_loc rfl) (eCons pC_str eNil rfl) rfl) rfl) hG.gl_is_at (hG.keep .is_at) (by kernel_rfl) rfl (by kernel_rfl)) rfl)))) (sCons' (sRet' (pTup (eCons (pTup (eCons (pAdd pC_str (pIdx (Ev_loc rfl) (Ev_loc rfl) rfl)) eNil rfl)) (eCons (pAdd (Ev_loc rfl) pC_int) eNil rfl) rfl))) sNil') sNil') (sCons' (sRet' (pTup (eCons (pTup (eCons pC_str eNil rfl)) (eCons (Ev_loc rfl) eNil rfl) rfl))) sNil')) sNil') (sCons' (sIf' (qBool (lAnd (qCmp .eq (Ev_loc rfl) pC_str rfl rfl) (lOne (qBool (lOr (qOf (pCall (hφ .is_at) (Nat.le_refl _) (eCons (Ev_loc rfl) (eCons (Ev_loc rfl) (eCons pC_str eNil rfl) rfl) rfl) hG.gl_is_at (hG.keep .is_at) (by kernel_rfl) rfl (by kernel_rfl)) rfl) (lOne (qOf (pCall (hφ .is_at) (Nat.le_refl _) (eCons (Ev_loc rfl) (eCons (Ev_loc rfl) (eCons pC_str eNil rfl) rfl) rfl) hG.gl_is_at (hG.keep .is_at) (by kernel_rfl) rfl (by kernel_rfl)) rfl))))))) (sCons' (sRet' (pTup (eCons (pTup (eCons (pAdd pC_str (pIdx (Ev_loc rfl) (Ev_loc rfl) rfl)) eNil rfl)) (eCons (pAdd (Ev_loc rfl) pC_int) eNil rfl) rfl))) sNil') sNil') (sCons' (sIf' (qCmp .eq (Ev_loc rfl) pC_str rfl rfl) (sCons' (sAssign' pC_str rfl rfl) (sCons' (sIf' (qBool (lOr (qOf (pCall (hφ .is_at) (Nat.le_refl _) (eCons (Ev_loc rfl) (eCons (Ev_loc rfl) (eCons pC_str eNil rfl) rfl) rfl) hG.gl_is_at (hG.keep .is_at) (by kernel_rfl) rfl (by kernel_rfl)) rfl) (lOne (qOf (pCall (hφ .is_at) (Nat.le_refl _) (eCons (Ev_loc rfl) (eCons (Ev_loc rfl) (eCons pC_str eNil rfl) rfl) rfl) hG.gl_is_at (hG.keep .is_at) (by kernel_rfl) rfl (by kernel_rfl)) rfl)))) (sCons' (sAssign' (pAdd pC_str (pIdx (Ev_loc rfl) (Ev_loc rfl) rfl)) rfl rfl) (sCons' (sAug' pC_int rfl) sNil')) sNil') (sCons' (sUnp' (pCall (hφ .size_at) (Nat.le_refl _) (eCons (Ev_loc rfl) (eCons (Ev_loc rfl) (eCons pC_int eNil rfl) rfl) rfl) hG.gl_size_at (hG.keep .size_at) (by kernel_rfl) rfl (by kernel_rfl)) ⟨rfl, rfl, trivial⟩ rfl (by kernel_rfl)) (sCons' (sRet' (pTup (eCons (pTup (eCons (Ev_loc rfl) (eCons (Ev_loc rfl) eNil rfl) rfl)) (eCons (Ev_loc rfl) eNil rfl) rfl))) sNil')))) sNil') (sCons' (hR _ _ _ _ _ _ _ _ _ (Ev_loc rfl) rfl (by kernel_rfl)) sNil')))))))
theorem m_group_at (hG : Gp G P) (hR : RaiseOk G) {k : Nat} {φ : Phi} (hφ : ∀ f : Fn, Meets G f.addr k (φ f)) : Meets G (Fn.addr .group_at) (k + 1) (funR 4 2 (r_group_at φ)) := by
  refine Meets_fn (pn := [(Str.ofString "text"), (Str.ofString "at"), (Str.ofString "count"), (Str.ofString "depth")]) (rest := [(Str.ofString "items"), (Str.ofString "here")]) (by rw [hG.K]; exact rfl) (by rw [hG.K]; kernel_rfl) ?_ (by decide +kernel) (by decide +kernel) rfl rfl rfl (by decide +kernel) ?_
  · intro vs hv
    match vs, hv with
    | [a0, a1, a2, a3], _ => rfl
  · intro b hs hn hk
    obtain ⟨A0, base, outer, h0, L, f, qual, scope, cdv, nm, kk, gb, bel, hh, kind, room, nodup, locs⟩ := b
    simp only at hs hn hk
    subst hs hn hk
    exact (sCons' (sIf' (qCmp .eq (Ev_loc rfl) (pGlb (hG.gl_MOST_DEPTH).1 (hG.gl_MOST_DEPTH).2 (by kernel_rfl) (by kernel_rfl)) rfl rfl) (sCons' (hR _ _ _ _ _ _ _ _ _ (Ev_loc rfl) rfl (by kernel_rfl)) sNil') sNil') (sCons' (sUnp' (pCall (hφ .items_at) (Nat.le_refl _) (eCons (Ev_loc rfl) (eCons (pAdd (Ev_loc rfl) pC_int) (eCons (pAdd (Ev_loc rfl) pC_int) eNil rfl) rfl) rfl) hG.gl_items_at (hG.keep .items_at) (by kernel_rfl) rfl (by kernel_rfl)) ⟨rfl, rfl, trivial⟩ rfl (by kernel_rfl)) (sCons' (sIf' (qK (Ev_loc rfl) CmpK_nil rfl) (sCons' (hR _ _ _ _ _ _ _ _ _ (Ev_loc rfl) rfl (by kernel_rfl)) sNil') sNil') (sCons' (sRet' (pTup (eCons (pTup (eCons pC_str (eCons (Ev_loc rfl) (eCons (Ev_loc rfl) eNil rfl) rfl) rfl)) (eCons (pAdd (Ev_loc rfl) pC_int) eNil rfl) rfl))) sNil'))))
theorem m_counted_at (hG : Gp G P) (hR : RaiseOk G) {k : Nat} {φ : Phi} (hφ : ∀ f : Fn, Meets G f.addr k (φ f)) : Meets G (Fn.addr .counted_at) (k + 1) (funR 3 5 (r_counted_at φ)) := by
  refine Meets_fn (pn := [(Str.ofString "text"), (Str.ofString "at"), (Str.ofString "depth")]) (rest := [(Str.ofString "count"), (Str.ofString "here"), (Str.ofString "letter"), (Str.ofString "item"), (Str.ofString "behind")]) (by rw [hG.K]; exact rfl) (by rw [hG.K]; kernel_rfl) ?_ (by decide +kernel) (by decide +kernel) rfl rfl rfl (by decide +kernel) ?_
  · intro vs hv
    match vs, hv with
    | [a0, a1, a2], _ => rfl
  · intro b hs hn hk
    obtain ⟨A0, base, outer, h0, L, f, qual, scope, cdv, nm, kk, gb, bel, hh, kind, room, nodup, locs⟩ := b
    simp only at hs hn hk
    subst hs hn hk
    exact (sCons' (sUnp' (pCall (hφ .number_at) (Nat.le_refl _) (eCons (Ev_loc rfl) (eCons (Ev_loc rfl) eNil rfl) rfl) hG.gl_number_at (hG.keep .number_at) (by kernel_rfl) rfl (by kernel_rfl)) ⟨rfl, rfl, trivial⟩ rfl (by kernel_rfl)) (sCons' (sAssign' (pSlc (Ev_loc rfl) (Ev_loc rfl) (pAdd (Ev_loc rfl) pC_int)) rfl rfl) (sCons' (sIf' (qCmp .eq (Ev_loc rfl) pC_str rfl rfl) (sCons' (sRet' (pTup (eCons (pTup (eCons pC_str (eCons (Ev_loc rfl) eNil rfl) rfl)) (eCons (pAdd (Ev_loc rfl) pC_int) eNil rfl) rfl))) sNil') sNil') (sCons' (sIf' (qCmp .eq (Ev_loc rfl) pC_int rfl rfl) (sCons' (hR _ _ _ _ _ _ _ _ _ (Ev_loc rfl) rfl (by kernel_rfl)) sNil') sNil') (sCons' (sIf' (qCmp .eq (Ev_loc rfl) pC_str rfl rfl) (sCons' (sRet' (pTup (eCons (pTup (eCons pC_str (eCons (Ev_loc rfl) eNil rfl) rfl)) (eCons (pAdd (Ev_loc rfl) pC_int) eNil rfl) rfl))) sNil') sNil') (sCons' (sIf' (qCmp .eq (Ev_loc rfl) pC_str rfl rfl) (sCons' (sRet' (pCall (hφ .counted_text) (Nat.le_refl _) (eCons (Ev_loc rfl) (eCons (pAdd (Ev_loc rfl) pC_int) (eCons (Ev_loc rfl) eNil rfl) rfl) rfl) hG.gl_counted_text (hG.keep .counted_text) (by kernel_rfl) rfl (by kernel_rfl))) sNil') sNil') (sCons' (sIf' (qCmp .eq (Ev_loc rfl) pC_str rfl rfl) (sCons' (sRet' (pCall (hφ .group_at) (Nat.le_refl _) (eCons (Ev_loc rfl) (eCons (Ev_loc rfl) (eCons (Ev_loc rfl) (eCons (Ev_loc rfl) eNil rfl) rfl) rfl) rfl) hG.gl_group_at (hG.keep .group_at) (by kernel_rfl) rfl (by kernel_rfl))) sNil') sNil') (sCons' (sIf' (qBool (lOr (qCmp .eq (Ev_loc rfl) pC_str rfl rfl) (lOne (qCmp .notin (Ev_loc rfl) pC_str rfl rfl)))) (sCons' (hR _ _ _ _ _ _ _ _ _ (Ev_loc rfl) rfl (by kernel_rfl)) sNil') sNil') (sCons' (sUnp' (pCall (hφ .value_edit) (Nat.le_refl _) (eCons (Ev_loc rfl) (eCons (Ev_loc rfl) eNil rfl) rfl) hG.gl_value_edit (hG.keep .value_edit) (by kernel_rfl) rfl (by kernel_rfl)) ⟨rfl, rfl, trivial⟩ rfl (by kernel_rfl)) (sCons' (sIf' (qCmp .gt (Ev_loc rfl) pC_int rfl rfl) (sCons' (sAssign' (pTup (eCons pC_str (eCons (Ev_loc rfl) (eCons (Ev_loc rfl) eNil rfl) rfl) rfl)) rfl rfl) sNil') sNil') (sCons' (sRet' (pTup (eCons (Ev_loc rfl) (eCons (Ev_loc rfl) eNil rfl) rfl))) sNil')))))))))))
theorem m_item_at (hG : Gp G P) (hR : RaiseOk G) {k : Nat} {φ : Phi} (hφ : ∀ f : Fn, Meets G f.addr k (φ f)) : Meets G (Fn.addr .item_at) (k + 1) (funR 3 1 (r_item_at φ)) := by
  refine Meets_fn (pn := [(Str.ofString "text"), (Str.ofString "at"), (Str.ofString "depth")]) (rest := [(Str.ofString "sign")]) (by rw [hG.K]; exact rfl) (by rw [hG.K]; kernel_rfl) ?_ (by decide +kernel) (by decide +kernel) rfl rfl rfl (by decide +kernel) ?_
  · intro vs hv
    match vs, hv with
    | [a0, a1, a2], _ => rfl
  · intro b hs hn hk
    obtain ⟨A0, base, outer, h0, L, f, qual, scope, cdv, nm, kk, gb, bel, hh, kind, room, nodup, locs⟩ := b
    simp only at hs hn hk
    subst hs hn hk
    exact (sCons' (sAssign' (pIdx (Ev_loc rfl) (Ev_loc rfl) rfl) rfl rfl) (sCons' (sIf' (qCmp .in_ (Ev_loc rfl) (pGlb (hG.gl_DIGITS).1 (hG.gl_DIGITS).2 (by kernel_rfl) (by kernel_rfl)) rfl rfl) (sCons' (sRet' (pCall (hφ .counted_at) (Nat.le_refl _) (eCons (Ev_loc rfl) (eCons (Ev_loc rfl) (eCons (Ev_loc rfl) eNil rfl) rfl) rfl) hG.gl_counted_at (hG.keep .counted_at) (by kernel_rfl) rfl (by kernel_rfl))) sNil') sNil') (sCons' (sIf' (qCmp .eq (Ev_loc rfl) pC_str rfl rfl) (sCons' (sRet' (pCall (hφ .quoted_at) (Nat.le_refl _) (eCons (Ev_loc rfl) (eCons (Ev_loc rfl) eNil rfl) rfl) hG.gl_quoted_at (hG.keep .quoted_at) (by kernel_rfl) rfl (by kernel_rfl))) sNil') sNil') (sCons' (sIf' (qBool (lOr (qCmp .eq (Ev_loc rfl) pC_str rfl rfl) (lOne (qCmp .eq (Ev_loc rfl) pC_str rfl rfl)))) (sCons' (sRet' (pCall (hφ .scale_at) (Nat.le_refl _) (eCons (Ev_loc rfl) (eCons (Ev_loc rfl) eNil rfl) rfl) hG.gl_scale_at (hG.keep .scale_at) (by kernel_rfl) rfl (by kernel_rfl))) sNil') sNil') (sCons' (sIf' (qCmp .eq (Ev_loc rfl) pC_str rfl rfl) (sCons' (sRet' (pCall (hφ .group_at) (Nat.le_refl _) (eCons (Ev_loc rfl) (eCons (Ev_loc rfl) (eCons pC_int (eCons (Ev_loc rfl) eNil rfl) rfl) rfl) rfl) hG.gl_group_at (hG.keep .group_at) (by kernel_rfl) rfl (by kernel_rfl))) sNil') sNil') (sCons' (sIf' (qCmp .in_ (Ev_loc rfl) pC_str rfl rfl) (sCons' (sRet' (pCall (hφ .value_edit) (Nat.le_refl _) (eCons (Ev_loc rfl) (eCons (Ev_loc rfl) eNil rfl) rfl) hG.gl_value_edit (hG.keep .value_edit) (by kernel_rfl) rfl (by kernel_rfl))) sNil') sNil') (sCons' (sRet' (pCall (hφ .control_at) (Nat.le_refl _) (eCons (Ev_loc rfl) (eCons (Ev_loc rfl) eNil rfl) rfl) hG.gl_control_at (hG.keep .control_at) (by kernel_rfl) rfl (by kernel_rfl))) sNil')))))))
theorem m_may_join (hG : Gp G P) (hR : RaiseOk G) {k : Nat} {φ : Phi} (hφ : ∀ f : Fn, Meets G f.addr k (φ f)) : Meets G (Fn.addr .may_join) (k + 1) (funR 2 0 (r_may_join φ)) := by
  refine Meets_fn (pn := [(Str.ofString "last"), (Str.ofString "item")]) (rest := []) (by rw [hG.K]; exact rfl) (by rw [hG.K]; kernel_rfl) ?_ (by decide +kernel) (by decide +kernel) rfl rfl rfl (by decide +kernel) ?_
  · intro vs hv
    match vs, hv with
    | [a0, a1], _ => rfl
  · intro b hs hn hk
    obtain ⟨A0, base, outer, h0, L, f, qual, scope, cdv, nm, kk, gb, bel, hh, kind, room, nodup, locs⟩ := b
    simp only at hs hn hk
    subst hs hn hk
    exact (sCons' (sIf' (qBool (lOr (qCmp .in_ (pIdx (Ev_loc rfl) pC_int rfl) pC_str rfl rfl) (lOne (qCmp .in_ (pIdx (Ev_loc rfl) pC_int rfl) pC_str rfl rfl)))) (sCons' (sRet' pC_bool) sNil') sNil') (sCons' (sIf' (qCmp .eq (pIdx (Ev_loc rfl) pC_int rfl) pC_str rfl rfl) (sCons' (sAssign' (pIdx (Ev_loc rfl) pC_int rfl) rfl rfl) sNil') sNil') (sCons' (sRet' (pBool (mAnd (pCmp .eq (pIdx (Ev_loc rfl) pC_int rfl) pC_str rfl rfl) (mOne (pCmp .in_ (pIdx (Ev_loc rfl) pC_int rfl) pC_str rfl rfl))))) sNil')))
theorem m_items_at (hG : Gp G P) (hR : RaiseOk G) {k : Nat} {φ : Phi} (hφ : ∀ f : Fn, Meets G f.addr k (φ f)) : Meets G (Fn.addr .items_at) (k + 1) (funR 3 5 (r_items_at φ)) := by
  refine Meets_fn (pn := [(Str.ofString "text"), (Str.ofString "at"), (Str.ofString "depth")]) (rest := [(Str.ofString "items"), (Str.ofString "is_after_comma"), (Str.ofString "here"), (Str.ofString "sign"), (Str.ofString "item")]) (by rw [hG.K]; exact rfl) (by rw [hG.K]; kernel_rfl) ?_ (by decide +kernel) (by decide +kernel) rfl rfl rfl (by decide +kernel) ?_
  · intro vs hv
    match vs, hv with
    | [a0, a1, a2], _ => rfl
  · intro b hs hn hk
    obtain ⟨A0, base, outer, h0, L, f, qual, scope, cdv, nm, kk, gb, bel, hh, kind, room, nodup, locs⟩ := b
    simp only at hs hn hk
    subst hs hn hk
    exact (sCons' (sAssign' pNil rfl rfl) (sCons' (sAssign' pC_bool rfl rfl) (sCons' (sWhile' 4096 (qOf pC_bool rfl) (sCons' (sAssign' (pCall (hφ .pass_blanks) (Nat.le_refl _) (eCons (Ev_loc rfl) (eCons (Ev_loc rfl) eNil rfl) rfl) hG.gl_pass_blanks (hG.keep .pass_blanks) (by kernel_rfl) rfl (by kernel_rfl)) rfl rfl) (sCons' (sAssign' (pSlc (Ev_loc rfl) (Ev_loc rfl) (pAdd (Ev_loc rfl) pC_int)) rfl rfl) (sCons' (sIf' (qCmp .eq (Ev_loc rfl) pC_str rfl rfl) (sCons' (hR _ _ _ _ _ _ _ _ _ (Ev_loc rfl) rfl (by kernel_rfl)) sNil') sNil') (sCons' (sIf' (qBool (lOr (qCmp .eq (Ev_loc rfl) pC_str rfl rfl) (lOne (qCmp .eq (Ev_loc rfl) pC_str rfl rfl)))) (sCons' (sIf' (qBool (lOr (qOf (Ev_loc rfl) rfl) (lOne (qBool (lAnd (qCmp .eq (Ev_loc rfl) pC_str rfl rfl) (lOne (qK (Ev_loc rfl) CmpK_nil rfl))))))) (sCons' (hR _ _ _ _ _ _ _ _ _ (Ev_loc rfl) rfl (by kernel_rfl)) sNil') sNil') (sCons' (sIf' (qCmp .eq (Ev_loc rfl) pC_str rfl rfl) (sCons' (sRet' (pTup (eCons (Ev_loc rfl) (eCons (Ev_loc rfl) eNil rfl) rfl))) sNil') sNil') (sCons' (sAssign' pC_bool rfl rfl) (sCons' (sAssign' (pAdd (Ev_loc rfl) pC_int) rfl rfl) sNil')))) (sCons' (sUnp' (pCall (hφ .item_at) (Nat.le_refl _) (eCons (Ev_loc rfl) (eCons (Ev_loc rfl) (eCons (Ev_loc rfl) eNil rfl) rfl) rfl) hG.gl_item_at (hG.keep .item_at) (by kernel_rfl) rfl (by kernel_rfl)) ⟨rfl, rfl, trivial⟩ rfl (by kernel_rfl)) (sCons' (sIf' (qBool (lAnd (qK (Ev_loc rfl) CmpK_nnil rfl) (lAnd (qNot (qOf (Ev_loc rfl) rfl)) (lOne (qNot (qOf (pCall (hφ .may_join) (Nat.le_refl _) (eCons (pIdx (Ev_loc rfl) (pNeg pC_int) rfl) (eCons (Ev_loc rfl) eNil rfl) rfl) hG.gl_may_join (hG.keep .may_join) (by kernel_rfl) rfl (by kernel_rfl)) rfl)))))) (sCons' (hR _ _ _ _ _ _ _ _ _ (Ev_loc rfl) rfl (by kernel_rfl)) sNil') sNil') (sCons' (sApp' rfl rfl rfl) (sCons' (sAssign' pC_bool rfl rfl) sNil'))))) sNil'))))) sNil')))
theorem m_format_prefix (hG : Gp G P) (hR : RaiseOk G) {k : Nat} {φ : Phi} (hφ : ∀ f : Fn, Meets G f.addr k (φ f)) : Meets G (Fn.addr .format_prefix) (k + 1) (funR 1 2 (r_format_prefix φ)) := by
  refine Meets_fn (pn := [(Str.ofString "text")]) (rest := [(Str.ofString "here"), (Str.ofString "items")]) (by rw [hG.K]; exact rfl) (by rw [hG.K]; kernel_rfl) ?_ (by decide +kernel) (by decide +kernel) rfl rfl rfl (by decide +kernel) ?_
  · intro vs hv
    match vs, hv with
    | [a0], _ => rfl
  · intro b hs hn hk
    obtain ⟨A0, base, outer, h0, L, f, qual, scope, cdv, nm, kk, gb, bel, hh, kind, room, nodup, locs⟩ := b
    simp only at hs hn hk
    subst hs hn hk
    exact (sCons' (sAssign' (pCall (hφ .pass_blanks) (Nat.le_refl _) (eCons (Ev_loc rfl) (eCons pC_int eNil rfl) rfl) hG.gl_pass_blanks (hG.keep .pass_blanks) (by kernel_rfl) rfl (by kernel_rfl)) rfl rfl) (sCons' (sIf' (qNot (qOf (pCall (hφ .is_at) (Nat.le_refl _) (eCons (Ev_loc rfl) (eCons (Ev_loc rfl) (eCons pC_str eNil rfl) rfl) rfl) hG.gl_is_at (hG.keep .is_at) (by kernel_rfl) rfl (by kernel_rfl)) rfl)) (sCons' (hR _ _ _ _ _ _ _ _ _ (Ev_loc rfl) rfl (by kernel_rfl)) sNil') sNil') (sCons' (sUnp' (pCall (hφ .items_at) (Nat.le_refl _) (eCons (Ev_loc rfl) (eCons (pAdd (Ev_loc rfl) pC_int) (eCons pC_int eNil rfl) rfl) rfl) hG.gl_items_at (hG.keep .items_at) (by kernel_rfl) rfl (by kernel_rfl)) ⟨rfl, rfl, trivial⟩ rfl (by kernel_rfl)) (sCons' (sRet' (pTup (eCons (Ev_loc rfl) (eCons (pAdd (Ev_loc rfl) pC_int) eNil rfl) rfl))) sNil'))))
theorem m_parse_format (hG : Gp G P) (hR : RaiseOk G) {k : Nat} {φ : Phi} (hφ : ∀ f : Fn, Meets G f.addr k (φ f)) : Meets G (Fn.addr .parse_format) (k + 1) (funR 1 2 (r_parse_format φ)) := by
  refine Meets_fn (pn := [(Str.ofString "text")]) (rest := [(Str.ofString "items"), (Str.ofString "here")]) (by rw [hG.K]; exact rfl) (by rw [hG.K]; kernel_rfl) ?_ (by decide +kernel) (by decide +kernel) rfl rfl rfl (by decide +kernel) ?_
  · intro vs hv
    match vs, hv with
    | [a0], _ => rfl
  · intro b hs hn hk
    obtain ⟨A0, base, outer, h0, L, f, qual, scope, cdv, nm, kk, gb, bel, hh, kind, room, nodup, locs⟩ := b
    simp only at hs hn hk
    subst hs hn hk
    exact (sCons' (sUnp' (pCall (hφ .format_prefix) (Nat.le_refl _) (eCons (Ev_loc rfl) eNil rfl) hG.gl_format_prefix (hG.keep .format_prefix) (by kernel_rfl) rfl (by kernel_rfl)) ⟨rfl, rfl, trivial⟩ rfl (by kernel_rfl)) (sCons' (sAssign' (pCall (hφ .pass_blanks) (Nat.le_refl _) (eCons (Ev_loc rfl) (eCons (Ev_loc rfl) eNil rfl) rfl) hG.gl_pass_blanks (hG.keep .pass_blanks) (by kernel_rfl) rfl (by kernel_rfl)) rfl rfl) (sCons' (sIf' (qCmp .lt (Ev_loc rfl) (pLen (Ev_loc rfl) hG.gl_len (by kernel_rfl) rfl) rfl rfl) (sCons' (hR _ _ _ _ _ _ _ _ _ (Ev_loc rfl) rfl (by kernel_rfl)) sNil') sNil') (sCons' (sRet' (Ev_loc rfl)) sNil'))))
theorem m_lawSkip (hG : Gp G P) (hR : RaiseOk G) {k : Nat} {φ : Phi} (hφ : ∀ f : Fn, Meets G f.addr k (φ f)) : Meets G (Fn.addr .lawSkip) (k + 1) (funR 2 0 (r_lawSkip φ)) := by
  refine Meets_fn (pn := [(Str.ofString "text"), (Str.ofString "at")]) (rest := []) (by rw [hG.K]; exact rfl) (by rw [hG.K]; kernel_rfl) ?_ (by decide +kernel) (by decide +kernel) rfl rfl rfl (by decide +kernel) ?_
  · intro vs hv
    match vs, hv with
    | [a0, a1], _ => rfl
  · intro b hs hn hk
    obtain ⟨A0, base, outer, h0, L, f, qual, scope, cdv, nm, kk, gb, bel, hh, kind, room, nodup, locs⟩ := b
    simp only at hs hn hk
    subst hs hn hk
    exact (sCons' (sWhile' 4096 (qCmp .eq (pSlc (Ev_loc rfl) (Ev_loc rfl) (pAdd (Ev_loc rfl) pC_int)) pC_str rfl rfl) (sCons' (sAssign' (pAdd (Ev_loc rfl) pC_int) rfl rfl) sNil')) (sCons' (sRet' (Ev_loc rfl)) sNil'))
theorem m_lawFigures (hG : Gp G P) (hR : RaiseOk G) {k : Nat} {φ : Phi} (hφ : ∀ f : Fn, Meets G f.addr k (φ f)) : Meets G (Fn.addr .lawFigures) (k + 1) (funR 3 2 (r_lawFigures φ)) := by
  refine Meets_fn (pn := [(Str.ofString "text"), (Str.ofString "at"), (Str.ofString "lowest")]) (rest := [(Str.ofString "here"), (Str.ofString "value")]) (by rw [hG.K]; exact rfl) (by rw [hG.K]; kernel_rfl) ?_ (by decide +kernel) (by decide +kernel) rfl rfl rfl (by decide +kernel) ?_
  · intro vs hv
    match vs, hv with
    | [a0, a1, a2], _ => rfl
  · intro b hs hn hk
    obtain ⟨A0, base, outer, h0, L, f, qual, scope, cdv, nm, kk, gb, bel, hh, kind, room, nodup, locs⟩ := b
    simp only at hs hn hk
    subst hs hn hk
    exact (sCons' (sSwap' [(Str.ofString "here"), (Str.ofString "value")] (pTup (eCons (pCall (hφ .lawSkip) (Nat.le_refl _) (eCons (Ev_loc rfl) (eCons (Ev_loc rfl) eNil rfl) rfl) hG.gl_lawSkip (hG.keep .lawSkip) (by kernel_rfl) rfl (by kernel_rfl)) (eCons (pNeg pC_int) eNil rfl) rfl)) ⟨rfl, rfl, trivial⟩ rfl (by kernel_rfl) rfl) (sCons' (sWhile' 4096 (qBool (lAnd (qCmp .ne (pSlc (Ev_loc rfl) (Ev_loc rfl) (pAdd (Ev_loc rfl) pC_int)) pC_str rfl rfl) (lOne (qCmp .in_ (pIdx (Ev_loc rfl) (Ev_loc rfl) rfl) pC_str rfl rfl)))) (sCons' (sAssign' (pSub (pAdd (pMul (pMax (Ev_loc rfl) pC_int hG.gl_max (by kernel_rfl) rfl rfl) pC_int) (pOrd (pIdx (Ev_loc rfl) (Ev_loc rfl) rfl) hG.gl_ord (by kernel_rfl) rfl)) pC_int) rfl rfl) (sCons' (sIf' (qCmp .gt (Ev_loc rfl) pC_int rfl rfl) (sCons' (sRet' (pTup (eCons (Ev_loc rfl) (eCons (Ev_loc rfl) (eCons (Ev_loc rfl) eNil rfl) rfl) rfl))) sNil') sNil') (sCons' (sAssign' (pCall (hφ .lawSkip) (Nat.le_refl _) (eCons (Ev_loc rfl) (eCons (pAdd (Ev_loc rfl) pC_int) eNil rfl) rfl) hG.gl_lawSkip (hG.keep .lawSkip) (by kernel_rfl) rfl (by kernel_rfl)) rfl rfl) sNil')))) (sCons' (sRet' (pTup (eCons (Ev_loc rfl) (eCons (Ev_loc rfl) (eCons (pIte (qCmp .lt (Ev_loc rfl) (Ev_loc rfl) rfl rfl) (Ev_loc rfl) (pNeg pC_int)) eNil rfl) rfl) rfl))) sNil')))
theorem m_lawValued (hG : Gp G P) (hR : RaiseOk G) {k : Nat} {φ : Phi} (hφ : ∀ f : Fn, Meets G f.addr k (φ f)) : Meets G (Fn.addr .lawValued) (k + 1) (funR 2 7 (r_lawValued φ)) := by
  refine Meets_fn (pn := [(Str.ofString "text"), (Str.ofString "at")]) (rest := [(Str.ofString "letter"), (Str.ofString "value"), (Str.ofString "here"), (Str.ofString "fault"), (Str.ofString "width"), (Str.ofString "places"), (Str.ofString "size")]) (by rw [hG.K]; exact rfl) (by rw [hG.K]; kernel_rfl) ?_ (by decide +kernel) (by decide +kernel) rfl rfl rfl (by decide +kernel) ?_
  · intro vs hv
    match vs, hv with
    | [a0, a1], _ => rfl
  · intro b hs hn hk
    obtain ⟨A0, base, outer, h0, L, f, qual, scope, cdv, nm, kk, gb, bel, hh, kind, room, nodup, locs⟩ := b
    simp only at hs hn hk
    subst hs hn hk
    exact (sCons' (sAssign' (pIdx (Ev_loc rfl) (Ev_loc rfl) rfl) rfl rfl) (sCons' (sIf' (qCmp .eq (Ev_loc rfl) pC_str rfl rfl) (sCons' (sUnp' (pCall (hφ .lawFigures) (Nat.le_refl _) (eCons (Ev_loc rfl) (eCons (pAdd (Ev_loc rfl) pC_int) (eCons (pNeg pC_int) eNil rfl) rfl) rfl) hG.gl_lawFigures (hG.keep .lawFigures) (by kernel_rfl) rfl (by kernel_rfl)) ⟨rfl, rfl, rfl, trivial⟩ rfl (by kernel_rfl)) (sCons' (sRet' (pTup (eCons (Ev_loc rfl) (eCons (Ev_loc rfl) (eCons (pIte (qBool (lAnd (qCmp .eq (Ev_loc rfl) pC_int rfl rfl) (lOne (qCmp .lt (Ev_loc rfl) pC_int rfl rfl)))) (Ev_loc rfl) (Ev_loc rfl)) eNil rfl) rfl) rfl))) sNil')) sNil') (sCons' (sUnp' (pCall (hφ .lawFigures) (Nat.le_refl _) (eCons (Ev_loc rfl) (eCons (pAdd (Ev_loc rfl) pC_int) (eCons pC_int eNil rfl) rfl) rfl) hG.gl_lawFigures (hG.keep .lawFigures) (by kernel_rfl) rfl (by kernel_rfl)) ⟨rfl, rfl, rfl, trivial⟩ rfl (by kernel_rfl)) (sCons' (sIf' (qBool (lOr (qCmp .ge (Ev_loc rfl) pC_int rfl rfl) (lOne (qCmp .eq (Ev_loc rfl) pC_str rfl rfl)))) (sCons' (sRet' (pTup (eCons (Ev_loc rfl) (eCons (Ev_loc rfl) (eCons (Ev_loc rfl) eNil rfl) rfl) rfl))) sNil') sNil') (sCons' (sIf' (qCmp .ne (pSlc (Ev_loc rfl) (Ev_loc rfl) (pAdd (Ev_loc rfl) pC_int)) pC_str rfl rfl) (sCons' (sRet' (pTup (eCons (Ev_loc rfl) (eCons (Ev_loc rfl) (eCons (pIte (qCmp .eq (Ev_loc rfl) pC_str rfl rfl) (pNeg pC_int) (Ev_loc rfl)) eNil rfl) rfl) rfl))) sNil') sNil') (sCons' (sUnp' (pCall (hφ .lawFigures) (Nat.le_refl _) (eCons (Ev_loc rfl) (eCons (pAdd (Ev_loc rfl) pC_int) (eCons pC_int eNil rfl) rfl) rfl) hG.gl_lawFigures (hG.keep .lawFigures) (by kernel_rfl) rfl (by kernel_rfl)) ⟨rfl, rfl, rfl, trivial⟩ rfl (by kernel_rfl)) (sCons' (sIf' (qBool (lAnd (qCmp .lt (Ev_loc rfl) pC_int rfl rfl) (lAnd (qCmp .eq (Ev_loc rfl) pC_str rfl rfl) (lOne (qCmp .gt (Ev_loc rfl) (Ev_loc rfl) rfl rfl))))) (sCons' (sRet' (pTup (eCons (Ev_loc rfl) (eCons (Ev_loc rfl) (eCons (Ev_loc rfl) eNil rfl) rfl) rfl))) sNil') sNil') (sCons' (sIf' (qBool (lAnd (qCmp .lt (Ev_loc rfl) pC_int rfl rfl) (lAnd (qCmp .in_ (Ev_loc rfl) pC_str rfl rfl) (lOne (qCmp .eq (pSlc (Ev_loc rfl) (Ev_loc rfl) (pAdd (Ev_loc rfl) pC_int)) pC_str rfl rfl))))) (sCons' (sUnp' (pCall (hφ .lawFigures) (Nat.le_refl _) (eCons (Ev_loc rfl) (eCons (pAdd (Ev_loc rfl) pC_int) (eCons pC_int eNil rfl) rfl) rfl) hG.gl_lawFigures (hG.keep .lawFigures) (by kernel_rfl) rfl (by kernel_rfl)) ⟨rfl, rfl, rfl, trivial⟩ rfl (by kernel_rfl)) sNil') sNil') (sCons' (sRet' (pTup (eCons (Ev_loc rfl) (eCons (Ev_loc rfl) (eCons (Ev_loc rfl) eNil rfl) rfl) rfl))) sNil')))))))))
theorem m_lawQuoted (hG : Gp G P) (hR : RaiseOk G) {k : Nat} {φ : Phi} (hφ : ∀ f : Fn, Meets G f.addr k (φ f)) : Meets G (Fn.addr .lawQuoted) (k + 1) (funR 2 1 (r_lawQuoted φ)) := by
  refine Meets_fn (pn := [(Str.ofString "text"), (Str.ofString "at")]) (rest := [(Str.ofString "end")]) (by rw [hG.K]; exact rfl) (by rw [hG.K]; kernel_rfl) ?_ (by decide +kernel) (by decide +kernel) rfl rfl rfl (by decide +kernel) ?_
  · intro vs hv
    match vs, hv with
    | [a0, a1], _ => rfl
  · intro b hs hn hk
    obtain ⟨A0, base, outer, h0, L, f, qual, scope, cdv, nm, kk, gb, bel, hh, kind, room, nodup, locs⟩ := b
    simp only at hs hn hk
    subst hs hn hk
    exact (sCons' (sAssign' (pAdd (Ev_loc rfl) pC_int) rfl rfl) (sCons' (sWhile' 4096 (qCmp .lt (Ev_loc rfl) (pLen (Ev_loc rfl) hG.gl_len (by kernel_rfl) rfl) rfl rfl) (sCons' (sIf' (qBool (lAnd (qCmp .eq (pIdx (Ev_loc rfl) (Ev_loc rfl) rfl) pC_str rfl rfl) (lOne (qCmp .ne (pSlc (Ev_loc rfl) (pAdd (Ev_loc rfl) pC_int) (pAdd (Ev_loc rfl) pC_int)) pC_str rfl rfl)))) (sCons' (sRet' (pTup (eCons pC_str (eCons (pAdd (Ev_loc rfl) pC_int) (eCons (pIte (qCmp .eq (Ev_loc rfl) (pAdd (Ev_loc rfl) pC_int) rfl rfl) (Ev_loc rfl) (pNeg pC_int)) eNil rfl) rfl) rfl))) sNil') sNil') (sCons' (sAssign' (pAdd (Ev_loc rfl) (pIte (qCmp .eq (pIdx (Ev_loc rfl) (Ev_loc rfl) rfl) pC_str rfl rfl) pC_int pC_int)) rfl rfl) sNil'))) (sCons' (sRet' (pTup (eCons pC_str (eCons (Ev_loc rfl) (eCons (Ev_loc rfl) eNil rfl) rfl) rfl))) sNil')))
theorem m_lawControl (hG : Gp G P) (hR : RaiseOk G) {k : Nat} {φ : Phi} (hφ : ∀ f : Fn, Meets G f.addr k (φ f)) : Meets G (Fn.addr .lawControl) (k + 1) (funR 2 4 (r_lawControl φ)) := by
  refine Meets_fn (pn := [(Str.ofString "text"), (Str.ofString "at")]) (rest := [(Str.ofString "letter"), (Str.ofString "here"), (Str.ofString "value"), (Str.ofString "fault")]) (by rw [hG.K]; exact rfl) (by rw [hG.K]; kernel_rfl) ?_ (by decide +kernel) (by decide +kernel) rfl rfl rfl (by decide +kernel) ?_
  · intro vs hv
    match vs, hv with
    | [a0, a1], _ => rfl
  · intro b hs hn hk
    obtain ⟨A0, base, outer, h0, L, f, qual, scope, cdv, nm, kk, gb, bel, hh, kind, room, nodup, locs⟩ := b
    simp only at hs hn hk
    subst hs hn hk
    exact (sCons' (sSwap' [(Str.ofString "letter"), (Str.ofString "here")] (pTup (eCons (pIdx (Ev_loc rfl) (Ev_loc rfl) rfl) (eCons (pCall (hφ .lawSkip) (Nat.le_refl _) (eCons (Ev_loc rfl) (eCons (pAdd (Ev_loc rfl) pC_int) eNil rfl) rfl) hG.gl_lawSkip (hG.keep .lawSkip) (by kernel_rfl) rfl (by kernel_rfl)) eNil rfl) rfl)) ⟨rfl, rfl, trivial⟩ rfl (by kernel_rfl) rfl) (sCons' (sIf' (qCmp .in_ (Ev_loc rfl) pC_str rfl rfl) (sCons' (sRet' (pTup (eCons (Ev_loc rfl) (eCons (pAdd (Ev_loc rfl) pC_int) (eCons (pNeg pC_int) eNil rfl) rfl) rfl))) sNil') sNil') (sCons' (sIf' (qCmp .eq (Ev_loc rfl) pC_str rfl rfl) (sCons' (sRet' (pTup (eCons (Ev_loc rfl) (eCons (pIte (qK (pSlc (Ev_loc rfl) (Ev_loc rfl) (pAdd (Ev_loc rfl) pC_int)) (kIn (eStr (eStr eStrNil)) (by decide)) rfl) (pAdd (Ev_loc rfl) pC_int) (Ev_loc rfl)) (eCons (pNeg pC_int) eNil rfl) rfl) rfl))) sNil') sNil') (sCons' (sIf' (qBool (lAnd (qCmp .eq (Ev_loc rfl) pC_str rfl rfl) (lOne (qK (pSlc (Ev_loc rfl) (Ev_loc rfl) (pAdd (Ev_loc rfl) pC_int)) (kIn (eStr (eStr eStrNil)) (by decide)) rfl)))) (sCons' (sRet' (pTup (eCons (Ev_loc rfl) (eCons (pAdd (Ev_loc rfl) pC_int) (eCons (pNeg pC_int) eNil rfl) rfl) rfl))) sNil') sNil') (sCons' (sIf' (qCmp .eq (Ev_loc rfl) pC_str rfl rfl) (sCons' (sUnp' (pCall (hφ .lawFigures) (Nat.le_refl _) (eCons (Ev_loc rfl) (eCons (pIte (qK (pSlc (Ev_loc rfl) (Ev_loc rfl) (pAdd (Ev_loc rfl) pC_int)) (kIn (eStr (eStr eStrNil)) (by decide)) rfl) (pAdd (Ev_loc rfl) pC_int) (Ev_loc rfl)) (eCons pC_int eNil rfl) rfl) rfl) hG.gl_lawFigures (hG.keep .lawFigures) (by kernel_rfl) rfl (by kernel_rfl)) ⟨rfl, rfl, rfl, trivial⟩ rfl (by kernel_rfl)) (sCons' (sRet' (pTup (eCons (Ev_loc rfl) (eCons (Ev_loc rfl) (eCons (Ev_loc rfl) eNil rfl) rfl) rfl))) sNil')) sNil') (sCons' (sRet' (pTup (eCons (Ev_loc rfl) (eCons (Ev_loc rfl) (eCons (Ev_loc rfl) eNil rfl) rfl) rfl))) sNil'))))))
theorem m_lawCounted (hG : Gp G P) (hR : RaiseOk G) {k : Nat} {φ : Phi} (hφ : ∀ f : Fn, Meets G f.addr k (φ f)) : Meets G (Fn.addr .lawCounted) (k + 1) (funR 3 4 (r_lawCounted φ)) := by
  refine Meets_fn (pn := [(Str.ofString "text"), (Str.ofString "at"), (Str.ofString "deep")]) (rest := [(Str.ofString "count"), (Str.ofString "here"), (Str.ofString "fault"), (Str.ofString "letter")]) (by rw [hG.K]; exact rfl) (by rw [hG.K]; kernel_rfl) ?_ (by decide +kernel) (by decide +kernel) rfl rfl rfl (by decide +kernel) ?_
  · intro vs hv
    match vs, hv with
    | [a0, a1, a2], _ => rfl
  · intro b hs hn hk
    obtain ⟨A0, base, outer, h0, L, f, qual, scope, cdv, nm, kk, gb, bel, hh, kind, room, nodup, locs⟩ := b
    simp only at hs hn hk
    subst hs hn hk
    exact (sCons' (sUnp' (pCall (hφ .lawFigures) (Nat.le_refl _) (eCons (Ev_loc rfl) (eCons (Ev_loc rfl) (eCons (pNeg pC_int) eNil rfl) rfl) rfl) hG.gl_lawFigures (hG.keep .lawFigures) (by kernel_rfl) rfl (by kernel_rfl)) ⟨rfl, rfl, rfl, trivial⟩ rfl (by kernel_rfl)) (sCons' (sAssign' (pSlc (Ev_loc rfl) (Ev_loc rfl) (pAdd (Ev_loc rfl) pC_int)) rfl rfl) (sCons' (sIf' (qBool (lOr (qCmp .ge (Ev_loc rfl) pC_int rfl rfl) (lOne (qCmp .eq (Ev_loc rfl) pC_str rfl rfl)))) (sCons' (sRet' (pTup (eCons pC_str (eCons (pAdd (Ev_loc rfl) pC_int) (eCons (Ev_loc rfl) eNil rfl) rfl) rfl))) sNil') sNil') (sCons' (sIf' (qCmp .eq (Ev_loc rfl) pC_int rfl rfl) (sCons' (sRet' (pTup (eCons (Ev_loc rfl) (eCons (Ev_loc rfl) (eCons (Ev_loc rfl) eNil rfl) rfl) rfl))) sNil') sNil') (sCons' (sIf' (qCmp .eq (Ev_loc rfl) pC_str rfl rfl) (sCons' (sRet' (pTup (eCons (Ev_loc rfl) (eCons (pAdd (Ev_loc rfl) pC_int) (eCons (pNeg pC_int) eNil rfl) rfl) rfl))) sNil') sNil') (sCons' (sIf' (qCmp .eq (Ev_loc rfl) pC_str rfl rfl) (sCons' (sRet' (pTup (eCons (Ev_loc rfl) (eCons (pAdd (pAdd (Ev_loc rfl) pC_int) (Ev_loc rfl)) (eCons (pIte (qCmp .gt (pAdd (pAdd (Ev_loc rfl) pC_int) (Ev_loc rfl)) (pLen (Ev_loc rfl) hG.gl_len (by kernel_rfl) rfl) rfl rfl) (pAdd (Ev_loc rfl) pC_int) (pNeg pC_int)) eNil rfl) rfl) rfl))) sNil') sNil') (sCons' (sIf' (qCmp .eq (Ev_loc rfl) pC_str rfl rfl) (sCons' (sRet' (pCall (hφ .lawBracket) (Nat.le_refl _) (eCons (Ev_loc rfl) (eCons (Ev_loc rfl) (eCons (Ev_loc rfl) eNil rfl) rfl) rfl) hG.gl_lawBracket (hG.keep .lawBracket) (by kernel_rfl) rfl (by kernel_rfl))) sNil') sNil') (sCons' (sIf' (qBool (lOr (qCmp .eq (Ev_loc rfl) pC_str rfl rfl) (lOne (qCmp .notin (Ev_loc rfl) pC_str rfl rfl)))) (sCons' (sRet' (pTup (eCons (Ev_loc rfl) (eCons (Ev_loc rfl) (eCons (Ev_loc rfl) eNil rfl) rfl) rfl))) sNil') sNil') (sCons' (sRet' (pCall (hφ .lawValued) (Nat.le_refl _) (eCons (Ev_loc rfl) (eCons (Ev_loc rfl) eNil rfl) rfl) hG.gl_lawValued (hG.keep .lawValued) (by kernel_rfl) rfl (by kernel_rfl))) sNil')))))))))
theorem m_lawBracket (hG : Gp G P) (hR : RaiseOk G) {k : Nat} {φ : Phi} (hφ : ∀ f : Fn, Meets G f.addr k (φ f)) : Meets G (Fn.addr .lawBracket) (k + 1) (funR 3 3 (r_lawBracket φ)) := by
  refine Meets_fn (pn := [(Str.ofString "text"), (Str.ofString "at"), (Str.ofString "deep")]) (rest := [(Str.ofString "many"), (Str.ofString "here"), (Str.ofString "fault")]) (by rw [hG.K]; exact rfl) (by rw [hG.K]; kernel_rfl) ?_ (by decide +kernel) (by decide +kernel) rfl rfl rfl (by decide +kernel) ?_
  · intro vs hv
    match vs, hv with
    | [a0, a1, a2], _ => rfl
  · intro b hs hn hk
    obtain ⟨A0, base, outer, h0, L, f, qual, scope, cdv, nm, kk, gb, bel, hh, kind, room, nodup, locs⟩ := b
    simp only at hs hn hk
    subst hs hn hk
    exact (sCons' (sIf' (qCmp .eq (Ev_loc rfl) pC_int rfl rfl) (sCons' (sRet' (pTup (eCons pC_str (eCons (Ev_loc rfl) (eCons (Ev_loc rfl) eNil rfl) rfl) rfl))) sNil') sNil') (sCons' (sUnp' (pCall (hφ .lawRow) (Nat.le_refl _) (eCons (Ev_loc rfl) (eCons (pAdd (Ev_loc rfl) pC_int) (eCons (pAdd (Ev_loc rfl) pC_int) eNil rfl) rfl) rfl) hG.gl_lawRow (hG.keep .lawRow) (by kernel_rfl) rfl (by kernel_rfl)) ⟨rfl, rfl, rfl, trivial⟩ rfl (by kernel_rfl)) (sCons' (sRet' (pTup (eCons pC_str (eCons (pAdd (Ev_loc rfl) pC_int) (eCons (pIte (qBool (lAnd (qCmp .lt (Ev_loc rfl) pC_int rfl rfl) (lOne (qCmp .eq (Ev_loc rfl) pC_int rfl rfl)))) (Ev_loc rfl) (Ev_loc rfl)) eNil rfl) rfl) rfl))) sNil')))
theorem m_lawItem (hG : Gp G P) (hR : RaiseOk G) {k : Nat} {φ : Phi} (hφ : ∀ f : Fn, Meets G f.addr k (φ f)) : Meets G (Fn.addr .lawItem) (k + 1) (funR 3 4 (r_lawItem φ)) := by
  refine Meets_fn (pn := [(Str.ofString "text"), (Str.ofString "at"), (Str.ofString "deep")]) (rest := [(Str.ofString "sign"), (Str.ofString "value"), (Str.ofString "here"), (Str.ofString "fault")]) (by rw [hG.K]; exact rfl) (by rw [hG.K]; kernel_rfl) ?_ (by decide +kernel) (by decide +kernel) rfl rfl rfl (by decide +kernel) ?_
  · intro vs hv
    match vs, hv with
    | [a0, a1, a2], _ => rfl
  · intro b hs hn hk
    obtain ⟨A0, base, outer, h0, L, f, qual, scope, cdv, nm, kk, gb, bel, hh, kind, room, nodup, locs⟩ := b
    simp only at hs hn hk
    subst hs hn hk
    exact (sCons' (sAssign' (pIdx (Ev_loc rfl) (Ev_loc rfl) rfl) rfl rfl) (sCons' (sIf' (qCmp .in_ (Ev_loc rfl) pC_str rfl rfl) (sCons' (sRet' (pCall (hφ .lawCounted) (Nat.le_refl _) (eCons (Ev_loc rfl) (eCons (Ev_loc rfl) (eCons (Ev_loc rfl) eNil rfl) rfl) rfl) hG.gl_lawCounted (hG.keep .lawCounted) (by kernel_rfl) rfl (by kernel_rfl))) sNil') sNil') (sCons' (sIf' (qCmp .eq (Ev_loc rfl) pC_str rfl rfl) (sCons' (sRet' (pCall (hφ .lawQuoted) (Nat.le_refl _) (eCons (Ev_loc rfl) (eCons (Ev_loc rfl) eNil rfl) rfl) hG.gl_lawQuoted (hG.keep .lawQuoted) (by kernel_rfl) rfl (by kernel_rfl))) sNil') sNil') (sCons' (sIf' (qCmp .in_ (Ev_loc rfl) pC_str rfl rfl) (sCons' (sUnp' (pCall (hφ .lawFigures) (Nat.le_refl _) (eCons (Ev_loc rfl) (eCons (pAdd (Ev_loc rfl) pC_int) (eCons pC_int eNil rfl) rfl) rfl) hG.gl_lawFigures (hG.keep .lawFigures) (by kernel_rfl) rfl (by kernel_rfl)) ⟨rfl, rfl, rfl, trivial⟩ rfl (by kernel_rfl)) (sCons' (sRet' (pTup (eCons pC_str (eCons (pAdd (Ev_loc rfl) pC_int) (eCons (pIte (qBool (lAnd (qCmp .lt (Ev_loc rfl) pC_int rfl rfl) (lOne (qCmp .ne (pSlc (Ev_loc rfl) (Ev_loc rfl) (pAdd (Ev_loc rfl) pC_int)) pC_str rfl rfl)))) (Ev_loc rfl) (Ev_loc rfl)) eNil rfl) rfl) rfl))) sNil')) sNil') (sCons' (sIf' (qCmp .eq (Ev_loc rfl) pC_str rfl rfl) (sCons' (sRet' (pCall (hφ .lawBracket) (Nat.le_refl _) (eCons (Ev_loc rfl) (eCons (Ev_loc rfl) (eCons (Ev_loc rfl) eNil rfl) rfl) rfl) hG.gl_lawBracket (hG.keep .lawBracket) (by kernel_rfl) rfl (by kernel_rfl))) sNil') sNil') (sCons' (sRet' (pIte (qCmp .in_ (Ev_loc rfl) pC_str rfl rfl) (pCall (hφ .lawValued) (Nat.le_refl _) (eCons (Ev_loc rfl) (eCons (Ev_loc rfl) eNil rfl) rfl) hG.gl_lawValued (hG.keep .lawValued) (by kernel_rfl) rfl (by kernel_rfl)) (pCall (hφ .lawControl) (Nat.le_refl _) (eCons (Ev_loc rfl) (eCons (Ev_loc rfl) eNil rfl) rfl) hG.gl_lawControl (hG.keep .lawControl) (by kernel_rfl) rfl (by kernel_rfl)))) sNil'))))))
theorem m_lawRow (hG : Gp G P) (hR : RaiseOk G) {k : Nat} {φ : Phi} (hφ : ∀ f : Fn, Meets G f.addr k (φ f)) : Meets G (Fn.addr .lawRow) (k + 1) (funR 3 8 (r_lawRow φ)) := by
  refine Meets_fn (pn := [(Str.ofString "text"), (Str.ofString "at"), (Str.ofString "deep")]) (rest := [(Str.ofString "many"), (Str.ofString "last"), (Str.ofString "is_open"), (Str.ofString "here"), (Str.ofString "sign"), (Str.ofString "letter"), (Str.ofString "fault"), (Str.ofString "may_touch")]) (by rw [hG.K]; exact rfl) (by rw [hG.K]; kernel_rfl) ?_ (by decide +kernel) (by decide +kernel) rfl rfl rfl (by decide +kernel) ?_
  · intro vs hv
    match vs, hv with
    | [a0, a1, a2], _ => rfl
  · intro b hs hn hk
    obtain ⟨A0, base, outer, h0, L, f, qual, scope, cdv, nm, kk, gb, bel, hh, kind, room, nodup, locs⟩ := b
    simp only at hs hn hk
    subst hs hn hk
    exact (sCons' (sUnp' (pTup (eCons pC_int (eCons pC_str (eCons pC_bool eNil rfl) rfl) rfl)) ⟨rfl, rfl, rfl, trivial⟩ rfl (by kernel_rfl)) (sCons' (sWhile' 4096 (qOf pC_bool rfl) (sCons' (sAssign' (pCall (hφ .lawSkip) (Nat.le_refl _) (eCons (Ev_loc rfl) (eCons (Ev_loc rfl) eNil rfl) rfl) hG.gl_lawSkip (hG.keep .lawSkip) (by kernel_rfl) rfl (by kernel_rfl)) rfl rfl) (sCons' (sAssign' (pSlc (Ev_loc rfl) (Ev_loc rfl) (pAdd (Ev_loc rfl) pC_int)) rfl rfl) (sCons' (sIf' (qCmp .eq (Ev_loc rfl) pC_str rfl rfl) (sCons' (sRet' (pTup (eCons (Ev_loc rfl) (eCons (Ev_loc rfl) (eCons (Ev_loc rfl) eNil rfl) rfl) rfl))) sNil') sNil') (sCons' (sIf' (qCmp .in_ (Ev_loc rfl) pC_str rfl rfl) (sCons' (sIf' (qBool (lOr (qBool (lAnd (qCmp .eq (Ev_loc rfl) pC_str rfl rfl) (lOne (qOf (Ev_loc rfl) rfl)))) (lOne (qBool (lAnd (qCmp .eq (Ev_loc rfl) pC_str rfl rfl) (lAnd (qOf (Ev_loc rfl) rfl) (lOne (qCmp .gt (Ev_loc rfl) pC_int rfl rfl)))))))) (sCons' (sRet' (pTup (eCons (Ev_loc rfl) (eCons (Ev_loc rfl) (eCons (Ev_loc rfl) eNil rfl) rfl) rfl))) sNil') sNil') (sCons' (sIf' (qCmp .eq (Ev_loc rfl) pC_str rfl rfl) (sCons' (sRet' (pTup (eCons (Ev_loc rfl) (eCons (Ev_loc rfl) (eCons (pNeg pC_int) eNil rfl) rfl) rfl))) sNil') sNil') (sCons' (sSwap' [(Str.ofString "is_open"), (Str.ofString "at")] (pTup (eCons pC_bool (eCons (pAdd (Ev_loc rfl) pC_int) eNil rfl) rfl)) ⟨rfl, rfl, trivial⟩ rfl (by kernel_rfl) rfl) (sCons' sCont' sNil')))) sNil') (sCons' (sUnp' (pCall (hφ .lawItem) (Nat.le_refl _) (eCons (Ev_loc rfl) (eCons (Ev_loc rfl) (eCons (Ev_loc rfl) eNil rfl) rfl) rfl) hG.gl_lawItem (hG.keep .lawItem) (by kernel_rfl) rfl (by kernel_rfl)) ⟨rfl, rfl, rfl, trivial⟩ rfl (by kernel_rfl)) (sCons' (sIf' (qCmp .ge (Ev_loc rfl) pC_int rfl rfl) (sCons' (sRet' (pTup (eCons (Ev_loc rfl) (eCons (Ev_loc rfl) (eCons (Ev_loc rfl) eNil rfl) rfl) rfl))) sNil') sNil') (sCons' (sAssign' (pBool (mOr (pK (Ev_loc rfl) (kIn (eStr (eStr eStrNil)) (by decide)) rfl) (mOr (pK (Ev_loc rfl) (kIn (eStr (eStr eStrNil)) (by decide)) rfl) (mOne (pBool (mAnd (pCmp .eq (Ev_loc rfl) pC_str rfl rfl) (mOne (pK (Ev_loc rfl) (kIn (eStr (eStr (eStr (eStr eStrNil)))) (by decide)) rfl)))))))) rfl rfl) (sCons' (sIf' (qBool (lAnd (qNot (qOf (Ev_loc rfl) rfl)) (lOne (qNot (qOf (Ev_loc rfl) rfl))))) (sCons' (sRet' (pTup (eCons (Ev_loc rfl) (eCons (Ev_loc rfl) (eCons (Ev_loc rfl) eNil rfl) rfl) rfl))) sNil') sNil') (sCons' (sSwap' [(Str.ofString "many"), (Str.ofString "last"), (Str.ofString "is_open")] (pTup (eCons (pAdd (Ev_loc rfl) pC_int) (eCons (Ev_loc rfl) (eCons pC_bool eNil rfl) rfl) rfl)) ⟨rfl, rfl, rfl, trivial⟩ rfl (by kernel_rfl) rfl) sNil')))))))))) sNil'))
theorem m_lawDue (hG : Gp G P) (hR : RaiseOk G) {k : Nat} {φ : Phi} (hφ : ∀ f : Fn, Meets G f.addr k (φ f)) : Meets G (Fn.addr .lawDue) (k + 1) (funR 1 3 (r_lawDue φ)) := by
  refine Meets_fn (pn := [(Str.ofString "text")]) (rest := [(Str.ofString "here"), (Str.ofString "many"), (Str.ofString "fault")]) (by rw [hG.K]; exact rfl) (by rw [hG.K]; kernel_rfl) ?_ (by decide +kernel) (by decide +kernel) rfl rfl rfl (by decide +kernel) ?_
  · intro vs hv
    match vs, hv with
    | [a0], _ => rfl
  · intro b hs hn hk
    obtain ⟨A0, base, outer, h0, L, f, qual, scope, cdv, nm, kk, gb, bel, hh, kind, room, nodup, locs⟩ := b
    simp only at hs hn hk
    subst hs hn hk
    exact (sCons' (sAssign' (pCall (hφ .lawSkip) (Nat.le_refl _) (eCons (Ev_loc rfl) (eCons pC_int eNil rfl) rfl) hG.gl_lawSkip (hG.keep .lawSkip) (by kernel_rfl) rfl (by kernel_rfl)) rfl rfl) (sCons' (sIf' (qCmp .ne (pSlc (Ev_loc rfl) (Ev_loc rfl) (pAdd (Ev_loc rfl) pC_int)) pC_str rfl rfl) (sCons' (sRet' (Ev_loc rfl)) sNil') sNil') (sCons' (sUnp' (pCall (hφ .lawRow) (Nat.le_refl _) (eCons (Ev_loc rfl) (eCons (pAdd (Ev_loc rfl) pC_int) (eCons pC_int eNil rfl) rfl) rfl) hG.gl_lawRow (hG.keep .lawRow) (by kernel_rfl) rfl (by kernel_rfl)) ⟨rfl, rfl, rfl, trivial⟩ rfl (by kernel_rfl)) (sCons' (sIf' (qCmp .ge (Ev_loc rfl) pC_int rfl rfl) (sCons' (sRet' (Ev_loc rfl)) sNil') sNil') (sCons' (sAssign' (pCall (hφ .lawSkip) (Nat.le_refl _) (eCons (Ev_loc rfl) (eCons (pAdd (Ev_loc rfl) pC_int) eNil rfl) rfl) hG.gl_lawSkip (hG.keep .lawSkip) (by kernel_rfl) rfl (by kernel_rfl)) rfl rfl) (sCons' (sRet' (pIte (qCmp .lt (Ev_loc rfl) (pLen (Ev_loc rfl) hG.gl_len (by kernel_rfl) rfl) rfl rfl) (Ev_loc rfl) (pNeg pC_int))) sNil'))))))
theorem meets (hG : Gp G P) (hR : RaiseOk G) : ∀ (k : Nat) (f : Fn), Meets G f.addr k (Φ k f)
  | 0, f => fun A base outer s ps vs Q E gb B hh room rep P => P.elim
  | k + 1, f => by
    have ih := meets hG hR k
    cases f
    case pass_blanks => exact m_pass_blanks hG hR ih
    case number_at => exact m_number_at hG hR ih
    case size_at => exact m_size_at hG hR ih
    case is_at => exact m_is_at hG hR ih
    case places_at => exact m_places_at hG hR ih
    case exponent_at => exact m_exponent_at hG hR ih
    case whole_edit => exact m_whole_edit hG hR ih
    case real_edit => exact m_real_edit hG hR ih
    case value_edit => exact m_value_edit hG hR ih
    case quoted_at => exact m_quoted_at hG hR ih
    case counted_text => exact m_counted_text hG hR ih
    case scale_at => exact m_scale_at hG hR ih
    case control_at => exact m_control_at hG hR ih
    case group_at => exact m_group_at hG hR ih
    case counted_at => exact m_counted_at hG hR ih
    case item_at => exact m_item_at hG hR ih
    case may_join => exact m_may_join hG hR ih
    case items_at => exact m_items_at hG hR ih
    case format_prefix => exact m_format_prefix hG hR ih
    case parse_format => exact m_parse_format hG hR ih
    case lawSkip => exact m_lawSkip hG hR ih
    case lawFigures => exact m_lawFigures hG hR ih
    case lawValued => exact m_lawValued hG hR ih
    case lawQuoted => exact m_lawQuoted hG hR ih
    case lawControl => exact m_lawControl hG hR ih
    case lawCounted => exact m_lawCounted hG hR ih
    case lawBracket => exact m_lawBracket hG hR ih
    case lawItem => exact m_lawItem hG hR ih
    case lawRow => exact m_lawRow hG hR ih
    case lawDue => exact m_lawDue hG hR ih
end Mine

namespace Mine
open PySem PySem.W PyProof.Rows PySem.Calls PySem.SeqAt

section
variable {prog : Program} {w : World} {A : Around} {E : Value → Shared → Prop} {R : Result → Shared → Prop} {h : Heap} {g : Array GenState} {d : Drawn} {t : Nat} {os : OsState}
variable {nm q : Str} {C N : Addr} {bs bm bmN bmI : List Value} {hdct : Bool} {sn : List Str} {sub : List Value} {ab : Bool} {col : Option Bool} {dd : Option Addr} {k0 k1 k2 k3 k5 : Option Value} {B newId initId : String}

/-- an exception class of ours, whose bases are ours too: what its list of bases must show -/
structure Bases (bm : List Value) (B : String) : Prop where
  has : bm.contains (.type B) = true
  base : bm.contains (.type "BaseException") = true
  noA : bm.contains (.type "AttributeError") = false
  noN : bm.contains (.type "NameError") = false

theorem own_check_new (F : ExcBaseFacts B newId initId bmN) (T : Bases bm B) {rest : List Value} {Q : Unit → Shared → Prop} (hC : h.get? C = some (excClassObj nm q C N bs bm hdct sn sub ab col dd k0 k1 k2 k3 k5 newId))
    (hq : Q () ⟨h, g, d, t, os⟩) : wpAny (model prog w) A (checkBuiltinCall newId ⟨.ref C :: rest, []⟩) Q E ⟨h, g, d, t, os⟩ := by
  have hcont : (Value.ref C :: bm).contains (.type B) = true := by rw [List.contains_cons, T.has, Bool.or_true]
  have hstar := F.noStar
  simp only [checkBuiltinCall, F.newKind, F.newSplit, F.newRow]
  repeat (first | refine wpAny_loadPart_at hC ?_ | (refine wpAny_isSubtype_exc hC ?_; rw [hcont]) | refine wpAny_staticBase_exc hC ?_ | refine wpAny_madeBy_exc hC ?_ | simp only [bne_self_eq_false, Bool.false_eq_true, if_false] | wp_step)
  exact hq

theorem own_new (F : ExcBaseFacts B newId initId bmN) (T : Bases bm B) {rest : List Value} (hC : h.get? C = some (excClassObj nm q C N bs bm hdct sn sub ab col dd k0 k1 k2 k3 k5 newId))
    (hq : R (.ok (.ret (.ref (h.objs.size + 1)))) ⟨(h.push { cls := .type "tuple", data := .seq rest.toArray }).push
      { cls := .ref C, data := .fields #[.ref h.objs.size, .none, .none, .none, .bool false, .none] }, g, d, t, os⟩) (hrest : rest.length ≤ sizeLine) :
    codeAny (model prog w) A (.builtin newId ⟨.ref C :: rest, []⟩) R ⟨h, g, d, t, os⟩ := by
  have hends := F.ends
  have hcB : (Value.ref C :: bm).contains (.type B) = true := by rw [List.contains_cons, T.has, Bool.or_true]
  have hcA : (Value.ref C :: bm).contains (.type "AttributeError") = false := by rw [List.contains_cons, T.noA]; rfl
  have hcN : (Value.ref C :: bm).contains (.type "NameError") = false := by rw [List.contains_cons, T.noN]; rfl
  refine codeAny_builtinAt F.entry ?_
  unfold Builtin.«BaseException.__new__»
  refine PySem.wpAt_bind ?_
  show PySem.wpAt _ _ _ (stack >>= _) _ _ _
  refine PySem.wpAt_bind (PySem.wpAt_stack fun p below => PySem.wpAt_of_wpAny ?_)
  wp_walk
  refine PySem.wpAt_of_wpAny ?_
  rw [F.owner]
  repeat (first | with_reducible refine wpAny_madeHere_exc F.canon hC ?_ | with_reducible refine wpAny_loadPart_at hC ?_ | (with_reducible refine wpAny_isSubtype_exc hC ?_; first | rw [hcB] | rw [hcA] | rw [hcN]) | wp_step)
  show R _ _
  rw [Heap.size_push]
  exact hq

/-- the class is called: a new exception, then __init__ -/
theorem own_type_call (F : ExcBaseFacts B newId initId bmN) (T : Bases bm B) {rest : List Value} {fI : Addr} {oI : Obj} {Q : Fin → Shared → Prop}
    (hC : h.get? C = some (excClassObj nm q C N bs bm hdct sn sub ab col dd k0 k1 k2 k3 k5 newId)) (hi : Looks (model prog w) h (typeLookup (.ref C) "__init__") (some (.ref fI)))
    (hfI : h.get? fI = some oI) (hfc : oI.cls = .type "function")
    (hq : ∀ h' e, Heap.MadeExcOf h h' e (.ref C) rest →
      wpAny (model prog w) A (call (.ref fI) (.ref e :: rest)) (fun r s' => r = .none ∧ Q (.done (.ret (.ref e))) s') E ⟨h', g, d, t, os⟩) (hrest : rest.length ≤ sizeLine) :
    wpAny (model prog w) A (Builtin.«type.__call__» ⟨.ref C :: rest, []⟩) Q E ⟨h, g, d, t, os⟩ := by
  repeat (first | with_reducible refine wpAny_loadPart_at hC ?_ | with_reducible refine wpAny_madeBy_exc hC ?_ | wp_step)
  refine codeAny_call_builtin_code (Code.quiet_builtin _ F.quiet) (own_check_new F T hC ?_)
  refine own_new F T hC ?_ hrest
  show wpAny _ _ _ _ _ _
  have k1 := stays_push h { cls := .type "tuple", data := .seq rest.toArray }
  have k2 := stays_push (h.push { cls := .type "tuple", data := .seq rest.toArray }) { cls := .ref C, data := .fields #[.ref h.objs.size, .none, .none, .none, .bool false, .none] }
  have hC₁ := k2 _ _ (k1 _ _ hC)
  have hfI₁ := k2 _ _ (k1 _ _ hfI)
  have hget : ((h.push { cls := .type "tuple", data := .seq rest.toArray }).push
      { cls := .ref C, data := .fields #[.ref h.objs.size, .none, .none, .none, .bool false, .none] }).get? (h.objs.size + 1) = some
      { cls := .ref C, data := .fields #[.ref h.objs.size, .none, .none, .none, .bool false, .none] } := by heap_get
  have hcC : (Value.ref C :: bm).contains (.ref C) = true := by simp
  unfold isInstance
  repeat (first | with_reducible refine wpAny_loadPart_at hget ?_ | (with_reducible refine wpAny_isSubtype_exc hC₁ ?_; rw [hcC]) | wp_step)
  show wpAny _ _ (typeLookup (.ref C) _) _ _ _
  refine hi _ _ _ _ (stays_trans k1 k2) ?_
  refine wpAny_holding (wpAny_bind ?_)
  unfold bindSpecial
  refine wpAny_bind (wpAny_typeOf (T := "function") ⟨_, hfI₁, hfc⟩ ?_)
  rw [if_pos (by decide)]
  refine wpAny_pure (wpAny_bind (wpAny_mono (hq _ (h.objs.size + 1) ⟨stays_trans k1 k2, Heap.get?_none_of_le (Nat.le_succ _), h.objs.size, hget, Heap.get?_none_of_le (Nat.le_refl _), ?_⟩) (fun r s' hr => ?_) fun _ _ x => x))
  · exact Heap.get?_push_of_some _ (Heap.get?_push_at rfl rfl)
  · obtain ⟨rfl, hQ⟩ := hr
    wp_walk
    exact hQ

theorem own_call (F : ExcBaseFacts B newId initId bmN) (T : Bases bm B) {rest : List Value} {fI : Addr} {oI : Obj} {Q : Value → Shared → Prop}
    (hC : h.get? C = some (excClassObj nm q C N bs bm hdct sn sub ab col dd k0 k1 k2 k3 k5 newId)) (hi : Looks (model prog w) h (typeLookup (.ref C) "__init__") (some (.ref fI)))
    (hfI : h.get? fI = some oI) (hfc : oI.cls = .type "function")
    (hq : ∀ h' e, Heap.MadeExcOf h h' e (.ref C) rest →
      wpAny (model prog w) (A.under (.builtin "type.__call__" ⟨.ref C :: rest, []⟩)) (call (.ref fI) (.ref e :: rest)) (fun r s' => r = .none ∧ Q (.ref e) s') E ⟨h', g, d, t, os⟩) (hrest : rest.length ≤ sizeLine) :
    wpAny (model prog w) A (call (.ref C) rest) Q E ⟨h, g, d, t, os⟩ := by
  have f1 := tc_lookup
  have f2 := tc_bind (.ref C)
  have hT : (⟨h, g, d, t, os⟩ : Shared).TypeIs (.ref C) "type" := ⟨_, hC, rfl⟩
  refine wpAny_call (codeAny_of_tree ?_)
  show wpAny _ _ (callAny (.ref C) _) _ _ _
  repeat (any_goals (first | assumption | with_reducible refine wpAny_loadPart_at hC ?_ | wp_step))
  refine ⟨rfl, ?_⟩
  refine codeAny_call_builtin_at (Code.quiet_builtin _ (by decide +kernel)) entry_typeCall (wpAny_check_type_call_sub hC (own_type_call F T hC hi hfI hfc (fun h' e hm => ?_) hrest))
  exact hq h' e hm

/-- Exception.__init__(e, ..) -/
theorem own_base_init (F : ExcBaseFacts B newId initId bmN) (T : Bases bm B) {e t0 : Addr} {od : Option Addr} {osl : Array (Option Value)} {rest : List Value} {Q : Value → Shared → Prop}
    (hC : h.get? C = some (excClassObj nm q C N bs bm hdct sn sub ab col dd k0 k1 k2 k3 k5 newId)) (he : h.get? e = some { cls := .ref C, dict := od, data := .fields #[.ref t0, .none, .none, .none, .bool false, .none], slots := osl })
    (hq : Q .none ⟨(h.push { cls := .type "tuple", data := .seq rest.toArray }).update e (Obj.mapFields (·.setIfInBounds 0 (.ref h.objs.size))), g, d, t, os⟩) (hrest : rest.length ≤ sizeLine) :
    wpAny (model prog w) A (call (.builtin initId) (.ref e :: rest)) Q E ⟨h, g, d, t, os⟩ := by
  have hcB : (Value.ref C :: bm).contains (.type B) = true := by rw [List.contains_cons, T.has, Bool.or_true]
  have hshort := F.noStar
  refine wpAny_call (codeAny_call_builtin F.init.plain F.initEntry ?_)
  simp only [checkBuiltinCall, F.initKind, F.initSplit, F.initRow]
  repeat (first | with_reducible refine wpAny_loadPart_at he ?_ | with_reducible refine wpAny_loadPart_at hC ?_ | (with_reducible refine wpAny_isSubtype_exc hC ?_; rw [hcB]) | wp_step)
  refine wpAny_onRaise ?_
  rw [show ∀ (a b : String) (n : Nat), Bind.check ⟨.positional, "*", B, .self, [⟨"args", .varPos, false⟩]⟩ a b n (List.map (fun x => x.fst) ({ pos := Value.ref e :: rest } : Args).kw) = pure () from
    fun a b n => check_star_args _ _ _ _ _ _]
  refine wpAny_pure ?_
  have he₁ := stays_push h { cls := .type "tuple", data := .seq rest.toArray } _ _ he
  unfold Builtin.«BaseException.__init__»
  repeat (first | with_reducible refine wpAny_loadPart_at he₁ ?_ | wp_step)
  exact hq
end
end Mine

namespace Mine
open PySem PySem.W PyProof.Rows PySem.Calls PySem.SeqAt
open Builtin Builtin.ObjectAttr

section
variable {prog : Program} {w : World} {A : Around} {E : Value → Shared → Prop} {R : Result → Shared → Prop} {h : Heap} {g : Array GenState} {d : Drawn} {t : Nat} {os : OsState}
variable {nm q : Str} {C N x : Addr} {bs bm bmB : List Value} {sn : List Str} {sub : List Value} {ab : Bool} {col : Option Bool} {dd : Option Addr} {k0 k1 k2 k3 k5 : Option Value} {B newId sa owner : String} {mA : Str → Option Value} {name : Str} {v : Value}

theorem own_check_sa {o : Obj} {nameV : Value} {Q : Unit → Shared → Prop} (SF : StoreFacts B bmB sa owner) (ho : bm.contains (.type owner) = true)
    (hC : h.get? C = some (excClassObj nm q C N bs bm true sn sub ab col dd k0 k1 k2 k3 k5 newId)) (hx : h.get? x = some o) (hc : o.cls = .ref C) (hq : Q () ⟨h, g, d, t, os⟩) :
    wpAny (model prog w) A (checkBuiltinCall sa ⟨[.ref x, nameV, v], []⟩) Q E ⟨h, g, d, t, os⟩ := by
  have hcB : (Value.ref C :: bm).contains (.type owner) = true := by rw [List.contains_cons, ho, Bool.or_true]
  have ha := SF.args (.ref x) nameV v
  simp only [checkBuiltinCall, SF.kind, SF.split]
  refine wpAny_bind ?_
  · unfold isInstance
    repeat (first | (with_reducible refine wpAny_loadPart_at hx ?_; rw [hc]) | (with_reducible refine wpAny_isSubtype_exc hC ?_; rw [hcB]) | wp_step)
    cases hsig : Manifest.signature? sa with
    | none => exact wpAny_pure hq
    | some sig =>
      simp only [argsOk, hsig] at ha
      have h2 : Bind.checkArgs sa sig ⟨[.ref x, nameV, v], []⟩ = pure () := ha
      show wpAny _ A (Bind.checkArgs sa sig ⟨[.ref x, nameV, v], []⟩) Q E _
      rw [h2]; exact wpAny_pure hq

/-- what a store of an attribute leaves -/
noncomputable def Stored (h h' : Heap) (x C : Addr) (mA : Str → Option Value) (name : Str) (v : Value) : Prop :=
  h'.Inst x C (fun y => if y = name then some v else mA y) ∧ (∀ b o, b ≠ x → (∀ o₀ dx, h.get? x = some o₀ → o₀.dict = some dx → b ≠ dx) → h.get? b = some o → h'.get? b = some o) ∧
    ∀ o₀, h.get? x = some o₀ → ∃ o₁, h'.get? x = some o₁ ∧ o₁.cls = o₀.cls ∧ o₁.data = o₀.data ∧ o₁.slots = o₀.slots ∧ (∀ dx, o₀.dict = some dx → o₁.dict = some dx) ∧ (o₀.dict = none → ∃ dx, o₁.dict = some dx ∧ h.get? dx = none)

theorem own_store_entry {tk : Tok} {Q : Fin → Shared → Prop} {ns : List Str} (hC : h.get? C = some (excClassObj nm q C N bs bm true sn sub ab col dd k0 k1 k2 k3 k5 newId))
    (hpass : refuseLoop (.ref x) "__setattr__" bm = pure ()) (hln : Looks (model prog w) h (typeLookup (.ref C) name) none) (I : h.Inst x C mA)
    (hq : ∀ h' tk', Stored h h' x C mA name v → Q (.done (.ret .none)) ⟨h', g, d, tk', os⟩) (hw : Within mA ns) (hsz : ns.length ≤ 1000) :
    wpAny (model prog w) A (Builtin.«object.__setattr__» ⟨[.ref x, .str name tk, v], []⟩) Q E ⟨h, g, d, t, os⟩ := by
  obtain ⟨o, hx, hc, hnc, hd⟩ := I
  unfold Builtin.«object.__setattr__»
  repeat (first | rw [refuse_eq] | (rw [refuseLoop_ref, hpass]) | (with_reducible refine wpAny_loadPart_at hx ?_; rw [hc]) | with_reducible refine wpAny_mroOf_exc hC ?_ | with_reducible refine Looks.at hln ?_ | wp_step)
  rcases hd with ⟨hdn, hmA⟩ | ⟨dx, hdx, hne, hns⟩
  ·
    rw [hdn, if_neg (by simp [typeHasDict])]
    split
    · rename_i hcd
      cases hcd
    split
    · rename_i c hcd
      exact absurd hcd (hnc c)
    · have hx₁ : (h.push { cls := .type "dict", data := .dict #[] }).get? x = some o := Heap.get?_push_of_some _ hx
      have hxs : x ≠ h.objs.size := Nat.ne_of_lt (Heap.lt_size hx)
      refine wpAny_bind (wpAny_alloc' ?_)
      refine wpAny_bind (wpAny_update' hx₁ ?_)
      refine wpAny_pure ?_
      have hgd : ((h.push { cls := .type "dict", data := .dict #[] }).update x fun o => { cls := o.cls, dict := some h.objs.size, data := o.data, slots := o.slots }).get? h.objs.size
          = some { cls := .type "dict", data := .dict #[] } :=
        (Heap.get?_update_ne _ _ _ _ hxs.symm).trans (Heap.get?_push_at rfl rfl)
      have hnd : ((h.push { cls := .type "dict", data := .dict #[] }).update x fun o => { cls := o.cls, dict := some h.objs.size, data := o.data, slots := o.slots }).Ns h.objs.size (fun _ => none) :=
        ⟨_, #[], _, hgd, rfl, fun e he => absurd he (by simp), fun _ => rfl⟩
      show wpAny _ _ (storeInDict h.objs.size (.str name tk) name v) _ _ _
      unfold storeInDict newKeyGuard
      refine wpAny_bind (wpAny_pure (wpAny_bind (wpAny_nsSet1 (Heap.Ns1.of_empty hnd) fun h' hn' hs => ?_)))
      obtain ⟨oD, esD, epD, hoD, hdD, hcD⟩ := hn'.count (Within.cons name v Within.nil)
      refine wpAny_bind (wpAny_lookBehind hoD (by rw [hdD]; exact pastItsLine_dict (Nat.le_trans hcD (by rw [List.length_cons, List.length_nil, sizeLine_eq]; omega))) ?_)
      wp_walk
      have hx' : h'.get? x = some { cls := o.cls, dict := some h.objs.size, data := o.data, slots := o.slots } := by
        refine (hs.2 x hxs).trans (Heap.get?_update_self _ hx₁ ?_)
        have hfr := (Heap.get?_some_iff.mp hx).2
        obtain ⟨oc, od, odt, osl⟩ := o
        cases odt <;> first | rfl | exact hfr
      refine hq h' _ ⟨⟨{ cls := o.cls, dict := some h.objs.size, data := o.data, slots := o.slots }, hx', hc, hnc, .inr ⟨h.objs.size, rfl, hxs.symm, ?_⟩⟩, fun b ob hbx _ hb => ?_,
        fun o₀ h₀ => by obtain rfl : o = o₀ := Option.some.inj (hx.symm.trans h₀); exact ⟨_, hx', rfl, rfl, rfl, fun dx e => (by rw [hdn] at e; cases e), fun _ => ⟨_, rfl, Heap.get?_none_of_le (Nat.le_refl _)⟩⟩⟩
      · obtain ⟨o', es, ep, e1, e2, e3, eu, e4⟩ := hn'
        exact ⟨o', es, ep, e1, e2, e3, eu, fun y => by rw [e4 y]; by_cases hy : y = name <;> simp [hy, hmA]⟩
      · exact (hs.2 b (Nat.ne_of_lt (Heap.lt_size hb))).trans ((Heap.get?_update_ne _ _ _ _ hbx).trans (Heap.get?_push_of_some _ hb))
  ·
    rw [hdx]
    refine wpAny_pure ?_
    show wpAny _ _ (storeInDict dx (.str name tk) name v) _ _ _
    unfold storeInDict newKeyGuard
    refine wpAny_bind (wpAny_pure (wpAny_bind (wpAny_nsSet1 hns fun h' hn' hs => ?_)))
    obtain ⟨oD, esD, epD, hoD, hdD, hcD⟩ := hn'.count (Within.cons name v hw)
    refine wpAny_bind (wpAny_lookBehind hoD (by rw [hdD]; exact pastItsLine_dict (Nat.le_trans hcD (by rw [List.length_cons, sizeLine_eq]; omega))) ?_)
    wp_walk
    refine hq h' _ ⟨⟨o, (hs.2 x hne.symm).trans hx, hc, hnc, .inr ⟨dx, hdx, hne, hn'⟩⟩, fun b ob _ hbd hb => ?_,
      fun o₀ h₀ => ⟨o₀, (hs.2 x hne.symm).trans h₀, rfl, rfl, rfl, fun _ e => e, fun e => by obtain rfl : o = o₀ := Option.some.inj (hx.symm.trans h₀); rw [hdx] at e; cases e⟩⟩
    exact (hs.2 b (hbd o dx hx hdx)).trans hb

theorem own_store {Q : Unit → Shared → Prop} {ns : List Str} (SF : StoreFacts B bmB sa owner) (ho : bm.contains (.type owner) = true)
    (hC : h.get? C = some (excClassObj nm q C N bs bm true sn sub ab col dd k0 k1 k2 k3 k5 newId)) (hpass : refuseLoop (.ref x) "__setattr__" bm = pure ())
    (hls : Looks (model prog w) h (typeLookup (.ref C) "__setattr__") (some (.builtin sa))) (hln : Looks (model prog w) h (typeLookup (.ref C) name) none) (I : h.Inst x C mA)
    (hq : ∀ h' tk', Stored h h' x C mA name v → Q () ⟨h', g, d, tk', os⟩) (hw : Within mA ns) (hsz : ns.length ≤ 1000) :
    wpAny (model prog w) A (setAttr (.ref x) name v) Q E ⟨h, g, d, t, os⟩ := by
  obtain ⟨o, hx, hc, _⟩ := id I
  have f3 := SF.slot.bind (.ref x)
  unfold setAttr callSpecial? specialOf
  repeat (any_goals (first | assumption | (with_reducible refine wpAny_loadPart_at hx ?_; rw [hc]) | with_reducible refine Looks.at hls ?_ | wp_step))
  refine codeAny_call_builtin SF.slot.plain SF.entry (own_check_sa SF ho hC hx hc (own_store_entry hC hpass hln I (fun h' tk' I' => ?_) hw hsz))
  repeat (any_goals (first | assumption | wp_step))
  exact hq h' tk' I'
end
end Mine

namespace Mine
open PySem PySem.W PyProof.Rows PySem.Calls PySem.SeqAt
variable {G : Gx} {P : Params}

/-- NAME.meth(e, ..): any number of arguments -/
theorem methodN {o : Expr} {name : Str} {ap pos : Pos} {es : List Expr} {s : Shared} {Q E : Value → Shared → Prop} {M : Model} {A : Around} {env : Env} {x : Str} {np : Pos} (ho : o = .Name x np) (hs : es.all notStar = true) (hn : es.length < 30) (hl : (ap.endLine == pos.line) = true)
    (h : wpAny M A (eval o env) (fun ov s₁ => ∀ pl, wpAny M A (getMethod ov name pl) (fun fx s₂ => wpAny M A (callWith pos fx.1 fx.2 (backTo pos (starEach es env)) []) Q E s₂) E s₁) E s) :
    wpAny M A (eval (.Call (.Attribute o name ap) es [] pos) env) Q E s := by
  subst ho
  have e1 : eval (.Call (.Attribute (.Name x np) name ap) es [] pos) env = (do
      let ov ← eval (.Name x np) env
      standAt ap.atName
      methodCall (.Name x np) name ap pos env ov (es.length + 0) (backTo pos (starEach es env)) []) := rfl
  rw [e1]
  refine wpAny_bind (wpAny_mono h (fun ov s₁ h₁ => wpAny_bind (wpAny_standAt ?_)) fun _ _ h => h)
  have hall : (backTo pos (starEach es env)).all (!·.1) = true := by
    have := backTo_plain (pos := pos) (env := env) hs
    rw [List.all_eq_not_any_not, Bool.not_eq_true']
    simpa using this
  have hf : methodCallForm (es.length + 0) (backTo pos (starEach es env)) [] = true := by
    unfold methodCallForm
    rw [hall]
    simp [hn]
  unfold methodCall
  rw [hf]
  refine wpAny_bind (wpAny_holding ?_)
  unfold calleeOf
  rw [if_pos rfl]
  refine wpAny_mono (h₁ _) (fun fx s₂ h₂ => ?_) fun _ _ h => h
  unfold methodCallPos
  rw [hl]
  exact wpAny_bind (wpAny_pure h₂)

/-- a def entered, over the heap without e -/
theorem base_hide {e : Addr} {h : Heap} (kb : G.base.StaysIn h) (he : G.base.get? e = none) : G.base.StaysIn (h.hide e) := fun b o hb => (Heap.hide_ne h fun q => by rw [q, he] at hb; cases hb).trans (kb b o hb)
theorem call_gen {f e : Addr} {oc : Value} {od an : Option Addr} {osl : Array (Option Value)} {name qual : Str} {params : Arguments} {body : List Stmt} {scope : Scope} {dV kV doc pm cdv ct : Value} {binds : List (Str × Value)} {A : Around} {s : Shared} {vs : List Value} {Q E : Value → Shared → Prop}
    (ho : G.K.lookup f = some ⟨oc, od, .func (fnOf name qual params body scope dV kV doc pm an cdv ct), osl⟩) (hcd : codeIn G.K cdv qual = true) (hp : bindArgs (fnOf name qual params body scope dV kV doc pm an cdv ct) ⟨vs, []⟩ = pure binds)
    (hloc : (binds.all fun y => decide (scope.names.lookup y.1 = some .local)) = true) (hk : scope.kind = .function) (hco : scope.isCoroutine = false) (hgen : scope.isGenerator = false)
    (hcell : ∀ x ∈ scope.names, x.2 ≠ .cell) (kb : G.base.StaysIn s.heap) (he : G.base.get? e = none) (hroom : A.depth < recursionLimit)
    (h : ∀ h₁ tk L, Fr (s.heap.hide e) L h₁ (fun y => binds.reverse.lookup y) → s.heap.StaysIn h₁ → s.heap.get? L = none →
      wpAny (model G.prog G.w) (A.deeper (envOf qual scope L f cdv)) (execs body (envOf qual scope L f cdv)) (fun fl s' => Q (match fl with | .ret v => v | _ => .none) s') (fun _ _ => False) { s with heap := h₁, toks := tk }) :
    wpAny (model G.prog G.w) A (call (.ref f) vs) Q E s := by
  refine wpAny_call (codeAny_call_def (fd := fnOf name qual params body scope dV kV doc pm an cdv ct) (body := body) (binds := binds) hroom (kb _ _ (G.kin _ _ ho)) rfl (G.top.nolimit.keeps kb) (codeRec_of (G.kin.keeps kb) hcd) rfl
      (BindsTo.of_eq hp) hcell (locs hloc) (fun h₁ hns hk₁ => ?_) hco hgen hk)
  exact wpAny_mono (h h₁ _ _ ⟨hns, fun b o hb => hk₁ b o (Heap.of_hide hb), Nat.le_of_eq (Heap.hide_size _ _)⟩ hk₁ (Heap.get?_none_of_le (Nat.le_refl _))) (fun fl s' q => q) fun _ _ q => q.elim

noncomputable abbrev excF (e t0 : Addr) (od : Option Addr) (osl : Array (Option Value)) : Obj := { cls := .ref 51, dict := od, data := .fields #[.ref t0, .none, .none, .none, .bool false, .none], slots := osl }
noncomputable abbrev clsF : Obj := PySem.excClassObj (Str.ofString "FormatFault") (Str.ofString "FormatFault") 51 50 [.ref 31] [.ref 31, .type "Exception", .type "BaseException", .type "object"] true [] [] false none none (some (.ref 35)) none (some (Value.str (Str.ofString "FormatFault") 218)) (some (Value.str (Str.ofString "FormatFault") 226)) (some (Value.bool true)) "Exception.__new__"
theorem clsF_in (hG : Gp G P) : G.K.lookup 51 = some clsF := by rw [hG.K]; kernel_rfl
theorem basesF : Bases [.ref 31, .type "Exception", .type "BaseException", .type "object"] "Exception" := ⟨by decide, by decide, by decide, by decide⟩
theorem upd_ns {h h' : Heap} {e L : Addr} {oe : Obj} {ws : Array Value} {m : Str → Option Value} (n : h.Ns L m) (he : h.get? e = some oe) (hd : oe.data = .fields ws) (k : ∀ b o, b ≠ e → h.get? b = some o → h'.get? b = some o) : h'.Ns L m := by
  obtain ⟨o, es, ep, ho, hdd, r⟩ := n
  exact ⟨o, es, ep, k _ _ (fun q => by rw [q, he] at ho; cases ho; rw [hd] at hdd; cases hdd) ho, hdd, r⟩
/-- the frame, when e (or what is fresh) has changed -/
theorem fr_but {h0 h h' : Heap} {e L : Addr} {oe : Obj} {ws : Array Value} {m : Str → Option Value} (F : Fr (h0.hide e) L h m) (he : h.get? e = some oe) (hd : oe.data = .fields ws) (k : ∀ b o, b ≠ e → h.get? b = some o → h'.get? b = some o) : Fr (h0.hide e) L h' m :=
  ⟨upd_ns F.ns he hd k, fun b o hb => k b o (fun q => by rw [q, Heap.hide_self] at hb; cases hb) (F.keep b o hb), F.above⟩

theorem f77_init (hG : Gp G P) {A : Around} {s : Shared} {e t0 : Addr} {osl : Array (Option Value)} {vm : Value} {Q E : Value → Shared → Prop} (kb : G.base.StaysIn s.heap) (hb : G.base.get? e = none) (he : s.heap.get? e = some (excF e t0 none osl)) (hroom : A.depth < recursionLimit)
    (h : ∀ h' tk t1 dx, (∀ b o, b ≠ e → s.heap.get? b = some o → h'.get? b = some o) → h'.get? e = some (excF e t1 (some dx) osl) → s.heap.get? dx = none → h'.Ns1 dx (fun y => if y = "text" then some vm else none) → Q .none { s with heap := h', toks := tk }) :
    wpAny (model G.prog G.w) A (call (.ref 28) [.ref e, vm]) Q E s := by
  refine call_gen (e := e) (by rw [hG.K]; exact rfl) (by rw [hG.K]; kernel_rfl) rfl (by kernel_rfl) rfl rfl rfl (by decide +kernel) kb hb hroom (fun h₁ tk L F k₁ hL => ?_)
  have kh := base_hide kb hb
  have X := G.kin.keeps kh
  have T := G.top.keeps kh
  have hC : h₁.get? 51 = some clsF := k₁ _ _ (kb _ _ (G.kin _ _ (clsF_in hG)))
  refine wpAny_execs_cons ?_
  refine wpAny_Expr (methodN rfl rfl (by decide) rfl ?_) rfl rfl
  refine nameX_B (cl := []) F X T (by rw [hG.K]; kernel_rfl) excClass_Exception.boot (by decide) ?_
  intro pl
  refine method_type (v := .builtin "Exception.__init__") F X (by kernel_rfl) (by decide +kernel) (by rw [hG.K]; kernel_rfl) rfl ?_
  refine PyProof.Rows.callWith_builtin1 ?_ rfl rfl
  refine args_cons (nameX_L (cl := []) F rfl ?_) rfl
  refine args_cons (nameX_L (cl := []) F rfl ?_) rfl
  refine args_nil ?_
  have he₁ := k₁ _ _ he
  refine own_base_init PySem.F.excBase_Exception basesF hC he₁ ?_ (by simp [sizeLine_eq])
  have ks := stays_push h₁ { cls := .type "tuple", data := .seq [vm].toArray }
  have he₂ := ks _ _ he₁
  have ku : ∀ b o, b ≠ e → h₁.get? b = some o → ((h₁.push { cls := .type "tuple", data := .seq [vm].toArray }).update e (Obj.mapFields (·.setIfInBounds 0 (.ref h₁.objs.size)))).get? b = some o := fun b o hbe hbo => (Heap.get?_update_other _ _ (Ne.symm hbe)).trans (ks _ _ hbo)
  generalize hH : (h₁.push { cls := .type "tuple", data := .seq [vm].toArray }).update e (Obj.mapFields (·.setIfInBounds 0 (.ref h₁.objs.size))) = h₂ at ku ⊢
  have he₃ : h₂.get? e = some (excF e h₁.objs.size none osl) := by
    rw [← hH]
    exact Heap.get?_update_self _ he₂ rfl
  have F₂ := fr_but F he₁ rfl ku
  refine wpAny_execs_cons ?_
  refine plainObj_wpAny_Assign_Attribute ?_ rfl
  refine nameX_L (cl := []) F₂ rfl ?_
  refine nameX_L (cl := []) F₂ rfl ?_
  have hC₂ : h₂.get? 51 = some clsF := ku _ _ (fun q => by
    have : G.base.get? 51 = some clsF := G.kin _ _ (clsF_in hG)
    rw [q, hb] at this; cases this) hC
  have X₂ : G.K.In h₂ := X.keeps F₂.keep
  have I₂ : h₂.Inst e 51 (fun _ => none) := ⟨_, he₃, rfl, fun c q => (by cases q), .inl ⟨rfl, fun _ => rfl⟩⟩
  refine own_store (ns := []) PySem.F.store_Exception (by decide) hC₂ ?_ (looks_findIn X₂ (by rw [hG.K]; kernel_rfl)) (looks_findIn X₂ (by rw [hG.K]; kernel_rfl)) I₂ ?_ Within.nil (by decide)
  · rw [refuseLoop_ref]; exact PySem.F.store_Exception.passes _
  · rintro h₃ tk₃ ⟨i1, i2, i3⟩
    obtain ⟨o₁, g1, g2, g3, g4, _, g5⟩ := i3 _ he₃
    obtain ⟨dx, g6, g7⟩ := g5 rfl
    refine wpAny_execs_nil ?_
    have kk : ∀ b o, b ≠ e → s.heap.get? b = some o → h₃.get? b = some o := fun b o hbe hbo => i2 b o hbe (fun o₀ dx' q1 q2 => by rw [he₃] at q1; cases q1; cases q2) (ku b o hbe (k₁ _ _ hbo))
    have hoc : h₃.get? e = some (excF e h₁.objs.size (some dx) osl) := by
      rw [g1]
      obtain ⟨a1, a2, a3, a4⟩ := o₁
      simp only at g2 g3 g4 g6
      subst g2 g3 g4 g6
      rfl
    have hdx : s.heap.get? dx = none := by
      cases q : s.heap.get? dx with
      | none => rfl
      | some od =>
        have hne : dx ≠ e := fun z => by rw [z, he₃] at g7; cases g7
        have := ku dx od hne (k₁ _ _ q)
        rw [g7] at this; cases this
    have hns : h₃.Ns1 dx (fun y => if y = "text" then some vm else none) := by
      obtain ⟨o', q1, _, _, q2⟩ := i1
      rw [hoc] at q1; cases q1
      rcases q2 with ⟨q3, _⟩ | ⟨d', q3, _, q4⟩
      · cases q3
      · cases q3; exact q4
    exact h h₃ tk₃ _ dx kk hoc hdx hns

theorem ff_init (hG : Gp G P) {A : Around} {s : Shared} {e t0 : Addr} {osl : Array (Option Value)} {vn vm : Value} {Q E : Value → Shared → Prop} (kb : G.base.StaysIn s.heap) (hb : G.base.get? e = none) (he : s.heap.get? e = some (excF e t0 none osl)) (hroom : A.depth + 1 < recursionLimit)
    (h : ∀ h' tk t1 dx m, (∀ b o, b ≠ e → s.heap.get? b = some o → h'.get? b = some o) → h'.get? e = some (excF e t1 (some dx) osl) → h'.Ns dx m → m "at" = some vn → Q .none { s with heap := h', toks := tk }) :
    wpAny (model G.prog G.w) A (call (.ref 48) [.ref e, vn, vm]) Q E s := by
  refine call_gen (e := e) (by rw [hG.K]; exact rfl) (by rw [hG.K]; kernel_rfl) rfl (by kernel_rfl) rfl rfl rfl (by decide +kernel) kb hb (by omega) (fun h₁ tk L F k₁ hL => ?_)
  have kh := base_hide kb hb
  have X := G.kin.keeps kh
  have T := G.top.keeps kh
  refine wpAny_execs_cons ?_
  refine wpAny_Expr (methodN rfl rfl (by decide) rfl ?_) rfl rfl
  refine nameX_K (cl := []) F X T (v := .ref 31) (by rw [hG.K]; kernel_rfl) ?_
  intro pl
  refine method_of_cls F X (by rw [hG.K]; kernel_rfl) ?_
  refine cls_val (a := .ref 28) (mc := .type "type") F X (by rw [hG.K]; kernel_rfl) (by rw [hG.K]; kernel_rfl) (by rw [hG.K]; kernel_rfl) rfl ?_
  refine callWith_K X (by rw [hG.K]; kernel_rfl) ?_ rfl rfl
  refine args_cons (nameX_L (cl := []) F rfl ?_) rfl
  refine args_cons (nameX_L (cl := []) F rfl ?_) rfl
  refine args_nil ⟨X.keeps F.keep, ?_⟩
  have he₁ := k₁ _ _ he
  have kb₁ : G.base.StaysIn h₁ := stays_trans kb k₁
  refine f77_init (s := { s with heap := h₁, toks := _ }) hG kb₁ hb he₁ (by show A.depth + 1 < recursionLimit; exact hroom) fun h₂ tk₂ t1 dx i1 i2 i3 i4 => ?_
  have F₂ := fr_but F he₁ rfl i1
  refine wpAny_execs_cons ?_
  refine plainObj_wpAny_Assign_Attribute ?_ rfl
  refine nameX_L (cl := []) F₂ rfl ?_
  refine nameX_L (cl := []) F₂ rfl ?_
  have X₂ : G.K.In h₂ := X.keeps F₂.keep
  have hC₂ : h₂.get? 51 = some clsF := X₂ _ _ (clsF_in hG)
  have hne : dx ≠ e := fun z => by
    obtain ⟨o, es, ep, q1, q2, _⟩ := i4
    rw [z, i2] at q1; cases q1; cases q2
  have I₂ : h₂.Inst e 51 (fun y => if y = "text" then some vm else none) := ⟨_, i2, rfl, fun c q => (by cases q), .inr ⟨dx, rfl, hne, i4⟩⟩
  refine own_store (ns := ["text"]) PySem.F.store_Exception (by decide) hC₂ ?_ (looks_findIn X₂ (by rw [hG.K]; kernel_rfl)) (looks_findIn X₂ (by rw [hG.K]; kernel_rfl)) I₂ ?_ (Within.cons "text" vm Within.nil) (by decide)
  · rw [refuseLoop_ref]; exact PySem.F.store_Exception.passes _
  · rintro h₃ tk₃ ⟨j1, j2, j3⟩
    obtain ⟨o₁, g1, g2, g3, g4, g5, _⟩ := j3 _ i2
    refine wpAny_execs_nil ?_
    have g6 := g5 dx rfl
    have hoc : h₃.get? e = some (excF e t1 (some dx) osl) := by
      rw [g1]
      obtain ⟨a1, a2, a3, a4⟩ := o₁
      simp only at g2 g3 g4 g6
      subst g2 g3 g4 g6
      rfl
    have kk : ∀ b o, b ≠ e → s.heap.get? b = some o → h₃.get? b = some o := fun b o hbe hbo => j2 b o hbe (fun o₀ dx' q1 q2 => by
      rw [i2] at q1; cases q1; cases q2
      intro z
      have := k₁ _ _ hbo
      rw [z, i3] at this; cases this) (i1 b o hbe (k₁ _ _ hbo))
    obtain ⟨o', q1, _, _, q2⟩ := j1
    rw [hoc] at q1; cases q1
    rcases q2 with ⟨q3, _⟩ | ⟨d', q3, _, q4⟩
    · cases q3
    · cases q3
      exact h h₃ tk₃ t1 dx _ kk hoc q4.ns (if_pos rfl)

/-- raise: what is raised is an instance of ours -/
theorem own_raiseStmt {env : Env} {A : Around} {s : Shared} {E : Value → Shared → Prop} {x : Sem Value} {Q : Flow → Shared → Prop} {M : Model} (hh : A.handled = none)
    (h : wpAny M A x (fun v s₁ => ∃ e od osl t0, v = .ref e ∧ s₁.heap.get? 51 = some clsF ∧ s₁.heap.get? e = some (excF e t0 od osl) ∧ E (.ref e) s₁) E s) :
    wpAny M A (raiseStmt env (some x) none) Q E s := by
  have hcB : (Value.ref 51 :: [Value.ref 31, .type "Exception", .type "BaseException", .type "object"]).contains (.type "BaseException") = true := by decide
  unfold raiseStmt
  refine wpAny_bind (wpAny_mono h (fun v s₁ h₁ => ?_) fun _ _ x => x)
  obtain ⟨e, od, osl, t0, rfl, hC, he, hE⟩ := h₁
  obtain ⟨hp, g, d, tk, os⟩ := s₁
  repeat (first | with_reducible refine wpAny_loadPart_at he ?_ | with_reducible refine wpAny_loadPart_at hC ?_ | (with_reducible refine wpAny_isSubtype_exc hC ?_; rw [hcB]) | wp_step)
  exact wpAny_raiseNew_none hh hE

theorem raiseOk (hG : Gp G P) (hC : G.C = 51) : RaiseOk G := by
  intro b e re msg np cpos pos mp k he hn hs s σ Q E S P
  rw [arm_exec_Raise]
  refine wpAny_bind (wpAny_standAt ?_)
  show wpAny b.M b.A (raiseStmt b.env (some (do let v ← eval (.Call (.Name "FormatFault" np) [e, .Constant (.str msg) k mp] [] cpos) b.env; standAt pos; pure v)) none) Q E s
  refine own_raiseStmt handledA (wpAny_bind (wpAny_mono (Q := fun v s₁ => ∃ e od osl t0, v = .ref e ∧ s₁.heap.get? 51 = some clsF ∧ s₁.heap.get? e = some (excF e t0 od osl) ∧ E (.ref e) s₁) ?_ (fun v s₃ h₃ => wpAny_bind (wpAny_standAt (wpAny_pure h₃))) fun _ _ x => x))
  obtain ⟨m, F, _⟩ := S.fr
  have kb0 := stays_trans b.gb b.bel.stays
  refine Call_ (nameX_K (cl := []) F (G.kin.keeps kb0) (G.top.keeps kb0) (v := .ref 51) (by rw [hG.K]; kernel_rfl) ?_ b.kind hs) rfl
  refine callWith_K (G.kin.keeps kb0) (by rw [hG.K]; kernel_rfl) ?_ (star_one hn) rfl
  refine args_cons ?_ (star_one hn)
  refine ev_then he S P fun p v h' tk' S' rv P' => ?_
  refine args_cons (PySem.Calls.Constant_str ?_) rfl
  refine args_nil ⟨S'.kin, ?_⟩
  have kbh : G.base.StaysIn h' := stays_trans kb0 S'.stays
  have hcl : h'.get? 51 = some clsF := kbh _ _ (G.kin _ _ (clsF_in hG))
  unfold raiseR at P'
  split at P'
  · rename_i n
    obtain ⟨t, rfl⟩ := rv
    obtain ⟨oI, hI, hIc⟩ : ∃ oI, G.K.lookup 48 = some oI ∧ oI.cls = .type "function" := ⟨_, by rw [hG.K]; exact rfl, rfl⟩
    refine own_call PySem.F.excBase_Exception basesF hcl (looks_findIn S'.kin (by rw [hG.K]; kernel_rfl)) (fI := 48) (kbh _ _ (G.kin _ _ hI)) hIc (fun h₂ e₂ hm => ?_) (by simp [sizeLine_eq])
    obtain ⟨t0, ht, _, _⟩ := hm.there
    have hb2 : ∀ {h : Heap}, h.StaysIn h' → h.get? e₂ = none := fun k => fresh_up k hm.new
    refine ff_init (s := { s with heap := h₂, toks := _ }) hG (stays_trans kbh hm.keeps) (hb2 kbh) ht ?_ fun h₃ tk₃ t1 dx m3 i1 i2 i3 i4 => ?_
    · rw [depth_under_make]
      have := b.room.1
      show b.A0.depth + 1 + 1 + 1 < recursionLimit
      omega
    · have kk : ∀ c o, h'.get? c = some o → h₃.get? c = some o := fun c o hc => i1 c o (fun q => by rw [q, hm.new] at hc; cases hc) (hm.keeps _ _ hc)
      have k3 : b.h0.StaysIn h₃ := stays_trans S'.stays kk
      refine ⟨rfl, e₂, some dx, _, t1, rfl, kk _ _ hcl, i2, P' e₂ none h₃ tk₃ (.inl rfl) ?_ (Heap.UpToSlots.of_keeps k3)⟩
      exact ⟨stays_trans b.bel.stays k3, hb2 (stays_trans b.bel.stays S'.stays), funFrames_up S'.below.frames (Heap.UpToSlots.of_keeps kk), _, _, dx, m3, _, i2, by rw [hC], rfl, by simp, rfl, i3, i4, rfl⟩
  · exact P'.elim
end Mine

namespace Mine
open PySem PySem.W PyProof.Rows PySem.Calls PySem.SeqAt
open Builtin Builtin.ObjectAttr

section
variable {prog : Program} {w : World} {A : Around} {E : Value → Shared → Prop} {h : Heap} {g : Array GenState} {d : Drawn} {t : Nat} {os : OsState} {a : Addr} {o : Obj} {vs : Array Value} {dx : Addr}
  {nm q : Str} {C N : Addr} {bs bm bmB : List Value} {sn : List Str} {sub : List Value} {ab : Bool} {col : Option Bool} {dd : Option Addr} {k0 k1 k2 k3 k5 : Option Value} {B newId : String} {m : Str → Option Value} {name : Str} {v : Value}

theorem at_check {M : Model} {nameV : Value} {Q : Unit → Shared → Prop} (hb : bm.contains (.type "BaseException") = true) (hC : h.get? C = some (excClassObj nm q C N bs bm true sn sub ab col dd k0 k1 k2 k3 k5 newId))
    (hx : h.get? a = some o) (hc : o.cls = .ref C) (hq : Q () ⟨h, g, d, t, os⟩) : wpAny M A (checkBuiltinCall "BaseException.__getattribute__" ⟨[.ref a, nameV], []⟩) Q E ⟨h, g, d, t, os⟩ := by
  have hk : builtinKind "BaseException.__getattribute__" = some .slot := by decide +kernel
  have hsplit : splitId "BaseException.__getattribute__" = some ("BaseException", "__getattribute__") := by decide +kernel
  have hcB : (Value.ref C :: bm).contains (.type "BaseException") = true := by rw [List.contains_cons, hb, Bool.or_true]
  have ha := F.args_bexc_ga (.ref a) nameV
  simp only [checkBuiltinCall, hk, hsplit]
  refine wpAny_bind ?_
  · unfold isInstance
    repeat (first | (with_reducible refine wpAny_loadPart_at hx ?_; rw [hc]) | (with_reducible refine wpAny_isSubtype_exc hC ?_; rw [hcB]) | wp_step)
    exact hq

theorem at_entry {tk : Tok} {Q : Fin → Shared → Prop} (hC : h.get? C = some (excClassObj nm q C N bs bm true sn sub ab col dd k0 k1 k2 k3 k5 newId)) (hl : Looks (model prog w) h (typeLookup (.ref C) name) none)
    (hx : h.get? a = some o) (hc : o.cls = .ref C) (hd : o.data = .fields vs) (hdi : o.dict = some dx) (hn : h.Ns dx m) (hv : m name = some v) (hq : Q (.done (.ret v)) ⟨h, g, d, t, os⟩) :
    wpAny (model prog w) A (Builtin.«object.__getattribute__» ⟨[.ref a, .str name tk], []⟩) Q E ⟨h, g, d, t, os⟩ := by
  repeat (any_goals (first | assumption | (with_reducible refine wpAny_loadPart_at hx ?_; rw [hc]) | with_reducible refine Looks.at hl ?_ | wp_step))
  split
  · rename_i c hcd
    rw [hd] at hcd; cases hcd
  unfold instanceDict
  repeat (first | (with_reducible refine wpAny_loadPart_at hx ?_; rw [hc]) | with_reducible refine wpAny_loadPart_at hC ?_ | wp_step)
  rw [hdi]
  repeat (first | (with_reducible refine wpAny_nsGet hn ?_; rw [hv]) | wp_step)
  exact hq

theorem at_by {tk : Tok} {fill expr : Bool} {Q : Value → Shared → Prop} (hb : bm.contains (.type "BaseException") = true) (hC : h.get? C = some (excClassObj nm q C N bs bm true sn sub ab col dd k0 k1 k2 k3 k5 newId)) (FB : ExcAttrBase B bmB)
    (hl1 : Looks (model prog w) h (typeLookup (.ref C) "__getattribute__") (some (.builtin "BaseException.__getattribute__"))) (hl2 : Looks (model prog w) h (typeLookup (.ref C) "__getattr__") none) (hl : Looks (model prog w) h (typeLookup (.ref C) name) none)
    (hx : h.get? a = some o) (hc : o.cls = .ref C) (hd : o.data = .fields vs) (hdi : o.dict = some dx) (hn : h.Ns dx m) (hv : m name = some v) (hh : handedOut v = pure v) (hq : Q v ⟨h, g, d, t, os⟩) :
    wpAny (model prog w) A (getAttrBy (.ref a) (.str name tk) fill expr) Q E ⟨h, g, d, t, os⟩ := by
  have f3 := FB.ga.bind (.ref a)
  have hx0 : (expr && onTheHeap (Value.builtin "BaseException.__getattribute__")) = false := by cases expr <;> rfl
  have hx2 : (Value.builtin "BaseException.__getattribute__" == Value.builtin "object.__getattribute__") = false := by decide +kernel
  have hx1 : (onTheHeap (Value.ref C) && Value.builtin "BaseException.__getattribute__" == Value.builtin "object.__getattribute__") = false := by rw [hx2]; rfl
  repeat (any_goals (first | assumption | (with_reducible refine wpAny_loadPart_at hx ?_; rw [hc]) | with_reducible refine Looks.at hl1 ?_ | with_reducible refine Looks.at hl2 ?_ | wp_step))
  refine codeAny_call_builtin FB.ga.plain F.entry_bexc_ga (at_check hb hC hx hc (at_entry hC hl hx hc hd hdi hn hv ?_))
  repeat (any_goals (first | assumption | (rw [hh]) | wp_step))
end
end Mine

namespace Mine
open PySem PySem.W PyProof.Rows PySem.Calls PySem.SeqAt
variable {G : Gx} {P : Params}

noncomputable def heardR (k : Nat) (t : Str) : Rs Int := match Φ k .parse_format [.str t] with
  | .ok _ => .ok (-1)
  | .exc n => .ok n
  | .bad => .bad

theorem up_but {h0 h h' : Heap} {L : Addr} (u : h0.UpToSlots h) (hL : h0.get? L = none) (s : Heap.SameBut L h h') : h0.UpToSlots h' := fun b o ho hn =>
  let ⟨sl, e⟩ := u b o ho hn
  ⟨sl, (s.2 b fun q => by rw [q, hL] at ho; cases ho).trans e⟩

theorem at_attr {prog : Program} {w : World} {A : Around} {E : Value → Shared → Prop} {h : Heap} {g : Array GenState} {d : Drawn} {t : Nat} {os : OsState} {a : Addr} {o : Obj} {vs : Array Value} {dx : Addr}
    {nm q : Str} {C N : Addr} {bs bm bmB : List Value} {sn : List Str} {sub : List Value} {ab : Bool} {col : Option Bool} {dd : Option Addr} {k0 k1 k2 k3 k5 : Option Value} {B newId : String} {m : Str → Option Value} {name : Str} {v : Value}
    {expr : Bool} {Q : Value → Shared → Prop} (hb : bm.contains (.type "BaseException") = true) (hC : h.get? C = some (excClassObj nm q C N bs bm true sn sub ab col dd k0 k1 k2 k3 k5 newId)) (FB : ExcAttrBase B bmB)
    (hl1 : Looks (model prog w) h (typeLookup (.ref C) "__getattribute__") (some (.builtin "BaseException.__getattribute__"))) (hl2 : Looks (model prog w) h (typeLookup (.ref C) "__getattr__") none) (hl : Looks (model prog w) h (typeLookup (.ref C) name) none)
    (hx : h.get? a = some o) (hc : o.cls = .ref C) (hd : o.data = .fields vs) (hdi : o.dict = some dx) (hn : h.Ns dx m) (hv : m name = some v) (hh : handedOut v = pure v) (hq : Q v ⟨h, g, d, t + 1, os⟩) :
    wpAny (model prog w) A (getAttr (.ref a) name expr) Q E ⟨h, g, d, t, os⟩ := by
  unfold getAttr
  repeat (any_goals (first | assumption | with_reducible apply at_by hb hC FB hl1 hl2 hl hx hc hd hdi hn hv hh | wp_step))
theorem ns_unique {h : Heap} {L : Addr} {m m' : Str → Option Value} (a : h.Ns L m) (b : h.Ns L m') : m = m' := by
  obtain ⟨o, es, ep, h1, h2, _, h3⟩ := a
  obtain ⟨o', es', ep', g1, g2, _, g3⟩ := b
  rw [h1] at g1; cases g1
  rw [h2] at g2; cases g2
  funext y
  exact (h3 y).symm.trans (g3 y)
theorem heard (hG : Gp G P) (hC : G.C = 51) {A : Around} {base : Heap} {outer : List Env} {s : Shared} {t : Str} {tok : Tok} {k : Nat} {d : Int} {Q E : Value → Shared → Prop}
    (gb : G.base.StaysIn base) (B : Below A base outer s.heap) (hh : A.handled = none) (room : Room A (k + 1)) (hd : heardR k t = .ok d)
    (h : ∀ h' tk' tok', base.StaysIn h' → s.heap.UpToSlots h' → Q (.int d tok') { s with heap := h', toks := tk' }) :
    wpAny (model G.prog G.w) A (call (.ref 283) [.str t tok]) Q E s := by
  have hR := raiseOk hG hC
  have kb : G.base.StaysIn s.heap := stays_trans gb B.stays
  have hLs : s.heap.get? s.heap.objs.size = none := Heap.get?_none_of_le (Nat.le_refl _)
  refine call_gen (e := s.heap.objs.size) (binds := [("text", .str t tok)]) (by rw [hG.K]; exact rfl) (by rw [hG.K]; kernel_rfl) rfl (by kernel_rfl) rfl rfl rfl (by decide +kernel) kb (fresh_up kb hLs) (by have := room.1; omega) (fun h₁ tk L F k₁ hL => ?_)
  have hmt : (fun y => ([(Str.ofString "text", Value.str t tok)] : List (Str × Value)).reverse.lookup y) "text" = some (.str t tok) := rfl
  have hma : (fun y => ([(Str.ofString "text", Value.str t tok)] : List (Str × Value)).reverse.lookup y) "at" = none := rfl
  generalize (fun y => ([(Str.ofString "text", Value.str t tok)] : List (Str × Value)).reverse.lookup y) = m at F hmt hma
  have kb1 : G.base.StaysIn h₁ := stays_trans kb k₁
  have hL0 : base.get? L = none := fresh_up B.stays hL
  have B1 : ∀ env : Env, env.frame = some L → env.scope.kind = .function → Below (A.deeper env) base (env :: outer) h₁ := fun env hf hk => by
    refine ⟨Around.frames_deeper B.stack, stays_trans B.stays k₁, ?_⟩
    exact .cons (by rw [hk]; decide) hf F.ns hL0 (B.frames.of_keeps fun b o e _ => ⟨o, k₁ b o e, rfl⟩)
  have glob : ∀ {h' : Heap} {M : Model} {A' : Around} {cn : Str} {cs : Scope} {ccd : Value} {x : Str} {pos : Pos} {v : Value} {Q E : Value → Shared → Prop} {s' : Shared}, s'.heap = h' → G.base.StaysIn h' → nsIn G.K mainGlobals x = some (some v) → cs.kind = .function → (envOf cn cs L 283 ccd).kindOf x = some .globalImplicit → (x == ("__debug__" : Str)) = false → Q v s' →
      wpAny M A' (eval (.Name x pos) (envOf cn cs L 283 ccd)) Q E s' := fun e kk hv hk hx hd q => by
    subst e
    exact Name_function_global hk hx (loadGlobal_global ((G.top.keeps kk).g) (mg_of G.kin G.top.g hv) q) hd
  refine wpAny_execs_cons ?_
  refine wpAny_Try_except ?_
  refine wpAny_execs_cons ?_
  refine wpAny_Expr_any ?_ (by rfl) (by rfl)
  refine Call_ ?_ rfl
  refine glob (v := .ref 193) rfl kb1 (by rw [hG.K]; kernel_rfl) rfl rfl (by decide) ?_
  refine callWith_K (G.kin.keeps kb1) (by rw [hG.K]; kernel_rfl) ?_ rfl rfl
  refine args_cons (wpAny_Name (wpAny_loadName_local rfl rfl F.ns hmt ?_) (by decide)) rfl
  refine args_nil ⟨G.kin.keeps kb1, ?_⟩
  generalize hen : envOf _ _ L 283 _ = env
  have hfr : env.frame = some L := by rw [← hen]; rfl
  have hkd : env.scope.kind = .function := by rw [← hen]; rfl
  refine meets hG hR k .parse_format (A.deeper env) base (env :: outer) { s with heap := h₁, toks := tk } [.str t] _ _ _ gb (B1 env hfr hkd) hh ?_ ⟨_, _, rfl, ⟨_, rfl⟩, rfl⟩ ?_
  · obtain ⟨r1, r2⟩ := room
    refine ⟨?_, ?_⟩
    · show A.depth + 1 + k + 8 < recursionLimit
      omega
    · show A.units + 3 + 10 * k + 60 < cLine
      omega
  unfold heardR at hd
  revert hd
  cases hr : Φ k .parse_format [.str t] with
  | bad => intro hd; cases hd
  | ok p =>
    intro hd v h' tk' kk rv
    cases hd
    show wpAny _ _ _ _ _ _
    refine wpAny_execs_cons (wpAny_Return_some ?_)
    subst hen
    refine UnaryOp_ (wpAny_Constant_int ?_)
    exact neg_int (h _ _ _ (stays_trans (stays_trans B.stays k₁) kk) (Heap.UpToSlots.of_keeps (stays_trans k₁ kk)))
  | exc n =>
    intro hd e h' tk' X u
    cases hd
    show wpAny _ _ _ _ _ _
    refine fly_note (s := { s with heap := h', toks := tk' }) (Around.frames_deeper B.stack) hfr X (.inr (.inl rfl)) fun h2 X2 u2 => ?_
    refine fly_set (s := { s with heap := h2, toks := tk' }) (fr := none) X2 fun h3 X3 u3 => ?_
    have u13 : h₁.UpToSlots h3 := u.trans (u2.trans u3)
    have N3 : h3.Ns L m := u13.ns F.ns
    obtain ⟨x1, x2, x3, oe, vs, dd, md, tt, y1, y2, y3, y4, y5, y6, y7, y8⟩ := id X3
    have kb3 : G.base.StaysIn h3 := stays_trans gb x1
    have hC3 : h3.get? 51 = some clsF := kb3 _ _ (G.kin _ _ (clsF_in hG))
    refine wpAny_handleBy_cons (codeAny_handlers_test ?_) (by intro q; cases q)
    subst hen
    refine glob (v := .ref 51) rfl kb3 (by rw [hG.K]; kernel_rfl) rfl rfl (by decide) ?_
    refine wpAny_excMatches_sub_self hC3 y1 (by rw [y2, hC]) (by decide) ?_
    show codeAny _ _ _ _ _
    refine codeAny_handlers_suite_as ?_
    refine fly_set (fr := none) X3 fun h4 X4 u4 => ?_
    have u14 : h₁.UpToSlots h4 := u13.trans u4
    have N4 : h4.Ns L m := u14.ns F.ns
    refine wpAny_storeName_local rfl N4 (fun h5 N5 s5 => ?_)
    have s5 : Heap.SameBut L h4 h5 := s5
    have N5 : h5.Ns L _ := N5
    obtain ⟨x1, x2, x3, oe, vs, dd, md, tt, y1, y2, y3, y4, y5, y6, y7, y8⟩ := X4
    have hdL : dd ≠ L := fun q => by
      subst q
      rw [ns_unique y6 N4, hma] at y7
      cases y7
    have heL : e ≠ L := fun q => by
      obtain ⟨oL, _, _, g1, g2, _⟩ := N4
      rw [← q, y1] at g1; cases g1; rw [y3] at g2; cases g2
    have e5 : h5.get? e = some oe := (s5.2 e heL).trans y1
    have n5 : h5.Ns dd md := Heap.Ns.sameBut y6 s5 hdL
    have b5 : base.StaysIn h5 := fun b o hb => (s5.2 b fun q => by rw [q, hL0] at hb; cases hb).trans (x1 b o hb)
    have kb5 : G.base.StaysIn h5 := stays_trans gb b5
    have hC5 : h5.get? 51 = some clsF := kb5 _ _ (G.kin _ _ (clsF_in hG))
    have X5 : G.K.In h5 := G.kin.keeps kb5
    refine wpAny_execs_cons (wpAny_Return_some (Attribute_name ?_))
    refine wpAny_Name (wpAny_loadName_local rfl rfl N5 (if_pos rfl) ?_) (by decide)
    refine at_attr (bmB := [.type "Exception", .type "BaseException", .type "object"]) (B := "Exception") (by decide) hC5 PySem.F.attrBase_Exception (looks_findIn X5 (by rw [hG.K]; kernel_rfl)) (looks_findIn X5 (by rw [hG.K]; kernel_rfl)) (looks_findIn X5 (by rw [hG.K]; kernel_rfl)) e5 (by rw [y2, hC]) y3 y5 n5 y7 rfl ?_
    show wpAny _ _ _ _ _ _
    refine wpAny_nameGoes (by rfl) N5 (by rfl) fun h6 m6 N6 s6 => ?_
    have s6 : Heap.SameBut L h5 h6 := s6
    have b6 : base.StaysIn h6 := fun b o hb => (s6.2 b fun q => by rw [q, hL0] at hb; cases hb).trans (b5 b o hb)
    refine h h6 _ tt b6 (up_but (up_but ((Heap.UpToSlots.of_keeps k₁).trans u14) hL s5) hL s6)
end Mine

namespace Mine
open PySem PySem.W PyProof.Rows PySem.Calls PySem.SeqAt PySem.Builtin.Str

/-! the sign at a place, as a number; past the end a number that is no sign of ours -/
noncomputable def cd (t : Str) (i : Int) : Nat := t.cps.getD i.toNat 1114112
noncomputable def c1 (t : Str) (i : Int) : Str := match t.cps[i.toNat]? with
  | some c => ⟨#[c]⟩
  | none => ⟨#[]⟩
theorem c1_in {t : Str} {i : Int} (h : i.toNat < t.length) : c1 t i = ⟨#[cd t i]⟩ := by
  have h' : i.toNat < t.cps.size := h
  simp [c1, cd, h']
theorem c1_out {t : Str} {i : Int} (h : t.length ≤ i.toNat) : c1 t i = ⟨#[]⟩ := by
  have h' : t.cps.size ≤ i.toNat := h
  simp [c1, h']
theorem cd_out {t : Str} {i : Int} (h : t.length ≤ i.toNat) : cd t i = 1114112 := by
  have h' : t.cps.size ≤ i.toNat := h
  simp [cd, h']
theorem str_beq (x y : Str) : (x == y) = (x.cps == y.cps) := by
  cases x with | mk a => cases y with | mk b =>
  by_cases h : a = b
  · subst h; simp
  · have : (⟨a⟩ : Str) ≠ ⟨b⟩ := fun q => h (by cases q; rfl)
    rw [beq_eq_false_iff_ne.mpr this, beq_eq_false_iff_ne.mpr h]
theorem c1_lit {t : Str} {i : Int} {z : Str} {p : Nat} (hz : z = ⟨#[p]⟩) (hp : p ≠ 1114112) : (c1 t i == z) = (cd t i == p) := by
  subst hz
  rw [str_beq]
  by_cases h : i.toNat < t.length
  · rw [c1_in h]; simp
  · rw [c1_out (by omega), cd_out (by omega)]
    rw [beq_eq_false_iff_ne.mpr (by simp), beq_eq_false_iff_ne.mpr hp.symm]
theorem lit_c1 {t : Str} {i : Int} {z : Str} {p : Nat} (hz : z = ⟨#[p]⟩) (hp : p ≠ 1114112) : (z == c1 t i) = (cd t i == p) := by
  rw [← c1_lit hz hp, Bool.eq_iff_iff, beq_iff_eq, beq_iff_eq]; exact ⟨Eq.symm, Eq.symm⟩
theorem c1_nil {t : Str} {i : Int} (h0 : 0 ≤ i) : (c1 t i == Str.ofString "") = decide ((t.length : Int) ≤ i) := by
  rw [str_beq, show Str.ofString "" = ⟨#[]⟩ from rfl]
  by_cases h : i.toNat < t.length
  · rw [c1_in h, decide_eq_false (by omega)]; rfl
  · rw [c1_out (by omega), decide_eq_true (by omega)]; rfl
theorem c1_has {t : Str} {i : Int} {z : Str} (h0 : 0 ≤ i) (h : i < t.length) : Txt.contains z (c1 t i) = decide (cd t i ∈ z.cps.toList) := by
  rw [c1_in (by omega)]; exact PySem.StrLaws.found_one z _
theorem item1 {t : Str} {i : Int} (h0 : 0 ≤ i) (h : i < t.length) : Txt.item t i = c1 t i := by
  have h' : i.toNat < t.cps.size := by show i.toNat < t.length; omega
  have e : seqIndex? i t.length = some i.toNat := by
    unfold seqIndex?
    simp only []
    rw [if_neg (show ¬ i < 0 by omega)]
    have : (decide (0 ≤ i) && decide (i < (t.length : Int))) = true := by simp [h0, h]
    simp only [this, if_true]
  simp only [Txt.item, Txt.charAt, e, Option.bind_some, c1]
  simp [h']
theorem slice1 {t : Str} {i j : Int} (h0 : 0 ≤ i) (hj : j = i + 1) : Txt.slice t (some i) (some j) = c1 t i := by
  subst hj
  have hs : strSliceIndices (some i) (some (i + 1)) 1 t.length = if i < t.length then [i.toNat] else [] := by
    unfold strSliceIndices sliceRange
    simp only [show (1 : Int) > 0 by decide, if_true]
    rw [if_neg (show ¬ i < 0 by omega), if_neg (show ¬ i + 1 < 0 by omega)]
    by_cases h : i < t.length
    · rw [if_pos h, if_pos (show max 0 (min i (t.length : Int)) < max 0 (min (i + 1) (t.length : Int)) by omega), show ((max 0 (min (i + 1) (t.length : Int)) - max 0 (min i (t.length : Int)) + 1 - 1) / 1) = 1 by omega]
      simp only [Int.toNat_one, List.range_one, List.map_cons, List.map_nil, List.cons.injEq, and_true]
      omega
    · rw [if_neg h, if_neg (show ¬ max 0 (min i (t.length : Int)) < max 0 (min (i + 1) (t.length : Int)) by omega)]
      rfl
  unfold Txt.slice
  rw [hs]
  by_cases h : i < t.length
  · rw [if_pos h]
    have h' : i.toNat < t.cps.size := by show i.toNat < t.length; omega
    split
    · rename_i q
      simp only [beq_self_eq_true, Bool.true_and, List.length_cons, List.length_nil, beq_iff_eq] at q
      have hi : i = 0 := by omega
      subst hi
      rw [c1_in (by omega)]
      obtain ⟨a⟩ := t
      obtain ⟨l⟩ := a
      match l, q with
      | [x], _ => rfl
    · rw [c1_in (by omega)]
      simp [cd, h']
  · rw [if_neg h]
    rw [c1_out (by omega)]
    split
    · rename_i q
      simp only [beq_self_eq_true, Bool.true_and, List.length_nil, beq_iff_eq] at q
      obtain ⟨a⟩ := t
      obtain ⟨l⟩ := a
      match l, q with
      | [], _ => rfl
    · rfl
end Mine

namespace Mine
open PySem PySem.W PyProof.Rows PySem.Calls PySem.SeqAt PySem.Builtin.Str

section
variable (x y z : XP) (a c : XB) (r : XL) (s u : XS) (σ : List PV) (i j : Nat) (is : List Nat)
theorem e_C (q : Sc) : xC q σ = .ok (.sc q) := rfl
theorem e_Nil : xNil σ = .ok (.lst []) := rfl
theorem e_Bin (op : BOp) : xBin op x y σ = (x σ).bind fun p => (y σ).bind fun q => binR op p q := rfl
theorem e_Neg : xNeg x σ = (x σ).bind negR := rfl
theorem e_Len : xLen x σ = (x σ).bind lenR := rfl
theorem e_Ord : xOrd x σ = (x σ).bind ordR := rfl
theorem e_Max : xMax x y σ = (x σ).bind fun p => (y σ).bind fun q => maxR p q := rfl
theorem e_Find (w : Str) : xFind w x σ = (x σ).bind (findR w) := rfl
theorem e_Idx : xIdx x y σ = (x σ).bind fun p => (y σ).bind fun q => idxR p q := rfl
theorem e_Slc : xSlc x y z σ = (x σ).bind fun p => (y σ).bind fun q => (z σ).bind fun r => slcR p q r := rfl
theorem e_Cmp (op : COp) : xCmp op x y σ = (x σ).bind fun p => (y σ).bind fun q => cmpR op p q := rfl
theorem e_tCmp (op : COp) : tCmp op x y σ = (x σ).bind fun p => (y σ).bind fun q => (cmpR op p q).bind truthR := rfl
theorem e_K (f : PV → Rs PV) : xK f x σ = (x σ).bind f := rfl
theorem e_tK (f : PV → Rs PV) : tK f x σ = (x σ).bind fun p => (f p).bind truthR := rfl
theorem e_Of : tOf x σ = (x σ).bind truthR := rfl
theorem e_Not : tNot a σ = (a σ).bind fun c => .ok (!c) := rfl
theorem e_And : tAnd a c σ = (a σ).bind fun d => if d then c σ else .ok false := rfl
theorem e_Or : tOr a c σ = (a σ).bind fun d => if d then .ok true else c σ := rfl
theorem e_xAnd : xAnd x y σ = (x σ).bind fun p => (truthR p).bind fun c => if c then y σ else bl false := rfl
theorem e_xOr : xOr x y σ = (x σ).bind fun p => (truthR p).bind fun c => if c then bl true else y σ := rfl
theorem e_xNot : xNot x σ = (x σ).bind fun p => (truthR p).bind fun c => bl (!c) := rfl
theorem e_Ite : xIte a x y σ = (a σ).bind fun c => if c then x σ else y σ := rfl
theorem e_aNil : aNil σ = .ok [] := rfl
theorem e_aCons : aCons x r σ = (x σ).bind fun p => (r σ).bind fun ps => .ok (p :: ps) := rfl
theorem e_Tup : xTup r σ = (r σ).bind mkTup := rfl
theorem e_Call (F : List Sc → Rs PV) : xCall F r σ = (r σ).bind fun ps => (allSc ps).bind F := rfl
theorem e_Assign : sAssign i x σ = (x σ).to fun p => .next (σ.set i p) := rfl
theorem e_Unp : sUnp is x σ = (x σ).to (unpR is σ) := rfl
theorem e_Swap : sSwap is x σ = (x σ).to (unpRevR is σ) := rfl
theorem e_Aug : sAug i x σ = ((getL i σ).bind fun p => (x σ).bind fun q => augR p q).to fun p => .next (σ.set i p) := rfl
theorem e_If : sIf a s u σ = (a σ).to fun c => if c then s σ else u σ := rfl
theorem e_Ret : sRet x σ = (x σ).to .ret := rfl
theorem e_Cont : sCont σ = .cont σ := rfl
theorem e_sNil : sNil σ = .next σ := rfl
theorem e_Cons : sCons s u σ = (s σ).andThen u := rfl
theorem e_Raise : sRaise x σ = (x σ).to raiseR := rfl
end
theorem b_ok {α β : Type} (q : α) (f : α → Rs β) : (Rs.ok q).bind f = f q := rfl
theorem b_exc {α β : Type} (n : Int) (f : α → Rs β) : (Rs.exc n : Rs α).bind f = .exc n := rfl
theorem b_ite {α β : Type} (p : Prop) [Decidable p] (q r : Rs α) (f : α → Rs β) : (if p then q else r).bind f = if p then q.bind f else r.bind f := by split <;> rfl
theorem t_ok {α : Type} (q : α) (f : α → SR) : (Rs.ok q).to f = f q := rfl
theorem t_exc {α : Type} (n : Int) (f : α → SR) : (Rs.exc n : Rs α).to f = .exc n := rfl
theorem t_ite {α : Type} (p : Prop) [Decidable p] (q r : Rs α) (f : α → SR) : (if p then q else r).to f = if p then q.to f else r.to f := by split <;> rfl
theorem a_next (σ : List PV) (f : List PV → SR) : (SR.next σ).andThen f = f σ := rfl
theorem a_cont (σ : List PV) (f : List PV → SR) : (SR.cont σ).andThen f = .cont σ := rfl
theorem a_ret (v : PV) (f : List PV → SR) : (SR.ret v).andThen f = .ret v := rfl
theorem a_exc (n : Int) (f : List PV → SR) : (SR.exc n).andThen f = .exc n := rfl
theorem a_ite (p : Prop) [Decidable p] (q r : SR) (f : List PV → SR) : (if p then q else r).andThen f = if p then q.andThen f else r.andThen f := by split <;> rfl
theorem r_raise (n : Int) : raiseR (.sc (.int n)) = .exc n := rfl
theorem k_true (c : Bool) : truthR (.sc (.bool c)) = .ok c := rfl
theorem k_sc (p : Sc) (r : List PV) : allSc (.sc p :: r) = (allSc r).bind fun ps => .ok (p :: ps) := rfl
theorem k_scn : allSc [] = .ok [] := rfl
theorem g_get (σ : List PV) (v : Sc) : getL 0 (.sc v :: σ) = .ok (.sc v) := rfl
theorem g_lst (σ : List PV) (v : List Sc) : getL 0 (.lst v :: σ) = .ok (.lst v) := rfl
theorem g_suc (i : Nat) (p : PV) (σ : List PV) : getL (i + 1) (p :: σ) = getL i σ := rfl
theorem n_add (i j : Int) : binR .add (.sc (.int i)) (.sc (.int j)) = .ok (.sc (.int (i + j))) := rfl
theorem n_sub (i j : Int) : binR .sub (.sc (.int i)) (.sc (.int j)) = .ok (.sc (.int (i - j))) := rfl
theorem n_mul (i j : Int) (h : small i = true) : binR .mul (.sc (.int i)) (.sc (.int j)) = .ok (.sc (.int (i * j))) := by simp [binR, h]
theorem n_neg (i : Int) : negR (.sc (.int i)) = .ok (.sc (.int (-i))) := rfl
theorem n_cat (x y : Str) (h : x.length + y.length ≤ sizeLine) : binR .add (.sc (.str x)) (.sc (.str y)) = .ok (.sc (.str (x ++ y))) := by simp [binR, h]
theorem n_max (i j : Int) : maxR (.sc (.int i)) (.sc (.int j)) = .ok (.sc (.int (if j > i then j else i))) := rfl
theorem n_aug (i j : Int) : augR (.sc (.int i)) (.sc (.int j)) = .ok (.sc (.int (i + j))) := rfl
theorem n_find (x y : Str) : findR x (.sc (.str y)) = .ok (.sc (.int (Txt.find x y))) := rfl
theorem n_idx (t : Str) (i : Int) (h0 : 0 ≤ i) (h : i < t.length) (hN : t.length ≤ sizeLine) : idxR (.sc (.str t)) (.sc (.int i)) = .ok (.sc (.str (c1 t i))) := by
  simp only [idxR]; rw [if_pos ⟨h0, h, hN⟩, item1 h0 h]
theorem n_slc (t : Str) (i j : Int) (h0 : 0 ≤ i) (hj : j = i + 1) (hN : t.length ≤ sizeLine) : slcR (.sc (.str t)) (.sc (.int i)) (.sc (.int j)) = .ok (.sc (.str (c1 t i))) := by
  simp only [slcR]; rw [if_pos hN, slice1 h0 hj]
theorem n_len (t : Str) (hN : t.length ≤ sizeLine) : lenR (.sc (.str t)) = .ok (.sc (.int t.length)) := by simp only [lenR]; rw [if_pos hN]
theorem m_eqi (i j : Int) : cmpR .eq (.sc (.int i)) (.sc (.int j)) = .ok (.sc (.bool (i == j))) := rfl
theorem m_nei (i j : Int) : cmpR .ne (.sc (.int i)) (.sc (.int j)) = .ok (.sc (.bool (i != j))) := rfl
theorem m_lt (i j : Int) : cmpR .lt (.sc (.int i)) (.sc (.int j)) = .ok (.sc (.bool (decide (i < j)))) := rfl
theorem m_gt (i j : Int) : cmpR .gt (.sc (.int i)) (.sc (.int j)) = .ok (.sc (.bool (decide (j < i)))) := rfl
theorem m_ge (i j : Int) : cmpR .ge (.sc (.int i)) (.sc (.int j)) = .ok (.sc (.bool (decide (j ≤ i)))) := rfl
theorem m_eqn (i : Int) : cmpR .eq (.sc .none) (.sc (.int i)) = .ok (.sc (.bool false)) := rfl
theorem m_eqs (x y : Str) : cmpR .eq (.sc (.str x)) (.sc (.str y)) = .ok (.sc (.bool (x == y))) := rfl
theorem m_nes (x y : Str) : cmpR .ne (.sc (.str x)) (.sc (.str y)) = .ok (.sc (.bool (x != y))) := rfl
theorem m_in (x y : Str) : cmpR .in_ (.sc (.str x)) (.sc (.str y)) = .ok (.sc (.bool (Txt.contains y x))) := rfl
theorem m_nin (x y : Str) : cmpR .notin (.sc (.str x)) (.sc (.str y)) = .ok (.sc (.bool (!Txt.contains y x))) := rfl
theorem m_isn : cmpR .is_ (.sc .none) (.sc .none) = .ok (.sc (.bool true)) := rfl
theorem m_isi (i : Int) : cmpR .is_ (.sc (.int i)) (.sc .none) = .ok (.sc (.bool false)) := rfl
theorem p_tup (a : Sc) (l : List PV) (h : l.length ≤ 7) : mkTup (.sc a :: l) = .ok (.sc (.tup (a :: l.map scOf))) := by
  unfold mkTup; rw [if_pos (by simp only [List.length_cons]; omega)]; rfl
theorem p_lt (q : List Sc) (l : List PV) (h : l.length ≤ 7) : mkTup (.lst q :: l) = .ok (.lt q (l.map scOf)) := by
  unfold mkTup; rw [if_pos (by simp only [List.length_cons]; omega)]
theorem u_tup (is : List Nat) (σ : List PV) (l : List Sc) (h : l.length = is.length) : unpR is σ (.sc (.tup l)) = .next (setAll is l σ) := by simp only [unpR]; rw [if_pos h]
theorem u_lt (i : Nat) (is : List Nat) (σ : List PV) (l r : List Sc) (h : r.length = is.length) : unpR (i :: is) σ (.lt l r) = .next (setAll is r (σ.set i (.lst l))) := by simp only [unpR]; rw [if_pos h]
theorem u_rev (is : List Nat) (σ : List PV) (l : List Sc) (h : l.length = is.length) : unpRevR is σ (.sc (.tup l)) = .next (setAll is l.reverse σ) := by simp only [unpRevR]; rw [if_pos h]
theorem w_cons (i : Nat) (is : List Nat) (p : Sc) (ps : List Sc) (σ : List PV) : setAll (i :: is) (p :: ps) σ = setAll is ps (σ.set i (.sc p)) := rfl
theorem w_nil (σ : List PV) : setAll [] [] σ = σ := rfl
noncomputable def fin : SR → Rs PV
  | .ret p => .ok p
  | .exc n => .exc n
  | _ => .bad
theorem f_ret (p : PV) : fin (.ret p) = .ok p := rfl
theorem f_exc (n : Int) : fin (.exc n) = .exc n := rfl
theorem f_ite (p : Prop) [Decidable p] (q r : SR) : fin (if p then q else r) = if p then fin q else fin r := by split <;> rfl
theorem f_call (np nr : Nat) (r : List PV → SR) (ps : List Sc) (h : ps.length = np) : funR np nr r ps = fin (r (ps.map .sc ++ List.replicate nr .unb)) := by
  unfold funR; rw [if_pos h]; cases r (List.map PV.sc ps ++ List.replicate nr PV.unb) <;> rfl

section
variable (t : Str) (i : Int)
theorem l_sp : (c1 t i == Str.ofString " ") = (cd t i == 32) := c1_lit (by kernel_rfl) (by decide)
theorem l_sp' : (Str.ofString " " == c1 t i) = (cd t i == 32) := lit_c1 (by kernel_rfl) (by decide)
theorem l_spn : (c1 t i != Str.ofString " ") = (cd t i != 32) := by rw [bne, l_sp]; rfl
theorem l_dot : (c1 t i == Str.ofString ".") = (cd t i == 46) := c1_lit (by kernel_rfl) (by decide)
theorem l_dot' : (Str.ofString "." == c1 t i) = (cd t i == 46) := lit_c1 (by kernel_rfl) (by decide)
theorem l_dotn : (c1 t i != Str.ofString ".") = (cd t i != 46) := by rw [bne, l_dot]; rfl
theorem l_E : (c1 t i == Str.ofString "E") = (cd t i == 69) := c1_lit (by kernel_rfl) (by decide)
theorem l_E' : (Str.ofString "E" == c1 t i) = (cd t i == 69) := lit_c1 (by kernel_rfl) (by decide)
theorem l_En : (c1 t i != Str.ofString "E") = (cd t i != 69) := by rw [bne, l_E]; rfl
theorem l_I : (c1 t i == Str.ofString "I") = (cd t i == 73) := c1_lit (by kernel_rfl) (by decide)
theorem l_I' : (Str.ofString "I" == c1 t i) = (cd t i == 73) := lit_c1 (by kernel_rfl) (by decide)
theorem l_In : (c1 t i != Str.ofString "I") = (cd t i != 73) := by rw [bne, l_I]; rfl
theorem l_F : (c1 t i == Str.ofString "F") = (cd t i == 70) := c1_lit (by kernel_rfl) (by decide)
theorem l_F' : (Str.ofString "F" == c1 t i) = (cd t i == 70) := lit_c1 (by kernel_rfl) (by decide)
theorem l_Fn : (c1 t i != Str.ofString "F") = (cd t i != 70) := by rw [bne, l_F]; rfl
theorem l_D : (c1 t i == Str.ofString "D") = (cd t i == 68) := c1_lit (by kernel_rfl) (by decide)
theorem l_D' : (Str.ofString "D" == c1 t i) = (cd t i == 68) := lit_c1 (by kernel_rfl) (by decide)
theorem l_Dn : (c1 t i != Str.ofString "D") = (cd t i != 68) := by rw [bne, l_D]; rfl
theorem l_G : (c1 t i == Str.ofString "G") = (cd t i == 71) := c1_lit (by kernel_rfl) (by decide)
theorem l_G' : (Str.ofString "G" == c1 t i) = (cd t i == 71) := lit_c1 (by kernel_rfl) (by decide)
theorem l_Gn : (c1 t i != Str.ofString "G") = (cd t i != 71) := by rw [bne, l_G]; rfl
theorem l_L : (c1 t i == Str.ofString "L") = (cd t i == 76) := c1_lit (by kernel_rfl) (by decide)
theorem l_L' : (Str.ofString "L" == c1 t i) = (cd t i == 76) := lit_c1 (by kernel_rfl) (by decide)
theorem l_Ln : (c1 t i != Str.ofString "L") = (cd t i != 76) := by rw [bne, l_L]; rfl
theorem l_A : (c1 t i == Str.ofString "A") = (cd t i == 65) := c1_lit (by kernel_rfl) (by decide)
theorem l_A' : (Str.ofString "A" == c1 t i) = (cd t i == 65) := lit_c1 (by kernel_rfl) (by decide)
theorem l_An : (c1 t i != Str.ofString "A") = (cd t i != 65) := by rw [bne, l_A]; rfl
theorem l_q : (c1 t i == Str.ofString "'") = (cd t i == 39) := c1_lit (by kernel_rfl) (by decide)
theorem l_q' : (Str.ofString "'" == c1 t i) = (cd t i == 39) := lit_c1 (by kernel_rfl) (by decide)
theorem l_qn : (c1 t i != Str.ofString "'") = (cd t i != 39) := by rw [bne, l_q]; rfl
theorem l_P : (c1 t i == Str.ofString "P") = (cd t i == 80) := c1_lit (by kernel_rfl) (by decide)
theorem l_P' : (Str.ofString "P" == c1 t i) = (cd t i == 80) := lit_c1 (by kernel_rfl) (by decide)
theorem l_Pn : (c1 t i != Str.ofString "P") = (cd t i != 80) := by rw [bne, l_P]; rfl
theorem l_mi : (c1 t i == Str.ofString "-") = (cd t i == 45) := c1_lit (by kernel_rfl) (by decide)
theorem l_mi' : (Str.ofString "-" == c1 t i) = (cd t i == 45) := lit_c1 (by kernel_rfl) (by decide)
theorem l_min : (c1 t i != Str.ofString "-") = (cd t i != 45) := by rw [bne, l_mi]; rfl
theorem l_pl : (c1 t i == Str.ofString "+") = (cd t i == 43) := c1_lit (by kernel_rfl) (by decide)
theorem l_pl' : (Str.ofString "+" == c1 t i) = (cd t i == 43) := lit_c1 (by kernel_rfl) (by decide)
theorem l_pln : (c1 t i != Str.ofString "+") = (cd t i != 43) := by rw [bne, l_pl]; rfl
theorem l_sl : (c1 t i == Str.ofString "/") = (cd t i == 47) := c1_lit (by kernel_rfl) (by decide)
theorem l_sl' : (Str.ofString "/" == c1 t i) = (cd t i == 47) := lit_c1 (by kernel_rfl) (by decide)
theorem l_sln : (c1 t i != Str.ofString "/") = (cd t i != 47) := by rw [bne, l_sl]; rfl
theorem l_co : (c1 t i == Str.ofString ":") = (cd t i == 58) := c1_lit (by kernel_rfl) (by decide)
theorem l_co' : (Str.ofString ":" == c1 t i) = (cd t i == 58) := lit_c1 (by kernel_rfl) (by decide)
theorem l_con : (c1 t i != Str.ofString ":") = (cd t i != 58) := by rw [bne, l_co]; rfl
theorem l_S : (c1 t i == Str.ofString "S") = (cd t i == 83) := c1_lit (by kernel_rfl) (by decide)
theorem l_S' : (Str.ofString "S" == c1 t i) = (cd t i == 83) := lit_c1 (by kernel_rfl) (by decide)
theorem l_Sn : (c1 t i != Str.ofString "S") = (cd t i != 83) := by rw [bne, l_S]; rfl
theorem l_N : (c1 t i == Str.ofString "N") = (cd t i == 78) := c1_lit (by kernel_rfl) (by decide)
theorem l_N' : (Str.ofString "N" == c1 t i) = (cd t i == 78) := lit_c1 (by kernel_rfl) (by decide)
theorem l_Nn : (c1 t i != Str.ofString "N") = (cd t i != 78) := by rw [bne, l_N]; rfl
theorem l_Z : (c1 t i == Str.ofString "Z") = (cd t i == 90) := c1_lit (by kernel_rfl) (by decide)
theorem l_Z' : (Str.ofString "Z" == c1 t i) = (cd t i == 90) := lit_c1 (by kernel_rfl) (by decide)
theorem l_Zn : (c1 t i != Str.ofString "Z") = (cd t i != 90) := by rw [bne, l_Z]; rfl
theorem l_B : (c1 t i == Str.ofString "B") = (cd t i == 66) := c1_lit (by kernel_rfl) (by decide)
theorem l_B' : (Str.ofString "B" == c1 t i) = (cd t i == 66) := lit_c1 (by kernel_rfl) (by decide)
theorem l_Bn : (c1 t i != Str.ofString "B") = (cd t i != 66) := by rw [bne, l_B]; rfl
theorem l_R : (c1 t i == Str.ofString "R") = (cd t i == 82) := c1_lit (by kernel_rfl) (by decide)
theorem l_R' : (Str.ofString "R" == c1 t i) = (cd t i == 82) := lit_c1 (by kernel_rfl) (by decide)
theorem l_Rn : (c1 t i != Str.ofString "R") = (cd t i != 82) := by rw [bne, l_R]; rfl
theorem l_T : (c1 t i == Str.ofString "T") = (cd t i == 84) := c1_lit (by kernel_rfl) (by decide)
theorem l_T' : (Str.ofString "T" == c1 t i) = (cd t i == 84) := lit_c1 (by kernel_rfl) (by decide)
theorem l_Tn : (c1 t i != Str.ofString "T") = (cd t i != 84) := by rw [bne, l_T]; rfl
theorem l_X : (c1 t i == Str.ofString "X") = (cd t i == 88) := c1_lit (by kernel_rfl) (by decide)
theorem l_X' : (Str.ofString "X" == c1 t i) = (cd t i == 88) := lit_c1 (by kernel_rfl) (by decide)
theorem l_Xn : (c1 t i != Str.ofString "X") = (cd t i != 88) := by rw [bne, l_X]; rfl
theorem l_H : (c1 t i == Str.ofString "H") = (cd t i == 72) := c1_lit (by kernel_rfl) (by decide)
theorem l_H' : (Str.ofString "H" == c1 t i) = (cd t i == 72) := lit_c1 (by kernel_rfl) (by decide)
theorem l_Hn : (c1 t i != Str.ofString "H") = (cd t i != 72) := by rw [bne, l_H]; rfl
theorem l_lp : (c1 t i == Str.ofString "(") = (cd t i == 40) := c1_lit (by kernel_rfl) (by decide)
theorem l_lp' : (Str.ofString "(" == c1 t i) = (cd t i == 40) := lit_c1 (by kernel_rfl) (by decide)
theorem l_lpn : (c1 t i != Str.ofString "(") = (cd t i != 40) := by rw [bne, l_lp]; rfl
theorem l_cm : (c1 t i == Str.ofString ",") = (cd t i == 44) := c1_lit (by kernel_rfl) (by decide)
theorem l_cm' : (Str.ofString "," == c1 t i) = (cd t i == 44) := lit_c1 (by kernel_rfl) (by decide)
theorem l_cmn : (c1 t i != Str.ofString ",") = (cd t i != 44) := by rw [bne, l_cm]; rfl
theorem l_rp : (c1 t i == Str.ofString ")") = (cd t i == 41) := c1_lit (by kernel_rfl) (by decide)
theorem l_rp' : (Str.ofString ")" == c1 t i) = (cd t i == 41) := lit_c1 (by kernel_rfl) (by decide)
theorem l_rpn : (c1 t i != Str.ofString ")") = (cd t i != 41) := by rw [bne, l_rp]; rfl
theorem h_dig (h0 : 0 ≤ i) (h : i < t.length) : Txt.contains (Str.ofString "0123456789") (c1 t i) = (cd t i == 48 || cd t i == 49 || cd t i == 50 || cd t i == 51 || cd t i == 52 || cd t i == 53 || cd t i == 54 || cd t i == 55 || cd t i == 56 || cd t i == 57) := by
  rw [c1_has h0 h, show (Str.ofString "0123456789").cps.toList = [48, 49, 50, 51, 52, 53, 54, 55, 56, 57] by kernel_rfl]
  exact Bool.eq_iff_iff.mpr (by simp only [decide_eq_true_eq, List.mem_cons, List.not_mem_nil, or_false, Bool.or_eq_true, beq_iff_eq, or_assoc])
theorem h_let (h0 : 0 ≤ i) (h : i < t.length) : Txt.contains (Str.ofString "IFEDGLA") (c1 t i) = (cd t i == 73 || cd t i == 70 || cd t i == 69 || cd t i == 68 || cd t i == 71 || cd t i == 76 || cd t i == 65) := by
  rw [c1_has h0 h, show (Str.ofString "IFEDGLA").cps.toList = [73, 70, 69, 68, 71, 76, 65] by kernel_rfl]
  exact Bool.eq_iff_iff.mpr (by simp only [decide_eq_true_eq, List.mem_cons, List.not_mem_nil, or_false, Bool.or_eq_true, beq_iff_eq, or_assoc])
theorem h_slc (h0 : 0 ≤ i) (h : i < t.length) : Txt.contains (Str.ofString "/:") (c1 t i) = (cd t i == 47 || cd t i == 58) := by
  rw [c1_has h0 h, show (Str.ofString "/:").cps.toList = [47, 58] by kernel_rfl]
  exact Bool.eq_iff_iff.mpr (by simp only [decide_eq_true_eq, List.mem_cons, List.not_mem_nil, or_false, Bool.or_eq_true, beq_iff_eq, or_assoc])
theorem h_cmr (h0 : 0 ≤ i) (h : i < t.length) : Txt.contains (Str.ofString ",)") (c1 t i) = (cd t i == 44 || cd t i == 41) := by
  rw [c1_has h0 h, show (Str.ofString ",)").cps.toList = [44, 41] by kernel_rfl]
  exact Bool.eq_iff_iff.mpr (by simp only [decide_eq_true_eq, List.mem_cons, List.not_mem_nil, or_false, Bool.or_eq_true, beq_iff_eq, or_assoc])
theorem h_EG (h0 : 0 ≤ i) (h : i < t.length) : Txt.contains (Str.ofString "EG") (c1 t i) = (cd t i == 69 || cd t i == 71) := by
  rw [c1_has h0 h, show (Str.ofString "EG").cps.toList = [69, 71] by kernel_rfl]
  exact Bool.eq_iff_iff.mpr (by simp only [decide_eq_true_eq, List.mem_cons, List.not_mem_nil, or_false, Bool.or_eq_true, beq_iff_eq, or_assoc])
theorem h_pm (h0 : 0 ≤ i) (h : i < t.length) : Txt.contains (Str.ofString "+-") (c1 t i) = (cd t i == 43 || cd t i == 45) := by
  rw [c1_has h0 h, show (Str.ofString "+-").cps.toList = [43, 45] by kernel_rfl]
  exact Bool.eq_iff_iff.mpr (by simp only [decide_eq_true_eq, List.mem_cons, List.not_mem_nil, or_false, Bool.or_eq_true, beq_iff_eq, or_assoc])
theorem l_e (h0 : 0 ≤ i) : (c1 t i == Str.ofString "") = decide ((t.length : Int) ≤ i) := c1_nil h0
theorem l_en (h0 : 0 ≤ i) : (c1 t i != Str.ofString "") = decide (i < (t.length : Int)) := by rw [bne, c1_nil h0, ← decide_not]; simp only [Int.not_le]
end
end Mine

namespace Mine
open PySem PySem.W PyProof.Rows PySem.Calls PySem.SeqAt PySem.Builtin.Str
variable {t : Str}
noncomputable abbrev txt (t : Str) : Sc := .str t
noncomputable abbrev nt (i : Int) : PV := .sc (.int i)

theorem blanksP (hN : t.length ≤ 2000) (φ : Phi) : ∀ (n : Nat) (i : Int), 0 ≤ i → i ≤ t.length → t.length - i < n → n ≤ 4096 →
    ∃ j, i ≤ j ∧ j ≤ t.length ∧ (cd t i ≠ 32 → j = i) ∧ ∀ m, n ≤ m → 
      loopR m (tAnd (tCmp .lt (getL 1) (xLen (getL 0))) (tCmp .eq (xIdx (getL 0) (getL 1)) (xC (.str (Str.ofString " "))))) (sCons (sAug 1 (xC (.int 1))) sNil) [.sc (.str t), .sc (.int i)] = .next [.sc (.str t), .sc (.int j)] ∧
      loopR m (tCmp .eq (xSlc (getL 0) (getL 1) (xBin .add (getL 1) (xC (.int 1)))) (xC (.str (Str.ofString " ")))) (sCons (sAssign 1 (xBin .add (getL 1) (xC (.int 1)))) sNil) [.sc (.str t), .sc (.int i)] = .next [.sc (.str t), .sc (.int j)]
  | 0, i, _, _, h, _ => by omega
  | n + 1, i, h0, h1, h2, h3 => by
    have hZ : t.length ≤ sizeLine := by rw [sizeLine_eq]; omega
    by_cases hi : i < t.length
    · by_cases hc : cd t i = 32
      · obtain ⟨j, j1, j2, j4, j3⟩ := blanksP hN φ n (i + 1) (by omega) (by omega) (by omega) (by omega)
        refine ⟨j, by omega, j2, fun q => absurd hc q, fun m hm => ?_⟩
        obtain ⟨m, rfl⟩ : ∃ m', m = m' + 1 := ⟨m - 1, by omega⟩
        obtain ⟨q1, q2⟩ := j3 m (by omega)
        rw [loopR, loopR]
        simp only [e_C, e_Nil, e_Bin, e_Neg, e_Len, e_Ord, e_Max, e_Find, e_Idx, e_Slc, e_Cmp, e_tCmp, e_K, e_tK, e_Of, e_Not, e_And, e_Or, e_xAnd, e_xOr, e_xNot, e_Ite, e_aNil, e_aCons, e_Tup, e_Call, e_Assign, e_Unp, e_Swap, e_Aug, e_If, e_Ret, e_Cont, e_sNil, e_Cons, e_Raise, b_ok, b_exc, b_ite, t_ok, t_exc, t_ite, a_next, a_cont, a_ret, a_exc, a_ite, r_raise, k_true, k_sc, k_scn, n_add, n_sub, n_mul, n_neg, n_max, n_aug, n_find, m_eqi, m_nei, m_lt, m_gt, m_ge, m_eqn, m_eqs, m_nes, m_in, m_nin, m_isn, m_isi, p_tup, p_lt, u_tup, u_lt, u_rev, w_cons, w_nil, g_get, g_lst, bl, List.length_cons, List.length_nil, List.map_cons, List.map_nil, List.replicate_succ, List.replicate_zero, List.cons_append, List.nil_append, List.append_nil, List.set_cons_zero, List.set_cons_succ, List.getElem?_cons_zero, List.getElem?_cons_succ, scOf, List.reverse_cons, List.reverse_nil, Nat.reduceAdd, Nat.reduceLeDiff, Nat.reduceEqDiff, Bool.false_eq_true, if_true, if_false, reduceIte, decide_eq_true_eq, beq_iff_eq, bne_iff_ne, ne_eq, Bool.not_true, Bool.not_false, l_sp, l_sp', l_spn, l_dot, l_dot', l_dotn, l_E, l_E', l_En, l_I, l_I', l_In, l_F, l_F', l_Fn, l_D, l_D', l_Dn, l_G, l_G', l_Gn, l_L, l_L', l_Ln, l_A, l_A', l_An, l_q, l_q', l_qn, l_P, l_P', l_Pn, l_mi, l_mi', l_min, l_pl, l_pl', l_pln, l_sl, l_sl', l_sln, l_co, l_co', l_con, l_S, l_S', l_Sn, l_N, l_N', l_Nn, l_Z, l_Z', l_Zn, l_B, l_B', l_Bn, l_R, l_R', l_Rn, l_T, l_T', l_Tn, l_X, l_X', l_Xn, l_H, l_H', l_Hn, l_lp, l_lp', l_lpn, l_cm, l_cm', l_cmn, l_rp, l_rp', l_rpn, f_ret, f_exc, f_ite, g_suc, f_call, n_len t hZ, n_idx t i h0 hi hZ, n_slc t i (i + 1) h0 rfl hZ, hi, hc]
        exact ⟨q1, q2⟩
      · refine ⟨i, by omega, by omega, fun _ => rfl, fun m hm => ?_⟩
        obtain ⟨m, rfl⟩ : ∃ m', m = m' + 1 := ⟨m - 1, by omega⟩
        rw [loopR, loopR]
        simp only [e_C, e_Nil, e_Bin, e_Neg, e_Len, e_Ord, e_Max, e_Find, e_Idx, e_Slc, e_Cmp, e_tCmp, e_K, e_tK, e_Of, e_Not, e_And, e_Or, e_xAnd, e_xOr, e_xNot, e_Ite, e_aNil, e_aCons, e_Tup, e_Call, e_Assign, e_Unp, e_Swap, e_Aug, e_If, e_Ret, e_Cont, e_sNil, e_Cons, e_Raise, b_ok, b_exc, b_ite, t_ok, t_exc, t_ite, a_next, a_cont, a_ret, a_exc, a_ite, r_raise, k_true, k_sc, k_scn, n_add, n_sub, n_mul, n_neg, n_max, n_aug, n_find, m_eqi, m_nei, m_lt, m_gt, m_ge, m_eqn, m_eqs, m_nes, m_in, m_nin, m_isn, m_isi, p_tup, p_lt, u_tup, u_lt, u_rev, w_cons, w_nil, g_get, g_lst, bl, List.length_cons, List.length_nil, List.map_cons, List.map_nil, List.replicate_succ, List.replicate_zero, List.cons_append, List.nil_append, List.append_nil, List.set_cons_zero, List.set_cons_succ, List.getElem?_cons_zero, List.getElem?_cons_succ, scOf, List.reverse_cons, List.reverse_nil, Nat.reduceAdd, Nat.reduceLeDiff, Nat.reduceEqDiff, Bool.false_eq_true, if_true, if_false, reduceIte, decide_eq_true_eq, beq_iff_eq, bne_iff_ne, ne_eq, Bool.not_true, Bool.not_false, l_sp, l_sp', l_spn, l_dot, l_dot', l_dotn, l_E, l_E', l_En, l_I, l_I', l_In, l_F, l_F', l_Fn, l_D, l_D', l_Dn, l_G, l_G', l_Gn, l_L, l_L', l_Ln, l_A, l_A', l_An, l_q, l_q', l_qn, l_P, l_P', l_Pn, l_mi, l_mi', l_min, l_pl, l_pl', l_pln, l_sl, l_sl', l_sln, l_co, l_co', l_con, l_S, l_S', l_Sn, l_N, l_N', l_Nn, l_Z, l_Z', l_Zn, l_B, l_B', l_Bn, l_R, l_R', l_Rn, l_T, l_T', l_Tn, l_X, l_X', l_Xn, l_H, l_H', l_Hn, l_lp, l_lp', l_lpn, l_cm, l_cm', l_cmn, l_rp, l_rp', l_rpn, f_ret, f_exc, f_ite, g_suc, f_call, n_len t hZ, n_idx t i h0 hi hZ, n_slc t i (i + 1) h0 rfl hZ, hi, hc]
        trivial
    · refine ⟨i, by omega, by omega, fun _ => rfl, fun m hm => ?_⟩
      obtain ⟨m, rfl⟩ : ∃ m', m = m' + 1 := ⟨m - 1, by omega⟩
      have hc : cd t i ≠ 32 := by rw [cd_out (by omega)]; decide
      rw [loopR, loopR]
      simp only [e_C, e_Nil, e_Bin, e_Neg, e_Len, e_Ord, e_Max, e_Find, e_Idx, e_Slc, e_Cmp, e_tCmp, e_K, e_tK, e_Of, e_Not, e_And, e_Or, e_xAnd, e_xOr, e_xNot, e_Ite, e_aNil, e_aCons, e_Tup, e_Call, e_Assign, e_Unp, e_Swap, e_Aug, e_If, e_Ret, e_Cont, e_sNil, e_Cons, e_Raise, b_ok, b_exc, b_ite, t_ok, t_exc, t_ite, a_next, a_cont, a_ret, a_exc, a_ite, r_raise, k_true, k_sc, k_scn, n_add, n_sub, n_mul, n_neg, n_max, n_aug, n_find, m_eqi, m_nei, m_lt, m_gt, m_ge, m_eqn, m_eqs, m_nes, m_in, m_nin, m_isn, m_isi, p_tup, p_lt, u_tup, u_lt, u_rev, w_cons, w_nil, g_get, g_lst, bl, List.length_cons, List.length_nil, List.map_cons, List.map_nil, List.replicate_succ, List.replicate_zero, List.cons_append, List.nil_append, List.append_nil, List.set_cons_zero, List.set_cons_succ, List.getElem?_cons_zero, List.getElem?_cons_succ, scOf, List.reverse_cons, List.reverse_nil, Nat.reduceAdd, Nat.reduceLeDiff, Nat.reduceEqDiff, Bool.false_eq_true, if_true, if_false, reduceIte, decide_eq_true_eq, beq_iff_eq, bne_iff_ne, ne_eq, Bool.not_true, Bool.not_false, l_sp, l_sp', l_spn, l_dot, l_dot', l_dotn, l_E, l_E', l_En, l_I, l_I', l_In, l_F, l_F', l_Fn, l_D, l_D', l_Dn, l_G, l_G', l_Gn, l_L, l_L', l_Ln, l_A, l_A', l_An, l_q, l_q', l_qn, l_P, l_P', l_Pn, l_mi, l_mi', l_min, l_pl, l_pl', l_pln, l_sl, l_sl', l_sln, l_co, l_co', l_con, l_S, l_S', l_Sn, l_N, l_N', l_Nn, l_Z, l_Z', l_Zn, l_B, l_B', l_Bn, l_R, l_R', l_Rn, l_T, l_T', l_Tn, l_X, l_X', l_Xn, l_H, l_H', l_Hn, l_lp, l_lp', l_lpn, l_cm, l_cm', l_cmn, l_rp, l_rp', l_rpn, f_ret, f_exc, f_ite, g_suc, f_call, n_len t hZ, n_slc t i (i + 1) h0 rfl hZ, hi, hc]
      trivial

theorem blanks (hN : t.length ≤ 2000) (i : Int) (h0 : 0 ≤ i) (h1 : i ≤ t.length) : ∃ j, i ≤ j ∧ j ≤ t.length ∧ (cd t i ≠ 32 → j = i) ∧ ∀ k, 1 ≤ k → Φ k .pass_blanks [.str t, .int i] = .ok (.sc (.int j)) ∧ Φ k .lawSkip [.str t, .int i] = .ok (.sc (.int j)) := by
  obtain ⟨j, j1, j2, j4, j3⟩ := blanksP hN (Φ 0) 4096 i h0 h1 (by omega) (Nat.le_refl _)
  refine ⟨j, j1, j2, j4, fun k hk => ?_⟩
  obtain ⟨k, rfl⟩ : ∃ m', k = m' + 1 := ⟨k - 1, by omega⟩
  obtain ⟨q1, q2⟩ := j3 4096 (Nat.le_refl _)
  show funR 2 0 (r_pass_blanks (Φ k)) _ = _ ∧ funR 2 0 (r_lawSkip (Φ k)) _ = _
  unfold r_pass_blanks r_lawSkip
  simp only [e_C, e_Nil, e_Bin, e_Neg, e_Len, e_Ord, e_Max, e_Find, e_Idx, e_Slc, e_Cmp, e_tCmp, e_K, e_tK, e_Of, e_Not, e_And, e_Or, e_xAnd, e_xOr, e_xNot, e_Ite, e_aNil, e_aCons, e_Tup, e_Call, e_Assign, e_Unp, e_Swap, e_Aug, e_If, e_Ret, e_Cont, e_sNil, e_Cons, e_Raise, b_ok, b_exc, b_ite, t_ok, t_exc, t_ite, a_next, a_cont, a_ret, a_exc, a_ite, r_raise, k_true, k_sc, k_scn, n_add, n_sub, n_mul, n_neg, n_max, n_aug, n_find, m_eqi, m_nei, m_lt, m_gt, m_ge, m_eqn, m_eqs, m_nes, m_in, m_nin, m_isn, m_isi, p_tup, p_lt, u_tup, u_lt, u_rev, w_cons, w_nil, g_get, g_lst, bl, List.length_cons, List.length_nil, List.map_cons, List.map_nil, List.replicate_succ, List.replicate_zero, List.cons_append, List.nil_append, List.append_nil, List.set_cons_zero, List.set_cons_succ, List.getElem?_cons_zero, List.getElem?_cons_succ, scOf, List.reverse_cons, List.reverse_nil, Nat.reduceAdd, Nat.reduceLeDiff, Nat.reduceEqDiff, Bool.false_eq_true, if_true, if_false, reduceIte, decide_eq_true_eq, beq_iff_eq, bne_iff_ne, ne_eq, Bool.not_true, Bool.not_false, l_sp, l_sp', l_spn, l_dot, l_dot', l_dotn, l_E, l_E', l_En, l_I, l_I', l_In, l_F, l_F', l_Fn, l_D, l_D', l_Dn, l_G, l_G', l_Gn, l_L, l_L', l_Ln, l_A, l_A', l_An, l_q, l_q', l_qn, l_P, l_P', l_Pn, l_mi, l_mi', l_min, l_pl, l_pl', l_pln, l_sl, l_sl', l_sln, l_co, l_co', l_con, l_S, l_S', l_Sn, l_N, l_N', l_Nn, l_Z, l_Z', l_Zn, l_B, l_B', l_Bn, l_R, l_R', l_Rn, l_T, l_T', l_Tn, l_X, l_X', l_Xn, l_H, l_H', l_Hn, l_lp, l_lp', l_lpn, l_cm, l_cm', l_cmn, l_rp, l_rp', l_rpn, f_ret, f_exc, f_ite, g_suc, f_call, q1, q2]
  trivial
end Mine

namespace Mine
open PySem PySem.W PyProof.Rows PySem.Calls PySem.SeqAt PySem.Builtin.Str
variable {t : Str}
noncomputable def dig (t : Str) (i : Int) : Bool := cd t i == 48 || (cd t i == 49 || (cd t i == 50 || (cd t i == 51 || (cd t i == 52 || (cd t i == 53 || (cd t i == 54 || (cd t i == 55 || (cd t i == 56 || cd t i == 57))))))))
theorem has_dig {i : Int} (h0 : 0 ≤ i) (h : i < t.length) : Txt.contains (Str.ofString "0123456789") (c1 t i) = dig t i := by
  rw [h_dig t i h0 h]; simp only [dig, Bool.or_assoc]
theorem dig_lt {i : Int} (h : dig t i = true) : 48 ≤ cd t i ∧ cd t i ≤ 57 := by
  simp only [dig, Bool.or_eq_true, beq_iff_eq] at h; omega
theorem dig_in {i : Int} (h : dig t i = true) : i < t.length := by
  have := dig_lt h
  refine Decidable.byContradiction fun q => ?_
  rw [cd_out (by omega)] at this; omega
theorem n_ord (i : Int) (h0 : 0 ≤ i) (h : i < t.length) : ordR (.sc (.str (c1 t i))) = .ok (.sc (.int (cd t i))) := by
  rw [c1_in (by omega)]; rfl
theorem find_dig {i : Int} (h0 : 0 ≤ i) (h : dig t i = true) : Txt.find (Str.ofString "0123456789") (c1 t i) = (cd t i : Int) - 48 := by
  have hl := dig_lt h
  have := dig_in h
  rw [c1_in (by omega)]
  generalize cd t i = q at hl
  obtain ⟨a, b⟩ := hl
  have : q = 48 ∨ q = 49 ∨ q = 50 ∨ q = 51 ∨ q = 52 ∨ q = 53 ∨ q = 54 ∨ q = 55 ∨ q = 56 ∨ q = 57 := by omega
  rcases this with rfl | rfl | rfl | rfl | rfl | rfl | rfl | rfl | rfl | rfl <;> kernel_rfl
noncomputable def vOf (v : Int) : Sc := if v < 0 then .none else .int v
theorem small_le {v : Int} (h0 : -1 ≤ v) (h : v ≤ 9999) : small v = true := by
  simp only [small, decide_eq_true_eq]; omega

noncomputable abbrev numT : XB := (tAnd (tCmp .lt (getL 2) (xLen (getL 0))) (tCmp .in_ (xIdx (getL 0) (getL 2)) (xC (.str (Str.ofString "0123456789")))))
noncomputable abbrev numB (φ : Phi) : XS := (sCons (sIf (tCmp .is_ (getL 3) (xC .none)) (sCons (sAssign 3 (xC (.int 0))) sNil) sNil) (sCons (sAssign 3 (xBin .add (xBin .mul (xC (.int 10)) (getL 3)) (xFind (Str.ofString "0123456789") (xIdx (getL 0) (getL 2))))) (sCons (sIf (tCmp .gt (getL 3) (xC (.int 9999))) (sCons (sRaise (getL 2)) sNil) sNil) (sCons (sAssign 2 (xCall (φ .pass_blanks) (aCons (getL 0) (aCons (xBin .add (getL 2) (xC (.int 1))) aNil)))) sNil))))
noncomputable abbrev figT : XB := (tAnd (tCmp .ne (xSlc (getL 0) (getL 3) (xBin .add (getL 3) (xC (.int 1)))) (xC (.str (Str.ofString "")))) (tCmp .in_ (xIdx (getL 0) (getL 3)) (xC (.str (Str.ofString "0123456789")))))
noncomputable abbrev figB (φ : Phi) : XS := (sCons (sAssign 4 (xBin .sub (xBin .add (xBin .mul (xMax (getL 4) (xC (.int 0))) (xC (.int 10))) (xOrd (xIdx (getL 0) (getL 3)))) (xC (.int 48)))) (sCons (sIf (tCmp .gt (getL 4) (xC (.int 9999))) (sCons (sRet (xTup (aCons (getL 4) (aCons (getL 3) (aCons (getL 3) aNil))))) sNil) sNil) (sCons (sAssign 3 (xCall (φ .lawSkip) (aCons (getL 0) (aCons (xBin .add (getL 3) (xC (.int 1))) aNil)))) sNil)))

theorem figsP (hN : t.length ≤ 2000) : ∀ (n : Nat) (i v : Int), 0 ≤ i → i ≤ t.length → t.length - i < n → -1 ≤ v → v ≤ 9999 →
    ∃ v' h', i ≤ h' ∧ h' ≤ t.length ∧
      ((∀ k m a low, 1 ≤ k → n ≤ m → loopR m numT (numB (Φ k)) [.sc (.str t), a, .sc (.int i), .sc (vOf v)] = .exc h' ∧
        loopR m figT (figB (Φ k)) [.sc (.str t), a, low, .sc (.int i), .sc (.int v)] = .ret (.sc (.tup [.int v', .int h', .int h']))) ∨
      (v ≤ v' ∧ (dig t i = true → 0 ≤ v') ∧ v' ≤ 9999 ∧ ∀ k m a low, 1 ≤ k → n ≤ m → loopR m numT (numB (Φ k)) [.sc (.str t), a, .sc (.int i), .sc (vOf v)] = .next [.sc (.str t), a, .sc (.int h'), .sc (vOf v')] ∧
        loopR m figT (figB (Φ k)) [.sc (.str t), a, low, .sc (.int i), .sc (.int v)] = .next [.sc (.str t), a, low, .sc (.int h'), .sc (.int v')]))
  | 0, i, v, _, _, h, _, _ => by omega
  | n + 1, i, v, h0, h1, h2, v0, v1 => by
    have hZ : t.length ≤ sizeLine := by rw [sizeLine_eq]; omega
    by_cases hi : i < t.length
    · by_cases hc : dig t i = true
      · have hd := dig_lt hc
        have hs : small (if 0 > v then 0 else v) = true := by split <;> exact small_le (by omega) (by omega)
        have hs10 : small 10 = true := by decide
        have e2 : (if 0 > v then 0 else v) * 10 + (cd t i : Int) - 48 = (if 0 > v then 0 else v) * 10 + ((cd t i : Int) - 48) := by omega
        obtain ⟨w, hw⟩ : ∃ w, w = (if 0 > v then 0 else v) * 10 + ((cd t i : Int) - 48) := ⟨_, rfl⟩
        have e3 : 10 * v + ((cd t i : Int) - 48) = w ∨ v < 0 := by
          by_cases q : v < 0
          · exact .inr q
          · left; rw [hw, if_neg (by omega)]; omega
        have e4 : v < 0 → 10 * 0 + ((cd t i : Int) - 48) = w := fun q => by rw [hw, if_pos (by omega)]; omega
        have e5 : v < 10 ^ 9 → v ≤ w ∧ 0 ≤ w := by split at hw <;> omega
        by_cases hb : 9999 < w
        · refine ⟨w, i, by omega, by omega, .inl fun k m a low hk hm => ?_⟩
          obtain ⟨m, rfl⟩ : ∃ m', m = m' + 1 := ⟨m - 1, by omega⟩
          rw [loopR, loopR]
          by_cases hv : v < 0
          · have e4 := e4 hv
            have f4 : 0 * 10 + (cd t i : Int) - 48 = w := by omega
            have f5 : small 0 = true := by decide
            simp only [e_C, e_Nil, e_Bin, e_Neg, e_Len, e_Ord, e_Max, e_Find, e_Idx, e_Slc, e_Cmp, e_tCmp, e_K, e_tK, e_Of, e_Not, e_And, e_Or, e_xAnd, e_xOr, e_xNot, e_Ite, e_aNil, e_aCons, e_Tup, e_Call, e_Assign, e_Unp, e_Swap, e_Aug, e_If, e_Ret, e_Cont, e_sNil, e_Cons, e_Raise, b_ok, b_exc, b_ite, t_ok, t_exc, t_ite, a_next, a_cont, a_ret, a_exc, a_ite, r_raise, k_true, k_sc, k_scn, n_add, n_sub, n_mul, n_neg, n_max, n_aug, n_find, m_eqi, m_nei, m_lt, m_gt, m_ge, m_eqn, m_eqs, m_nes, m_in, m_nin, m_isn, m_isi, p_tup, p_lt, u_tup, u_lt, u_rev, w_cons, w_nil, g_get, g_lst, bl, List.length_cons, List.length_nil, List.map_cons, List.map_nil, List.replicate_succ, List.replicate_zero, List.cons_append, List.nil_append, List.append_nil, List.set_cons_zero, List.set_cons_succ, List.getElem?_cons_zero, List.getElem?_cons_succ, scOf, List.reverse_cons, List.reverse_nil, Nat.reduceAdd, Nat.reduceLeDiff, Nat.reduceEqDiff, Bool.false_eq_true, if_true, if_false, reduceIte, decide_eq_true_eq, beq_iff_eq, bne_iff_ne, ne_eq, Bool.not_true, Bool.not_false, l_sp, l_sp', l_spn, l_dot, l_dot', l_dotn, l_E, l_E', l_En, l_I, l_I', l_In, l_F, l_F', l_Fn, l_D, l_D', l_Dn, l_G, l_G', l_Gn, l_L, l_L', l_Ln, l_A, l_A', l_An, l_q, l_q', l_qn, l_P, l_P', l_Pn, l_mi, l_mi', l_min, l_pl, l_pl', l_pln, l_sl, l_sl', l_sln, l_co, l_co', l_con, l_S, l_S', l_Sn, l_N, l_N', l_Nn, l_Z, l_Z', l_Zn, l_B, l_B', l_Bn, l_R, l_R', l_Rn, l_T, l_T', l_Tn, l_X, l_X', l_Xn, l_H, l_H', l_Hn, l_lp, l_lp', l_lpn, l_cm, l_cm', l_cmn, l_rp, l_rp', l_rpn, f_ret, f_exc, f_ite, g_suc, f_call, n_len t hZ, n_idx t i h0 hi hZ, n_slc t i (i + 1) h0 rfl hZ, l_en t i h0, has_dig h0 hi, n_ord i h0 hi, find_dig h0 hc, hi, hc, vOf, hv, e4, f4, f5, hb, hs, hs10]
            trivial
          · have e3 := e3.resolve_right hv
            have f4 : v * 10 + (cd t i : Int) - 48 = w := by omega
            have f5 : small v = true := small_le v0 v1
            simp only [e_C, e_Nil, e_Bin, e_Neg, e_Len, e_Ord, e_Max, e_Find, e_Idx, e_Slc, e_Cmp, e_tCmp, e_K, e_tK, e_Of, e_Not, e_And, e_Or, e_xAnd, e_xOr, e_xNot, e_Ite, e_aNil, e_aCons, e_Tup, e_Call, e_Assign, e_Unp, e_Swap, e_Aug, e_If, e_Ret, e_Cont, e_sNil, e_Cons, e_Raise, b_ok, b_exc, b_ite, t_ok, t_exc, t_ite, a_next, a_cont, a_ret, a_exc, a_ite, r_raise, k_true, k_sc, k_scn, n_add, n_sub, n_mul, n_neg, n_max, n_aug, n_find, m_eqi, m_nei, m_lt, m_gt, m_ge, m_eqn, m_eqs, m_nes, m_in, m_nin, m_isn, m_isi, p_tup, p_lt, u_tup, u_lt, u_rev, w_cons, w_nil, g_get, g_lst, bl, List.length_cons, List.length_nil, List.map_cons, List.map_nil, List.replicate_succ, List.replicate_zero, List.cons_append, List.nil_append, List.append_nil, List.set_cons_zero, List.set_cons_succ, List.getElem?_cons_zero, List.getElem?_cons_succ, scOf, List.reverse_cons, List.reverse_nil, Nat.reduceAdd, Nat.reduceLeDiff, Nat.reduceEqDiff, Bool.false_eq_true, if_true, if_false, reduceIte, decide_eq_true_eq, beq_iff_eq, bne_iff_ne, ne_eq, Bool.not_true, Bool.not_false, l_sp, l_sp', l_spn, l_dot, l_dot', l_dotn, l_E, l_E', l_En, l_I, l_I', l_In, l_F, l_F', l_Fn, l_D, l_D', l_Dn, l_G, l_G', l_Gn, l_L, l_L', l_Ln, l_A, l_A', l_An, l_q, l_q', l_qn, l_P, l_P', l_Pn, l_mi, l_mi', l_min, l_pl, l_pl', l_pln, l_sl, l_sl', l_sln, l_co, l_co', l_con, l_S, l_S', l_Sn, l_N, l_N', l_Nn, l_Z, l_Z', l_Zn, l_B, l_B', l_Bn, l_R, l_R', l_Rn, l_T, l_T', l_Tn, l_X, l_X', l_Xn, l_H, l_H', l_Hn, l_lp, l_lp', l_lpn, l_cm, l_cm', l_cmn, l_rp, l_rp', l_rpn, f_ret, f_exc, f_ite, g_suc, f_call, n_len t hZ, n_idx t i h0 hi hZ, n_slc t i (i + 1) h0 rfl hZ, l_en t i h0, has_dig h0 hi, n_ord i h0 hi, find_dig h0 hc, hi, hc, vOf, hv, e3, f4, f5, hb, hs, hs10]
            trivial
        · obtain ⟨j, j1, j2, j4, j3⟩ := blanks hN (i + 1) (by omega) (by omega)
          obtain ⟨v', h', a1, a2, a3⟩ := figsP hN n j w (by omega) (by omega) (by omega) (by omega) (by omega)
          refine ⟨v', h', by omega, a2, ?_⟩
          have hw0 : ¬ w < 0 := by omega
          rcases a3 with a3 | ⟨a4, a5, a6, a3⟩
          · refine .inl fun k m a low hk hm => ?_
            obtain ⟨m, rfl⟩ : ∃ m', m = m' + 1 := ⟨m - 1, by omega⟩
            obtain ⟨q1, q2⟩ := a3 k m a low hk (by omega)
            obtain ⟨p1, p2⟩ := j3 k hk
            simp only [vOf, hw0, if_false] at q1
            rw [loopR, loopR]
            by_cases hv : v < 0
            · have e4 := e4 hv
              have f4 : 0 * 10 + (cd t i : Int) - 48 = w := by omega
              have f5 : small 0 = true := by decide
              simp only [e_C, e_Nil, e_Bin, e_Neg, e_Len, e_Ord, e_Max, e_Find, e_Idx, e_Slc, e_Cmp, e_tCmp, e_K, e_tK, e_Of, e_Not, e_And, e_Or, e_xAnd, e_xOr, e_xNot, e_Ite, e_aNil, e_aCons, e_Tup, e_Call, e_Assign, e_Unp, e_Swap, e_Aug, e_If, e_Ret, e_Cont, e_sNil, e_Cons, e_Raise, b_ok, b_exc, b_ite, t_ok, t_exc, t_ite, a_next, a_cont, a_ret, a_exc, a_ite, r_raise, k_true, k_sc, k_scn, n_add, n_sub, n_mul, n_neg, n_max, n_aug, n_find, m_eqi, m_nei, m_lt, m_gt, m_ge, m_eqn, m_eqs, m_nes, m_in, m_nin, m_isn, m_isi, p_tup, p_lt, u_tup, u_lt, u_rev, w_cons, w_nil, g_get, g_lst, bl, List.length_cons, List.length_nil, List.map_cons, List.map_nil, List.replicate_succ, List.replicate_zero, List.cons_append, List.nil_append, List.append_nil, List.set_cons_zero, List.set_cons_succ, List.getElem?_cons_zero, List.getElem?_cons_succ, scOf, List.reverse_cons, List.reverse_nil, Nat.reduceAdd, Nat.reduceLeDiff, Nat.reduceEqDiff, Bool.false_eq_true, if_true, if_false, reduceIte, decide_eq_true_eq, beq_iff_eq, bne_iff_ne, ne_eq, Bool.not_true, Bool.not_false, l_sp, l_sp', l_spn, l_dot, l_dot', l_dotn, l_E, l_E', l_En, l_I, l_I', l_In, l_F, l_F', l_Fn, l_D, l_D', l_Dn, l_G, l_G', l_Gn, l_L, l_L', l_Ln, l_A, l_A', l_An, l_q, l_q', l_qn, l_P, l_P', l_Pn, l_mi, l_mi', l_min, l_pl, l_pl', l_pln, l_sl, l_sl', l_sln, l_co, l_co', l_con, l_S, l_S', l_Sn, l_N, l_N', l_Nn, l_Z, l_Z', l_Zn, l_B, l_B', l_Bn, l_R, l_R', l_Rn, l_T, l_T', l_Tn, l_X, l_X', l_Xn, l_H, l_H', l_Hn, l_lp, l_lp', l_lpn, l_cm, l_cm', l_cmn, l_rp, l_rp', l_rpn, f_ret, f_exc, f_ite, g_suc, f_call, n_len t hZ, n_idx t i h0 hi hZ, n_slc t i (i + 1) h0 rfl hZ, l_en t i h0, has_dig h0 hi, n_ord i h0 hi, find_dig h0 hc, hi, hc, vOf, hv, e4, f4, f5, hb, hs, hs10, p1, p2]
              exact ⟨q1, q2⟩
            · have e3 := e3.resolve_right hv
              have f4 : v * 10 + (cd t i : Int) - 48 = w := by omega
              have f5 : small v = true := small_le v0 v1
              simp only [e_C, e_Nil, e_Bin, e_Neg, e_Len, e_Ord, e_Max, e_Find, e_Idx, e_Slc, e_Cmp, e_tCmp, e_K, e_tK, e_Of, e_Not, e_And, e_Or, e_xAnd, e_xOr, e_xNot, e_Ite, e_aNil, e_aCons, e_Tup, e_Call, e_Assign, e_Unp, e_Swap, e_Aug, e_If, e_Ret, e_Cont, e_sNil, e_Cons, e_Raise, b_ok, b_exc, b_ite, t_ok, t_exc, t_ite, a_next, a_cont, a_ret, a_exc, a_ite, r_raise, k_true, k_sc, k_scn, n_add, n_sub, n_mul, n_neg, n_max, n_aug, n_find, m_eqi, m_nei, m_lt, m_gt, m_ge, m_eqn, m_eqs, m_nes, m_in, m_nin, m_isn, m_isi, p_tup, p_lt, u_tup, u_lt, u_rev, w_cons, w_nil, g_get, g_lst, bl, List.length_cons, List.length_nil, List.map_cons, List.map_nil, List.replicate_succ, List.replicate_zero, List.cons_append, List.nil_append, List.append_nil, List.set_cons_zero, List.set_cons_succ, List.getElem?_cons_zero, List.getElem?_cons_succ, scOf, List.reverse_cons, List.reverse_nil, Nat.reduceAdd, Nat.reduceLeDiff, Nat.reduceEqDiff, Bool.false_eq_true, if_true, if_false, reduceIte, decide_eq_true_eq, beq_iff_eq, bne_iff_ne, ne_eq, Bool.not_true, Bool.not_false, l_sp, l_sp', l_spn, l_dot, l_dot', l_dotn, l_E, l_E', l_En, l_I, l_I', l_In, l_F, l_F', l_Fn, l_D, l_D', l_Dn, l_G, l_G', l_Gn, l_L, l_L', l_Ln, l_A, l_A', l_An, l_q, l_q', l_qn, l_P, l_P', l_Pn, l_mi, l_mi', l_min, l_pl, l_pl', l_pln, l_sl, l_sl', l_sln, l_co, l_co', l_con, l_S, l_S', l_Sn, l_N, l_N', l_Nn, l_Z, l_Z', l_Zn, l_B, l_B', l_Bn, l_R, l_R', l_Rn, l_T, l_T', l_Tn, l_X, l_X', l_Xn, l_H, l_H', l_Hn, l_lp, l_lp', l_lpn, l_cm, l_cm', l_cmn, l_rp, l_rp', l_rpn, f_ret, f_exc, f_ite, g_suc, f_call, n_len t hZ, n_idx t i h0 hi hZ, n_slc t i (i + 1) h0 rfl hZ, l_en t i h0, has_dig h0 hi, n_ord i h0 hi, find_dig h0 hc, hi, hc, vOf, hv, e3, f4, f5, hb, hs, hs10, p1, p2]
              exact ⟨q1, q2⟩
          · refine .inr ⟨by omega, fun _ => by omega, a6, fun k m a low hk hm => ?_⟩
            obtain ⟨m, rfl⟩ : ∃ m', m = m' + 1 := ⟨m - 1, by omega⟩
            obtain ⟨q1, q2⟩ := a3 k m a low hk (by omega)
            obtain ⟨p1, p2⟩ := j3 k hk
            simp only [vOf, hw0, if_false] at q1
            rw [loopR, loopR]
            by_cases hv : v < 0
            · have e4 := e4 hv
              have f4 : 0 * 10 + (cd t i : Int) - 48 = w := by omega
              have f5 : small 0 = true := by decide
              simp only [e_C, e_Nil, e_Bin, e_Neg, e_Len, e_Ord, e_Max, e_Find, e_Idx, e_Slc, e_Cmp, e_tCmp, e_K, e_tK, e_Of, e_Not, e_And, e_Or, e_xAnd, e_xOr, e_xNot, e_Ite, e_aNil, e_aCons, e_Tup, e_Call, e_Assign, e_Unp, e_Swap, e_Aug, e_If, e_Ret, e_Cont, e_sNil, e_Cons, e_Raise, b_ok, b_exc, b_ite, t_ok, t_exc, t_ite, a_next, a_cont, a_ret, a_exc, a_ite, r_raise, k_true, k_sc, k_scn, n_add, n_sub, n_mul, n_neg, n_max, n_aug, n_find, m_eqi, m_nei, m_lt, m_gt, m_ge, m_eqn, m_eqs, m_nes, m_in, m_nin, m_isn, m_isi, p_tup, p_lt, u_tup, u_lt, u_rev, w_cons, w_nil, g_get, g_lst, bl, List.length_cons, List.length_nil, List.map_cons, List.map_nil, List.replicate_succ, List.replicate_zero, List.cons_append, List.nil_append, List.append_nil, List.set_cons_zero, List.set_cons_succ, List.getElem?_cons_zero, List.getElem?_cons_succ, scOf, List.reverse_cons, List.reverse_nil, Nat.reduceAdd, Nat.reduceLeDiff, Nat.reduceEqDiff, Bool.false_eq_true, if_true, if_false, reduceIte, decide_eq_true_eq, beq_iff_eq, bne_iff_ne, ne_eq, Bool.not_true, Bool.not_false, l_sp, l_sp', l_spn, l_dot, l_dot', l_dotn, l_E, l_E', l_En, l_I, l_I', l_In, l_F, l_F', l_Fn, l_D, l_D', l_Dn, l_G, l_G', l_Gn, l_L, l_L', l_Ln, l_A, l_A', l_An, l_q, l_q', l_qn, l_P, l_P', l_Pn, l_mi, l_mi', l_min, l_pl, l_pl', l_pln, l_sl, l_sl', l_sln, l_co, l_co', l_con, l_S, l_S', l_Sn, l_N, l_N', l_Nn, l_Z, l_Z', l_Zn, l_B, l_B', l_Bn, l_R, l_R', l_Rn, l_T, l_T', l_Tn, l_X, l_X', l_Xn, l_H, l_H', l_Hn, l_lp, l_lp', l_lpn, l_cm, l_cm', l_cmn, l_rp, l_rp', l_rpn, f_ret, f_exc, f_ite, g_suc, f_call, n_len t hZ, n_idx t i h0 hi hZ, n_slc t i (i + 1) h0 rfl hZ, l_en t i h0, has_dig h0 hi, n_ord i h0 hi, find_dig h0 hc, hi, hc, vOf, hv, e4, f4, f5, hb, hs, hs10, p1, p2]
              exact ⟨q1, q2⟩
            · have e3 := e3.resolve_right hv
              have f4 : v * 10 + (cd t i : Int) - 48 = w := by omega
              have f5 : small v = true := small_le v0 v1
              simp only [e_C, e_Nil, e_Bin, e_Neg, e_Len, e_Ord, e_Max, e_Find, e_Idx, e_Slc, e_Cmp, e_tCmp, e_K, e_tK, e_Of, e_Not, e_And, e_Or, e_xAnd, e_xOr, e_xNot, e_Ite, e_aNil, e_aCons, e_Tup, e_Call, e_Assign, e_Unp, e_Swap, e_Aug, e_If, e_Ret, e_Cont, e_sNil, e_Cons, e_Raise, b_ok, b_exc, b_ite, t_ok, t_exc, t_ite, a_next, a_cont, a_ret, a_exc, a_ite, r_raise, k_true, k_sc, k_scn, n_add, n_sub, n_mul, n_neg, n_max, n_aug, n_find, m_eqi, m_nei, m_lt, m_gt, m_ge, m_eqn, m_eqs, m_nes, m_in, m_nin, m_isn, m_isi, p_tup, p_lt, u_tup, u_lt, u_rev, w_cons, w_nil, g_get, g_lst, bl, List.length_cons, List.length_nil, List.map_cons, List.map_nil, List.replicate_succ, List.replicate_zero, List.cons_append, List.nil_append, List.append_nil, List.set_cons_zero, List.set_cons_succ, List.getElem?_cons_zero, List.getElem?_cons_succ, scOf, List.reverse_cons, List.reverse_nil, Nat.reduceAdd, Nat.reduceLeDiff, Nat.reduceEqDiff, Bool.false_eq_true, if_true, if_false, reduceIte, decide_eq_true_eq, beq_iff_eq, bne_iff_ne, ne_eq, Bool.not_true, Bool.not_false, l_sp, l_sp', l_spn, l_dot, l_dot', l_dotn, l_E, l_E', l_En, l_I, l_I', l_In, l_F, l_F', l_Fn, l_D, l_D', l_Dn, l_G, l_G', l_Gn, l_L, l_L', l_Ln, l_A, l_A', l_An, l_q, l_q', l_qn, l_P, l_P', l_Pn, l_mi, l_mi', l_min, l_pl, l_pl', l_pln, l_sl, l_sl', l_sln, l_co, l_co', l_con, l_S, l_S', l_Sn, l_N, l_N', l_Nn, l_Z, l_Z', l_Zn, l_B, l_B', l_Bn, l_R, l_R', l_Rn, l_T, l_T', l_Tn, l_X, l_X', l_Xn, l_H, l_H', l_Hn, l_lp, l_lp', l_lpn, l_cm, l_cm', l_cmn, l_rp, l_rp', l_rpn, f_ret, f_exc, f_ite, g_suc, f_call, n_len t hZ, n_idx t i h0 hi hZ, n_slc t i (i + 1) h0 rfl hZ, l_en t i h0, has_dig h0 hi, n_ord i h0 hi, find_dig h0 hc, hi, hc, vOf, hv, e3, f4, f5, hb, hs, hs10, p1, p2]
              exact ⟨q1, q2⟩
      · have hc : dig t i = false := by simpa using hc
        refine ⟨v, i, by omega, by omega, .inr ⟨by omega, (fun q => by rw [hc] at q; cases q), v1, fun k m a low hk hm => ?_⟩⟩
        obtain ⟨m, rfl⟩ : ∃ m', m = m' + 1 := ⟨m - 1, by omega⟩
        rw [loopR, loopR]
        simp only [e_C, e_Nil, e_Bin, e_Neg, e_Len, e_Ord, e_Max, e_Find, e_Idx, e_Slc, e_Cmp, e_tCmp, e_K, e_tK, e_Of, e_Not, e_And, e_Or, e_xAnd, e_xOr, e_xNot, e_Ite, e_aNil, e_aCons, e_Tup, e_Call, e_Assign, e_Unp, e_Swap, e_Aug, e_If, e_Ret, e_Cont, e_sNil, e_Cons, e_Raise, b_ok, b_exc, b_ite, t_ok, t_exc, t_ite, a_next, a_cont, a_ret, a_exc, a_ite, r_raise, k_true, k_sc, k_scn, n_add, n_sub, n_mul, n_neg, n_max, n_aug, n_find, m_eqi, m_nei, m_lt, m_gt, m_ge, m_eqn, m_eqs, m_nes, m_in, m_nin, m_isn, m_isi, p_tup, p_lt, u_tup, u_lt, u_rev, w_cons, w_nil, g_get, g_lst, bl, List.length_cons, List.length_nil, List.map_cons, List.map_nil, List.replicate_succ, List.replicate_zero, List.cons_append, List.nil_append, List.append_nil, List.set_cons_zero, List.set_cons_succ, List.getElem?_cons_zero, List.getElem?_cons_succ, scOf, List.reverse_cons, List.reverse_nil, Nat.reduceAdd, Nat.reduceLeDiff, Nat.reduceEqDiff, Bool.false_eq_true, if_true, if_false, reduceIte, decide_eq_true_eq, beq_iff_eq, bne_iff_ne, ne_eq, Bool.not_true, Bool.not_false, l_sp, l_sp', l_spn, l_dot, l_dot', l_dotn, l_E, l_E', l_En, l_I, l_I', l_In, l_F, l_F', l_Fn, l_D, l_D', l_Dn, l_G, l_G', l_Gn, l_L, l_L', l_Ln, l_A, l_A', l_An, l_q, l_q', l_qn, l_P, l_P', l_Pn, l_mi, l_mi', l_min, l_pl, l_pl', l_pln, l_sl, l_sl', l_sln, l_co, l_co', l_con, l_S, l_S', l_Sn, l_N, l_N', l_Nn, l_Z, l_Z', l_Zn, l_B, l_B', l_Bn, l_R, l_R', l_Rn, l_T, l_T', l_Tn, l_X, l_X', l_Xn, l_H, l_H', l_Hn, l_lp, l_lp', l_lpn, l_cm, l_cm', l_cmn, l_rp, l_rp', l_rpn, f_ret, f_exc, f_ite, g_suc, f_call, n_len t hZ, n_idx t i h0 hi hZ, n_slc t i (i + 1) h0 rfl hZ, l_en t i h0, has_dig h0 hi, hi, hc]
        trivial
    · refine ⟨v, i, by omega, by omega, .inr ⟨by omega, (fun q => absurd (dig_in q) hi), v1, fun k m a low hk hm => ?_⟩⟩
      obtain ⟨m, rfl⟩ : ∃ m', m = m' + 1 := ⟨m - 1, by omega⟩
      rw [loopR, loopR]
      simp only [e_C, e_Nil, e_Bin, e_Neg, e_Len, e_Ord, e_Max, e_Find, e_Idx, e_Slc, e_Cmp, e_tCmp, e_K, e_tK, e_Of, e_Not, e_And, e_Or, e_xAnd, e_xOr, e_xNot, e_Ite, e_aNil, e_aCons, e_Tup, e_Call, e_Assign, e_Unp, e_Swap, e_Aug, e_If, e_Ret, e_Cont, e_sNil, e_Cons, e_Raise, b_ok, b_exc, b_ite, t_ok, t_exc, t_ite, a_next, a_cont, a_ret, a_exc, a_ite, r_raise, k_true, k_sc, k_scn, n_add, n_sub, n_mul, n_neg, n_max, n_aug, n_find, m_eqi, m_nei, m_lt, m_gt, m_ge, m_eqn, m_eqs, m_nes, m_in, m_nin, m_isn, m_isi, p_tup, p_lt, u_tup, u_lt, u_rev, w_cons, w_nil, g_get, g_lst, bl, List.length_cons, List.length_nil, List.map_cons, List.map_nil, List.replicate_succ, List.replicate_zero, List.cons_append, List.nil_append, List.append_nil, List.set_cons_zero, List.set_cons_succ, List.getElem?_cons_zero, List.getElem?_cons_succ, scOf, List.reverse_cons, List.reverse_nil, Nat.reduceAdd, Nat.reduceLeDiff, Nat.reduceEqDiff, Bool.false_eq_true, if_true, if_false, reduceIte, decide_eq_true_eq, beq_iff_eq, bne_iff_ne, ne_eq, Bool.not_true, Bool.not_false, l_sp, l_sp', l_spn, l_dot, l_dot', l_dotn, l_E, l_E', l_En, l_I, l_I', l_In, l_F, l_F', l_Fn, l_D, l_D', l_Dn, l_G, l_G', l_Gn, l_L, l_L', l_Ln, l_A, l_A', l_An, l_q, l_q', l_qn, l_P, l_P', l_Pn, l_mi, l_mi', l_min, l_pl, l_pl', l_pln, l_sl, l_sl', l_sln, l_co, l_co', l_con, l_S, l_S', l_Sn, l_N, l_N', l_Nn, l_Z, l_Z', l_Zn, l_B, l_B', l_Bn, l_R, l_R', l_Rn, l_T, l_T', l_Tn, l_X, l_X', l_Xn, l_H, l_H', l_Hn, l_lp, l_lp', l_lpn, l_cm, l_cm', l_cmn, l_rp, l_rp', l_rpn, f_ret, f_exc, f_ite, g_suc, f_call, n_len t hZ, n_slc t i (i + 1) h0 rfl hZ, l_en t i h0, hi]
      trivial

theorem figs (hN : t.length ≤ 2000) (i : Int) (h0 : 0 ≤ i) (h1 : i ≤ t.length) : ∃ v h, i ≤ h ∧ h ≤ t.length ∧
    ((∀ k, 2 ≤ k → Φ k .number_at [.str t, .int i] = .exc h ∧ ∀ low : Int, Φ k .lawFigures [.str t, .int i, .int low] = .ok (.sc (.tup [.int v, .int h, .int h]))) ∨
     (-1 ≤ v ∧ v ≤ 9999 ∧ (dig t i = true → 0 ≤ v) ∧ ∀ k, 2 ≤ k → Φ k .number_at [.str t, .int i] = .ok (.sc (.tup [vOf v, .int h])) ∧
      ∀ low : Int, Φ k .lawFigures [.str t, .int i, .int low] = .ok (.sc (.tup [.int v, .int h, .int (if v < low then h else -1)])))) := by
  obtain ⟨j, j1, j2, j4, j3⟩ := blanks hN i h0 h1
  obtain ⟨v, h, a1, a2, a3⟩ := figsP hN 4096 j (-1) (by omega) j2 (by omega) (by omega) (by omega)
  refine ⟨v, h, by omega, a2, ?_⟩
  have hm : vOf (-1) = .none := rfl
  rw [hm] at a3
  rcases a3 with a3 | ⟨a4, a5, a6, a3⟩
  · refine .inl fun k hk => ?_
    obtain ⟨k, rfl⟩ : ∃ m', k = m' + 1 := ⟨k - 1, by omega⟩
    obtain ⟨p1, p2⟩ := j3 k (by omega)
    refine ⟨?_, fun low => ?_⟩
    · obtain ⟨q1, q2⟩ := a3 k 4096 (nt i) (nt 0) (by omega) (Nat.le_refl _)
      show funR 2 2 (r_number_at (Φ k)) _ = _
      unfold r_number_at
      simp only [e_C, e_Nil, e_Bin, e_Neg, e_Len, e_Ord, e_Max, e_Find, e_Idx, e_Slc, e_Cmp, e_tCmp, e_K, e_tK, e_Of, e_Not, e_And, e_Or, e_xAnd, e_xOr, e_xNot, e_Ite, e_aNil, e_aCons, e_Tup, e_Call, e_Assign, e_Unp, e_Swap, e_Aug, e_If, e_Ret, e_Cont, e_sNil, e_Cons, e_Raise, b_ok, b_exc, b_ite, t_ok, t_exc, t_ite, a_next, a_cont, a_ret, a_exc, a_ite, r_raise, k_true, k_sc, k_scn, n_add, n_sub, n_mul, n_neg, n_max, n_aug, n_find, m_eqi, m_nei, m_lt, m_gt, m_ge, m_eqn, m_eqs, m_nes, m_in, m_nin, m_isn, m_isi, p_tup, p_lt, u_tup, u_lt, u_rev, w_cons, w_nil, g_get, g_lst, bl, List.length_cons, List.length_nil, List.map_cons, List.map_nil, List.replicate_succ, List.replicate_zero, List.cons_append, List.nil_append, List.append_nil, List.set_cons_zero, List.set_cons_succ, List.getElem?_cons_zero, List.getElem?_cons_succ, scOf, List.reverse_cons, List.reverse_nil, Nat.reduceAdd, Nat.reduceLeDiff, Nat.reduceEqDiff, Bool.false_eq_true, if_true, if_false, reduceIte, decide_eq_true_eq, beq_iff_eq, bne_iff_ne, ne_eq, Bool.not_true, Bool.not_false, l_sp, l_sp', l_spn, l_dot, l_dot', l_dotn, l_E, l_E', l_En, l_I, l_I', l_In, l_F, l_F', l_Fn, l_D, l_D', l_Dn, l_G, l_G', l_Gn, l_L, l_L', l_Ln, l_A, l_A', l_An, l_q, l_q', l_qn, l_P, l_P', l_Pn, l_mi, l_mi', l_min, l_pl, l_pl', l_pln, l_sl, l_sl', l_sln, l_co, l_co', l_con, l_S, l_S', l_Sn, l_N, l_N', l_Nn, l_Z, l_Z', l_Zn, l_B, l_B', l_Bn, l_R, l_R', l_Rn, l_T, l_T', l_Tn, l_X, l_X', l_Xn, l_H, l_H', l_Hn, l_lp, l_lp', l_lpn, l_cm, l_cm', l_cmn, l_rp, l_rp', l_rpn, f_ret, f_exc, f_ite, g_suc, f_call, p1, p2, q1]
    · obtain ⟨q1, q2⟩ := a3 k 4096 (nt i) (nt low) (by omega) (Nat.le_refl _)
      show funR 3 2 (r_lawFigures (Φ k)) _ = _
      unfold r_lawFigures
      simp only [e_C, e_Nil, e_Bin, e_Neg, e_Len, e_Ord, e_Max, e_Find, e_Idx, e_Slc, e_Cmp, e_tCmp, e_K, e_tK, e_Of, e_Not, e_And, e_Or, e_xAnd, e_xOr, e_xNot, e_Ite, e_aNil, e_aCons, e_Tup, e_Call, e_Assign, e_Unp, e_Swap, e_Aug, e_If, e_Ret, e_Cont, e_sNil, e_Cons, e_Raise, b_ok, b_exc, b_ite, t_ok, t_exc, t_ite, a_next, a_cont, a_ret, a_exc, a_ite, r_raise, k_true, k_sc, k_scn, n_add, n_sub, n_mul, n_neg, n_max, n_aug, n_find, m_eqi, m_nei, m_lt, m_gt, m_ge, m_eqn, m_eqs, m_nes, m_in, m_nin, m_isn, m_isi, p_tup, p_lt, u_tup, u_lt, u_rev, w_cons, w_nil, g_get, g_lst, bl, List.length_cons, List.length_nil, List.map_cons, List.map_nil, List.replicate_succ, List.replicate_zero, List.cons_append, List.nil_append, List.append_nil, List.set_cons_zero, List.set_cons_succ, List.getElem?_cons_zero, List.getElem?_cons_succ, scOf, List.reverse_cons, List.reverse_nil, Nat.reduceAdd, Nat.reduceLeDiff, Nat.reduceEqDiff, Bool.false_eq_true, if_true, if_false, reduceIte, decide_eq_true_eq, beq_iff_eq, bne_iff_ne, ne_eq, Bool.not_true, Bool.not_false, l_sp, l_sp', l_spn, l_dot, l_dot', l_dotn, l_E, l_E', l_En, l_I, l_I', l_In, l_F, l_F', l_Fn, l_D, l_D', l_Dn, l_G, l_G', l_Gn, l_L, l_L', l_Ln, l_A, l_A', l_An, l_q, l_q', l_qn, l_P, l_P', l_Pn, l_mi, l_mi', l_min, l_pl, l_pl', l_pln, l_sl, l_sl', l_sln, l_co, l_co', l_con, l_S, l_S', l_Sn, l_N, l_N', l_Nn, l_Z, l_Z', l_Zn, l_B, l_B', l_Bn, l_R, l_R', l_Rn, l_T, l_T', l_Tn, l_X, l_X', l_Xn, l_H, l_H', l_Hn, l_lp, l_lp', l_lpn, l_cm, l_cm', l_cmn, l_rp, l_rp', l_rpn, f_ret, f_exc, f_ite, g_suc, f_call, p1, p2, q2]
  · refine .inr ⟨a4, a6, fun q => a5 ?_, fun k hk => ?_⟩
    · have := dig_lt q
      rw [j4 (by omega)]; exact q
    obtain ⟨k, rfl⟩ : ∃ m', k = m' + 1 := ⟨k - 1, by omega⟩
    obtain ⟨p1, p2⟩ := j3 k (by omega)
    refine ⟨?_, fun low => ?_⟩
    · obtain ⟨q1, q2⟩ := a3 k 4096 (nt i) (nt 0) (by omega) (Nat.le_refl _)
      show funR 2 2 (r_number_at (Φ k)) _ = _
      unfold r_number_at
      simp only [e_C, e_Nil, e_Bin, e_Neg, e_Len, e_Ord, e_Max, e_Find, e_Idx, e_Slc, e_Cmp, e_tCmp, e_K, e_tK, e_Of, e_Not, e_And, e_Or, e_xAnd, e_xOr, e_xNot, e_Ite, e_aNil, e_aCons, e_Tup, e_Call, e_Assign, e_Unp, e_Swap, e_Aug, e_If, e_Ret, e_Cont, e_sNil, e_Cons, e_Raise, b_ok, b_exc, b_ite, t_ok, t_exc, t_ite, a_next, a_cont, a_ret, a_exc, a_ite, r_raise, k_true, k_sc, k_scn, n_add, n_sub, n_mul, n_neg, n_max, n_aug, n_find, m_eqi, m_nei, m_lt, m_gt, m_ge, m_eqn, m_eqs, m_nes, m_in, m_nin, m_isn, m_isi, p_tup, p_lt, u_tup, u_lt, u_rev, w_cons, w_nil, g_get, g_lst, bl, List.length_cons, List.length_nil, List.map_cons, List.map_nil, List.replicate_succ, List.replicate_zero, List.cons_append, List.nil_append, List.append_nil, List.set_cons_zero, List.set_cons_succ, List.getElem?_cons_zero, List.getElem?_cons_succ, scOf, List.reverse_cons, List.reverse_nil, Nat.reduceAdd, Nat.reduceLeDiff, Nat.reduceEqDiff, Bool.false_eq_true, if_true, if_false, reduceIte, decide_eq_true_eq, beq_iff_eq, bne_iff_ne, ne_eq, Bool.not_true, Bool.not_false, l_sp, l_sp', l_spn, l_dot, l_dot', l_dotn, l_E, l_E', l_En, l_I, l_I', l_In, l_F, l_F', l_Fn, l_D, l_D', l_Dn, l_G, l_G', l_Gn, l_L, l_L', l_Ln, l_A, l_A', l_An, l_q, l_q', l_qn, l_P, l_P', l_Pn, l_mi, l_mi', l_min, l_pl, l_pl', l_pln, l_sl, l_sl', l_sln, l_co, l_co', l_con, l_S, l_S', l_Sn, l_N, l_N', l_Nn, l_Z, l_Z', l_Zn, l_B, l_B', l_Bn, l_R, l_R', l_Rn, l_T, l_T', l_Tn, l_X, l_X', l_Xn, l_H, l_H', l_Hn, l_lp, l_lp', l_lpn, l_cm, l_cm', l_cmn, l_rp, l_rp', l_rpn, f_ret, f_exc, f_ite, g_suc, f_call, p1, p2, q1]
    · obtain ⟨q1, q2⟩ := a3 k 4096 (nt i) (nt low) (by omega) (Nat.le_refl _)
      show funR 3 2 (r_lawFigures (Φ k)) _ = _
      unfold r_lawFigures
      by_cases hl : v < low <;> simp only [e_C, e_Nil, e_Bin, e_Neg, e_Len, e_Ord, e_Max, e_Find, e_Idx, e_Slc, e_Cmp, e_tCmp, e_K, e_tK, e_Of, e_Not, e_And, e_Or, e_xAnd, e_xOr, e_xNot, e_Ite, e_aNil, e_aCons, e_Tup, e_Call, e_Assign, e_Unp, e_Swap, e_Aug, e_If, e_Ret, e_Cont, e_sNil, e_Cons, e_Raise, b_ok, b_exc, b_ite, t_ok, t_exc, t_ite, a_next, a_cont, a_ret, a_exc, a_ite, r_raise, k_true, k_sc, k_scn, n_add, n_sub, n_mul, n_neg, n_max, n_aug, n_find, m_eqi, m_nei, m_lt, m_gt, m_ge, m_eqn, m_eqs, m_nes, m_in, m_nin, m_isn, m_isi, p_tup, p_lt, u_tup, u_lt, u_rev, w_cons, w_nil, g_get, g_lst, bl, List.length_cons, List.length_nil, List.map_cons, List.map_nil, List.replicate_succ, List.replicate_zero, List.cons_append, List.nil_append, List.append_nil, List.set_cons_zero, List.set_cons_succ, List.getElem?_cons_zero, List.getElem?_cons_succ, scOf, List.reverse_cons, List.reverse_nil, Nat.reduceAdd, Nat.reduceLeDiff, Nat.reduceEqDiff, Bool.false_eq_true, if_true, if_false, reduceIte, decide_eq_true_eq, beq_iff_eq, bne_iff_ne, ne_eq, Bool.not_true, Bool.not_false, l_sp, l_sp', l_spn, l_dot, l_dot', l_dotn, l_E, l_E', l_En, l_I, l_I', l_In, l_F, l_F', l_Fn, l_D, l_D', l_Dn, l_G, l_G', l_Gn, l_L, l_L', l_Ln, l_A, l_A', l_An, l_q, l_q', l_qn, l_P, l_P', l_Pn, l_mi, l_mi', l_min, l_pl, l_pl', l_pln, l_sl, l_sl', l_sln, l_co, l_co', l_con, l_S, l_S', l_Sn, l_N, l_N', l_Nn, l_Z, l_Z', l_Zn, l_B, l_B', l_Bn, l_R, l_R', l_Rn, l_T, l_T', l_Tn, l_X, l_X', l_Xn, l_H, l_H', l_Hn, l_lp, l_lp', l_lpn, l_cm, l_cm', l_cmn, l_rp, l_rp', l_rpn, f_ret, f_exc, f_ite, g_suc, f_call, p1, p2, q2, hl]
end Mine

namespace Mine
open PySem PySem.W PyProof.Rows PySem.Calls PySem.SeqAt PySem.Builtin.Str
variable {t : Str}
theorem up1 {k c : Nat} (h : c + 1 ≤ k) : ∃ k', k = k' + 1 ∧ c ≤ k' := ⟨k - 1, by omega, by omega⟩
theorem isat (hN : t.length ≤ 2000) {k : Nat} {i : Int} (hk : 1 ≤ k) (h0 : 0 ≤ i) (x : Str) : Φ k .is_at [.str t, .int i, .str x] = .ok (.sc (.bool (c1 t i == x))) := by
  have hZ : t.length ≤ sizeLine := by rw [sizeLine_eq]; omega
  obtain ⟨k, rfl, _⟩ := up1 hk
  show funR 3 0 (r_is_at (Φ k)) _ = _
  unfold r_is_at
  simp only [e_C, e_Nil, e_Bin, e_Neg, e_Len, e_Ord, e_Max, e_Find, e_Idx, e_Slc, e_Cmp, e_tCmp, e_K, e_tK, e_Of, e_Not, e_And, e_Or, e_xAnd, e_xOr, e_xNot, e_Ite, e_aNil, e_aCons, e_Tup, e_Call, e_Assign, e_Unp, e_Swap, e_Aug, e_If, e_Ret, e_Cont, e_sNil, e_Cons, e_Raise, b_ok, b_exc, b_ite, t_ok, t_exc, t_ite, a_next, a_cont, a_ret, a_exc, a_ite, r_raise, k_true, k_sc, k_scn, n_add, n_sub, n_mul, n_neg, n_max, n_aug, n_find, m_eqi, m_nei, m_lt, m_gt, m_ge, m_eqn, m_eqs, m_nes, m_in, m_nin, m_isn, m_isi, p_tup, p_lt, u_tup, u_lt, u_rev, w_cons, w_nil, g_get, g_lst, bl, List.length_cons, List.length_nil, List.map_cons, List.map_nil, List.replicate_succ, List.replicate_zero, List.cons_append, List.nil_append, List.append_nil, List.set_cons_zero, List.set_cons_succ, List.getElem?_cons_zero, List.getElem?_cons_succ, scOf, List.reverse_cons, List.reverse_nil, Nat.reduceAdd, Nat.reduceLeDiff, Nat.reduceEqDiff, Bool.false_eq_true, if_true, if_false, reduceIte, decide_eq_true_eq, beq_iff_eq, bne_iff_ne, ne_eq, Bool.not_true, Bool.not_false, l_sp, l_sp', l_spn, l_dot, l_dot', l_dotn, l_E, l_E', l_En, l_I, l_I', l_In, l_F, l_F', l_Fn, l_D, l_D', l_Dn, l_G, l_G', l_Gn, l_L, l_L', l_Ln, l_A, l_A', l_An, l_q, l_q', l_qn, l_P, l_P', l_Pn, l_mi, l_mi', l_min, l_pl, l_pl', l_pln, l_sl, l_sl', l_sln, l_co, l_co', l_con, l_S, l_S', l_Sn, l_N, l_N', l_Nn, l_Z, l_Z', l_Zn, l_B, l_B', l_Bn, l_R, l_R', l_Rn, l_T, l_T', l_Tn, l_X, l_X', l_Xn, l_H, l_H', l_Hn, l_lp, l_lp', l_lpn, l_cm, l_cm', l_cmn, l_rp, l_rp', l_rpn, f_ret, f_exc, f_ite, g_suc, f_call, Int.reduceLE, Int.reduceNeg, Int.reduceLT, Bool.and_true, Bool.true_and, Bool.and_false, Bool.false_and, Bool.or_true, Bool.true_or, Bool.or_false, Bool.false_or, Nat.reduceBEq, Nat.reduceBNe, beq_self_eq_true, bne_self_eq_false, decide_true, decide_false, not_true_eq_false, not_false_eq_true, Bool.not_eq_true', beq_eq_false_iff_ne, decide_eq_false_iff_not, e_Cmp, n_slc t i (i + 1) h0 rfl hZ]

theorem sized (hN : t.length ≤ 2000) (i low : Int) (h0 : 0 ≤ i) (h1 : i ≤ t.length) (hl : 0 ≤ low) : ∃ v h, i ≤ h ∧ h ≤ t.length ∧
    ((∃ f : Int, 0 ≤ f ∧ ∀ k, 3 ≤ k → Φ k .size_at [.str t, .int i, .int low] = .exc f ∧ Φ k .lawFigures [.str t, .int i, .int low] = .ok (.sc (.tup [.int v, .int h, .int f]))) ∨
     (low ≤ v ∧ v ≤ 9999 ∧ ∀ k, 3 ≤ k → Φ k .size_at [.str t, .int i, .int low] = .ok (.sc (.tup [.int v, .int h])) ∧ Φ k .lawFigures [.str t, .int i, .int low] = .ok (.sc (.tup [.int v, .int h, .int (-1)])))) := by
  obtain ⟨v, h, a1, a2, a3⟩ := figs hN i h0 h1
  refine ⟨v, h, a1, a2, ?_⟩
  rcases a3 with a3 | ⟨b1, b2, b3, a3⟩
  · refine .inl ⟨h, by omega, fun k hk => ?_⟩
    refine ⟨?_, (a3 k (by omega)).2 low⟩
    obtain ⟨k, rfl, hk⟩ := up1 (c := 2) hk
    obtain ⟨q1, q2⟩ := a3 k (by omega)
    show funR 3 2 (r_size_at (Φ k)) _ = _
    unfold r_size_at
    simp only [e_C, e_Nil, e_Bin, e_Neg, e_Len, e_Ord, e_Max, e_Find, e_Idx, e_Slc, e_Cmp, e_tCmp, e_K, e_tK, e_Of, e_Not, e_And, e_Or, e_xAnd, e_xOr, e_xNot, e_Ite, e_aNil, e_aCons, e_Tup, e_Call, e_Assign, e_Unp, e_Swap, e_Aug, e_If, e_Ret, e_Cont, e_sNil, e_Cons, e_Raise, b_ok, b_exc, b_ite, t_ok, t_exc, t_ite, a_next, a_cont, a_ret, a_exc, a_ite, r_raise, k_true, k_sc, k_scn, n_add, n_sub, n_mul, n_neg, n_max, n_aug, n_find, m_eqi, m_nei, m_lt, m_gt, m_ge, m_eqn, m_eqs, m_nes, m_in, m_nin, m_isn, m_isi, p_tup, p_lt, u_tup, u_lt, u_rev, w_cons, w_nil, g_get, g_lst, bl, List.length_cons, List.length_nil, List.map_cons, List.map_nil, List.replicate_succ, List.replicate_zero, List.cons_append, List.nil_append, List.append_nil, List.set_cons_zero, List.set_cons_succ, List.getElem?_cons_zero, List.getElem?_cons_succ, scOf, List.reverse_cons, List.reverse_nil, Nat.reduceAdd, Nat.reduceLeDiff, Nat.reduceEqDiff, Bool.false_eq_true, if_true, if_false, reduceIte, decide_eq_true_eq, beq_iff_eq, bne_iff_ne, ne_eq, Bool.not_true, Bool.not_false, l_sp, l_sp', l_spn, l_dot, l_dot', l_dotn, l_E, l_E', l_En, l_I, l_I', l_In, l_F, l_F', l_Fn, l_D, l_D', l_Dn, l_G, l_G', l_Gn, l_L, l_L', l_Ln, l_A, l_A', l_An, l_q, l_q', l_qn, l_P, l_P', l_Pn, l_mi, l_mi', l_min, l_pl, l_pl', l_pln, l_sl, l_sl', l_sln, l_co, l_co', l_con, l_S, l_S', l_Sn, l_N, l_N', l_Nn, l_Z, l_Z', l_Zn, l_B, l_B', l_Bn, l_R, l_R', l_Rn, l_T, l_T', l_Tn, l_X, l_X', l_Xn, l_H, l_H', l_Hn, l_lp, l_lp', l_lpn, l_cm, l_cm', l_cmn, l_rp, l_rp', l_rpn, f_ret, f_exc, f_ite, g_suc, f_call, Int.reduceLE, Int.reduceNeg, Int.reduceLT, Bool.and_true, Bool.true_and, Bool.and_false, Bool.false_and, Bool.or_true, Bool.true_or, Bool.or_false, Bool.false_or, Nat.reduceBEq, Nat.reduceBNe, beq_self_eq_true, bne_self_eq_false, decide_true, decide_false, not_true_eq_false, not_false_eq_true, Bool.not_eq_true', beq_eq_false_iff_ne, decide_eq_false_iff_not, q1]
  · by_cases hv : v < low
    · refine .inl ⟨h, by omega, fun k hk => ?_⟩
      refine ⟨?_, by have := (a3 k (by omega)).2 low; rwa [if_pos hv] at this⟩
      obtain ⟨k, rfl, hk⟩ := up1 (c := 2) hk
      obtain ⟨q1, q2⟩ := a3 k (by omega)
      show funR 3 2 (r_size_at (Φ k)) _ = _
      unfold r_size_at
      by_cases hv0 : v < 0 <;> simp only [e_C, e_Nil, e_Bin, e_Neg, e_Len, e_Ord, e_Max, e_Find, e_Idx, e_Slc, e_Cmp, e_tCmp, e_K, e_tK, e_Of, e_Not, e_And, e_Or, e_xAnd, e_xOr, e_xNot, e_Ite, e_aNil, e_aCons, e_Tup, e_Call, e_Assign, e_Unp, e_Swap, e_Aug, e_If, e_Ret, e_Cont, e_sNil, e_Cons, e_Raise, b_ok, b_exc, b_ite, t_ok, t_exc, t_ite, a_next, a_cont, a_ret, a_exc, a_ite, r_raise, k_true, k_sc, k_scn, n_add, n_sub, n_mul, n_neg, n_max, n_aug, n_find, m_eqi, m_nei, m_lt, m_gt, m_ge, m_eqn, m_eqs, m_nes, m_in, m_nin, m_isn, m_isi, p_tup, p_lt, u_tup, u_lt, u_rev, w_cons, w_nil, g_get, g_lst, bl, List.length_cons, List.length_nil, List.map_cons, List.map_nil, List.replicate_succ, List.replicate_zero, List.cons_append, List.nil_append, List.append_nil, List.set_cons_zero, List.set_cons_succ, List.getElem?_cons_zero, List.getElem?_cons_succ, scOf, List.reverse_cons, List.reverse_nil, Nat.reduceAdd, Nat.reduceLeDiff, Nat.reduceEqDiff, Bool.false_eq_true, if_true, if_false, reduceIte, decide_eq_true_eq, beq_iff_eq, bne_iff_ne, ne_eq, Bool.not_true, Bool.not_false, l_sp, l_sp', l_spn, l_dot, l_dot', l_dotn, l_E, l_E', l_En, l_I, l_I', l_In, l_F, l_F', l_Fn, l_D, l_D', l_Dn, l_G, l_G', l_Gn, l_L, l_L', l_Ln, l_A, l_A', l_An, l_q, l_q', l_qn, l_P, l_P', l_Pn, l_mi, l_mi', l_min, l_pl, l_pl', l_pln, l_sl, l_sl', l_sln, l_co, l_co', l_con, l_S, l_S', l_Sn, l_N, l_N', l_Nn, l_Z, l_Z', l_Zn, l_B, l_B', l_Bn, l_R, l_R', l_Rn, l_T, l_T', l_Tn, l_X, l_X', l_Xn, l_H, l_H', l_Hn, l_lp, l_lp', l_lpn, l_cm, l_cm', l_cmn, l_rp, l_rp', l_rpn, f_ret, f_exc, f_ite, g_suc, f_call, Int.reduceLE, Int.reduceNeg, Int.reduceLT, Bool.and_true, Bool.true_and, Bool.and_false, Bool.false_and, Bool.or_true, Bool.true_or, Bool.or_false, Bool.false_or, Nat.reduceBEq, Nat.reduceBNe, beq_self_eq_true, bne_self_eq_false, decide_true, decide_false, not_true_eq_false, not_false_eq_true, Bool.not_eq_true', beq_eq_false_iff_ne, decide_eq_false_iff_not, q1, vOf, hv0, hv]
    · refine .inr ⟨by omega, b2, fun k hk => ?_⟩
      refine ⟨?_, by have := (a3 k (by omega)).2 low; rwa [if_neg hv] at this⟩
      obtain ⟨k, rfl, hk⟩ := up1 (c := 2) hk
      obtain ⟨q1, q2⟩ := a3 k (by omega)
      show funR 3 2 (r_size_at (Φ k)) _ = _
      unfold r_size_at
      have hv0 : ¬ v < 0 := by omega
      simp only [e_C, e_Nil, e_Bin, e_Neg, e_Len, e_Ord, e_Max, e_Find, e_Idx, e_Slc, e_Cmp, e_tCmp, e_K, e_tK, e_Of, e_Not, e_And, e_Or, e_xAnd, e_xOr, e_xNot, e_Ite, e_aNil, e_aCons, e_Tup, e_Call, e_Assign, e_Unp, e_Swap, e_Aug, e_If, e_Ret, e_Cont, e_sNil, e_Cons, e_Raise, b_ok, b_exc, b_ite, t_ok, t_exc, t_ite, a_next, a_cont, a_ret, a_exc, a_ite, r_raise, k_true, k_sc, k_scn, n_add, n_sub, n_mul, n_neg, n_max, n_aug, n_find, m_eqi, m_nei, m_lt, m_gt, m_ge, m_eqn, m_eqs, m_nes, m_in, m_nin, m_isn, m_isi, p_tup, p_lt, u_tup, u_lt, u_rev, w_cons, w_nil, g_get, g_lst, bl, List.length_cons, List.length_nil, List.map_cons, List.map_nil, List.replicate_succ, List.replicate_zero, List.cons_append, List.nil_append, List.append_nil, List.set_cons_zero, List.set_cons_succ, List.getElem?_cons_zero, List.getElem?_cons_succ, scOf, List.reverse_cons, List.reverse_nil, Nat.reduceAdd, Nat.reduceLeDiff, Nat.reduceEqDiff, Bool.false_eq_true, if_true, if_false, reduceIte, decide_eq_true_eq, beq_iff_eq, bne_iff_ne, ne_eq, Bool.not_true, Bool.not_false, l_sp, l_sp', l_spn, l_dot, l_dot', l_dotn, l_E, l_E', l_En, l_I, l_I', l_In, l_F, l_F', l_Fn, l_D, l_D', l_Dn, l_G, l_G', l_Gn, l_L, l_L', l_Ln, l_A, l_A', l_An, l_q, l_q', l_qn, l_P, l_P', l_Pn, l_mi, l_mi', l_min, l_pl, l_pl', l_pln, l_sl, l_sl', l_sln, l_co, l_co', l_con, l_S, l_S', l_Sn, l_N, l_N', l_Nn, l_Z, l_Z', l_Zn, l_B, l_B', l_Bn, l_R, l_R', l_Rn, l_T, l_T', l_Tn, l_X, l_X', l_Xn, l_H, l_H', l_Hn, l_lp, l_lp', l_lpn, l_cm, l_cm', l_cmn, l_rp, l_rp', l_rpn, f_ret, f_exc, f_ite, g_suc, f_call, Int.reduceLE, Int.reduceNeg, Int.reduceLT, Bool.and_true, Bool.true_and, Bool.and_false, Bool.false_and, Bool.or_true, Bool.true_or, Bool.or_false, Bool.false_or, Nat.reduceBEq, Nat.reduceBNe, beq_self_eq_true, bne_self_eq_false, decide_true, decide_false, not_true_eq_false, not_false_eq_true, Bool.not_eq_true', beq_eq_false_iff_ne, decide_eq_false_iff_not, q1, vOf, hv0, hv]

noncomputable def isSl (x : Str) : Bool := [Str.ofString "/", Str.ofString ":"].any fun c => c == x
noncomputable def isF (x : Str) : Bool := [Str.ofString "F", Str.ofString "E", Str.ofString "D", Str.ofString "G"].any fun c => c == x
noncomputable def ValOk (it : Sc) (x : Str) : Prop := ∃ tag rest, it = .tup (.str tag :: rest) ∧ Txt.contains (Str.ofString "/:") tag = isSl x ∧ (tag == Str.ofString "P") = (x == Str.ofString "P") ∧ (tag == Str.ofString "repeat") = false ∧ Txt.contains (Str.ofString "FEDG") tag = isF x
noncomputable def ItemOk (it : Sc) (x : Str) : Prop := ValOk it x ∨ ∃ a v, it = .tup [.str (Str.ofString "repeat"), a, v] ∧ ValOk v x ∧ isSl x = false ∧ (x == Str.ofString "P") = false
noncomputable def Ag (R : Sc → Str → Prop) (t : Str) (i : Int) (B : Nat) (p l : Nat → Rs PV) : Prop :=
  (∃ n a h, 0 ≤ n ∧ ∀ k, B ≤ k → p k = .exc n ∧ l k = .ok (.sc (.tup [a, .int h, .int n]))) ∨
  (∃ it x h, R it x ∧ i < h ∧ h ≤ t.length ∧ ∀ k, B ≤ k → p k = .ok (.sc (.tup [it, .int h])) ∧ l k = .ok (.sc (.tup [.str x, .int h, .int (-1)])))

theorem valOk_self {i : Int} (h0 : 0 ≤ i) (h : i < t.length) (rest : List Sc) : ValOk (.tup (.str (c1 t i) :: rest)) (c1 t i) := by
  refine ⟨_, rest, rfl, ?_, rfl, ?_, ?_⟩
  · rw [h_slc t i h0 h]; simp only [isSl, List.any_cons, List.any_nil, Bool.or_false, l_sl', l_co']
  · rw [str_beq, c1_in (by omega)]
    rw [beq_eq_false_iff_ne]
    intro q
    have := congrArg Array.size q
    revert this
    rw [show (Str.ofString "repeat").cps.size = 6 by kernel_rfl]
    simp
  · rw [c1_has h0 h, show (Str.ofString "FEDG").cps.toList = [70, 69, 68, 71] by kernel_rfl]
    simp only [isF, List.any_cons, List.any_nil, Bool.or_false, l_F', l_E', l_D', l_G']
    exact Bool.eq_iff_iff.mpr (by simp only [decide_eq_true_eq, List.mem_cons, List.not_mem_nil, or_false, Bool.or_eq_true, beq_iff_eq, or_assoc])
theorem valOk_lit {tag x : Str} (rest : List Sc) (h : Txt.contains (Str.ofString "/:") tag = isSl x ∧ (tag == Str.ofString "P") = (x == Str.ofString "P") ∧ (tag == Str.ofString "repeat") = false ∧ Txt.contains (Str.ofString "FEDG") tag = isF x) : ValOk (.tup (.str tag :: rest)) x := ⟨_, _, rfl, h⟩
theorem c1_of {i : Int} {x : Str} {p : Nat} (hc : cd t i = p) (hx : x = ⟨#[p]⟩) (hp : p ≠ 1114112) : c1 t i = x := by
  have := c1_lit (t := t) (i := i) hx hp
  rw [hc, beq_self_eq_true] at this
  exact beq_iff_eq.mp this
end Mine

namespace Mine
open PySem PySem.W PyProof.Rows PySem.Calls PySem.SeqAt PySem.Builtin.Str
variable {t : Str}

theorem valued (hN : t.length ≤ 2000) (i : Int) (h0 : 0 ≤ i) (hi : i < t.length) (hL : cd t i = 73 ∨ cd t i = 76 ∨ cd t i = 65 ∨ (cd t i = 70 ∨ cd t i = 68) ∨ cd t i = 69 ∨ cd t i = 71) :
    Ag (fun it x => ValOk it x ∧ x = c1 t i) t i 6 (fun k => Φ k .value_edit [.str t, .int i]) (fun k => Φ k .lawValued [.str t, .int i]) := by
  have hZ : t.length ≤ sizeLine := by rw [sizeLine_eq]; omega
  have hW : ∀ k l, Φ (k + 5) .whole_edit l = funR 2 3 (r_whole_edit (Φ (k + 4))) l := fun _ _ => rfl
  have hR : ∀ k l, Φ (k + 5) .real_edit l = funR 3 4 (r_real_edit (Φ (k + 4))) l := fun _ _ => rfl
  have hP : ∀ k l, Φ (k + 4) .places_at l = funR 2 0 (r_places_at (Φ (k + 3))) l := fun _ _ => rfl
  have hX : ∀ k l, Φ (k + 4) .exponent_at l = funR 2 0 (r_exponent_at (Φ (k + 3))) l := fun _ _ => rfl
  have hV : ∀ k l, Φ (k + 6) .value_edit l = funR 2 3 (r_value_edit (Φ (k + 5))) l := fun _ _ => rfl
  have hLV : ∀ k l, Φ (k + 6) .lawValued l = funR 2 7 (r_lawValued (Φ (k + 5))) l := fun _ _ => rfl
  have six : ∀ {k : Nat}, 6 ≤ k → ∃ k', k = k' + 6 := fun {k} h => ⟨k - 6, by omega⟩
  rcases hL with hc | hc | hc | hc
  · -- I
    have hx : c1 t i = Str.ofString "I" := c1_of hc (by kernel_rfl) (by decide)
    have hok : ∀ rest, ValOk (.tup (.str (Str.ofString "I") :: rest)) (c1 t i) := fun rest => valOk_lit _ (by rw [hx]; exact ⟨by kernel_rfl, by kernel_rfl, by kernel_rfl, by kernel_rfl⟩)
    obtain ⟨v, h, a1, a2, a3⟩ := sized hN (i + 1) 1 (by omega) (by omega) (by omega)
    have hh : 0 ≤ h := by omega
    rcases a3 with ⟨f, f0, a3⟩ | ⟨v1, v2, a3⟩
    · refine .inl ⟨f, .str (c1 t i), h, f0, fun k hk => ?_⟩
      obtain ⟨k, rfl⟩ := six hk
      show Φ _ .value_edit _ = _ ∧ Φ _ .lawValued _ = _; rw [hV, hLV]; unfold r_value_edit r_lawValued
      simp only [e_C, e_Nil, e_Bin, e_Neg, e_Len, e_Ord, e_Max, e_Find, e_Idx, e_Slc, e_Cmp, e_tCmp, e_K, e_tK, e_Of, e_Not, e_And, e_Or, e_xAnd, e_xOr, e_xNot, e_Ite, e_aNil, e_aCons, e_Tup, e_Call, e_Assign, e_Unp, e_Swap, e_Aug, e_If, e_Ret, e_Cont, e_sNil, e_Cons, e_Raise, b_ok, b_exc, b_ite, t_ok, t_exc, t_ite, a_next, a_cont, a_ret, a_exc, a_ite, r_raise, k_true, k_sc, k_scn, n_add, n_sub, n_mul, n_neg, n_max, n_aug, n_find, m_eqi, m_nei, m_lt, m_gt, m_ge, m_eqn, m_eqs, m_nes, m_in, m_nin, m_isn, m_isi, p_tup, p_lt, u_tup, u_lt, u_rev, w_cons, w_nil, g_get, g_lst, bl, List.length_cons, List.length_nil, List.map_cons, List.map_nil, List.replicate_succ, List.replicate_zero, List.cons_append, List.nil_append, List.append_nil, List.set_cons_zero, List.set_cons_succ, List.getElem?_cons_zero, List.getElem?_cons_succ, scOf, List.reverse_cons, List.reverse_nil, Nat.reduceAdd, Nat.reduceLeDiff, Nat.reduceEqDiff, Bool.false_eq_true, if_true, if_false, reduceIte, decide_eq_true_eq, beq_iff_eq, bne_iff_ne, ne_eq, Bool.not_true, Bool.not_false, l_sp, l_sp', l_spn, l_dot, l_dot', l_dotn, l_E, l_E', l_En, l_I, l_I', l_In, l_F, l_F', l_Fn, l_D, l_D', l_Dn, l_G, l_G', l_Gn, l_L, l_L', l_Ln, l_A, l_A', l_An, l_q, l_q', l_qn, l_P, l_P', l_Pn, l_mi, l_mi', l_min, l_pl, l_pl', l_pln, l_sl, l_sl', l_sln, l_co, l_co', l_con, l_S, l_S', l_Sn, l_N, l_N', l_Nn, l_Z, l_Z', l_Zn, l_B, l_B', l_Bn, l_R, l_R', l_Rn, l_T, l_T', l_Tn, l_X, l_X', l_Xn, l_H, l_H', l_Hn, l_lp, l_lp', l_lpn, l_cm, l_cm', l_cmn, l_rp, l_rp', l_rpn, f_ret, f_exc, f_ite, g_suc, f_call, Int.reduceLE, Int.reduceNeg, Int.reduceLT, Bool.and_true, Bool.true_and, Bool.and_false, Bool.false_and, Bool.or_true, Bool.true_or, Bool.or_false, Bool.false_or, Nat.reduceBEq, Nat.reduceBNe, beq_self_eq_true, bne_self_eq_false, decide_true, decide_false, not_true_eq_false, not_false_eq_true, Bool.not_eq_true', beq_eq_false_iff_ne, decide_eq_false_iff_not, hW, r_whole_edit, n_idx t i h0 hi hZ, n_slc t h (h + 1) hh rfl hZ, hc, (a3 (k + 4) (by omega)).1, (a3 (k + 5) (by omega)).2, f0]
      trivial
    · by_cases hd : cd t h = 46
      · have hhN : h < t.length := by
          refine Decidable.byContradiction fun q => ?_
          rw [cd_out (by omega)] at hd; omega
        obtain ⟨w, j, b1, b2, b3⟩ := sized hN (h + 1) 0 (by omega) (by omega) (by omega)
        rcases b3 with ⟨f, f0, b3⟩ | ⟨w1, w2, b3⟩
        · refine .inl ⟨f, .str (c1 t i), j, f0, fun k hk => ?_⟩
          obtain ⟨k, rfl⟩ := six hk
          have hf1 : ¬ f < 0 := by omega
          show Φ _ .value_edit _ = _ ∧ Φ _ .lawValued _ = _; rw [hV, hLV]; unfold r_value_edit r_lawValued
          simp only [e_C, e_Nil, e_Bin, e_Neg, e_Len, e_Ord, e_Max, e_Find, e_Idx, e_Slc, e_Cmp, e_tCmp, e_K, e_tK, e_Of, e_Not, e_And, e_Or, e_xAnd, e_xOr, e_xNot, e_Ite, e_aNil, e_aCons, e_Tup, e_Call, e_Assign, e_Unp, e_Swap, e_Aug, e_If, e_Ret, e_Cont, e_sNil, e_Cons, e_Raise, b_ok, b_exc, b_ite, t_ok, t_exc, t_ite, a_next, a_cont, a_ret, a_exc, a_ite, r_raise, k_true, k_sc, k_scn, n_add, n_sub, n_mul, n_neg, n_max, n_aug, n_find, m_eqi, m_nei, m_lt, m_gt, m_ge, m_eqn, m_eqs, m_nes, m_in, m_nin, m_isn, m_isi, p_tup, p_lt, u_tup, u_lt, u_rev, w_cons, w_nil, g_get, g_lst, bl, List.length_cons, List.length_nil, List.map_cons, List.map_nil, List.replicate_succ, List.replicate_zero, List.cons_append, List.nil_append, List.append_nil, List.set_cons_zero, List.set_cons_succ, List.getElem?_cons_zero, List.getElem?_cons_succ, scOf, List.reverse_cons, List.reverse_nil, Nat.reduceAdd, Nat.reduceLeDiff, Nat.reduceEqDiff, Bool.false_eq_true, if_true, if_false, reduceIte, decide_eq_true_eq, beq_iff_eq, bne_iff_ne, ne_eq, Bool.not_true, Bool.not_false, l_sp, l_sp', l_spn, l_dot, l_dot', l_dotn, l_E, l_E', l_En, l_I, l_I', l_In, l_F, l_F', l_Fn, l_D, l_D', l_Dn, l_G, l_G', l_Gn, l_L, l_L', l_Ln, l_A, l_A', l_An, l_q, l_q', l_qn, l_P, l_P', l_Pn, l_mi, l_mi', l_min, l_pl, l_pl', l_pln, l_sl, l_sl', l_sln, l_co, l_co', l_con, l_S, l_S', l_Sn, l_N, l_N', l_Nn, l_Z, l_Z', l_Zn, l_B, l_B', l_Bn, l_R, l_R', l_Rn, l_T, l_T', l_Tn, l_X, l_X', l_Xn, l_H, l_H', l_Hn, l_lp, l_lp', l_lpn, l_cm, l_cm', l_cmn, l_rp, l_rp', l_rpn, f_ret, f_exc, f_ite, g_suc, f_call, Int.reduceLE, Int.reduceNeg, Int.reduceLT, Bool.and_true, Bool.true_and, Bool.and_false, Bool.false_and, Bool.or_true, Bool.true_or, Bool.or_false, Bool.false_or, Nat.reduceBEq, Nat.reduceBNe, beq_self_eq_true, bne_self_eq_false, decide_true, decide_false, not_true_eq_false, not_false_eq_true, Bool.not_eq_true', beq_eq_false_iff_ne, decide_eq_false_iff_not, hW, r_whole_edit, n_idx t i h0 hi hZ, n_slc t h (h + 1) hh rfl hZ, hc, (a3 (k + 4) (by omega)).1, (a3 (k + 5) (by omega)).2, f0, hf1, isat hN (k := k + 4) (by omega) hh, hd, (b3 (k + 4) (by omega)).1, (b3 (k + 5) (by omega)).2]
          trivial
        · by_cases hw : v < w
          · refine .inl ⟨j, .str (c1 t i), j, by omega, fun k hk => ?_⟩
            obtain ⟨k, rfl⟩ := six hk
            show Φ _ .value_edit _ = _ ∧ Φ _ .lawValued _ = _; rw [hV, hLV]; unfold r_value_edit r_lawValued
            simp only [e_C, e_Nil, e_Bin, e_Neg, e_Len, e_Ord, e_Max, e_Find, e_Idx, e_Slc, e_Cmp, e_tCmp, e_K, e_tK, e_Of, e_Not, e_And, e_Or, e_xAnd, e_xOr, e_xNot, e_Ite, e_aNil, e_aCons, e_Tup, e_Call, e_Assign, e_Unp, e_Swap, e_Aug, e_If, e_Ret, e_Cont, e_sNil, e_Cons, e_Raise, b_ok, b_exc, b_ite, t_ok, t_exc, t_ite, a_next, a_cont, a_ret, a_exc, a_ite, r_raise, k_true, k_sc, k_scn, n_add, n_sub, n_mul, n_neg, n_max, n_aug, n_find, m_eqi, m_nei, m_lt, m_gt, m_ge, m_eqn, m_eqs, m_nes, m_in, m_nin, m_isn, m_isi, p_tup, p_lt, u_tup, u_lt, u_rev, w_cons, w_nil, g_get, g_lst, bl, List.length_cons, List.length_nil, List.map_cons, List.map_nil, List.replicate_succ, List.replicate_zero, List.cons_append, List.nil_append, List.append_nil, List.set_cons_zero, List.set_cons_succ, List.getElem?_cons_zero, List.getElem?_cons_succ, scOf, List.reverse_cons, List.reverse_nil, Nat.reduceAdd, Nat.reduceLeDiff, Nat.reduceEqDiff, Bool.false_eq_true, if_true, if_false, reduceIte, decide_eq_true_eq, beq_iff_eq, bne_iff_ne, ne_eq, Bool.not_true, Bool.not_false, l_sp, l_sp', l_spn, l_dot, l_dot', l_dotn, l_E, l_E', l_En, l_I, l_I', l_In, l_F, l_F', l_Fn, l_D, l_D', l_Dn, l_G, l_G', l_Gn, l_L, l_L', l_Ln, l_A, l_A', l_An, l_q, l_q', l_qn, l_P, l_P', l_Pn, l_mi, l_mi', l_min, l_pl, l_pl', l_pln, l_sl, l_sl', l_sln, l_co, l_co', l_con, l_S, l_S', l_Sn, l_N, l_N', l_Nn, l_Z, l_Z', l_Zn, l_B, l_B', l_Bn, l_R, l_R', l_Rn, l_T, l_T', l_Tn, l_X, l_X', l_Xn, l_H, l_H', l_Hn, l_lp, l_lp', l_lpn, l_cm, l_cm', l_cmn, l_rp, l_rp', l_rpn, f_ret, f_exc, f_ite, g_suc, f_call, Int.reduceLE, Int.reduceNeg, Int.reduceLT, Bool.and_true, Bool.true_and, Bool.and_false, Bool.false_and, Bool.or_true, Bool.true_or, Bool.or_false, Bool.false_or, Nat.reduceBEq, Nat.reduceBNe, beq_self_eq_true, bne_self_eq_false, decide_true, decide_false, not_true_eq_false, not_false_eq_true, Bool.not_eq_true', beq_eq_false_iff_ne, decide_eq_false_iff_not, hW, r_whole_edit, n_idx t i h0 hi hZ, n_slc t h (h + 1) hh rfl hZ, hc, (a3 (k + 4) (by omega)).1, (a3 (k + 5) (by omega)).2, isat hN (k := k + 4) (by omega) hh, hd, (b3 (k + 4) (by omega)).1, (b3 (k + 5) (by omega)).2, hw]
            trivial
          · refine .inr ⟨.tup [.str (Str.ofString "I"), .int v, .int w], c1 t i, j, ⟨hok _, rfl⟩, by omega, b2, fun k hk => ?_⟩
            obtain ⟨k, rfl⟩ := six hk
            have hEG : Txt.contains (Str.ofString "EG") (c1 t i) = false := by rw [hx]; kernel_rfl
            show Φ _ .value_edit _ = _ ∧ Φ _ .lawValued _ = _; rw [hV, hLV]; unfold r_value_edit r_lawValued
            simp only [e_C, e_Nil, e_Bin, e_Neg, e_Len, e_Ord, e_Max, e_Find, e_Idx, e_Slc, e_Cmp, e_tCmp, e_K, e_tK, e_Of, e_Not, e_And, e_Or, e_xAnd, e_xOr, e_xNot, e_Ite, e_aNil, e_aCons, e_Tup, e_Call, e_Assign, e_Unp, e_Swap, e_Aug, e_If, e_Ret, e_Cont, e_sNil, e_Cons, e_Raise, b_ok, b_exc, b_ite, t_ok, t_exc, t_ite, a_next, a_cont, a_ret, a_exc, a_ite, r_raise, k_true, k_sc, k_scn, n_add, n_sub, n_mul, n_neg, n_max, n_aug, n_find, m_eqi, m_nei, m_lt, m_gt, m_ge, m_eqn, m_eqs, m_nes, m_in, m_nin, m_isn, m_isi, p_tup, p_lt, u_tup, u_lt, u_rev, w_cons, w_nil, g_get, g_lst, bl, List.length_cons, List.length_nil, List.map_cons, List.map_nil, List.replicate_succ, List.replicate_zero, List.cons_append, List.nil_append, List.append_nil, List.set_cons_zero, List.set_cons_succ, List.getElem?_cons_zero, List.getElem?_cons_succ, scOf, List.reverse_cons, List.reverse_nil, Nat.reduceAdd, Nat.reduceLeDiff, Nat.reduceEqDiff, Bool.false_eq_true, if_true, if_false, reduceIte, decide_eq_true_eq, beq_iff_eq, bne_iff_ne, ne_eq, Bool.not_true, Bool.not_false, l_sp, l_sp', l_spn, l_dot, l_dot', l_dotn, l_E, l_E', l_En, l_I, l_I', l_In, l_F, l_F', l_Fn, l_D, l_D', l_Dn, l_G, l_G', l_Gn, l_L, l_L', l_Ln, l_A, l_A', l_An, l_q, l_q', l_qn, l_P, l_P', l_Pn, l_mi, l_mi', l_min, l_pl, l_pl', l_pln, l_sl, l_sl', l_sln, l_co, l_co', l_con, l_S, l_S', l_Sn, l_N, l_N', l_Nn, l_Z, l_Z', l_Zn, l_B, l_B', l_Bn, l_R, l_R', l_Rn, l_T, l_T', l_Tn, l_X, l_X', l_Xn, l_H, l_H', l_Hn, l_lp, l_lp', l_lpn, l_cm, l_cm', l_cmn, l_rp, l_rp', l_rpn, f_ret, f_exc, f_ite, g_suc, f_call, Int.reduceLE, Int.reduceNeg, Int.reduceLT, Bool.and_true, Bool.true_and, Bool.and_false, Bool.false_and, Bool.or_true, Bool.true_or, Bool.or_false, Bool.false_or, Nat.reduceBEq, Nat.reduceBNe, beq_self_eq_true, bne_self_eq_false, decide_true, decide_false, not_true_eq_false, not_false_eq_true, Bool.not_eq_true', beq_eq_false_iff_ne, decide_eq_false_iff_not, hW, r_whole_edit, n_idx t i h0 hi hZ, n_slc t h (h + 1) hh rfl hZ, hc, (a3 (k + 4) (by omega)).1, (a3 (k + 5) (by omega)).2, isat hN (k := k + 4) (by omega) hh, hd, (b3 (k + 4) (by omega)).1, (b3 (k + 5) (by omega)).2, hw, hEG]
            trivial
      · refine .inr ⟨.tup [.str (Str.ofString "I"), .int v, .none], c1 t i, h, ⟨hok _, rfl⟩, by omega, a2, fun k hk => ?_⟩
        obtain ⟨k, rfl⟩ := six hk
        show Φ _ .value_edit _ = _ ∧ Φ _ .lawValued _ = _; rw [hV, hLV]; unfold r_value_edit r_lawValued
        simp only [e_C, e_Nil, e_Bin, e_Neg, e_Len, e_Ord, e_Max, e_Find, e_Idx, e_Slc, e_Cmp, e_tCmp, e_K, e_tK, e_Of, e_Not, e_And, e_Or, e_xAnd, e_xOr, e_xNot, e_Ite, e_aNil, e_aCons, e_Tup, e_Call, e_Assign, e_Unp, e_Swap, e_Aug, e_If, e_Ret, e_Cont, e_sNil, e_Cons, e_Raise, b_ok, b_exc, b_ite, t_ok, t_exc, t_ite, a_next, a_cont, a_ret, a_exc, a_ite, r_raise, k_true, k_sc, k_scn, n_add, n_sub, n_mul, n_neg, n_max, n_aug, n_find, m_eqi, m_nei, m_lt, m_gt, m_ge, m_eqn, m_eqs, m_nes, m_in, m_nin, m_isn, m_isi, p_tup, p_lt, u_tup, u_lt, u_rev, w_cons, w_nil, g_get, g_lst, bl, List.length_cons, List.length_nil, List.map_cons, List.map_nil, List.replicate_succ, List.replicate_zero, List.cons_append, List.nil_append, List.append_nil, List.set_cons_zero, List.set_cons_succ, List.getElem?_cons_zero, List.getElem?_cons_succ, scOf, List.reverse_cons, List.reverse_nil, Nat.reduceAdd, Nat.reduceLeDiff, Nat.reduceEqDiff, Bool.false_eq_true, if_true, if_false, reduceIte, decide_eq_true_eq, beq_iff_eq, bne_iff_ne, ne_eq, Bool.not_true, Bool.not_false, l_sp, l_sp', l_spn, l_dot, l_dot', l_dotn, l_E, l_E', l_En, l_I, l_I', l_In, l_F, l_F', l_Fn, l_D, l_D', l_Dn, l_G, l_G', l_Gn, l_L, l_L', l_Ln, l_A, l_A', l_An, l_q, l_q', l_qn, l_P, l_P', l_Pn, l_mi, l_mi', l_min, l_pl, l_pl', l_pln, l_sl, l_sl', l_sln, l_co, l_co', l_con, l_S, l_S', l_Sn, l_N, l_N', l_Nn, l_Z, l_Z', l_Zn, l_B, l_B', l_Bn, l_R, l_R', l_Rn, l_T, l_T', l_Tn, l_X, l_X', l_Xn, l_H, l_H', l_Hn, l_lp, l_lp', l_lpn, l_cm, l_cm', l_cmn, l_rp, l_rp', l_rpn, f_ret, f_exc, f_ite, g_suc, f_call, Int.reduceLE, Int.reduceNeg, Int.reduceLT, Bool.and_true, Bool.true_and, Bool.and_false, Bool.false_and, Bool.or_true, Bool.true_or, Bool.or_false, Bool.false_or, Nat.reduceBEq, Nat.reduceBNe, beq_self_eq_true, bne_self_eq_false, decide_true, decide_false, not_true_eq_false, not_false_eq_true, Bool.not_eq_true', beq_eq_false_iff_ne, decide_eq_false_iff_not, hW, r_whole_edit, n_idx t i h0 hi hZ, n_slc t h (h + 1) hh rfl hZ, hc, (a3 (k + 4) (by omega)).1, (a3 (k + 5) (by omega)).2, isat hN (k := k + 4) (by omega) hh, hd]
        trivial
  · -- L
    have hx : c1 t i = Str.ofString "L" := c1_of hc (by kernel_rfl) (by decide)
    have hok : ∀ rest, ValOk (.tup (.str (Str.ofString "L") :: rest)) (c1 t i) := fun rest => valOk_lit _ (by rw [hx]; exact ⟨by kernel_rfl, by kernel_rfl, by kernel_rfl, by kernel_rfl⟩)
    obtain ⟨v, h, a1, a2, a3⟩ := sized hN (i + 1) 1 (by omega) (by omega) (by omega)
    rcases a3 with ⟨f, f0, a3⟩ | ⟨v1, v2, a3⟩
    · refine .inl ⟨f, .str (c1 t i), h, f0, fun k hk => ?_⟩
      obtain ⟨k, rfl⟩ := six hk
      show Φ _ .value_edit _ = _ ∧ Φ _ .lawValued _ = _; rw [hV, hLV]; unfold r_value_edit r_lawValued
      simp only [e_C, e_Nil, e_Bin, e_Neg, e_Len, e_Ord, e_Max, e_Find, e_Idx, e_Slc, e_Cmp, e_tCmp, e_K, e_tK, e_Of, e_Not, e_And, e_Or, e_xAnd, e_xOr, e_xNot, e_Ite, e_aNil, e_aCons, e_Tup, e_Call, e_Assign, e_Unp, e_Swap, e_Aug, e_If, e_Ret, e_Cont, e_sNil, e_Cons, e_Raise, b_ok, b_exc, b_ite, t_ok, t_exc, t_ite, a_next, a_cont, a_ret, a_exc, a_ite, r_raise, k_true, k_sc, k_scn, n_add, n_sub, n_mul, n_neg, n_max, n_aug, n_find, m_eqi, m_nei, m_lt, m_gt, m_ge, m_eqn, m_eqs, m_nes, m_in, m_nin, m_isn, m_isi, p_tup, p_lt, u_tup, u_lt, u_rev, w_cons, w_nil, g_get, g_lst, bl, List.length_cons, List.length_nil, List.map_cons, List.map_nil, List.replicate_succ, List.replicate_zero, List.cons_append, List.nil_append, List.append_nil, List.set_cons_zero, List.set_cons_succ, List.getElem?_cons_zero, List.getElem?_cons_succ, scOf, List.reverse_cons, List.reverse_nil, Nat.reduceAdd, Nat.reduceLeDiff, Nat.reduceEqDiff, Bool.false_eq_true, if_true, if_false, reduceIte, decide_eq_true_eq, beq_iff_eq, bne_iff_ne, ne_eq, Bool.not_true, Bool.not_false, l_sp, l_sp', l_spn, l_dot, l_dot', l_dotn, l_E, l_E', l_En, l_I, l_I', l_In, l_F, l_F', l_Fn, l_D, l_D', l_Dn, l_G, l_G', l_Gn, l_L, l_L', l_Ln, l_A, l_A', l_An, l_q, l_q', l_qn, l_P, l_P', l_Pn, l_mi, l_mi', l_min, l_pl, l_pl', l_pln, l_sl, l_sl', l_sln, l_co, l_co', l_con, l_S, l_S', l_Sn, l_N, l_N', l_Nn, l_Z, l_Z', l_Zn, l_B, l_B', l_Bn, l_R, l_R', l_Rn, l_T, l_T', l_Tn, l_X, l_X', l_Xn, l_H, l_H', l_Hn, l_lp, l_lp', l_lpn, l_cm, l_cm', l_cmn, l_rp, l_rp', l_rpn, f_ret, f_exc, f_ite, g_suc, f_call, Int.reduceLE, Int.reduceNeg, Int.reduceLT, Bool.and_true, Bool.true_and, Bool.and_false, Bool.false_and, Bool.or_true, Bool.true_or, Bool.or_false, Bool.false_or, Nat.reduceBEq, Nat.reduceBNe, beq_self_eq_true, bne_self_eq_false, decide_true, decide_false, not_true_eq_false, not_false_eq_true, Bool.not_eq_true', beq_eq_false_iff_ne, decide_eq_false_iff_not, n_idx t i h0 hi hZ, hc, (a3 (k + 5) (by omega)).1, (a3 (k + 5) (by omega)).2, f0]
      trivial
    · refine .inr ⟨.tup [.str (Str.ofString "L"), .int v], c1 t i, h, ⟨hok _, rfl⟩, by omega, a2, fun k hk => ?_⟩
      obtain ⟨k, rfl⟩ := six hk
      show Φ _ .value_edit _ = _ ∧ Φ _ .lawValued _ = _; rw [hV, hLV]; unfold r_value_edit r_lawValued
      simp only [e_C, e_Nil, e_Bin, e_Neg, e_Len, e_Ord, e_Max, e_Find, e_Idx, e_Slc, e_Cmp, e_tCmp, e_K, e_tK, e_Of, e_Not, e_And, e_Or, e_xAnd, e_xOr, e_xNot, e_Ite, e_aNil, e_aCons, e_Tup, e_Call, e_Assign, e_Unp, e_Swap, e_Aug, e_If, e_Ret, e_Cont, e_sNil, e_Cons, e_Raise, b_ok, b_exc, b_ite, t_ok, t_exc, t_ite, a_next, a_cont, a_ret, a_exc, a_ite, r_raise, k_true, k_sc, k_scn, n_add, n_sub, n_mul, n_neg, n_max, n_aug, n_find, m_eqi, m_nei, m_lt, m_gt, m_ge, m_eqn, m_eqs, m_nes, m_in, m_nin, m_isn, m_isi, p_tup, p_lt, u_tup, u_lt, u_rev, w_cons, w_nil, g_get, g_lst, bl, List.length_cons, List.length_nil, List.map_cons, List.map_nil, List.replicate_succ, List.replicate_zero, List.cons_append, List.nil_append, List.append_nil, List.set_cons_zero, List.set_cons_succ, List.getElem?_cons_zero, List.getElem?_cons_succ, scOf, List.reverse_cons, List.reverse_nil, Nat.reduceAdd, Nat.reduceLeDiff, Nat.reduceEqDiff, Bool.false_eq_true, if_true, if_false, reduceIte, decide_eq_true_eq, beq_iff_eq, bne_iff_ne, ne_eq, Bool.not_true, Bool.not_false, l_sp, l_sp', l_spn, l_dot, l_dot', l_dotn, l_E, l_E', l_En, l_I, l_I', l_In, l_F, l_F', l_Fn, l_D, l_D', l_Dn, l_G, l_G', l_Gn, l_L, l_L', l_Ln, l_A, l_A', l_An, l_q, l_q', l_qn, l_P, l_P', l_Pn, l_mi, l_mi', l_min, l_pl, l_pl', l_pln, l_sl, l_sl', l_sln, l_co, l_co', l_con, l_S, l_S', l_Sn, l_N, l_N', l_Nn, l_Z, l_Z', l_Zn, l_B, l_B', l_Bn, l_R, l_R', l_Rn, l_T, l_T', l_Tn, l_X, l_X', l_Xn, l_H, l_H', l_Hn, l_lp, l_lp', l_lpn, l_cm, l_cm', l_cmn, l_rp, l_rp', l_rpn, f_ret, f_exc, f_ite, g_suc, f_call, Int.reduceLE, Int.reduceNeg, Int.reduceLT, Bool.and_true, Bool.true_and, Bool.and_false, Bool.false_and, Bool.or_true, Bool.true_or, Bool.or_false, Bool.false_or, Nat.reduceBEq, Nat.reduceBNe, beq_self_eq_true, bne_self_eq_false, decide_true, decide_false, not_true_eq_false, not_false_eq_true, Bool.not_eq_true', beq_eq_false_iff_ne, decide_eq_false_iff_not, n_idx t i h0 hi hZ, hc, (a3 (k + 5) (by omega)).1, (a3 (k + 5) (by omega)).2]
      trivial
  · -- A
    have hx : c1 t i = Str.ofString "A" := c1_of hc (by kernel_rfl) (by decide)
    have hok : ∀ rest, ValOk (.tup (.str (Str.ofString "A") :: rest)) (c1 t i) := fun rest => valOk_lit _ (by rw [hx]; exact ⟨by kernel_rfl, by kernel_rfl, by kernel_rfl, by kernel_rfl⟩)
    obtain ⟨v, h, a1, a2, a3⟩ := figs hN (i + 1) (by omega) (by omega)
    rcases a3 with a3 | ⟨b1, b2, b3, a3⟩
    · refine .inl ⟨h, .str (c1 t i), h, by omega, fun k hk => ?_⟩
      obtain ⟨k, rfl⟩ := six hk
      have hq : ¬ h < 0 := by omega
      show Φ _ .value_edit _ = _ ∧ Φ _ .lawValued _ = _; rw [hV, hLV]; unfold r_value_edit r_lawValued
      by_cases hv : v = 0 <;> simp only [e_C, e_Nil, e_Bin, e_Neg, e_Len, e_Ord, e_Max, e_Find, e_Idx, e_Slc, e_Cmp, e_tCmp, e_K, e_tK, e_Of, e_Not, e_And, e_Or, e_xAnd, e_xOr, e_xNot, e_Ite, e_aNil, e_aCons, e_Tup, e_Call, e_Assign, e_Unp, e_Swap, e_Aug, e_If, e_Ret, e_Cont, e_sNil, e_Cons, e_Raise, b_ok, b_exc, b_ite, t_ok, t_exc, t_ite, a_next, a_cont, a_ret, a_exc, a_ite, r_raise, k_true, k_sc, k_scn, n_add, n_sub, n_mul, n_neg, n_max, n_aug, n_find, m_eqi, m_nei, m_lt, m_gt, m_ge, m_eqn, m_eqs, m_nes, m_in, m_nin, m_isn, m_isi, p_tup, p_lt, u_tup, u_lt, u_rev, w_cons, w_nil, g_get, g_lst, bl, List.length_cons, List.length_nil, List.map_cons, List.map_nil, List.replicate_succ, List.replicate_zero, List.cons_append, List.nil_append, List.append_nil, List.set_cons_zero, List.set_cons_succ, List.getElem?_cons_zero, List.getElem?_cons_succ, scOf, List.reverse_cons, List.reverse_nil, Nat.reduceAdd, Nat.reduceLeDiff, Nat.reduceEqDiff, Bool.false_eq_true, if_true, if_false, reduceIte, decide_eq_true_eq, beq_iff_eq, bne_iff_ne, ne_eq, Bool.not_true, Bool.not_false, l_sp, l_sp', l_spn, l_dot, l_dot', l_dotn, l_E, l_E', l_En, l_I, l_I', l_In, l_F, l_F', l_Fn, l_D, l_D', l_Dn, l_G, l_G', l_Gn, l_L, l_L', l_Ln, l_A, l_A', l_An, l_q, l_q', l_qn, l_P, l_P', l_Pn, l_mi, l_mi', l_min, l_pl, l_pl', l_pln, l_sl, l_sl', l_sln, l_co, l_co', l_con, l_S, l_S', l_Sn, l_N, l_N', l_Nn, l_Z, l_Z', l_Zn, l_B, l_B', l_Bn, l_R, l_R', l_Rn, l_T, l_T', l_Tn, l_X, l_X', l_Xn, l_H, l_H', l_Hn, l_lp, l_lp', l_lpn, l_cm, l_cm', l_cmn, l_rp, l_rp', l_rpn, f_ret, f_exc, f_ite, g_suc, f_call, Int.reduceLE, Int.reduceNeg, Int.reduceLT, Bool.and_true, Bool.true_and, Bool.and_false, Bool.false_and, Bool.or_true, Bool.true_or, Bool.or_false, Bool.false_or, Nat.reduceBEq, Nat.reduceBNe, beq_self_eq_true, bne_self_eq_false, decide_true, decide_false, not_true_eq_false, not_false_eq_true, Bool.not_eq_true', beq_eq_false_iff_ne, decide_eq_false_iff_not, n_idx t i h0 hi hZ, hc, (a3 (k + 5) (by omega)).1, (a3 (k + 5) (by omega)).2, hv, hq] <;> trivial
    · have hvm : ¬ v < -1 := by omega
      by_cases hv : v = 0
      · refine .inl ⟨h, .str (c1 t i), h, by omega, fun k hk => ?_⟩
        obtain ⟨k, rfl⟩ := six hk
        subst hv
        show Φ _ .value_edit _ = _ ∧ Φ _ .lawValued _ = _; rw [hV, hLV]; unfold r_value_edit r_lawValued
        simp only [e_C, e_Nil, e_Bin, e_Neg, e_Len, e_Ord, e_Max, e_Find, e_Idx, e_Slc, e_Cmp, e_tCmp, e_K, e_tK, e_Of, e_Not, e_And, e_Or, e_xAnd, e_xOr, e_xNot, e_Ite, e_aNil, e_aCons, e_Tup, e_Call, e_Assign, e_Unp, e_Swap, e_Aug, e_If, e_Ret, e_Cont, e_sNil, e_Cons, e_Raise, b_ok, b_exc, b_ite, t_ok, t_exc, t_ite, a_next, a_cont, a_ret, a_exc, a_ite, r_raise, k_true, k_sc, k_scn, n_add, n_sub, n_mul, n_neg, n_max, n_aug, n_find, m_eqi, m_nei, m_lt, m_gt, m_ge, m_eqn, m_eqs, m_nes, m_in, m_nin, m_isn, m_isi, p_tup, p_lt, u_tup, u_lt, u_rev, w_cons, w_nil, g_get, g_lst, bl, List.length_cons, List.length_nil, List.map_cons, List.map_nil, List.replicate_succ, List.replicate_zero, List.cons_append, List.nil_append, List.append_nil, List.set_cons_zero, List.set_cons_succ, List.getElem?_cons_zero, List.getElem?_cons_succ, scOf, List.reverse_cons, List.reverse_nil, Nat.reduceAdd, Nat.reduceLeDiff, Nat.reduceEqDiff, Bool.false_eq_true, if_true, if_false, reduceIte, decide_eq_true_eq, beq_iff_eq, bne_iff_ne, ne_eq, Bool.not_true, Bool.not_false, l_sp, l_sp', l_spn, l_dot, l_dot', l_dotn, l_E, l_E', l_En, l_I, l_I', l_In, l_F, l_F', l_Fn, l_D, l_D', l_Dn, l_G, l_G', l_Gn, l_L, l_L', l_Ln, l_A, l_A', l_An, l_q, l_q', l_qn, l_P, l_P', l_Pn, l_mi, l_mi', l_min, l_pl, l_pl', l_pln, l_sl, l_sl', l_sln, l_co, l_co', l_con, l_S, l_S', l_Sn, l_N, l_N', l_Nn, l_Z, l_Z', l_Zn, l_B, l_B', l_Bn, l_R, l_R', l_Rn, l_T, l_T', l_Tn, l_X, l_X', l_Xn, l_H, l_H', l_Hn, l_lp, l_lp', l_lpn, l_cm, l_cm', l_cmn, l_rp, l_rp', l_rpn, f_ret, f_exc, f_ite, g_suc, f_call, Int.reduceLE, Int.reduceNeg, Int.reduceLT, Bool.and_true, Bool.true_and, Bool.and_false, Bool.false_and, Bool.or_true, Bool.true_or, Bool.or_false, Bool.false_or, Nat.reduceBEq, Nat.reduceBNe, beq_self_eq_true, bne_self_eq_false, decide_true, decide_false, not_true_eq_false, not_false_eq_true, Bool.not_eq_true', beq_eq_false_iff_ne, decide_eq_false_iff_not, vOf, n_idx t i h0 hi hZ, hc, (a3 (k + 5) (by omega)).1, (a3 (k + 5) (by omega)).2]
        trivial
      · refine .inr ⟨.tup [.str (Str.ofString "A"), vOf v], c1 t i, h, ⟨hok _, rfl⟩, by omega, a2, fun k hk => ?_⟩
        obtain ⟨k, rfl⟩ := six hk
        show Φ _ .value_edit _ = _ ∧ Φ _ .lawValued _ = _; rw [hV, hLV]; unfold r_value_edit r_lawValued
        by_cases hv0 : v < 0 <;> simp only [e_C, e_Nil, e_Bin, e_Neg, e_Len, e_Ord, e_Max, e_Find, e_Idx, e_Slc, e_Cmp, e_tCmp, e_K, e_tK, e_Of, e_Not, e_And, e_Or, e_xAnd, e_xOr, e_xNot, e_Ite, e_aNil, e_aCons, e_Tup, e_Call, e_Assign, e_Unp, e_Swap, e_Aug, e_If, e_Ret, e_Cont, e_sNil, e_Cons, e_Raise, b_ok, b_exc, b_ite, t_ok, t_exc, t_ite, a_next, a_cont, a_ret, a_exc, a_ite, r_raise, k_true, k_sc, k_scn, n_add, n_sub, n_mul, n_neg, n_max, n_aug, n_find, m_eqi, m_nei, m_lt, m_gt, m_ge, m_eqn, m_eqs, m_nes, m_in, m_nin, m_isn, m_isi, p_tup, p_lt, u_tup, u_lt, u_rev, w_cons, w_nil, g_get, g_lst, bl, List.length_cons, List.length_nil, List.map_cons, List.map_nil, List.replicate_succ, List.replicate_zero, List.cons_append, List.nil_append, List.append_nil, List.set_cons_zero, List.set_cons_succ, List.getElem?_cons_zero, List.getElem?_cons_succ, scOf, List.reverse_cons, List.reverse_nil, Nat.reduceAdd, Nat.reduceLeDiff, Nat.reduceEqDiff, Bool.false_eq_true, if_true, if_false, reduceIte, decide_eq_true_eq, beq_iff_eq, bne_iff_ne, ne_eq, Bool.not_true, Bool.not_false, l_sp, l_sp', l_spn, l_dot, l_dot', l_dotn, l_E, l_E', l_En, l_I, l_I', l_In, l_F, l_F', l_Fn, l_D, l_D', l_Dn, l_G, l_G', l_Gn, l_L, l_L', l_Ln, l_A, l_A', l_An, l_q, l_q', l_qn, l_P, l_P', l_Pn, l_mi, l_mi', l_min, l_pl, l_pl', l_pln, l_sl, l_sl', l_sln, l_co, l_co', l_con, l_S, l_S', l_Sn, l_N, l_N', l_Nn, l_Z, l_Z', l_Zn, l_B, l_B', l_Bn, l_R, l_R', l_Rn, l_T, l_T', l_Tn, l_X, l_X', l_Xn, l_H, l_H', l_Hn, l_lp, l_lp', l_lpn, l_cm, l_cm', l_cmn, l_rp, l_rp', l_rpn, f_ret, f_exc, f_ite, g_suc, f_call, Int.reduceLE, Int.reduceNeg, Int.reduceLT, Bool.and_true, Bool.true_and, Bool.and_false, Bool.false_and, Bool.or_true, Bool.true_or, Bool.or_false, Bool.false_or, Nat.reduceBEq, Nat.reduceBNe, beq_self_eq_true, bne_self_eq_false, decide_true, decide_false, not_true_eq_false, not_false_eq_true, Bool.not_eq_true', beq_eq_false_iff_ne, decide_eq_false_iff_not, vOf, n_idx t i h0 hi hZ, hc, (a3 (k + 5) (by omega)).1, (a3 (k + 5) (by omega)).2, hv, hv0, hvm] <;> trivial
  · -- F, D, E, G
    have hok := valOk_self (t := t) h0 hi
    have hEG : Txt.contains (Str.ofString "EG") (c1 t i) = (cd t i == 69 || cd t i == 71) := h_EG t i h0 hi
    obtain ⟨v, h, a1, a2, a3⟩ := sized hN (i + 1) 1 (by omega) (by omega) (by omega)
    have hh : 0 ≤ h := by omega
    rcases a3 with ⟨f, f0, a3⟩ | ⟨v1, v2, a3⟩
    · refine .inl ⟨f, .str (c1 t i), h, f0, fun k hk => ?_⟩
      obtain ⟨k, rfl⟩ := six hk
      show Φ _ .value_edit _ = _ ∧ Φ _ .lawValued _ = _; rw [hV, hLV]; unfold r_value_edit r_lawValued
      rcases hc with (hc | hc) | hc | hc <;> simp only [e_C, e_Nil, e_Bin, e_Neg, e_Len, e_Ord, e_Max, e_Find, e_Idx, e_Slc, e_Cmp, e_tCmp, e_K, e_tK, e_Of, e_Not, e_And, e_Or, e_xAnd, e_xOr, e_xNot, e_Ite, e_aNil, e_aCons, e_Tup, e_Call, e_Assign, e_Unp, e_Swap, e_Aug, e_If, e_Ret, e_Cont, e_sNil, e_Cons, e_Raise, b_ok, b_exc, b_ite, t_ok, t_exc, t_ite, a_next, a_cont, a_ret, a_exc, a_ite, r_raise, k_true, k_sc, k_scn, n_add, n_sub, n_mul, n_neg, n_max, n_aug, n_find, m_eqi, m_nei, m_lt, m_gt, m_ge, m_eqn, m_eqs, m_nes, m_in, m_nin, m_isn, m_isi, p_tup, p_lt, u_tup, u_lt, u_rev, w_cons, w_nil, g_get, g_lst, bl, List.length_cons, List.length_nil, List.map_cons, List.map_nil, List.replicate_succ, List.replicate_zero, List.cons_append, List.nil_append, List.append_nil, List.set_cons_zero, List.set_cons_succ, List.getElem?_cons_zero, List.getElem?_cons_succ, scOf, List.reverse_cons, List.reverse_nil, Nat.reduceAdd, Nat.reduceLeDiff, Nat.reduceEqDiff, Bool.false_eq_true, if_true, if_false, reduceIte, decide_eq_true_eq, beq_iff_eq, bne_iff_ne, ne_eq, Bool.not_true, Bool.not_false, l_sp, l_sp', l_spn, l_dot, l_dot', l_dotn, l_E, l_E', l_En, l_I, l_I', l_In, l_F, l_F', l_Fn, l_D, l_D', l_Dn, l_G, l_G', l_Gn, l_L, l_L', l_Ln, l_A, l_A', l_An, l_q, l_q', l_qn, l_P, l_P', l_Pn, l_mi, l_mi', l_min, l_pl, l_pl', l_pln, l_sl, l_sl', l_sln, l_co, l_co', l_con, l_S, l_S', l_Sn, l_N, l_N', l_Nn, l_Z, l_Z', l_Zn, l_B, l_B', l_Bn, l_R, l_R', l_Rn, l_T, l_T', l_Tn, l_X, l_X', l_Xn, l_H, l_H', l_Hn, l_lp, l_lp', l_lpn, l_cm, l_cm', l_cmn, l_rp, l_rp', l_rpn, f_ret, f_exc, f_ite, g_suc, f_call, Int.reduceLE, Int.reduceNeg, Int.reduceLT, Bool.and_true, Bool.true_and, Bool.and_false, Bool.false_and, Bool.or_true, Bool.true_or, Bool.or_false, Bool.false_or, Nat.reduceBEq, Nat.reduceBNe, beq_self_eq_true, bne_self_eq_false, decide_true, decide_false, not_true_eq_false, not_false_eq_true, Bool.not_eq_true', beq_eq_false_iff_ne, decide_eq_false_iff_not, hR, r_real_edit, n_idx t i h0 hi hZ, n_slc t h (h + 1) hh rfl hZ, hc, (a3 (k + 4) (by omega)).1, (a3 (k + 5) (by omega)).2, f0] <;> trivial
    · by_cases hd : cd t h = 46
      · have hhN : h < t.length := by
          refine Decidable.byContradiction fun q => ?_
          rw [cd_out (by omega)] at hd; omega
        obtain ⟨w, j, b1, b2, b3⟩ := sized hN (h + 1) 0 (by omega) (by omega) (by omega)
        have hj : 0 ≤ j := by omega
        rcases b3 with ⟨f, f0, b3⟩ | ⟨w1, w2, b3⟩
        · refine .inl ⟨f, .str (c1 t i), j, f0, fun k hk => ?_⟩
          obtain ⟨k, rfl⟩ := six hk
          have hf1 : ¬ f < 0 := by omega
          show Φ _ .value_edit _ = _ ∧ Φ _ .lawValued _ = _; rw [hV, hLV]; unfold r_value_edit r_lawValued
          rcases hc with (hc | hc) | hc | hc <;> simp only [e_C, e_Nil, e_Bin, e_Neg, e_Len, e_Ord, e_Max, e_Find, e_Idx, e_Slc, e_Cmp, e_tCmp, e_K, e_tK, e_Of, e_Not, e_And, e_Or, e_xAnd, e_xOr, e_xNot, e_Ite, e_aNil, e_aCons, e_Tup, e_Call, e_Assign, e_Unp, e_Swap, e_Aug, e_If, e_Ret, e_Cont, e_sNil, e_Cons, e_Raise, b_ok, b_exc, b_ite, t_ok, t_exc, t_ite, a_next, a_cont, a_ret, a_exc, a_ite, r_raise, k_true, k_sc, k_scn, n_add, n_sub, n_mul, n_neg, n_max, n_aug, n_find, m_eqi, m_nei, m_lt, m_gt, m_ge, m_eqn, m_eqs, m_nes, m_in, m_nin, m_isn, m_isi, p_tup, p_lt, u_tup, u_lt, u_rev, w_cons, w_nil, g_get, g_lst, bl, List.length_cons, List.length_nil, List.map_cons, List.map_nil, List.replicate_succ, List.replicate_zero, List.cons_append, List.nil_append, List.append_nil, List.set_cons_zero, List.set_cons_succ, List.getElem?_cons_zero, List.getElem?_cons_succ, scOf, List.reverse_cons, List.reverse_nil, Nat.reduceAdd, Nat.reduceLeDiff, Nat.reduceEqDiff, Bool.false_eq_true, if_true, if_false, reduceIte, decide_eq_true_eq, beq_iff_eq, bne_iff_ne, ne_eq, Bool.not_true, Bool.not_false, l_sp, l_sp', l_spn, l_dot, l_dot', l_dotn, l_E, l_E', l_En, l_I, l_I', l_In, l_F, l_F', l_Fn, l_D, l_D', l_Dn, l_G, l_G', l_Gn, l_L, l_L', l_Ln, l_A, l_A', l_An, l_q, l_q', l_qn, l_P, l_P', l_Pn, l_mi, l_mi', l_min, l_pl, l_pl', l_pln, l_sl, l_sl', l_sln, l_co, l_co', l_con, l_S, l_S', l_Sn, l_N, l_N', l_Nn, l_Z, l_Z', l_Zn, l_B, l_B', l_Bn, l_R, l_R', l_Rn, l_T, l_T', l_Tn, l_X, l_X', l_Xn, l_H, l_H', l_Hn, l_lp, l_lp', l_lpn, l_cm, l_cm', l_cmn, l_rp, l_rp', l_rpn, f_ret, f_exc, f_ite, g_suc, f_call, Int.reduceLE, Int.reduceNeg, Int.reduceLT, Bool.and_true, Bool.true_and, Bool.and_false, Bool.false_and, Bool.or_true, Bool.true_or, Bool.or_false, Bool.false_or, Nat.reduceBEq, Nat.reduceBNe, beq_self_eq_true, bne_self_eq_false, decide_true, decide_false, not_true_eq_false, not_false_eq_true, Bool.not_eq_true', beq_eq_false_iff_ne, decide_eq_false_iff_not, hR, hP, r_real_edit, r_places_at, n_idx t i h0 hi hZ, n_slc t h (h + 1) hh rfl hZ, hc, (a3 (k + 4) (by omega)).1, (a3 (k + 5) (by omega)).2, f0, hf1, isat hN (k := k + 3) (by omega) hh, hd, (b3 (k + 3) (by omega)).1, (b3 (k + 5) (by omega)).2] <;> trivial
        · by_cases hfd : cd t i = 70 ∨ cd t i = 68
          · refine .inr ⟨.tup [.str (c1 t i), .int v, .int w], c1 t i, j, ⟨hok _, rfl⟩, by omega, b2, fun k hk => ?_⟩
            obtain ⟨k, rfl⟩ := six hk
            show Φ _ .value_edit _ = _ ∧ Φ _ .lawValued _ = _; rw [hV, hLV]; unfold r_value_edit r_lawValued
            rcases hfd with hc | hc <;> simp only [e_C, e_Nil, e_Bin, e_Neg, e_Len, e_Ord, e_Max, e_Find, e_Idx, e_Slc, e_Cmp, e_tCmp, e_K, e_tK, e_Of, e_Not, e_And, e_Or, e_xAnd, e_xOr, e_xNot, e_Ite, e_aNil, e_aCons, e_Tup, e_Call, e_Assign, e_Unp, e_Swap, e_Aug, e_If, e_Ret, e_Cont, e_sNil, e_Cons, e_Raise, b_ok, b_exc, b_ite, t_ok, t_exc, t_ite, a_next, a_cont, a_ret, a_exc, a_ite, r_raise, k_true, k_sc, k_scn, n_add, n_sub, n_mul, n_neg, n_max, n_aug, n_find, m_eqi, m_nei, m_lt, m_gt, m_ge, m_eqn, m_eqs, m_nes, m_in, m_nin, m_isn, m_isi, p_tup, p_lt, u_tup, u_lt, u_rev, w_cons, w_nil, g_get, g_lst, bl, List.length_cons, List.length_nil, List.map_cons, List.map_nil, List.replicate_succ, List.replicate_zero, List.cons_append, List.nil_append, List.append_nil, List.set_cons_zero, List.set_cons_succ, List.getElem?_cons_zero, List.getElem?_cons_succ, scOf, List.reverse_cons, List.reverse_nil, Nat.reduceAdd, Nat.reduceLeDiff, Nat.reduceEqDiff, Bool.false_eq_true, if_true, if_false, reduceIte, decide_eq_true_eq, beq_iff_eq, bne_iff_ne, ne_eq, Bool.not_true, Bool.not_false, l_sp, l_sp', l_spn, l_dot, l_dot', l_dotn, l_E, l_E', l_En, l_I, l_I', l_In, l_F, l_F', l_Fn, l_D, l_D', l_Dn, l_G, l_G', l_Gn, l_L, l_L', l_Ln, l_A, l_A', l_An, l_q, l_q', l_qn, l_P, l_P', l_Pn, l_mi, l_mi', l_min, l_pl, l_pl', l_pln, l_sl, l_sl', l_sln, l_co, l_co', l_con, l_S, l_S', l_Sn, l_N, l_N', l_Nn, l_Z, l_Z', l_Zn, l_B, l_B', l_Bn, l_R, l_R', l_Rn, l_T, l_T', l_Tn, l_X, l_X', l_Xn, l_H, l_H', l_Hn, l_lp, l_lp', l_lpn, l_cm, l_cm', l_cmn, l_rp, l_rp', l_rpn, f_ret, f_exc, f_ite, g_suc, f_call, Int.reduceLE, Int.reduceNeg, Int.reduceLT, Bool.and_true, Bool.true_and, Bool.and_false, Bool.false_and, Bool.or_true, Bool.true_or, Bool.or_false, Bool.false_or, Nat.reduceBEq, Nat.reduceBNe, beq_self_eq_true, bne_self_eq_false, decide_true, decide_false, not_true_eq_false, not_false_eq_true, Bool.not_eq_true', beq_eq_false_iff_ne, decide_eq_false_iff_not, hR, hP, r_real_edit, r_places_at, n_idx t i h0 hi hZ, n_slc t h (h + 1) hh rfl hZ, hEG, hc, (a3 (k + 4) (by omega)).1, (a3 (k + 5) (by omega)).2, isat hN (k := k + 3) (by omega) hh, hd, (b3 (k + 3) (by omega)).1, (b3 (k + 5) (by omega)).2] <;> trivial
          · have hc : cd t i = 69 ∨ cd t i = 71 := by omega
            by_cases he : cd t j = 69
            · have hjN : j < t.length := by
                refine Decidable.byContradiction fun q => ?_
                rw [cd_out (by omega)] at he; omega
              obtain ⟨u, l, c1', c2, c3⟩ := sized hN (j + 1) 1 (by omega) (by omega) (by omega)
              rcases c3 with ⟨f, f0, c3⟩ | ⟨u1, u2, c3⟩
              · refine .inl ⟨f, .str (c1 t i), l, f0, fun k hk => ?_⟩
                obtain ⟨k, rfl⟩ := six hk
                show Φ _ .value_edit _ = _ ∧ Φ _ .lawValued _ = _; rw [hV, hLV]; unfold r_value_edit r_lawValued
                rcases hc with hc | hc <;> simp only [e_C, e_Nil, e_Bin, e_Neg, e_Len, e_Ord, e_Max, e_Find, e_Idx, e_Slc, e_Cmp, e_tCmp, e_K, e_tK, e_Of, e_Not, e_And, e_Or, e_xAnd, e_xOr, e_xNot, e_Ite, e_aNil, e_aCons, e_Tup, e_Call, e_Assign, e_Unp, e_Swap, e_Aug, e_If, e_Ret, e_Cont, e_sNil, e_Cons, e_Raise, b_ok, b_exc, b_ite, t_ok, t_exc, t_ite, a_next, a_cont, a_ret, a_exc, a_ite, r_raise, k_true, k_sc, k_scn, n_add, n_sub, n_mul, n_neg, n_max, n_aug, n_find, m_eqi, m_nei, m_lt, m_gt, m_ge, m_eqn, m_eqs, m_nes, m_in, m_nin, m_isn, m_isi, p_tup, p_lt, u_tup, u_lt, u_rev, w_cons, w_nil, g_get, g_lst, bl, List.length_cons, List.length_nil, List.map_cons, List.map_nil, List.replicate_succ, List.replicate_zero, List.cons_append, List.nil_append, List.append_nil, List.set_cons_zero, List.set_cons_succ, List.getElem?_cons_zero, List.getElem?_cons_succ, scOf, List.reverse_cons, List.reverse_nil, Nat.reduceAdd, Nat.reduceLeDiff, Nat.reduceEqDiff, Bool.false_eq_true, if_true, if_false, reduceIte, decide_eq_true_eq, beq_iff_eq, bne_iff_ne, ne_eq, Bool.not_true, Bool.not_false, l_sp, l_sp', l_spn, l_dot, l_dot', l_dotn, l_E, l_E', l_En, l_I, l_I', l_In, l_F, l_F', l_Fn, l_D, l_D', l_Dn, l_G, l_G', l_Gn, l_L, l_L', l_Ln, l_A, l_A', l_An, l_q, l_q', l_qn, l_P, l_P', l_Pn, l_mi, l_mi', l_min, l_pl, l_pl', l_pln, l_sl, l_sl', l_sln, l_co, l_co', l_con, l_S, l_S', l_Sn, l_N, l_N', l_Nn, l_Z, l_Z', l_Zn, l_B, l_B', l_Bn, l_R, l_R', l_Rn, l_T, l_T', l_Tn, l_X, l_X', l_Xn, l_H, l_H', l_Hn, l_lp, l_lp', l_lpn, l_cm, l_cm', l_cmn, l_rp, l_rp', l_rpn, f_ret, f_exc, f_ite, g_suc, f_call, Int.reduceLE, Int.reduceNeg, Int.reduceLT, Bool.and_true, Bool.true_and, Bool.and_false, Bool.false_and, Bool.or_true, Bool.true_or, Bool.or_false, Bool.false_or, Nat.reduceBEq, Nat.reduceBNe, beq_self_eq_true, bne_self_eq_false, decide_true, decide_false, not_true_eq_false, not_false_eq_true, Bool.not_eq_true', beq_eq_false_iff_ne, decide_eq_false_iff_not, hR, hP, hX, r_real_edit, r_places_at, r_exponent_at, n_idx t i h0 hi hZ, n_slc t h (h + 1) hh rfl hZ, n_slc t j (j + 1) hj rfl hZ, hEG, hc, (a3 (k + 4) (by omega)).1, (a3 (k + 5) (by omega)).2, isat hN (k := k + 3) (by omega) hh, isat hN (k := k + 3) (by omega) hj, hd, he, (b3 (k + 3) (by omega)).1, (b3 (k + 5) (by omega)).2, (c3 (k + 3) (by omega)).1, (c3 (k + 5) (by omega)).2] <;> trivial
              · refine .inr ⟨.tup [.str (c1 t i), .int v, .int w, .int u], c1 t i, l, ⟨hok _, rfl⟩, by omega, c2, fun k hk => ?_⟩
                obtain ⟨k, rfl⟩ := six hk
                show Φ _ .value_edit _ = _ ∧ Φ _ .lawValued _ = _; rw [hV, hLV]; unfold r_value_edit r_lawValued
                rcases hc with hc | hc <;> simp only [e_C, e_Nil, e_Bin, e_Neg, e_Len, e_Ord, e_Max, e_Find, e_Idx, e_Slc, e_Cmp, e_tCmp, e_K, e_tK, e_Of, e_Not, e_And, e_Or, e_xAnd, e_xOr, e_xNot, e_Ite, e_aNil, e_aCons, e_Tup, e_Call, e_Assign, e_Unp, e_Swap, e_Aug, e_If, e_Ret, e_Cont, e_sNil, e_Cons, e_Raise, b_ok, b_exc, b_ite, t_ok, t_exc, t_ite, a_next, a_cont, a_ret, a_exc, a_ite, r_raise, k_true, k_sc, k_scn, n_add, n_sub, n_mul, n_neg, n_max, n_aug, n_find, m_eqi, m_nei, m_lt, m_gt, m_ge, m_eqn, m_eqs, m_nes, m_in, m_nin, m_isn, m_isi, p_tup, p_lt, u_tup, u_lt, u_rev, w_cons, w_nil, g_get, g_lst, bl, List.length_cons, List.length_nil, List.map_cons, List.map_nil, List.replicate_succ, List.replicate_zero, List.cons_append, List.nil_append, List.append_nil, List.set_cons_zero, List.set_cons_succ, List.getElem?_cons_zero, List.getElem?_cons_succ, scOf, List.reverse_cons, List.reverse_nil, Nat.reduceAdd, Nat.reduceLeDiff, Nat.reduceEqDiff, Bool.false_eq_true, if_true, if_false, reduceIte, decide_eq_true_eq, beq_iff_eq, bne_iff_ne, ne_eq, Bool.not_true, Bool.not_false, l_sp, l_sp', l_spn, l_dot, l_dot', l_dotn, l_E, l_E', l_En, l_I, l_I', l_In, l_F, l_F', l_Fn, l_D, l_D', l_Dn, l_G, l_G', l_Gn, l_L, l_L', l_Ln, l_A, l_A', l_An, l_q, l_q', l_qn, l_P, l_P', l_Pn, l_mi, l_mi', l_min, l_pl, l_pl', l_pln, l_sl, l_sl', l_sln, l_co, l_co', l_con, l_S, l_S', l_Sn, l_N, l_N', l_Nn, l_Z, l_Z', l_Zn, l_B, l_B', l_Bn, l_R, l_R', l_Rn, l_T, l_T', l_Tn, l_X, l_X', l_Xn, l_H, l_H', l_Hn, l_lp, l_lp', l_lpn, l_cm, l_cm', l_cmn, l_rp, l_rp', l_rpn, f_ret, f_exc, f_ite, g_suc, f_call, Int.reduceLE, Int.reduceNeg, Int.reduceLT, Bool.and_true, Bool.true_and, Bool.and_false, Bool.false_and, Bool.or_true, Bool.true_or, Bool.or_false, Bool.false_or, Nat.reduceBEq, Nat.reduceBNe, beq_self_eq_true, bne_self_eq_false, decide_true, decide_false, not_true_eq_false, not_false_eq_true, Bool.not_eq_true', beq_eq_false_iff_ne, decide_eq_false_iff_not, hR, hP, hX, r_real_edit, r_places_at, r_exponent_at, n_idx t i h0 hi hZ, n_slc t h (h + 1) hh rfl hZ, n_slc t j (j + 1) hj rfl hZ, hEG, hc, (a3 (k + 4) (by omega)).1, (a3 (k + 5) (by omega)).2, isat hN (k := k + 3) (by omega) hh, isat hN (k := k + 3) (by omega) hj, hd, he, (b3 (k + 3) (by omega)).1, (b3 (k + 5) (by omega)).2, (c3 (k + 3) (by omega)).1, (c3 (k + 5) (by omega)).2] <;> trivial
            · refine .inr ⟨.tup [.str (c1 t i), .int v, .int w, .none], c1 t i, j, ⟨hok _, rfl⟩, by omega, b2, fun k hk => ?_⟩
              obtain ⟨k, rfl⟩ := six hk
              show Φ _ .value_edit _ = _ ∧ Φ _ .lawValued _ = _; rw [hV, hLV]; unfold r_value_edit r_lawValued
              rcases hc with hc | hc <;> simp only [e_C, e_Nil, e_Bin, e_Neg, e_Len, e_Ord, e_Max, e_Find, e_Idx, e_Slc, e_Cmp, e_tCmp, e_K, e_tK, e_Of, e_Not, e_And, e_Or, e_xAnd, e_xOr, e_xNot, e_Ite, e_aNil, e_aCons, e_Tup, e_Call, e_Assign, e_Unp, e_Swap, e_Aug, e_If, e_Ret, e_Cont, e_sNil, e_Cons, e_Raise, b_ok, b_exc, b_ite, t_ok, t_exc, t_ite, a_next, a_cont, a_ret, a_exc, a_ite, r_raise, k_true, k_sc, k_scn, n_add, n_sub, n_mul, n_neg, n_max, n_aug, n_find, m_eqi, m_nei, m_lt, m_gt, m_ge, m_eqn, m_eqs, m_nes, m_in, m_nin, m_isn, m_isi, p_tup, p_lt, u_tup, u_lt, u_rev, w_cons, w_nil, g_get, g_lst, bl, List.length_cons, List.length_nil, List.map_cons, List.map_nil, List.replicate_succ, List.replicate_zero, List.cons_append, List.nil_append, List.append_nil, List.set_cons_zero, List.set_cons_succ, List.getElem?_cons_zero, List.getElem?_cons_succ, scOf, List.reverse_cons, List.reverse_nil, Nat.reduceAdd, Nat.reduceLeDiff, Nat.reduceEqDiff, Bool.false_eq_true, if_true, if_false, reduceIte, decide_eq_true_eq, beq_iff_eq, bne_iff_ne, ne_eq, Bool.not_true, Bool.not_false, l_sp, l_sp', l_spn, l_dot, l_dot', l_dotn, l_E, l_E', l_En, l_I, l_I', l_In, l_F, l_F', l_Fn, l_D, l_D', l_Dn, l_G, l_G', l_Gn, l_L, l_L', l_Ln, l_A, l_A', l_An, l_q, l_q', l_qn, l_P, l_P', l_Pn, l_mi, l_mi', l_min, l_pl, l_pl', l_pln, l_sl, l_sl', l_sln, l_co, l_co', l_con, l_S, l_S', l_Sn, l_N, l_N', l_Nn, l_Z, l_Z', l_Zn, l_B, l_B', l_Bn, l_R, l_R', l_Rn, l_T, l_T', l_Tn, l_X, l_X', l_Xn, l_H, l_H', l_Hn, l_lp, l_lp', l_lpn, l_cm, l_cm', l_cmn, l_rp, l_rp', l_rpn, f_ret, f_exc, f_ite, g_suc, f_call, Int.reduceLE, Int.reduceNeg, Int.reduceLT, Bool.and_true, Bool.true_and, Bool.and_false, Bool.false_and, Bool.or_true, Bool.true_or, Bool.or_false, Bool.false_or, Nat.reduceBEq, Nat.reduceBNe, beq_self_eq_true, bne_self_eq_false, decide_true, decide_false, not_true_eq_false, not_false_eq_true, Bool.not_eq_true', beq_eq_false_iff_ne, decide_eq_false_iff_not, hR, hP, hX, r_real_edit, r_places_at, r_exponent_at, n_idx t i h0 hi hZ, n_slc t h (h + 1) hh rfl hZ, n_slc t j (j + 1) hj rfl hZ, hEG, hc, (a3 (k + 4) (by omega)).1, (a3 (k + 5) (by omega)).2, isat hN (k := k + 3) (by omega) hh, isat hN (k := k + 3) (by omega) hj, hd, he, (b3 (k + 3) (by omega)).1, (b3 (k + 5) (by omega)).2] <;> trivial
      · refine .inl ⟨h, .str (c1 t i), h, by omega, fun k hk => ?_⟩
        obtain ⟨k, rfl⟩ := six hk
        show Φ _ .value_edit _ = _ ∧ Φ _ .lawValued _ = _; rw [hV, hLV]; unfold r_value_edit r_lawValued
        rcases hc with (hc | hc) | hc | hc <;> simp only [e_C, e_Nil, e_Bin, e_Neg, e_Len, e_Ord, e_Max, e_Find, e_Idx, e_Slc, e_Cmp, e_tCmp, e_K, e_tK, e_Of, e_Not, e_And, e_Or, e_xAnd, e_xOr, e_xNot, e_Ite, e_aNil, e_aCons, e_Tup, e_Call, e_Assign, e_Unp, e_Swap, e_Aug, e_If, e_Ret, e_Cont, e_sNil, e_Cons, e_Raise, b_ok, b_exc, b_ite, t_ok, t_exc, t_ite, a_next, a_cont, a_ret, a_exc, a_ite, r_raise, k_true, k_sc, k_scn, n_add, n_sub, n_mul, n_neg, n_max, n_aug, n_find, m_eqi, m_nei, m_lt, m_gt, m_ge, m_eqn, m_eqs, m_nes, m_in, m_nin, m_isn, m_isi, p_tup, p_lt, u_tup, u_lt, u_rev, w_cons, w_nil, g_get, g_lst, bl, List.length_cons, List.length_nil, List.map_cons, List.map_nil, List.replicate_succ, List.replicate_zero, List.cons_append, List.nil_append, List.append_nil, List.set_cons_zero, List.set_cons_succ, List.getElem?_cons_zero, List.getElem?_cons_succ, scOf, List.reverse_cons, List.reverse_nil, Nat.reduceAdd, Nat.reduceLeDiff, Nat.reduceEqDiff, Bool.false_eq_true, if_true, if_false, reduceIte, decide_eq_true_eq, beq_iff_eq, bne_iff_ne, ne_eq, Bool.not_true, Bool.not_false, l_sp, l_sp', l_spn, l_dot, l_dot', l_dotn, l_E, l_E', l_En, l_I, l_I', l_In, l_F, l_F', l_Fn, l_D, l_D', l_Dn, l_G, l_G', l_Gn, l_L, l_L', l_Ln, l_A, l_A', l_An, l_q, l_q', l_qn, l_P, l_P', l_Pn, l_mi, l_mi', l_min, l_pl, l_pl', l_pln, l_sl, l_sl', l_sln, l_co, l_co', l_con, l_S, l_S', l_Sn, l_N, l_N', l_Nn, l_Z, l_Z', l_Zn, l_B, l_B', l_Bn, l_R, l_R', l_Rn, l_T, l_T', l_Tn, l_X, l_X', l_Xn, l_H, l_H', l_Hn, l_lp, l_lp', l_lpn, l_cm, l_cm', l_cmn, l_rp, l_rp', l_rpn, f_ret, f_exc, f_ite, g_suc, f_call, Int.reduceLE, Int.reduceNeg, Int.reduceLT, Bool.and_true, Bool.true_and, Bool.and_false, Bool.false_and, Bool.or_true, Bool.true_or, Bool.or_false, Bool.false_or, Nat.reduceBEq, Nat.reduceBNe, beq_self_eq_true, bne_self_eq_false, decide_true, decide_false, not_true_eq_false, not_false_eq_true, Bool.not_eq_true', beq_eq_false_iff_ne, decide_eq_false_iff_not, hR, hP, r_real_edit, r_places_at, n_idx t i h0 hi hZ, n_slc t h (h + 1) hh rfl hZ, hc, (a3 (k + 4) (by omega)).1, (a3 (k + 5) (by omega)).2, isat hN (k := k + 3) (by omega) hh, hd] <;> trivial
end Mine

namespace Mine
open PySem PySem.W PyProof.Rows PySem.Calls PySem.SeqAt PySem.Builtin.Str
variable {t : Str}
theorem in_of {h : Int} {p : Nat} (hd : cd t h = p) (hp : p ≠ 1114112) : h < t.length := by
  refine Decidable.byContradiction fun q => ?_
  rw [cd_out (by omega)] at hd; exact hp hd.symm

theorem control (hN : t.length ≤ 2000) (i : Int) (h0 : 0 ≤ i) (hi : i < t.length) :
    Ag ValOk t i 6 (fun k => Φ k .control_at [.str t, .int i]) (fun k => Φ k .lawControl [.str t, .int i]) := by
  have hZ : t.length ≤ sizeLine := by rw [sizeLine_eq]; omega
  have hV : ∀ k l, Φ (k + 6) .control_at l = funR 2 4 (r_control_at (Φ (k + 5))) l := fun _ _ => rfl
  have hLV : ∀ k l, Φ (k + 6) .lawControl l = funR 2 4 (r_lawControl (Φ (k + 5))) l := fun _ _ => rfl
  have six : ∀ {k : Nat}, 6 ≤ k → ∃ k', k = k' + 6 := fun {k} h => ⟨k - 6, by omega⟩
  obtain ⟨h, a1, a2, -, a3⟩ := blanks hN (i + 1) (by omega) (by omega)
  have hh : 0 ≤ h := by omega
  have hsl : Txt.contains (Str.ofString "/:") (c1 t i) = (cd t i == 47 || cd t i == 58) := h_slc t i h0 hi
  by_cases c1' : cd t i = 47 ∨ cd t i = 58
  · refine .inr ⟨.tup [.str (c1 t i)], c1 t i, i + 1, valOk_self h0 hi _, by omega, by omega, fun k hk => ?_⟩
    obtain ⟨k, rfl⟩ := six hk
    show Φ _ .control_at _ = _ ∧ Φ _ .lawControl _ = _; rw [hV, hLV]; unfold r_control_at r_lawControl
    rcases c1' with hc | hc <;> simp only [e_C, e_Nil, e_Bin, e_Neg, e_Len, e_Ord, e_Max, e_Find, e_Idx, e_Slc, e_Cmp, e_tCmp, e_K, e_tK, e_Of, e_Not, e_And, e_Or, e_xAnd, e_xOr, e_xNot, e_Ite, e_aNil, e_aCons, e_Tup, e_Call, e_Assign, e_Unp, e_Swap, e_Aug, e_If, e_Ret, e_Cont, e_sNil, e_Cons, e_Raise, b_ok, b_exc, b_ite, t_ok, t_exc, t_ite, a_next, a_cont, a_ret, a_exc, a_ite, r_raise, k_true, k_sc, k_scn, n_add, n_sub, n_mul, n_neg, n_max, n_aug, n_find, m_eqi, m_nei, m_lt, m_gt, m_ge, m_eqn, m_eqs, m_nes, m_in, m_nin, m_isn, m_isi, p_tup, p_lt, u_tup, u_lt, u_rev, w_cons, w_nil, g_get, g_lst, bl, List.length_cons, List.length_nil, List.map_cons, List.map_nil, List.replicate_succ, List.replicate_zero, List.cons_append, List.nil_append, List.append_nil, List.set_cons_zero, List.set_cons_succ, List.getElem?_cons_zero, List.getElem?_cons_succ, scOf, List.reverse_cons, List.reverse_nil, Nat.reduceAdd, Nat.reduceLeDiff, Nat.reduceEqDiff, Bool.false_eq_true, if_true, if_false, reduceIte, decide_eq_true_eq, beq_iff_eq, bne_iff_ne, ne_eq, Bool.not_true, Bool.not_false, l_sp, l_sp', l_spn, l_dot, l_dot', l_dotn, l_E, l_E', l_En, l_I, l_I', l_In, l_F, l_F', l_Fn, l_D, l_D', l_Dn, l_G, l_G', l_Gn, l_L, l_L', l_Ln, l_A, l_A', l_An, l_q, l_q', l_qn, l_P, l_P', l_Pn, l_mi, l_mi', l_min, l_pl, l_pl', l_pln, l_sl, l_sl', l_sln, l_co, l_co', l_con, l_S, l_S', l_Sn, l_N, l_N', l_Nn, l_Z, l_Z', l_Zn, l_B, l_B', l_Bn, l_R, l_R', l_Rn, l_T, l_T', l_Tn, l_X, l_X', l_Xn, l_H, l_H', l_Hn, l_lp, l_lp', l_lpn, l_cm, l_cm', l_cmn, l_rp, l_rp', l_rpn, f_ret, f_exc, f_ite, g_suc, f_call, Int.reduceLE, Int.reduceNeg, Int.reduceLT, Bool.and_true, Bool.true_and, Bool.and_false, Bool.false_and, Bool.or_true, Bool.true_or, Bool.or_false, Bool.false_or, Nat.reduceBEq, Nat.reduceBNe, beq_self_eq_true, bne_self_eq_false, decide_true, decide_false, not_true_eq_false, not_false_eq_true, Bool.not_eq_true', beq_eq_false_iff_ne, decide_eq_false_iff_not, n_idx t i h0 hi hZ, hsl, hc, (a3 (k + 5) (by omega)).2] <;> trivial
  have k47 : cd t i ≠ 47 := by omega
  have k58 : cd t i ≠ 58 := by omega
  by_cases cS : cd t i = 83
  · have hx : c1 t i = Str.ofString "S" := c1_of cS (by kernel_rfl) (by decide)
    by_cases hp : cd t h = 80 ∨ cd t h = 83
    · have hhN : h < t.length := by rcases hp with q | q <;> exact in_of q (by decide)
      have hcat : (Str.ofString "S").length + (c1 t h).length ≤ sizeLine := by
        rw [c1_in (by omega), sizeLine_eq, show (Str.ofString "S").length = 1 by kernel_rfl]; show 1 + 1 ≤ 16777216; decide
      refine .inr ⟨.tup [.str (Str.ofString "S" ++ c1 t h)], c1 t i, h + 1, ?_, by omega, by omega, fun k hk => ?_⟩
      · rcases hp with q | q
        · rw [c1_of q (x := Str.ofString "P") (by kernel_rfl) (by decide), hx]; exact valOk_lit _ ⟨by kernel_rfl, by kernel_rfl, by kernel_rfl, by kernel_rfl⟩
        · rw [c1_of q (x := Str.ofString "S") (by kernel_rfl) (by decide), hx]; exact valOk_lit _ ⟨by kernel_rfl, by kernel_rfl, by kernel_rfl, by kernel_rfl⟩
      · obtain ⟨k, rfl⟩ := six hk
        show Φ _ .control_at _ = _ ∧ Φ _ .lawControl _ = _; rw [hV, hLV]; unfold r_control_at r_lawControl
        rcases hp with q | q <;> simp only [e_C, e_Nil, e_Bin, e_Neg, e_Len, e_Ord, e_Max, e_Find, e_Idx, e_Slc, e_Cmp, e_tCmp, e_K, e_tK, e_Of, e_Not, e_And, e_Or, e_xAnd, e_xOr, e_xNot, e_Ite, e_aNil, e_aCons, e_Tup, e_Call, e_Assign, e_Unp, e_Swap, e_Aug, e_If, e_Ret, e_Cont, e_sNil, e_Cons, e_Raise, b_ok, b_exc, b_ite, t_ok, t_exc, t_ite, a_next, a_cont, a_ret, a_exc, a_ite, r_raise, k_true, k_sc, k_scn, n_add, n_sub, n_mul, n_neg, n_max, n_aug, n_find, m_eqi, m_nei, m_lt, m_gt, m_ge, m_eqn, m_eqs, m_nes, m_in, m_nin, m_isn, m_isi, p_tup, p_lt, u_tup, u_lt, u_rev, w_cons, w_nil, g_get, g_lst, bl, List.length_cons, List.length_nil, List.map_cons, List.map_nil, List.replicate_succ, List.replicate_zero, List.cons_append, List.nil_append, List.append_nil, List.set_cons_zero, List.set_cons_succ, List.getElem?_cons_zero, List.getElem?_cons_succ, scOf, List.reverse_cons, List.reverse_nil, Nat.reduceAdd, Nat.reduceLeDiff, Nat.reduceEqDiff, Bool.false_eq_true, if_true, if_false, reduceIte, decide_eq_true_eq, beq_iff_eq, bne_iff_ne, ne_eq, Bool.not_true, Bool.not_false, l_sp, l_sp', l_spn, l_dot, l_dot', l_dotn, l_E, l_E', l_En, l_I, l_I', l_In, l_F, l_F', l_Fn, l_D, l_D', l_Dn, l_G, l_G', l_Gn, l_L, l_L', l_Ln, l_A, l_A', l_An, l_q, l_q', l_qn, l_P, l_P', l_Pn, l_mi, l_mi', l_min, l_pl, l_pl', l_pln, l_sl, l_sl', l_sln, l_co, l_co', l_con, l_S, l_S', l_Sn, l_N, l_N', l_Nn, l_Z, l_Z', l_Zn, l_B, l_B', l_Bn, l_R, l_R', l_Rn, l_T, l_T', l_Tn, l_X, l_X', l_Xn, l_H, l_H', l_Hn, l_lp, l_lp', l_lpn, l_cm, l_cm', l_cmn, l_rp, l_rp', l_rpn, f_ret, f_exc, f_ite, g_suc, f_call, Int.reduceLE, Int.reduceNeg, Int.reduceLT, Bool.and_true, Bool.true_and, Bool.and_false, Bool.false_and, Bool.or_true, Bool.true_or, Bool.or_false, Bool.false_or, Nat.reduceBEq, Nat.reduceBNe, beq_self_eq_true, bne_self_eq_false, decide_true, decide_false, not_true_eq_false, not_false_eq_true, Bool.not_eq_true', beq_eq_false_iff_ne, decide_eq_false_iff_not, n_idx t i h0 hi hZ, n_idx t h hh hhN hZ, n_slc t h (h + 1) hh rfl hZ, hsl, cS, (a3 (k + 5) (by omega)).1, (a3 (k + 5) (by omega)).2, isat hN (k := k + 5) (by omega) hh, inTupR, List.any_cons, List.any_nil, q, n_cat _ _ hcat] <;> trivial
    · have kP : cd t h ≠ 80 := by omega
      have kS : cd t h ≠ 83 := by omega
      refine .inr ⟨.tup [.str (Str.ofString "S")], c1 t i, h, ?_, by omega, by omega, fun k hk => ?_⟩
      · rw [hx]; exact valOk_lit _ ⟨by kernel_rfl, by kernel_rfl, by kernel_rfl, by kernel_rfl⟩
      · obtain ⟨k, rfl⟩ := six hk
        show Φ _ .control_at _ = _ ∧ Φ _ .lawControl _ = _; rw [hV, hLV]; unfold r_control_at r_lawControl
        simp only [e_C, e_Nil, e_Bin, e_Neg, e_Len, e_Ord, e_Max, e_Find, e_Idx, e_Slc, e_Cmp, e_tCmp, e_K, e_tK, e_Of, e_Not, e_And, e_Or, e_xAnd, e_xOr, e_xNot, e_Ite, e_aNil, e_aCons, e_Tup, e_Call, e_Assign, e_Unp, e_Swap, e_Aug, e_If, e_Ret, e_Cont, e_sNil, e_Cons, e_Raise, b_ok, b_exc, b_ite, t_ok, t_exc, t_ite, a_next, a_cont, a_ret, a_exc, a_ite, r_raise, k_true, k_sc, k_scn, n_add, n_sub, n_mul, n_neg, n_max, n_aug, n_find, m_eqi, m_nei, m_lt, m_gt, m_ge, m_eqn, m_eqs, m_nes, m_in, m_nin, m_isn, m_isi, p_tup, p_lt, u_tup, u_lt, u_rev, w_cons, w_nil, g_get, g_lst, bl, List.length_cons, List.length_nil, List.map_cons, List.map_nil, List.replicate_succ, List.replicate_zero, List.cons_append, List.nil_append, List.append_nil, List.set_cons_zero, List.set_cons_succ, List.getElem?_cons_zero, List.getElem?_cons_succ, scOf, List.reverse_cons, List.reverse_nil, Nat.reduceAdd, Nat.reduceLeDiff, Nat.reduceEqDiff, Bool.false_eq_true, if_true, if_false, reduceIte, decide_eq_true_eq, beq_iff_eq, bne_iff_ne, ne_eq, Bool.not_true, Bool.not_false, l_sp, l_sp', l_spn, l_dot, l_dot', l_dotn, l_E, l_E', l_En, l_I, l_I', l_In, l_F, l_F', l_Fn, l_D, l_D', l_Dn, l_G, l_G', l_Gn, l_L, l_L', l_Ln, l_A, l_A', l_An, l_q, l_q', l_qn, l_P, l_P', l_Pn, l_mi, l_mi', l_min, l_pl, l_pl', l_pln, l_sl, l_sl', l_sln, l_co, l_co', l_con, l_S, l_S', l_Sn, l_N, l_N', l_Nn, l_Z, l_Z', l_Zn, l_B, l_B', l_Bn, l_R, l_R', l_Rn, l_T, l_T', l_Tn, l_X, l_X', l_Xn, l_H, l_H', l_Hn, l_lp, l_lp', l_lpn, l_cm, l_cm', l_cmn, l_rp, l_rp', l_rpn, f_ret, f_exc, f_ite, g_suc, f_call, Int.reduceLE, Int.reduceNeg, Int.reduceLT, Bool.and_true, Bool.true_and, Bool.and_false, Bool.false_and, Bool.or_true, Bool.true_or, Bool.or_false, Bool.false_or, Nat.reduceBEq, Nat.reduceBNe, beq_self_eq_true, bne_self_eq_false, decide_true, decide_false, not_true_eq_false, not_false_eq_true, Bool.not_eq_true', beq_eq_false_iff_ne, decide_eq_false_iff_not, n_idx t i h0 hi hZ, n_slc t h (h + 1) hh rfl hZ, hsl, cS, (a3 (k + 5) (by omega)).1, (a3 (k + 5) (by omega)).2, isat hN (k := k + 5) (by omega) hh, inTupR, List.any_cons, List.any_nil, kP, kS]
        simp only [beq_eq_false_iff_ne.mpr kP, beq_eq_false_iff_ne.mpr kS, e_C, e_Nil, e_Bin, e_Neg, e_Len, e_Ord, e_Max, e_Find, e_Idx, e_Slc, e_Cmp, e_tCmp, e_K, e_tK, e_Of, e_Not, e_And, e_Or, e_xAnd, e_xOr, e_xNot, e_Ite, e_aNil, e_aCons, e_Tup, e_Call, e_Assign, e_Unp, e_Swap, e_Aug, e_If, e_Ret, e_Cont, e_sNil, e_Cons, e_Raise, b_ok, b_exc, b_ite, t_ok, t_exc, t_ite, a_next, a_cont, a_ret, a_exc, a_ite, r_raise, k_true, k_sc, k_scn, n_add, n_sub, n_mul, n_neg, n_max, n_aug, n_find, m_eqi, m_nei, m_lt, m_gt, m_ge, m_eqn, m_eqs, m_nes, m_in, m_nin, m_isn, m_isi, p_tup, p_lt, u_tup, u_lt, u_rev, w_cons, w_nil, g_get, g_lst, bl, List.length_cons, List.length_nil, List.map_cons, List.map_nil, List.replicate_succ, List.replicate_zero, List.cons_append, List.nil_append, List.append_nil, List.set_cons_zero, List.set_cons_succ, List.getElem?_cons_zero, List.getElem?_cons_succ, scOf, List.reverse_cons, List.reverse_nil, Nat.reduceAdd, Nat.reduceLeDiff, Nat.reduceEqDiff, Bool.false_eq_true, if_true, if_false, reduceIte, decide_eq_true_eq, beq_iff_eq, bne_iff_ne, ne_eq, Bool.not_true, Bool.not_false, l_sp, l_sp', l_spn, l_dot, l_dot', l_dotn, l_E, l_E', l_En, l_I, l_I', l_In, l_F, l_F', l_Fn, l_D, l_D', l_Dn, l_G, l_G', l_Gn, l_L, l_L', l_Ln, l_A, l_A', l_An, l_q, l_q', l_qn, l_P, l_P', l_Pn, l_mi, l_mi', l_min, l_pl, l_pl', l_pln, l_sl, l_sl', l_sln, l_co, l_co', l_con, l_S, l_S', l_Sn, l_N, l_N', l_Nn, l_Z, l_Z', l_Zn, l_B, l_B', l_Bn, l_R, l_R', l_Rn, l_T, l_T', l_Tn, l_X, l_X', l_Xn, l_H, l_H', l_Hn, l_lp, l_lp', l_lpn, l_cm, l_cm', l_cmn, l_rp, l_rp', l_rpn, f_ret, f_exc, f_ite, g_suc, f_call, Int.reduceLE, Int.reduceNeg, Int.reduceLT, Bool.and_true, Bool.true_and, Bool.and_false, Bool.false_and, Bool.or_true, Bool.true_or, Bool.or_false, Bool.false_or, Nat.reduceBEq, Nat.reduceBNe, beq_self_eq_true, bne_self_eq_false, decide_true, decide_false, not_true_eq_false, not_false_eq_true, Bool.not_eq_true', beq_eq_false_iff_ne, decide_eq_false_iff_not]
        trivial
  by_cases cB : cd t i = 66
  · have hx : c1 t i = Str.ofString "B" := c1_of cB (by kernel_rfl) (by decide)
    by_cases hp : cd t h = 78 ∨ cd t h = 90
    · have hhN : h < t.length := by rcases hp with q | q <;> exact in_of q (by decide)
      have hcat : (Str.ofString "B").length + (c1 t h).length ≤ sizeLine := by
        rw [c1_in (by omega), sizeLine_eq, show (Str.ofString "B").length = 1 by kernel_rfl]; show 1 + 1 ≤ 16777216; decide
      refine .inr ⟨.tup [.str (Str.ofString "B" ++ c1 t h)], c1 t i, h + 1, ?_, by omega, by omega, fun k hk => ?_⟩
      · rcases hp with q | q
        · rw [c1_of q (x := Str.ofString "N") (by kernel_rfl) (by decide), hx]; exact valOk_lit _ ⟨by kernel_rfl, by kernel_rfl, by kernel_rfl, by kernel_rfl⟩
        · rw [c1_of q (x := Str.ofString "Z") (by kernel_rfl) (by decide), hx]; exact valOk_lit _ ⟨by kernel_rfl, by kernel_rfl, by kernel_rfl, by kernel_rfl⟩
      · obtain ⟨k, rfl⟩ := six hk
        show Φ _ .control_at _ = _ ∧ Φ _ .lawControl _ = _; rw [hV, hLV]; unfold r_control_at r_lawControl
        rcases hp with q | q <;> simp only [e_C, e_Nil, e_Bin, e_Neg, e_Len, e_Ord, e_Max, e_Find, e_Idx, e_Slc, e_Cmp, e_tCmp, e_K, e_tK, e_Of, e_Not, e_And, e_Or, e_xAnd, e_xOr, e_xNot, e_Ite, e_aNil, e_aCons, e_Tup, e_Call, e_Assign, e_Unp, e_Swap, e_Aug, e_If, e_Ret, e_Cont, e_sNil, e_Cons, e_Raise, b_ok, b_exc, b_ite, t_ok, t_exc, t_ite, a_next, a_cont, a_ret, a_exc, a_ite, r_raise, k_true, k_sc, k_scn, n_add, n_sub, n_mul, n_neg, n_max, n_aug, n_find, m_eqi, m_nei, m_lt, m_gt, m_ge, m_eqn, m_eqs, m_nes, m_in, m_nin, m_isn, m_isi, p_tup, p_lt, u_tup, u_lt, u_rev, w_cons, w_nil, g_get, g_lst, bl, List.length_cons, List.length_nil, List.map_cons, List.map_nil, List.replicate_succ, List.replicate_zero, List.cons_append, List.nil_append, List.append_nil, List.set_cons_zero, List.set_cons_succ, List.getElem?_cons_zero, List.getElem?_cons_succ, scOf, List.reverse_cons, List.reverse_nil, Nat.reduceAdd, Nat.reduceLeDiff, Nat.reduceEqDiff, Bool.false_eq_true, if_true, if_false, reduceIte, decide_eq_true_eq, beq_iff_eq, bne_iff_ne, ne_eq, Bool.not_true, Bool.not_false, l_sp, l_sp', l_spn, l_dot, l_dot', l_dotn, l_E, l_E', l_En, l_I, l_I', l_In, l_F, l_F', l_Fn, l_D, l_D', l_Dn, l_G, l_G', l_Gn, l_L, l_L', l_Ln, l_A, l_A', l_An, l_q, l_q', l_qn, l_P, l_P', l_Pn, l_mi, l_mi', l_min, l_pl, l_pl', l_pln, l_sl, l_sl', l_sln, l_co, l_co', l_con, l_S, l_S', l_Sn, l_N, l_N', l_Nn, l_Z, l_Z', l_Zn, l_B, l_B', l_Bn, l_R, l_R', l_Rn, l_T, l_T', l_Tn, l_X, l_X', l_Xn, l_H, l_H', l_Hn, l_lp, l_lp', l_lpn, l_cm, l_cm', l_cmn, l_rp, l_rp', l_rpn, f_ret, f_exc, f_ite, g_suc, f_call, Int.reduceLE, Int.reduceNeg, Int.reduceLT, Bool.and_true, Bool.true_and, Bool.and_false, Bool.false_and, Bool.or_true, Bool.true_or, Bool.or_false, Bool.false_or, Nat.reduceBEq, Nat.reduceBNe, beq_self_eq_true, bne_self_eq_false, decide_true, decide_false, not_true_eq_false, not_false_eq_true, Bool.not_eq_true', beq_eq_false_iff_ne, decide_eq_false_iff_not, n_idx t i h0 hi hZ, n_idx t h hh hhN hZ, n_slc t h (h + 1) hh rfl hZ, hsl, cB, (a3 (k + 5) (by omega)).1, (a3 (k + 5) (by omega)).2, isat hN (k := k + 5) (by omega) hh, inTupR, List.any_cons, List.any_nil, q, n_cat _ _ hcat] <;> trivial
    · have kP := beq_eq_false_iff_ne.mpr (show cd t h ≠ 78 by omega)
      have kS := beq_eq_false_iff_ne.mpr (show cd t h ≠ 90 by omega)
      refine .inl ⟨i, .str (c1 t i), i, by omega, fun k hk => ?_⟩
      obtain ⟨k, rfl⟩ := six hk
      show Φ _ .control_at _ = _ ∧ Φ _ .lawControl _ = _; rw [hV, hLV]; unfold r_control_at r_lawControl
      simp only [e_C, e_Nil, e_Bin, e_Neg, e_Len, e_Ord, e_Max, e_Find, e_Idx, e_Slc, e_Cmp, e_tCmp, e_K, e_tK, e_Of, e_Not, e_And, e_Or, e_xAnd, e_xOr, e_xNot, e_Ite, e_aNil, e_aCons, e_Tup, e_Call, e_Assign, e_Unp, e_Swap, e_Aug, e_If, e_Ret, e_Cont, e_sNil, e_Cons, e_Raise, b_ok, b_exc, b_ite, t_ok, t_exc, t_ite, a_next, a_cont, a_ret, a_exc, a_ite, r_raise, k_true, k_sc, k_scn, n_add, n_sub, n_mul, n_neg, n_max, n_aug, n_find, m_eqi, m_nei, m_lt, m_gt, m_ge, m_eqn, m_eqs, m_nes, m_in, m_nin, m_isn, m_isi, p_tup, p_lt, u_tup, u_lt, u_rev, w_cons, w_nil, g_get, g_lst, bl, List.length_cons, List.length_nil, List.map_cons, List.map_nil, List.replicate_succ, List.replicate_zero, List.cons_append, List.nil_append, List.append_nil, List.set_cons_zero, List.set_cons_succ, List.getElem?_cons_zero, List.getElem?_cons_succ, scOf, List.reverse_cons, List.reverse_nil, Nat.reduceAdd, Nat.reduceLeDiff, Nat.reduceEqDiff, Bool.false_eq_true, if_true, if_false, reduceIte, decide_eq_true_eq, beq_iff_eq, bne_iff_ne, ne_eq, Bool.not_true, Bool.not_false, l_sp, l_sp', l_spn, l_dot, l_dot', l_dotn, l_E, l_E', l_En, l_I, l_I', l_In, l_F, l_F', l_Fn, l_D, l_D', l_Dn, l_G, l_G', l_Gn, l_L, l_L', l_Ln, l_A, l_A', l_An, l_q, l_q', l_qn, l_P, l_P', l_Pn, l_mi, l_mi', l_min, l_pl, l_pl', l_pln, l_sl, l_sl', l_sln, l_co, l_co', l_con, l_S, l_S', l_Sn, l_N, l_N', l_Nn, l_Z, l_Z', l_Zn, l_B, l_B', l_Bn, l_R, l_R', l_Rn, l_T, l_T', l_Tn, l_X, l_X', l_Xn, l_H, l_H', l_Hn, l_lp, l_lp', l_lpn, l_cm, l_cm', l_cmn, l_rp, l_rp', l_rpn, f_ret, f_exc, f_ite, g_suc, f_call, Int.reduceLE, Int.reduceNeg, Int.reduceLT, Bool.and_true, Bool.true_and, Bool.and_false, Bool.false_and, Bool.or_true, Bool.true_or, Bool.or_false, Bool.false_or, Nat.reduceBEq, Nat.reduceBNe, beq_self_eq_true, bne_self_eq_false, decide_true, decide_false, not_true_eq_false, not_false_eq_true, Bool.not_eq_true', beq_eq_false_iff_ne, decide_eq_false_iff_not, n_idx t i h0 hi hZ, n_slc t h (h + 1) hh rfl hZ, hsl, cB, (a3 (k + 5) (by omega)).1, (a3 (k + 5) (by omega)).2, isat hN (k := k + 5) (by omega) hh, inTupR, List.any_cons, List.any_nil, kP, kS]
      trivial
  by_cases cT : cd t i = 84
  · have hx : c1 t i = Str.ofString "T" := c1_of cT (by kernel_rfl) (by decide)
    by_cases hp : cd t h = 76 ∨ cd t h = 82
    · have hhN : h < t.length := by rcases hp with q | q <;> exact in_of q (by decide)
      have hcat : (Str.ofString "T").length + (c1 t h).length ≤ sizeLine := by
        rw [c1_in (by omega), sizeLine_eq, show (Str.ofString "T").length = 1 by kernel_rfl]; show 1 + 1 ≤ 16777216; decide
      obtain ⟨v, j, b1, b2, b3⟩ := sized hN (h + 1) 1 (by omega) (by omega) (by omega)
      rcases b3 with ⟨f, f0, b3⟩ | ⟨v1, v2, b3⟩
      · refine .inl ⟨f, .str (c1 t i), j, f0, fun k hk => ?_⟩
        obtain ⟨k, rfl⟩ := six hk
        show Φ _ .control_at _ = _ ∧ Φ _ .lawControl _ = _; rw [hV, hLV]; unfold r_control_at r_lawControl
        rcases hp with q | q <;> simp only [e_C, e_Nil, e_Bin, e_Neg, e_Len, e_Ord, e_Max, e_Find, e_Idx, e_Slc, e_Cmp, e_tCmp, e_K, e_tK, e_Of, e_Not, e_And, e_Or, e_xAnd, e_xOr, e_xNot, e_Ite, e_aNil, e_aCons, e_Tup, e_Call, e_Assign, e_Unp, e_Swap, e_Aug, e_If, e_Ret, e_Cont, e_sNil, e_Cons, e_Raise, b_ok, b_exc, b_ite, t_ok, t_exc, t_ite, a_next, a_cont, a_ret, a_exc, a_ite, r_raise, k_true, k_sc, k_scn, n_add, n_sub, n_mul, n_neg, n_max, n_aug, n_find, m_eqi, m_nei, m_lt, m_gt, m_ge, m_eqn, m_eqs, m_nes, m_in, m_nin, m_isn, m_isi, p_tup, p_lt, u_tup, u_lt, u_rev, w_cons, w_nil, g_get, g_lst, bl, List.length_cons, List.length_nil, List.map_cons, List.map_nil, List.replicate_succ, List.replicate_zero, List.cons_append, List.nil_append, List.append_nil, List.set_cons_zero, List.set_cons_succ, List.getElem?_cons_zero, List.getElem?_cons_succ, scOf, List.reverse_cons, List.reverse_nil, Nat.reduceAdd, Nat.reduceLeDiff, Nat.reduceEqDiff, Bool.false_eq_true, if_true, if_false, reduceIte, decide_eq_true_eq, beq_iff_eq, bne_iff_ne, ne_eq, Bool.not_true, Bool.not_false, l_sp, l_sp', l_spn, l_dot, l_dot', l_dotn, l_E, l_E', l_En, l_I, l_I', l_In, l_F, l_F', l_Fn, l_D, l_D', l_Dn, l_G, l_G', l_Gn, l_L, l_L', l_Ln, l_A, l_A', l_An, l_q, l_q', l_qn, l_P, l_P', l_Pn, l_mi, l_mi', l_min, l_pl, l_pl', l_pln, l_sl, l_sl', l_sln, l_co, l_co', l_con, l_S, l_S', l_Sn, l_N, l_N', l_Nn, l_Z, l_Z', l_Zn, l_B, l_B', l_Bn, l_R, l_R', l_Rn, l_T, l_T', l_Tn, l_X, l_X', l_Xn, l_H, l_H', l_Hn, l_lp, l_lp', l_lpn, l_cm, l_cm', l_cmn, l_rp, l_rp', l_rpn, f_ret, f_exc, f_ite, g_suc, f_call, Int.reduceLE, Int.reduceNeg, Int.reduceLT, Bool.and_true, Bool.true_and, Bool.and_false, Bool.false_and, Bool.or_true, Bool.true_or, Bool.or_false, Bool.false_or, Nat.reduceBEq, Nat.reduceBNe, beq_self_eq_true, bne_self_eq_false, decide_true, decide_false, not_true_eq_false, not_false_eq_true, Bool.not_eq_true', beq_eq_false_iff_ne, decide_eq_false_iff_not, n_idx t i h0 hi hZ, n_idx t h hh hhN hZ, n_slc t h (h + 1) hh rfl hZ, hsl, cT, (a3 (k + 5) (by omega)).1, (a3 (k + 5) (by omega)).2, isat hN (k := k + 5) (by omega) hh, inTupR, List.any_cons, List.any_nil, q, n_cat _ _ hcat, (b3 (k + 5) (by omega)).1, (b3 (k + 5) (by omega)).2] <;> trivial
      · refine .inr ⟨.tup [.str (Str.ofString "T" ++ c1 t h), .int v], c1 t i, j, ?_, by omega, by omega, fun k hk => ?_⟩
        · rcases hp with q | q
          · rw [c1_of q (x := Str.ofString "L") (by kernel_rfl) (by decide), hx]; exact valOk_lit _ ⟨by kernel_rfl, by kernel_rfl, by kernel_rfl, by kernel_rfl⟩
          · rw [c1_of q (x := Str.ofString "R") (by kernel_rfl) (by decide), hx]; exact valOk_lit _ ⟨by kernel_rfl, by kernel_rfl, by kernel_rfl, by kernel_rfl⟩
        · obtain ⟨k, rfl⟩ := six hk
          show Φ _ .control_at _ = _ ∧ Φ _ .lawControl _ = _; rw [hV, hLV]; unfold r_control_at r_lawControl
          rcases hp with q | q <;> simp only [e_C, e_Nil, e_Bin, e_Neg, e_Len, e_Ord, e_Max, e_Find, e_Idx, e_Slc, e_Cmp, e_tCmp, e_K, e_tK, e_Of, e_Not, e_And, e_Or, e_xAnd, e_xOr, e_xNot, e_Ite, e_aNil, e_aCons, e_Tup, e_Call, e_Assign, e_Unp, e_Swap, e_Aug, e_If, e_Ret, e_Cont, e_sNil, e_Cons, e_Raise, b_ok, b_exc, b_ite, t_ok, t_exc, t_ite, a_next, a_cont, a_ret, a_exc, a_ite, r_raise, k_true, k_sc, k_scn, n_add, n_sub, n_mul, n_neg, n_max, n_aug, n_find, m_eqi, m_nei, m_lt, m_gt, m_ge, m_eqn, m_eqs, m_nes, m_in, m_nin, m_isn, m_isi, p_tup, p_lt, u_tup, u_lt, u_rev, w_cons, w_nil, g_get, g_lst, bl, List.length_cons, List.length_nil, List.map_cons, List.map_nil, List.replicate_succ, List.replicate_zero, List.cons_append, List.nil_append, List.append_nil, List.set_cons_zero, List.set_cons_succ, List.getElem?_cons_zero, List.getElem?_cons_succ, scOf, List.reverse_cons, List.reverse_nil, Nat.reduceAdd, Nat.reduceLeDiff, Nat.reduceEqDiff, Bool.false_eq_true, if_true, if_false, reduceIte, decide_eq_true_eq, beq_iff_eq, bne_iff_ne, ne_eq, Bool.not_true, Bool.not_false, l_sp, l_sp', l_spn, l_dot, l_dot', l_dotn, l_E, l_E', l_En, l_I, l_I', l_In, l_F, l_F', l_Fn, l_D, l_D', l_Dn, l_G, l_G', l_Gn, l_L, l_L', l_Ln, l_A, l_A', l_An, l_q, l_q', l_qn, l_P, l_P', l_Pn, l_mi, l_mi', l_min, l_pl, l_pl', l_pln, l_sl, l_sl', l_sln, l_co, l_co', l_con, l_S, l_S', l_Sn, l_N, l_N', l_Nn, l_Z, l_Z', l_Zn, l_B, l_B', l_Bn, l_R, l_R', l_Rn, l_T, l_T', l_Tn, l_X, l_X', l_Xn, l_H, l_H', l_Hn, l_lp, l_lp', l_lpn, l_cm, l_cm', l_cmn, l_rp, l_rp', l_rpn, f_ret, f_exc, f_ite, g_suc, f_call, Int.reduceLE, Int.reduceNeg, Int.reduceLT, Bool.and_true, Bool.true_and, Bool.and_false, Bool.false_and, Bool.or_true, Bool.true_or, Bool.or_false, Bool.false_or, Nat.reduceBEq, Nat.reduceBNe, beq_self_eq_true, bne_self_eq_false, decide_true, decide_false, not_true_eq_false, not_false_eq_true, Bool.not_eq_true', beq_eq_false_iff_ne, decide_eq_false_iff_not, n_idx t i h0 hi hZ, n_idx t h hh hhN hZ, n_slc t h (h + 1) hh rfl hZ, hsl, cT, (a3 (k + 5) (by omega)).1, (a3 (k + 5) (by omega)).2, isat hN (k := k + 5) (by omega) hh, inTupR, List.any_cons, List.any_nil, q, n_cat _ _ hcat, (b3 (k + 5) (by omega)).1, (b3 (k + 5) (by omega)).2] <;> trivial
    · have kP := beq_eq_false_iff_ne.mpr (show cd t h ≠ 76 by omega)
      have kS := beq_eq_false_iff_ne.mpr (show cd t h ≠ 82 by omega)
      obtain ⟨v, j, b1, b2, b3⟩ := sized hN h 1 (by omega) (by omega) (by omega)
      rcases b3 with ⟨f, f0, b3⟩ | ⟨v1, v2, b3⟩
      · refine .inl ⟨f, .str (c1 t i), j, f0, fun k hk => ?_⟩
        obtain ⟨k, rfl⟩ := six hk
        show Φ _ .control_at _ = _ ∧ Φ _ .lawControl _ = _; rw [hV, hLV]; unfold r_control_at r_lawControl
        simp only [e_C, e_Nil, e_Bin, e_Neg, e_Len, e_Ord, e_Max, e_Find, e_Idx, e_Slc, e_Cmp, e_tCmp, e_K, e_tK, e_Of, e_Not, e_And, e_Or, e_xAnd, e_xOr, e_xNot, e_Ite, e_aNil, e_aCons, e_Tup, e_Call, e_Assign, e_Unp, e_Swap, e_Aug, e_If, e_Ret, e_Cont, e_sNil, e_Cons, e_Raise, b_ok, b_exc, b_ite, t_ok, t_exc, t_ite, a_next, a_cont, a_ret, a_exc, a_ite, r_raise, k_true, k_sc, k_scn, n_add, n_sub, n_mul, n_neg, n_max, n_aug, n_find, m_eqi, m_nei, m_lt, m_gt, m_ge, m_eqn, m_eqs, m_nes, m_in, m_nin, m_isn, m_isi, p_tup, p_lt, u_tup, u_lt, u_rev, w_cons, w_nil, g_get, g_lst, bl, List.length_cons, List.length_nil, List.map_cons, List.map_nil, List.replicate_succ, List.replicate_zero, List.cons_append, List.nil_append, List.append_nil, List.set_cons_zero, List.set_cons_succ, List.getElem?_cons_zero, List.getElem?_cons_succ, scOf, List.reverse_cons, List.reverse_nil, Nat.reduceAdd, Nat.reduceLeDiff, Nat.reduceEqDiff, Bool.false_eq_true, if_true, if_false, reduceIte, decide_eq_true_eq, beq_iff_eq, bne_iff_ne, ne_eq, Bool.not_true, Bool.not_false, l_sp, l_sp', l_spn, l_dot, l_dot', l_dotn, l_E, l_E', l_En, l_I, l_I', l_In, l_F, l_F', l_Fn, l_D, l_D', l_Dn, l_G, l_G', l_Gn, l_L, l_L', l_Ln, l_A, l_A', l_An, l_q, l_q', l_qn, l_P, l_P', l_Pn, l_mi, l_mi', l_min, l_pl, l_pl', l_pln, l_sl, l_sl', l_sln, l_co, l_co', l_con, l_S, l_S', l_Sn, l_N, l_N', l_Nn, l_Z, l_Z', l_Zn, l_B, l_B', l_Bn, l_R, l_R', l_Rn, l_T, l_T', l_Tn, l_X, l_X', l_Xn, l_H, l_H', l_Hn, l_lp, l_lp', l_lpn, l_cm, l_cm', l_cmn, l_rp, l_rp', l_rpn, f_ret, f_exc, f_ite, g_suc, f_call, Int.reduceLE, Int.reduceNeg, Int.reduceLT, Bool.and_true, Bool.true_and, Bool.and_false, Bool.false_and, Bool.or_true, Bool.true_or, Bool.or_false, Bool.false_or, Nat.reduceBEq, Nat.reduceBNe, beq_self_eq_true, bne_self_eq_false, decide_true, decide_false, not_true_eq_false, not_false_eq_true, Bool.not_eq_true', beq_eq_false_iff_ne, decide_eq_false_iff_not, n_idx t i h0 hi hZ, n_slc t h (h + 1) hh rfl hZ, hsl, cT, (a3 (k + 5) (by omega)).1, (a3 (k + 5) (by omega)).2, isat hN (k := k + 5) (by omega) hh, inTupR, List.any_cons, List.any_nil, kP, kS, (b3 (k + 5) (by omega)).1, (b3 (k + 5) (by omega)).2]
        trivial
      · refine .inr ⟨.tup [.str (Str.ofString "T"), .int v], c1 t i, j, ?_, by omega, by omega, fun k hk => ?_⟩
        · rw [hx]; exact valOk_lit _ ⟨by kernel_rfl, by kernel_rfl, by kernel_rfl, by kernel_rfl⟩
        · obtain ⟨k, rfl⟩ := six hk
          show Φ _ .control_at _ = _ ∧ Φ _ .lawControl _ = _; rw [hV, hLV]; unfold r_control_at r_lawControl
          simp only [e_C, e_Nil, e_Bin, e_Neg, e_Len, e_Ord, e_Max, e_Find, e_Idx, e_Slc, e_Cmp, e_tCmp, e_K, e_tK, e_Of, e_Not, e_And, e_Or, e_xAnd, e_xOr, e_xNot, e_Ite, e_aNil, e_aCons, e_Tup, e_Call, e_Assign, e_Unp, e_Swap, e_Aug, e_If, e_Ret, e_Cont, e_sNil, e_Cons, e_Raise, b_ok, b_exc, b_ite, t_ok, t_exc, t_ite, a_next, a_cont, a_ret, a_exc, a_ite, r_raise, k_true, k_sc, k_scn, n_add, n_sub, n_mul, n_neg, n_max, n_aug, n_find, m_eqi, m_nei, m_lt, m_gt, m_ge, m_eqn, m_eqs, m_nes, m_in, m_nin, m_isn, m_isi, p_tup, p_lt, u_tup, u_lt, u_rev, w_cons, w_nil, g_get, g_lst, bl, List.length_cons, List.length_nil, List.map_cons, List.map_nil, List.replicate_succ, List.replicate_zero, List.cons_append, List.nil_append, List.append_nil, List.set_cons_zero, List.set_cons_succ, List.getElem?_cons_zero, List.getElem?_cons_succ, scOf, List.reverse_cons, List.reverse_nil, Nat.reduceAdd, Nat.reduceLeDiff, Nat.reduceEqDiff, Bool.false_eq_true, if_true, if_false, reduceIte, decide_eq_true_eq, beq_iff_eq, bne_iff_ne, ne_eq, Bool.not_true, Bool.not_false, l_sp, l_sp', l_spn, l_dot, l_dot', l_dotn, l_E, l_E', l_En, l_I, l_I', l_In, l_F, l_F', l_Fn, l_D, l_D', l_Dn, l_G, l_G', l_Gn, l_L, l_L', l_Ln, l_A, l_A', l_An, l_q, l_q', l_qn, l_P, l_P', l_Pn, l_mi, l_mi', l_min, l_pl, l_pl', l_pln, l_sl, l_sl', l_sln, l_co, l_co', l_con, l_S, l_S', l_Sn, l_N, l_N', l_Nn, l_Z, l_Z', l_Zn, l_B, l_B', l_Bn, l_R, l_R', l_Rn, l_T, l_T', l_Tn, l_X, l_X', l_Xn, l_H, l_H', l_Hn, l_lp, l_lp', l_lpn, l_cm, l_cm', l_cmn, l_rp, l_rp', l_rpn, f_ret, f_exc, f_ite, g_suc, f_call, Int.reduceLE, Int.reduceNeg, Int.reduceLT, Bool.and_true, Bool.true_and, Bool.and_false, Bool.false_and, Bool.or_true, Bool.true_or, Bool.or_false, Bool.false_or, Nat.reduceBEq, Nat.reduceBNe, beq_self_eq_true, bne_self_eq_false, decide_true, decide_false, not_true_eq_false, not_false_eq_true, Bool.not_eq_true', beq_eq_false_iff_ne, decide_eq_false_iff_not, n_idx t i h0 hi hZ, n_slc t h (h + 1) hh rfl hZ, hsl, cT, (a3 (k + 5) (by omega)).1, (a3 (k + 5) (by omega)).2, isat hN (k := k + 5) (by omega) hh, inTupR, List.any_cons, List.any_nil, kP, kS, (b3 (k + 5) (by omega)).1, (b3 (k + 5) (by omega)).2]
          trivial
  refine .inl ⟨i, .str (c1 t i), i, by omega, fun k hk => ?_⟩
  obtain ⟨k, rfl⟩ := six hk
  have q1 := beq_eq_false_iff_ne.mpr k47
  have q2 := beq_eq_false_iff_ne.mpr k58
  have q3 := beq_eq_false_iff_ne.mpr cS
  have q4 := beq_eq_false_iff_ne.mpr cB
  have q5 := beq_eq_false_iff_ne.mpr cT
  show Φ _ .control_at _ = _ ∧ Φ _ .lawControl _ = _; rw [hV, hLV]; unfold r_control_at r_lawControl
  simp only [e_C, e_Nil, e_Bin, e_Neg, e_Len, e_Ord, e_Max, e_Find, e_Idx, e_Slc, e_Cmp, e_tCmp, e_K, e_tK, e_Of, e_Not, e_And, e_Or, e_xAnd, e_xOr, e_xNot, e_Ite, e_aNil, e_aCons, e_Tup, e_Call, e_Assign, e_Unp, e_Swap, e_Aug, e_If, e_Ret, e_Cont, e_sNil, e_Cons, e_Raise, b_ok, b_exc, b_ite, t_ok, t_exc, t_ite, a_next, a_cont, a_ret, a_exc, a_ite, r_raise, k_true, k_sc, k_scn, n_add, n_sub, n_mul, n_neg, n_max, n_aug, n_find, m_eqi, m_nei, m_lt, m_gt, m_ge, m_eqn, m_eqs, m_nes, m_in, m_nin, m_isn, m_isi, p_tup, p_lt, u_tup, u_lt, u_rev, w_cons, w_nil, g_get, g_lst, bl, List.length_cons, List.length_nil, List.map_cons, List.map_nil, List.replicate_succ, List.replicate_zero, List.cons_append, List.nil_append, List.append_nil, List.set_cons_zero, List.set_cons_succ, List.getElem?_cons_zero, List.getElem?_cons_succ, scOf, List.reverse_cons, List.reverse_nil, Nat.reduceAdd, Nat.reduceLeDiff, Nat.reduceEqDiff, Bool.false_eq_true, if_true, if_false, reduceIte, decide_eq_true_eq, beq_iff_eq, bne_iff_ne, ne_eq, Bool.not_true, Bool.not_false, l_sp, l_sp', l_spn, l_dot, l_dot', l_dotn, l_E, l_E', l_En, l_I, l_I', l_In, l_F, l_F', l_Fn, l_D, l_D', l_Dn, l_G, l_G', l_Gn, l_L, l_L', l_Ln, l_A, l_A', l_An, l_q, l_q', l_qn, l_P, l_P', l_Pn, l_mi, l_mi', l_min, l_pl, l_pl', l_pln, l_sl, l_sl', l_sln, l_co, l_co', l_con, l_S, l_S', l_Sn, l_N, l_N', l_Nn, l_Z, l_Z', l_Zn, l_B, l_B', l_Bn, l_R, l_R', l_Rn, l_T, l_T', l_Tn, l_X, l_X', l_Xn, l_H, l_H', l_Hn, l_lp, l_lp', l_lpn, l_cm, l_cm', l_cmn, l_rp, l_rp', l_rpn, f_ret, f_exc, f_ite, g_suc, f_call, Int.reduceLE, Int.reduceNeg, Int.reduceLT, Bool.and_true, Bool.true_and, Bool.and_false, Bool.false_and, Bool.or_true, Bool.true_or, Bool.or_false, Bool.false_or, Nat.reduceBEq, Nat.reduceBNe, beq_self_eq_true, bne_self_eq_false, decide_true, decide_false, not_true_eq_false, not_false_eq_true, Bool.not_eq_true', beq_eq_false_iff_ne, decide_eq_false_iff_not, n_idx t i h0 hi hZ, hsl, q1, q2, q3, q4, q5, (a3 (k + 5) (by omega)).1, (a3 (k + 5) (by omega)).2]
  trivial
end Mine

namespace Mine
open PySem PySem.W PyProof.Rows PySem.Calls PySem.SeqAt PySem.Builtin.Str
variable {t : Str}
theorem n_augs (x y : Str) (h : x.length + y.length ≤ sizeLine) : augR (.sc (.str x)) (.sc (.str y)) = .ok (.sc (.str (x ++ y))) := by simp only [augR]; rw [if_pos h]
theorem len_cat (x y : Str) : (x ++ y).length = x.length + y.length := by
  show (x.cps ++ y.cps).size = _
  rw [Array.size_append]; rfl
theorem cat_ne {x y : Str} (h : 0 < y.length) : ((x ++ y) == Str.ofString "") = false := by
  rw [beq_eq_false_iff_ne]
  intro q
  have := congrArg Str.length q
  rw [len_cat, show (Str.ofString "").length = 0 by kernel_rfl] at this
  omega
theorem len_c1 {i : Int} (h0 : 0 ≤ i) (h : i < t.length) : (c1 t i).length = 1 := by rw [c1_in (by omega)]; rfl

noncomputable abbrev quoT : XB := (tCmp .lt (getL 3) (xLen (getL 0)))
noncomputable abbrev quoB (φ : Phi) : XS := (sCons (sIf (tCmp .ne (xIdx (getL 0) (getL 3)) (xC (.str (Str.ofString "'")))) (sCons (sAug 2 (xIdx (getL 0) (getL 3))) (sCons (sAug 3 (xC (.int 1))) sNil)) (sCons (sIf (tOf (xCall (φ .is_at) (aCons (getL 0) (aCons (xBin .add (getL 3) (xC (.int 1))) (aCons (xC (.str (Str.ofString "'"))) aNil))))) (sCons (sAug 2 (xC (.str (Str.ofString "'")))) (sCons (sAug 3 (xC (.int 2))) sNil)) (sCons (sIf (tCmp .eq (getL 2) (xC (.str (Str.ofString "")))) (sCons (sRaise (getL 1)) sNil) sNil) (sCons (sRet (xTup (aCons (xTup (aCons (xC (.str (Str.ofString "H"))) (aCons (getL 2) aNil))) (aCons (xBin .add (getL 3) (xC (.int 1))) aNil)))) sNil))) sNil)) sNil)
noncomputable abbrev lquT : XB := (tCmp .lt (getL 2) (xLen (getL 0)))
noncomputable abbrev lquB : XS := (sCons (sIf (tAnd (tCmp .eq (xIdx (getL 0) (getL 2)) (xC (.str (Str.ofString "'")))) (tCmp .ne (xSlc (getL 0) (xBin .add (getL 2) (xC (.int 1))) (xBin .add (getL 2) (xC (.int 2)))) (xC (.str (Str.ofString "'"))))) (sCons (sRet (xTup (aCons (xC (.str (Str.ofString "H"))) (aCons (xBin .add (getL 2) (xC (.int 1))) (aCons (xIte (tCmp .eq (getL 2) (xBin .add (getL 1) (xC (.int 1)))) (getL 1) (xNeg (xC (.int 1)))) aNil))))) sNil) sNil) (sCons (sAssign 2 (xBin .add (getL 2) (xIte (tCmp .eq (xIdx (getL 0) (getL 2)) (xC (.str (Str.ofString "'")))) (xC (.int 2)) (xC (.int 1))))) sNil))

theorem quoP (hN : t.length ≤ 2000) (i : Int) (i0 : 0 ≤ i) : ∀ (n : Nat) (h : Int) (out : Str), i < h → h ≤ t.length → t.length - h < n → out.length ≤ h → (out == Str.ofString "") = decide (h = i + 1) →
    (∃ a j, ∀ k m, 1 ≤ k → n ≤ m → loopR m quoT (quoB (Φ k)) [.sc (.str t), .sc (.int i), .sc (.str out), .sc (.int h)] = .exc i ∧
        loopR m lquT lquB [.sc (.str t), .sc (.int i), .sc (.int h)] = .ret (.sc (.tup [a, .int j, .int i]))) ∨
    (∃ o' j j', ∀ k m, 1 ≤ k → n ≤ m → loopR m quoT (quoB (Φ k)) [.sc (.str t), .sc (.int i), .sc (.str out), .sc (.int h)] = .next [.sc (.str t), .sc (.int i), o', j'] ∧
        loopR m lquT lquB [.sc (.str t), .sc (.int i), .sc (.int h)] = .next [.sc (.str t), .sc (.int i), .sc (.int j)]) ∨
    (∃ o j, i < j ∧ j < t.length ∧ ∀ k m, 1 ≤ k → n ≤ m → loopR m quoT (quoB (Φ k)) [.sc (.str t), .sc (.int i), .sc (.str out), .sc (.int h)] = .ret (.sc (.tup [.tup [.str (Str.ofString "H"), .str o], .int (j + 1)])) ∧
        loopR m lquT lquB [.sc (.str t), .sc (.int i), .sc (.int h)] = .ret (.sc (.tup [.str (Str.ofString "H"), .int (j + 1), .int (-1)])))
  | 0, h, out, _, _, q, _, _ => by omega
  | n + 1, h, out, h1, h2, h3, h4, h5 => by
    have hZ : t.length ≤ sizeLine := by rw [sizeLine_eq]; omega
    have hh : 0 ≤ h := by omega
    have hh1 : 0 ≤ h + 1 := by omega
    have hq1 : (Str.ofString "'").length = 1 := by kernel_rfl
    by_cases hi : h < t.length
    · have hl1 := len_c1 (t := t) hh hi
      by_cases hc : cd t h = 39
      · by_cases hd : cd t (h + 1) = 39
        · have hd2 := in_of hd (by decide)
          have hs : out.length + (Str.ofString "'").length ≤ sizeLine := by rw [sizeLine_eq]; omega
          have ih := quoP hN i i0 n (h + 2) (out ++ Str.ofString "'") (by omega) (by omega) (by omega) (by rw [len_cat]; omega) (by rw [cat_ne (by omega)]; symm; rw [decide_eq_false_iff_not]; omega)
          rcases ih with ⟨a, j, ih⟩ | ⟨o', j, j', ih⟩ | ⟨o, j, j1, j2, ih⟩
          · refine .inl ⟨a, j, fun k m hk hm => ?_⟩
            obtain ⟨m, rfl⟩ : ∃ m', m = m' + 1 := ⟨m - 1, by omega⟩
            obtain ⟨q1, q2⟩ := ih k m hk (by omega)
            rw [loopR, loopR]
            simp only [e_C, e_Nil, e_Bin, e_Neg, e_Len, e_Ord, e_Max, e_Find, e_Idx, e_Slc, e_Cmp, e_tCmp, e_K, e_tK, e_Of, e_Not, e_And, e_Or, e_xAnd, e_xOr, e_xNot, e_Ite, e_aNil, e_aCons, e_Tup, e_Call, e_Assign, e_Unp, e_Swap, e_Aug, e_If, e_Ret, e_Cont, e_sNil, e_Cons, e_Raise, b_ok, b_exc, b_ite, t_ok, t_exc, t_ite, a_next, a_cont, a_ret, a_exc, a_ite, r_raise, k_true, k_sc, k_scn, n_add, n_sub, n_mul, n_neg, n_max, n_aug, n_find, m_eqi, m_nei, m_lt, m_gt, m_ge, m_eqn, m_eqs, m_nes, m_in, m_nin, m_isn, m_isi, p_tup, p_lt, u_tup, u_lt, u_rev, w_cons, w_nil, g_get, g_lst, bl, List.length_cons, List.length_nil, List.map_cons, List.map_nil, List.replicate_succ, List.replicate_zero, List.cons_append, List.nil_append, List.append_nil, List.set_cons_zero, List.set_cons_succ, List.getElem?_cons_zero, List.getElem?_cons_succ, scOf, List.reverse_cons, List.reverse_nil, Nat.reduceAdd, Nat.reduceLeDiff, Nat.reduceEqDiff, Bool.false_eq_true, if_true, if_false, reduceIte, decide_eq_true_eq, beq_iff_eq, bne_iff_ne, ne_eq, Bool.not_true, Bool.not_false, l_sp, l_sp', l_spn, l_dot, l_dot', l_dotn, l_E, l_E', l_En, l_I, l_I', l_In, l_F, l_F', l_Fn, l_D, l_D', l_Dn, l_G, l_G', l_Gn, l_L, l_L', l_Ln, l_A, l_A', l_An, l_q, l_q', l_qn, l_P, l_P', l_Pn, l_mi, l_mi', l_min, l_pl, l_pl', l_pln, l_sl, l_sl', l_sln, l_co, l_co', l_con, l_S, l_S', l_Sn, l_N, l_N', l_Nn, l_Z, l_Z', l_Zn, l_B, l_B', l_Bn, l_R, l_R', l_Rn, l_T, l_T', l_Tn, l_X, l_X', l_Xn, l_H, l_H', l_Hn, l_lp, l_lp', l_lpn, l_cm, l_cm', l_cmn, l_rp, l_rp', l_rpn, f_ret, f_exc, f_ite, g_suc, f_call, Int.reduceLE, Int.reduceNeg, Int.reduceLT, Bool.and_true, Bool.true_and, Bool.and_false, Bool.false_and, Bool.or_true, Bool.true_or, Bool.or_false, Bool.false_or, Nat.reduceBEq, Nat.reduceBNe, beq_self_eq_true, bne_self_eq_false, decide_true, decide_false, not_true_eq_false, not_false_eq_true, Bool.not_eq_true', beq_eq_false_iff_ne, decide_eq_false_iff_not, n_len t hZ, n_idx t h hh hi hZ, n_slc t (h + 1) (h + 2) hh1 (by omega) hZ, hi, hc, hd, isat hN hk hh1, n_augs _ _ hs]
            exact ⟨q1, q2⟩
          · refine .inr (.inl ⟨o', j, j', fun k m hk hm => ?_⟩)
            obtain ⟨m, rfl⟩ : ∃ m', m = m' + 1 := ⟨m - 1, by omega⟩
            obtain ⟨q1, q2⟩ := ih k m hk (by omega)
            rw [loopR, loopR]
            simp only [e_C, e_Nil, e_Bin, e_Neg, e_Len, e_Ord, e_Max, e_Find, e_Idx, e_Slc, e_Cmp, e_tCmp, e_K, e_tK, e_Of, e_Not, e_And, e_Or, e_xAnd, e_xOr, e_xNot, e_Ite, e_aNil, e_aCons, e_Tup, e_Call, e_Assign, e_Unp, e_Swap, e_Aug, e_If, e_Ret, e_Cont, e_sNil, e_Cons, e_Raise, b_ok, b_exc, b_ite, t_ok, t_exc, t_ite, a_next, a_cont, a_ret, a_exc, a_ite, r_raise, k_true, k_sc, k_scn, n_add, n_sub, n_mul, n_neg, n_max, n_aug, n_find, m_eqi, m_nei, m_lt, m_gt, m_ge, m_eqn, m_eqs, m_nes, m_in, m_nin, m_isn, m_isi, p_tup, p_lt, u_tup, u_lt, u_rev, w_cons, w_nil, g_get, g_lst, bl, List.length_cons, List.length_nil, List.map_cons, List.map_nil, List.replicate_succ, List.replicate_zero, List.cons_append, List.nil_append, List.append_nil, List.set_cons_zero, List.set_cons_succ, List.getElem?_cons_zero, List.getElem?_cons_succ, scOf, List.reverse_cons, List.reverse_nil, Nat.reduceAdd, Nat.reduceLeDiff, Nat.reduceEqDiff, Bool.false_eq_true, if_true, if_false, reduceIte, decide_eq_true_eq, beq_iff_eq, bne_iff_ne, ne_eq, Bool.not_true, Bool.not_false, l_sp, l_sp', l_spn, l_dot, l_dot', l_dotn, l_E, l_E', l_En, l_I, l_I', l_In, l_F, l_F', l_Fn, l_D, l_D', l_Dn, l_G, l_G', l_Gn, l_L, l_L', l_Ln, l_A, l_A', l_An, l_q, l_q', l_qn, l_P, l_P', l_Pn, l_mi, l_mi', l_min, l_pl, l_pl', l_pln, l_sl, l_sl', l_sln, l_co, l_co', l_con, l_S, l_S', l_Sn, l_N, l_N', l_Nn, l_Z, l_Z', l_Zn, l_B, l_B', l_Bn, l_R, l_R', l_Rn, l_T, l_T', l_Tn, l_X, l_X', l_Xn, l_H, l_H', l_Hn, l_lp, l_lp', l_lpn, l_cm, l_cm', l_cmn, l_rp, l_rp', l_rpn, f_ret, f_exc, f_ite, g_suc, f_call, Int.reduceLE, Int.reduceNeg, Int.reduceLT, Bool.and_true, Bool.true_and, Bool.and_false, Bool.false_and, Bool.or_true, Bool.true_or, Bool.or_false, Bool.false_or, Nat.reduceBEq, Nat.reduceBNe, beq_self_eq_true, bne_self_eq_false, decide_true, decide_false, not_true_eq_false, not_false_eq_true, Bool.not_eq_true', beq_eq_false_iff_ne, decide_eq_false_iff_not, n_len t hZ, n_idx t h hh hi hZ, n_slc t (h + 1) (h + 2) hh1 (by omega) hZ, hi, hc, hd, isat hN hk hh1, n_augs _ _ hs]
            exact ⟨q1, q2⟩
          · refine .inr (.inr ⟨o, j, j1, j2, fun k m hk hm => ?_⟩)
            obtain ⟨m, rfl⟩ : ∃ m', m = m' + 1 := ⟨m - 1, by omega⟩
            obtain ⟨q1, q2⟩ := ih k m hk (by omega)
            rw [loopR, loopR]
            simp only [e_C, e_Nil, e_Bin, e_Neg, e_Len, e_Ord, e_Max, e_Find, e_Idx, e_Slc, e_Cmp, e_tCmp, e_K, e_tK, e_Of, e_Not, e_And, e_Or, e_xAnd, e_xOr, e_xNot, e_Ite, e_aNil, e_aCons, e_Tup, e_Call, e_Assign, e_Unp, e_Swap, e_Aug, e_If, e_Ret, e_Cont, e_sNil, e_Cons, e_Raise, b_ok, b_exc, b_ite, t_ok, t_exc, t_ite, a_next, a_cont, a_ret, a_exc, a_ite, r_raise, k_true, k_sc, k_scn, n_add, n_sub, n_mul, n_neg, n_max, n_aug, n_find, m_eqi, m_nei, m_lt, m_gt, m_ge, m_eqn, m_eqs, m_nes, m_in, m_nin, m_isn, m_isi, p_tup, p_lt, u_tup, u_lt, u_rev, w_cons, w_nil, g_get, g_lst, bl, List.length_cons, List.length_nil, List.map_cons, List.map_nil, List.replicate_succ, List.replicate_zero, List.cons_append, List.nil_append, List.append_nil, List.set_cons_zero, List.set_cons_succ, List.getElem?_cons_zero, List.getElem?_cons_succ, scOf, List.reverse_cons, List.reverse_nil, Nat.reduceAdd, Nat.reduceLeDiff, Nat.reduceEqDiff, Bool.false_eq_true, if_true, if_false, reduceIte, decide_eq_true_eq, beq_iff_eq, bne_iff_ne, ne_eq, Bool.not_true, Bool.not_false, l_sp, l_sp', l_spn, l_dot, l_dot', l_dotn, l_E, l_E', l_En, l_I, l_I', l_In, l_F, l_F', l_Fn, l_D, l_D', l_Dn, l_G, l_G', l_Gn, l_L, l_L', l_Ln, l_A, l_A', l_An, l_q, l_q', l_qn, l_P, l_P', l_Pn, l_mi, l_mi', l_min, l_pl, l_pl', l_pln, l_sl, l_sl', l_sln, l_co, l_co', l_con, l_S, l_S', l_Sn, l_N, l_N', l_Nn, l_Z, l_Z', l_Zn, l_B, l_B', l_Bn, l_R, l_R', l_Rn, l_T, l_T', l_Tn, l_X, l_X', l_Xn, l_H, l_H', l_Hn, l_lp, l_lp', l_lpn, l_cm, l_cm', l_cmn, l_rp, l_rp', l_rpn, f_ret, f_exc, f_ite, g_suc, f_call, Int.reduceLE, Int.reduceNeg, Int.reduceLT, Bool.and_true, Bool.true_and, Bool.and_false, Bool.false_and, Bool.or_true, Bool.true_or, Bool.or_false, Bool.false_or, Nat.reduceBEq, Nat.reduceBNe, beq_self_eq_true, bne_self_eq_false, decide_true, decide_false, not_true_eq_false, not_false_eq_true, Bool.not_eq_true', beq_eq_false_iff_ne, decide_eq_false_iff_not, n_len t hZ, n_idx t h hh hi hZ, n_slc t (h + 1) (h + 2) hh1 (by omega) hZ, hi, hc, hd, isat hN hk hh1, n_augs _ _ hs]
            exact ⟨q1, q2⟩
        · by_cases he : h = i + 1
          · refine .inl ⟨.str (Str.ofString "H"), h + 1, fun k m hk hm => ?_⟩
            obtain ⟨m, rfl⟩ : ∃ m', m = m' + 1 := ⟨m - 1, by omega⟩
            rw [loopR, loopR]
            have he' : (out == Str.ofString "") = true := by rw [h5, decide_eq_true he]
            have he2 : (h == i + 1) = true := beq_iff_eq.mpr he
            have hd' : (cd t (h + 1) == 39) = false := beq_eq_false_iff_ne.mpr hd
            have he3 := beq_iff_eq.mp he'
            simp only [e_C, e_Nil, e_Bin, e_Neg, e_Len, e_Ord, e_Max, e_Find, e_Idx, e_Slc, e_Cmp, e_tCmp, e_K, e_tK, e_Of, e_Not, e_And, e_Or, e_xAnd, e_xOr, e_xNot, e_Ite, e_aNil, e_aCons, e_Tup, e_Call, e_Assign, e_Unp, e_Swap, e_Aug, e_If, e_Ret, e_Cont, e_sNil, e_Cons, e_Raise, b_ok, b_exc, b_ite, t_ok, t_exc, t_ite, a_next, a_cont, a_ret, a_exc, a_ite, r_raise, k_true, k_sc, k_scn, n_add, n_sub, n_mul, n_neg, n_max, n_aug, n_find, m_eqi, m_nei, m_lt, m_gt, m_ge, m_eqn, m_eqs, m_nes, m_in, m_nin, m_isn, m_isi, p_tup, p_lt, u_tup, u_lt, u_rev, w_cons, w_nil, g_get, g_lst, bl, List.length_cons, List.length_nil, List.map_cons, List.map_nil, List.replicate_succ, List.replicate_zero, List.cons_append, List.nil_append, List.append_nil, List.set_cons_zero, List.set_cons_succ, List.getElem?_cons_zero, List.getElem?_cons_succ, scOf, List.reverse_cons, List.reverse_nil, Nat.reduceAdd, Nat.reduceLeDiff, Nat.reduceEqDiff, Bool.false_eq_true, if_true, if_false, reduceIte, decide_eq_true_eq, beq_iff_eq, bne_iff_ne, ne_eq, Bool.not_true, Bool.not_false, l_sp, l_sp', l_spn, l_dot, l_dot', l_dotn, l_E, l_E', l_En, l_I, l_I', l_In, l_F, l_F', l_Fn, l_D, l_D', l_Dn, l_G, l_G', l_Gn, l_L, l_L', l_Ln, l_A, l_A', l_An, l_q, l_q', l_qn, l_P, l_P', l_Pn, l_mi, l_mi', l_min, l_pl, l_pl', l_pln, l_sl, l_sl', l_sln, l_co, l_co', l_con, l_S, l_S', l_Sn, l_N, l_N', l_Nn, l_Z, l_Z', l_Zn, l_B, l_B', l_Bn, l_R, l_R', l_Rn, l_T, l_T', l_Tn, l_X, l_X', l_Xn, l_H, l_H', l_Hn, l_lp, l_lp', l_lpn, l_cm, l_cm', l_cmn, l_rp, l_rp', l_rpn, f_ret, f_exc, f_ite, g_suc, f_call, Int.reduceLE, Int.reduceNeg, Int.reduceLT, Bool.and_true, Bool.true_and, Bool.and_false, Bool.false_and, Bool.or_true, Bool.true_or, Bool.or_false, Bool.false_or, Nat.reduceBEq, Nat.reduceBNe, beq_self_eq_true, bne_self_eq_false, decide_true, decide_false, not_true_eq_false, not_false_eq_true, Bool.not_eq_true', beq_eq_false_iff_ne, decide_eq_false_iff_not, n_len t hZ, n_idx t h hh hi hZ, n_slc t (h + 1) (h + 2) hh1 (by omega) hZ, hi, hc, hd, hd', isat hN hk hh1, he3, ← he]
            trivial
          · refine .inr (.inr ⟨out, h, h1, hi, fun k m hk hm => ?_⟩)
            obtain ⟨m, rfl⟩ : ∃ m', m = m' + 1 := ⟨m - 1, by omega⟩
            rw [loopR, loopR]
            have he' : (out == Str.ofString "") = false := by rw [h5, decide_eq_false he]
            have hd' : (cd t (h + 1) == 39) = false := beq_eq_false_iff_ne.mpr hd
            have he3 := beq_eq_false_iff_ne.mp he'
            simp only [e_C, e_Nil, e_Bin, e_Neg, e_Len, e_Ord, e_Max, e_Find, e_Idx, e_Slc, e_Cmp, e_tCmp, e_K, e_tK, e_Of, e_Not, e_And, e_Or, e_xAnd, e_xOr, e_xNot, e_Ite, e_aNil, e_aCons, e_Tup, e_Call, e_Assign, e_Unp, e_Swap, e_Aug, e_If, e_Ret, e_Cont, e_sNil, e_Cons, e_Raise, b_ok, b_exc, b_ite, t_ok, t_exc, t_ite, a_next, a_cont, a_ret, a_exc, a_ite, r_raise, k_true, k_sc, k_scn, n_add, n_sub, n_mul, n_neg, n_max, n_aug, n_find, m_eqi, m_nei, m_lt, m_gt, m_ge, m_eqn, m_eqs, m_nes, m_in, m_nin, m_isn, m_isi, p_tup, p_lt, u_tup, u_lt, u_rev, w_cons, w_nil, g_get, g_lst, bl, List.length_cons, List.length_nil, List.map_cons, List.map_nil, List.replicate_succ, List.replicate_zero, List.cons_append, List.nil_append, List.append_nil, List.set_cons_zero, List.set_cons_succ, List.getElem?_cons_zero, List.getElem?_cons_succ, scOf, List.reverse_cons, List.reverse_nil, Nat.reduceAdd, Nat.reduceLeDiff, Nat.reduceEqDiff, Bool.false_eq_true, if_true, if_false, reduceIte, decide_eq_true_eq, beq_iff_eq, bne_iff_ne, ne_eq, Bool.not_true, Bool.not_false, l_sp, l_sp', l_spn, l_dot, l_dot', l_dotn, l_E, l_E', l_En, l_I, l_I', l_In, l_F, l_F', l_Fn, l_D, l_D', l_Dn, l_G, l_G', l_Gn, l_L, l_L', l_Ln, l_A, l_A', l_An, l_q, l_q', l_qn, l_P, l_P', l_Pn, l_mi, l_mi', l_min, l_pl, l_pl', l_pln, l_sl, l_sl', l_sln, l_co, l_co', l_con, l_S, l_S', l_Sn, l_N, l_N', l_Nn, l_Z, l_Z', l_Zn, l_B, l_B', l_Bn, l_R, l_R', l_Rn, l_T, l_T', l_Tn, l_X, l_X', l_Xn, l_H, l_H', l_Hn, l_lp, l_lp', l_lpn, l_cm, l_cm', l_cmn, l_rp, l_rp', l_rpn, f_ret, f_exc, f_ite, g_suc, f_call, Int.reduceLE, Int.reduceNeg, Int.reduceLT, Bool.and_true, Bool.true_and, Bool.and_false, Bool.false_and, Bool.or_true, Bool.true_or, Bool.or_false, Bool.false_or, Nat.reduceBEq, Nat.reduceBNe, beq_self_eq_true, bne_self_eq_false, decide_true, decide_false, not_true_eq_false, not_false_eq_true, Bool.not_eq_true', beq_eq_false_iff_ne, decide_eq_false_iff_not, n_len t hZ, n_idx t h hh hi hZ, n_slc t (h + 1) (h + 2) hh1 (by omega) hZ, hi, hc, hd, hd', isat hN hk hh1, he, he3]
            trivial
      · have hs : out.length + (c1 t h).length ≤ sizeLine := by rw [sizeLine_eq]; omega
        have hc' : (cd t h == 39) = false := beq_eq_false_iff_ne.mpr hc
        have ih := quoP hN i i0 n (h + 1) (out ++ c1 t h) (by omega) (by omega) (by omega) (by rw [len_cat]; omega) (by rw [cat_ne (by omega)]; symm; rw [decide_eq_false_iff_not]; omega)
        rcases ih with ⟨a, j, ih⟩ | ⟨o', j, j', ih⟩ | ⟨o, j, j1, j2, ih⟩
        · refine .inl ⟨a, j, fun k m hk hm => ?_⟩
          obtain ⟨m, rfl⟩ : ∃ m', m = m' + 1 := ⟨m - 1, by omega⟩
          obtain ⟨q1, q2⟩ := ih k m hk (by omega)
          rw [loopR, loopR]
          simp only [e_C, e_Nil, e_Bin, e_Neg, e_Len, e_Ord, e_Max, e_Find, e_Idx, e_Slc, e_Cmp, e_tCmp, e_K, e_tK, e_Of, e_Not, e_And, e_Or, e_xAnd, e_xOr, e_xNot, e_Ite, e_aNil, e_aCons, e_Tup, e_Call, e_Assign, e_Unp, e_Swap, e_Aug, e_If, e_Ret, e_Cont, e_sNil, e_Cons, e_Raise, b_ok, b_exc, b_ite, t_ok, t_exc, t_ite, a_next, a_cont, a_ret, a_exc, a_ite, r_raise, k_true, k_sc, k_scn, n_add, n_sub, n_mul, n_neg, n_max, n_aug, n_find, m_eqi, m_nei, m_lt, m_gt, m_ge, m_eqn, m_eqs, m_nes, m_in, m_nin, m_isn, m_isi, p_tup, p_lt, u_tup, u_lt, u_rev, w_cons, w_nil, g_get, g_lst, bl, List.length_cons, List.length_nil, List.map_cons, List.map_nil, List.replicate_succ, List.replicate_zero, List.cons_append, List.nil_append, List.append_nil, List.set_cons_zero, List.set_cons_succ, List.getElem?_cons_zero, List.getElem?_cons_succ, scOf, List.reverse_cons, List.reverse_nil, Nat.reduceAdd, Nat.reduceLeDiff, Nat.reduceEqDiff, Bool.false_eq_true, if_true, if_false, reduceIte, decide_eq_true_eq, beq_iff_eq, bne_iff_ne, ne_eq, Bool.not_true, Bool.not_false, l_sp, l_sp', l_spn, l_dot, l_dot', l_dotn, l_E, l_E', l_En, l_I, l_I', l_In, l_F, l_F', l_Fn, l_D, l_D', l_Dn, l_G, l_G', l_Gn, l_L, l_L', l_Ln, l_A, l_A', l_An, l_q, l_q', l_qn, l_P, l_P', l_Pn, l_mi, l_mi', l_min, l_pl, l_pl', l_pln, l_sl, l_sl', l_sln, l_co, l_co', l_con, l_S, l_S', l_Sn, l_N, l_N', l_Nn, l_Z, l_Z', l_Zn, l_B, l_B', l_Bn, l_R, l_R', l_Rn, l_T, l_T', l_Tn, l_X, l_X', l_Xn, l_H, l_H', l_Hn, l_lp, l_lp', l_lpn, l_cm, l_cm', l_cmn, l_rp, l_rp', l_rpn, f_ret, f_exc, f_ite, g_suc, f_call, Int.reduceLE, Int.reduceNeg, Int.reduceLT, Bool.and_true, Bool.true_and, Bool.and_false, Bool.false_and, Bool.or_true, Bool.true_or, Bool.or_false, Bool.false_or, Nat.reduceBEq, Nat.reduceBNe, beq_self_eq_true, bne_self_eq_false, decide_true, decide_false, not_true_eq_false, not_false_eq_true, Bool.not_eq_true', beq_eq_false_iff_ne, decide_eq_false_iff_not, n_len t hZ, n_idx t h hh hi hZ, hi, hc, n_augs _ _ hs]
          exact ⟨q1, q2⟩
        · refine .inr (.inl ⟨o', j, j', fun k m hk hm => ?_⟩)
          obtain ⟨m, rfl⟩ : ∃ m', m = m' + 1 := ⟨m - 1, by omega⟩
          obtain ⟨q1, q2⟩ := ih k m hk (by omega)
          rw [loopR, loopR]
          simp only [e_C, e_Nil, e_Bin, e_Neg, e_Len, e_Ord, e_Max, e_Find, e_Idx, e_Slc, e_Cmp, e_tCmp, e_K, e_tK, e_Of, e_Not, e_And, e_Or, e_xAnd, e_xOr, e_xNot, e_Ite, e_aNil, e_aCons, e_Tup, e_Call, e_Assign, e_Unp, e_Swap, e_Aug, e_If, e_Ret, e_Cont, e_sNil, e_Cons, e_Raise, b_ok, b_exc, b_ite, t_ok, t_exc, t_ite, a_next, a_cont, a_ret, a_exc, a_ite, r_raise, k_true, k_sc, k_scn, n_add, n_sub, n_mul, n_neg, n_max, n_aug, n_find, m_eqi, m_nei, m_lt, m_gt, m_ge, m_eqn, m_eqs, m_nes, m_in, m_nin, m_isn, m_isi, p_tup, p_lt, u_tup, u_lt, u_rev, w_cons, w_nil, g_get, g_lst, bl, List.length_cons, List.length_nil, List.map_cons, List.map_nil, List.replicate_succ, List.replicate_zero, List.cons_append, List.nil_append, List.append_nil, List.set_cons_zero, List.set_cons_succ, List.getElem?_cons_zero, List.getElem?_cons_succ, scOf, List.reverse_cons, List.reverse_nil, Nat.reduceAdd, Nat.reduceLeDiff, Nat.reduceEqDiff, Bool.false_eq_true, if_true, if_false, reduceIte, decide_eq_true_eq, beq_iff_eq, bne_iff_ne, ne_eq, Bool.not_true, Bool.not_false, l_sp, l_sp', l_spn, l_dot, l_dot', l_dotn, l_E, l_E', l_En, l_I, l_I', l_In, l_F, l_F', l_Fn, l_D, l_D', l_Dn, l_G, l_G', l_Gn, l_L, l_L', l_Ln, l_A, l_A', l_An, l_q, l_q', l_qn, l_P, l_P', l_Pn, l_mi, l_mi', l_min, l_pl, l_pl', l_pln, l_sl, l_sl', l_sln, l_co, l_co', l_con, l_S, l_S', l_Sn, l_N, l_N', l_Nn, l_Z, l_Z', l_Zn, l_B, l_B', l_Bn, l_R, l_R', l_Rn, l_T, l_T', l_Tn, l_X, l_X', l_Xn, l_H, l_H', l_Hn, l_lp, l_lp', l_lpn, l_cm, l_cm', l_cmn, l_rp, l_rp', l_rpn, f_ret, f_exc, f_ite, g_suc, f_call, Int.reduceLE, Int.reduceNeg, Int.reduceLT, Bool.and_true, Bool.true_and, Bool.and_false, Bool.false_and, Bool.or_true, Bool.true_or, Bool.or_false, Bool.false_or, Nat.reduceBEq, Nat.reduceBNe, beq_self_eq_true, bne_self_eq_false, decide_true, decide_false, not_true_eq_false, not_false_eq_true, Bool.not_eq_true', beq_eq_false_iff_ne, decide_eq_false_iff_not, n_len t hZ, n_idx t h hh hi hZ, hi, hc, n_augs _ _ hs]
          exact ⟨q1, q2⟩
        · refine .inr (.inr ⟨o, j, j1, j2, fun k m hk hm => ?_⟩)
          obtain ⟨m, rfl⟩ : ∃ m', m = m' + 1 := ⟨m - 1, by omega⟩
          obtain ⟨q1, q2⟩ := ih k m hk (by omega)
          rw [loopR, loopR]
          simp only [e_C, e_Nil, e_Bin, e_Neg, e_Len, e_Ord, e_Max, e_Find, e_Idx, e_Slc, e_Cmp, e_tCmp, e_K, e_tK, e_Of, e_Not, e_And, e_Or, e_xAnd, e_xOr, e_xNot, e_Ite, e_aNil, e_aCons, e_Tup, e_Call, e_Assign, e_Unp, e_Swap, e_Aug, e_If, e_Ret, e_Cont, e_sNil, e_Cons, e_Raise, b_ok, b_exc, b_ite, t_ok, t_exc, t_ite, a_next, a_cont, a_ret, a_exc, a_ite, r_raise, k_true, k_sc, k_scn, n_add, n_sub, n_mul, n_neg, n_max, n_aug, n_find, m_eqi, m_nei, m_lt, m_gt, m_ge, m_eqn, m_eqs, m_nes, m_in, m_nin, m_isn, m_isi, p_tup, p_lt, u_tup, u_lt, u_rev, w_cons, w_nil, g_get, g_lst, bl, List.length_cons, List.length_nil, List.map_cons, List.map_nil, List.replicate_succ, List.replicate_zero, List.cons_append, List.nil_append, List.append_nil, List.set_cons_zero, List.set_cons_succ, List.getElem?_cons_zero, List.getElem?_cons_succ, scOf, List.reverse_cons, List.reverse_nil, Nat.reduceAdd, Nat.reduceLeDiff, Nat.reduceEqDiff, Bool.false_eq_true, if_true, if_false, reduceIte, decide_eq_true_eq, beq_iff_eq, bne_iff_ne, ne_eq, Bool.not_true, Bool.not_false, l_sp, l_sp', l_spn, l_dot, l_dot', l_dotn, l_E, l_E', l_En, l_I, l_I', l_In, l_F, l_F', l_Fn, l_D, l_D', l_Dn, l_G, l_G', l_Gn, l_L, l_L', l_Ln, l_A, l_A', l_An, l_q, l_q', l_qn, l_P, l_P', l_Pn, l_mi, l_mi', l_min, l_pl, l_pl', l_pln, l_sl, l_sl', l_sln, l_co, l_co', l_con, l_S, l_S', l_Sn, l_N, l_N', l_Nn, l_Z, l_Z', l_Zn, l_B, l_B', l_Bn, l_R, l_R', l_Rn, l_T, l_T', l_Tn, l_X, l_X', l_Xn, l_H, l_H', l_Hn, l_lp, l_lp', l_lpn, l_cm, l_cm', l_cmn, l_rp, l_rp', l_rpn, f_ret, f_exc, f_ite, g_suc, f_call, Int.reduceLE, Int.reduceNeg, Int.reduceLT, Bool.and_true, Bool.true_and, Bool.and_false, Bool.false_and, Bool.or_true, Bool.true_or, Bool.or_false, Bool.false_or, Nat.reduceBEq, Nat.reduceBNe, beq_self_eq_true, bne_self_eq_false, decide_true, decide_false, not_true_eq_false, not_false_eq_true, Bool.not_eq_true', beq_eq_false_iff_ne, decide_eq_false_iff_not, n_len t hZ, n_idx t h hh hi hZ, hi, hc, n_augs _ _ hs]
          exact ⟨q1, q2⟩
    · refine .inr (.inl ⟨.sc (.str out), h, .sc (.int h), fun k m hk hm => ?_⟩)
      obtain ⟨m, rfl⟩ : ∃ m', m = m' + 1 := ⟨m - 1, by omega⟩
      rw [loopR, loopR]
      simp only [e_C, e_Nil, e_Bin, e_Neg, e_Len, e_Ord, e_Max, e_Find, e_Idx, e_Slc, e_Cmp, e_tCmp, e_K, e_tK, e_Of, e_Not, e_And, e_Or, e_xAnd, e_xOr, e_xNot, e_Ite, e_aNil, e_aCons, e_Tup, e_Call, e_Assign, e_Unp, e_Swap, e_Aug, e_If, e_Ret, e_Cont, e_sNil, e_Cons, e_Raise, b_ok, b_exc, b_ite, t_ok, t_exc, t_ite, a_next, a_cont, a_ret, a_exc, a_ite, r_raise, k_true, k_sc, k_scn, n_add, n_sub, n_mul, n_neg, n_max, n_aug, n_find, m_eqi, m_nei, m_lt, m_gt, m_ge, m_eqn, m_eqs, m_nes, m_in, m_nin, m_isn, m_isi, p_tup, p_lt, u_tup, u_lt, u_rev, w_cons, w_nil, g_get, g_lst, bl, List.length_cons, List.length_nil, List.map_cons, List.map_nil, List.replicate_succ, List.replicate_zero, List.cons_append, List.nil_append, List.append_nil, List.set_cons_zero, List.set_cons_succ, List.getElem?_cons_zero, List.getElem?_cons_succ, scOf, List.reverse_cons, List.reverse_nil, Nat.reduceAdd, Nat.reduceLeDiff, Nat.reduceEqDiff, Bool.false_eq_true, if_true, if_false, reduceIte, decide_eq_true_eq, beq_iff_eq, bne_iff_ne, ne_eq, Bool.not_true, Bool.not_false, l_sp, l_sp', l_spn, l_dot, l_dot', l_dotn, l_E, l_E', l_En, l_I, l_I', l_In, l_F, l_F', l_Fn, l_D, l_D', l_Dn, l_G, l_G', l_Gn, l_L, l_L', l_Ln, l_A, l_A', l_An, l_q, l_q', l_qn, l_P, l_P', l_Pn, l_mi, l_mi', l_min, l_pl, l_pl', l_pln, l_sl, l_sl', l_sln, l_co, l_co', l_con, l_S, l_S', l_Sn, l_N, l_N', l_Nn, l_Z, l_Z', l_Zn, l_B, l_B', l_Bn, l_R, l_R', l_Rn, l_T, l_T', l_Tn, l_X, l_X', l_Xn, l_H, l_H', l_Hn, l_lp, l_lp', l_lpn, l_cm, l_cm', l_cmn, l_rp, l_rp', l_rpn, f_ret, f_exc, f_ite, g_suc, f_call, Int.reduceLE, Int.reduceNeg, Int.reduceLT, Bool.and_true, Bool.true_and, Bool.and_false, Bool.false_and, Bool.or_true, Bool.true_or, Bool.or_false, Bool.false_or, Nat.reduceBEq, Nat.reduceBNe, beq_self_eq_true, bne_self_eq_false, decide_true, decide_false, not_true_eq_false, not_false_eq_true, Bool.not_eq_true', beq_eq_false_iff_ne, decide_eq_false_iff_not, n_len t hZ, hi]
      trivial

theorem quoted (hN : t.length ≤ 2000) (i : Int) (h0 : 0 ≤ i) (hi : i < t.length) :
    Ag ValOk t i 2 (fun k => Φ k .quoted_at [.str t, .int i]) (fun k => Φ k .lawQuoted [.str t, .int i]) := by
  have hV : ∀ k l, Φ (k + 1) .quoted_at l = funR 2 2 (r_quoted_at (Φ k)) l := fun _ _ => rfl
  have hLV : ∀ k l, Φ (k + 1) .lawQuoted l = funR 2 1 (r_lawQuoted (Φ k)) l := fun _ _ => rfl
  rcases quoP hN i h0 4096 (i + 1) (Str.ofString "") (by omega) (by omega) (by omega) (by rw [show (Str.ofString "").length = 0 by kernel_rfl]; omega) (by rw [beq_self_eq_true]; simp) with ⟨a, j, ih⟩ | ⟨o', j, j', ih⟩ | ⟨o, j, j1, j2, ih⟩
  · refine .inl ⟨i, a, j, h0, fun k hk => ?_⟩
    obtain ⟨k, rfl⟩ : ∃ k', k = k' + 1 := ⟨k - 1, by omega⟩
    obtain ⟨q1, q2⟩ := ih k 4096 (by omega) (Nat.le_refl _)
    show Φ _ .quoted_at _ = _ ∧ Φ _ .lawQuoted _ = _; rw [hV, hLV]; unfold r_quoted_at r_lawQuoted
    simp only [e_C, e_Nil, e_Bin, e_Neg, e_Len, e_Ord, e_Max, e_Find, e_Idx, e_Slc, e_Cmp, e_tCmp, e_K, e_tK, e_Of, e_Not, e_And, e_Or, e_xAnd, e_xOr, e_xNot, e_Ite, e_aNil, e_aCons, e_Tup, e_Call, e_Assign, e_Unp, e_Swap, e_Aug, e_If, e_Ret, e_Cont, e_sNil, e_Cons, e_Raise, b_ok, b_exc, b_ite, t_ok, t_exc, t_ite, a_next, a_cont, a_ret, a_exc, a_ite, r_raise, k_true, k_sc, k_scn, n_add, n_sub, n_mul, n_neg, n_max, n_aug, n_find, m_eqi, m_nei, m_lt, m_gt, m_ge, m_eqn, m_eqs, m_nes, m_in, m_nin, m_isn, m_isi, p_tup, p_lt, u_tup, u_lt, u_rev, w_cons, w_nil, g_get, g_lst, bl, List.length_cons, List.length_nil, List.map_cons, List.map_nil, List.replicate_succ, List.replicate_zero, List.cons_append, List.nil_append, List.append_nil, List.set_cons_zero, List.set_cons_succ, List.getElem?_cons_zero, List.getElem?_cons_succ, scOf, List.reverse_cons, List.reverse_nil, Nat.reduceAdd, Nat.reduceLeDiff, Nat.reduceEqDiff, Bool.false_eq_true, if_true, if_false, reduceIte, decide_eq_true_eq, beq_iff_eq, bne_iff_ne, ne_eq, Bool.not_true, Bool.not_false, l_sp, l_sp', l_spn, l_dot, l_dot', l_dotn, l_E, l_E', l_En, l_I, l_I', l_In, l_F, l_F', l_Fn, l_D, l_D', l_Dn, l_G, l_G', l_Gn, l_L, l_L', l_Ln, l_A, l_A', l_An, l_q, l_q', l_qn, l_P, l_P', l_Pn, l_mi, l_mi', l_min, l_pl, l_pl', l_pln, l_sl, l_sl', l_sln, l_co, l_co', l_con, l_S, l_S', l_Sn, l_N, l_N', l_Nn, l_Z, l_Z', l_Zn, l_B, l_B', l_Bn, l_R, l_R', l_Rn, l_T, l_T', l_Tn, l_X, l_X', l_Xn, l_H, l_H', l_Hn, l_lp, l_lp', l_lpn, l_cm, l_cm', l_cmn, l_rp, l_rp', l_rpn, f_ret, f_exc, f_ite, g_suc, f_call, Int.reduceLE, Int.reduceNeg, Int.reduceLT, Bool.and_true, Bool.true_and, Bool.and_false, Bool.false_and, Bool.or_true, Bool.true_or, Bool.or_false, Bool.false_or, Nat.reduceBEq, Nat.reduceBNe, beq_self_eq_true, bne_self_eq_false, decide_true, decide_false, not_true_eq_false, not_false_eq_true, Bool.not_eq_true', beq_eq_false_iff_ne, decide_eq_false_iff_not, q1, q2]
    trivial
  · refine .inl ⟨i, .str (Str.ofString "H"), j, h0, fun k hk => ?_⟩
    obtain ⟨k, rfl⟩ : ∃ k', k = k' + 1 := ⟨k - 1, by omega⟩
    obtain ⟨q1, q2⟩ := ih k 4096 (by omega) (Nat.le_refl _)
    show Φ _ .quoted_at _ = _ ∧ Φ _ .lawQuoted _ = _; rw [hV, hLV]; unfold r_quoted_at r_lawQuoted
    simp only [e_C, e_Nil, e_Bin, e_Neg, e_Len, e_Ord, e_Max, e_Find, e_Idx, e_Slc, e_Cmp, e_tCmp, e_K, e_tK, e_Of, e_Not, e_And, e_Or, e_xAnd, e_xOr, e_xNot, e_Ite, e_aNil, e_aCons, e_Tup, e_Call, e_Assign, e_Unp, e_Swap, e_Aug, e_If, e_Ret, e_Cont, e_sNil, e_Cons, e_Raise, b_ok, b_exc, b_ite, t_ok, t_exc, t_ite, a_next, a_cont, a_ret, a_exc, a_ite, r_raise, k_true, k_sc, k_scn, n_add, n_sub, n_mul, n_neg, n_max, n_aug, n_find, m_eqi, m_nei, m_lt, m_gt, m_ge, m_eqn, m_eqs, m_nes, m_in, m_nin, m_isn, m_isi, p_tup, p_lt, u_tup, u_lt, u_rev, w_cons, w_nil, g_get, g_lst, bl, List.length_cons, List.length_nil, List.map_cons, List.map_nil, List.replicate_succ, List.replicate_zero, List.cons_append, List.nil_append, List.append_nil, List.set_cons_zero, List.set_cons_succ, List.getElem?_cons_zero, List.getElem?_cons_succ, scOf, List.reverse_cons, List.reverse_nil, Nat.reduceAdd, Nat.reduceLeDiff, Nat.reduceEqDiff, Bool.false_eq_true, if_true, if_false, reduceIte, decide_eq_true_eq, beq_iff_eq, bne_iff_ne, ne_eq, Bool.not_true, Bool.not_false, l_sp, l_sp', l_spn, l_dot, l_dot', l_dotn, l_E, l_E', l_En, l_I, l_I', l_In, l_F, l_F', l_Fn, l_D, l_D', l_Dn, l_G, l_G', l_Gn, l_L, l_L', l_Ln, l_A, l_A', l_An, l_q, l_q', l_qn, l_P, l_P', l_Pn, l_mi, l_mi', l_min, l_pl, l_pl', l_pln, l_sl, l_sl', l_sln, l_co, l_co', l_con, l_S, l_S', l_Sn, l_N, l_N', l_Nn, l_Z, l_Z', l_Zn, l_B, l_B', l_Bn, l_R, l_R', l_Rn, l_T, l_T', l_Tn, l_X, l_X', l_Xn, l_H, l_H', l_Hn, l_lp, l_lp', l_lpn, l_cm, l_cm', l_cmn, l_rp, l_rp', l_rpn, f_ret, f_exc, f_ite, g_suc, f_call, Int.reduceLE, Int.reduceNeg, Int.reduceLT, Bool.and_true, Bool.true_and, Bool.and_false, Bool.false_and, Bool.or_true, Bool.true_or, Bool.or_false, Bool.false_or, Nat.reduceBEq, Nat.reduceBNe, beq_self_eq_true, bne_self_eq_false, decide_true, decide_false, not_true_eq_false, not_false_eq_true, Bool.not_eq_true', beq_eq_false_iff_ne, decide_eq_false_iff_not, q1, q2]
    trivial
  · refine .inr ⟨.tup [.str (Str.ofString "H"), .str o], Str.ofString "H", j + 1, valOk_lit [.str o] ⟨by kernel_rfl, by kernel_rfl, by kernel_rfl, by kernel_rfl⟩, by omega, by omega, fun k hk => ?_⟩
    obtain ⟨k, rfl⟩ : ∃ k', k = k' + 1 := ⟨k - 1, by omega⟩
    obtain ⟨q1, q2⟩ := ih k 4096 (by omega) (Nat.le_refl _)
    show Φ _ .quoted_at _ = _ ∧ Φ _ .lawQuoted _ = _; rw [hV, hLV]; unfold r_quoted_at r_lawQuoted
    simp only [e_C, e_Nil, e_Bin, e_Neg, e_Len, e_Ord, e_Max, e_Find, e_Idx, e_Slc, e_Cmp, e_tCmp, e_K, e_tK, e_Of, e_Not, e_And, e_Or, e_xAnd, e_xOr, e_xNot, e_Ite, e_aNil, e_aCons, e_Tup, e_Call, e_Assign, e_Unp, e_Swap, e_Aug, e_If, e_Ret, e_Cont, e_sNil, e_Cons, e_Raise, b_ok, b_exc, b_ite, t_ok, t_exc, t_ite, a_next, a_cont, a_ret, a_exc, a_ite, r_raise, k_true, k_sc, k_scn, n_add, n_sub, n_mul, n_neg, n_max, n_aug, n_find, m_eqi, m_nei, m_lt, m_gt, m_ge, m_eqn, m_eqs, m_nes, m_in, m_nin, m_isn, m_isi, p_tup, p_lt, u_tup, u_lt, u_rev, w_cons, w_nil, g_get, g_lst, bl, List.length_cons, List.length_nil, List.map_cons, List.map_nil, List.replicate_succ, List.replicate_zero, List.cons_append, List.nil_append, List.append_nil, List.set_cons_zero, List.set_cons_succ, List.getElem?_cons_zero, List.getElem?_cons_succ, scOf, List.reverse_cons, List.reverse_nil, Nat.reduceAdd, Nat.reduceLeDiff, Nat.reduceEqDiff, Bool.false_eq_true, if_true, if_false, reduceIte, decide_eq_true_eq, beq_iff_eq, bne_iff_ne, ne_eq, Bool.not_true, Bool.not_false, l_sp, l_sp', l_spn, l_dot, l_dot', l_dotn, l_E, l_E', l_En, l_I, l_I', l_In, l_F, l_F', l_Fn, l_D, l_D', l_Dn, l_G, l_G', l_Gn, l_L, l_L', l_Ln, l_A, l_A', l_An, l_q, l_q', l_qn, l_P, l_P', l_Pn, l_mi, l_mi', l_min, l_pl, l_pl', l_pln, l_sl, l_sl', l_sln, l_co, l_co', l_con, l_S, l_S', l_Sn, l_N, l_N', l_Nn, l_Z, l_Z', l_Zn, l_B, l_B', l_Bn, l_R, l_R', l_Rn, l_T, l_T', l_Tn, l_X, l_X', l_Xn, l_H, l_H', l_Hn, l_lp, l_lp', l_lpn, l_cm, l_cm', l_cmn, l_rp, l_rp', l_rpn, f_ret, f_exc, f_ite, g_suc, f_call, Int.reduceLE, Int.reduceNeg, Int.reduceLT, Bool.and_true, Bool.true_and, Bool.and_false, Bool.false_and, Bool.or_true, Bool.true_or, Bool.or_false, Bool.false_or, Nat.reduceBEq, Nat.reduceBNe, beq_self_eq_true, bne_self_eq_false, decide_true, decide_false, not_true_eq_false, not_false_eq_true, Bool.not_eq_true', beq_eq_false_iff_ne, decide_eq_false_iff_not, q1, q2]
    trivial
end Mine

namespace Mine
open PySem PySem.W PyProof.Rows PySem.Calls PySem.SeqAt PySem.Builtin.Str
variable {t : Str}
theorem n_tup0 (a : Sc) (l : List Sc) : idxR (.sc (.tup (a :: l))) (.sc (.int 0)) = .ok (.sc a) := by simp [idxR]
theorem n_tup2 (a b c : Sc) (l : List Sc) : idxR (.sc (.tup (a :: b :: c :: l))) (.sc (.int 2)) = .ok (.sc c) := by simp [idxR]
theorem n_last (l : List Sc) (p : Sc) (h : l.getLast? = some p) (hl : l.length ≤ sizeLine) : idxR (.lst l) (.sc (.int (-1))) = .ok (.sc p) := by simp [idxR, h, hl]

theorem mayjoin {a b : Sc} {x y : Str} (ha : ItemOk a x) (hb : ItemOk b y) : ∀ k, 1 ≤ k → Φ k .may_join [a, b] = .ok (.sc (.bool (isSl x || (isSl y || ((x == Str.ofString "P") && isF y))))) := by
  intro k hk
  obtain ⟨k, rfl⟩ : ∃ k', k = k' + 1 := ⟨k - 1, by omega⟩
  show funR 2 0 (r_may_join (Φ k)) _ = _
  have hr1 : Txt.contains (Str.ofString "/:") (Str.ofString "repeat") = false := by kernel_rfl
  have hr2 : (Str.ofString "repeat" == Str.ofString "P") = false := by kernel_rfl
  have ha' : ∃ tag rest, a = .tup (.str tag :: rest) ∧ Txt.contains (Str.ofString "/:") tag = isSl x ∧ (tag == Str.ofString "P") = (x == Str.ofString "P") := by
    rcases ha with ⟨tag, rest, e, h1, h2, _⟩ | ⟨c, v, e, _, h1, h2⟩
    · exact ⟨tag, rest, e, h1, h2⟩
    · exact ⟨_, _, e, hr1.trans h1.symm, hr2.trans h2.symm⟩
  obtain ⟨tag, rest, rfl, h1, h2⟩ := ha'
  unfold r_may_join
  rcases hb with ⟨tg, rs, rfl, g1, g2, g3, g4⟩ | ⟨c, v, rfl, ⟨tg, rs, rfl, g1, g2, g3, g4⟩, g5, g6⟩
  · have g3' := beq_eq_false_iff_ne.mp g3
    cases hs : isSl x <;> cases hs2 : isSl y <;> rw [hs] at h1 <;> rw [hs2] at g1 <;>
      (cases hp : (x == Str.ofString "P") <;> rw [hp] at h2 <;> simp only [e_C, e_Nil, e_Bin, e_Neg, e_Len, e_Ord, e_Max, e_Find, e_Idx, e_Slc, e_Cmp, e_tCmp, e_K, e_tK, e_Of, e_Not, e_And, e_Or, e_xAnd, e_xOr, e_xNot, e_Ite, e_aNil, e_aCons, e_Tup, e_Call, e_Assign, e_Unp, e_Swap, e_Aug, e_If, e_Ret, e_Cont, e_sNil, e_Cons, e_Raise, b_ok, b_exc, b_ite, t_ok, t_exc, t_ite, a_next, a_cont, a_ret, a_exc, a_ite, r_raise, k_true, k_sc, k_scn, n_add, n_sub, n_mul, n_neg, n_max, n_aug, n_find, m_eqi, m_nei, m_lt, m_gt, m_ge, m_eqn, m_eqs, m_nes, m_in, m_nin, m_isn, m_isi, p_tup, p_lt, u_tup, u_lt, u_rev, w_cons, w_nil, g_get, g_lst, bl, List.length_cons, List.length_nil, List.map_cons, List.map_nil, List.replicate_succ, List.replicate_zero, List.cons_append, List.nil_append, List.append_nil, List.set_cons_zero, List.set_cons_succ, List.getElem?_cons_zero, List.getElem?_cons_succ, scOf, List.reverse_cons, List.reverse_nil, Nat.reduceAdd, Nat.reduceLeDiff, Nat.reduceEqDiff, Bool.false_eq_true, if_true, if_false, reduceIte, decide_eq_true_eq, beq_iff_eq, bne_iff_ne, ne_eq, Bool.not_true, Bool.not_false, l_sp, l_sp', l_spn, l_dot, l_dot', l_dotn, l_E, l_E', l_En, l_I, l_I', l_In, l_F, l_F', l_Fn, l_D, l_D', l_Dn, l_G, l_G', l_Gn, l_L, l_L', l_Ln, l_A, l_A', l_An, l_q, l_q', l_qn, l_P, l_P', l_Pn, l_mi, l_mi', l_min, l_pl, l_pl', l_pln, l_sl, l_sl', l_sln, l_co, l_co', l_con, l_S, l_S', l_Sn, l_N, l_N', l_Nn, l_Z, l_Z', l_Zn, l_B, l_B', l_Bn, l_R, l_R', l_Rn, l_T, l_T', l_Tn, l_X, l_X', l_Xn, l_H, l_H', l_Hn, l_lp, l_lp', l_lpn, l_cm, l_cm', l_cmn, l_rp, l_rp', l_rpn, f_ret, f_exc, f_ite, g_suc, f_call, Int.reduceLE, Int.reduceNeg, Int.reduceLT, Bool.and_true, Bool.true_and, Bool.and_false, Bool.false_and, Bool.or_true, Bool.true_or, Bool.or_false, Bool.false_or, Nat.reduceBEq, Nat.reduceBNe, beq_self_eq_true, bne_self_eq_false, decide_true, decide_false, not_true_eq_false, not_false_eq_true, Bool.not_eq_true', beq_eq_false_iff_ne, decide_eq_false_iff_not, n_tup0, n_tup2, h1, g1, h2, g3', g4])
  · cases hs : isSl x <;> rw [hs] at h1 <;>
      (cases hp : (x == Str.ofString "P") <;> rw [hp] at h2 <;> simp only [e_C, e_Nil, e_Bin, e_Neg, e_Len, e_Ord, e_Max, e_Find, e_Idx, e_Slc, e_Cmp, e_tCmp, e_K, e_tK, e_Of, e_Not, e_And, e_Or, e_xAnd, e_xOr, e_xNot, e_Ite, e_aNil, e_aCons, e_Tup, e_Call, e_Assign, e_Unp, e_Swap, e_Aug, e_If, e_Ret, e_Cont, e_sNil, e_Cons, e_Raise, b_ok, b_exc, b_ite, t_ok, t_exc, t_ite, a_next, a_cont, a_ret, a_exc, a_ite, r_raise, k_true, k_sc, k_scn, n_add, n_sub, n_mul, n_neg, n_max, n_aug, n_find, m_eqi, m_nei, m_lt, m_gt, m_ge, m_eqn, m_eqs, m_nes, m_in, m_nin, m_isn, m_isi, p_tup, p_lt, u_tup, u_lt, u_rev, w_cons, w_nil, g_get, g_lst, bl, List.length_cons, List.length_nil, List.map_cons, List.map_nil, List.replicate_succ, List.replicate_zero, List.cons_append, List.nil_append, List.append_nil, List.set_cons_zero, List.set_cons_succ, List.getElem?_cons_zero, List.getElem?_cons_succ, scOf, List.reverse_cons, List.reverse_nil, Nat.reduceAdd, Nat.reduceLeDiff, Nat.reduceEqDiff, Bool.false_eq_true, if_true, if_false, reduceIte, decide_eq_true_eq, beq_iff_eq, bne_iff_ne, ne_eq, Bool.not_true, Bool.not_false, l_sp, l_sp', l_spn, l_dot, l_dot', l_dotn, l_E, l_E', l_En, l_I, l_I', l_In, l_F, l_F', l_Fn, l_D, l_D', l_Dn, l_G, l_G', l_Gn, l_L, l_L', l_Ln, l_A, l_A', l_An, l_q, l_q', l_qn, l_P, l_P', l_Pn, l_mi, l_mi', l_min, l_pl, l_pl', l_pln, l_sl, l_sl', l_sln, l_co, l_co', l_con, l_S, l_S', l_Sn, l_N, l_N', l_Nn, l_Z, l_Z', l_Zn, l_B, l_B', l_Bn, l_R, l_R', l_Rn, l_T, l_T', l_Tn, l_X, l_X', l_Xn, l_H, l_H', l_Hn, l_lp, l_lp', l_lpn, l_cm, l_cm', l_cmn, l_rp, l_rp', l_rpn, f_ret, f_exc, f_ite, g_suc, f_call, Int.reduceLE, Int.reduceNeg, Int.reduceLT, Bool.and_true, Bool.true_and, Bool.and_false, Bool.false_and, Bool.or_true, Bool.true_or, Bool.or_false, Bool.false_or, Nat.reduceBEq, Nat.reduceBNe, beq_self_eq_true, bne_self_eq_false, decide_true, decide_false, not_true_eq_false, not_false_eq_true, Bool.not_eq_true', beq_eq_false_iff_ne, decide_eq_false_iff_not, n_tup0, n_tup2, h1, g1, h2, hr1, g4, g5])

noncomputable def Bi (d : Nat) : Nat := 9 + 4 * (10 - d)
noncomputable def AgR (t : Str) (i : Int) (B : Nat) (p l : Nat → Rs PV) : Prop :=
  (∃ n a h, 0 ≤ n ∧ ∀ k, B ≤ k → p k = .exc n ∧ l k = .ok (.sc (.tup [.int a, .int h, .int n]))) ∨
  (∃ its h, i ≤ h ∧ h < t.length ∧ ∀ k, B ≤ k → p k = .ok (.lt its [.int h]) ∧ l k = .ok (.sc (.tup [.int (its.length : Nat), .int h, .int (-1)])))
noncomputable abbrev Rows (t : Str) (d : Nat) : Prop := ∀ i : Int, 0 ≤ i → i ≤ t.length → AgR t i (Bi d) (fun k => Φ k .items_at [.str t, .int i, .int d]) (fun k => Φ k .lawRow [.str t, .int i, .int d])

theorem grouped (hN : t.length ≤ 2000) (d : Nat) (hd : d ≤ 10) (ih : d < 10 → Rows t (d + 1)) (i c : Int) (h0 : 0 ≤ i) (hc : cd t i = 40) :
    Ag ItemOk t i (Bi d - 3) (fun k => Φ k .group_at [.str t, .int i, .int c, .int d]) (fun k => Φ k .lawBracket [.str t, .int i, .int d]) := by
  have hi : i < t.length := in_of hc (by decide)
  have hV : ∀ k l, Φ (k + 1) .group_at l = funR 4 2 (r_group_at (Φ k)) l := fun _ _ => rfl
  have hLV : ∀ k l, Φ (k + 1) .lawBracket l = funR 3 3 (r_lawBracket (Φ k)) l := fun _ _ => rfl
  by_cases h10 : d = 10
  · subst h10
    refine .inl ⟨i, .str (Str.ofString "("), i, h0, fun k hk => ?_⟩
    obtain ⟨k, rfl⟩ : ∃ k', k = k' + 1 := ⟨k - 1, by simp [Bi] at hk; omega⟩
    show Φ _ .group_at _ = _ ∧ Φ _ .lawBracket _ = _; rw [hV, hLV]; unfold r_group_at r_lawBracket
    have e : ((10 : Nat) : Int) = 10 := rfl
    simp only [e_C, e_Nil, e_Bin, e_Neg, e_Len, e_Ord, e_Max, e_Find, e_Idx, e_Slc, e_Cmp, e_tCmp, e_K, e_tK, e_Of, e_Not, e_And, e_Or, e_xAnd, e_xOr, e_xNot, e_Ite, e_aNil, e_aCons, e_Tup, e_Call, e_Assign, e_Unp, e_Swap, e_Aug, e_If, e_Ret, e_Cont, e_sNil, e_Cons, e_Raise, b_ok, b_exc, b_ite, t_ok, t_exc, t_ite, a_next, a_cont, a_ret, a_exc, a_ite, r_raise, k_true, k_sc, k_scn, n_add, n_sub, n_mul, n_neg, n_max, n_aug, n_find, m_eqi, m_nei, m_lt, m_gt, m_ge, m_eqn, m_eqs, m_nes, m_in, m_nin, m_isn, m_isi, p_tup, p_lt, u_tup, u_lt, u_rev, w_cons, w_nil, g_get, g_lst, bl, List.length_cons, List.length_nil, List.map_cons, List.map_nil, List.replicate_succ, List.replicate_zero, List.cons_append, List.nil_append, List.append_nil, List.set_cons_zero, List.set_cons_succ, List.getElem?_cons_zero, List.getElem?_cons_succ, scOf, List.reverse_cons, List.reverse_nil, Nat.reduceAdd, Nat.reduceLeDiff, Nat.reduceEqDiff, Bool.false_eq_true, if_true, if_false, reduceIte, decide_eq_true_eq, beq_iff_eq, bne_iff_ne, ne_eq, Bool.not_true, Bool.not_false, l_sp, l_sp', l_spn, l_dot, l_dot', l_dotn, l_E, l_E', l_En, l_I, l_I', l_In, l_F, l_F', l_Fn, l_D, l_D', l_Dn, l_G, l_G', l_Gn, l_L, l_L', l_Ln, l_A, l_A', l_An, l_q, l_q', l_qn, l_P, l_P', l_Pn, l_mi, l_mi', l_min, l_pl, l_pl', l_pln, l_sl, l_sl', l_sln, l_co, l_co', l_con, l_S, l_S', l_Sn, l_N, l_N', l_Nn, l_Z, l_Z', l_Zn, l_B, l_B', l_Bn, l_R, l_R', l_Rn, l_T, l_T', l_Tn, l_X, l_X', l_Xn, l_H, l_H', l_Hn, l_lp, l_lp', l_lpn, l_cm, l_cm', l_cmn, l_rp, l_rp', l_rpn, f_ret, f_exc, f_ite, g_suc, f_call, Int.reduceLE, Int.reduceNeg, Int.reduceLT, Bool.and_true, Bool.true_and, Bool.and_false, Bool.false_and, Bool.or_true, Bool.true_or, Bool.or_false, Bool.false_or, Nat.reduceBEq, Nat.reduceBNe, beq_self_eq_true, bne_self_eq_false, decide_true, decide_false, not_true_eq_false, not_false_eq_true, Bool.not_eq_true', beq_eq_false_iff_ne, decide_eq_false_iff_not, e]
    trivial
  · have hdn : (d : Int) ≠ 10 := by omega
    have hcast : ((d + 1 : Nat) : Int) = (d : Int) + 1 := by omega
    have hB : Bi (d + 1) + 4 = Bi d := by simp [Bi]; omega
    rcases ih (by omega) (i + 1) (by omega) (by omega) with ⟨n, a, h, n0, ih⟩ | ⟨its, h, j1, j2, ih⟩
    · refine .inl ⟨n, .str (Str.ofString "("), h + 1, n0, fun k hk => ?_⟩
      obtain ⟨k, rfl⟩ : ∃ k', k = k' + 1 := ⟨k - 1, by omega⟩
      obtain ⟨q1, q2⟩ := ih k (by omega)
      simp only [hcast] at q1 q2
      have hn0 : ¬ n < 0 := by omega
      show Φ _ .group_at _ = _ ∧ Φ _ .lawBracket _ = _; rw [hV, hLV]; unfold r_group_at r_lawBracket
      simp only [e_C, e_Nil, e_Bin, e_Neg, e_Len, e_Ord, e_Max, e_Find, e_Idx, e_Slc, e_Cmp, e_tCmp, e_K, e_tK, e_Of, e_Not, e_And, e_Or, e_xAnd, e_xOr, e_xNot, e_Ite, e_aNil, e_aCons, e_Tup, e_Call, e_Assign, e_Unp, e_Swap, e_Aug, e_If, e_Ret, e_Cont, e_sNil, e_Cons, e_Raise, b_ok, b_exc, b_ite, t_ok, t_exc, t_ite, a_next, a_cont, a_ret, a_exc, a_ite, r_raise, k_true, k_sc, k_scn, n_add, n_sub, n_mul, n_neg, n_max, n_aug, n_find, m_eqi, m_nei, m_lt, m_gt, m_ge, m_eqn, m_eqs, m_nes, m_in, m_nin, m_isn, m_isi, p_tup, p_lt, u_tup, u_lt, u_rev, w_cons, w_nil, g_get, g_lst, bl, List.length_cons, List.length_nil, List.map_cons, List.map_nil, List.replicate_succ, List.replicate_zero, List.cons_append, List.nil_append, List.append_nil, List.set_cons_zero, List.set_cons_succ, List.getElem?_cons_zero, List.getElem?_cons_succ, scOf, List.reverse_cons, List.reverse_nil, Nat.reduceAdd, Nat.reduceLeDiff, Nat.reduceEqDiff, Bool.false_eq_true, if_true, if_false, reduceIte, decide_eq_true_eq, beq_iff_eq, bne_iff_ne, ne_eq, Bool.not_true, Bool.not_false, l_sp, l_sp', l_spn, l_dot, l_dot', l_dotn, l_E, l_E', l_En, l_I, l_I', l_In, l_F, l_F', l_Fn, l_D, l_D', l_Dn, l_G, l_G', l_Gn, l_L, l_L', l_Ln, l_A, l_A', l_An, l_q, l_q', l_qn, l_P, l_P', l_Pn, l_mi, l_mi', l_min, l_pl, l_pl', l_pln, l_sl, l_sl', l_sln, l_co, l_co', l_con, l_S, l_S', l_Sn, l_N, l_N', l_Nn, l_Z, l_Z', l_Zn, l_B, l_B', l_Bn, l_R, l_R', l_Rn, l_T, l_T', l_Tn, l_X, l_X', l_Xn, l_H, l_H', l_Hn, l_lp, l_lp', l_lpn, l_cm, l_cm', l_cmn, l_rp, l_rp', l_rpn, f_ret, f_exc, f_ite, g_suc, f_call, Int.reduceLE, Int.reduceNeg, Int.reduceLT, Bool.and_true, Bool.true_and, Bool.and_false, Bool.false_and, Bool.or_true, Bool.true_or, Bool.or_false, Bool.false_or, Nat.reduceBEq, Nat.reduceBNe, beq_self_eq_true, bne_self_eq_false, decide_true, decide_false, not_true_eq_false, not_false_eq_true, Bool.not_eq_true', beq_eq_false_iff_ne, decide_eq_false_iff_not, hdn, q1, q2, hn0]
      trivial
    · rcases its with _ | ⟨it, its⟩
      · refine .inl ⟨h, .str (Str.ofString "("), h + 1, by omega, fun k hk => ?_⟩
        obtain ⟨k, rfl⟩ : ∃ k', k = k' + 1 := ⟨k - 1, by omega⟩
        obtain ⟨q1, q2⟩ := ih k (by omega)
        simp only [hcast] at q1 q2
        have e : (((([] : List Sc).length : Nat)) : Int) = 0 := rfl
        rw [e] at q2
        show Φ _ .group_at _ = _ ∧ Φ _ .lawBracket _ = _; rw [hV, hLV]; unfold r_group_at r_lawBracket
        simp only [e_C, e_Nil, e_Bin, e_Neg, e_Len, e_Ord, e_Max, e_Find, e_Idx, e_Slc, e_Cmp, e_tCmp, e_K, e_tK, e_Of, e_Not, e_And, e_Or, e_xAnd, e_xOr, e_xNot, e_Ite, e_aNil, e_aCons, e_Tup, e_Call, e_Assign, e_Unp, e_Swap, e_Aug, e_If, e_Ret, e_Cont, e_sNil, e_Cons, e_Raise, b_ok, b_exc, b_ite, t_ok, t_exc, t_ite, a_next, a_cont, a_ret, a_exc, a_ite, r_raise, k_true, k_sc, k_scn, n_add, n_sub, n_mul, n_neg, n_max, n_aug, n_find, m_eqi, m_nei, m_lt, m_gt, m_ge, m_eqn, m_eqs, m_nes, m_in, m_nin, m_isn, m_isi, p_tup, p_lt, u_tup, u_lt, u_rev, w_cons, w_nil, g_get, g_lst, bl, List.length_cons, List.length_nil, List.map_cons, List.map_nil, List.replicate_succ, List.replicate_zero, List.cons_append, List.nil_append, List.append_nil, List.set_cons_zero, List.set_cons_succ, List.getElem?_cons_zero, List.getElem?_cons_succ, scOf, List.reverse_cons, List.reverse_nil, Nat.reduceAdd, Nat.reduceLeDiff, Nat.reduceEqDiff, Bool.false_eq_true, if_true, if_false, reduceIte, decide_eq_true_eq, beq_iff_eq, bne_iff_ne, ne_eq, Bool.not_true, Bool.not_false, l_sp, l_sp', l_spn, l_dot, l_dot', l_dotn, l_E, l_E', l_En, l_I, l_I', l_In, l_F, l_F', l_Fn, l_D, l_D', l_Dn, l_G, l_G', l_Gn, l_L, l_L', l_Ln, l_A, l_A', l_An, l_q, l_q', l_qn, l_P, l_P', l_Pn, l_mi, l_mi', l_min, l_pl, l_pl', l_pln, l_sl, l_sl', l_sln, l_co, l_co', l_con, l_S, l_S', l_Sn, l_N, l_N', l_Nn, l_Z, l_Z', l_Zn, l_B, l_B', l_Bn, l_R, l_R', l_Rn, l_T, l_T', l_Tn, l_X, l_X', l_Xn, l_H, l_H', l_Hn, l_lp, l_lp', l_lpn, l_cm, l_cm', l_cmn, l_rp, l_rp', l_rpn, f_ret, f_exc, f_ite, g_suc, f_call, Int.reduceLE, Int.reduceNeg, Int.reduceLT, Bool.and_true, Bool.true_and, Bool.and_false, Bool.false_and, Bool.or_true, Bool.true_or, Bool.or_false, Bool.false_or, Nat.reduceBEq, Nat.reduceBNe, beq_self_eq_true, bne_self_eq_false, decide_true, decide_false, not_true_eq_false, not_false_eq_true, Bool.not_eq_true', beq_eq_false_iff_ne, decide_eq_false_iff_not, hdn, q1, q2, nilR, List.isEmpty_nil]
        trivial
      · refine .inr ⟨.tup [.str (Str.ofString "group"), .int c, .any], Str.ofString "(", h + 1, .inl (valOk_lit _ ⟨by kernel_rfl, by kernel_rfl, by kernel_rfl, by kernel_rfl⟩), by omega, by omega, fun k hk => ?_⟩
        obtain ⟨k, rfl⟩ : ∃ k', k = k' + 1 := ⟨k - 1, by omega⟩
        obtain ⟨q1, q2⟩ := ih k (by omega)
        simp only [hcast] at q1 q2
        have e : (((it :: its).length : Nat) : Int) ≠ 0 := by simp only [List.length_cons]; omega
        obtain ⟨z, hz⟩ : ∃ z : Int, (((it :: its).length : Nat) : Int) = z := ⟨_, rfl⟩
        rw [hz] at q2 e
        show Φ _ .group_at _ = _ ∧ Φ _ .lawBracket _ = _; rw [hV, hLV]; unfold r_group_at r_lawBracket
        simp only [e_C, e_Nil, e_Bin, e_Neg, e_Len, e_Ord, e_Max, e_Find, e_Idx, e_Slc, e_Cmp, e_tCmp, e_K, e_tK, e_Of, e_Not, e_And, e_Or, e_xAnd, e_xOr, e_xNot, e_Ite, e_aNil, e_aCons, e_Tup, e_Call, e_Assign, e_Unp, e_Swap, e_Aug, e_If, e_Ret, e_Cont, e_sNil, e_Cons, e_Raise, b_ok, b_exc, b_ite, t_ok, t_exc, t_ite, a_next, a_cont, a_ret, a_exc, a_ite, r_raise, k_true, k_sc, k_scn, n_add, n_sub, n_mul, n_neg, n_max, n_aug, n_find, m_eqi, m_nei, m_lt, m_gt, m_ge, m_eqn, m_eqs, m_nes, m_in, m_nin, m_isn, m_isi, p_tup, p_lt, u_tup, u_lt, u_rev, w_cons, w_nil, g_get, g_lst, bl, List.length_cons, List.length_nil, List.map_cons, List.map_nil, List.replicate_succ, List.replicate_zero, List.cons_append, List.nil_append, List.append_nil, List.set_cons_zero, List.set_cons_succ, List.getElem?_cons_zero, List.getElem?_cons_succ, scOf, List.reverse_cons, List.reverse_nil, Nat.reduceAdd, Nat.reduceLeDiff, Nat.reduceEqDiff, Bool.false_eq_true, if_true, if_false, reduceIte, decide_eq_true_eq, beq_iff_eq, bne_iff_ne, ne_eq, Bool.not_true, Bool.not_false, l_sp, l_sp', l_spn, l_dot, l_dot', l_dotn, l_E, l_E', l_En, l_I, l_I', l_In, l_F, l_F', l_Fn, l_D, l_D', l_Dn, l_G, l_G', l_Gn, l_L, l_L', l_Ln, l_A, l_A', l_An, l_q, l_q', l_qn, l_P, l_P', l_Pn, l_mi, l_mi', l_min, l_pl, l_pl', l_pln, l_sl, l_sl', l_sln, l_co, l_co', l_con, l_S, l_S', l_Sn, l_N, l_N', l_Nn, l_Z, l_Z', l_Zn, l_B, l_B', l_Bn, l_R, l_R', l_Rn, l_T, l_T', l_Tn, l_X, l_X', l_Xn, l_H, l_H', l_Hn, l_lp, l_lp', l_lpn, l_cm, l_cm', l_cmn, l_rp, l_rp', l_rpn, f_ret, f_exc, f_ite, g_suc, f_call, Int.reduceLE, Int.reduceNeg, Int.reduceLT, Bool.and_true, Bool.true_and, Bool.and_false, Bool.false_and, Bool.or_true, Bool.true_or, Bool.or_false, Bool.false_or, Nat.reduceBEq, Nat.reduceBNe, beq_self_eq_true, bne_self_eq_false, decide_true, decide_false, not_true_eq_false, not_false_eq_true, Bool.not_eq_true', beq_eq_false_iff_ne, decide_eq_false_iff_not, hdn, q1, q2, nilR, List.isEmpty_cons, e]
        trivial
end Mine

namespace Mine
open PySem PySem.W PyProof.Rows PySem.Calls PySem.SeqAt PySem.Builtin.Str
variable {t : Str}
noncomputable def letT (t : Str) (i : Int) : Bool := cd t i == 73 || (cd t i == 70 || (cd t i == 69 || (cd t i == 68 || (cd t i == 71 || (cd t i == 76 || cd t i == 65)))))
theorem has_let {i : Int} (h0 : 0 ≤ i) (h : i < t.length) : Txt.contains (Str.ofString "IFEDGLA") (c1 t i) = letT t i := by
  rw [h_let t i h0 h]; simp only [letT, Bool.or_assoc]
theorem let_cases {i : Int} (h : letT t i = true) : cd t i = 73 ∨ cd t i = 76 ∨ cd t i = 65 ∨ (cd t i = 70 ∨ cd t i = 68) ∨ cd t i = 69 ∨ cd t i = 71 := by
  simp only [letT, Bool.or_eq_true, beq_iff_eq] at h; omega
theorem let_not {i : Int} (h : letT t i = true) : isSl (c1 t i) = false ∧ (c1 t i == Str.ofString "P") = false := by
  have := let_cases h
  simp only [isSl, List.any_cons, List.any_nil, Bool.or_false, l_sl', l_co', l_P, Bool.or_eq_false_iff, beq_eq_false_iff_ne]
  omega
theorem n_slcany (t : Str) (i j : Int) (hN : t.length ≤ sizeLine) : slcR (.sc (.str t)) (.sc (.int i)) (.sc (.int j)) = .ok (.sc (.str (Txt.slice t (some i) (some j)))) := by
  simp only [slcR]; rw [if_pos hN]

theorem counted (hN : t.length ≤ 2000) (d : Nat) (hd : d ≤ 10) (ih : d < 10 → Rows t (d + 1)) (i : Int) (h0 : 0 ≤ i) (hc : dig t i = true) :
    Ag ItemOk t i (Bi d - 2) (fun k => Φ k .counted_at [.str t, .int i, .int d]) (fun k => Φ k .lawCounted [.str t, .int i, .int d]) := by
  have hZ : t.length ≤ sizeLine := by rw [sizeLine_eq]; omega
  have hi : i < t.length := dig_in hc
  have hB : 9 ≤ Bi d := by simp [Bi]
  have hV : ∀ k l, Φ (k + 1) .counted_at l = funR 3 5 (r_counted_at (Φ k)) l := fun _ _ => rfl
  have hLV : ∀ k l, Φ (k + 1) .lawCounted l = funR 3 4 (r_lawCounted (Φ k)) l := fun _ _ => rfl
  have hCT : ∀ k l, 6 ≤ k → Φ k .counted_text l = funR 3 0 (r_counted_text (Φ (k - 1))) l := fun k l hk => by
    obtain ⟨k, rfl⟩ : ∃ k', k = k' + 1 := ⟨k - 1, by omega⟩
    rfl
  have dec : ∀ {k : Nat}, Bi d - 2 ≤ k → ∃ k', k = k' + 1 ∧ 6 ≤ k' ∧ Bi d - 3 ≤ k' := fun {k} h => ⟨k - 1, by omega, by omega, by omega⟩
  obtain ⟨v, h, a1, a2, a3⟩ := figs hN i h0 (by omega)
  have hh : 0 ≤ h := by omega
  rcases a3 with a3 | ⟨b1, b2, b3, a3⟩
  · refine .inl ⟨h, .str (Str.ofString "P"), h + 1, hh, fun k hk => ?_⟩
    obtain ⟨k, rfl, hk', _⟩ := dec hk
    obtain ⟨q1, q2⟩ := a3 k (by omega)
    show Φ _ .counted_at _ = _ ∧ Φ _ .lawCounted _ = _; rw [hV, hLV]; unfold r_counted_at r_lawCounted
    simp only [e_C, e_Nil, e_Bin, e_Neg, e_Len, e_Ord, e_Max, e_Find, e_Idx, e_Slc, e_Cmp, e_tCmp, e_K, e_tK, e_Of, e_Not, e_And, e_Or, e_xAnd, e_xOr, e_xNot, e_Ite, e_aNil, e_aCons, e_Tup, e_Call, e_Assign, e_Unp, e_Swap, e_Aug, e_If, e_Ret, e_Cont, e_sNil, e_Cons, e_Raise, b_ok, b_exc, b_ite, t_ok, t_exc, t_ite, a_next, a_cont, a_ret, a_exc, a_ite, r_raise, k_true, k_sc, k_scn, n_add, n_sub, n_mul, n_neg, n_max, n_aug, n_find, m_eqi, m_nei, m_lt, m_gt, m_ge, m_eqn, m_eqs, m_nes, m_in, m_nin, m_isn, m_isi, p_tup, p_lt, u_tup, u_lt, u_rev, w_cons, w_nil, g_get, g_lst, bl, List.length_cons, List.length_nil, List.map_cons, List.map_nil, List.replicate_succ, List.replicate_zero, List.cons_append, List.nil_append, List.append_nil, List.set_cons_zero, List.set_cons_succ, List.getElem?_cons_zero, List.getElem?_cons_succ, scOf, List.reverse_cons, List.reverse_nil, Nat.reduceAdd, Nat.reduceLeDiff, Nat.reduceEqDiff, Bool.false_eq_true, if_true, if_false, reduceIte, decide_eq_true_eq, beq_iff_eq, bne_iff_ne, ne_eq, Bool.not_true, Bool.not_false, l_sp, l_sp', l_spn, l_dot, l_dot', l_dotn, l_E, l_E', l_En, l_I, l_I', l_In, l_F, l_F', l_Fn, l_D, l_D', l_Dn, l_G, l_G', l_Gn, l_L, l_L', l_Ln, l_A, l_A', l_An, l_q, l_q', l_qn, l_P, l_P', l_Pn, l_mi, l_mi', l_min, l_pl, l_pl', l_pln, l_sl, l_sl', l_sln, l_co, l_co', l_con, l_S, l_S', l_Sn, l_N, l_N', l_Nn, l_Z, l_Z', l_Zn, l_B, l_B', l_Bn, l_R, l_R', l_Rn, l_T, l_T', l_Tn, l_X, l_X', l_Xn, l_H, l_H', l_Hn, l_lp, l_lp', l_lpn, l_cm, l_cm', l_cmn, l_rp, l_rp', l_rpn, f_ret, f_exc, f_ite, g_suc, f_call, Int.reduceLE, Int.reduceNeg, Int.reduceLT, Bool.and_true, Bool.true_and, Bool.and_false, Bool.false_and, Bool.or_true, Bool.true_or, Bool.or_false, Bool.false_or, Nat.reduceBEq, Nat.reduceBNe, beq_self_eq_true, bne_self_eq_false, decide_true, decide_false, not_true_eq_false, not_false_eq_true, Bool.not_eq_true', beq_eq_false_iff_ne, decide_eq_false_iff_not, q1, q2, n_slc t h (h + 1) hh rfl hZ, hh]
    trivial
  · have hv0 := b3 hc
    have hvn : ¬ v < 0 := by omega
    have hvm : ¬ v < -1 := by omega
    by_cases cP : cd t h = 80
    · have hhN := in_of cP (by decide)
      refine .inr ⟨.tup [.str (Str.ofString "P"), .int v], Str.ofString "P", h + 1, .inl (valOk_lit _ ⟨by kernel_rfl, by kernel_rfl, by kernel_rfl, by kernel_rfl⟩), by omega, by omega, fun k hk => ?_⟩
      obtain ⟨k, rfl, hk', _⟩ := dec hk
      obtain ⟨q1, q2⟩ := a3 k (by omega)
      show Φ _ .counted_at _ = _ ∧ Φ _ .lawCounted _ = _; rw [hV, hLV]; unfold r_counted_at r_lawCounted
      simp only [e_C, e_Nil, e_Bin, e_Neg, e_Len, e_Ord, e_Max, e_Find, e_Idx, e_Slc, e_Cmp, e_tCmp, e_K, e_tK, e_Of, e_Not, e_And, e_Or, e_xAnd, e_xOr, e_xNot, e_Ite, e_aNil, e_aCons, e_Tup, e_Call, e_Assign, e_Unp, e_Swap, e_Aug, e_If, e_Ret, e_Cont, e_sNil, e_Cons, e_Raise, b_ok, b_exc, b_ite, t_ok, t_exc, t_ite, a_next, a_cont, a_ret, a_exc, a_ite, r_raise, k_true, k_sc, k_scn, n_add, n_sub, n_mul, n_neg, n_max, n_aug, n_find, m_eqi, m_nei, m_lt, m_gt, m_ge, m_eqn, m_eqs, m_nes, m_in, m_nin, m_isn, m_isi, p_tup, p_lt, u_tup, u_lt, u_rev, w_cons, w_nil, g_get, g_lst, bl, List.length_cons, List.length_nil, List.map_cons, List.map_nil, List.replicate_succ, List.replicate_zero, List.cons_append, List.nil_append, List.append_nil, List.set_cons_zero, List.set_cons_succ, List.getElem?_cons_zero, List.getElem?_cons_succ, scOf, List.reverse_cons, List.reverse_nil, Nat.reduceAdd, Nat.reduceLeDiff, Nat.reduceEqDiff, Bool.false_eq_true, if_true, if_false, reduceIte, decide_eq_true_eq, beq_iff_eq, bne_iff_ne, ne_eq, Bool.not_true, Bool.not_false, l_sp, l_sp', l_spn, l_dot, l_dot', l_dotn, l_E, l_E', l_En, l_I, l_I', l_In, l_F, l_F', l_Fn, l_D, l_D', l_Dn, l_G, l_G', l_Gn, l_L, l_L', l_Ln, l_A, l_A', l_An, l_q, l_q', l_qn, l_P, l_P', l_Pn, l_mi, l_mi', l_min, l_pl, l_pl', l_pln, l_sl, l_sl', l_sln, l_co, l_co', l_con, l_S, l_S', l_Sn, l_N, l_N', l_Nn, l_Z, l_Z', l_Zn, l_B, l_B', l_Bn, l_R, l_R', l_Rn, l_T, l_T', l_Tn, l_X, l_X', l_Xn, l_H, l_H', l_Hn, l_lp, l_lp', l_lpn, l_cm, l_cm', l_cmn, l_rp, l_rp', l_rpn, f_ret, f_exc, f_ite, g_suc, f_call, Int.reduceLE, Int.reduceNeg, Int.reduceLT, Bool.and_true, Bool.true_and, Bool.and_false, Bool.false_and, Bool.or_true, Bool.true_or, Bool.or_false, Bool.false_or, Nat.reduceBEq, Nat.reduceBNe, beq_self_eq_true, bne_self_eq_false, decide_true, decide_false, not_true_eq_false, not_false_eq_true, Bool.not_eq_true', beq_eq_false_iff_ne, decide_eq_false_iff_not, q1, q2, vOf, hvn, hvm, n_slc t h (h + 1) hh rfl hZ, cP]
      trivial
    by_cases hz : v = 0
    · refine .inl ⟨i, .str (c1 t h), h, h0, fun k hk => ?_⟩
      obtain ⟨k, rfl, hk', _⟩ := dec hk
      obtain ⟨q1, q2⟩ := a3 k (by omega)
      show Φ _ .counted_at _ = _ ∧ Φ _ .lawCounted _ = _; rw [hV, hLV]; unfold r_counted_at r_lawCounted
      subst hz
      simp only [e_C, e_Nil, e_Bin, e_Neg, e_Len, e_Ord, e_Max, e_Find, e_Idx, e_Slc, e_Cmp, e_tCmp, e_K, e_tK, e_Of, e_Not, e_And, e_Or, e_xAnd, e_xOr, e_xNot, e_Ite, e_aNil, e_aCons, e_Tup, e_Call, e_Assign, e_Unp, e_Swap, e_Aug, e_If, e_Ret, e_Cont, e_sNil, e_Cons, e_Raise, b_ok, b_exc, b_ite, t_ok, t_exc, t_ite, a_next, a_cont, a_ret, a_exc, a_ite, r_raise, k_true, k_sc, k_scn, n_add, n_sub, n_mul, n_neg, n_max, n_aug, n_find, m_eqi, m_nei, m_lt, m_gt, m_ge, m_eqn, m_eqs, m_nes, m_in, m_nin, m_isn, m_isi, p_tup, p_lt, u_tup, u_lt, u_rev, w_cons, w_nil, g_get, g_lst, bl, List.length_cons, List.length_nil, List.map_cons, List.map_nil, List.replicate_succ, List.replicate_zero, List.cons_append, List.nil_append, List.append_nil, List.set_cons_zero, List.set_cons_succ, List.getElem?_cons_zero, List.getElem?_cons_succ, scOf, List.reverse_cons, List.reverse_nil, Nat.reduceAdd, Nat.reduceLeDiff, Nat.reduceEqDiff, Bool.false_eq_true, if_true, if_false, reduceIte, decide_eq_true_eq, beq_iff_eq, bne_iff_ne, ne_eq, Bool.not_true, Bool.not_false, l_sp, l_sp', l_spn, l_dot, l_dot', l_dotn, l_E, l_E', l_En, l_I, l_I', l_In, l_F, l_F', l_Fn, l_D, l_D', l_Dn, l_G, l_G', l_Gn, l_L, l_L', l_Ln, l_A, l_A', l_An, l_q, l_q', l_qn, l_P, l_P', l_Pn, l_mi, l_mi', l_min, l_pl, l_pl', l_pln, l_sl, l_sl', l_sln, l_co, l_co', l_con, l_S, l_S', l_Sn, l_N, l_N', l_Nn, l_Z, l_Z', l_Zn, l_B, l_B', l_Bn, l_R, l_R', l_Rn, l_T, l_T', l_Tn, l_X, l_X', l_Xn, l_H, l_H', l_Hn, l_lp, l_lp', l_lpn, l_cm, l_cm', l_cmn, l_rp, l_rp', l_rpn, f_ret, f_exc, f_ite, g_suc, f_call, Int.reduceLE, Int.reduceNeg, Int.reduceLT, Bool.and_true, Bool.true_and, Bool.and_false, Bool.false_and, Bool.or_true, Bool.true_or, Bool.or_false, Bool.false_or, Nat.reduceBEq, Nat.reduceBNe, beq_self_eq_true, bne_self_eq_false, decide_true, decide_false, not_true_eq_false, not_false_eq_true, Bool.not_eq_true', beq_eq_false_iff_ne, decide_eq_false_iff_not, q1, q2, vOf, n_slc t h (h + 1) hh rfl hZ, cP]
      trivial
    by_cases cX : cd t h = 88
    · have hhN := in_of cX (by decide)
      have hx : c1 t h = Str.ofString "X" := c1_of cX (by kernel_rfl) (by decide)
      refine .inr ⟨.tup [.str (Str.ofString "X"), .int v], c1 t h, h + 1, .inl (valOk_lit _ (by rw [hx]; exact ⟨by kernel_rfl, by kernel_rfl, by kernel_rfl, by kernel_rfl⟩)), by omega, by omega, fun k hk => ?_⟩
      obtain ⟨k, rfl, hk', _⟩ := dec hk
      obtain ⟨q1, q2⟩ := a3 k (by omega)
      show Φ _ .counted_at _ = _ ∧ Φ _ .lawCounted _ = _; rw [hV, hLV]; unfold r_counted_at r_lawCounted
      simp only [e_C, e_Nil, e_Bin, e_Neg, e_Len, e_Ord, e_Max, e_Find, e_Idx, e_Slc, e_Cmp, e_tCmp, e_K, e_tK, e_Of, e_Not, e_And, e_Or, e_xAnd, e_xOr, e_xNot, e_Ite, e_aNil, e_aCons, e_Tup, e_Call, e_Assign, e_Unp, e_Swap, e_Aug, e_If, e_Ret, e_Cont, e_sNil, e_Cons, e_Raise, b_ok, b_exc, b_ite, t_ok, t_exc, t_ite, a_next, a_cont, a_ret, a_exc, a_ite, r_raise, k_true, k_sc, k_scn, n_add, n_sub, n_mul, n_neg, n_max, n_aug, n_find, m_eqi, m_nei, m_lt, m_gt, m_ge, m_eqn, m_eqs, m_nes, m_in, m_nin, m_isn, m_isi, p_tup, p_lt, u_tup, u_lt, u_rev, w_cons, w_nil, g_get, g_lst, bl, List.length_cons, List.length_nil, List.map_cons, List.map_nil, List.replicate_succ, List.replicate_zero, List.cons_append, List.nil_append, List.append_nil, List.set_cons_zero, List.set_cons_succ, List.getElem?_cons_zero, List.getElem?_cons_succ, scOf, List.reverse_cons, List.reverse_nil, Nat.reduceAdd, Nat.reduceLeDiff, Nat.reduceEqDiff, Bool.false_eq_true, if_true, if_false, reduceIte, decide_eq_true_eq, beq_iff_eq, bne_iff_ne, ne_eq, Bool.not_true, Bool.not_false, l_sp, l_sp', l_spn, l_dot, l_dot', l_dotn, l_E, l_E', l_En, l_I, l_I', l_In, l_F, l_F', l_Fn, l_D, l_D', l_Dn, l_G, l_G', l_Gn, l_L, l_L', l_Ln, l_A, l_A', l_An, l_q, l_q', l_qn, l_P, l_P', l_Pn, l_mi, l_mi', l_min, l_pl, l_pl', l_pln, l_sl, l_sl', l_sln, l_co, l_co', l_con, l_S, l_S', l_Sn, l_N, l_N', l_Nn, l_Z, l_Z', l_Zn, l_B, l_B', l_Bn, l_R, l_R', l_Rn, l_T, l_T', l_Tn, l_X, l_X', l_Xn, l_H, l_H', l_Hn, l_lp, l_lp', l_lpn, l_cm, l_cm', l_cmn, l_rp, l_rp', l_rpn, f_ret, f_exc, f_ite, g_suc, f_call, Int.reduceLE, Int.reduceNeg, Int.reduceLT, Bool.and_true, Bool.true_and, Bool.and_false, Bool.false_and, Bool.or_true, Bool.true_or, Bool.or_false, Bool.false_or, Nat.reduceBEq, Nat.reduceBNe, beq_self_eq_true, bne_self_eq_false, decide_true, decide_false, not_true_eq_false, not_false_eq_true, Bool.not_eq_true', beq_eq_false_iff_ne, decide_eq_false_iff_not, q1, q2, vOf, hvn, hvm, n_slc t h (h + 1) hh rfl hZ, cX, hz]
      trivial
    by_cases cH : cd t h = 72
    · have hhN := in_of cH (by decide)
      have hx : c1 t h = Str.ofString "H" := c1_of cH (by kernel_rfl) (by decide)
      by_cases hl : (t.length : Int) < h + 1 + v
      · refine .inl ⟨h + 1, .str (c1 t h), h + 1 + v, by omega, fun k hk => ?_⟩
        obtain ⟨k, rfl, hk', _⟩ := dec hk
        obtain ⟨q1, q2⟩ := a3 k (by omega)
        show Φ _ .counted_at _ = _ ∧ Φ _ .lawCounted _ = _; rw [hV, hLV]; unfold r_counted_at r_lawCounted
        simp only [e_C, e_Nil, e_Bin, e_Neg, e_Len, e_Ord, e_Max, e_Find, e_Idx, e_Slc, e_Cmp, e_tCmp, e_K, e_tK, e_Of, e_Not, e_And, e_Or, e_xAnd, e_xOr, e_xNot, e_Ite, e_aNil, e_aCons, e_Tup, e_Call, e_Assign, e_Unp, e_Swap, e_Aug, e_If, e_Ret, e_Cont, e_sNil, e_Cons, e_Raise, b_ok, b_exc, b_ite, t_ok, t_exc, t_ite, a_next, a_cont, a_ret, a_exc, a_ite, r_raise, k_true, k_sc, k_scn, n_add, n_sub, n_mul, n_neg, n_max, n_aug, n_find, m_eqi, m_nei, m_lt, m_gt, m_ge, m_eqn, m_eqs, m_nes, m_in, m_nin, m_isn, m_isi, p_tup, p_lt, u_tup, u_lt, u_rev, w_cons, w_nil, g_get, g_lst, bl, List.length_cons, List.length_nil, List.map_cons, List.map_nil, List.replicate_succ, List.replicate_zero, List.cons_append, List.nil_append, List.append_nil, List.set_cons_zero, List.set_cons_succ, List.getElem?_cons_zero, List.getElem?_cons_succ, scOf, List.reverse_cons, List.reverse_nil, Nat.reduceAdd, Nat.reduceLeDiff, Nat.reduceEqDiff, Bool.false_eq_true, if_true, if_false, reduceIte, decide_eq_true_eq, beq_iff_eq, bne_iff_ne, ne_eq, Bool.not_true, Bool.not_false, l_sp, l_sp', l_spn, l_dot, l_dot', l_dotn, l_E, l_E', l_En, l_I, l_I', l_In, l_F, l_F', l_Fn, l_D, l_D', l_Dn, l_G, l_G', l_Gn, l_L, l_L', l_Ln, l_A, l_A', l_An, l_q, l_q', l_qn, l_P, l_P', l_Pn, l_mi, l_mi', l_min, l_pl, l_pl', l_pln, l_sl, l_sl', l_sln, l_co, l_co', l_con, l_S, l_S', l_Sn, l_N, l_N', l_Nn, l_Z, l_Z', l_Zn, l_B, l_B', l_Bn, l_R, l_R', l_Rn, l_T, l_T', l_Tn, l_X, l_X', l_Xn, l_H, l_H', l_Hn, l_lp, l_lp', l_lpn, l_cm, l_cm', l_cmn, l_rp, l_rp', l_rpn, f_ret, f_exc, f_ite, g_suc, f_call, Int.reduceLE, Int.reduceNeg, Int.reduceLT, Bool.and_true, Bool.true_and, Bool.and_false, Bool.false_and, Bool.or_true, Bool.true_or, Bool.or_false, Bool.false_or, Nat.reduceBEq, Nat.reduceBNe, beq_self_eq_true, bne_self_eq_false, decide_true, decide_false, not_true_eq_false, not_false_eq_true, Bool.not_eq_true', beq_eq_false_iff_ne, decide_eq_false_iff_not, q1, q2, vOf, hvn, hvm, n_slc t h (h + 1) hh rfl hZ, cH, hz, hCT _ _ hk', r_counted_text, n_len t hZ, hl]
        trivial
      · refine .inr ⟨.tup [.str (Str.ofString "H"), .str (Txt.slice t (some (h + 1)) (some (h + 1 + v)))], c1 t h, h + 1 + v, .inl (valOk_lit _ (by rw [hx]; exact ⟨by kernel_rfl, by kernel_rfl, by kernel_rfl, by kernel_rfl⟩)), by omega, by omega, fun k hk => ?_⟩
        obtain ⟨k, rfl, hk', _⟩ := dec hk
        obtain ⟨q1, q2⟩ := a3 k (by omega)
        show Φ _ .counted_at _ = _ ∧ Φ _ .lawCounted _ = _; rw [hV, hLV]; unfold r_counted_at r_lawCounted
        simp only [e_C, e_Nil, e_Bin, e_Neg, e_Len, e_Ord, e_Max, e_Find, e_Idx, e_Slc, e_Cmp, e_tCmp, e_K, e_tK, e_Of, e_Not, e_And, e_Or, e_xAnd, e_xOr, e_xNot, e_Ite, e_aNil, e_aCons, e_Tup, e_Call, e_Assign, e_Unp, e_Swap, e_Aug, e_If, e_Ret, e_Cont, e_sNil, e_Cons, e_Raise, b_ok, b_exc, b_ite, t_ok, t_exc, t_ite, a_next, a_cont, a_ret, a_exc, a_ite, r_raise, k_true, k_sc, k_scn, n_add, n_sub, n_mul, n_neg, n_max, n_aug, n_find, m_eqi, m_nei, m_lt, m_gt, m_ge, m_eqn, m_eqs, m_nes, m_in, m_nin, m_isn, m_isi, p_tup, p_lt, u_tup, u_lt, u_rev, w_cons, w_nil, g_get, g_lst, bl, List.length_cons, List.length_nil, List.map_cons, List.map_nil, List.replicate_succ, List.replicate_zero, List.cons_append, List.nil_append, List.append_nil, List.set_cons_zero, List.set_cons_succ, List.getElem?_cons_zero, List.getElem?_cons_succ, scOf, List.reverse_cons, List.reverse_nil, Nat.reduceAdd, Nat.reduceLeDiff, Nat.reduceEqDiff, Bool.false_eq_true, if_true, if_false, reduceIte, decide_eq_true_eq, beq_iff_eq, bne_iff_ne, ne_eq, Bool.not_true, Bool.not_false, l_sp, l_sp', l_spn, l_dot, l_dot', l_dotn, l_E, l_E', l_En, l_I, l_I', l_In, l_F, l_F', l_Fn, l_D, l_D', l_Dn, l_G, l_G', l_Gn, l_L, l_L', l_Ln, l_A, l_A', l_An, l_q, l_q', l_qn, l_P, l_P', l_Pn, l_mi, l_mi', l_min, l_pl, l_pl', l_pln, l_sl, l_sl', l_sln, l_co, l_co', l_con, l_S, l_S', l_Sn, l_N, l_N', l_Nn, l_Z, l_Z', l_Zn, l_B, l_B', l_Bn, l_R, l_R', l_Rn, l_T, l_T', l_Tn, l_X, l_X', l_Xn, l_H, l_H', l_Hn, l_lp, l_lp', l_lpn, l_cm, l_cm', l_cmn, l_rp, l_rp', l_rpn, f_ret, f_exc, f_ite, g_suc, f_call, Int.reduceLE, Int.reduceNeg, Int.reduceLT, Bool.and_true, Bool.true_and, Bool.and_false, Bool.false_and, Bool.or_true, Bool.true_or, Bool.or_false, Bool.false_or, Nat.reduceBEq, Nat.reduceBNe, beq_self_eq_true, bne_self_eq_false, decide_true, decide_false, not_true_eq_false, not_false_eq_true, Bool.not_eq_true', beq_eq_false_iff_ne, decide_eq_false_iff_not, q1, q2, vOf, hvn, hvm, n_slc t h (h + 1) hh rfl hZ, cH, hz, hCT _ _ hk', r_counted_text, n_len t hZ, hl, n_slcany t (h + 1) (h + 1 + v) hZ]
        trivial
    by_cases cL : cd t h = 40
    · rcases grouped hN d hd ih h v hh cL with ⟨n, a, j, n0, g⟩ | ⟨it, x, j, hok, j1, j2, g⟩
      · refine .inl ⟨n, a, j, n0, fun k hk => ?_⟩
        obtain ⟨k, rfl, hk', hk2⟩ := dec hk
        obtain ⟨q1, q2⟩ := a3 k (by omega)
        obtain ⟨g1, g2⟩ := g k hk2
        show Φ _ .counted_at _ = _ ∧ Φ _ .lawCounted _ = _; rw [hV, hLV]; unfold r_counted_at r_lawCounted
        simp only [e_C, e_Nil, e_Bin, e_Neg, e_Len, e_Ord, e_Max, e_Find, e_Idx, e_Slc, e_Cmp, e_tCmp, e_K, e_tK, e_Of, e_Not, e_And, e_Or, e_xAnd, e_xOr, e_xNot, e_Ite, e_aNil, e_aCons, e_Tup, e_Call, e_Assign, e_Unp, e_Swap, e_Aug, e_If, e_Ret, e_Cont, e_sNil, e_Cons, e_Raise, b_ok, b_exc, b_ite, t_ok, t_exc, t_ite, a_next, a_cont, a_ret, a_exc, a_ite, r_raise, k_true, k_sc, k_scn, n_add, n_sub, n_mul, n_neg, n_max, n_aug, n_find, m_eqi, m_nei, m_lt, m_gt, m_ge, m_eqn, m_eqs, m_nes, m_in, m_nin, m_isn, m_isi, p_tup, p_lt, u_tup, u_lt, u_rev, w_cons, w_nil, g_get, g_lst, bl, List.length_cons, List.length_nil, List.map_cons, List.map_nil, List.replicate_succ, List.replicate_zero, List.cons_append, List.nil_append, List.append_nil, List.set_cons_zero, List.set_cons_succ, List.getElem?_cons_zero, List.getElem?_cons_succ, scOf, List.reverse_cons, List.reverse_nil, Nat.reduceAdd, Nat.reduceLeDiff, Nat.reduceEqDiff, Bool.false_eq_true, if_true, if_false, reduceIte, decide_eq_true_eq, beq_iff_eq, bne_iff_ne, ne_eq, Bool.not_true, Bool.not_false, l_sp, l_sp', l_spn, l_dot, l_dot', l_dotn, l_E, l_E', l_En, l_I, l_I', l_In, l_F, l_F', l_Fn, l_D, l_D', l_Dn, l_G, l_G', l_Gn, l_L, l_L', l_Ln, l_A, l_A', l_An, l_q, l_q', l_qn, l_P, l_P', l_Pn, l_mi, l_mi', l_min, l_pl, l_pl', l_pln, l_sl, l_sl', l_sln, l_co, l_co', l_con, l_S, l_S', l_Sn, l_N, l_N', l_Nn, l_Z, l_Z', l_Zn, l_B, l_B', l_Bn, l_R, l_R', l_Rn, l_T, l_T', l_Tn, l_X, l_X', l_Xn, l_H, l_H', l_Hn, l_lp, l_lp', l_lpn, l_cm, l_cm', l_cmn, l_rp, l_rp', l_rpn, f_ret, f_exc, f_ite, g_suc, f_call, Int.reduceLE, Int.reduceNeg, Int.reduceLT, Bool.and_true, Bool.true_and, Bool.and_false, Bool.false_and, Bool.or_true, Bool.true_or, Bool.or_false, Bool.false_or, Nat.reduceBEq, Nat.reduceBNe, beq_self_eq_true, bne_self_eq_false, decide_true, decide_false, not_true_eq_false, not_false_eq_true, Bool.not_eq_true', beq_eq_false_iff_ne, decide_eq_false_iff_not, q1, q2, vOf, hvn, hvm, n_slc t h (h + 1) hh rfl hZ, cL, hz, g1, g2]
        trivial
      · refine .inr ⟨it, x, j, hok, by omega, j2, fun k hk => ?_⟩
        obtain ⟨k, rfl, hk', hk2⟩ := dec hk
        obtain ⟨q1, q2⟩ := a3 k (by omega)
        obtain ⟨g1, g2⟩ := g k hk2
        show Φ _ .counted_at _ = _ ∧ Φ _ .lawCounted _ = _; rw [hV, hLV]; unfold r_counted_at r_lawCounted
        simp only [e_C, e_Nil, e_Bin, e_Neg, e_Len, e_Ord, e_Max, e_Find, e_Idx, e_Slc, e_Cmp, e_tCmp, e_K, e_tK, e_Of, e_Not, e_And, e_Or, e_xAnd, e_xOr, e_xNot, e_Ite, e_aNil, e_aCons, e_Tup, e_Call, e_Assign, e_Unp, e_Swap, e_Aug, e_If, e_Ret, e_Cont, e_sNil, e_Cons, e_Raise, b_ok, b_exc, b_ite, t_ok, t_exc, t_ite, a_next, a_cont, a_ret, a_exc, a_ite, r_raise, k_true, k_sc, k_scn, n_add, n_sub, n_mul, n_neg, n_max, n_aug, n_find, m_eqi, m_nei, m_lt, m_gt, m_ge, m_eqn, m_eqs, m_nes, m_in, m_nin, m_isn, m_isi, p_tup, p_lt, u_tup, u_lt, u_rev, w_cons, w_nil, g_get, g_lst, bl, List.length_cons, List.length_nil, List.map_cons, List.map_nil, List.replicate_succ, List.replicate_zero, List.cons_append, List.nil_append, List.append_nil, List.set_cons_zero, List.set_cons_succ, List.getElem?_cons_zero, List.getElem?_cons_succ, scOf, List.reverse_cons, List.reverse_nil, Nat.reduceAdd, Nat.reduceLeDiff, Nat.reduceEqDiff, Bool.false_eq_true, if_true, if_false, reduceIte, decide_eq_true_eq, beq_iff_eq, bne_iff_ne, ne_eq, Bool.not_true, Bool.not_false, l_sp, l_sp', l_spn, l_dot, l_dot', l_dotn, l_E, l_E', l_En, l_I, l_I', l_In, l_F, l_F', l_Fn, l_D, l_D', l_Dn, l_G, l_G', l_Gn, l_L, l_L', l_Ln, l_A, l_A', l_An, l_q, l_q', l_qn, l_P, l_P', l_Pn, l_mi, l_mi', l_min, l_pl, l_pl', l_pln, l_sl, l_sl', l_sln, l_co, l_co', l_con, l_S, l_S', l_Sn, l_N, l_N', l_Nn, l_Z, l_Z', l_Zn, l_B, l_B', l_Bn, l_R, l_R', l_Rn, l_T, l_T', l_Tn, l_X, l_X', l_Xn, l_H, l_H', l_Hn, l_lp, l_lp', l_lpn, l_cm, l_cm', l_cmn, l_rp, l_rp', l_rpn, f_ret, f_exc, f_ite, g_suc, f_call, Int.reduceLE, Int.reduceNeg, Int.reduceLT, Bool.and_true, Bool.true_and, Bool.and_false, Bool.false_and, Bool.or_true, Bool.true_or, Bool.or_false, Bool.false_or, Nat.reduceBEq, Nat.reduceBNe, beq_self_eq_true, bne_self_eq_false, decide_true, decide_false, not_true_eq_false, not_false_eq_true, Bool.not_eq_true', beq_eq_false_iff_ne, decide_eq_false_iff_not, q1, q2, vOf, hvn, hvm, n_slc t h (h + 1) hh rfl hZ, cL, hz, g1, g2]
        trivial
    by_cases hend : (t.length : Int) ≤ h
    · refine .inl ⟨h, .str (c1 t h), h, hh, fun k hk => ?_⟩
      obtain ⟨k, rfl, hk', _⟩ := dec hk
      obtain ⟨q1, q2⟩ := a3 k (by omega)
      show Φ _ .counted_at _ = _ ∧ Φ _ .lawCounted _ = _; rw [hV, hLV]; unfold r_counted_at r_lawCounted
      have he : c1 t h = Str.ofString "" := beq_iff_eq.mp (by rw [c1_nil hh, decide_eq_true hend])
      have e1 : (c1 t h == Str.ofString "") = true := by rw [he, beq_self_eq_true]
      simp only [e_C, e_Nil, e_Bin, e_Neg, e_Len, e_Ord, e_Max, e_Find, e_Idx, e_Slc, e_Cmp, e_tCmp, e_K, e_tK, e_Of, e_Not, e_And, e_Or, e_xAnd, e_xOr, e_xNot, e_Ite, e_aNil, e_aCons, e_Tup, e_Call, e_Assign, e_Unp, e_Swap, e_Aug, e_If, e_Ret, e_Cont, e_sNil, e_Cons, e_Raise, b_ok, b_exc, b_ite, t_ok, t_exc, t_ite, a_next, a_cont, a_ret, a_exc, a_ite, r_raise, k_true, k_sc, k_scn, n_add, n_sub, n_mul, n_neg, n_max, n_aug, n_find, m_eqi, m_nei, m_lt, m_gt, m_ge, m_eqn, m_eqs, m_nes, m_in, m_nin, m_isn, m_isi, p_tup, p_lt, u_tup, u_lt, u_rev, w_cons, w_nil, g_get, g_lst, bl, List.length_cons, List.length_nil, List.map_cons, List.map_nil, List.replicate_succ, List.replicate_zero, List.cons_append, List.nil_append, List.append_nil, List.set_cons_zero, List.set_cons_succ, List.getElem?_cons_zero, List.getElem?_cons_succ, scOf, List.reverse_cons, List.reverse_nil, Nat.reduceAdd, Nat.reduceLeDiff, Nat.reduceEqDiff, Bool.false_eq_true, if_true, if_false, reduceIte, decide_eq_true_eq, beq_iff_eq, bne_iff_ne, ne_eq, Bool.not_true, Bool.not_false, l_sp, l_sp', l_spn, l_dot, l_dot', l_dotn, l_E, l_E', l_En, l_I, l_I', l_In, l_F, l_F', l_Fn, l_D, l_D', l_Dn, l_G, l_G', l_Gn, l_L, l_L', l_Ln, l_A, l_A', l_An, l_q, l_q', l_qn, l_P, l_P', l_Pn, l_mi, l_mi', l_min, l_pl, l_pl', l_pln, l_sl, l_sl', l_sln, l_co, l_co', l_con, l_S, l_S', l_Sn, l_N, l_N', l_Nn, l_Z, l_Z', l_Zn, l_B, l_B', l_Bn, l_R, l_R', l_Rn, l_T, l_T', l_Tn, l_X, l_X', l_Xn, l_H, l_H', l_Hn, l_lp, l_lp', l_lpn, l_cm, l_cm', l_cmn, l_rp, l_rp', l_rpn, f_ret, f_exc, f_ite, g_suc, f_call, Int.reduceLE, Int.reduceNeg, Int.reduceLT, Bool.and_true, Bool.true_and, Bool.and_false, Bool.false_and, Bool.or_true, Bool.true_or, Bool.or_false, Bool.false_or, Nat.reduceBEq, Nat.reduceBNe, beq_self_eq_true, bne_self_eq_false, decide_true, decide_false, not_true_eq_false, not_false_eq_true, Bool.not_eq_true', beq_eq_false_iff_ne, decide_eq_false_iff_not, q1, q2, vOf, hvn, hvm, n_slc t h (h + 1) hh rfl hZ, cP, cX, cH, cL, hz, l_e t h hh, e1, hend, he]
      trivial
    have hhN : h < t.length := by omega
    have hne : c1 t h ≠ Str.ofString "" := by
      have := c1_nil (t := t) hh
      rw [decide_eq_false (by omega)] at this
      exact beq_eq_false_iff_ne.mp this
    cases hlt : letT t h with
    | false =>
      refine .inl ⟨h, .str (c1 t h), h, hh, fun k hk => ?_⟩
      obtain ⟨k, rfl, hk', _⟩ := dec hk
      obtain ⟨q1, q2⟩ := a3 k (by omega)
      show Φ _ .counted_at _ = _ ∧ Φ _ .lawCounted _ = _; rw [hV, hLV]; unfold r_counted_at r_lawCounted
      simp only [e_C, e_Nil, e_Bin, e_Neg, e_Len, e_Ord, e_Max, e_Find, e_Idx, e_Slc, e_Cmp, e_tCmp, e_K, e_tK, e_Of, e_Not, e_And, e_Or, e_xAnd, e_xOr, e_xNot, e_Ite, e_aNil, e_aCons, e_Tup, e_Call, e_Assign, e_Unp, e_Swap, e_Aug, e_If, e_Ret, e_Cont, e_sNil, e_Cons, e_Raise, b_ok, b_exc, b_ite, t_ok, t_exc, t_ite, a_next, a_cont, a_ret, a_exc, a_ite, r_raise, k_true, k_sc, k_scn, n_add, n_sub, n_mul, n_neg, n_max, n_aug, n_find, m_eqi, m_nei, m_lt, m_gt, m_ge, m_eqn, m_eqs, m_nes, m_in, m_nin, m_isn, m_isi, p_tup, p_lt, u_tup, u_lt, u_rev, w_cons, w_nil, g_get, g_lst, bl, List.length_cons, List.length_nil, List.map_cons, List.map_nil, List.replicate_succ, List.replicate_zero, List.cons_append, List.nil_append, List.append_nil, List.set_cons_zero, List.set_cons_succ, List.getElem?_cons_zero, List.getElem?_cons_succ, scOf, List.reverse_cons, List.reverse_nil, Nat.reduceAdd, Nat.reduceLeDiff, Nat.reduceEqDiff, Bool.false_eq_true, if_true, if_false, reduceIte, decide_eq_true_eq, beq_iff_eq, bne_iff_ne, ne_eq, Bool.not_true, Bool.not_false, l_sp, l_sp', l_spn, l_dot, l_dot', l_dotn, l_E, l_E', l_En, l_I, l_I', l_In, l_F, l_F', l_Fn, l_D, l_D', l_Dn, l_G, l_G', l_Gn, l_L, l_L', l_Ln, l_A, l_A', l_An, l_q, l_q', l_qn, l_P, l_P', l_Pn, l_mi, l_mi', l_min, l_pl, l_pl', l_pln, l_sl, l_sl', l_sln, l_co, l_co', l_con, l_S, l_S', l_Sn, l_N, l_N', l_Nn, l_Z, l_Z', l_Zn, l_B, l_B', l_Bn, l_R, l_R', l_Rn, l_T, l_T', l_Tn, l_X, l_X', l_Xn, l_H, l_H', l_Hn, l_lp, l_lp', l_lpn, l_cm, l_cm', l_cmn, l_rp, l_rp', l_rpn, f_ret, f_exc, f_ite, g_suc, f_call, Int.reduceLE, Int.reduceNeg, Int.reduceLT, Bool.and_true, Bool.true_and, Bool.and_false, Bool.false_and, Bool.or_true, Bool.true_or, Bool.or_false, Bool.false_or, Nat.reduceBEq, Nat.reduceBNe, beq_self_eq_true, bne_self_eq_false, decide_true, decide_false, not_true_eq_false, not_false_eq_true, Bool.not_eq_true', beq_eq_false_iff_ne, decide_eq_false_iff_not, q1, q2, vOf, hvn, hvm, n_slc t h (h + 1) hh rfl hZ, cP, cX, cH, cL, hz, hend, hne, has_let hh hhN, hlt]
      trivial
    | true =>
      rcases valued hN h hh hhN (let_cases hlt) with ⟨n, a, j, n0, g⟩ | ⟨it, x, j, ⟨hok, rfl⟩, j1, j2, g⟩
      · refine .inl ⟨n, a, j, n0, fun k hk => ?_⟩
        obtain ⟨k, rfl, hk', hk2⟩ := dec hk
        obtain ⟨q1, q2⟩ := a3 k (by omega)
        obtain ⟨g1, g2⟩ := g k hk'
        show Φ _ .counted_at _ = _ ∧ Φ _ .lawCounted _ = _; rw [hV, hLV]; unfold r_counted_at r_lawCounted
        simp only [e_C, e_Nil, e_Bin, e_Neg, e_Len, e_Ord, e_Max, e_Find, e_Idx, e_Slc, e_Cmp, e_tCmp, e_K, e_tK, e_Of, e_Not, e_And, e_Or, e_xAnd, e_xOr, e_xNot, e_Ite, e_aNil, e_aCons, e_Tup, e_Call, e_Assign, e_Unp, e_Swap, e_Aug, e_If, e_Ret, e_Cont, e_sNil, e_Cons, e_Raise, b_ok, b_exc, b_ite, t_ok, t_exc, t_ite, a_next, a_cont, a_ret, a_exc, a_ite, r_raise, k_true, k_sc, k_scn, n_add, n_sub, n_mul, n_neg, n_max, n_aug, n_find, m_eqi, m_nei, m_lt, m_gt, m_ge, m_eqn, m_eqs, m_nes, m_in, m_nin, m_isn, m_isi, p_tup, p_lt, u_tup, u_lt, u_rev, w_cons, w_nil, g_get, g_lst, bl, List.length_cons, List.length_nil, List.map_cons, List.map_nil, List.replicate_succ, List.replicate_zero, List.cons_append, List.nil_append, List.append_nil, List.set_cons_zero, List.set_cons_succ, List.getElem?_cons_zero, List.getElem?_cons_succ, scOf, List.reverse_cons, List.reverse_nil, Nat.reduceAdd, Nat.reduceLeDiff, Nat.reduceEqDiff, Bool.false_eq_true, if_true, if_false, reduceIte, decide_eq_true_eq, beq_iff_eq, bne_iff_ne, ne_eq, Bool.not_true, Bool.not_false, l_sp, l_sp', l_spn, l_dot, l_dot', l_dotn, l_E, l_E', l_En, l_I, l_I', l_In, l_F, l_F', l_Fn, l_D, l_D', l_Dn, l_G, l_G', l_Gn, l_L, l_L', l_Ln, l_A, l_A', l_An, l_q, l_q', l_qn, l_P, l_P', l_Pn, l_mi, l_mi', l_min, l_pl, l_pl', l_pln, l_sl, l_sl', l_sln, l_co, l_co', l_con, l_S, l_S', l_Sn, l_N, l_N', l_Nn, l_Z, l_Z', l_Zn, l_B, l_B', l_Bn, l_R, l_R', l_Rn, l_T, l_T', l_Tn, l_X, l_X', l_Xn, l_H, l_H', l_Hn, l_lp, l_lp', l_lpn, l_cm, l_cm', l_cmn, l_rp, l_rp', l_rpn, f_ret, f_exc, f_ite, g_suc, f_call, Int.reduceLE, Int.reduceNeg, Int.reduceLT, Bool.and_true, Bool.true_and, Bool.and_false, Bool.false_and, Bool.or_true, Bool.true_or, Bool.or_false, Bool.false_or, Nat.reduceBEq, Nat.reduceBNe, beq_self_eq_true, bne_self_eq_false, decide_true, decide_false, not_true_eq_false, not_false_eq_true, Bool.not_eq_true', beq_eq_false_iff_ne, decide_eq_false_iff_not, q1, q2, vOf, hvn, hvm, n_slc t h (h + 1) hh rfl hZ, cP, cX, cH, cL, hz, hend, hne, has_let hh hhN, hlt, g1, g2]
        trivial
      · by_cases hv1 : 1 < v
        · refine .inr ⟨.tup [.str (Str.ofString "repeat"), .int v, it], c1 t h, j, .inr ⟨_, _, rfl, hok, (let_not hlt).1, (let_not hlt).2⟩, by omega, j2, fun k hk => ?_⟩
          obtain ⟨k, rfl, hk', hk2⟩ := dec hk
          obtain ⟨q1, q2⟩ := a3 k (by omega)
          obtain ⟨g1, g2⟩ := g k hk'
          show Φ _ .counted_at _ = _ ∧ Φ _ .lawCounted _ = _; rw [hV, hLV]; unfold r_counted_at r_lawCounted
          simp only [e_C, e_Nil, e_Bin, e_Neg, e_Len, e_Ord, e_Max, e_Find, e_Idx, e_Slc, e_Cmp, e_tCmp, e_K, e_tK, e_Of, e_Not, e_And, e_Or, e_xAnd, e_xOr, e_xNot, e_Ite, e_aNil, e_aCons, e_Tup, e_Call, e_Assign, e_Unp, e_Swap, e_Aug, e_If, e_Ret, e_Cont, e_sNil, e_Cons, e_Raise, b_ok, b_exc, b_ite, t_ok, t_exc, t_ite, a_next, a_cont, a_ret, a_exc, a_ite, r_raise, k_true, k_sc, k_scn, n_add, n_sub, n_mul, n_neg, n_max, n_aug, n_find, m_eqi, m_nei, m_lt, m_gt, m_ge, m_eqn, m_eqs, m_nes, m_in, m_nin, m_isn, m_isi, p_tup, p_lt, u_tup, u_lt, u_rev, w_cons, w_nil, g_get, g_lst, bl, List.length_cons, List.length_nil, List.map_cons, List.map_nil, List.replicate_succ, List.replicate_zero, List.cons_append, List.nil_append, List.append_nil, List.set_cons_zero, List.set_cons_succ, List.getElem?_cons_zero, List.getElem?_cons_succ, scOf, List.reverse_cons, List.reverse_nil, Nat.reduceAdd, Nat.reduceLeDiff, Nat.reduceEqDiff, Bool.false_eq_true, if_true, if_false, reduceIte, decide_eq_true_eq, beq_iff_eq, bne_iff_ne, ne_eq, Bool.not_true, Bool.not_false, l_sp, l_sp', l_spn, l_dot, l_dot', l_dotn, l_E, l_E', l_En, l_I, l_I', l_In, l_F, l_F', l_Fn, l_D, l_D', l_Dn, l_G, l_G', l_Gn, l_L, l_L', l_Ln, l_A, l_A', l_An, l_q, l_q', l_qn, l_P, l_P', l_Pn, l_mi, l_mi', l_min, l_pl, l_pl', l_pln, l_sl, l_sl', l_sln, l_co, l_co', l_con, l_S, l_S', l_Sn, l_N, l_N', l_Nn, l_Z, l_Z', l_Zn, l_B, l_B', l_Bn, l_R, l_R', l_Rn, l_T, l_T', l_Tn, l_X, l_X', l_Xn, l_H, l_H', l_Hn, l_lp, l_lp', l_lpn, l_cm, l_cm', l_cmn, l_rp, l_rp', l_rpn, f_ret, f_exc, f_ite, g_suc, f_call, Int.reduceLE, Int.reduceNeg, Int.reduceLT, Bool.and_true, Bool.true_and, Bool.and_false, Bool.false_and, Bool.or_true, Bool.true_or, Bool.or_false, Bool.false_or, Nat.reduceBEq, Nat.reduceBNe, beq_self_eq_true, bne_self_eq_false, decide_true, decide_false, not_true_eq_false, not_false_eq_true, Bool.not_eq_true', beq_eq_false_iff_ne, decide_eq_false_iff_not, q1, q2, vOf, hvn, hvm, n_slc t h (h + 1) hh rfl hZ, cP, cX, cH, cL, hz, hend, hne, has_let hh hhN, hlt, g1, g2, hv1]
          trivial
        · refine .inr ⟨it, c1 t h, j, .inl hok, by omega, j2, fun k hk => ?_⟩
          obtain ⟨k, rfl, hk', hk2⟩ := dec hk
          obtain ⟨q1, q2⟩ := a3 k (by omega)
          obtain ⟨g1, g2⟩ := g k hk'
          show Φ _ .counted_at _ = _ ∧ Φ _ .lawCounted _ = _; rw [hV, hLV]; unfold r_counted_at r_lawCounted
          simp only [e_C, e_Nil, e_Bin, e_Neg, e_Len, e_Ord, e_Max, e_Find, e_Idx, e_Slc, e_Cmp, e_tCmp, e_K, e_tK, e_Of, e_Not, e_And, e_Or, e_xAnd, e_xOr, e_xNot, e_Ite, e_aNil, e_aCons, e_Tup, e_Call, e_Assign, e_Unp, e_Swap, e_Aug, e_If, e_Ret, e_Cont, e_sNil, e_Cons, e_Raise, b_ok, b_exc, b_ite, t_ok, t_exc, t_ite, a_next, a_cont, a_ret, a_exc, a_ite, r_raise, k_true, k_sc, k_scn, n_add, n_sub, n_mul, n_neg, n_max, n_aug, n_find, m_eqi, m_nei, m_lt, m_gt, m_ge, m_eqn, m_eqs, m_nes, m_in, m_nin, m_isn, m_isi, p_tup, p_lt, u_tup, u_lt, u_rev, w_cons, w_nil, g_get, g_lst, bl, List.length_cons, List.length_nil, List.map_cons, List.map_nil, List.replicate_succ, List.replicate_zero, List.cons_append, List.nil_append, List.append_nil, List.set_cons_zero, List.set_cons_succ, List.getElem?_cons_zero, List.getElem?_cons_succ, scOf, List.reverse_cons, List.reverse_nil, Nat.reduceAdd, Nat.reduceLeDiff, Nat.reduceEqDiff, Bool.false_eq_true, if_true, if_false, reduceIte, decide_eq_true_eq, beq_iff_eq, bne_iff_ne, ne_eq, Bool.not_true, Bool.not_false, l_sp, l_sp', l_spn, l_dot, l_dot', l_dotn, l_E, l_E', l_En, l_I, l_I', l_In, l_F, l_F', l_Fn, l_D, l_D', l_Dn, l_G, l_G', l_Gn, l_L, l_L', l_Ln, l_A, l_A', l_An, l_q, l_q', l_qn, l_P, l_P', l_Pn, l_mi, l_mi', l_min, l_pl, l_pl', l_pln, l_sl, l_sl', l_sln, l_co, l_co', l_con, l_S, l_S', l_Sn, l_N, l_N', l_Nn, l_Z, l_Z', l_Zn, l_B, l_B', l_Bn, l_R, l_R', l_Rn, l_T, l_T', l_Tn, l_X, l_X', l_Xn, l_H, l_H', l_Hn, l_lp, l_lp', l_lpn, l_cm, l_cm', l_cmn, l_rp, l_rp', l_rpn, f_ret, f_exc, f_ite, g_suc, f_call, Int.reduceLE, Int.reduceNeg, Int.reduceLT, Bool.and_true, Bool.true_and, Bool.and_false, Bool.false_and, Bool.or_true, Bool.true_or, Bool.or_false, Bool.false_or, Nat.reduceBEq, Nat.reduceBNe, beq_self_eq_true, bne_self_eq_false, decide_true, decide_false, not_true_eq_false, not_false_eq_true, Bool.not_eq_true', beq_eq_false_iff_ne, decide_eq_false_iff_not, q1, q2, vOf, hvn, hvm, n_slc t h (h + 1) hh rfl hZ, cP, cX, cH, cL, hz, hend, hne, has_let hh hhN, hlt, g1, g2, hv1]
          trivial

theorem item (hN : t.length ≤ 2000) (d : Nat) (hd : d ≤ 10) (ih : d < 10 → Rows t (d + 1)) (i : Int) (h0 : 0 ≤ i) (hi : i < t.length) :
    Ag ItemOk t i (Bi d - 1) (fun k => Φ k .item_at [.str t, .int i, .int d]) (fun k => Φ k .lawItem [.str t, .int i, .int d]) := by
  have hZ : t.length ≤ sizeLine := by rw [sizeLine_eq]; omega
  have hB : 9 ≤ Bi d := by simp [Bi]
  have hV : ∀ k l, Φ (k + 1) .item_at l = funR 3 1 (r_item_at (Φ k)) l := fun _ _ => rfl
  have hLV : ∀ k l, Φ (k + 1) .lawItem l = funR 3 4 (r_lawItem (Φ k)) l := fun _ _ => rfl
  have dec : ∀ {k : Nat}, Bi d - 1 ≤ k → ∃ k', k = k' + 1 ∧ 7 ≤ k' ∧ Bi d - 2 ≤ k' := fun {k} h => ⟨k - 1, by omega, by omega, by omega⟩
  have hpm : Txt.contains (Str.ofString "+-") (c1 t i) = (cd t i == 43 || cd t i == 45) := h_pm t i h0 hi
  cases hdg : dig t i with
  | true =>
    rcases counted hN d hd ih i h0 hdg with ⟨n, a, j, n0, g⟩ | ⟨it, x, j, hok, j1, j2, g⟩
    · refine .inl ⟨n, a, j, n0, fun k hk => ?_⟩
      obtain ⟨k, rfl, hk', hk2⟩ := dec hk
      obtain ⟨g1, g2⟩ := g k hk2
      show Φ _ .item_at _ = _ ∧ Φ _ .lawItem _ = _; rw [hV, hLV]; unfold r_item_at r_lawItem
      simp only [e_C, e_Nil, e_Bin, e_Neg, e_Len, e_Ord, e_Max, e_Find, e_Idx, e_Slc, e_Cmp, e_tCmp, e_K, e_tK, e_Of, e_Not, e_And, e_Or, e_xAnd, e_xOr, e_xNot, e_Ite, e_aNil, e_aCons, e_Tup, e_Call, e_Assign, e_Unp, e_Swap, e_Aug, e_If, e_Ret, e_Cont, e_sNil, e_Cons, e_Raise, b_ok, b_exc, b_ite, t_ok, t_exc, t_ite, a_next, a_cont, a_ret, a_exc, a_ite, r_raise, k_true, k_sc, k_scn, n_add, n_sub, n_mul, n_neg, n_max, n_aug, n_find, m_eqi, m_nei, m_lt, m_gt, m_ge, m_eqn, m_eqs, m_nes, m_in, m_nin, m_isn, m_isi, p_tup, p_lt, u_tup, u_lt, u_rev, w_cons, w_nil, g_get, g_lst, bl, List.length_cons, List.length_nil, List.map_cons, List.map_nil, List.replicate_succ, List.replicate_zero, List.cons_append, List.nil_append, List.append_nil, List.set_cons_zero, List.set_cons_succ, List.getElem?_cons_zero, List.getElem?_cons_succ, scOf, List.reverse_cons, List.reverse_nil, Nat.reduceAdd, Nat.reduceLeDiff, Nat.reduceEqDiff, Bool.false_eq_true, if_true, if_false, reduceIte, decide_eq_true_eq, beq_iff_eq, bne_iff_ne, ne_eq, Bool.not_true, Bool.not_false, l_sp, l_sp', l_spn, l_dot, l_dot', l_dotn, l_E, l_E', l_En, l_I, l_I', l_In, l_F, l_F', l_Fn, l_D, l_D', l_Dn, l_G, l_G', l_Gn, l_L, l_L', l_Ln, l_A, l_A', l_An, l_q, l_q', l_qn, l_P, l_P', l_Pn, l_mi, l_mi', l_min, l_pl, l_pl', l_pln, l_sl, l_sl', l_sln, l_co, l_co', l_con, l_S, l_S', l_Sn, l_N, l_N', l_Nn, l_Z, l_Z', l_Zn, l_B, l_B', l_Bn, l_R, l_R', l_Rn, l_T, l_T', l_Tn, l_X, l_X', l_Xn, l_H, l_H', l_Hn, l_lp, l_lp', l_lpn, l_cm, l_cm', l_cmn, l_rp, l_rp', l_rpn, f_ret, f_exc, f_ite, g_suc, f_call, Int.reduceLE, Int.reduceNeg, Int.reduceLT, Bool.and_true, Bool.true_and, Bool.and_false, Bool.false_and, Bool.or_true, Bool.true_or, Bool.or_false, Bool.false_or, Nat.reduceBEq, Nat.reduceBNe, beq_self_eq_true, bne_self_eq_false, decide_true, decide_false, not_true_eq_false, not_false_eq_true, Bool.not_eq_true', beq_eq_false_iff_ne, decide_eq_false_iff_not, n_idx t i h0 hi hZ, has_dig h0 hi, hdg, g1, g2]
      trivial
    · refine .inr ⟨it, x, j, hok, j1, j2, fun k hk => ?_⟩
      obtain ⟨k, rfl, hk', hk2⟩ := dec hk
      obtain ⟨g1, g2⟩ := g k hk2
      show Φ _ .item_at _ = _ ∧ Φ _ .lawItem _ = _; rw [hV, hLV]; unfold r_item_at r_lawItem
      simp only [e_C, e_Nil, e_Bin, e_Neg, e_Len, e_Ord, e_Max, e_Find, e_Idx, e_Slc, e_Cmp, e_tCmp, e_K, e_tK, e_Of, e_Not, e_And, e_Or, e_xAnd, e_xOr, e_xNot, e_Ite, e_aNil, e_aCons, e_Tup, e_Call, e_Assign, e_Unp, e_Swap, e_Aug, e_If, e_Ret, e_Cont, e_sNil, e_Cons, e_Raise, b_ok, b_exc, b_ite, t_ok, t_exc, t_ite, a_next, a_cont, a_ret, a_exc, a_ite, r_raise, k_true, k_sc, k_scn, n_add, n_sub, n_mul, n_neg, n_max, n_aug, n_find, m_eqi, m_nei, m_lt, m_gt, m_ge, m_eqn, m_eqs, m_nes, m_in, m_nin, m_isn, m_isi, p_tup, p_lt, u_tup, u_lt, u_rev, w_cons, w_nil, g_get, g_lst, bl, List.length_cons, List.length_nil, List.map_cons, List.map_nil, List.replicate_succ, List.replicate_zero, List.cons_append, List.nil_append, List.append_nil, List.set_cons_zero, List.set_cons_succ, List.getElem?_cons_zero, List.getElem?_cons_succ, scOf, List.reverse_cons, List.reverse_nil, Nat.reduceAdd, Nat.reduceLeDiff, Nat.reduceEqDiff, Bool.false_eq_true, if_true, if_false, reduceIte, decide_eq_true_eq, beq_iff_eq, bne_iff_ne, ne_eq, Bool.not_true, Bool.not_false, l_sp, l_sp', l_spn, l_dot, l_dot', l_dotn, l_E, l_E', l_En, l_I, l_I', l_In, l_F, l_F', l_Fn, l_D, l_D', l_Dn, l_G, l_G', l_Gn, l_L, l_L', l_Ln, l_A, l_A', l_An, l_q, l_q', l_qn, l_P, l_P', l_Pn, l_mi, l_mi', l_min, l_pl, l_pl', l_pln, l_sl, l_sl', l_sln, l_co, l_co', l_con, l_S, l_S', l_Sn, l_N, l_N', l_Nn, l_Z, l_Z', l_Zn, l_B, l_B', l_Bn, l_R, l_R', l_Rn, l_T, l_T', l_Tn, l_X, l_X', l_Xn, l_H, l_H', l_Hn, l_lp, l_lp', l_lpn, l_cm, l_cm', l_cmn, l_rp, l_rp', l_rpn, f_ret, f_exc, f_ite, g_suc, f_call, Int.reduceLE, Int.reduceNeg, Int.reduceLT, Bool.and_true, Bool.true_and, Bool.and_false, Bool.false_and, Bool.or_true, Bool.true_or, Bool.or_false, Bool.false_or, Nat.reduceBEq, Nat.reduceBNe, beq_self_eq_true, bne_self_eq_false, decide_true, decide_false, not_true_eq_false, not_false_eq_true, Bool.not_eq_true', beq_eq_false_iff_ne, decide_eq_false_iff_not, n_idx t i h0 hi hZ, has_dig h0 hi, hdg, g1, g2]
      trivial
  | false =>
    by_cases cq : cd t i = 39
    · rcases quoted hN i h0 hi with ⟨n, a, j, n0, g⟩ | ⟨it, x, j, hok, j1, j2, g⟩
      · refine .inl ⟨n, a, j, n0, fun k hk => ?_⟩
        obtain ⟨k, rfl, hk', hk2⟩ := dec hk
        obtain ⟨g1, g2⟩ := g k (by omega)
        show Φ _ .item_at _ = _ ∧ Φ _ .lawItem _ = _; rw [hV, hLV]; unfold r_item_at r_lawItem
        simp only [e_C, e_Nil, e_Bin, e_Neg, e_Len, e_Ord, e_Max, e_Find, e_Idx, e_Slc, e_Cmp, e_tCmp, e_K, e_tK, e_Of, e_Not, e_And, e_Or, e_xAnd, e_xOr, e_xNot, e_Ite, e_aNil, e_aCons, e_Tup, e_Call, e_Assign, e_Unp, e_Swap, e_Aug, e_If, e_Ret, e_Cont, e_sNil, e_Cons, e_Raise, b_ok, b_exc, b_ite, t_ok, t_exc, t_ite, a_next, a_cont, a_ret, a_exc, a_ite, r_raise, k_true, k_sc, k_scn, n_add, n_sub, n_mul, n_neg, n_max, n_aug, n_find, m_eqi, m_nei, m_lt, m_gt, m_ge, m_eqn, m_eqs, m_nes, m_in, m_nin, m_isn, m_isi, p_tup, p_lt, u_tup, u_lt, u_rev, w_cons, w_nil, g_get, g_lst, bl, List.length_cons, List.length_nil, List.map_cons, List.map_nil, List.replicate_succ, List.replicate_zero, List.cons_append, List.nil_append, List.append_nil, List.set_cons_zero, List.set_cons_succ, List.getElem?_cons_zero, List.getElem?_cons_succ, scOf, List.reverse_cons, List.reverse_nil, Nat.reduceAdd, Nat.reduceLeDiff, Nat.reduceEqDiff, Bool.false_eq_true, if_true, if_false, reduceIte, decide_eq_true_eq, beq_iff_eq, bne_iff_ne, ne_eq, Bool.not_true, Bool.not_false, l_sp, l_sp', l_spn, l_dot, l_dot', l_dotn, l_E, l_E', l_En, l_I, l_I', l_In, l_F, l_F', l_Fn, l_D, l_D', l_Dn, l_G, l_G', l_Gn, l_L, l_L', l_Ln, l_A, l_A', l_An, l_q, l_q', l_qn, l_P, l_P', l_Pn, l_mi, l_mi', l_min, l_pl, l_pl', l_pln, l_sl, l_sl', l_sln, l_co, l_co', l_con, l_S, l_S', l_Sn, l_N, l_N', l_Nn, l_Z, l_Z', l_Zn, l_B, l_B', l_Bn, l_R, l_R', l_Rn, l_T, l_T', l_Tn, l_X, l_X', l_Xn, l_H, l_H', l_Hn, l_lp, l_lp', l_lpn, l_cm, l_cm', l_cmn, l_rp, l_rp', l_rpn, f_ret, f_exc, f_ite, g_suc, f_call, Int.reduceLE, Int.reduceNeg, Int.reduceLT, Bool.and_true, Bool.true_and, Bool.and_false, Bool.false_and, Bool.or_true, Bool.true_or, Bool.or_false, Bool.false_or, Nat.reduceBEq, Nat.reduceBNe, beq_self_eq_true, bne_self_eq_false, decide_true, decide_false, not_true_eq_false, not_false_eq_true, Bool.not_eq_true', beq_eq_false_iff_ne, decide_eq_false_iff_not, n_idx t i h0 hi hZ, has_dig h0 hi, hdg, cq, g1, g2]
        trivial
      · refine .inr ⟨it, x, j, .inl hok, j1, j2, fun k hk => ?_⟩
        obtain ⟨k, rfl, hk', hk2⟩ := dec hk
        obtain ⟨g1, g2⟩ := g k (by omega)
        show Φ _ .item_at _ = _ ∧ Φ _ .lawItem _ = _; rw [hV, hLV]; unfold r_item_at r_lawItem
        simp only [e_C, e_Nil, e_Bin, e_Neg, e_Len, e_Ord, e_Max, e_Find, e_Idx, e_Slc, e_Cmp, e_tCmp, e_K, e_tK, e_Of, e_Not, e_And, e_Or, e_xAnd, e_xOr, e_xNot, e_Ite, e_aNil, e_aCons, e_Tup, e_Call, e_Assign, e_Unp, e_Swap, e_Aug, e_If, e_Ret, e_Cont, e_sNil, e_Cons, e_Raise, b_ok, b_exc, b_ite, t_ok, t_exc, t_ite, a_next, a_cont, a_ret, a_exc, a_ite, r_raise, k_true, k_sc, k_scn, n_add, n_sub, n_mul, n_neg, n_max, n_aug, n_find, m_eqi, m_nei, m_lt, m_gt, m_ge, m_eqn, m_eqs, m_nes, m_in, m_nin, m_isn, m_isi, p_tup, p_lt, u_tup, u_lt, u_rev, w_cons, w_nil, g_get, g_lst, bl, List.length_cons, List.length_nil, List.map_cons, List.map_nil, List.replicate_succ, List.replicate_zero, List.cons_append, List.nil_append, List.append_nil, List.set_cons_zero, List.set_cons_succ, List.getElem?_cons_zero, List.getElem?_cons_succ, scOf, List.reverse_cons, List.reverse_nil, Nat.reduceAdd, Nat.reduceLeDiff, Nat.reduceEqDiff, Bool.false_eq_true, if_true, if_false, reduceIte, decide_eq_true_eq, beq_iff_eq, bne_iff_ne, ne_eq, Bool.not_true, Bool.not_false, l_sp, l_sp', l_spn, l_dot, l_dot', l_dotn, l_E, l_E', l_En, l_I, l_I', l_In, l_F, l_F', l_Fn, l_D, l_D', l_Dn, l_G, l_G', l_Gn, l_L, l_L', l_Ln, l_A, l_A', l_An, l_q, l_q', l_qn, l_P, l_P', l_Pn, l_mi, l_mi', l_min, l_pl, l_pl', l_pln, l_sl, l_sl', l_sln, l_co, l_co', l_con, l_S, l_S', l_Sn, l_N, l_N', l_Nn, l_Z, l_Z', l_Zn, l_B, l_B', l_Bn, l_R, l_R', l_Rn, l_T, l_T', l_Tn, l_X, l_X', l_Xn, l_H, l_H', l_Hn, l_lp, l_lp', l_lpn, l_cm, l_cm', l_cmn, l_rp, l_rp', l_rpn, f_ret, f_exc, f_ite, g_suc, f_call, Int.reduceLE, Int.reduceNeg, Int.reduceLT, Bool.and_true, Bool.true_and, Bool.and_false, Bool.false_and, Bool.or_true, Bool.true_or, Bool.or_false, Bool.false_or, Nat.reduceBEq, Nat.reduceBNe, beq_self_eq_true, bne_self_eq_false, decide_true, decide_false, not_true_eq_false, not_false_eq_true, Bool.not_eq_true', beq_eq_false_iff_ne, decide_eq_false_iff_not, n_idx t i h0 hi hZ, has_dig h0 hi, hdg, cq, g1, g2]
        trivial
    by_cases cs : cd t i = 43 ∨ cd t i = 45
    · have hS : ∀ k l, 7 ≤ k → Φ k .scale_at l = funR 2 2 (r_scale_at (Φ (k - 1))) l := fun k l hk => by
        obtain ⟨k, rfl⟩ : ∃ k', k = k' + 1 := ⟨k - 1, by omega⟩
        rfl
      obtain ⟨v, h, a1, a2, a3⟩ := sized hN (i + 1) 0 (by omega) (by omega) (by omega)
      have hh : 0 ≤ h := by omega
      rcases a3 with ⟨f, f0, a3⟩ | ⟨v1, v2, a3⟩
      · refine .inl ⟨f, .str (Str.ofString "P"), h + 1, f0, fun k hk => ?_⟩
        obtain ⟨k, rfl, hk', hk2⟩ := dec hk
        have hf1 : ¬ f < 0 := by omega
        show Φ _ .item_at _ = _ ∧ Φ _ .lawItem _ = _; rw [hV, hLV]; unfold r_item_at r_lawItem
        rcases cs with cs | cs <;> simp only [e_C, e_Nil, e_Bin, e_Neg, e_Len, e_Ord, e_Max, e_Find, e_Idx, e_Slc, e_Cmp, e_tCmp, e_K, e_tK, e_Of, e_Not, e_And, e_Or, e_xAnd, e_xOr, e_xNot, e_Ite, e_aNil, e_aCons, e_Tup, e_Call, e_Assign, e_Unp, e_Swap, e_Aug, e_If, e_Ret, e_Cont, e_sNil, e_Cons, e_Raise, b_ok, b_exc, b_ite, t_ok, t_exc, t_ite, a_next, a_cont, a_ret, a_exc, a_ite, r_raise, k_true, k_sc, k_scn, n_add, n_sub, n_mul, n_neg, n_max, n_aug, n_find, m_eqi, m_nei, m_lt, m_gt, m_ge, m_eqn, m_eqs, m_nes, m_in, m_nin, m_isn, m_isi, p_tup, p_lt, u_tup, u_lt, u_rev, w_cons, w_nil, g_get, g_lst, bl, List.length_cons, List.length_nil, List.map_cons, List.map_nil, List.replicate_succ, List.replicate_zero, List.cons_append, List.nil_append, List.append_nil, List.set_cons_zero, List.set_cons_succ, List.getElem?_cons_zero, List.getElem?_cons_succ, scOf, List.reverse_cons, List.reverse_nil, Nat.reduceAdd, Nat.reduceLeDiff, Nat.reduceEqDiff, Bool.false_eq_true, if_true, if_false, reduceIte, decide_eq_true_eq, beq_iff_eq, bne_iff_ne, ne_eq, Bool.not_true, Bool.not_false, l_sp, l_sp', l_spn, l_dot, l_dot', l_dotn, l_E, l_E', l_En, l_I, l_I', l_In, l_F, l_F', l_Fn, l_D, l_D', l_Dn, l_G, l_G', l_Gn, l_L, l_L', l_Ln, l_A, l_A', l_An, l_q, l_q', l_qn, l_P, l_P', l_Pn, l_mi, l_mi', l_min, l_pl, l_pl', l_pln, l_sl, l_sl', l_sln, l_co, l_co', l_con, l_S, l_S', l_Sn, l_N, l_N', l_Nn, l_Z, l_Z', l_Zn, l_B, l_B', l_Bn, l_R, l_R', l_Rn, l_T, l_T', l_Tn, l_X, l_X', l_Xn, l_H, l_H', l_Hn, l_lp, l_lp', l_lpn, l_cm, l_cm', l_cmn, l_rp, l_rp', l_rpn, f_ret, f_exc, f_ite, g_suc, f_call, Int.reduceLE, Int.reduceNeg, Int.reduceLT, Bool.and_true, Bool.true_and, Bool.and_false, Bool.false_and, Bool.or_true, Bool.true_or, Bool.or_false, Bool.false_or, Nat.reduceBEq, Nat.reduceBNe, beq_self_eq_true, bne_self_eq_false, decide_true, decide_false, not_true_eq_false, not_false_eq_true, Bool.not_eq_true', beq_eq_false_iff_ne, decide_eq_false_iff_not, n_idx t i h0 hi hZ, has_dig h0 hi, hdg, hpm, cs, hS _ _ hk', r_scale_at, (a3 (k - 1) (by omega)).1, (a3 k (by omega)).2, hf1] <;> trivial
      · by_cases cP : cd t h = 80
        · have hhN := in_of cP (by decide)
          refine .inr ⟨.tup [.str (Str.ofString "P"), .int (if cd t i = 45 then -v else v)], Str.ofString "P", h + 1, .inl (valOk_lit _ ⟨by kernel_rfl, by kernel_rfl, by kernel_rfl, by kernel_rfl⟩), by omega, by omega, fun k hk => ?_⟩
          obtain ⟨k, rfl, hk', hk2⟩ := dec hk
          show Φ _ .item_at _ = _ ∧ Φ _ .lawItem _ = _; rw [hV, hLV]; unfold r_item_at r_lawItem
          rcases cs with cs | cs <;> simp only [e_C, e_Nil, e_Bin, e_Neg, e_Len, e_Ord, e_Max, e_Find, e_Idx, e_Slc, e_Cmp, e_tCmp, e_K, e_tK, e_Of, e_Not, e_And, e_Or, e_xAnd, e_xOr, e_xNot, e_Ite, e_aNil, e_aCons, e_Tup, e_Call, e_Assign, e_Unp, e_Swap, e_Aug, e_If, e_Ret, e_Cont, e_sNil, e_Cons, e_Raise, b_ok, b_exc, b_ite, t_ok, t_exc, t_ite, a_next, a_cont, a_ret, a_exc, a_ite, r_raise, k_true, k_sc, k_scn, n_add, n_sub, n_mul, n_neg, n_max, n_aug, n_find, m_eqi, m_nei, m_lt, m_gt, m_ge, m_eqn, m_eqs, m_nes, m_in, m_nin, m_isn, m_isi, p_tup, p_lt, u_tup, u_lt, u_rev, w_cons, w_nil, g_get, g_lst, bl, List.length_cons, List.length_nil, List.map_cons, List.map_nil, List.replicate_succ, List.replicate_zero, List.cons_append, List.nil_append, List.append_nil, List.set_cons_zero, List.set_cons_succ, List.getElem?_cons_zero, List.getElem?_cons_succ, scOf, List.reverse_cons, List.reverse_nil, Nat.reduceAdd, Nat.reduceLeDiff, Nat.reduceEqDiff, Bool.false_eq_true, if_true, if_false, reduceIte, decide_eq_true_eq, beq_iff_eq, bne_iff_ne, ne_eq, Bool.not_true, Bool.not_false, l_sp, l_sp', l_spn, l_dot, l_dot', l_dotn, l_E, l_E', l_En, l_I, l_I', l_In, l_F, l_F', l_Fn, l_D, l_D', l_Dn, l_G, l_G', l_Gn, l_L, l_L', l_Ln, l_A, l_A', l_An, l_q, l_q', l_qn, l_P, l_P', l_Pn, l_mi, l_mi', l_min, l_pl, l_pl', l_pln, l_sl, l_sl', l_sln, l_co, l_co', l_con, l_S, l_S', l_Sn, l_N, l_N', l_Nn, l_Z, l_Z', l_Zn, l_B, l_B', l_Bn, l_R, l_R', l_Rn, l_T, l_T', l_Tn, l_X, l_X', l_Xn, l_H, l_H', l_Hn, l_lp, l_lp', l_lpn, l_cm, l_cm', l_cmn, l_rp, l_rp', l_rpn, f_ret, f_exc, f_ite, g_suc, f_call, Int.reduceLE, Int.reduceNeg, Int.reduceLT, Bool.and_true, Bool.true_and, Bool.and_false, Bool.false_and, Bool.or_true, Bool.true_or, Bool.or_false, Bool.false_or, Nat.reduceBEq, Nat.reduceBNe, beq_self_eq_true, bne_self_eq_false, decide_true, decide_false, not_true_eq_false, not_false_eq_true, Bool.not_eq_true', beq_eq_false_iff_ne, decide_eq_false_iff_not, n_idx t i h0 hi hZ, has_dig h0 hi, hdg, hpm, cs, hS _ _ hk', r_scale_at, (a3 (k - 1) (by omega)).1, (a3 k (by omega)).2, isat hN (k := k - 1) (by omega) hh, n_slc t h (h + 1) hh rfl hZ, cP] <;> trivial
        · refine .inl ⟨h, .str (Str.ofString "P"), h + 1, hh, fun k hk => ?_⟩
          obtain ⟨k, rfl, hk', hk2⟩ := dec hk
          show Φ _ .item_at _ = _ ∧ Φ _ .lawItem _ = _; rw [hV, hLV]; unfold r_item_at r_lawItem
          have cP' := beq_eq_false_iff_ne.mpr cP
          rcases cs with cs | cs <;> simp only [e_C, e_Nil, e_Bin, e_Neg, e_Len, e_Ord, e_Max, e_Find, e_Idx, e_Slc, e_Cmp, e_tCmp, e_K, e_tK, e_Of, e_Not, e_And, e_Or, e_xAnd, e_xOr, e_xNot, e_Ite, e_aNil, e_aCons, e_Tup, e_Call, e_Assign, e_Unp, e_Swap, e_Aug, e_If, e_Ret, e_Cont, e_sNil, e_Cons, e_Raise, b_ok, b_exc, b_ite, t_ok, t_exc, t_ite, a_next, a_cont, a_ret, a_exc, a_ite, r_raise, k_true, k_sc, k_scn, n_add, n_sub, n_mul, n_neg, n_max, n_aug, n_find, m_eqi, m_nei, m_lt, m_gt, m_ge, m_eqn, m_eqs, m_nes, m_in, m_nin, m_isn, m_isi, p_tup, p_lt, u_tup, u_lt, u_rev, w_cons, w_nil, g_get, g_lst, bl, List.length_cons, List.length_nil, List.map_cons, List.map_nil, List.replicate_succ, List.replicate_zero, List.cons_append, List.nil_append, List.append_nil, List.set_cons_zero, List.set_cons_succ, List.getElem?_cons_zero, List.getElem?_cons_succ, scOf, List.reverse_cons, List.reverse_nil, Nat.reduceAdd, Nat.reduceLeDiff, Nat.reduceEqDiff, Bool.false_eq_true, if_true, if_false, reduceIte, decide_eq_true_eq, beq_iff_eq, bne_iff_ne, ne_eq, Bool.not_true, Bool.not_false, l_sp, l_sp', l_spn, l_dot, l_dot', l_dotn, l_E, l_E', l_En, l_I, l_I', l_In, l_F, l_F', l_Fn, l_D, l_D', l_Dn, l_G, l_G', l_Gn, l_L, l_L', l_Ln, l_A, l_A', l_An, l_q, l_q', l_qn, l_P, l_P', l_Pn, l_mi, l_mi', l_min, l_pl, l_pl', l_pln, l_sl, l_sl', l_sln, l_co, l_co', l_con, l_S, l_S', l_Sn, l_N, l_N', l_Nn, l_Z, l_Z', l_Zn, l_B, l_B', l_Bn, l_R, l_R', l_Rn, l_T, l_T', l_Tn, l_X, l_X', l_Xn, l_H, l_H', l_Hn, l_lp, l_lp', l_lpn, l_cm, l_cm', l_cmn, l_rp, l_rp', l_rpn, f_ret, f_exc, f_ite, g_suc, f_call, Int.reduceLE, Int.reduceNeg, Int.reduceLT, Bool.and_true, Bool.true_and, Bool.and_false, Bool.false_and, Bool.or_true, Bool.true_or, Bool.or_false, Bool.false_or, Nat.reduceBEq, Nat.reduceBNe, beq_self_eq_true, bne_self_eq_false, decide_true, decide_false, not_true_eq_false, not_false_eq_true, Bool.not_eq_true', beq_eq_false_iff_ne, decide_eq_false_iff_not, n_idx t i h0 hi hZ, has_dig h0 hi, hdg, hpm, cs, hS _ _ hk', r_scale_at, (a3 (k - 1) (by omega)).1, (a3 k (by omega)).2, isat hN (k := k - 1) (by omega) hh, n_slc t h (h + 1) hh rfl hZ, cP] <;> trivial
    have cp := show cd t i ≠ 43 by omega
    have cm := show cd t i ≠ 45 by omega
    have cp' := beq_eq_false_iff_ne.mpr cp
    have cm' := beq_eq_false_iff_ne.mpr cm
    by_cases cL : cd t i = 40
    · rcases grouped hN d hd ih i 1 h0 cL with ⟨n, a, j, n0, g⟩ | ⟨it, x, j, hok, j1, j2, g⟩
      · refine .inl ⟨n, a, j, n0, fun k hk => ?_⟩
        obtain ⟨k, rfl, hk', hk2⟩ := dec hk
        obtain ⟨g1, g2⟩ := g k (by omega)
        show Φ _ .item_at _ = _ ∧ Φ _ .lawItem _ = _; rw [hV, hLV]; unfold r_item_at r_lawItem
        simp only [e_C, e_Nil, e_Bin, e_Neg, e_Len, e_Ord, e_Max, e_Find, e_Idx, e_Slc, e_Cmp, e_tCmp, e_K, e_tK, e_Of, e_Not, e_And, e_Or, e_xAnd, e_xOr, e_xNot, e_Ite, e_aNil, e_aCons, e_Tup, e_Call, e_Assign, e_Unp, e_Swap, e_Aug, e_If, e_Ret, e_Cont, e_sNil, e_Cons, e_Raise, b_ok, b_exc, b_ite, t_ok, t_exc, t_ite, a_next, a_cont, a_ret, a_exc, a_ite, r_raise, k_true, k_sc, k_scn, n_add, n_sub, n_mul, n_neg, n_max, n_aug, n_find, m_eqi, m_nei, m_lt, m_gt, m_ge, m_eqn, m_eqs, m_nes, m_in, m_nin, m_isn, m_isi, p_tup, p_lt, u_tup, u_lt, u_rev, w_cons, w_nil, g_get, g_lst, bl, List.length_cons, List.length_nil, List.map_cons, List.map_nil, List.replicate_succ, List.replicate_zero, List.cons_append, List.nil_append, List.append_nil, List.set_cons_zero, List.set_cons_succ, List.getElem?_cons_zero, List.getElem?_cons_succ, scOf, List.reverse_cons, List.reverse_nil, Nat.reduceAdd, Nat.reduceLeDiff, Nat.reduceEqDiff, Bool.false_eq_true, if_true, if_false, reduceIte, decide_eq_true_eq, beq_iff_eq, bne_iff_ne, ne_eq, Bool.not_true, Bool.not_false, l_sp, l_sp', l_spn, l_dot, l_dot', l_dotn, l_E, l_E', l_En, l_I, l_I', l_In, l_F, l_F', l_Fn, l_D, l_D', l_Dn, l_G, l_G', l_Gn, l_L, l_L', l_Ln, l_A, l_A', l_An, l_q, l_q', l_qn, l_P, l_P', l_Pn, l_mi, l_mi', l_min, l_pl, l_pl', l_pln, l_sl, l_sl', l_sln, l_co, l_co', l_con, l_S, l_S', l_Sn, l_N, l_N', l_Nn, l_Z, l_Z', l_Zn, l_B, l_B', l_Bn, l_R, l_R', l_Rn, l_T, l_T', l_Tn, l_X, l_X', l_Xn, l_H, l_H', l_Hn, l_lp, l_lp', l_lpn, l_cm, l_cm', l_cmn, l_rp, l_rp', l_rpn, f_ret, f_exc, f_ite, g_suc, f_call, Int.reduceLE, Int.reduceNeg, Int.reduceLT, Bool.and_true, Bool.true_and, Bool.and_false, Bool.false_and, Bool.or_true, Bool.true_or, Bool.or_false, Bool.false_or, Nat.reduceBEq, Nat.reduceBNe, beq_self_eq_true, bne_self_eq_false, decide_true, decide_false, not_true_eq_false, not_false_eq_true, Bool.not_eq_true', beq_eq_false_iff_ne, decide_eq_false_iff_not, n_idx t i h0 hi hZ, has_dig h0 hi, hdg, hpm, cL, g1, g2]
        trivial
      · refine .inr ⟨it, x, j, hok, j1, j2, fun k hk => ?_⟩
        obtain ⟨k, rfl, hk', hk2⟩ := dec hk
        obtain ⟨g1, g2⟩ := g k (by omega)
        show Φ _ .item_at _ = _ ∧ Φ _ .lawItem _ = _; rw [hV, hLV]; unfold r_item_at r_lawItem
        simp only [e_C, e_Nil, e_Bin, e_Neg, e_Len, e_Ord, e_Max, e_Find, e_Idx, e_Slc, e_Cmp, e_tCmp, e_K, e_tK, e_Of, e_Not, e_And, e_Or, e_xAnd, e_xOr, e_xNot, e_Ite, e_aNil, e_aCons, e_Tup, e_Call, e_Assign, e_Unp, e_Swap, e_Aug, e_If, e_Ret, e_Cont, e_sNil, e_Cons, e_Raise, b_ok, b_exc, b_ite, t_ok, t_exc, t_ite, a_next, a_cont, a_ret, a_exc, a_ite, r_raise, k_true, k_sc, k_scn, n_add, n_sub, n_mul, n_neg, n_max, n_aug, n_find, m_eqi, m_nei, m_lt, m_gt, m_ge, m_eqn, m_eqs, m_nes, m_in, m_nin, m_isn, m_isi, p_tup, p_lt, u_tup, u_lt, u_rev, w_cons, w_nil, g_get, g_lst, bl, List.length_cons, List.length_nil, List.map_cons, List.map_nil, List.replicate_succ, List.replicate_zero, List.cons_append, List.nil_append, List.append_nil, List.set_cons_zero, List.set_cons_succ, List.getElem?_cons_zero, List.getElem?_cons_succ, scOf, List.reverse_cons, List.reverse_nil, Nat.reduceAdd, Nat.reduceLeDiff, Nat.reduceEqDiff, Bool.false_eq_true, if_true, if_false, reduceIte, decide_eq_true_eq, beq_iff_eq, bne_iff_ne, ne_eq, Bool.not_true, Bool.not_false, l_sp, l_sp', l_spn, l_dot, l_dot', l_dotn, l_E, l_E', l_En, l_I, l_I', l_In, l_F, l_F', l_Fn, l_D, l_D', l_Dn, l_G, l_G', l_Gn, l_L, l_L', l_Ln, l_A, l_A', l_An, l_q, l_q', l_qn, l_P, l_P', l_Pn, l_mi, l_mi', l_min, l_pl, l_pl', l_pln, l_sl, l_sl', l_sln, l_co, l_co', l_con, l_S, l_S', l_Sn, l_N, l_N', l_Nn, l_Z, l_Z', l_Zn, l_B, l_B', l_Bn, l_R, l_R', l_Rn, l_T, l_T', l_Tn, l_X, l_X', l_Xn, l_H, l_H', l_Hn, l_lp, l_lp', l_lpn, l_cm, l_cm', l_cmn, l_rp, l_rp', l_rpn, f_ret, f_exc, f_ite, g_suc, f_call, Int.reduceLE, Int.reduceNeg, Int.reduceLT, Bool.and_true, Bool.true_and, Bool.and_false, Bool.false_and, Bool.or_true, Bool.true_or, Bool.or_false, Bool.false_or, Nat.reduceBEq, Nat.reduceBNe, beq_self_eq_true, bne_self_eq_false, decide_true, decide_false, not_true_eq_false, not_false_eq_true, Bool.not_eq_true', beq_eq_false_iff_ne, decide_eq_false_iff_not, n_idx t i h0 hi hZ, has_dig h0 hi, hdg, hpm, cL, g1, g2]
        trivial
    cases hlt : letT t i with
    | true =>
      rcases valued hN i h0 hi (let_cases hlt) with ⟨n, a, j, n0, g⟩ | ⟨it, x, j, ⟨hok, rfl⟩, j1, j2, g⟩
      · refine .inl ⟨n, a, j, n0, fun k hk => ?_⟩
        obtain ⟨k, rfl, hk', hk2⟩ := dec hk
        obtain ⟨g1, g2⟩ := g k (by omega)
        show Φ _ .item_at _ = _ ∧ Φ _ .lawItem _ = _; rw [hV, hLV]; unfold r_item_at r_lawItem
        simp only [e_C, e_Nil, e_Bin, e_Neg, e_Len, e_Ord, e_Max, e_Find, e_Idx, e_Slc, e_Cmp, e_tCmp, e_K, e_tK, e_Of, e_Not, e_And, e_Or, e_xAnd, e_xOr, e_xNot, e_Ite, e_aNil, e_aCons, e_Tup, e_Call, e_Assign, e_Unp, e_Swap, e_Aug, e_If, e_Ret, e_Cont, e_sNil, e_Cons, e_Raise, b_ok, b_exc, b_ite, t_ok, t_exc, t_ite, a_next, a_cont, a_ret, a_exc, a_ite, r_raise, k_true, k_sc, k_scn, n_add, n_sub, n_mul, n_neg, n_max, n_aug, n_find, m_eqi, m_nei, m_lt, m_gt, m_ge, m_eqn, m_eqs, m_nes, m_in, m_nin, m_isn, m_isi, p_tup, p_lt, u_tup, u_lt, u_rev, w_cons, w_nil, g_get, g_lst, bl, List.length_cons, List.length_nil, List.map_cons, List.map_nil, List.replicate_succ, List.replicate_zero, List.cons_append, List.nil_append, List.append_nil, List.set_cons_zero, List.set_cons_succ, List.getElem?_cons_zero, List.getElem?_cons_succ, scOf, List.reverse_cons, List.reverse_nil, Nat.reduceAdd, Nat.reduceLeDiff, Nat.reduceEqDiff, Bool.false_eq_true, if_true, if_false, reduceIte, decide_eq_true_eq, beq_iff_eq, bne_iff_ne, ne_eq, Bool.not_true, Bool.not_false, l_sp, l_sp', l_spn, l_dot, l_dot', l_dotn, l_E, l_E', l_En, l_I, l_I', l_In, l_F, l_F', l_Fn, l_D, l_D', l_Dn, l_G, l_G', l_Gn, l_L, l_L', l_Ln, l_A, l_A', l_An, l_q, l_q', l_qn, l_P, l_P', l_Pn, l_mi, l_mi', l_min, l_pl, l_pl', l_pln, l_sl, l_sl', l_sln, l_co, l_co', l_con, l_S, l_S', l_Sn, l_N, l_N', l_Nn, l_Z, l_Z', l_Zn, l_B, l_B', l_Bn, l_R, l_R', l_Rn, l_T, l_T', l_Tn, l_X, l_X', l_Xn, l_H, l_H', l_Hn, l_lp, l_lp', l_lpn, l_cm, l_cm', l_cmn, l_rp, l_rp', l_rpn, f_ret, f_exc, f_ite, g_suc, f_call, Int.reduceLE, Int.reduceNeg, Int.reduceLT, Bool.and_true, Bool.true_and, Bool.and_false, Bool.false_and, Bool.or_true, Bool.true_or, Bool.or_false, Bool.false_or, Nat.reduceBEq, Nat.reduceBNe, beq_self_eq_true, bne_self_eq_false, decide_true, decide_false, not_true_eq_false, not_false_eq_true, Bool.not_eq_true', beq_eq_false_iff_ne, decide_eq_false_iff_not, n_idx t i h0 hi hZ, has_dig h0 hi, has_let h0 hi, hdg, hpm, cq, cp, cm, cp', cm', cL, hlt, g1, g2]
        trivial
      · refine .inr ⟨it, c1 t i, j, .inl hok, j1, j2, fun k hk => ?_⟩
        obtain ⟨k, rfl, hk', hk2⟩ := dec hk
        obtain ⟨g1, g2⟩ := g k (by omega)
        show Φ _ .item_at _ = _ ∧ Φ _ .lawItem _ = _; rw [hV, hLV]; unfold r_item_at r_lawItem
        simp only [e_C, e_Nil, e_Bin, e_Neg, e_Len, e_Ord, e_Max, e_Find, e_Idx, e_Slc, e_Cmp, e_tCmp, e_K, e_tK, e_Of, e_Not, e_And, e_Or, e_xAnd, e_xOr, e_xNot, e_Ite, e_aNil, e_aCons, e_Tup, e_Call, e_Assign, e_Unp, e_Swap, e_Aug, e_If, e_Ret, e_Cont, e_sNil, e_Cons, e_Raise, b_ok, b_exc, b_ite, t_ok, t_exc, t_ite, a_next, a_cont, a_ret, a_exc, a_ite, r_raise, k_true, k_sc, k_scn, n_add, n_sub, n_mul, n_neg, n_max, n_aug, n_find, m_eqi, m_nei, m_lt, m_gt, m_ge, m_eqn, m_eqs, m_nes, m_in, m_nin, m_isn, m_isi, p_tup, p_lt, u_tup, u_lt, u_rev, w_cons, w_nil, g_get, g_lst, bl, List.length_cons, List.length_nil, List.map_cons, List.map_nil, List.replicate_succ, List.replicate_zero, List.cons_append, List.nil_append, List.append_nil, List.set_cons_zero, List.set_cons_succ, List.getElem?_cons_zero, List.getElem?_cons_succ, scOf, List.reverse_cons, List.reverse_nil, Nat.reduceAdd, Nat.reduceLeDiff, Nat.reduceEqDiff, Bool.false_eq_true, if_true, if_false, reduceIte, decide_eq_true_eq, beq_iff_eq, bne_iff_ne, ne_eq, Bool.not_true, Bool.not_false, l_sp, l_sp', l_spn, l_dot, l_dot', l_dotn, l_E, l_E', l_En, l_I, l_I', l_In, l_F, l_F', l_Fn, l_D, l_D', l_Dn, l_G, l_G', l_Gn, l_L, l_L', l_Ln, l_A, l_A', l_An, l_q, l_q', l_qn, l_P, l_P', l_Pn, l_mi, l_mi', l_min, l_pl, l_pl', l_pln, l_sl, l_sl', l_sln, l_co, l_co', l_con, l_S, l_S', l_Sn, l_N, l_N', l_Nn, l_Z, l_Z', l_Zn, l_B, l_B', l_Bn, l_R, l_R', l_Rn, l_T, l_T', l_Tn, l_X, l_X', l_Xn, l_H, l_H', l_Hn, l_lp, l_lp', l_lpn, l_cm, l_cm', l_cmn, l_rp, l_rp', l_rpn, f_ret, f_exc, f_ite, g_suc, f_call, Int.reduceLE, Int.reduceNeg, Int.reduceLT, Bool.and_true, Bool.true_and, Bool.and_false, Bool.false_and, Bool.or_true, Bool.true_or, Bool.or_false, Bool.false_or, Nat.reduceBEq, Nat.reduceBNe, beq_self_eq_true, bne_self_eq_false, decide_true, decide_false, not_true_eq_false, not_false_eq_true, Bool.not_eq_true', beq_eq_false_iff_ne, decide_eq_false_iff_not, n_idx t i h0 hi hZ, has_dig h0 hi, has_let h0 hi, hdg, hpm, cq, cp, cm, cp', cm', cL, hlt, g1, g2]
        trivial
    | false =>
      rcases control hN i h0 hi with ⟨n, a, j, n0, g⟩ | ⟨it, x, j, hok, j1, j2, g⟩
      · refine .inl ⟨n, a, j, n0, fun k hk => ?_⟩
        obtain ⟨k, rfl, hk', hk2⟩ := dec hk
        obtain ⟨g1, g2⟩ := g k (by omega)
        show Φ _ .item_at _ = _ ∧ Φ _ .lawItem _ = _; rw [hV, hLV]; unfold r_item_at r_lawItem
        simp only [e_C, e_Nil, e_Bin, e_Neg, e_Len, e_Ord, e_Max, e_Find, e_Idx, e_Slc, e_Cmp, e_tCmp, e_K, e_tK, e_Of, e_Not, e_And, e_Or, e_xAnd, e_xOr, e_xNot, e_Ite, e_aNil, e_aCons, e_Tup, e_Call, e_Assign, e_Unp, e_Swap, e_Aug, e_If, e_Ret, e_Cont, e_sNil, e_Cons, e_Raise, b_ok, b_exc, b_ite, t_ok, t_exc, t_ite, a_next, a_cont, a_ret, a_exc, a_ite, r_raise, k_true, k_sc, k_scn, n_add, n_sub, n_mul, n_neg, n_max, n_aug, n_find, m_eqi, m_nei, m_lt, m_gt, m_ge, m_eqn, m_eqs, m_nes, m_in, m_nin, m_isn, m_isi, p_tup, p_lt, u_tup, u_lt, u_rev, w_cons, w_nil, g_get, g_lst, bl, List.length_cons, List.length_nil, List.map_cons, List.map_nil, List.replicate_succ, List.replicate_zero, List.cons_append, List.nil_append, List.append_nil, List.set_cons_zero, List.set_cons_succ, List.getElem?_cons_zero, List.getElem?_cons_succ, scOf, List.reverse_cons, List.reverse_nil, Nat.reduceAdd, Nat.reduceLeDiff, Nat.reduceEqDiff, Bool.false_eq_true, if_true, if_false, reduceIte, decide_eq_true_eq, beq_iff_eq, bne_iff_ne, ne_eq, Bool.not_true, Bool.not_false, l_sp, l_sp', l_spn, l_dot, l_dot', l_dotn, l_E, l_E', l_En, l_I, l_I', l_In, l_F, l_F', l_Fn, l_D, l_D', l_Dn, l_G, l_G', l_Gn, l_L, l_L', l_Ln, l_A, l_A', l_An, l_q, l_q', l_qn, l_P, l_P', l_Pn, l_mi, l_mi', l_min, l_pl, l_pl', l_pln, l_sl, l_sl', l_sln, l_co, l_co', l_con, l_S, l_S', l_Sn, l_N, l_N', l_Nn, l_Z, l_Z', l_Zn, l_B, l_B', l_Bn, l_R, l_R', l_Rn, l_T, l_T', l_Tn, l_X, l_X', l_Xn, l_H, l_H', l_Hn, l_lp, l_lp', l_lpn, l_cm, l_cm', l_cmn, l_rp, l_rp', l_rpn, f_ret, f_exc, f_ite, g_suc, f_call, Int.reduceLE, Int.reduceNeg, Int.reduceLT, Bool.and_true, Bool.true_and, Bool.and_false, Bool.false_and, Bool.or_true, Bool.true_or, Bool.or_false, Bool.false_or, Nat.reduceBEq, Nat.reduceBNe, beq_self_eq_true, bne_self_eq_false, decide_true, decide_false, not_true_eq_false, not_false_eq_true, Bool.not_eq_true', beq_eq_false_iff_ne, decide_eq_false_iff_not, n_idx t i h0 hi hZ, has_dig h0 hi, has_let h0 hi, hdg, hpm, cq, cp, cm, cp', cm', cL, hlt, g1, g2]
        trivial
      · refine .inr ⟨it, x, j, .inl hok, j1, j2, fun k hk => ?_⟩
        obtain ⟨k, rfl, hk', hk2⟩ := dec hk
        obtain ⟨g1, g2⟩ := g k (by omega)
        show Φ _ .item_at _ = _ ∧ Φ _ .lawItem _ = _; rw [hV, hLV]; unfold r_item_at r_lawItem
        simp only [e_C, e_Nil, e_Bin, e_Neg, e_Len, e_Ord, e_Max, e_Find, e_Idx, e_Slc, e_Cmp, e_tCmp, e_K, e_tK, e_Of, e_Not, e_And, e_Or, e_xAnd, e_xOr, e_xNot, e_Ite, e_aNil, e_aCons, e_Tup, e_Call, e_Assign, e_Unp, e_Swap, e_Aug, e_If, e_Ret, e_Cont, e_sNil, e_Cons, e_Raise, b_ok, b_exc, b_ite, t_ok, t_exc, t_ite, a_next, a_cont, a_ret, a_exc, a_ite, r_raise, k_true, k_sc, k_scn, n_add, n_sub, n_mul, n_neg, n_max, n_aug, n_find, m_eqi, m_nei, m_lt, m_gt, m_ge, m_eqn, m_eqs, m_nes, m_in, m_nin, m_isn, m_isi, p_tup, p_lt, u_tup, u_lt, u_rev, w_cons, w_nil, g_get, g_lst, bl, List.length_cons, List.length_nil, List.map_cons, List.map_nil, List.replicate_succ, List.replicate_zero, List.cons_append, List.nil_append, List.append_nil, List.set_cons_zero, List.set_cons_succ, List.getElem?_cons_zero, List.getElem?_cons_succ, scOf, List.reverse_cons, List.reverse_nil, Nat.reduceAdd, Nat.reduceLeDiff, Nat.reduceEqDiff, Bool.false_eq_true, if_true, if_false, reduceIte, decide_eq_true_eq, beq_iff_eq, bne_iff_ne, ne_eq, Bool.not_true, Bool.not_false, l_sp, l_sp', l_spn, l_dot, l_dot', l_dotn, l_E, l_E', l_En, l_I, l_I', l_In, l_F, l_F', l_Fn, l_D, l_D', l_Dn, l_G, l_G', l_Gn, l_L, l_L', l_Ln, l_A, l_A', l_An, l_q, l_q', l_qn, l_P, l_P', l_Pn, l_mi, l_mi', l_min, l_pl, l_pl', l_pln, l_sl, l_sl', l_sln, l_co, l_co', l_con, l_S, l_S', l_Sn, l_N, l_N', l_Nn, l_Z, l_Z', l_Zn, l_B, l_B', l_Bn, l_R, l_R', l_Rn, l_T, l_T', l_Tn, l_X, l_X', l_Xn, l_H, l_H', l_Hn, l_lp, l_lp', l_lpn, l_cm, l_cm', l_cmn, l_rp, l_rp', l_rpn, f_ret, f_exc, f_ite, g_suc, f_call, Int.reduceLE, Int.reduceNeg, Int.reduceLT, Bool.and_true, Bool.true_and, Bool.and_false, Bool.false_and, Bool.or_true, Bool.true_or, Bool.or_false, Bool.false_or, Nat.reduceBEq, Nat.reduceBNe, beq_self_eq_true, bne_self_eq_false, decide_true, decide_false, not_true_eq_false, not_false_eq_true, Bool.not_eq_true', beq_eq_false_iff_ne, decide_eq_false_iff_not, n_idx t i h0 hi hZ, has_dig h0 hi, has_let h0 hi, hdg, hpm, cq, cp, cm, cp', cm', cL, hlt, g1, g2]
        trivial
end Mine

namespace Mine
open PySem PySem.W PyProof.Rows PySem.Calls PySem.SeqAt PySem.Builtin.Str
variable {t : Str}
noncomputable abbrev tch : XP := (xOr (xK (inTupR [(Str.ofString "/"), (Str.ofString ":")]) (getL 4)) (xOr (xK (inTupR [(Str.ofString "/"), (Str.ofString ":")]) (getL 8)) (xAnd (xCmp .eq (getL 4) (xC (.str (Str.ofString "P")))) (xK (inTupR [(Str.ofString "F"), (Str.ofString "E"), (Str.ofString "D"), (Str.ofString "G")]) (getL 8)))))
theorem in_sl (x : Str) : inTupR [(Str.ofString "/"), (Str.ofString ":")] (.sc (.str x)) = .ok (.sc (.bool (isSl x))) := rfl
theorem in_fe (x : Str) : inTupR [(Str.ofString "F"), (Str.ofString "E"), (Str.ofString "D"), (Str.ofString "G")] (.sc (.str x)) = .ok (.sc (.bool (isF x))) := rfl
noncomputable def joinT (x y : Str) : Bool := isSl x || (isSl y || ((x == Str.ofString "P") && isF y))
theorem touch (a0 a1 a2 a3 a5 a6 a7 a9 a10 : PV) (x y : Str) : tch [a0, a1, a2, a3, .sc (.str x), a5, a6, a7, .sc (.str y), a9, a10] = .ok (.sc (.bool (joinT x y))) := by
  unfold joinT
  cases hs : isSl x <;> cases hs2 : isSl y <;> (cases hp : (x == Str.ofString "P") <;> cases hf : isF y <;>
    simp only [tch, e_C, e_Nil, e_Bin, e_Neg, e_Len, e_Ord, e_Max, e_Find, e_Idx, e_Slc, e_Cmp, e_tCmp, e_K, e_tK, e_Of, e_Not, e_And, e_Or, e_xAnd, e_xOr, e_xNot, e_Ite, e_aNil, e_aCons, e_Tup, e_Call, e_Assign, e_Unp, e_Swap, e_Aug, e_If, e_Ret, e_Cont, e_sNil, e_Cons, e_Raise, b_ok, b_exc, b_ite, t_ok, t_exc, t_ite, a_next, a_cont, a_ret, a_exc, a_ite, r_raise, k_true, k_sc, k_scn, n_add, n_sub, n_mul, n_neg, n_max, n_aug, n_find, m_eqi, m_nei, m_lt, m_gt, m_ge, m_eqn, m_eqs, m_nes, m_in, m_nin, m_isn, m_isi, p_tup, p_lt, u_tup, u_lt, u_rev, w_cons, w_nil, g_get, g_lst, bl, List.length_cons, List.length_nil, List.map_cons, List.map_nil, List.replicate_succ, List.replicate_zero, List.cons_append, List.nil_append, List.append_nil, List.set_cons_zero, List.set_cons_succ, List.getElem?_cons_zero, List.getElem?_cons_succ, scOf, List.reverse_cons, List.reverse_nil, Nat.reduceAdd, Nat.reduceLeDiff, Nat.reduceEqDiff, Bool.false_eq_true, if_true, if_false, reduceIte, decide_eq_true_eq, beq_iff_eq, bne_iff_ne, ne_eq, Bool.not_true, Bool.not_false, l_sp, l_sp', l_spn, l_dot, l_dot', l_dotn, l_E, l_E', l_En, l_I, l_I', l_In, l_F, l_F', l_Fn, l_D, l_D', l_Dn, l_G, l_G', l_Gn, l_L, l_L', l_Ln, l_A, l_A', l_An, l_q, l_q', l_qn, l_P, l_P', l_Pn, l_mi, l_mi', l_min, l_pl, l_pl', l_pln, l_sl, l_sl', l_sln, l_co, l_co', l_con, l_S, l_S', l_Sn, l_N, l_N', l_Nn, l_Z, l_Z', l_Zn, l_B, l_B', l_Bn, l_R, l_R', l_Rn, l_T, l_T', l_Tn, l_X, l_X', l_Xn, l_H, l_H', l_Hn, l_lp, l_lp', l_lpn, l_cm, l_cm', l_cmn, l_rp, l_rp', l_rpn, f_ret, f_exc, f_ite, g_suc, f_call, Int.reduceLE, Int.reduceNeg, Int.reduceLT, Bool.and_true, Bool.true_and, Bool.and_false, Bool.false_and, Bool.or_true, Bool.true_or, Bool.or_false, Bool.false_or, Nat.reduceBEq, Nat.reduceBNe, beq_self_eq_true, bne_self_eq_false, decide_true, decide_false, not_true_eq_false, not_false_eq_true, Bool.not_eq_true', beq_eq_false_iff_ne, decide_eq_false_iff_not, in_sl, in_fe, hs, hs2, hf, hp])

noncomputable abbrev rowT : XB := (tOf (xC (.bool true)))
noncomputable abbrev itB (φ : Phi) : XS := (sCons (sAssign 5 (xCall (φ .pass_blanks) (aCons (getL 0) (aCons (getL 1) aNil)))) (sCons (sAssign 6 (xSlc (getL 0) (getL 5) (xBin .add (getL 5) (xC (.int 1))))) (sCons (sIf (tCmp .eq (getL 6) (xC (.str (Str.ofString "")))) (sCons (sRaise (getL 5)) sNil) sNil) (sCons (sIf (tOr (tCmp .eq (getL 6) (xC (.str (Str.ofString ",")))) (tCmp .eq (getL 6) (xC (.str (Str.ofString ")"))))) (sCons (sIf (tOr (tOf (getL 4)) (tAnd (tCmp .eq (getL 6) (xC (.str (Str.ofString ",")))) (tK nilR (getL 3)))) (sCons (sRaise (getL 5)) sNil) sNil) (sCons (sIf (tCmp .eq (getL 6) (xC (.str (Str.ofString ")")))) (sCons (sRet (xTup (aCons (getL 3) (aCons (getL 5) aNil)))) sNil) sNil) (sCons (sAssign 4 (xC (.bool true))) (sCons (sAssign 1 (xBin .add (getL 5) (xC (.int 1)))) sNil)))) (sCons (sUnp [7, 1] (xCall (φ .item_at) (aCons (getL 0) (aCons (getL 5) (aCons (getL 2) aNil))))) (sCons (sIf (tAnd (tK nnilR (getL 3)) (tAnd (tNot (tOf (getL 4))) (tNot (tOf (xCall (φ .may_join) (aCons (xIdx (getL 3) (xNeg (xC (.int 1)))) (aCons (getL 7) aNil))))))) (sCons (sRaise (getL 5)) sNil) sNil) (sCons (appR 3 7) (sCons (sAssign 4 (xC (.bool false))) sNil))))) sNil))))
noncomputable abbrev roB (φ : Phi) : XS := (sCons (sAssign 6 (xCall (φ .lawSkip) (aCons (getL 0) (aCons (getL 1) aNil)))) (sCons (sAssign 7 (xSlc (getL 0) (getL 6) (xBin .add (getL 6) (xC (.int 1))))) (sCons (sIf (tCmp .eq (getL 7) (xC (.str (Str.ofString "")))) (sCons (sRet (xTup (aCons (getL 3) (aCons (getL 6) (aCons (getL 6) aNil))))) sNil) sNil) (sCons (sIf (tCmp .in_ (getL 7) (xC (.str (Str.ofString ",)")))) (sCons (sIf (tOr (tAnd (tCmp .eq (getL 7) (xC (.str (Str.ofString ",")))) (tOf (getL 5))) (tAnd (tCmp .eq (getL 7) (xC (.str (Str.ofString ")")))) (tAnd (tOf (getL 5)) (tCmp .gt (getL 3) (xC (.int 0)))))) (sCons (sRet (xTup (aCons (getL 3) (aCons (getL 6) (aCons (getL 6) aNil))))) sNil) sNil) (sCons (sIf (tCmp .eq (getL 7) (xC (.str (Str.ofString ")")))) (sCons (sRet (xTup (aCons (getL 3) (aCons (getL 6) (aCons (xNeg (xC (.int 1))) aNil))))) sNil) sNil) (sCons (sSwap [1, 5] (xTup (aCons (xC (.bool true)) (aCons (xBin .add (getL 6) (xC (.int 1))) aNil)))) (sCons sCont sNil)))) sNil) (sCons (sUnp [8, 1, 9] (xCall (φ .lawItem) (aCons (getL 0) (aCons (getL 6) (aCons (getL 2) aNil))))) (sCons (sIf (tCmp .ge (getL 9) (xC (.int 0))) (sCons (sRet (xTup (aCons (getL 3) (aCons (getL 6) (aCons (getL 9) aNil))))) sNil) sNil) (sCons (sAssign 10 tch) (sCons (sIf (tAnd (tNot (tOf (getL 5))) (tNot (tOf (getL 10)))) (sCons (sRet (xTup (aCons (getL 3) (aCons (getL 6) (aCons (getL 6) aNil))))) sNil) sNil) (sCons (sSwap [5, 4, 3] (xTup (aCons (xBin .add (getL 3) (xC (.int 1))) (aCons (getL 8) (aCons (xC (.bool false)) aNil))))) sNil)))))))))

noncomputable abbrev pSt (t : Str) (i d : Int) (its : List Sc) (after : Bool) (p5 p6 p7 : PV) : List PV := [.sc (.str t), .sc (.int i), .sc (.int d), .lst its, .sc (.bool after), p5, p6, p7]
noncomputable abbrev lSt (t : Str) (i d : Int) (n : Int) (last : Str) (op : Bool) (l6 l7 l8 l9 l10 : PV) : List PV := [.sc (.str t), .sc (.int i), .sc (.int d), .sc (.int n), .sc (.str last), .sc (.bool op), l6, l7, l8, l9, l10]
theorem app_ok (t : Str) (i d : Int) (its : List Sc) (after : Bool) (a b c : Sc) (h : its.length < 2 ^ 20) : appR 3 7 (pSt t i d its after (.sc a) (.sc b) (.sc c)) = .next (pSt t i d (its ++ [c]) after (.sc a) (.sc b) (.sc c)) := by
  have : decide (its.length < 2 ^ 20) = true := decide_eq_true h
  simp only [appR, pSt, List.getElem?_cons_succ, List.getElem?_cons_zero, othersFlat, flat, this, Bool.or_true, Bool.and_true, Bool.true_and, beq_self_eq_true, Bool.true_or, if_true]
  rfl

theorem rowsP (hN : t.length ≤ 2000) (d : Nat) (hd : d ≤ 10) (ih : d < 10 → Rows t (d + 1)) : ∀ (n : Nat) (i : Int) (its : List Sc) (after : Bool) (last : Str), 0 ≤ i → i ≤ t.length → t.length - i < n → its.length ≤ i → (its = [] → after = false) → (its ≠ [] → ∃ it, its.getLast? = some it ∧ ItemOk it last) →
    (∃ n' a h, 0 ≤ n' ∧ ∀ k m p5 p6 p7 l6 l7 l8 l9 l10, Bi d - 1 ≤ k → n ≤ m → loopR m rowT (itB (Φ k)) (pSt t i d its after p5 p6 p7) = .exc n' ∧
        loopR m rowT (roB (Φ k)) (lSt t i d (its.length : Nat) last (after || its.isEmpty) l6 l7 l8 l9 l10) = .ret (.sc (.tup [.int a, .int h, .int n']))) ∨
    (∃ its' h, i ≤ h ∧ h < t.length ∧ ∀ k m p5 p6 p7 l6 l7 l8 l9 l10, Bi d - 1 ≤ k → n ≤ m → loopR m rowT (itB (Φ k)) (pSt t i d its after p5 p6 p7) = .ret (.lt its' [.int h]) ∧
        loopR m rowT (roB (Φ k)) (lSt t i d (its.length : Nat) last (after || its.isEmpty) l6 l7 l8 l9 l10) = .ret (.sc (.tup [.int (its'.length : Nat), .int h, .int (-1)])))
  | 0, i, its, after, last, _, _, q, _, _, _ => by omega
  | n + 1, i, its, after, last, i0, i1, i2, i3, v1, v2 => by
    have hZ : t.length ≤ sizeLine := by rw [sizeLine_eq]; omega
    have hB : 9 ≤ Bi d := by simp [Bi]
    obtain ⟨h, a1, a2, -, a3⟩ := blanks hN i i0 i1
    have hh : 0 ≤ h := by omega
    obtain ⟨z, hz⟩ : ∃ z : Int, ((its.length : Nat) : Int) = z := ⟨_, rfl⟩
    by_cases hend : (t.length : Int) ≤ h
    · refine .inl ⟨h, z, h, hh, fun k m p5 p6 p7 l6 l7 l8 l9 l10 hk hm => ?_⟩
      obtain ⟨m, rfl⟩ : ∃ m', m = m' + 1 := ⟨m - 1, by omega⟩
      obtain ⟨q1, q2⟩ := a3 k (by omega)
      rw [loopR, loopR, hz]
      have he : c1 t h = Str.ofString "" := beq_iff_eq.mp (by rw [c1_nil hh, decide_eq_true hend])
      simp only [e_C, e_Nil, e_Bin, e_Neg, e_Len, e_Ord, e_Max, e_Find, e_Idx, e_Slc, e_Cmp, e_tCmp, e_K, e_tK, e_Of, e_Not, e_And, e_Or, e_xAnd, e_xOr, e_xNot, e_Ite, e_aNil, e_aCons, e_Tup, e_Call, e_Assign, e_Unp, e_Swap, e_Aug, e_If, e_Ret, e_Cont, e_sNil, e_Cons, e_Raise, b_ok, b_exc, b_ite, t_ok, t_exc, t_ite, a_next, a_cont, a_ret, a_exc, a_ite, r_raise, k_true, k_sc, k_scn, n_add, n_sub, n_mul, n_neg, n_max, n_aug, n_find, m_eqi, m_nei, m_lt, m_gt, m_ge, m_eqn, m_eqs, m_nes, m_in, m_nin, m_isn, m_isi, p_tup, p_lt, u_tup, u_lt, u_rev, w_cons, w_nil, g_get, g_lst, bl, List.length_cons, List.length_nil, List.map_cons, List.map_nil, List.replicate_succ, List.replicate_zero, List.cons_append, List.nil_append, List.append_nil, List.set_cons_zero, List.set_cons_succ, List.getElem?_cons_zero, List.getElem?_cons_succ, scOf, List.reverse_cons, List.reverse_nil, Nat.reduceAdd, Nat.reduceLeDiff, Nat.reduceEqDiff, Bool.false_eq_true, if_true, if_false, reduceIte, decide_eq_true_eq, beq_iff_eq, bne_iff_ne, ne_eq, Bool.not_true, Bool.not_false, l_sp, l_sp', l_spn, l_dot, l_dot', l_dotn, l_E, l_E', l_En, l_I, l_I', l_In, l_F, l_F', l_Fn, l_D, l_D', l_Dn, l_G, l_G', l_Gn, l_L, l_L', l_Ln, l_A, l_A', l_An, l_q, l_q', l_qn, l_P, l_P', l_Pn, l_mi, l_mi', l_min, l_pl, l_pl', l_pln, l_sl, l_sl', l_sln, l_co, l_co', l_con, l_S, l_S', l_Sn, l_N, l_N', l_Nn, l_Z, l_Z', l_Zn, l_B, l_B', l_Bn, l_R, l_R', l_Rn, l_T, l_T', l_Tn, l_X, l_X', l_Xn, l_H, l_H', l_Hn, l_lp, l_lp', l_lpn, l_cm, l_cm', l_cmn, l_rp, l_rp', l_rpn, f_ret, f_exc, f_ite, g_suc, f_call, Int.reduceLE, Int.reduceNeg, Int.reduceLT, Bool.and_true, Bool.true_and, Bool.and_false, Bool.false_and, Bool.or_true, Bool.true_or, Bool.or_false, Bool.false_or, Nat.reduceBEq, Nat.reduceBNe, beq_self_eq_true, bne_self_eq_false, decide_true, decide_false, not_true_eq_false, not_false_eq_true, Bool.not_eq_true', beq_eq_false_iff_ne, decide_eq_false_iff_not, pSt, lSt, q1, q2, n_slc t h (h + 1) hh rfl hZ, he]
      trivial
    have hhN : h < t.length := by omega
    have hne : c1 t h ≠ Str.ofString "" := by
      have := c1_nil (t := t) hh
      rw [decide_eq_false (by omega)] at this
      exact beq_eq_false_iff_ne.mp this
    have hcm : Txt.contains (Str.ofString ",)") (c1 t h) = (cd t h == 44 || cd t h == 41) := h_cmr t h hh hhN
    by_cases cC : cd t h = 44
    · by_cases hop : (after || its.isEmpty) = true
      · refine .inl ⟨h, z, h, hh, fun k m p5 p6 p7 l6 l7 l8 l9 l10 hk hm => ?_⟩
        obtain ⟨m, rfl⟩ : ∃ m', m = m' + 1 := ⟨m - 1, by omega⟩
        obtain ⟨q1, q2⟩ := a3 k (by omega)
        rw [loopR, loopR, hz]
        cases ha : after with
        | true => simp only [e_C, e_Nil, e_Bin, e_Neg, e_Len, e_Ord, e_Max, e_Find, e_Idx, e_Slc, e_Cmp, e_tCmp, e_K, e_tK, e_Of, e_Not, e_And, e_Or, e_xAnd, e_xOr, e_xNot, e_Ite, e_aNil, e_aCons, e_Tup, e_Call, e_Assign, e_Unp, e_Swap, e_Aug, e_If, e_Ret, e_Cont, e_sNil, e_Cons, e_Raise, b_ok, b_exc, b_ite, t_ok, t_exc, t_ite, a_next, a_cont, a_ret, a_exc, a_ite, r_raise, k_true, k_sc, k_scn, n_add, n_sub, n_mul, n_neg, n_max, n_aug, n_find, m_eqi, m_nei, m_lt, m_gt, m_ge, m_eqn, m_eqs, m_nes, m_in, m_nin, m_isn, m_isi, p_tup, p_lt, u_tup, u_lt, u_rev, w_cons, w_nil, g_get, g_lst, bl, List.length_cons, List.length_nil, List.map_cons, List.map_nil, List.replicate_succ, List.replicate_zero, List.cons_append, List.nil_append, List.append_nil, List.set_cons_zero, List.set_cons_succ, List.getElem?_cons_zero, List.getElem?_cons_succ, scOf, List.reverse_cons, List.reverse_nil, Nat.reduceAdd, Nat.reduceLeDiff, Nat.reduceEqDiff, Bool.false_eq_true, if_true, if_false, reduceIte, decide_eq_true_eq, beq_iff_eq, bne_iff_ne, ne_eq, Bool.not_true, Bool.not_false, l_sp, l_sp', l_spn, l_dot, l_dot', l_dotn, l_E, l_E', l_En, l_I, l_I', l_In, l_F, l_F', l_Fn, l_D, l_D', l_Dn, l_G, l_G', l_Gn, l_L, l_L', l_Ln, l_A, l_A', l_An, l_q, l_q', l_qn, l_P, l_P', l_Pn, l_mi, l_mi', l_min, l_pl, l_pl', l_pln, l_sl, l_sl', l_sln, l_co, l_co', l_con, l_S, l_S', l_Sn, l_N, l_N', l_Nn, l_Z, l_Z', l_Zn, l_B, l_B', l_Bn, l_R, l_R', l_Rn, l_T, l_T', l_Tn, l_X, l_X', l_Xn, l_H, l_H', l_Hn, l_lp, l_lp', l_lpn, l_cm, l_cm', l_cmn, l_rp, l_rp', l_rpn, f_ret, f_exc, f_ite, g_suc, f_call, Int.reduceLE, Int.reduceNeg, Int.reduceLT, Bool.and_true, Bool.true_and, Bool.and_false, Bool.false_and, Bool.or_true, Bool.true_or, Bool.or_false, Bool.false_or, Nat.reduceBEq, Nat.reduceBNe, beq_self_eq_true, bne_self_eq_false, decide_true, decide_false, not_true_eq_false, not_false_eq_true, Bool.not_eq_true', beq_eq_false_iff_ne, decide_eq_false_iff_not, pSt, lSt, q1, q2, n_slc t h (h + 1) hh rfl hZ, hne, hcm, cC]; trivial
        | false =>
          rw [ha, Bool.false_or] at hop
          simp only [e_C, e_Nil, e_Bin, e_Neg, e_Len, e_Ord, e_Max, e_Find, e_Idx, e_Slc, e_Cmp, e_tCmp, e_K, e_tK, e_Of, e_Not, e_And, e_Or, e_xAnd, e_xOr, e_xNot, e_Ite, e_aNil, e_aCons, e_Tup, e_Call, e_Assign, e_Unp, e_Swap, e_Aug, e_If, e_Ret, e_Cont, e_sNil, e_Cons, e_Raise, b_ok, b_exc, b_ite, t_ok, t_exc, t_ite, a_next, a_cont, a_ret, a_exc, a_ite, r_raise, k_true, k_sc, k_scn, n_add, n_sub, n_mul, n_neg, n_max, n_aug, n_find, m_eqi, m_nei, m_lt, m_gt, m_ge, m_eqn, m_eqs, m_nes, m_in, m_nin, m_isn, m_isi, p_tup, p_lt, u_tup, u_lt, u_rev, w_cons, w_nil, g_get, g_lst, bl, List.length_cons, List.length_nil, List.map_cons, List.map_nil, List.replicate_succ, List.replicate_zero, List.cons_append, List.nil_append, List.append_nil, List.set_cons_zero, List.set_cons_succ, List.getElem?_cons_zero, List.getElem?_cons_succ, scOf, List.reverse_cons, List.reverse_nil, Nat.reduceAdd, Nat.reduceLeDiff, Nat.reduceEqDiff, Bool.false_eq_true, if_true, if_false, reduceIte, decide_eq_true_eq, beq_iff_eq, bne_iff_ne, ne_eq, Bool.not_true, Bool.not_false, l_sp, l_sp', l_spn, l_dot, l_dot', l_dotn, l_E, l_E', l_En, l_I, l_I', l_In, l_F, l_F', l_Fn, l_D, l_D', l_Dn, l_G, l_G', l_Gn, l_L, l_L', l_Ln, l_A, l_A', l_An, l_q, l_q', l_qn, l_P, l_P', l_Pn, l_mi, l_mi', l_min, l_pl, l_pl', l_pln, l_sl, l_sl', l_sln, l_co, l_co', l_con, l_S, l_S', l_Sn, l_N, l_N', l_Nn, l_Z, l_Z', l_Zn, l_B, l_B', l_Bn, l_R, l_R', l_Rn, l_T, l_T', l_Tn, l_X, l_X', l_Xn, l_H, l_H', l_Hn, l_lp, l_lp', l_lpn, l_cm, l_cm', l_cmn, l_rp, l_rp', l_rpn, f_ret, f_exc, f_ite, g_suc, f_call, Int.reduceLE, Int.reduceNeg, Int.reduceLT, Bool.and_true, Bool.true_and, Bool.and_false, Bool.false_and, Bool.or_true, Bool.true_or, Bool.or_false, Bool.false_or, Nat.reduceBEq, Nat.reduceBNe, beq_self_eq_true, bne_self_eq_false, decide_true, decide_false, not_true_eq_false, not_false_eq_true, Bool.not_eq_true', beq_eq_false_iff_ne, decide_eq_false_iff_not, pSt, lSt, q1, q2, n_slc t h (h + 1) hh rfl hZ, hne, hcm, cC, nilR, hop]; trivial
      · have hop : (after || its.isEmpty) = false := by simpa using hop
        have ha : after = false := by cases after <;> simp_all
        have hem : its.isEmpty = false := by cases after <;> simp_all
        have hne' : its ≠ [] := by intro q; rw [q] at hem; cases hem
        rcases rowsP hN d hd ih n (h + 1) its true last (by omega) (by omega) (by omega) (by omega) (fun q => absurd q hne') v2 with ⟨n', a, j, n0, g⟩ | ⟨its', j, j1, j2, g⟩
        · refine .inl ⟨n', a, j, n0, fun k m p5 p6 p7 l6 l7 l8 l9 l10 hk hm => ?_⟩
          obtain ⟨m, rfl⟩ : ∃ m', m = m' + 1 := ⟨m - 1, by omega⟩
          obtain ⟨q1, q2⟩ := a3 k (by omega)
          obtain ⟨g1, g2⟩ := g k m (.sc (.int h)) (.sc (.str (c1 t h))) p7 (.sc (.int h)) (.sc (.str (c1 t h))) l8 l9 l10 hk (by omega)
          rw [hz, Bool.true_or] at g2
          rw [loopR, loopR, hz, hop, ha]
          simp only [e_C, e_Nil, e_Bin, e_Neg, e_Len, e_Ord, e_Max, e_Find, e_Idx, e_Slc, e_Cmp, e_tCmp, e_K, e_tK, e_Of, e_Not, e_And, e_Or, e_xAnd, e_xOr, e_xNot, e_Ite, e_aNil, e_aCons, e_Tup, e_Call, e_Assign, e_Unp, e_Swap, e_Aug, e_If, e_Ret, e_Cont, e_sNil, e_Cons, e_Raise, b_ok, b_exc, b_ite, t_ok, t_exc, t_ite, a_next, a_cont, a_ret, a_exc, a_ite, r_raise, k_true, k_sc, k_scn, n_add, n_sub, n_mul, n_neg, n_max, n_aug, n_find, m_eqi, m_nei, m_lt, m_gt, m_ge, m_eqn, m_eqs, m_nes, m_in, m_nin, m_isn, m_isi, p_tup, p_lt, u_tup, u_lt, u_rev, w_cons, w_nil, g_get, g_lst, bl, List.length_cons, List.length_nil, List.map_cons, List.map_nil, List.replicate_succ, List.replicate_zero, List.cons_append, List.nil_append, List.append_nil, List.set_cons_zero, List.set_cons_succ, List.getElem?_cons_zero, List.getElem?_cons_succ, scOf, List.reverse_cons, List.reverse_nil, Nat.reduceAdd, Nat.reduceLeDiff, Nat.reduceEqDiff, Bool.false_eq_true, if_true, if_false, reduceIte, decide_eq_true_eq, beq_iff_eq, bne_iff_ne, ne_eq, Bool.not_true, Bool.not_false, l_sp, l_sp', l_spn, l_dot, l_dot', l_dotn, l_E, l_E', l_En, l_I, l_I', l_In, l_F, l_F', l_Fn, l_D, l_D', l_Dn, l_G, l_G', l_Gn, l_L, l_L', l_Ln, l_A, l_A', l_An, l_q, l_q', l_qn, l_P, l_P', l_Pn, l_mi, l_mi', l_min, l_pl, l_pl', l_pln, l_sl, l_sl', l_sln, l_co, l_co', l_con, l_S, l_S', l_Sn, l_N, l_N', l_Nn, l_Z, l_Z', l_Zn, l_B, l_B', l_Bn, l_R, l_R', l_Rn, l_T, l_T', l_Tn, l_X, l_X', l_Xn, l_H, l_H', l_Hn, l_lp, l_lp', l_lpn, l_cm, l_cm', l_cmn, l_rp, l_rp', l_rpn, f_ret, f_exc, f_ite, g_suc, f_call, Int.reduceLE, Int.reduceNeg, Int.reduceLT, Bool.and_true, Bool.true_and, Bool.and_false, Bool.false_and, Bool.or_true, Bool.true_or, Bool.or_false, Bool.false_or, Nat.reduceBEq, Nat.reduceBNe, beq_self_eq_true, bne_self_eq_false, decide_true, decide_false, not_true_eq_false, not_false_eq_true, Bool.not_eq_true', beq_eq_false_iff_ne, decide_eq_false_iff_not, pSt, lSt, q1, q2, n_slc t h (h + 1) hh rfl hZ, hne, hcm, cC, nilR, hem]
          exact ⟨g1, g2⟩
        · refine .inr ⟨its', j, by omega, j2, fun k m p5 p6 p7 l6 l7 l8 l9 l10 hk hm => ?_⟩
          obtain ⟨m, rfl⟩ : ∃ m', m = m' + 1 := ⟨m - 1, by omega⟩
          obtain ⟨q1, q2⟩ := a3 k (by omega)
          obtain ⟨g1, g2⟩ := g k m (.sc (.int h)) (.sc (.str (c1 t h))) p7 (.sc (.int h)) (.sc (.str (c1 t h))) l8 l9 l10 hk (by omega)
          rw [hz, Bool.true_or] at g2
          rw [loopR, loopR, hz, hop, ha]
          simp only [e_C, e_Nil, e_Bin, e_Neg, e_Len, e_Ord, e_Max, e_Find, e_Idx, e_Slc, e_Cmp, e_tCmp, e_K, e_tK, e_Of, e_Not, e_And, e_Or, e_xAnd, e_xOr, e_xNot, e_Ite, e_aNil, e_aCons, e_Tup, e_Call, e_Assign, e_Unp, e_Swap, e_Aug, e_If, e_Ret, e_Cont, e_sNil, e_Cons, e_Raise, b_ok, b_exc, b_ite, t_ok, t_exc, t_ite, a_next, a_cont, a_ret, a_exc, a_ite, r_raise, k_true, k_sc, k_scn, n_add, n_sub, n_mul, n_neg, n_max, n_aug, n_find, m_eqi, m_nei, m_lt, m_gt, m_ge, m_eqn, m_eqs, m_nes, m_in, m_nin, m_isn, m_isi, p_tup, p_lt, u_tup, u_lt, u_rev, w_cons, w_nil, g_get, g_lst, bl, List.length_cons, List.length_nil, List.map_cons, List.map_nil, List.replicate_succ, List.replicate_zero, List.cons_append, List.nil_append, List.append_nil, List.set_cons_zero, List.set_cons_succ, List.getElem?_cons_zero, List.getElem?_cons_succ, scOf, List.reverse_cons, List.reverse_nil, Nat.reduceAdd, Nat.reduceLeDiff, Nat.reduceEqDiff, Bool.false_eq_true, if_true, if_false, reduceIte, decide_eq_true_eq, beq_iff_eq, bne_iff_ne, ne_eq, Bool.not_true, Bool.not_false, l_sp, l_sp', l_spn, l_dot, l_dot', l_dotn, l_E, l_E', l_En, l_I, l_I', l_In, l_F, l_F', l_Fn, l_D, l_D', l_Dn, l_G, l_G', l_Gn, l_L, l_L', l_Ln, l_A, l_A', l_An, l_q, l_q', l_qn, l_P, l_P', l_Pn, l_mi, l_mi', l_min, l_pl, l_pl', l_pln, l_sl, l_sl', l_sln, l_co, l_co', l_con, l_S, l_S', l_Sn, l_N, l_N', l_Nn, l_Z, l_Z', l_Zn, l_B, l_B', l_Bn, l_R, l_R', l_Rn, l_T, l_T', l_Tn, l_X, l_X', l_Xn, l_H, l_H', l_Hn, l_lp, l_lp', l_lpn, l_cm, l_cm', l_cmn, l_rp, l_rp', l_rpn, f_ret, f_exc, f_ite, g_suc, f_call, Int.reduceLE, Int.reduceNeg, Int.reduceLT, Bool.and_true, Bool.true_and, Bool.and_false, Bool.false_and, Bool.or_true, Bool.true_or, Bool.or_false, Bool.false_or, Nat.reduceBEq, Nat.reduceBNe, beq_self_eq_true, bne_self_eq_false, decide_true, decide_false, not_true_eq_false, not_false_eq_true, Bool.not_eq_true', beq_eq_false_iff_ne, decide_eq_false_iff_not, pSt, lSt, q1, q2, n_slc t h (h + 1) hh rfl hZ, hne, hcm, cC, nilR, hem]
          exact ⟨g1, g2⟩
    by_cases cR : cd t h = 41
    · cases ha : after with
      | true =>
        have hne' : its ≠ [] := by intro q; have := v1 q; rw [ha] at this; cases this
        have hpos : (0 : Int) < z := by
          rw [← hz]
          have := List.length_pos_iff.mpr hne'
          omega
        refine .inl ⟨h, z, h, hh, fun k m p5 p6 p7 l6 l7 l8 l9 l10 hk hm => ?_⟩
        obtain ⟨m, rfl⟩ : ∃ m', m = m' + 1 := ⟨m - 1, by omega⟩
        obtain ⟨q1, q2⟩ := a3 k (by omega)
        rw [loopR, loopR, hz]
        simp only [e_C, e_Nil, e_Bin, e_Neg, e_Len, e_Ord, e_Max, e_Find, e_Idx, e_Slc, e_Cmp, e_tCmp, e_K, e_tK, e_Of, e_Not, e_And, e_Or, e_xAnd, e_xOr, e_xNot, e_Ite, e_aNil, e_aCons, e_Tup, e_Call, e_Assign, e_Unp, e_Swap, e_Aug, e_If, e_Ret, e_Cont, e_sNil, e_Cons, e_Raise, b_ok, b_exc, b_ite, t_ok, t_exc, t_ite, a_next, a_cont, a_ret, a_exc, a_ite, r_raise, k_true, k_sc, k_scn, n_add, n_sub, n_mul, n_neg, n_max, n_aug, n_find, m_eqi, m_nei, m_lt, m_gt, m_ge, m_eqn, m_eqs, m_nes, m_in, m_nin, m_isn, m_isi, p_tup, p_lt, u_tup, u_lt, u_rev, w_cons, w_nil, g_get, g_lst, bl, List.length_cons, List.length_nil, List.map_cons, List.map_nil, List.replicate_succ, List.replicate_zero, List.cons_append, List.nil_append, List.append_nil, List.set_cons_zero, List.set_cons_succ, List.getElem?_cons_zero, List.getElem?_cons_succ, scOf, List.reverse_cons, List.reverse_nil, Nat.reduceAdd, Nat.reduceLeDiff, Nat.reduceEqDiff, Bool.false_eq_true, if_true, if_false, reduceIte, decide_eq_true_eq, beq_iff_eq, bne_iff_ne, ne_eq, Bool.not_true, Bool.not_false, l_sp, l_sp', l_spn, l_dot, l_dot', l_dotn, l_E, l_E', l_En, l_I, l_I', l_In, l_F, l_F', l_Fn, l_D, l_D', l_Dn, l_G, l_G', l_Gn, l_L, l_L', l_Ln, l_A, l_A', l_An, l_q, l_q', l_qn, l_P, l_P', l_Pn, l_mi, l_mi', l_min, l_pl, l_pl', l_pln, l_sl, l_sl', l_sln, l_co, l_co', l_con, l_S, l_S', l_Sn, l_N, l_N', l_Nn, l_Z, l_Z', l_Zn, l_B, l_B', l_Bn, l_R, l_R', l_Rn, l_T, l_T', l_Tn, l_X, l_X', l_Xn, l_H, l_H', l_Hn, l_lp, l_lp', l_lpn, l_cm, l_cm', l_cmn, l_rp, l_rp', l_rpn, f_ret, f_exc, f_ite, g_suc, f_call, Int.reduceLE, Int.reduceNeg, Int.reduceLT, Bool.and_true, Bool.true_and, Bool.and_false, Bool.false_and, Bool.or_true, Bool.true_or, Bool.or_false, Bool.false_or, Nat.reduceBEq, Nat.reduceBNe, beq_self_eq_true, bne_self_eq_false, decide_true, decide_false, not_true_eq_false, not_false_eq_true, Bool.not_eq_true', beq_eq_false_iff_ne, decide_eq_false_iff_not, pSt, lSt, q1, q2, n_slc t h (h + 1) hh rfl hZ, hne, hcm, cR, hpos]
        trivial
      | false =>
        refine .inr ⟨its, h, a1, hhN, fun k m p5 p6 p7 l6 l7 l8 l9 l10 hk hm => ?_⟩
        obtain ⟨m, rfl⟩ : ∃ m', m = m' + 1 := ⟨m - 1, by omega⟩
        obtain ⟨q1, q2⟩ := a3 k (by omega)
        rw [loopR, loopR, hz]
        rcases its with _ | ⟨it, its⟩
        · have hpos : ¬ (0 : Int) < z := by rw [← hz]; simp
          simp only [e_C, e_Nil, e_Bin, e_Neg, e_Len, e_Ord, e_Max, e_Find, e_Idx, e_Slc, e_Cmp, e_tCmp, e_K, e_tK, e_Of, e_Not, e_And, e_Or, e_xAnd, e_xOr, e_xNot, e_Ite, e_aNil, e_aCons, e_Tup, e_Call, e_Assign, e_Unp, e_Swap, e_Aug, e_If, e_Ret, e_Cont, e_sNil, e_Cons, e_Raise, b_ok, b_exc, b_ite, t_ok, t_exc, t_ite, a_next, a_cont, a_ret, a_exc, a_ite, r_raise, k_true, k_sc, k_scn, n_add, n_sub, n_mul, n_neg, n_max, n_aug, n_find, m_eqi, m_nei, m_lt, m_gt, m_ge, m_eqn, m_eqs, m_nes, m_in, m_nin, m_isn, m_isi, p_tup, p_lt, u_tup, u_lt, u_rev, w_cons, w_nil, g_get, g_lst, bl, List.length_cons, List.length_nil, List.map_cons, List.map_nil, List.replicate_succ, List.replicate_zero, List.cons_append, List.nil_append, List.append_nil, List.set_cons_zero, List.set_cons_succ, List.getElem?_cons_zero, List.getElem?_cons_succ, scOf, List.reverse_cons, List.reverse_nil, Nat.reduceAdd, Nat.reduceLeDiff, Nat.reduceEqDiff, Bool.false_eq_true, if_true, if_false, reduceIte, decide_eq_true_eq, beq_iff_eq, bne_iff_ne, ne_eq, Bool.not_true, Bool.not_false, l_sp, l_sp', l_spn, l_dot, l_dot', l_dotn, l_E, l_E', l_En, l_I, l_I', l_In, l_F, l_F', l_Fn, l_D, l_D', l_Dn, l_G, l_G', l_Gn, l_L, l_L', l_Ln, l_A, l_A', l_An, l_q, l_q', l_qn, l_P, l_P', l_Pn, l_mi, l_mi', l_min, l_pl, l_pl', l_pln, l_sl, l_sl', l_sln, l_co, l_co', l_con, l_S, l_S', l_Sn, l_N, l_N', l_Nn, l_Z, l_Z', l_Zn, l_B, l_B', l_Bn, l_R, l_R', l_Rn, l_T, l_T', l_Tn, l_X, l_X', l_Xn, l_H, l_H', l_Hn, l_lp, l_lp', l_lpn, l_cm, l_cm', l_cmn, l_rp, l_rp', l_rpn, f_ret, f_exc, f_ite, g_suc, f_call, Int.reduceLE, Int.reduceNeg, Int.reduceLT, Bool.and_true, Bool.true_and, Bool.and_false, Bool.false_and, Bool.or_true, Bool.true_or, Bool.or_false, Bool.false_or, Nat.reduceBEq, Nat.reduceBNe, beq_self_eq_true, bne_self_eq_false, decide_true, decide_false, not_true_eq_false, not_false_eq_true, Bool.not_eq_true', beq_eq_false_iff_ne, decide_eq_false_iff_not, pSt, lSt, q1, q2, n_slc t h (h + 1) hh rfl hZ, hne, hcm, cR, hpos, List.isEmpty_nil]
          trivial
        · simp only [e_C, e_Nil, e_Bin, e_Neg, e_Len, e_Ord, e_Max, e_Find, e_Idx, e_Slc, e_Cmp, e_tCmp, e_K, e_tK, e_Of, e_Not, e_And, e_Or, e_xAnd, e_xOr, e_xNot, e_Ite, e_aNil, e_aCons, e_Tup, e_Call, e_Assign, e_Unp, e_Swap, e_Aug, e_If, e_Ret, e_Cont, e_sNil, e_Cons, e_Raise, b_ok, b_exc, b_ite, t_ok, t_exc, t_ite, a_next, a_cont, a_ret, a_exc, a_ite, r_raise, k_true, k_sc, k_scn, n_add, n_sub, n_mul, n_neg, n_max, n_aug, n_find, m_eqi, m_nei, m_lt, m_gt, m_ge, m_eqn, m_eqs, m_nes, m_in, m_nin, m_isn, m_isi, p_tup, p_lt, u_tup, u_lt, u_rev, w_cons, w_nil, g_get, g_lst, bl, List.length_cons, List.length_nil, List.map_cons, List.map_nil, List.replicate_succ, List.replicate_zero, List.cons_append, List.nil_append, List.append_nil, List.set_cons_zero, List.set_cons_succ, List.getElem?_cons_zero, List.getElem?_cons_succ, scOf, List.reverse_cons, List.reverse_nil, Nat.reduceAdd, Nat.reduceLeDiff, Nat.reduceEqDiff, Bool.false_eq_true, if_true, if_false, reduceIte, decide_eq_true_eq, beq_iff_eq, bne_iff_ne, ne_eq, Bool.not_true, Bool.not_false, l_sp, l_sp', l_spn, l_dot, l_dot', l_dotn, l_E, l_E', l_En, l_I, l_I', l_In, l_F, l_F', l_Fn, l_D, l_D', l_Dn, l_G, l_G', l_Gn, l_L, l_L', l_Ln, l_A, l_A', l_An, l_q, l_q', l_qn, l_P, l_P', l_Pn, l_mi, l_mi', l_min, l_pl, l_pl', l_pln, l_sl, l_sl', l_sln, l_co, l_co', l_con, l_S, l_S', l_Sn, l_N, l_N', l_Nn, l_Z, l_Z', l_Zn, l_B, l_B', l_Bn, l_R, l_R', l_Rn, l_T, l_T', l_Tn, l_X, l_X', l_Xn, l_H, l_H', l_Hn, l_lp, l_lp', l_lpn, l_cm, l_cm', l_cmn, l_rp, l_rp', l_rpn, f_ret, f_exc, f_ite, g_suc, f_call, Int.reduceLE, Int.reduceNeg, Int.reduceLT, Bool.and_true, Bool.true_and, Bool.and_false, Bool.false_and, Bool.or_true, Bool.true_or, Bool.or_false, Bool.false_or, Nat.reduceBEq, Nat.reduceBNe, beq_self_eq_true, bne_self_eq_false, decide_true, decide_false, not_true_eq_false, not_false_eq_true, Bool.not_eq_true', beq_eq_false_iff_ne, decide_eq_false_iff_not, pSt, lSt, q1, q2, n_slc t h (h + 1) hh rfl hZ, hne, hcm, cR, List.isEmpty_cons]
          trivial
    have hcm : Txt.contains (Str.ofString ",)") (c1 t h) = false := by rw [hcm, beq_eq_false_iff_ne.mpr cC, beq_eq_false_iff_ne.mpr cR]; rfl
    have hI := item hN d hd ih h hh hhN
    rcases hI with ⟨n', a, j, n0, g⟩ | ⟨it, x, j, hok, j1, j2, g⟩
    · refine .inl ⟨n', z, h, n0, fun k m p5 p6 p7 l6 l7 l8 l9 l10 hk hm => ?_⟩
      obtain ⟨m, rfl⟩ : ∃ m', m = m' + 1 := ⟨m - 1, by omega⟩
      obtain ⟨q1, q2⟩ := a3 k (by omega)
      obtain ⟨g1, g2⟩ := g k hk
      rw [loopR, loopR, hz]
      simp only [e_C, e_Nil, e_Bin, e_Neg, e_Len, e_Ord, e_Max, e_Find, e_Idx, e_Slc, e_Cmp, e_tCmp, e_K, e_tK, e_Of, e_Not, e_And, e_Or, e_xAnd, e_xOr, e_xNot, e_Ite, e_aNil, e_aCons, e_Tup, e_Call, e_Assign, e_Unp, e_Swap, e_Aug, e_If, e_Ret, e_Cont, e_sNil, e_Cons, e_Raise, b_ok, b_exc, b_ite, t_ok, t_exc, t_ite, a_next, a_cont, a_ret, a_exc, a_ite, r_raise, k_true, k_sc, k_scn, n_add, n_sub, n_mul, n_neg, n_max, n_aug, n_find, m_eqi, m_nei, m_lt, m_gt, m_ge, m_eqn, m_eqs, m_nes, m_in, m_nin, m_isn, m_isi, p_tup, p_lt, u_tup, u_lt, u_rev, w_cons, w_nil, g_get, g_lst, bl, List.length_cons, List.length_nil, List.map_cons, List.map_nil, List.replicate_succ, List.replicate_zero, List.cons_append, List.nil_append, List.append_nil, List.set_cons_zero, List.set_cons_succ, List.getElem?_cons_zero, List.getElem?_cons_succ, scOf, List.reverse_cons, List.reverse_nil, Nat.reduceAdd, Nat.reduceLeDiff, Nat.reduceEqDiff, Bool.false_eq_true, if_true, if_false, reduceIte, decide_eq_true_eq, beq_iff_eq, bne_iff_ne, ne_eq, Bool.not_true, Bool.not_false, l_sp, l_sp', l_spn, l_dot, l_dot', l_dotn, l_E, l_E', l_En, l_I, l_I', l_In, l_F, l_F', l_Fn, l_D, l_D', l_Dn, l_G, l_G', l_Gn, l_L, l_L', l_Ln, l_A, l_A', l_An, l_q, l_q', l_qn, l_P, l_P', l_Pn, l_mi, l_mi', l_min, l_pl, l_pl', l_pln, l_sl, l_sl', l_sln, l_co, l_co', l_con, l_S, l_S', l_Sn, l_N, l_N', l_Nn, l_Z, l_Z', l_Zn, l_B, l_B', l_Bn, l_R, l_R', l_Rn, l_T, l_T', l_Tn, l_X, l_X', l_Xn, l_H, l_H', l_Hn, l_lp, l_lp', l_lpn, l_cm, l_cm', l_cmn, l_rp, l_rp', l_rpn, f_ret, f_exc, f_ite, g_suc, f_call, Int.reduceLE, Int.reduceNeg, Int.reduceLT, Bool.and_true, Bool.true_and, Bool.and_false, Bool.false_and, Bool.or_true, Bool.true_or, Bool.or_false, Bool.false_or, Nat.reduceBEq, Nat.reduceBNe, beq_self_eq_true, bne_self_eq_false, decide_true, decide_false, not_true_eq_false, not_false_eq_true, Bool.not_eq_true', beq_eq_false_iff_ne, decide_eq_false_iff_not, pSt, lSt, q1, q2, n_slc t h (h + 1) hh rfl hZ, hne, hcm, cC, cR, g1, g2, n0]
      trivial
    · have hstep : (∃ n' a h, 0 ≤ n' ∧ ∀ k m p5 p6 p7 l6 l7 l8 l9 l10, Bi d - 1 ≤ k → n ≤ m → loopR m rowT (itB (Φ k)) (pSt t j d (its ++ [it]) false p5 p6 p7) = .exc n' ∧
          loopR m rowT (roB (Φ k)) (lSt t j d (z + 1) x false l6 l7 l8 l9 l10) = .ret (.sc (.tup [.int a, .int h, .int n']))) ∨
          (∃ its' h, j ≤ h ∧ h < t.length ∧ ∀ k m p5 p6 p7 l6 l7 l8 l9 l10, Bi d - 1 ≤ k → n ≤ m → loopR m rowT (itB (Φ k)) (pSt t j d (its ++ [it]) false p5 p6 p7) = .ret (.lt its' [.int h]) ∧
          loopR m rowT (roB (Φ k)) (lSt t j d (z + 1) x false l6 l7 l8 l9 l10) = .ret (.sc (.tup [.int (its'.length : Nat), .int h, .int (-1)]))) := by
        have := rowsP hN d hd ih n j (its ++ [it]) false x (by omega) (by omega) (by omega) (by simp; omega) (fun _ => rfl) (fun _ => ⟨it, by simp, hok⟩)
        have e1 : (((its ++ [it]).length : Nat) : Int) = z + 1 := by simp; omega
        have e2 : (false || (its ++ [it]).isEmpty) = false := by simp
        rw [e1, e2] at this
        exact this
      have hlen : its.length < 2 ^ 20 := by have : (its.length : Int) ≤ 2000 := by omega
                                            omega
      by_cases hjoin : (after || its.isEmpty || joinT last x) = true
      · -- it is taken
        have key : ∀ k m p5 p6 p7 l6 l7 l8 l9 l10, Bi d - 1 ≤ k → 
            loopR (m + 1) rowT (itB (Φ k)) (pSt t i d its after p5 p6 p7) = loopR m rowT (itB (Φ k)) (pSt t j d (its ++ [it]) false (.sc (.int h)) (.sc (.str (c1 t h))) (.sc it)) ∧
            loopR (m + 1) rowT (roB (Φ k)) (lSt t i d z last (after || its.isEmpty) l6 l7 l8 l9 l10) = loopR m rowT (roB (Φ k)) (lSt t j d (z + 1) x false (.sc (.int h)) (.sc (.str (c1 t h))) (.sc (.str x)) (.sc (.int (-1))) (.sc (.bool (joinT last x)))) := by
          intro k m p5 p6 p7 l6 l7 l8 l9 l10 hk
          obtain ⟨q1, q2⟩ := a3 k (by omega)
          obtain ⟨g1, g2⟩ := g k hk
          have hap := fun after => app_ok t j d its after (.int h) (.str (c1 t h)) it hlen
          rw [loopR, loopR]
          simp only [pSt, lSt] at hap ⊢
          rcases its with _ | ⟨ia, its⟩
          · have ha := v1 rfl
            subst ha
            simp only [e_C, e_Nil, e_Bin, e_Neg, e_Len, e_Ord, e_Max, e_Find, e_Idx, e_Slc, e_Cmp, e_tCmp, e_K, e_tK, e_Of, e_Not, e_And, e_Or, e_xNot, e_Ite, e_aNil, e_aCons, e_Tup, e_Call, e_Assign, e_Unp, e_Swap, e_Aug, e_If, e_Ret, e_Cont, e_sNil, e_Cons, e_Raise, b_ok, b_exc, b_ite, t_ok, t_exc, t_ite, a_next, a_cont, a_ret, a_exc, a_ite, r_raise, k_true, k_sc, k_scn, n_add, n_sub, n_mul, n_neg, n_max, n_aug, n_find, m_eqi, m_nei, m_lt, m_gt, m_ge, m_eqn, m_eqs, m_nes, m_in, m_nin, m_isn, m_isi, p_tup, p_lt, u_tup, u_lt, u_rev, w_cons, w_nil, g_get, g_lst, bl, List.length_cons, List.length_nil, List.map_cons, List.map_nil, List.replicate_succ, List.replicate_zero, List.cons_append, List.nil_append, List.append_nil, List.set_cons_zero, List.set_cons_succ, List.getElem?_cons_zero, List.getElem?_cons_succ, scOf, List.reverse_cons, List.reverse_nil, Nat.reduceAdd, Nat.reduceLeDiff, Nat.reduceEqDiff, Bool.false_eq_true, if_true, if_false, reduceIte, decide_eq_true_eq, beq_iff_eq, bne_iff_ne, ne_eq, Bool.not_true, Bool.not_false, l_sp, l_sp', l_spn, l_dot, l_dot', l_dotn, l_E, l_E', l_En, l_I, l_I', l_In, l_F, l_F', l_Fn, l_D, l_D', l_Dn, l_G, l_G', l_Gn, l_L, l_L', l_Ln, l_A, l_A', l_An, l_q, l_q', l_qn, l_P, l_P', l_Pn, l_mi, l_mi', l_min, l_pl, l_pl', l_pln, l_sl, l_sl', l_sln, l_co, l_co', l_con, l_S, l_S', l_Sn, l_N, l_N', l_Nn, l_Z, l_Z', l_Zn, l_B, l_B', l_Bn, l_R, l_R', l_Rn, l_T, l_T', l_Tn, l_X, l_X', l_Xn, l_H, l_H', l_Hn, l_lp, l_lp', l_lpn, l_cm, l_cm', l_cmn, l_rp, l_rp', l_rpn, f_ret, f_exc, f_ite, g_suc, f_call, Int.reduceLE, Int.reduceNeg, Int.reduceLT, Bool.and_true, Bool.true_and, Bool.and_false, Bool.false_and, Bool.or_true, Bool.true_or, Bool.or_false, Bool.false_or, Nat.reduceBEq, Nat.reduceBNe, beq_self_eq_true, bne_self_eq_false, decide_true, decide_false, not_true_eq_false, not_false_eq_true, Bool.not_eq_true', beq_eq_false_iff_ne, decide_eq_false_iff_not, touch, q1, q2, n_slc t h (h + 1) hh rfl hZ, hne, hcm, cC, cR, g1, g2, nnilR, List.isEmpty_nil, hap]
            trivial
          · obtain ⟨il, hil, hilok⟩ := v2 (by simp)
            have hmj := mayjoin hilok hok k (by omega)
            have hla := n_last (ia :: its) il hil (by rw [sizeLine_eq]; omega)
            cases ha : after with
            | true =>
              simp only [e_C, e_Nil, e_Bin, e_Neg, e_Len, e_Ord, e_Max, e_Find, e_Idx, e_Slc, e_Cmp, e_tCmp, e_K, e_tK, e_Of, e_Not, e_And, e_Or, e_xNot, e_Ite, e_aNil, e_aCons, e_Tup, e_Call, e_Assign, e_Unp, e_Swap, e_Aug, e_If, e_Ret, e_Cont, e_sNil, e_Cons, e_Raise, b_ok, b_exc, b_ite, t_ok, t_exc, t_ite, a_next, a_cont, a_ret, a_exc, a_ite, r_raise, k_true, k_sc, k_scn, n_add, n_sub, n_mul, n_neg, n_max, n_aug, n_find, m_eqi, m_nei, m_lt, m_gt, m_ge, m_eqn, m_eqs, m_nes, m_in, m_nin, m_isn, m_isi, p_tup, p_lt, u_tup, u_lt, u_rev, w_cons, w_nil, g_get, g_lst, bl, List.length_cons, List.length_nil, List.map_cons, List.map_nil, List.replicate_succ, List.replicate_zero, List.cons_append, List.nil_append, List.append_nil, List.set_cons_zero, List.set_cons_succ, List.getElem?_cons_zero, List.getElem?_cons_succ, scOf, List.reverse_cons, List.reverse_nil, Nat.reduceAdd, Nat.reduceLeDiff, Nat.reduceEqDiff, Bool.false_eq_true, if_true, if_false, reduceIte, decide_eq_true_eq, beq_iff_eq, bne_iff_ne, ne_eq, Bool.not_true, Bool.not_false, l_sp, l_sp', l_spn, l_dot, l_dot', l_dotn, l_E, l_E', l_En, l_I, l_I', l_In, l_F, l_F', l_Fn, l_D, l_D', l_Dn, l_G, l_G', l_Gn, l_L, l_L', l_Ln, l_A, l_A', l_An, l_q, l_q', l_qn, l_P, l_P', l_Pn, l_mi, l_mi', l_min, l_pl, l_pl', l_pln, l_sl, l_sl', l_sln, l_co, l_co', l_con, l_S, l_S', l_Sn, l_N, l_N', l_Nn, l_Z, l_Z', l_Zn, l_B, l_B', l_Bn, l_R, l_R', l_Rn, l_T, l_T', l_Tn, l_X, l_X', l_Xn, l_H, l_H', l_Hn, l_lp, l_lp', l_lpn, l_cm, l_cm', l_cmn, l_rp, l_rp', l_rpn, f_ret, f_exc, f_ite, g_suc, f_call, Int.reduceLE, Int.reduceNeg, Int.reduceLT, Bool.and_true, Bool.true_and, Bool.and_false, Bool.false_and, Bool.or_true, Bool.true_or, Bool.or_false, Bool.false_or, Nat.reduceBEq, Nat.reduceBNe, beq_self_eq_true, bne_self_eq_false, decide_true, decide_false, not_true_eq_false, not_false_eq_true, Bool.not_eq_true', beq_eq_false_iff_ne, decide_eq_false_iff_not, touch, q1, q2, n_slc t h (h + 1) hh rfl hZ, hne, hcm, cC, cR, g1, g2, nnilR, List.isEmpty_cons, hap, hla, hmj]
              trivial
            | false =>
              have hj : joinT last x = true := by rw [ha] at hjoin; simpa using hjoin
              have hj' := hj
              unfold joinT at hj'
              rw [hj'] at hmj
              simp only [e_C, e_Nil, e_Bin, e_Neg, e_Len, e_Ord, e_Max, e_Find, e_Idx, e_Slc, e_Cmp, e_tCmp, e_K, e_tK, e_Of, e_Not, e_And, e_Or, e_xNot, e_Ite, e_aNil, e_aCons, e_Tup, e_Call, e_Assign, e_Unp, e_Swap, e_Aug, e_If, e_Ret, e_Cont, e_sNil, e_Cons, e_Raise, b_ok, b_exc, b_ite, t_ok, t_exc, t_ite, a_next, a_cont, a_ret, a_exc, a_ite, r_raise, k_true, k_sc, k_scn, n_add, n_sub, n_mul, n_neg, n_max, n_aug, n_find, m_eqi, m_nei, m_lt, m_gt, m_ge, m_eqn, m_eqs, m_nes, m_in, m_nin, m_isn, m_isi, p_tup, p_lt, u_tup, u_lt, u_rev, w_cons, w_nil, g_get, g_lst, bl, List.length_cons, List.length_nil, List.map_cons, List.map_nil, List.replicate_succ, List.replicate_zero, List.cons_append, List.nil_append, List.append_nil, List.set_cons_zero, List.set_cons_succ, List.getElem?_cons_zero, List.getElem?_cons_succ, scOf, List.reverse_cons, List.reverse_nil, Nat.reduceAdd, Nat.reduceLeDiff, Nat.reduceEqDiff, Bool.false_eq_true, if_true, if_false, reduceIte, decide_eq_true_eq, beq_iff_eq, bne_iff_ne, ne_eq, Bool.not_true, Bool.not_false, l_sp, l_sp', l_spn, l_dot, l_dot', l_dotn, l_E, l_E', l_En, l_I, l_I', l_In, l_F, l_F', l_Fn, l_D, l_D', l_Dn, l_G, l_G', l_Gn, l_L, l_L', l_Ln, l_A, l_A', l_An, l_q, l_q', l_qn, l_P, l_P', l_Pn, l_mi, l_mi', l_min, l_pl, l_pl', l_pln, l_sl, l_sl', l_sln, l_co, l_co', l_con, l_S, l_S', l_Sn, l_N, l_N', l_Nn, l_Z, l_Z', l_Zn, l_B, l_B', l_Bn, l_R, l_R', l_Rn, l_T, l_T', l_Tn, l_X, l_X', l_Xn, l_H, l_H', l_Hn, l_lp, l_lp', l_lpn, l_cm, l_cm', l_cmn, l_rp, l_rp', l_rpn, f_ret, f_exc, f_ite, g_suc, f_call, Int.reduceLE, Int.reduceNeg, Int.reduceLT, Bool.and_true, Bool.true_and, Bool.and_false, Bool.false_and, Bool.or_true, Bool.true_or, Bool.or_false, Bool.false_or, Nat.reduceBEq, Nat.reduceBNe, beq_self_eq_true, bne_self_eq_false, decide_true, decide_false, not_true_eq_false, not_false_eq_true, Bool.not_eq_true', beq_eq_false_iff_ne, decide_eq_false_iff_not, touch, q1, q2, n_slc t h (h + 1) hh rfl hZ, hne, hcm, cC, cR, g1, g2, nnilR, List.isEmpty_cons, hap, hla, hmj, hj]
              trivial
        rcases hstep with ⟨n', a, j', n0, s⟩ | ⟨its', j', k1, k2, s⟩
        · refine .inl ⟨n', a, j', n0, fun k m p5 p6 p7 l6 l7 l8 l9 l10 hk hm => ?_⟩
          obtain ⟨m, rfl⟩ : ∃ m', m = m' + 1 := ⟨m - 1, by omega⟩
          rw [hz, (key k m p5 p6 p7 l6 l7 l8 l9 l10 hk).1, (key k m p5 p6 p7 l6 l7 l8 l9 l10 hk).2]
          exact s k m _ _ _ _ _ _ _ _ hk (by omega)
        · refine .inr ⟨its', j', by omega, k2, fun k m p5 p6 p7 l6 l7 l8 l9 l10 hk hm => ?_⟩
          obtain ⟨m, rfl⟩ : ∃ m', m = m' + 1 := ⟨m - 1, by omega⟩
          rw [hz, (key k m p5 p6 p7 l6 l7 l8 l9 l10 hk).1, (key k m p5 p6 p7 l6 l7 l8 l9 l10 hk).2]
          exact s k m _ _ _ _ _ _ _ _ hk (by omega)
      · have hjoin : (after || its.isEmpty || joinT last x) = false := by simpa using hjoin
        simp only [Bool.or_eq_false_iff] at hjoin
        obtain ⟨⟨ha, hem⟩, hj⟩ := hjoin
        refine .inl ⟨h, z, h, hh, fun k m p5 p6 p7 l6 l7 l8 l9 l10 hk hm => ?_⟩
        obtain ⟨m, rfl⟩ : ∃ m', m = m' + 1 := ⟨m - 1, by omega⟩
        obtain ⟨q1, q2⟩ := a3 k (by omega)
        obtain ⟨g1, g2⟩ := g k hk
        rw [loopR, loopR, hz]
        rcases its with _ | ⟨ia, its⟩
        · cases hem
        · obtain ⟨il, hil, hilok⟩ := v2 (by simp)
          have hmj := mayjoin hilok hok k (by omega)
          have hla := n_last (ia :: its) il hil (by rw [sizeLine_eq]; omega)
          have hj' := hj
          unfold joinT at hj'
          rw [hj'] at hmj
          subst ha
          simp only [e_C, e_Nil, e_Bin, e_Neg, e_Len, e_Ord, e_Max, e_Find, e_Idx, e_Slc, e_Cmp, e_tCmp, e_K, e_tK, e_Of, e_Not, e_And, e_Or, e_xNot, e_Ite, e_aNil, e_aCons, e_Tup, e_Call, e_Assign, e_Unp, e_Swap, e_Aug, e_If, e_Ret, e_Cont, e_sNil, e_Cons, e_Raise, b_ok, b_exc, b_ite, t_ok, t_exc, t_ite, a_next, a_cont, a_ret, a_exc, a_ite, r_raise, k_true, k_sc, k_scn, n_add, n_sub, n_mul, n_neg, n_max, n_aug, n_find, m_eqi, m_nei, m_lt, m_gt, m_ge, m_eqn, m_eqs, m_nes, m_in, m_nin, m_isn, m_isi, p_tup, p_lt, u_tup, u_lt, u_rev, w_cons, w_nil, g_get, g_lst, bl, List.length_cons, List.length_nil, List.map_cons, List.map_nil, List.replicate_succ, List.replicate_zero, List.cons_append, List.nil_append, List.append_nil, List.set_cons_zero, List.set_cons_succ, List.getElem?_cons_zero, List.getElem?_cons_succ, scOf, List.reverse_cons, List.reverse_nil, Nat.reduceAdd, Nat.reduceLeDiff, Nat.reduceEqDiff, Bool.false_eq_true, if_true, if_false, reduceIte, decide_eq_true_eq, beq_iff_eq, bne_iff_ne, ne_eq, Bool.not_true, Bool.not_false, l_sp, l_sp', l_spn, l_dot, l_dot', l_dotn, l_E, l_E', l_En, l_I, l_I', l_In, l_F, l_F', l_Fn, l_D, l_D', l_Dn, l_G, l_G', l_Gn, l_L, l_L', l_Ln, l_A, l_A', l_An, l_q, l_q', l_qn, l_P, l_P', l_Pn, l_mi, l_mi', l_min, l_pl, l_pl', l_pln, l_sl, l_sl', l_sln, l_co, l_co', l_con, l_S, l_S', l_Sn, l_N, l_N', l_Nn, l_Z, l_Z', l_Zn, l_B, l_B', l_Bn, l_R, l_R', l_Rn, l_T, l_T', l_Tn, l_X, l_X', l_Xn, l_H, l_H', l_Hn, l_lp, l_lp', l_lpn, l_cm, l_cm', l_cmn, l_rp, l_rp', l_rpn, f_ret, f_exc, f_ite, g_suc, f_call, Int.reduceLE, Int.reduceNeg, Int.reduceLT, Bool.and_true, Bool.true_and, Bool.and_false, Bool.false_and, Bool.or_true, Bool.true_or, Bool.or_false, Bool.false_or, Nat.reduceBEq, Nat.reduceBNe, beq_self_eq_true, bne_self_eq_false, decide_true, decide_false, not_true_eq_false, not_false_eq_true, Bool.not_eq_true', beq_eq_false_iff_ne, decide_eq_false_iff_not, touch, pSt, lSt, q1, q2, n_slc t h (h + 1) hh rfl hZ, hne, hcm, cC, cR, g1, g2, nnilR, List.isEmpty_cons, hla, hmj, hj]
          trivial

theorem rows (hN : t.length ≤ 2000) : ∀ (e d : Nat), d ≤ 10 → 10 - d = e → Rows t d
  | e, d, hd, he => by
    have ih : d < 10 → Rows t (d + 1) := fun h => rows hN (e - 1) (d + 1) (by omega) (by omega)
    intro i i0 i1
    have hV : ∀ k l, Φ (k + 1) .items_at l = funR 3 5 (r_items_at (Φ k)) l := fun _ _ => rfl
    have hLV : ∀ k l, Φ (k + 1) .lawRow l = funR 3 8 (r_lawRow (Φ k)) l := fun _ _ => rfl
    have hB : 9 ≤ Bi d := by simp [Bi]
    rcases rowsP hN d hd ih 4096 i [] false (Str.ofString "") i0 i1 (by omega) (by simpa using i0) (fun _ => rfl) (fun q => absurd rfl q) with ⟨n', a, h, n0, s⟩ | ⟨its', h, k1, k2, s⟩
    · refine .inl ⟨n', a, h, n0, fun k hk => ?_⟩
      obtain ⟨k, rfl⟩ : ∃ k', k = k' + 1 := ⟨k - 1, by omega⟩
      obtain ⟨s1, s2⟩ := s k 4096 .unb .unb .unb .unb .unb .unb .unb .unb (by omega) (Nat.le_refl _)
      have e0 : (((([] : List Sc).length : Nat)) : Int) = 0 := rfl
      rw [e0] at s2
      simp only [pSt, lSt, List.isEmpty_nil, Bool.false_or] at s1 s2
      show Φ _ .items_at _ = _ ∧ Φ _ .lawRow _ = _; rw [hV, hLV]; unfold r_items_at r_lawRow
      simp only [e_C, e_Nil, e_Bin, e_Neg, e_Len, e_Ord, e_Max, e_Find, e_Idx, e_Slc, e_Cmp, e_tCmp, e_K, e_tK, e_Of, e_Not, e_And, e_Or, e_xAnd, e_xOr, e_xNot, e_Ite, e_aNil, e_aCons, e_Tup, e_Call, e_Assign, e_Unp, e_Swap, e_Aug, e_If, e_Ret, e_Cont, e_sNil, e_Cons, e_Raise, b_ok, b_exc, b_ite, t_ok, t_exc, t_ite, a_next, a_cont, a_ret, a_exc, a_ite, r_raise, k_true, k_sc, k_scn, n_add, n_sub, n_mul, n_neg, n_max, n_aug, n_find, m_eqi, m_nei, m_lt, m_gt, m_ge, m_eqn, m_eqs, m_nes, m_in, m_nin, m_isn, m_isi, p_tup, p_lt, u_tup, u_lt, u_rev, w_cons, w_nil, g_get, g_lst, bl, List.length_cons, List.length_nil, List.map_cons, List.map_nil, List.replicate_succ, List.replicate_zero, List.cons_append, List.nil_append, List.append_nil, List.set_cons_zero, List.set_cons_succ, List.getElem?_cons_zero, List.getElem?_cons_succ, scOf, List.reverse_cons, List.reverse_nil, Nat.reduceAdd, Nat.reduceLeDiff, Nat.reduceEqDiff, Bool.false_eq_true, if_true, if_false, reduceIte, decide_eq_true_eq, beq_iff_eq, bne_iff_ne, ne_eq, Bool.not_true, Bool.not_false, l_sp, l_sp', l_spn, l_dot, l_dot', l_dotn, l_E, l_E', l_En, l_I, l_I', l_In, l_F, l_F', l_Fn, l_D, l_D', l_Dn, l_G, l_G', l_Gn, l_L, l_L', l_Ln, l_A, l_A', l_An, l_q, l_q', l_qn, l_P, l_P', l_Pn, l_mi, l_mi', l_min, l_pl, l_pl', l_pln, l_sl, l_sl', l_sln, l_co, l_co', l_con, l_S, l_S', l_Sn, l_N, l_N', l_Nn, l_Z, l_Z', l_Zn, l_B, l_B', l_Bn, l_R, l_R', l_Rn, l_T, l_T', l_Tn, l_X, l_X', l_Xn, l_H, l_H', l_Hn, l_lp, l_lp', l_lpn, l_cm, l_cm', l_cmn, l_rp, l_rp', l_rpn, f_ret, f_exc, f_ite, g_suc, f_call, Int.reduceLE, Int.reduceNeg, Int.reduceLT, Bool.and_true, Bool.true_and, Bool.and_false, Bool.false_and, Bool.or_true, Bool.true_or, Bool.or_false, Bool.false_or, Nat.reduceBEq, Nat.reduceBNe, beq_self_eq_true, bne_self_eq_false, decide_true, decide_false, not_true_eq_false, not_false_eq_true, Bool.not_eq_true', beq_eq_false_iff_ne, decide_eq_false_iff_not, s1, s2]
      trivial
    · refine .inr ⟨its', h, k1, k2, fun k hk => ?_⟩
      obtain ⟨k, rfl⟩ : ∃ k', k = k' + 1 := ⟨k - 1, by omega⟩
      obtain ⟨s1, s2⟩ := s k 4096 .unb .unb .unb .unb .unb .unb .unb .unb (by omega) (Nat.le_refl _)
      have e0 : (((([] : List Sc).length : Nat)) : Int) = 0 := rfl
      rw [e0] at s2
      simp only [pSt, lSt, List.isEmpty_nil, Bool.false_or] at s1 s2
      show Φ _ .items_at _ = _ ∧ Φ _ .lawRow _ = _; rw [hV, hLV]; unfold r_items_at r_lawRow
      simp only [e_C, e_Nil, e_Bin, e_Neg, e_Len, e_Ord, e_Max, e_Find, e_Idx, e_Slc, e_Cmp, e_tCmp, e_K, e_tK, e_Of, e_Not, e_And, e_Or, e_xAnd, e_xOr, e_xNot, e_Ite, e_aNil, e_aCons, e_Tup, e_Call, e_Assign, e_Unp, e_Swap, e_Aug, e_If, e_Ret, e_Cont, e_sNil, e_Cons, e_Raise, b_ok, b_exc, b_ite, t_ok, t_exc, t_ite, a_next, a_cont, a_ret, a_exc, a_ite, r_raise, k_true, k_sc, k_scn, n_add, n_sub, n_mul, n_neg, n_max, n_aug, n_find, m_eqi, m_nei, m_lt, m_gt, m_ge, m_eqn, m_eqs, m_nes, m_in, m_nin, m_isn, m_isi, p_tup, p_lt, u_tup, u_lt, u_rev, w_cons, w_nil, g_get, g_lst, bl, List.length_cons, List.length_nil, List.map_cons, List.map_nil, List.replicate_succ, List.replicate_zero, List.cons_append, List.nil_append, List.append_nil, List.set_cons_zero, List.set_cons_succ, List.getElem?_cons_zero, List.getElem?_cons_succ, scOf, List.reverse_cons, List.reverse_nil, Nat.reduceAdd, Nat.reduceLeDiff, Nat.reduceEqDiff, Bool.false_eq_true, if_true, if_false, reduceIte, decide_eq_true_eq, beq_iff_eq, bne_iff_ne, ne_eq, Bool.not_true, Bool.not_false, l_sp, l_sp', l_spn, l_dot, l_dot', l_dotn, l_E, l_E', l_En, l_I, l_I', l_In, l_F, l_F', l_Fn, l_D, l_D', l_Dn, l_G, l_G', l_Gn, l_L, l_L', l_Ln, l_A, l_A', l_An, l_q, l_q', l_qn, l_P, l_P', l_Pn, l_mi, l_mi', l_min, l_pl, l_pl', l_pln, l_sl, l_sl', l_sln, l_co, l_co', l_con, l_S, l_S', l_Sn, l_N, l_N', l_Nn, l_Z, l_Z', l_Zn, l_B, l_B', l_Bn, l_R, l_R', l_Rn, l_T, l_T', l_Tn, l_X, l_X', l_Xn, l_H, l_H', l_Hn, l_lp, l_lp', l_lpn, l_cm, l_cm', l_cmn, l_rp, l_rp', l_rpn, f_ret, f_exc, f_ite, g_suc, f_call, Int.reduceLE, Int.reduceNeg, Int.reduceLT, Bool.and_true, Bool.true_and, Bool.and_false, Bool.false_and, Bool.or_true, Bool.true_or, Bool.or_false, Bool.false_or, Nat.reduceBEq, Nat.reduceBNe, beq_self_eq_true, bne_self_eq_false, decide_true, decide_false, not_true_eq_false, not_false_eq_true, Bool.not_eq_true', beq_eq_false_iff_ne, decide_eq_false_iff_not, s1, s2]
      trivial
termination_by e => e
decreasing_by omega
end Mine

namespace Mine
open PySem PySem.W PyProof.Rows PySem.Calls PySem.SeqAt PySem.Builtin.Str
variable {t : Str}
theorem hear_exc (k : Nat) (n : Int) (h : Φ k .parse_format [.str t] = .exc n) : heardR k t = .ok n := by simp only [heardR, h]
theorem hear_ok (k : Nat) (v : PV) (h : Φ k .parse_format [.str t] = .ok v) : heardR k t = .ok (-1) := by simp only [heardR, h]
theorem agree (t : Str) (hN : t.length ≤ 2000) : ∃ n : Int, ∀ k, 60 ≤ k → heardR k t = .ok n ∧ Φ k .lawDue [.str t] = .ok (.sc (.int n)) := by
  have hZ : t.length ≤ sizeLine := by rw [sizeLine_eq]; omega
  have hB : Bi 0 = 49 := rfl
  have hV : ∀ k l, Φ (k + 2) .parse_format l = funR 1 2 (r_parse_format (Φ (k + 1))) l := fun _ _ => rfl
  have hP : ∀ k l, Φ (k + 1) .format_prefix l = funR 1 2 (r_format_prefix (Φ k)) l := fun _ _ => rfl
  have hLV : ∀ k l, Φ (k + 2) .lawDue l = funR 1 3 (r_lawDue (Φ (k + 1))) l := fun _ _ => rfl
  have dec : ∀ {k : Nat}, 60 ≤ k → ∃ k', k = k' + 2 ∧ 58 ≤ k' := fun {k} h => ⟨k - 2, by omega, by omega⟩
  obtain ⟨h, a1, a2, -, a3⟩ := blanks hN 0 (by omega) (by omega)
  have hh : 0 ≤ h := a1
  by_cases hc : cd t h = 40
  · have hhN := in_of hc (by decide)
    rcases rows hN 10 0 (by omega) rfl (h + 1) (by omega) (by omega) with ⟨n, a, j, n0, g⟩ | ⟨its, j, j1, j2, g⟩
    · refine ⟨n, fun k hk => ?_⟩
      obtain ⟨k, rfl, hk'⟩ := dec hk
      have g1 := (g k (by omega)).1
      have g2 := (g (k + 1) (by omega)).2
      simp only [Int.natCast_zero, Int.ofNat_zero] at g1 g2
      constructor
      · apply hear_exc
        rw [hV]; unfold r_parse_format
        simp only [e_C, e_Nil, e_Bin, e_Neg, e_Len, e_Ord, e_Max, e_Find, e_Idx, e_Slc, e_Cmp, e_tCmp, e_K, e_tK, e_Of, e_Not, e_And, e_Or, e_xAnd, e_xOr, e_xNot, e_Ite, e_aNil, e_aCons, e_Tup, e_Call, e_Assign, e_Unp, e_Swap, e_Aug, e_If, e_Ret, e_Cont, e_sNil, e_Cons, e_Raise, b_ok, b_exc, b_ite, t_ok, t_exc, t_ite, a_next, a_cont, a_ret, a_exc, a_ite, r_raise, k_true, k_sc, k_scn, n_add, n_sub, n_mul, n_neg, n_max, n_aug, n_find, m_eqi, m_nei, m_lt, m_gt, m_ge, m_eqn, m_eqs, m_nes, m_in, m_nin, m_isn, m_isi, p_tup, p_lt, u_tup, u_lt, u_rev, w_cons, w_nil, g_get, g_lst, bl, List.length_cons, List.length_nil, List.map_cons, List.map_nil, List.replicate_succ, List.replicate_zero, List.cons_append, List.nil_append, List.append_nil, List.set_cons_zero, List.set_cons_succ, List.getElem?_cons_zero, List.getElem?_cons_succ, scOf, List.reverse_cons, List.reverse_nil, Nat.reduceAdd, Nat.reduceLeDiff, Nat.reduceEqDiff, Bool.false_eq_true, if_true, if_false, reduceIte, decide_eq_true_eq, beq_iff_eq, bne_iff_ne, ne_eq, Bool.not_true, Bool.not_false, l_sp, l_sp', l_spn, l_dot, l_dot', l_dotn, l_E, l_E', l_En, l_I, l_I', l_In, l_F, l_F', l_Fn, l_D, l_D', l_Dn, l_G, l_G', l_Gn, l_L, l_L', l_Ln, l_A, l_A', l_An, l_q, l_q', l_qn, l_P, l_P', l_Pn, l_mi, l_mi', l_min, l_pl, l_pl', l_pln, l_sl, l_sl', l_sln, l_co, l_co', l_con, l_S, l_S', l_Sn, l_N, l_N', l_Nn, l_Z, l_Z', l_Zn, l_B, l_B', l_Bn, l_R, l_R', l_Rn, l_T, l_T', l_Tn, l_X, l_X', l_Xn, l_H, l_H', l_Hn, l_lp, l_lp', l_lpn, l_cm, l_cm', l_cmn, l_rp, l_rp', l_rpn, f_ret, f_exc, f_ite, g_suc, f_call, Int.reduceLE, Int.reduceNeg, Int.reduceLT, Bool.and_true, Bool.true_and, Bool.and_false, Bool.false_and, Bool.or_true, Bool.true_or, Bool.or_false, Bool.false_or, Nat.reduceBEq, Nat.reduceBNe, beq_self_eq_true, bne_self_eq_false, decide_true, decide_false, not_true_eq_false, not_false_eq_true, Bool.not_eq_true', beq_eq_false_iff_ne, decide_eq_false_iff_not, hP, r_format_prefix, (a3 k (by omega)).1, isat hN (k := k) (by omega) hh, hc, g1]
      · rw [hLV]; unfold r_lawDue
        simp only [e_C, e_Nil, e_Bin, e_Neg, e_Len, e_Ord, e_Max, e_Find, e_Idx, e_Slc, e_Cmp, e_tCmp, e_K, e_tK, e_Of, e_Not, e_And, e_Or, e_xAnd, e_xOr, e_xNot, e_Ite, e_aNil, e_aCons, e_Tup, e_Call, e_Assign, e_Unp, e_Swap, e_Aug, e_If, e_Ret, e_Cont, e_sNil, e_Cons, e_Raise, b_ok, b_exc, b_ite, t_ok, t_exc, t_ite, a_next, a_cont, a_ret, a_exc, a_ite, r_raise, k_true, k_sc, k_scn, n_add, n_sub, n_mul, n_neg, n_max, n_aug, n_find, m_eqi, m_nei, m_lt, m_gt, m_ge, m_eqn, m_eqs, m_nes, m_in, m_nin, m_isn, m_isi, p_tup, p_lt, u_tup, u_lt, u_rev, w_cons, w_nil, g_get, g_lst, bl, List.length_cons, List.length_nil, List.map_cons, List.map_nil, List.replicate_succ, List.replicate_zero, List.cons_append, List.nil_append, List.append_nil, List.set_cons_zero, List.set_cons_succ, List.getElem?_cons_zero, List.getElem?_cons_succ, scOf, List.reverse_cons, List.reverse_nil, Nat.reduceAdd, Nat.reduceLeDiff, Nat.reduceEqDiff, Bool.false_eq_true, if_true, if_false, reduceIte, decide_eq_true_eq, beq_iff_eq, bne_iff_ne, ne_eq, Bool.not_true, Bool.not_false, l_sp, l_sp', l_spn, l_dot, l_dot', l_dotn, l_E, l_E', l_En, l_I, l_I', l_In, l_F, l_F', l_Fn, l_D, l_D', l_Dn, l_G, l_G', l_Gn, l_L, l_L', l_Ln, l_A, l_A', l_An, l_q, l_q', l_qn, l_P, l_P', l_Pn, l_mi, l_mi', l_min, l_pl, l_pl', l_pln, l_sl, l_sl', l_sln, l_co, l_co', l_con, l_S, l_S', l_Sn, l_N, l_N', l_Nn, l_Z, l_Z', l_Zn, l_B, l_B', l_Bn, l_R, l_R', l_Rn, l_T, l_T', l_Tn, l_X, l_X', l_Xn, l_H, l_H', l_Hn, l_lp, l_lp', l_lpn, l_cm, l_cm', l_cmn, l_rp, l_rp', l_rpn, f_ret, f_exc, f_ite, g_suc, f_call, Int.reduceLE, Int.reduceNeg, Int.reduceLT, Bool.and_true, Bool.true_and, Bool.and_false, Bool.false_and, Bool.or_true, Bool.true_or, Bool.or_false, Bool.false_or, Nat.reduceBEq, Nat.reduceBNe, beq_self_eq_true, bne_self_eq_false, decide_true, decide_false, not_true_eq_false, not_false_eq_true, Bool.not_eq_true', beq_eq_false_iff_ne, decide_eq_false_iff_not, (a3 (k + 1) (by omega)).2, n_slc t h (h + 1) hh rfl hZ, hc, g2, n0]
    · obtain ⟨l, b1, b2, -, b3⟩ := blanks hN (j + 1) (by omega) (by omega)
      by_cases hl : l < t.length
      · refine ⟨l, fun k hk => ?_⟩
        obtain ⟨k, rfl, hk'⟩ := dec hk
        have g1 := (g k (by omega)).1
        have g2 := (g (k + 1) (by omega)).2
        simp only [Int.natCast_zero, Int.ofNat_zero] at g1 g2
        constructor
        · apply hear_exc
          rw [hV]; unfold r_parse_format
          simp only [e_C, e_Nil, e_Bin, e_Neg, e_Len, e_Ord, e_Max, e_Find, e_Idx, e_Slc, e_Cmp, e_tCmp, e_K, e_tK, e_Of, e_Not, e_And, e_Or, e_xAnd, e_xOr, e_xNot, e_Ite, e_aNil, e_aCons, e_Tup, e_Call, e_Assign, e_Unp, e_Swap, e_Aug, e_If, e_Ret, e_Cont, e_sNil, e_Cons, e_Raise, b_ok, b_exc, b_ite, t_ok, t_exc, t_ite, a_next, a_cont, a_ret, a_exc, a_ite, r_raise, k_true, k_sc, k_scn, n_add, n_sub, n_mul, n_neg, n_max, n_aug, n_find, m_eqi, m_nei, m_lt, m_gt, m_ge, m_eqn, m_eqs, m_nes, m_in, m_nin, m_isn, m_isi, p_tup, p_lt, u_tup, u_lt, u_rev, w_cons, w_nil, g_get, g_lst, bl, List.length_cons, List.length_nil, List.map_cons, List.map_nil, List.replicate_succ, List.replicate_zero, List.cons_append, List.nil_append, List.append_nil, List.set_cons_zero, List.set_cons_succ, List.getElem?_cons_zero, List.getElem?_cons_succ, scOf, List.reverse_cons, List.reverse_nil, Nat.reduceAdd, Nat.reduceLeDiff, Nat.reduceEqDiff, Bool.false_eq_true, if_true, if_false, reduceIte, decide_eq_true_eq, beq_iff_eq, bne_iff_ne, ne_eq, Bool.not_true, Bool.not_false, l_sp, l_sp', l_spn, l_dot, l_dot', l_dotn, l_E, l_E', l_En, l_I, l_I', l_In, l_F, l_F', l_Fn, l_D, l_D', l_Dn, l_G, l_G', l_Gn, l_L, l_L', l_Ln, l_A, l_A', l_An, l_q, l_q', l_qn, l_P, l_P', l_Pn, l_mi, l_mi', l_min, l_pl, l_pl', l_pln, l_sl, l_sl', l_sln, l_co, l_co', l_con, l_S, l_S', l_Sn, l_N, l_N', l_Nn, l_Z, l_Z', l_Zn, l_B, l_B', l_Bn, l_R, l_R', l_Rn, l_T, l_T', l_Tn, l_X, l_X', l_Xn, l_H, l_H', l_Hn, l_lp, l_lp', l_lpn, l_cm, l_cm', l_cmn, l_rp, l_rp', l_rpn, f_ret, f_exc, f_ite, g_suc, f_call, Int.reduceLE, Int.reduceNeg, Int.reduceLT, Bool.and_true, Bool.true_and, Bool.and_false, Bool.false_and, Bool.or_true, Bool.true_or, Bool.or_false, Bool.false_or, Nat.reduceBEq, Nat.reduceBNe, beq_self_eq_true, bne_self_eq_false, decide_true, decide_false, not_true_eq_false, not_false_eq_true, Bool.not_eq_true', beq_eq_false_iff_ne, decide_eq_false_iff_not, hP, r_format_prefix, (a3 k (by omega)).1, isat hN (k := k) (by omega) hh, hc, g1, (b3 (k + 1) (by omega)).1, n_len t hZ, hl]
        · rw [hLV]; unfold r_lawDue
          simp only [e_C, e_Nil, e_Bin, e_Neg, e_Len, e_Ord, e_Max, e_Find, e_Idx, e_Slc, e_Cmp, e_tCmp, e_K, e_tK, e_Of, e_Not, e_And, e_Or, e_xAnd, e_xOr, e_xNot, e_Ite, e_aNil, e_aCons, e_Tup, e_Call, e_Assign, e_Unp, e_Swap, e_Aug, e_If, e_Ret, e_Cont, e_sNil, e_Cons, e_Raise, b_ok, b_exc, b_ite, t_ok, t_exc, t_ite, a_next, a_cont, a_ret, a_exc, a_ite, r_raise, k_true, k_sc, k_scn, n_add, n_sub, n_mul, n_neg, n_max, n_aug, n_find, m_eqi, m_nei, m_lt, m_gt, m_ge, m_eqn, m_eqs, m_nes, m_in, m_nin, m_isn, m_isi, p_tup, p_lt, u_tup, u_lt, u_rev, w_cons, w_nil, g_get, g_lst, bl, List.length_cons, List.length_nil, List.map_cons, List.map_nil, List.replicate_succ, List.replicate_zero, List.cons_append, List.nil_append, List.append_nil, List.set_cons_zero, List.set_cons_succ, List.getElem?_cons_zero, List.getElem?_cons_succ, scOf, List.reverse_cons, List.reverse_nil, Nat.reduceAdd, Nat.reduceLeDiff, Nat.reduceEqDiff, Bool.false_eq_true, if_true, if_false, reduceIte, decide_eq_true_eq, beq_iff_eq, bne_iff_ne, ne_eq, Bool.not_true, Bool.not_false, l_sp, l_sp', l_spn, l_dot, l_dot', l_dotn, l_E, l_E', l_En, l_I, l_I', l_In, l_F, l_F', l_Fn, l_D, l_D', l_Dn, l_G, l_G', l_Gn, l_L, l_L', l_Ln, l_A, l_A', l_An, l_q, l_q', l_qn, l_P, l_P', l_Pn, l_mi, l_mi', l_min, l_pl, l_pl', l_pln, l_sl, l_sl', l_sln, l_co, l_co', l_con, l_S, l_S', l_Sn, l_N, l_N', l_Nn, l_Z, l_Z', l_Zn, l_B, l_B', l_Bn, l_R, l_R', l_Rn, l_T, l_T', l_Tn, l_X, l_X', l_Xn, l_H, l_H', l_Hn, l_lp, l_lp', l_lpn, l_cm, l_cm', l_cmn, l_rp, l_rp', l_rpn, f_ret, f_exc, f_ite, g_suc, f_call, Int.reduceLE, Int.reduceNeg, Int.reduceLT, Bool.and_true, Bool.true_and, Bool.and_false, Bool.false_and, Bool.or_true, Bool.true_or, Bool.or_false, Bool.false_or, Nat.reduceBEq, Nat.reduceBNe, beq_self_eq_true, bne_self_eq_false, decide_true, decide_false, not_true_eq_false, not_false_eq_true, Bool.not_eq_true', beq_eq_false_iff_ne, decide_eq_false_iff_not, (a3 (k + 1) (by omega)).2, n_slc t h (h + 1) hh rfl hZ, hc, g2, (b3 (k + 1) (by omega)).2, n_len t hZ, hl]
      · refine ⟨-1, fun k hk => ?_⟩
        obtain ⟨k, rfl, hk'⟩ := dec hk
        have g1 := (g k (by omega)).1
        have g2 := (g (k + 1) (by omega)).2
        simp only [Int.natCast_zero, Int.ofNat_zero] at g1 g2
        constructor
        · apply hear_ok (v := .lst its)
          rw [hV]; unfold r_parse_format
          simp only [e_C, e_Nil, e_Bin, e_Neg, e_Len, e_Ord, e_Max, e_Find, e_Idx, e_Slc, e_Cmp, e_tCmp, e_K, e_tK, e_Of, e_Not, e_And, e_Or, e_xAnd, e_xOr, e_xNot, e_Ite, e_aNil, e_aCons, e_Tup, e_Call, e_Assign, e_Unp, e_Swap, e_Aug, e_If, e_Ret, e_Cont, e_sNil, e_Cons, e_Raise, b_ok, b_exc, b_ite, t_ok, t_exc, t_ite, a_next, a_cont, a_ret, a_exc, a_ite, r_raise, k_true, k_sc, k_scn, n_add, n_sub, n_mul, n_neg, n_max, n_aug, n_find, m_eqi, m_nei, m_lt, m_gt, m_ge, m_eqn, m_eqs, m_nes, m_in, m_nin, m_isn, m_isi, p_tup, p_lt, u_tup, u_lt, u_rev, w_cons, w_nil, g_get, g_lst, bl, List.length_cons, List.length_nil, List.map_cons, List.map_nil, List.replicate_succ, List.replicate_zero, List.cons_append, List.nil_append, List.append_nil, List.set_cons_zero, List.set_cons_succ, List.getElem?_cons_zero, List.getElem?_cons_succ, scOf, List.reverse_cons, List.reverse_nil, Nat.reduceAdd, Nat.reduceLeDiff, Nat.reduceEqDiff, Bool.false_eq_true, if_true, if_false, reduceIte, decide_eq_true_eq, beq_iff_eq, bne_iff_ne, ne_eq, Bool.not_true, Bool.not_false, l_sp, l_sp', l_spn, l_dot, l_dot', l_dotn, l_E, l_E', l_En, l_I, l_I', l_In, l_F, l_F', l_Fn, l_D, l_D', l_Dn, l_G, l_G', l_Gn, l_L, l_L', l_Ln, l_A, l_A', l_An, l_q, l_q', l_qn, l_P, l_P', l_Pn, l_mi, l_mi', l_min, l_pl, l_pl', l_pln, l_sl, l_sl', l_sln, l_co, l_co', l_con, l_S, l_S', l_Sn, l_N, l_N', l_Nn, l_Z, l_Z', l_Zn, l_B, l_B', l_Bn, l_R, l_R', l_Rn, l_T, l_T', l_Tn, l_X, l_X', l_Xn, l_H, l_H', l_Hn, l_lp, l_lp', l_lpn, l_cm, l_cm', l_cmn, l_rp, l_rp', l_rpn, f_ret, f_exc, f_ite, g_suc, f_call, Int.reduceLE, Int.reduceNeg, Int.reduceLT, Bool.and_true, Bool.true_and, Bool.and_false, Bool.false_and, Bool.or_true, Bool.true_or, Bool.or_false, Bool.false_or, Nat.reduceBEq, Nat.reduceBNe, beq_self_eq_true, bne_self_eq_false, decide_true, decide_false, not_true_eq_false, not_false_eq_true, Bool.not_eq_true', beq_eq_false_iff_ne, decide_eq_false_iff_not, hP, r_format_prefix, (a3 k (by omega)).1, isat hN (k := k) (by omega) hh, hc, g1, (b3 (k + 1) (by omega)).1, n_len t hZ, hl]
        · rw [hLV]; unfold r_lawDue
          simp only [e_C, e_Nil, e_Bin, e_Neg, e_Len, e_Ord, e_Max, e_Find, e_Idx, e_Slc, e_Cmp, e_tCmp, e_K, e_tK, e_Of, e_Not, e_And, e_Or, e_xAnd, e_xOr, e_xNot, e_Ite, e_aNil, e_aCons, e_Tup, e_Call, e_Assign, e_Unp, e_Swap, e_Aug, e_If, e_Ret, e_Cont, e_sNil, e_Cons, e_Raise, b_ok, b_exc, b_ite, t_ok, t_exc, t_ite, a_next, a_cont, a_ret, a_exc, a_ite, r_raise, k_true, k_sc, k_scn, n_add, n_sub, n_mul, n_neg, n_max, n_aug, n_find, m_eqi, m_nei, m_lt, m_gt, m_ge, m_eqn, m_eqs, m_nes, m_in, m_nin, m_isn, m_isi, p_tup, p_lt, u_tup, u_lt, u_rev, w_cons, w_nil, g_get, g_lst, bl, List.length_cons, List.length_nil, List.map_cons, List.map_nil, List.replicate_succ, List.replicate_zero, List.cons_append, List.nil_append, List.append_nil, List.set_cons_zero, List.set_cons_succ, List.getElem?_cons_zero, List.getElem?_cons_succ, scOf, List.reverse_cons, List.reverse_nil, Nat.reduceAdd, Nat.reduceLeDiff, Nat.reduceEqDiff, Bool.false_eq_true, if_true, if_false, reduceIte, decide_eq_true_eq, beq_iff_eq, bne_iff_ne, ne_eq, Bool.not_true, Bool.not_false, l_sp, l_sp', l_spn, l_dot, l_dot', l_dotn, l_E, l_E', l_En, l_I, l_I', l_In, l_F, l_F', l_Fn, l_D, l_D', l_Dn, l_G, l_G', l_Gn, l_L, l_L', l_Ln, l_A, l_A', l_An, l_q, l_q', l_qn, l_P, l_P', l_Pn, l_mi, l_mi', l_min, l_pl, l_pl', l_pln, l_sl, l_sl', l_sln, l_co, l_co', l_con, l_S, l_S', l_Sn, l_N, l_N', l_Nn, l_Z, l_Z', l_Zn, l_B, l_B', l_Bn, l_R, l_R', l_Rn, l_T, l_T', l_Tn, l_X, l_X', l_Xn, l_H, l_H', l_Hn, l_lp, l_lp', l_lpn, l_cm, l_cm', l_cmn, l_rp, l_rp', l_rpn, f_ret, f_exc, f_ite, g_suc, f_call, Int.reduceLE, Int.reduceNeg, Int.reduceLT, Bool.and_true, Bool.true_and, Bool.and_false, Bool.false_and, Bool.or_true, Bool.true_or, Bool.or_false, Bool.false_or, Nat.reduceBEq, Nat.reduceBNe, beq_self_eq_true, bne_self_eq_false, decide_true, decide_false, not_true_eq_false, not_false_eq_true, Bool.not_eq_true', beq_eq_false_iff_ne, decide_eq_false_iff_not, (a3 (k + 1) (by omega)).2, n_slc t h (h + 1) hh rfl hZ, hc, g2, (b3 (k + 1) (by omega)).2, n_len t hZ, hl]
  · refine ⟨h, fun k hk => ?_⟩
    obtain ⟨k, rfl, hk'⟩ := dec hk
    have hc' := beq_eq_false_iff_ne.mpr hc
    constructor
    · apply hear_exc
      rw [hV]; unfold r_parse_format
      simp only [e_C, e_Nil, e_Bin, e_Neg, e_Len, e_Ord, e_Max, e_Find, e_Idx, e_Slc, e_Cmp, e_tCmp, e_K, e_tK, e_Of, e_Not, e_And, e_Or, e_xAnd, e_xOr, e_xNot, e_Ite, e_aNil, e_aCons, e_Tup, e_Call, e_Assign, e_Unp, e_Swap, e_Aug, e_If, e_Ret, e_Cont, e_sNil, e_Cons, e_Raise, b_ok, b_exc, b_ite, t_ok, t_exc, t_ite, a_next, a_cont, a_ret, a_exc, a_ite, r_raise, k_true, k_sc, k_scn, n_add, n_sub, n_mul, n_neg, n_max, n_aug, n_find, m_eqi, m_nei, m_lt, m_gt, m_ge, m_eqn, m_eqs, m_nes, m_in, m_nin, m_isn, m_isi, p_tup, p_lt, u_tup, u_lt, u_rev, w_cons, w_nil, g_get, g_lst, bl, List.length_cons, List.length_nil, List.map_cons, List.map_nil, List.replicate_succ, List.replicate_zero, List.cons_append, List.nil_append, List.append_nil, List.set_cons_zero, List.set_cons_succ, List.getElem?_cons_zero, List.getElem?_cons_succ, scOf, List.reverse_cons, List.reverse_nil, Nat.reduceAdd, Nat.reduceLeDiff, Nat.reduceEqDiff, Bool.false_eq_true, if_true, if_false, reduceIte, decide_eq_true_eq, beq_iff_eq, bne_iff_ne, ne_eq, Bool.not_true, Bool.not_false, l_sp, l_sp', l_spn, l_dot, l_dot', l_dotn, l_E, l_E', l_En, l_I, l_I', l_In, l_F, l_F', l_Fn, l_D, l_D', l_Dn, l_G, l_G', l_Gn, l_L, l_L', l_Ln, l_A, l_A', l_An, l_q, l_q', l_qn, l_P, l_P', l_Pn, l_mi, l_mi', l_min, l_pl, l_pl', l_pln, l_sl, l_sl', l_sln, l_co, l_co', l_con, l_S, l_S', l_Sn, l_N, l_N', l_Nn, l_Z, l_Z', l_Zn, l_B, l_B', l_Bn, l_R, l_R', l_Rn, l_T, l_T', l_Tn, l_X, l_X', l_Xn, l_H, l_H', l_Hn, l_lp, l_lp', l_lpn, l_cm, l_cm', l_cmn, l_rp, l_rp', l_rpn, f_ret, f_exc, f_ite, g_suc, f_call, Int.reduceLE, Int.reduceNeg, Int.reduceLT, Bool.and_true, Bool.true_and, Bool.and_false, Bool.false_and, Bool.or_true, Bool.true_or, Bool.or_false, Bool.false_or, Nat.reduceBEq, Nat.reduceBNe, beq_self_eq_true, bne_self_eq_false, decide_true, decide_false, not_true_eq_false, not_false_eq_true, Bool.not_eq_true', beq_eq_false_iff_ne, decide_eq_false_iff_not, hP, r_format_prefix, (a3 k (by omega)).1, isat hN (k := k) (by omega) hh, hc, hc']
    · rw [hLV]; unfold r_lawDue
      simp only [e_C, e_Nil, e_Bin, e_Neg, e_Len, e_Ord, e_Max, e_Find, e_Idx, e_Slc, e_Cmp, e_tCmp, e_K, e_tK, e_Of, e_Not, e_And, e_Or, e_xAnd, e_xOr, e_xNot, e_Ite, e_aNil, e_aCons, e_Tup, e_Call, e_Assign, e_Unp, e_Swap, e_Aug, e_If, e_Ret, e_Cont, e_sNil, e_Cons, e_Raise, b_ok, b_exc, b_ite, t_ok, t_exc, t_ite, a_next, a_cont, a_ret, a_exc, a_ite, r_raise, k_true, k_sc, k_scn, n_add, n_sub, n_mul, n_neg, n_max, n_aug, n_find, m_eqi, m_nei, m_lt, m_gt, m_ge, m_eqn, m_eqs, m_nes, m_in, m_nin, m_isn, m_isi, p_tup, p_lt, u_tup, u_lt, u_rev, w_cons, w_nil, g_get, g_lst, bl, List.length_cons, List.length_nil, List.map_cons, List.map_nil, List.replicate_succ, List.replicate_zero, List.cons_append, List.nil_append, List.append_nil, List.set_cons_zero, List.set_cons_succ, List.getElem?_cons_zero, List.getElem?_cons_succ, scOf, List.reverse_cons, List.reverse_nil, Nat.reduceAdd, Nat.reduceLeDiff, Nat.reduceEqDiff, Bool.false_eq_true, if_true, if_false, reduceIte, decide_eq_true_eq, beq_iff_eq, bne_iff_ne, ne_eq, Bool.not_true, Bool.not_false, l_sp, l_sp', l_spn, l_dot, l_dot', l_dotn, l_E, l_E', l_En, l_I, l_I', l_In, l_F, l_F', l_Fn, l_D, l_D', l_Dn, l_G, l_G', l_Gn, l_L, l_L', l_Ln, l_A, l_A', l_An, l_q, l_q', l_qn, l_P, l_P', l_Pn, l_mi, l_mi', l_min, l_pl, l_pl', l_pln, l_sl, l_sl', l_sln, l_co, l_co', l_con, l_S, l_S', l_Sn, l_N, l_N', l_Nn, l_Z, l_Z', l_Zn, l_B, l_B', l_Bn, l_R, l_R', l_Rn, l_T, l_T', l_Tn, l_X, l_X', l_Xn, l_H, l_H', l_Hn, l_lp, l_lp', l_lpn, l_cm, l_cm', l_cmn, l_rp, l_rp', l_rpn, f_ret, f_exc, f_ite, g_suc, f_call, Int.reduceLE, Int.reduceNeg, Int.reduceLT, Bool.and_true, Bool.true_and, Bool.and_false, Bool.false_and, Bool.or_true, Bool.true_or, Bool.or_false, Bool.false_or, Nat.reduceBEq, Nat.reduceBNe, beq_self_eq_true, bne_self_eq_false, decide_true, decide_false, not_true_eq_false, not_false_eq_true, Bool.not_eq_true', beq_eq_false_iff_ne, decide_eq_false_iff_not, (a3 (k + 1) (by omega)).2, n_slc t h (h + 1) hh rfl hZ, hc]
end Mine

namespace Mine
open PySem PySem.W PyProof.Rows PySem.Calls PySem.SeqAt
variable {G : Gx} {P : Params}

theorem call_any {h0 : Heap} {f : Addr} {oc : Value} {od an : Option Addr} {osl : Array (Option Value)} {name qual : Str} {params : Arguments} {body : List Stmt} {scope : Scope} {dV kV doc pm cdv ct : Value} {binds : List (Str × Value)} {A : Around} {s : Shared} {vs : List Value} {Q E : Value → Shared → Prop}
    (ho : G.K.lookup f = some ⟨oc, od, .func (fnOf name qual params body scope dV kV doc pm an cdv ct), osl⟩) (hcd : codeIn G.K cdv qual = true) (hp : bindArgs (fnOf name qual params body scope dV kV doc pm an cdv ct) ⟨vs, []⟩ = pure binds)
    (hloc : (binds.all fun y => decide (scope.names.lookup y.1 = some .local)) = true) (hk : scope.kind = .function) (hco : scope.isCoroutine = false) (hgen : scope.isGenerator = false)
    (hcell : ∀ x ∈ scope.names, x.2 ≠ .cell) (kb : G.base.StaysIn h0) (k0 : h0.StaysIn s.heap) (hsz : h0.objs.size ≤ s.heap.objs.size) (hroom : A.depth < recursionLimit)
    (h : ∀ h₁ tk L, Fr h0 L h₁ (fun y => binds.reverse.lookup y) → s.heap.StaysIn h₁ → L = s.heap.objs.size →
      wpAny (model G.prog G.w) (A.deeper (envOf qual scope L f cdv)) (execs body (envOf qual scope L f cdv)) (fun fl s' => Q (match fl with | .ret v => v | _ => .none) s') (fun _ _ => False) { s with heap := h₁, toks := tk }) :
    wpAny (model G.prog G.w) A (call (.ref f) vs) Q E s := by
  have kb' := stays_trans kb k0
  refine wpAny_call (codeAny_call_def (fd := fnOf name qual params body scope dV kV doc pm an cdv ct) (body := body) (binds := binds) hroom (kb' _ _ (G.kin _ _ ho)) rfl (G.top.nolimit.keeps kb') (codeRec_of (G.kin.keeps kb') hcd) rfl
      (BindsTo.of_eq hp) hcell (locs hloc) (fun h₁ hns hk₁ => ?_) hco hgen hk)
  exact wpAny_mono (h h₁ _ _ ⟨hns, fun b o hb => hk₁ b o (k0 b o hb), hsz⟩ hk₁ rfl) (fun fl s' q => q) fun _ _ q => q.elim

local macro_rules | `(tactic| walk_at "eval Name") => `(tactic| (k_here; (with_reducible rename Fr _ _ _ _ => kF); refine nameX_B (cl := []) kF (by assumption) (by assumption) (by kernel_rfl) boot_len (by decide) ?_))

theorem draw (hG : Gp G P) {A : Around} {s : Shared} {d Dc : Addr} {o : Obj} {ys : List Value} {ns : List Int} {n many : Int} {t3 tm : Tok} {Q E : Value → Shared → Prop} (kb : G.base.StaysIn s.heap)
    (hdo : s.heap.get? d = some o) (hD : s.heap.get? Dc = some (LCg.lst ys)) (hne : (@Ne Nat d Dc)) (b1 : G.base.get? d = none) (b2 : G.base.get? Dc = none)
    (ho : Obj.IsDictOf (PySem.strKind G.prog G.w) o ([(Str.ofString "cells", .ref Dc), (Str.ofString "at", .int n t3)])) (hI : IntsAre ys ns) (hlen : ns.length ≤ 24) (hb : ∀ x ∈ ns, 0 ≤ x ∧ x < 10 ^ 9) (n0 : 0 ≤ n) (n1 : n ≤ 1000) (m0 : 0 < many) (m1 : many ≤ 5000) (hroom : A.depth < recursionLimit)
    (h : ∀ r tok o' h' tk' t', 0 ≤ r → r < many → (∀ b ob, b ≠ d → s.heap.get? b = some ob → h'.get? b = some ob) → h'.get? d = some o' → Obj.IsDictOf (PySem.strKind G.prog G.w) o' [(Str.ofString "cells", .ref Dc), (Str.ofString "at", .int (n + 1) t')] → Q (.int r tok) { s with heap := h', toks := tk' }) :
    wpAny (model G.prog G.w) A (call (.ref 201) [.ref d, .int many tm]) Q E s := by
  have h0 : G.base.StaysIn (hideAll s.heap [Dc, d]) := fun b o' hb' => hideAll_get _ (kb b o' hb') (by
    intro q
    rcases List.mem_cons.mp q with q | q
    · rw [q, b2] at hb'; cases hb'
    · rw [List.mem_singleton.mp q, b1] at hb'; cases hb')
  have hk0 : (hideAll s.heap [Dc, d]).StaysIn s.heap := fun b o' hb' => Heap.of_hide (Heap.of_hide hb')
  refine call_any (h0 := hideAll s.heap [Dc, d]) (binds := [("deck", .ref d), ("many", .int many tm)]) (by rw [hG.K]; exact rfl) (by rw [hG.K]; kernel_rfl) rfl (by kernel_rfl) rfl rfl rfl (by decide +kernel) h0 hk0 (by rw [hideAll_size]; exact Nat.le_refl _) hroom (fun h₁ tk L F k₁ hL => ?_)
  have KX : (hd.heap_39 P).In (hideAll s.heap [Dc, d]) := hG.K ▸ G.kin.keeps h0
  have T := G.top.keeps h0
  have N : News (hideAll s.heap [Dc, d]) L h₁ [(Dc, LCg.lst ys), (d, o)] := by
    intro p hp
    rcases List.mem_cons.mp hp with rfl | hp
    · exact ⟨k₁ _ _ hD, by rw [hL]; exact Nat.ne_of_lt (Heap.lt_size hD), hideAll_none _ (by simp)⟩
    · obtain rfl := List.mem_singleton.mp hp
      exact ⟨k₁ _ _ hdo, by rw [hL]; exact Nat.ne_of_lt (Heap.lt_size hdo), hideAll_none _ (by simp)⟩
  have hne2 : (@Ne Nat Dc d) := Ne.symm hne
  k_steps
  all_goals (
    rename Fr _ _ _ _ => F'
    rename News _ _ _ _ => N'
    rename Obj.IsDictOf _ _ _ => D'
    refine h _ _ _ _ _ _ (Int.fmod_nonneg_of_pos _ m0) (Int.fmod_lt_of_pos _ m0) (fun b ob hb hbo => ?_) (N' _ (by simp; exact .inr rfl)).1 D'
    by_cases hbd : b = Dc
    · subst hbd
      rw [hD] at hbo; cases hbo
      exact (N' _ (.head _)).1
    · exact F'.keep _ _ (hideAll_get _ hbo (by simp [hbd, hb])))
end Mine

namespace Mine
open PySem PySem.W PyProof.Rows PySem.Calls PySem.SeqAt
variable {G : Gx} {P : Params}
noncomputable abbrev deckIs (G : Gx) (o : Obj) (Dc : Addr) (n : Int) (t : Tok) : Prop := Obj.IsDictOf (PySem.strKind G.prog G.w) o [(Str.ofString "cells", .ref Dc), (Str.ofString "at", .int n t)]

theorem draw_K (hG : Gp G P) {A : Around} {s : Shared} {h₀ : Heap} {L : Addr} {m : Str → Option Value} {news : List (Addr × Obj)} {g : Obj → List (Addr × Obj)} {d Dc : Addr} {o : Obj} {ys : List Value} {ns : List Int} {n many : Int} {t3 tm : Tok} {Q E : Value → Shared → Prop}
    (F : Fr h₀ L s.heap m) (N : News h₀ L s.heap news) (U : UpdF d o news g) (hDm : (Dc, LCg.lst ys) ∈ news) (kb : G.base.StaysIn h₀) (hne : (@Ne Nat d Dc)) (hI : IntsAre ys ns) (ho : deckIs G o Dc n t3) (hroom : A.depth < recursionLimit)
    (hlen : ns.length ≤ 24) (hb : ∀ x ∈ ns, 0 ≤ x ∧ x < 10 ^ 9) (n0 : 0 ≤ n) (n1 : n ≤ 1000) (m0 : 0 < many) (m1 : many ≤ 5000) 
    (k : ∀ h' o' tk' r tok t', Fr h₀ L h' m → News h₀ L h' (g o') → deckIs G o' Dc (n + 1) t' → 0 ≤ r → r < many → Q (.int r tok) { s with heap := h', toks := tk' }) :
    wpAny (model G.prog G.w) A (call (.ref 201) [.ref d, .int many tm]) Q E s := by
  obtain ⟨pre, post, rfl, hg, u1, u2⟩ := U.split
  have hd := N (d, o) (List.mem_append_right _ (.head _))
  have hD := N _ hDm
  refine draw hG (stays_trans kb F.keep) hd.1 hD.1 hne (fresh_up kb hd.2.2) (fresh_up kb hD.2.2) ho hI hlen hb n0 n1 m0 m1 hroom fun r tok o' h' tk' t' r0 r1 hk hd' D' => ?_
  refine k h' o' tk' r tok t' ⟨F.ns.at' fun ob e => hk _ _ (Ne.symm hd.2.1) e, fun b ob e => hk b ob (fun q => by rw [q, hd.2.2] at e; cases e) (F.keep b ob e), F.above⟩ ?_ D' r0 r1
  rw [hg]
  intro p hp
  rcases List.mem_append.mp hp with hp | hp
  · have := N p (List.mem_append_left _ hp)
    exact ⟨hk _ _ (u1 p hp) this.1, this.2⟩
  · rcases List.mem_cons.mp hp with rfl | hp
    · exact ⟨hd', hd.2⟩
    · have := N p (List.mem_append_right _ (.tail _ hp))
      exact ⟨hk _ _ (u2 p hp) this.1, this.2⟩

theorem call_cell {h0 : Heap} {f : Addr} {oc : Value} {od an : Option Addr} {osl : Array (Option Value)} {name qual : Str} {params : Arguments} {body : List Stmt} {scope : Scope} {dV kV doc pm cdv ct : Value} {binds : List (Str × Value)} {A : Around} {s : Shared} {vs : List Value} {Q E : Value → Shared → Prop}
    (ho : G.K.lookup f = some ⟨oc, od, .func (fnOf name qual params body scope dV kV doc pm an cdv ct), osl⟩) (hcd : codeIn G.K cdv qual = true) (hp : bindArgs (fnOf name qual params body scope dV kV doc pm an cdv ct) ⟨vs, []⟩ = pure binds)
    (hkind : (binds.all fun y => scope.names.lookup y.1 == some .local || scope.names.lookup y.1 == some .cell) = true) (hnd : ((cellsFrom 0 scope.names []).map (·.1)).Nodup) (hk : scope.kind = .function) (hco : scope.isCoroutine = false) (hgen : scope.isGenerator = false)
    (kb : G.base.StaysIn h0) (k0 : h0.StaysIn s.heap) (hsz : h0.objs.size ≤ s.heap.objs.size) (hroom : A.depth < recursionLimit)
    (h : ∀ h₁ tk L cells, Fr h0 L h₁ (bindL (envOfC qual scope L f cdv).kindOf binds fun _ => none) → News s.heap L h₁ cells → CellsAre (bindC (envOfC qual scope L f cdv).kindOf binds fun _ => none) (cellsFrom (L + 1) scope.names []) cells → s.heap.StaysIn h₁ → L = s.heap.objs.size →
      wpAny (model G.prog G.w) (A.deeper (envOfC qual scope L f cdv)) (execs body (envOfC qual scope L f cdv)) (fun fl s' => Q (match fl with | .ret v => v | _ => .none) s') (fun _ _ => False) { s with heap := h₁, toks := tk }) :
    wpAny (model G.prog G.w) A (call (.ref f) vs) Q E s := by
  have kb' := stays_trans kb k0
  refine wpAny_call (codeAny_call_function hroom (kb' _ _ (G.kin _ _ ho)) rfl hco hgen rfl (codeRec_of (G.kin.keeps kb') hcd) (BindsTo.of_eq hp _ _ _ _ ?_))
  refine wpAny_newFunctionEnv_cells hk (kindsX hkind _) fun env' he s' x => ?_
  subst he
  refine ⟨(G.top.nolimit.keeps kb').keeps x.toInCall.keep, codeAny_func ?_⟩
  obtain ⟨h₁, tk, rfl, _⟩ := x.done
  have hk₁ := x.toInCall.keep
  obtain ⟨cells, NC, Y⟩ := Cl.news (h₀ := s.heap) (Nat.le_refl _) fun n c hm => ⟨x.cell n c (lookup_of_mem_nodup (cellsFrom_names scope.names 0 (s.heap.objs.size + 1) [] [] rfl ▸ hnd) hm), x.above n c hm⟩
  exact wpAny_mono (h h₁ tk s.heap.objs.size cells ⟨x.toInCall.ns, fun b o e => hk₁ b o (k0 b o e), hsz⟩ NC Y hk₁ rfl) (fun fl s' q => q) fun _ _ y => y.elim
end Mine

namespace Mine
open PySem PySem.W PyProof.Rows PySem.Calls PySem.SeqAt
variable {G : Gx} {P : Params}

theorem strs_snoc {y : Str} {t : Tok} : ∀ {vs : List Value} {ys : List Str}, StrsAre vs ys → StrsAre (vs ++ [.str y t]) (ys ++ [y])
  | _, _, .nil => .cons y t .nil
  | _, _, .cons z u r => .cons z u (strs_snoc r)
noncomputable def DrawnStr (G : Gx) (c : Addr) (oc : Obj) (Dc : Addr) (ys : List Value) (d : Addr) (n : Int) (y : Value) (news' : List (Addr × Obj)) : Prop :=
  ∃ o' t x tok, news' = [(c, oc), (Dc, LCg.lst ys), (d, o')] ∧ deckIs G o' Dc (n + 1) t ∧ y = .str x tok ∧ x.length ≤ 13

theorem deck_rest {A : Around} {h₀ : Heap} {L : Addr} {m : Str → Option Value} {env : Env} {elt : Expr} {x : Str} {scope : Scope} {cl : List (Str × Addr)} {s : Shared} {P : Nat → Value → Prop} {Fin : List Value → List (Addr × Obj) → Prop}
    {c Dc d : Addr} {oc o : Obj} {ys : List Value} {n : Nat} {n0 : Int} {t3 : Tok} (D : deckIs G o Dc n0 t3)
    (turn : ∀ v I oI C oC D m₂ ys' h tk (E' : Value → Shared → Prop) o t3 nn, n0 ≤ nn → nn < n0 + n → deckIs G o Dc nn t3 → LCg.NsObj oC m₂ → m₂ x = some v → Fr h₀ L h m → News h₀ L h ((I, oI) :: (C, oC) :: (D, LCg.lst ys') :: [(c, oc), (Dc, LCg.lst ys), (d, o)]) → LCg.Off3 I C D [(c, oc), (Dc, LCg.lst ys), (d, o)] → ((@Ne Nat I C) ∧ (@Ne Nat I D) ∧ (@Ne Nat C D)) →
      wpAny (model G.prog G.w) A (eval elt (compEnvC scope cl C env)) (LCg.CompEnd h₀ L m { s with heap := h, toks := tk } I oI C oC D (LCg.lst ys') (fun _ => True) (DrawnStr G c oc Dc ys d nn)) E' { s with heap := h, toks := tk })
    (fin : ∀ ys' xs o' t, StrsAre ys' xs → xs.length = n → (∀ y ∈ xs, y.length ≤ 13) → deckIs G o' Dc (n0 + n) t → Fin ys' [(c, oc), (Dc, LCg.lst ys), (d, o')]) :
    LCg.CompRest G.prog G.w A h₀ L m env elt x scope cl s (fun _ => True) P Fin n 0 [] [(c, oc), (Dc, LCg.lst ys), (d, o)] := by
  have key : ∀ (j i : Nat) (ys' : List Value) (xs : List Str) (o : Obj) (t3 : Tok), i + j = n → StrsAre ys' xs → xs.length = i → (∀ y ∈ xs, y.length ≤ 13) → deckIs G o Dc (n0 + i) t3 →
      LCg.CompRest G.prog G.w A h₀ L m env elt x scope cl s (fun _ => True) P Fin j i ys' [(c, oc), (Dc, LCg.lst ys), (d, o)] := by
    intro j
    induction j with
    | zero =>
      intro i ys' xs o t3 hi hy hl hx D
      have e : i = n := by omega
      subst e
      exact LCg.CompRest.zero (fin ys' xs o t3 hy hl hx D)
    | succ j ih =>
      intro i ys' xs o t3 hi hy hl hx D
      refine LCg.CompRest.succ ?_
      intro v I oI C oC D' m₂ h tk E' hv hC hmx F N off ne
      refine wpAny_mono (turn v I oI C oC D' m₂ ys' h tk E' o t3 (n0 + i) (by omega) (by omega) D hC hmx F N off ne) (fun y s₂ hq => ?_) fun _ _ e => e
      obtain ⟨h', tk', nw, e, F', N', off', hS, o', t', z, tok, rfl, D2, rfl, hz⟩ := hq
      refine ⟨h', tk', _, e, F', N', off', trivial, ?_⟩
      refine ih (i + 1) _ (xs ++ [z]) o' t' (by omega) (strs_snoc hy) (by simp [hl]) (fun y hy' => ?_) (by rw [show n0 + ((i + 1 : Nat) : Int) = n0 + i + 1 by omega]; exact D2)
      rcases List.mem_append.mp hy' with q | q
      · exact hx y q
      · rw [List.mem_singleton.mp q]; exact hz
  exact key n 0 [] [] o t3 (by omega) .nil rfl (fun _ h => nomatch h) (by simpa using D)

theorem sum_le : ∀ {xs : List Str}, (∀ y ∈ xs, y.length ≤ 13) → (xs.map (·.length)).sum ≤ 13 * xs.length
  | [], _ => by simp
  | x :: xs, h => by
    have := sum_le (xs := xs) fun y hy => h y (List.mem_cons_of_mem _ hy)
    have := h x List.mem_cons_self
    simp only [List.map_cons, List.sum_cons, List.length_cons]
    omega
theorem join_K {prog : Program} {w : World} {A : Around} {E : Value → Shared → Prop} {s : Shared} {h₀ : Heap} {L : Addr} {news : List (Addr × Obj)} {x : Str} {t : Tok} {Q : Value → Shared → Prop} {D : Addr} {vs : List Value} {xs : List Str} (N : News h₀ L s.heap news) (hm : (D, LCg.lst vs) ∈ news) (hi : StrsAre vs xs)
    (hx : ∀ y ∈ xs, y.length ≤ 13) (hl : xs.length ≤ 9) (hs : x.length ≤ 4)
    (h : ∀ z t' k, z.length ≤ 520 → Q (.str z t') { s with toks := k }) : wpAny (model prog w) A (call (.builtin "str.join") [.str x t, .ref D]) Q E s := by
  have hsum := sum_le hx
  have hW : (xs.map (·.length)).sum + xs.length ≤ 127 := by omega
  refine join_listW (items := vs.toArray) ⟨_, (N _ hm).1, rfl, _, rfl⟩ hi (by omega) (by omega) fun t' k => h _ t' k ?_
  exact Nat.le_trans (len_join_le (n := 127) (by show _ ≤ _; omega) hs) (by decide)
theorem strip_le {z : Str} (h : (Txt.strip z).length ≤ z.length) (e : z.length = 1) : (Txt.strip z).length ≤ 4 := by omega
theorem add_K {prog : Program} {w : World} {A : Around} {E : Value → Shared → Prop} {s : Shared} {x y : Str} {t u : Tok} {Q : Value → Shared → Prop} (hx : x.length ≤ 900) (hy : y.length ≤ 900)
    (h : ∀ z t' k, z.length = x.length + y.length → Q (.str z t') { s with toks := k }) : wpAny (model prog w) A (binaryOp .Add (.str x t) (.str y u)) Q E s :=
  PyProof.Rows.add_str (fun t' k => h (x ++ y) t' k (by show (x.cps ++ y.cps).size = _; rw [Array.size_append]; rfl)) (by rw [sizeLine_eq]; omega)

theorem getD_le {l : List Str} {i : Nat} (h : (l.all fun x => decide (x.length ≤ 13)) = true) : (l.getD i Str.empty).length ≤ 13 := by
  rw [List.getD_eq_getElem?_getD]
  cases q : l[i]? with
  | none => exact Nat.zero_le _
  | some x => exact of_decide_eq_true (List.all_eq_true.mp h x (List.mem_of_getElem? q))
theorem cat_len (x y : Str) : (x ++ y).length = x.length + y.length := by
  show (x.cps ++ y.cps).size = _
  rw [Array.size_append]; rfl
theorem len_three {a b c : Str} {i j k : Nat} (ha : a.length ≤ i) (hb : b.length ≤ j) (hc : c.length ≤ k) (h : i + j + k ≤ 900) : (a ++ b ++ c).length ≤ 900 := by
  rw [cat_len, cat_len]; omega
theorem text_end {h₀ h h' : Heap} {L d Dc : Addr} {m : Str → Option Value} {news : List (Addr × Obj)} {o : Obj} {ys : List Value} (F : Fr (hideAll h [Dc, d]) L h' m) (N : News h₀ L h' news) (h1 : (Dc, LCg.lst ys) ∈ news) (h2 : (d, o) ∈ news) (hD : h.get? Dc = some (LCg.lst ys)) :
    (∀ b ob, b ≠ d → h.get? b = some ob → h'.get? b = some ob) ∧ h'.get? d = some o := by
  refine ⟨fun b ob hb e => ?_, (N _ h2).1⟩
  by_cases q : b = Dc
  · subst q
    rw [hD] at e; cases e
    exact (N _ h1).1
  · exact F.keep _ _ (hideAll_get _ e (by simp [q, hb]))
end Mine

namespace Mine
open PySem PySem.W PyProof.Rows PySem.Calls PySem.SeqAt
variable {G : Gx} {P : Params}

theorem hroomX {A : Around} {env : Env} (h : A.depth + 2 < recursionLimit) : (A.deeper env).depth < recursionLimit := by show A.depth + 1 < _; omega
local macro_rules | `(tactic| walk_at "call ref") => `(tactic| (k_here; (refine' draw_K ?xa ?xb ?xc ?xd ?xe ?xf ?xg ?xh ?xi ?xj ?xk ?xl ?xm ?xn ?xo ?xp ?_; (case xa => assumption); (case xb => k_asm); (case xc => k_asm); (case xd => k_updF); (case xi => assumption); (case xh => assumption); (case xe => k_mem); (case xf => assumption); (case xg => assumption); (case xj => first | assumption | exact hroomX (by assumption)); (case xk => assumption); (case xl => assumption); (case xm => omega); (case xn => omega); (case xo => omega); (case xp => omega)); intro h' o' tk' r' tok' t' F' N' D' lo' hi'; (try dsimp only at N')))

theorem handledX {A : Around} {env : Env} (h : A.handled = none) : (A.deeper env).handled = none := h
local macro_rules | `(tactic| walk_at "CompSrc") => `(tactic| (k_here; (refine' LCg.CompSrc.range ?ya ?yk ?yl ?ym ?yb ?yc ?yd ?_; (case ya => exact handledX (by assumption)); (case yk => k_asm); (case yl => k_asm); (case ym => assumption); (case yb => exact small_one (by omega) (by omega) (by omega) (by omega)); (case yc => exact rangeSize_nat _ _); (case yd => rw [sizeLine_eq]; omega)); intro g'; (refine' deck_rest (by assumption) (fun v' I' oI' C' oC' DD' m' ys' h' tk' E' o' t' nn' lo' hi' D' hC' hx' F' N' off' ne' => ?_) (fun ys' xs' o' t' hs' hl' hx' D' => ?_)); (all_goals (try (simp only [LCg.Off3, and_true] at off')))))
local macro_rules | `(tactic| walk_at "call builtin:str.join") => `(tactic| (k_here; (refine' join_K (by k_asm) (by k_mem) (by assumption) (by assumption) (by omega) ?_ ?_; (focus first | exact strip_le (by assumption) (by assumption) | decide)); intro z' t' k' hz'))
local macro_rules | `(tactic| walk_at "CompEnd") => `(tactic| (refine LCg.CompEnd.intro (by assumption) (by assumption) [_, _, _] (by kcf_all) (by simp only [LCg.Off3, and_true]; assumption) trivial ?_))
theorem text (hG : Gp G P) {A : Around} {s : Shared} {d Dc : Addr} {o : Obj} {ys : List Value} {ns : List Int} {t3 : Tok} {Q E : Value → Shared → Prop} (kb : G.base.StaysIn s.heap)
    (hdo : s.heap.get? d = some o) (hD : s.heap.get? Dc = some (LCg.lst ys)) (hne : (@Ne Nat d Dc)) (b1 : G.base.get? d = none) (b2 : G.base.get? Dc = none)
    (ho : deckIs G o Dc 0 t3) (hI : IntsAre ys ns) (hlen : ns.length ≤ 24) (hb : ∀ x ∈ ns, 0 ≤ x ∧ x < 10 ^ 9) (hroom : A.depth + 2 < recursionLimit) (hh : A.handled = none) 
    (h : ∀ x tok o' h' tk' n' t', x.length ≤ 900 → (∀ b ob, b ≠ d → s.heap.get? b = some ob → h'.get? b = some ob) → h'.get? d = some o' → deckIs G o' Dc n' t' → 0 ≤ n' → n' ≤ 100 → Q (.str x tok) { s with heap := h', toks := tk' }) :
    wpAny (model G.prog G.w) A (call (.ref 206) [.ref d]) Q E s := by
  have h0 : G.base.StaysIn (hideAll s.heap [Dc, d]) := fun b o' hb' => hideAll_get _ (kb b o' hb') (by
    intro q
    rcases List.mem_cons.mp q with q | q
    · rw [q, b2] at hb'; cases hb'
    · rw [List.mem_singleton.mp q, b1] at hb'; cases hb')
  have hk0 : (hideAll s.heap [Dc, d]).StaysIn s.heap := fun b o' hb' => Heap.of_hide (Heap.of_hide hb')
  refine call_cell (h0 := hideAll s.heap [Dc, d]) (binds := [("deck", .ref d)]) (by rw [hG.K]; exact rfl) (by rw [hG.K]; kernel_rfl) rfl (by kernel_rfl) (by decide +kernel) rfl rfl rfl h0 hk0 (by rw [hideAll_size]; exact Nat.le_refl _) (by omega) (fun h₁ tk L cells F NC Y k₁ hL => ?_)
  have KX : (hd.heap_39 P).In (hideAll s.heap [Dc, d]) := hG.K ▸ G.kin.keeps h0
  have T := G.top.keeps h0
  k_cells Y
  rename Obj.data _ = Data.cell _ => hcell
  rename Obj => oc
  have ld : @LT.lt Nat _ d L := by rw [hL]; exact Heap.lt_size hdo
  have lD : @LT.lt Nat _ Dc L := by rw [hL]; exact Heap.lt_size hD
  have N : News (hideAll s.heap [Dc, d]) L h₁ [(L + 1, oc), (Dc, LCg.lst ys), (d, o)] := by
    intro p hp
    rcases List.mem_cons.mp hp with rfl | hp
    · have := NC _ (.head _)
      exact ⟨this.1, this.2.1, fresh_up hk0 this.2.2⟩
    rcases List.mem_cons.mp hp with rfl | hp
    · exact ⟨k₁ _ _ hD, Nat.ne_of_lt lD, hideAll_none _ (by simp)⟩
    · obtain rfl := List.mem_singleton.mp hp
      exact ⟨k₁ _ _ hdo, Nat.ne_of_lt ld, hideAll_none _ (by simp)⟩
  clear NC
  k_steps
  all_goals first
    | exact ⟨_, _, _, _, rfl, by assumption, rfl, getD_le (by kernel_rfl)⟩
    | (rename Fr _ _ _ _ => F'
       rename News _ _ _ _ => N'
       have X := fun o' hm => text_end (o := o') F' N' (by k_mem) hm hD
       refine h _ _ _ _ _ _ _ ?_ (X _ (by k_mem)).1 (X _ (by k_mem)).2 (by assumption) (by omega) (by omega)
       first
         | exact len_three (len_mul_leN (L := 1) (N := 20) (Nat.le_of_ble_eq_true (by kernel_rfl)) (by omega)) (getD_le (by kernel_rfl)) (len_mul_leN (L := 1) (N := 20) (Nat.le_of_ble_eq_true (by kernel_rfl)) (by omega)) (by decide)
         | exact len_three (i := 1) (j := 520) (k := 1) (Nat.le_of_ble_eq_true (by kernel_rfl)) (by assumption) (Nat.le_of_ble_eq_true (by kernel_rfl)) (by decide)
         | omega)
end Mine

namespace Mine
open PySem PySem.W PyProof.Rows PySem.Calls PySem.SeqAt
variable {G : Gx} {P : Params}

noncomputable def dueV (t : Str) : Int := if h : t.length ≤ 2000 then (agree t h).choose else 0
theorem dueV_spec {t : Str} (h : t.length ≤ 2000) : ∀ k, 60 ≤ k → heardR k t = .ok (dueV t) ∧ Φ k .lawDue [.str t] = .ok (.sc (.int (dueV t))) := by
  unfold dueV; rw [dif_pos h]; exact (agree t h).choose_spec
theorem room_law (env : Env) : Room (callerA.deeper env) 61 := ⟨by show callerA.depth + 1 + 61 + 8 < recursionLimit; decide, by show callerA.units + 3 + 10 * 61 + 60 < cLine; decide⟩

section
variable {prog : Program} {w : World} {s : Shared} {h₀ : Heap} {L : Addr} {m : Str → Option Value} {news : List (Addr × Obj)} {g : Obj → List (Addr × Obj)} {env : Env} {E : Value → Shared → Prop} {Q : Value → Shared → Prop}

theorem due_L (hG : Gp G P) (hC : G.C = 51) (hp : G.prog = prog) (hw : G.w = w) (hb : G.base = h₀) (hf : env.frame = some L) (hke : env.scope.kind = .function) (F : Fr h₀ L s.heap m) (N : News h₀ L s.heap news) {x : Str} {t : Tok} (hx : x.length ≤ 2000)
    (k : ∀ h' tk' t', Fr h₀ L h' m → News h₀ L h' news → Q (.int (dueV x) t') { s with heap := h', toks := tk' }) : wpAny (model prog w) (callerA.deeper env) (call (.ref 276) [.str x t]) Q E s := by
  subst hp hw hb
  have hL0 : G.base.get? L = none := by
    cases hq : G.base.get? L with
    | none => rfl
    | some o => exact absurd (Nat.lt_of_lt_of_le (Heap.lt_size hq) F.above) (Nat.lt_irrefl _)
  have B : Below (callerA.deeper env) G.base [env] s.heap := pushX (below_caller G.base) F hf hke
  refine meets hG (raiseOk hG hC) 61 .lawDue _ _ _ s [.str x] _ _ _ (stays_refl _) B rfl (room_law env) ⟨_, _, rfl, ⟨_, rfl⟩, rfl⟩ ?_
  rw [(dueV_spec hx 61 (by decide)).2]
  rintro v h' tk' kk ⟨t', rfl⟩
  exact k h' tk' t' (fr_up F kk) fun p hp => ⟨kk _ _ (N p hp).1, (N p hp).2⟩

theorem heard_L (hG : Gp G P) (hC : G.C = 51) (hp : G.prog = prog) (hw : G.w = w) (hb : G.base = h₀) (hf : env.frame = some L) (hke : env.scope.kind = .function) (F : Fr h₀ L s.heap m) (N : News h₀ L s.heap news) {x : Str} {t : Tok} (hx : x.length ≤ 2000)
    (k : ∀ h' tk' t', Fr h₀ L h' m → News h₀ L h' news → Q (.int (dueV x) t') { s with heap := h', toks := tk' }) : wpAny (model prog w) (callerA.deeper env) (call (.ref 283) [.str x t]) Q E s := by
  subst hp hw hb
  have hL0 : G.base.get? L = none := by
    cases hq : G.base.get? L with
    | none => rfl
    | some o => exact absurd (Nat.lt_of_lt_of_le (Heap.lt_size hq) F.above) (Nat.lt_irrefl _)
  have B : Below (callerA.deeper env) G.base [env] s.heap := pushX (below_caller G.base) F hf hke
  have hbs : (s.heap.hide L).StaysIn s.heap := fun b o e => Heap.of_hide e
  have gb : G.base.StaysIn (s.heap.hide L) := base_hide F.keep hL0
  have B' : Below (callerA.deeper env) (s.heap.hide L) [env] s.heap := by
    refine ⟨B.stack, hbs, ?_⟩
    exact .cons (by rw [hke]; decide) hf F.ns (Heap.hide_self _ _) trivial
  refine heard hG hC gb B' rfl (room_law env) (dueV_spec hx 60 (by decide)).1 fun h' tk' t' hk hu => ?_
  have keep : ∀ b o, b ≠ L → s.heap.get? b = some o → h'.get? b = some o := fun b o hb e => hk b o ((Heap.hide_ne _ hb).trans e)
  exact k h' tk' t' ⟨hu.ns F.ns, fun b o e => keep b o (fun q => by rw [q, hL0] at e; cases e) (F.keep b o e), F.above⟩ fun p hp => ⟨keep _ _ (N p hp).2.1 (N p hp).1, (N p hp).2⟩

theorem cells_ok {ks : List Int} : ∀ x ∈ (List.map (fun k' => (if k' < 0 then -k' else k').fmod (10 ^ Int.toNat 9)) ks), 0 ≤ x ∧ x < 10 ^ 9 := by
  intro x hx
  obtain ⟨k, _, rfl⟩ := List.mem_map.mp hx
  exact ⟨Int.fmod_nonneg_of_pos _ (by decide), Int.fmod_lt_of_pos _ (by decide)⟩
theorem cells_len {ks : List Int} {f : Int → Int} : (List.map f (List.take 24 ks)).length ≤ 24 := by
  rw [List.length_map, List.length_take]; exact Nat.min_le_left _ _

theorem draw_L (hG : Gp G P) (hp : G.prog = prog) (hw : G.w = w) (hb : G.base = h₀) (F : Fr h₀ L s.heap m) (N : News h₀ L s.heap news) {d Dc : Addr} {o : Obj} {ys : List Value} {ns : List Int} {n many : Int} {t3 tm : Tok} (U : UpdF d o news g) (hDm : (Dc, LCg.lst ys) ∈ news) (hne : (@Ne Nat d Dc)) (hI : IntsAre ys ns) (ho : Obj.IsDictOf (PySem.strKind prog w) o [(Str.ofString "cells", .ref Dc), (Str.ofString "at", .int n t3)])
    (hlen : ns.length ≤ 24) (hbd : ∀ x ∈ ns, 0 ≤ x ∧ x < 10 ^ 9) (n0 : 0 ≤ n) (n1 : n ≤ 1000) (m0 : 0 < many) (m1 : many ≤ 5000) 
    (k : ∀ h' o' tk' r tok, Fr h₀ L h' m → News h₀ L h' (g o') → 0 ≤ r → r < many → Q (.int r tok) { s with heap := h', toks := tk' }) :
    wpAny (model prog w) (callerA.deeper env) (call (.ref 201) [.ref d, .int many tm]) Q E s := by
  subst hp hw hb
  exact draw_K hG F N U hDm (stays_refl _) hne hI ho (by show callerA.depth + 1 < recursionLimit; decide) hlen hbd n0 n1 m0 m1 fun h' o' tk' r tok t' F' N' _ r0 r1 => k h' o' tk' r tok F' N' r0 r1

theorem text_L (hG : Gp G P) (hp : G.prog = prog) (hw : G.w = w) (hb : G.base = h₀) (F : Fr h₀ L s.heap m) (N : News h₀ L s.heap news) {d Dc : Addr} {o : Obj} {ys : List Value} {ns : List Int} {t3 : Tok} (U : UpdF d o news g) (hDm : (Dc, LCg.lst ys) ∈ news) (hne : (@Ne Nat d Dc)) (hI : IntsAre ys ns) (ho : Obj.IsDictOf (PySem.strKind prog w) o [(Str.ofString "cells", .ref Dc), (Str.ofString "at", .int 0 t3)])
    (hlen : ns.length ≤ 24) (hbd : ∀ x ∈ ns, 0 ≤ x ∧ x < 10 ^ 9)
    (k : ∀ h' o' tk' x tok n' t', Fr h₀ L h' m → News h₀ L h' (g o') → Obj.IsDictOf (PySem.strKind prog w) o' [(Str.ofString "cells", .ref Dc), (Str.ofString "at", .int n' t')] → 0 ≤ n' → n' ≤ 100 → x.length ≤ 900 → Q (.str x tok) { s with heap := h', toks := tk' }) :
    wpAny (model prog w) (callerA.deeper env) (call (.ref 206) [.ref d]) Q E s := by
  subst hp hw hb
  obtain ⟨pre, post, rfl, hg, u1, u2⟩ := U.split
  have hd := N (d, o) (List.mem_append_right _ (.head _))
  have hD := N _ hDm
  refine text hG F.keep hd.1 hD.1 hne hd.2.2 hD.2.2 ho hI hlen hbd (by show callerA.depth + 1 + 2 < recursionLimit; decide) rfl fun x tok o' h' tk' n' t' hx hk hd' D' n0 n1 => ?_
  refine k h' o' tk' x tok n' t' ⟨F.ns.at' fun ob e => hk _ _ (Ne.symm hd.2.1) e, fun b ob e => hk b ob (fun q => by rw [q, hd.2.2] at e; cases e) (F.keep b ob e), F.above⟩ ?_ D' n0 n1 hx
  rw [hg]
  intro p hp
  rcases List.mem_append.mp hp with hp | hp
  · have := N p (List.mem_append_left _ hp)
    exact ⟨hk _ _ (u1 p hp) this.1, this.2⟩
  · rcases List.mem_cons.mp hp with rfl | hp
    · exact ⟨hd', hd.2⟩
    · have := N p (List.mem_append_right _ (.tail _ hp))
      exact ⟨hk _ _ (u2 p hp) this.1, this.2⟩
end
end Mine

namespace Mine
open PySem PySem.W PyProof.Rows PySem.Calls PySem.SeqAt
theorem last_len : (Str.ofString "(I5F5.2)").length ≤ 2000 := Nat.le_of_ble_eq_true (by kernel_rfl)
theorem due_last : dueV (Str.ofString "(I5F5.2)") = 3 := by
  have h1 := (dueV_spec (t := Str.ofString "(I5F5.2)") (Nat.le_of_ble_eq_true (by kernel_rfl)) 60 (by decide)).2
  have h2 : Φ 60 .lawDue [.str (Str.ofString "(I5F5.2)")] = .ok (.sc (.int 3)) := by kernel_rfl
  rw [h2] at h1
  injection h1 with h1
  injection h1 with h1
  injection h1 with h1
  exact h1.symm
end Mine

namespace Mine
open PySem PySem.W PyProof.Rows PySem.Calls PySem.SeqAt

noncomputable def StopX (p : Prop) : Prop := p
theorem stopX {p : Prop} (h : StopX p) : p := h
structure GLaw (G : Gx) (P : Params) (prog : Program) (w : World) (h₀ : Heap) : Prop where
  g : Gp G P
  c : G.C = 51
  p : G.prog = prog
  w : G.w = w
  b : G.base = h₀
theorem gLaw {P : Params} {prog : Program} {w : World} {h₀ : Heap} {p : Program} {loose : List Str} {mg mb : Str → Option Value} (X : (hd.heap_39 P).In h₀) (T : TopRead p loose mg mb h₀) : ∃ G, GLaw G P prog w h₀ :=
  ⟨⟨prog, w, _, p, loose, mg, mb, h₀, 51, X, T⟩, ⟨rfl⟩, rfl, rfl, rfl, rfl⟩

local macro_rules | `(tactic| walk_at "call ref") => `(tactic| (k_here; (rename GLaw _ _ _ _ _ => gL); first
  | ((refine' text_L (GLaw.g gL) (GLaw.p gL) (GLaw.w gL) (GLaw.b gL) ?xb ?xc ?xd ?xe ?xg ?xh ?xi ?xj ?xk ?_; (case xb => k_asm); (case xc => k_asm); (case xd => k_updF); (case xi => k_dflt assumption); (case xh => k_dflt assumption); (case xe => k_dflt k_mem); (case xj => k_dflt exact cells_len); (case xk => k_dflt exact cells_ok); (case xg => (refine neN ?_; omega))); intro h' o' tk' x' tok' n' t' F' N' D' lo' hi' len'; (try dsimp only at N'))
  | ((refine' draw_L (GLaw.g gL) (GLaw.p gL) (GLaw.w gL) (GLaw.b gL) ?xb ?xc ?xd ?xe ?xg ?xh ?xi ?xj ?xk ?xm ?xn ?xo ?xp ?_; (case xb => k_asm); (case xc => k_asm); (case xd => k_updF); (case xi => k_dflt assumption); (case xh => k_dflt assumption); (case xe => k_dflt k_mem); (case xj => k_dflt exact cells_len); (case xk => k_dflt exact cells_ok); (case xg => (refine neN ?_; omega)); (case xm => omega); (case xn => omega); (case xo => omega); (case xp => omega)); intro h' o' tk' r' tok' F' N' lo' hi'; (try dsimp only at N'))
  | ((refine' heard_L (GLaw.g gL) (GLaw.c gL) (GLaw.p gL) (GLaw.w gL) (GLaw.b gL) ?xf ?xg ?xb ?xc ?xo ?_; (case xf => k_dflt rfl); (case xg => k_dflt rfl); (case xb => k_asm); (case xc => k_asm); (case xo => first | omega | k_dflt exact last_len)); intro h' tk' t' F' N')
  | ((refine' due_L (GLaw.g gL) (GLaw.c gL) (GLaw.p gL) (GLaw.w gL) (GLaw.b gL) ?xf ?xg ?xb ?xc ?xo ?_; (case xf => k_dflt rfl); (case xg => k_dflt rfl); (case xb => k_asm); (case xc => k_asm); (case xo => first | omega | k_dflt exact last_len)); intro h' tk' t' F' N')
  | (refine stopX ?_)))

theorem holds : PySem.Challenge.rw_pf0123_01.Holds := hd (by
  k_go0
  (all_goals try k_fold)
  (with_reducible rename Frag.In _ _ => kX)
  (with_reducible rename Top _ _ _ _ _ _ => kT)
  obtain ⟨G, gL⟩ := gLaw (prog := PySem.Challenge.rw_pf0123_01.row.prog) (w := (by assumption)) kX (topRead_of kT)
  have hlast := due_last
  k_steps
  unfold StopX
  (rename GLaw _ _ _ _ _ => gL)
  refine' due_L (GLaw.g gL) (GLaw.c gL) (GLaw.p gL) (GLaw.w gL) (GLaw.b gL) ?xf ?xg ?xb ?xc ?xo ?_
  case xf => rfl
  case xg => rfl
  case xb => k_asm
  case xc => k_asm
  case xo => first | omega | exact last_len
  intro h' tk' t' F' N'
  k_steps)
end Mine


theorem PySem.Challenge.cw_pf0123_01_holds : PySem.Challenge.rw_pf0123_01.Holds :=
  Mine.holds
