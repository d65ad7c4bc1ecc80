import PyProof.Rows.All
import Wide.All
import OpenK.AllK
import Wide.FinOn
import Lean
import PySem.Challenge.RW_nu0332_01
open PySem PySem.W PyProof.Rows PyProof.V PySem.Spec PySem.Calls
set_option Elab.async false
namespace Mine
set_option maxRecDepth 100000
theorem int_sub {prog : Program} {w : World} {A : Around} {E : Value → Shared → Prop} {s : Shared} {value : PySem.Expr} {lo up : Option PySem.Expr} {pos : Pos} {n : Int} {t : Tok} {r : Addr} {Q : Value → Shared → Prop} (hh : A.handled = none)
    (h : ∀ h' tk e, Heap.NewExc s.heap h' e "TypeError" → E (.ref e) { s with heap := h', toks := tk }) : wpAny (model prog w) A (subscriptTail value (.Slice lo up none pos) (.int n t) (.ref r)) Q E s := by
  have hT : ∀ s' : Shared, s'.TypeIs (.int n t) "int" := fun _ => rfl
  have hl : typeLookup (.type "int") "__getitem__" = pure none := by with_unfolding_all rfl
  unfold subscriptTail getitemInPython
  refine wpAny_bind (wpAny_bind (wpAny_specialOf (hT s) hl (wpAny_pure ?_)))
  refine wpAny_bind ?_
  show wpAny _ _ (operate [.ref r, .int n t] (getItem (.int n t) (.ref r))) _ _ _
  refine wpAny_operating ?_
  unfold getItem
  refine wpAny_holding ?_
  refine wpAny_bind (wpAny_sequenceKey (hT s) (by decide) ?_)
  unfold callSpecial?
  refine wpAny_bind (wpAny_bind (wpAny_specialOf (hT s) hl (wpAny_pure ?_)))
  dsimp only
  refine wpAny_bind (m := isType (.int n t)) (wpAny_of_eq (a := false) (by with_unfolding_all rfl) ?_)
  simp only [Bool.false_eq_true, if_false]
  refine wpAny_bind (wpAny_typeNameOf' (hT s) (by decide) ?_)
  exact raiseError_exc excClass_TypeError hh h (by decide +kernel)
theorem int_subP {prog : Program} {w : World} {A : Around} {E : Value → Shared → Prop} {value : PySem.Expr} {lo up : Option PySem.Expr} {pos : Pos} {n : Int} {t : Tok} {r : Addr} {Q : Value → Shared → Prop} {g0 H : Heap} {L : Addr} {m : Str → Option Value} {news : List (Addr × Obj)} {ob : Obj} {gg : Array GenState} {d : Drawn} {t0 : Nat} {oo : OsState} (F : Fr g0 L H m) (N : News g0 L H news) (hh : A.handled = none) (hf : ob.isFreed = false)
    (h : ∀ h' tk e, Fr g0 L (H.push ob) m → News g0 L (H.push ob) ((H.objs.size, ob) :: news) → Heap.NewExc (H.push ob) h' e "TypeError" → E (.ref e) ⟨h', gg, d, tk, oo⟩) : wpAny (model prog w) A (subscriptTail value (.Slice lo up none pos) (.int n t) (.ref r)) Q E ⟨H.push ob, gg, d, t0, oo⟩ :=
  int_sub (s := ⟨H.push ob, gg, d, t0, oo⟩) hh fun h' tk e hx => h h' tk e (F.push ob) (N.push F ob hf) hx
theorem leave_onXN {M : Model} {A : Around} {E : Value → Shared → Prop} {s' : Shared} {base g g₂ : Heap} {outer : List Env} {L a e : Addr} {m : Str → Option Value} {name : Str} {scope : Scope} {cd : Value} {cells : List (Str × Addr)} {Q : Unit → Shared → Prop} {news : List (Addr × Obj)} {cls : Value}
    (K : Below A base outer g) (F : Fr g L g₂ m) (R : RaisedN base (envX name scope L a cd cells :: outer) e cls news s'.heap) (hsm : g₂.UpToSlots s'.heap)
    (hQ : ∀ h', RaisedN base outer e cls news h' → g.UpToSlots h' → Q () { s' with heap := h' }) :
    wpAny M (A.deeper (envX name scope L a cd cells)) (leaving (envX name scope L a cd cells) (.ref e)) Q E s' := by
  obtain ⟨B, a0, hB, hl, hfl⟩ := R
  exact wpAny_leaves_onW (Around.frames_deeper K.stack) rfl hfl fun h' x1 x2 => hQ h' ⟨B, a0, hB, hl, x1⟩ ((Heap.UpToSlots.of_keeps F.keep).trans (hsm.trans x2))
theorem good_raise {c : ClaimW} {cl : Str → Option Addr} {mean : ExcName → Option Value} {args : List WData} {s₁ s' : Shared} {e : Addr} {news : List (Addr × Obj)} {n : ExcName} {v : Value} (R : RaisedN s₁.heap [] e v news s'.heap) (hm : mean n = some v) (hr : c.raises args n = true) (hos : s'.os = s₁.os) (hg : s'.gens = #[]) : GoodW c cl mean args s₁ (.error (.ref e)) s' := by
  obtain ⟨B, a0, hB, _, f⟩ := R
  obtain ⟨ob, h1, h2⟩ := f.there
  refine ⟨.inr ⟨e, ob, n, rfl, h1, by rw [h2]; exact hm, hr, ?_⟩, fun b o h => f.1 b o (hB b o h), hos, hg⟩
  cases q : s₁.heap.get? e with
  | none => rfl
  | some o => have h3 := hB e o q; rw [f.2.1] at h3; cases h3
def r0 : OpenRow := { PySem.Challenge.rw_nu0332_01.row with args := [.int], pre := .lit (.bool true), post := .lit (.bool true), raises := [(.builtin "TypeError", .lit (.bool true))] }
theorem R.tw8145282008443465596 : True := trivial
theorem R.tw17211564391418175693 : True := trivial
theorem R.tw9671985958511955353 : True := trivial
theorem R.tw5224354017499452521 : True := trivial
theorem R.tw6141112969894013770 : True := trivial
theorem R.tw8893306630661485364 : True := trivial
theorem R.tw15157276234935579366 : True := trivial
theorem R.tw17153646686051637690 : True := trivial
theorem R.tw9815872388964373894 : True := trivial
theorem R.tw17330417187512451370 : True := trivial
theorem R.tw13499286396769284993 : True := trivial
theorem R.tw3328077247357944253 : True := trivial
theorem R.tw2073839523396736834 : True := trivial
theorem R.tw3273357928113918508 : True := trivial
theorem R.tw348679908339600912 : True := trivial
theorem R.tw4799710911753173646 : True := trivial
theorem R.tw18421042746728749801 : True := trivial
theorem R.tw16370954816033768235 : True := trivial
theorem R.tw7195911095650882657 : True := trivial
theorem R.tw14999048996598478013 : True := trivial
theorem R.tw7693927635578709750 : True := trivial
theorem R.tw4008932630214672755 : True := trivial
theorem R.tw2561443648102168717 : True := trivial
theorem R.tw4337743865885110212 : True := trivial
theorem R.tw15342759528613468191 : True := trivial
theorem R.tw10172633430396677579 : True := trivial
theorem R.tw17676830533264920341 : True := trivial
theorem R.tw7600737672572485968 : True := trivial
theorem R.tw5424345954268359641 : True := trivial
theorem R.tw16913274451795036388 : True := trivial
theorem R.tw12153353704613307325 : True := trivial
theorem R.tw7809858912516691033 : True := trivial
theorem R.tw9531869625773987967 : True := trivial
theorem R.tw9445741928280122075 : True := trivial
theorem R.tw3080939974244965399 : True := trivial
theorem R.tw11240274476725456327 : True := trivial
theorem R.tw5828055140793689714 : True := trivial
theorem R.tw17603710732379490085 : True := trivial
theorem R.tw17256806981183692500 : True := trivial
theorem R.tw6965323601194049208 : True := trivial
theorem R.tw9771255130230644011 : True := trivial
theorem R.tw8951325098481903627 : True := trivial
theorem R.tw10066039899160391133 : True := trivial
theorem R.tw16283855933965900147 : True := trivial
theorem R.tw12760851091005087764 : True := trivial
theorem R.tw17939504119236860033 : True := trivial
theorem R.tw6761561710000062593 : True := trivial
theorem R.tw7854524377834270329 : True := trivial
theorem R.tw7801622284502218458 : True := trivial
theorem R.tw7283699757812229335 : True := trivial
theorem R.tw14018441792231838108 : True := trivial
theorem R.tw13813713750326908793 : True := trivial
theorem R.tw12066956037164783230 : True := trivial
theorem R.tw2231269293971397494 : True := trivial
theorem R.tw17939065887664600325 : True := trivial
theorem R.tw2508599189324575646 : True := trivial
theorem R.tw17501152503446782288 : True := trivial
theorem R.tw12318947214462078325 : True := trivial
theorem R.tw3182283965226112145 : True := trivial
theorem R.tw17724248909936778999 : True := trivial
theorem R.tw14847510389983283464 : True := trivial
theorem R.tw4390607137569118229 : True := trivial
theorem R.tw12352608625041502693 : True := trivial
theorem R.tw5331841019148536382 : True := trivial
theorem R.tw5221987795738580285 : True := trivial
theorem R.tw15288635123666190910 : True := trivial
theorem R.tw17407345128977699685 : True := trivial
theorem R.tw6590925392060939146 : True := trivial
theorem R.tw17963560898612817741 : True := trivial
theorem R.tw9637293664709460603 : True := trivial
theorem R.tw13774880800659744073 : True := trivial
theorem R.tw4474770609847699699 : True := trivial
theorem R.tw16706126164940433947 : True := trivial
theorem R.tw15818506821766928442 : True := trivial
theorem R.tw12631218160460718011 : True := trivial
theorem R.tw11861667654485510899 : True := trivial
theorem R.tw6853889675558850096 : True := trivial
theorem R.tw2952836306194216385 : True := trivial
theorem R.tw14178195850515737587 : True := trivial
theorem R.tw4062933906502562145 : True := trivial
theorem R.tw12671349856159957395 : True := trivial
theorem R.tw13888055957243644487 : True := trivial
theorem R.tw721529006214407252 : True := trivial
theorem R.tw17164238686813302770 : True := trivial
theorem R.tw13533243637380024250 : True := trivial
theorem R.tw4701835692416271748 : True := trivial
theorem R.tw3947408010200667434 : True := trivial
theorem R.tw18102367953375874514 : True := trivial
theorem R.tw18200951823869195299 : True := trivial
theorem R.tw9488704901842662477 : True := trivial
theorem R.tw3840594273845023692 : True := trivial
theorem R.tw4884395809970606460 : True := trivial
theorem R.tw12720598687001829365 : True := trivial
theorem R.tw15653115681295650694 : True := trivial
theorem R.tw17882555235051700942 : True := trivial
theorem R.tw17998400613791105463 : True := trivial
theorem R.tw1961656745724091803 : True := trivial
theorem R.tw16942951337214959223 : True := trivial
theorem R.tw13823374547103185682 : True := trivial
theorem R.tw12079642274970855070 : True := trivial
theorem R.tw6700654865069220893 : True := trivial
theorem R.tw10304652979269675631 : True := trivial
theorem R.tw1497214120988397664 : True := trivial
theorem R.tw4130461749774650209 : True := trivial
theorem R.tw14035124756166911988 : True := trivial
theorem R.tw2225843120809500874 : True := trivial
theorem R.tw4879264825805030361 : True := trivial
theorem R.tw9355826237649251788 : True := trivial
theorem R.tw2145358071274819959 : True := trivial
theorem R.tw15933951133668250399 : True := trivial
theorem R.tw5964584406212238197 : True := trivial
theorem R.tw2690128583023519066 : True := trivial
theorem R.tw4677727848376563694 : True := trivial
theorem R.tw5068467438015999187 : True := trivial
theorem R.tw9706460911104953178 : True := trivial
theorem R.tw2632252713957135677 : True := trivial
theorem R.tw8134089803409320307 : True := trivial
theorem R.tw13725500284019222337 : True := trivial
theorem R.tw3601724984382496852 : True := trivial
theorem R.tw1672966195263445077 : True := trivial
theorem R.tw652283092679396326 : True := trivial
theorem R.tw1735631022018840128 : True := trivial
theorem R.tw12747776057647154960 : True := trivial
theorem R.tw14205075712246056297 : True := trivial
theorem R.tw7336023627464860110 : True := trivial
theorem R.tw14444656126069424991 : True := trivial
theorem R.tw9459634752624888581 : True := trivial
theorem R.tw282879510695213165 : True := trivial
theorem R.tw11837959433280043924 : True := trivial
theorem R.tw12736203720671435783 : True := trivial
theorem R.tw7975831847253373997 : True := trivial
theorem R.tw8527877631932420473 : True := trivial
theorem R.tw9600251534337397698 : True := trivial
theorem R.tw585863720205584226 : True := trivial
theorem R.tw5800672733694747414 : True := trivial
theorem R.tw7446397343160713694 : True := trivial
theorem R.tw7618819208322395055 : True := trivial
theorem R.tw9707616745454891218 : True := trivial
theorem R.tw15924700405678560561 : True := trivial
theorem R.tw5091937336560896123 : True := trivial
theorem R.tw10091328572825693638 : True := trivial
theorem R.tw8162377535462541277 : True := trivial
theorem R.tw11780824964394355493 : True := trivial
theorem R.tw7949820321996177301 : True := trivial
theorem R.tw5853550654620499574 : True := trivial
theorem R.tw8220055931283436168 : True := trivial
theorem R.tw8917881563766701598 : True := trivial
theorem R.tw17759507627349906599 : True := trivial
theorem R.tw9391977884379496745 : True := trivial
theorem R.tw8041055584759103898 : True := trivial
theorem R.tw8984315698116588519 : True := trivial
theorem R.tw3526683257491260050 : True := trivial
theorem R.tw9134895081663466037 : True := trivial
theorem R.tw12901840948168351353 : True := trivial
theorem R.tw3737562486411418012 : True := trivial
theorem R.tw15098849495552040027 : True := trivial
theorem R.tw16994187113086551455 : True := trivial
theorem R.tw10297980007690384879 : True := trivial
theorem R.tw4461928712701787746 : True := trivial
theorem R.tw10434962195108950178 : True := trivial
theorem R.tw11952937008973265590 : True := trivial
theorem R.tw12913105705615372040 : True := trivial
theorem R.tw9053108358999193886 : True := trivial
theorem R.tw748453517391300310 : True := trivial
theorem R.tw46215560899570882 : True := trivial
theorem R.tw9057161158243434765 : True := trivial
theorem R.tw12076177253779228804 : True := trivial
theorem R.tw11247469822702564697 : True := trivial
theorem R.tw3036474917618894415 : True := trivial
theorem R.tw11518742495324505775 : True := trivial
theorem R.tw18063265765663040046 : True := trivial
theorem R.tw17719264789491297106 : True := trivial
theorem R.tw16806181095010091064 : True := trivial
theorem R.tw17380710806914534060 : True := trivial
theorem R.tw9313171110776422178 : True := trivial
theorem R.tw13512865855524065653 : True := trivial
theorem R.tw5016975076359321337 : True := trivial
theorem R.tw518502009785218607 : True := trivial
theorem R.tw17373643347505168526 : True := trivial
theorem R.tw4472120457622024578 : True := trivial
theorem R.tw4003577968195055443 : True := trivial
theorem R.tw11242660927188539204 : True := trivial
theorem R.tw6254089808969419661 : True := trivial
theorem R.tw15867573799662168713 : True := trivial
theorem R.tw13731211611868038534 : True := trivial
theorem R.tw3900467301997705611 : True := trivial
theorem R.tw14507590121577859926 : True := trivial
theorem R.tw5451472556569245022 : True := trivial
theorem R.tw4300421585460332012 : True := trivial
theorem R.tw2250058586874210908 : True := trivial
theorem R.tw7082116645593778399 : True := trivial
theorem R.tw1839624584669962590 : True := trivial
theorem R.tw14526309594673720009 : True := trivial
theorem R.tw256420661237651934 : True := trivial
theorem R.tw8888411207718209581 : True := trivial
theorem R.tw11352337123738089280 : True := trivial
theorem R.tw11067955715843335062 : True := trivial
theorem R.tw1474414559256705641 : True := trivial
theorem R.tw8370622390542472473 : True := trivial
theorem R.tw16780307273263380455 : True := trivial
theorem R.tw2475901056826371671 : True := trivial
theorem R.tw1446007805060347569 : True := trivial
theorem R.tw10379681313491624378 : True := trivial
theorem R.tw11556438624669194531 : True := trivial
theorem R.tw17637729713968177518 : True := trivial
theorem R.tw1177476909613880617 : True := trivial
theorem R.tw1238475740013438747 : True := trivial
theorem R.tw11767469392018427544 : True := trivial
theorem R.tw9843896370901672699 : True := trivial
theorem R.tw15496383863278928283 : True := trivial
theorem R.tw5926379645601854138 : True := trivial
theorem R.tw2834198225124273397 : True := trivial
theorem R.tw14576191841125567953 : True := trivial
theorem R.tw11238656749127764356 : True := trivial
theorem R.tw2794082047094785366 : True := trivial
theorem R.tw9646223162910119624 : True := trivial
theorem R.tw10877550720679941254 : True := trivial
theorem R.tw16451782122363144164 : True := trivial
theorem R.tw16017002637730536245 : True := trivial
theorem R.tw10057263575328608441 : True := trivial
theorem R.tw12267401023263779425 : True := trivial
theorem R.tw11046076162535945920 : True := trivial
theorem R.tw13979942830311676786 : True := trivial
theorem R.tw18406158693171619538 : True := trivial
theorem R.tw4894770699252813004 : True := trivial
theorem R.tw327613763018096199 : True := trivial
theorem R.tw4745516854765149945 : True := trivial
theorem R.tw15883870887280323304 : True := trivial
theorem R.tw4226048171813057213 : True := trivial
theorem R.tw16144764148781785238 : True := trivial
theorem R.tw9544911306471114724 : True := trivial
theorem R.tw376200268661162008 : True := trivial
theorem R.tw1132646580448669681 : True := trivial
theorem R.tw15090292324326247191 : True := trivial
theorem R.tw4878450368578234962 : True := trivial
theorem R.tw16881096608775018663 : True := trivial
theorem R.tw10933656367970715899 : True := trivial
theorem R.tw2520342646330833347 : True := trivial
theorem R.tw1905981994192524082 : True := trivial
theorem R.tw6992551787611116465 : True := trivial
theorem R.tw2529914270898631295 : True := trivial
theorem R.tw10627767168816352443 : True := trivial
theorem R.tw15175800060538735203 : True := trivial
theorem R.tw11600598717083073895 : True := trivial
theorem R.tw2445722090843667084 : True := trivial
theorem R.tw9944762748052160063 : True := trivial
theorem R.tw7830259376658641140 : True := trivial
theorem R.tw6734626062945338887 : True := trivial
theorem R.tw1178494921430612829 : True := trivial
theorem R.tw12787465876789849439 : True := trivial
theorem R.tw7858713895817842655 : True := trivial
theorem R.tw1547057860684597599 : True := trivial
theorem R.tw7012333096732458424 : True := trivial
theorem R.tw2958342492492764560 : True := trivial
theorem R.tw6681608227969260345 : True := trivial
theorem R.tw9854222211331132822 : True := trivial
theorem R.tw14836118184361126657 : True := trivial
theorem R.tw2415851451993174818 : True := trivial
theorem R.tw4432396397176437639 : True := trivial
theorem R.tw15024418560437429543 : True := trivial
theorem R.tw972497417137026108 : True := trivial
theorem R.tw1646215472025306287 : True := trivial
theorem R.tw7673256471912806842 : True := trivial
theorem R.tw16243337659477461920 : True := trivial
theorem R.tw7740314673189439694 : True := trivial
theorem R.tw900842475600261278 : True := trivial
theorem R.tw10038357191944937751 : True := trivial
theorem R.tw9339618202243884803 : True := trivial
theorem R.tw17625971812352948860 : True := trivial
theorem R.tw11933655315334380013 : True := trivial
theorem R.tw4455960520713669738 : True := trivial
theorem R.tw10443747942994267190 : True := trivial
theorem R.tw10711350427542363927 : True := trivial
theorem R.tw16698667056862547795 : True := trivial
theorem R.tw2148673058342524161 : True := trivial
theorem R.tw10959205289443997067 : True := trivial
theorem R.tw4936004282486120032 : True := trivial
theorem R.tw12859184086594351935 : True := trivial
theorem R.tw8687872177337739955 : True := trivial
theorem R.tw9898315780915456738 : True := trivial
theorem R.tw14539354122479329417 : True := trivial
theorem R.tw18000237819826697598 : True := trivial
theorem R.tw1832601123934219814 : True := trivial
theorem R.tw16309593262467532087 : True := trivial
theorem R.tw2827541396291689317 : True := trivial
theorem R.tw2741520964284592686 : True := trivial
theorem R.tw1011205231320243342 : True := trivial
theorem R.tw127476917098856005 : True := trivial
theorem R.tw5851754817060416514 : True := trivial
theorem R.tw9430429273856972609 : True := trivial
theorem R.tw13708385176205333766 : True := trivial
theorem R.tw2634253742181387068 : True := trivial
theorem R.tw15203024291328765595 : True := trivial
theorem R.tw13489056294377894189 : True := trivial
theorem R.tw12803051278768837468 : True := trivial
theorem R.tw7241311193710155766 : True := trivial
theorem R.tw5351345925715109895 : True := trivial
theorem R.tw10795890730320383855 : True := trivial
theorem R.tw5231943529590755822 : True := trivial
theorem R.tw15500967176835126424 : True := trivial
theorem R.tw818723109603148129 : True := trivial
theorem R.tw10218902130914640906 : True := trivial
theorem R.tw1408335685229148092 : True := trivial
theorem R.tw5705779460786758982 : True := trivial
theorem R.tw12259151826509747479 : True := trivial
theorem R.tw11882823021284736854 : True := trivial
theorem R.tw10335999158537565838 : True := trivial
theorem R.tw2643679935219961024 : True := trivial
theorem R.tw8261510128555789492 : True := trivial
theorem R.tw12303300951596645216 : True := trivial
theorem R.tw1749976467614318360 : True := trivial
theorem R.tw6282930254229770747 : True := trivial
theorem R.tw5702457486974966881 : True := trivial
theorem R.tw480960490091295448 : True := trivial
theorem R.tw17743736162027592110 : True := trivial
theorem R.tw10144721059652516642 : True := trivial
theorem R.tw7833936515231352774 : True := trivial
theorem R.tw7876158560246295919 : True := trivial
theorem R.tw2846249151039531923 : True := trivial
theorem R.tw17421733576825510653 : True := trivial
theorem R.tw6134797437854760823 : True := trivial
local macro_rules | `(tactic| walk_at "leaving ref") => `(tactic| k_extra "leaving ref")
set_option Elab.async true in
set_option maxRecDepth 100000 in
set_option maxHeartbeats 8000000 in
theorem R : r0.Holds := by
  (k_with "subscriptTail Name Slice int ref" => (k_here; k_dflt (refine' int_subP ?hF ?hN ?ha ?hb ?_; (case ha => rfl); (case hb => rfl); (case hF => assumption); (case hN => assumption)); intro h' tk' e' F' N' hx'; (try k_sweep)))
  (k_with "leaving ref" => (k_here; k_dflt (refine' leave_onXN ?lk ?lf ?lr ?lu ?_; (case lr => assumption); (case lk => assumption); (case lu => assumption); (case lf => assumption)); intro h2' R2' U2'; (try dsimp only at R2' U2' ⊢)))
  w_on
  k_head
  (case hw => w_witness2)
  w_strict (k_go0; (all_goals try k_fold); k_steps; (try dsimp only); exact good_raise (n := .builtin "TypeError") (by assumption) rfl rfl rfl (by assumption))
/-! base -/
def Fill (_r : OpenLaw) (_K : Params → Frag) : Prop := True
theorem pC {α : Type} {a : α} {r l : List α} (h : a ∈ l) (t : ∀ p ∈ r, p ∈ l) : ∀ p ∈ a :: r, p ∈ l := List.forall_mem_cons.mpr ⟨h, t⟩
theorem pA {α : Type} {a b l : List α} (h : ∀ p ∈ a, p ∈ l) (t : ∀ p ∈ b, p ∈ l) : ∀ p ∈ a ++ b, p ∈ l := fun p hp => (List.mem_append.mp hp).elim (h p) (t p)
theorem pN {α : Type} {l : List α} : ∀ p ∈ ([] : List α), p ∈ l := fun _ h => nomatch h
theorem it0 {α : Type} {a : α} {l : List α} : (a :: l)[(0 : Int).toNat]? = some a := rfl
theorem it1 {α : Type} {a b : α} {l : List α} : (a :: b :: l)[(1 : Int).toNat]? = some b := rfl
theorem it2 {α : Type} {a b c : α} {l : List α} : (a :: b :: c :: l)[(2 : Int).toNat]? = some c := rfl
theorem far0 {d n L : Nat} (h : d + n < L) : d < L := Nat.lt_of_le_of_lt (Nat.le_add_right d n) h
theorem far1 {d n a L : Nat} (h : d + n < L) (e : a ≤ n) : d + a < L := Nat.lt_of_le_of_lt (Nat.add_le_add_left e d) h
theorem far2 {d n a b L : Nat} (h : d + n < L) (e : a + b ≤ n) : d + a + b < L := by rw [Nat.add_assoc]; exact far1 h e
theorem far3 {d n a b c L : Nat} (h : d + n < L) (e : a + b + c ≤ n) : d + a + b + c < L := by rw [Nat.add_assoc d a b]; exact far2 h e
theorem far4 {d n a b c f L : Nat} (h : d + n < L) (e : a + b + c + f ≤ n) : d + a + b + c + f < L := by rw [Nat.add_assoc d a b]; exact far3 h e
theorem aN1 {p q : Prop} (h : p ∧ q) : p := h.1
theorem aN2 {p q r : Prop} (h : p ∧ q ∧ r) : q := h.2.1
theorem aN3 {p1 p2 q r : Prop} (h : p1 ∧ p2 ∧ q ∧ r) : q := h.2.2.1
theorem aN4 {p1 p2 p3 q r : Prop} (h : p1 ∧ p2 ∧ p3 ∧ q ∧ r) : q := h.2.2.2.1
theorem aN5 {p1 p2 p3 p4 q r : Prop} (h : p1 ∧ p2 ∧ p3 ∧ p4 ∧ q ∧ r) : q := h.2.2.2.2.1
theorem aN6 {p1 p2 p3 p4 p5 q r : Prop} (h : p1 ∧ p2 ∧ p3 ∧ p4 ∧ p5 ∧ q ∧ r) : q := h.2.2.2.2.2.1
theorem aN7 {p1 p2 p3 p4 p5 p6 q r : Prop} (h : p1 ∧ p2 ∧ p3 ∧ p4 ∧ p5 ∧ p6 ∧ q ∧ r) : q := h.2.2.2.2.2.2.1
theorem aN8 {p1 p2 p3 p4 p5 p6 p7 q r : Prop} (h : p1 ∧ p2 ∧ p3 ∧ p4 ∧ p5 ∧ p6 ∧ p7 ∧ q ∧ r) : q := h.2.2.2.2.2.2.2.1
theorem aN9 {p1 p2 p3 p4 p5 p6 p7 p8 q r : Prop} (h : p1 ∧ p2 ∧ p3 ∧ p4 ∧ p5 ∧ p6 ∧ p7 ∧ p8 ∧ q ∧ r) : q := h.2.2.2.2.2.2.2.2.1
theorem aN10 {p1 p2 p3 p4 p5 p6 p7 p8 p9 q r : Prop} (h : p1 ∧ p2 ∧ p3 ∧ p4 ∧ p5 ∧ p6 ∧ p7 ∧ p8 ∧ p9 ∧ q ∧ r) : q := h.2.2.2.2.2.2.2.2.2.1
theorem aN11 {p1 p2 p3 p4 p5 p6 p7 p8 p9 p10 q r : Prop} (h : p1 ∧ p2 ∧ p3 ∧ p4 ∧ p5 ∧ p6 ∧ p7 ∧ p8 ∧ p9 ∧ p10 ∧ q ∧ r) : q := h.2.2.2.2.2.2.2.2.2.2.1
theorem aN12 {p1 p2 p3 p4 p5 p6 p7 p8 p9 p10 p11 q r : Prop} (h : p1 ∧ p2 ∧ p3 ∧ p4 ∧ p5 ∧ p6 ∧ p7 ∧ p8 ∧ p9 ∧ p10 ∧ p11 ∧ q ∧ r) : q := h.2.2.2.2.2.2.2.2.2.2.2.1
theorem ne_allLt {d : Nat} : ∀ {l : List (Addr × Obj)}, AllLt d l → ∀ p ∈ l, p.1 ≠ d
  | [], _ => fun _ h => nomatch h
  | p :: _, h => fun q hq => (List.mem_cons.mp hq).elim (fun e => e ▸ Nat.ne_of_lt h.1) (ne_allLt h.2 q)
theorem ne_tr {a b c : Nat} (h : b < c) (k : a < b) : c ≠ a := Nat.ne_of_gt (Nat.lt_trans k h)
theorem int_ll {a b c : Int} (h : b ≤ c) (k : a < b) : a < c := Int.lt_of_lt_of_le k h
theorem i_le1 (c : Int) : c ≤ c + 1 := Int.le_add_one (Int.le_refl c)
theorem UpdF.toUpd {d : Addr} {o : Obj} {l : List (Addr × Obj)} {f : Obj → List (Addr × Obj)} (U : UpdF d o l f) (o' : Obj) : Upd d o o' l (f o') := by
  induction U with
  | head h => exact .head h
  | tail h _ ih => exact .tail h ih
theorem UpdF.mem {d : Addr} {o : Obj} {l : List (Addr × Obj)} {f : Obj → List (Addr × Obj)} (U : UpdF d o l f) : (d, o) ∈ l := by
  induction U with
  | head h => exact .head _
  | tail h _ ih => exact .tail _ ih
theorem UpdF.mem' {d : Addr} {o : Obj} {l : List (Addr × Obj)} {f : Obj → List (Addr × Obj)} (U : UpdF d o l f) (o' : Obj) : (d, o') ∈ f o' := by
  induction U with
  | head h => exact .head _
  | tail h _ ih => exact .tail _ ih
theorem UpdF.self {d : Addr} {o : Obj} {l : List (Addr × Obj)} {f : Obj → List (Addr × Obj)} (U : UpdF d o l f) : f o = l := by
  induction U with
  | head h => rfl
  | tail h _ ih => exact congrArg _ ih
theorem fmod_in (x : Int) {b : Int} (h : 0 < b) : 0 ≤ Int.fmod x b ∧ Int.fmod x b < b := ⟨Int.fmod_nonneg_of_pos _ h, Int.fmod_lt_of_pos _ h⟩
theorem UpdF.again {d : Addr} {o : Obj} {l : List (Addr × Obj)} {f : Obj → List (Addr × Obj)} (U : UpdF d o l f) (o' : Obj) : UpdF d o' (f o') f := by
  induction U with
  | head h => exact .head h
  | tail h _ ih => exact .tail h ih
theorem UpdF.off {d b : Addr} {o q : Obj} {l : List (Addr × Obj)} {f : Obj → List (Addr × Obj)} (U : UpdF d o l f) (hb : b ≠ d) (hm : (b, q) ∈ l) (o' : Obj) : (b, q) ∈ f o' := by
  induction U with
  | head h =>
    rcases List.mem_cons.mp hm with e | hm
    · exact absurd (congrArg Prod.fst e) hb
    · exact .tail _ hm
  | tail h _ ih =>
    rcases List.mem_cons.mp hm with e | hm
    · rw [e]; exact .head _
    · exact .tail _ (ih hm)
section
variable {prog : Program} {w : World} {A : Around} {E : Value → Shared → Prop} {s : Shared} {h₀ : Heap} {L l : Addr} {news : List (Addr × Obj)}
theorem itemN {value slice : PySem.Expr} {vs : List Value} {n : Nat} {k : Int} {u : Tok} {v : Value} {Q : Value → Shared → Prop} (N : News h₀ L s.heap news) (hm : (l, listOf vs.toArray n) ∈ news) (h0 : 0 ≤ k) (hhi : k < 2 ^ 63) (hx : vs[k.toNat]? = some v) (h : Q v s)
    (hs : subscripted slice false (.ref l) (.int k u) = operate [.ref l, .int k u] (getItem (.ref l) (.int k u)) := by with_unfolding_all rfl) :
    wpAny (model prog w) A (subscriptTail value slice (.ref l) (.int k u)) Q E s :=
  let hl : s.heap.IsList l vs.toArray := PySem.IsL.isList (n := n) (N _ hm).1
  tail_any hl.typeIs slot_list_getitem.lookup (wpAny_getItem_list hl h0 hhi (by simpa using hx) h) hs
theorem itemT {value slice : PySem.Expr} {vs : List Value} {n : Nat} {k : Int} {u : Tok} {v : Value} {Q : Value → Shared → Prop} (N : News h₀ L s.heap news) (hm : (l, ({ cls := .type "tuple", data := .seq vs.toArray n } : Obj)) ∈ news) (h0 : 0 ≤ k) (hhi : k < 2 ^ 63) (hx : vs[k.toNat]? = some v) (h : Q v s)
    (hs : subscripted slice false (.ref l) (.int k u) = operate [.ref l, .int k u] (getItem (.ref l) (.int k u)) := by with_unfolding_all rfl) :
    wpAny (model prog w) A (subscriptTail value slice (.ref l) (.int k u)) Q E s := by
  have ht : IsTup s.heap l vs.toArray := ⟨_, (N _ hm).1, rfl, n, rfl⟩
  have hlt : k.toNat < vs.length := by
    by_cases hc : k.toNat < vs.length
    · exact hc
    · rw [List.getElem?_eq_none (Nat.le_of_not_lt hc)] at hx; cases hx
  have hn : k < ((vs.toArray.size : Nat) : Int) := by rw [List.size_toArray]; omega
  exact tail_any ht.typeIs slot_tuple_getitem.lookup (getItem_tuple ht (by omega) hhi (seqIndex_of h0 hn) (by simpa using hx) h) hs
theorem getN {vs : List Value} {n : Nat} {k : Int} {u : Tok} {v : Value} {Q : Value → Shared → Prop} (N : News h₀ L s.heap news) (hm : (l, listOf vs.toArray n) ∈ news) (h0 : 0 ≤ k) (hhi : k < 2 ^ 63) (hx : vs[k.toNat]? = some v) (h : Q v s) :
    wpAny (model prog w) A (getItem (.ref l) (.int k u)) Q E s :=
  let hl : s.heap.IsList l vs.toArray := PySem.IsL.isList (n := n) (N _ hm).1
  wpAny_getItem_list hl h0 hhi (by simpa using hx) h
end
abbrev PoolO (fl : Addr) (i : Int) (ti : Tok) (mx : Int) (tm : Tok) (n : Nat) : Obj := listOf #[.ref fl, .int i ti, .int mx tm] n
abbrev tupOf (its : Array Value) (n : Nat) : Obj := { cls := .type "tuple", data := .seq its n }
/-- the ledger bears an object of class C at x whose dict holds v under name -/
def HasA (news : List (Addr × Obj)) (x C : Addr) (name : Str) (v : Value) : Prop :=
  ∃ dx es n, (x, instObj C dx) ∈ news ∧ (dx, dictOf es n) ∈ news ∧ getL name es = some (some v) ∧ handedIn v = true
theorem HasA.mono {news news' : List (Addr × Obj)} {x C : Addr} {name : Str} {v : Value} (h : HasA news x C name v) (hs : ∀ p ∈ news, p ∈ news') : HasA news' x C name v := by
  obtain ⟨dx, es, n, a, b, c, d⟩ := h
  exact ⟨dx, es, n, hs _ a, hs _ b, c, d⟩
section
variable {prog : Program} {w : World} {A : Around} {E : Value → Shared → Prop} {s : Shared} {K : Frag} {x x' C L : Addr} {h₀ : Heap} {m : Str → Option Value} {news : List (Addr × Obj)} {name : Str} {v : Value}
theorem get_has {expr : Bool} {Q : Value → Shared → Prop} {attr : Option Value} {sub : List (Addr × Obj)} (F : Fr h₀ L s.heap m) (X₀ : K.In h₀) (N : News h₀ L s.heap news) (hA : HasA sub x C name v) (hs : ∀ p ∈ sub, p ∈ news)
    (hg : plainGet K C name = true) (hh : hasDictIn K C = true)
    (ha : findIn K (.ref C) name = some attr) (hn : noGet K attr = true) (h : Q v { s with toks := s.toks + 1 }) :
    wpAny (model prog w) A (getAttr (.ref x) name expr) Q E s := by
  obtain ⟨dx, es, n, a, b, c, d⟩ := hA
  exact get_own F X₀ (InstAt.of_news N (hs _ a) (hs _ b)) hg hh ha hn c d h
theorem get_has2 {expr : Bool} {Q : Value → Shared → Prop} {attr : Option Value} {u : Obj → Obj → List (Addr × Obj)} {o₁ o₂ : Obj} (F : Fr h₀ L s.heap m) (X₀ : K.In h₀) (N : News h₀ L s.heap news) (hA : ∀ x y, HasA (u x y) x' C name v) (hs : ∀ p ∈ u o₁ o₂, p ∈ news)
    (hg : plainGet K C name = true) (hh : hasDictIn K C = true)
    (ha : findIn K (.ref C) name = some attr) (hn : noGet K attr = true) (h : Q v { s with toks := s.toks + 1 }) :
    wpAny (model prog w) A (getAttr (.ref x') name expr) Q E s := get_has F X₀ N (hA o₁ o₂) hs hg hh ha hn h
theorem method_has {pl : Sem Bool} {Q : Value × List Value → Shared → Prop} {f : Addr} {dx : Addr} {es : List DictEntry} {n : Nat} {sub : List (Addr × Obj)} (F : Fr h₀ L s.heap m) (X₀ : K.In h₀) (N : News h₀ L s.heap news) (hA : (x, instObj C dx) ∈ sub ∧ (dx, dictOf es n) ∈ sub) (hs : ∀ p ∈ sub, p ∈ news) (hg : plainGet K C name = true)
    (hf : findIn K (.ref C) name = some (some (.ref f))) (ht : isFn K (.ref f) = true) (hl : getL name es = some none) (h : Q (.ref f, [.ref x]) s) : wpAny (model prog w) A (getMethod (.ref x) name pl) Q E s :=
  method_inst F X₀ (InstAt.of_news N (hs _ hA.1) (hs _ hA.2)) hg hf ht hl h
end
/-- two slots of a ledger, each of which may be turned -/
inductive UpdF2 (a b : Addr) (oa ob : Obj) : List (Addr × Obj) → (Obj → Obj → List (Addr × Obj)) → Prop
  | ha {r g} : (∀ p ∈ r, p.1 ≠ a) → UpdF b ob r g → UpdF2 a b oa ob ((a, oa) :: r) (fun x y => (a, x) :: g y)
  | hb {r g} : (∀ p ∈ r, p.1 ≠ b) → UpdF a oa r g → UpdF2 a b oa ob ((b, ob) :: r) (fun x y => (b, y) :: g x)
  | tail {p r g} : p.1 ≠ a → p.1 ≠ b → UpdF2 a b oa ob r g → UpdF2 a b oa ob (p :: r) (fun x y => p :: g x y)
theorem UpdF.ne {d : Addr} {o : Obj} {l : List (Addr × Obj)} {f : Obj → List (Addr × Obj)} (U : UpdF d o l f) {c : Addr} (h : ∀ p ∈ l, p.1 ≠ c) (x : Obj) : ∀ p ∈ f x, p.1 ≠ c := by
  induction U with
  | head _ => exact fun p hp => (List.mem_cons.mp hp).elim (fun e => by subst e; exact h (d, o) (.head _)) fun hp => h p (.tail _ hp)
  | tail _ _ ih => exact fun p hp => (List.mem_cons.mp hp).elim (fun e => by rw [e]; exact h _ (.head _)) fun hp => ih (fun q hq => h q (.tail _ hq)) p hp
def Slots2 (a b : Addr) (f : Obj → Obj → List (Addr × Obj)) : Prop := ∀ x y, UpdF a x (f x y) (fun x' => f x' y) ∧ UpdF b y (f x y) (fun y' => f x y')
theorem UpdF2.self {a b : Addr} {oa ob : Obj} {l : List (Addr × Obj)} {f : Obj → Obj → List (Addr × Obj)} (U : UpdF2 a b oa ob l f) : f oa ob = l := by
  induction U with
  | ha _ u => exact congrArg _ (UpdF.self u)
  | hb _ u => exact congrArg _ (UpdF.self u)
  | tail _ _ _ ih => exact congrArg _ ih
theorem UpdF2.slots {a b : Addr} {oa ob : Obj} {l : List (Addr × Obj)} {f : Obj → Obj → List (Addr × Obj)} (U : UpdF2 a b oa ob l f) : Slots2 a b f := by
  induction U with
  | ha h u => exact fun x y => ⟨.head (UpdF.ne u h y), .tail (fun e => h (_, _) (UpdF.mem u) e.symm) (UpdF.again u y)⟩
  | hb h u => exact fun x y => ⟨.tail (fun e => h (_, _) (UpdF.mem u) e.symm) (UpdF.again u x), .head (UpdF.ne u h x)⟩
  | tail h1 h2 _ ih => exact fun x y => ⟨.tail h1 (ih x y).1, .tail h2 (ih x y).2⟩
section
variable {a b : Addr} {f : Obj → Obj → List (Addr × Obj)} (S : Slots2 a b f)
include S
theorem Slots2.fa {x y : Obj} : UpdF a x (f x y) (fun x' => f x' y) := (S x y).1
theorem Slots2.fb {x y : Obj} : UpdF b y (f x y) (fun y' => f x y') := (S x y).2
theorem Slots2.ua {x y : Obj} (x' : Obj) : Upd a x x' (f x y) (f x' y) := UpdF.toUpd (S x y).1 x'
theorem Slots2.ub {x y : Obj} (y' : Obj) : Upd b y y' (f x y) (f x y') := UpdF.toUpd (S x y).2 y'
theorem Slots2.ma {x y : Obj} : (a, x) ∈ f x y := UpdF.mem (S x y).1
theorem Slots2.mb {x y : Obj} : (b, y) ∈ f x y := UpdF.mem (S x y).2
theorem Slots2.cons {p : Addr × Obj} (h1 : p.1 ≠ a) (h2 : p.1 ≠ b) : Slots2 a b (fun x y => p :: f x y) := fun x y => ⟨.tail h1 (S x y).1, .tail h2 (S x y).2⟩
end
theorem UpdF.addr {d : Addr} {o : Obj} {l : List (Addr × Obj)} {f : Obj → List (Addr × Obj)} (U : UpdF d o l f) (o' : Obj) : (f o').map (·.1) = l.map (·.1) := by
  induction U with
  | head _ => rfl
  | tail _ _ ih => rw [List.map_cons, List.map_cons, ih]
theorem lt_addr {l l' : List (Addr × Obj)} {r : Nat} (e : l'.map (·.1) = l.map (·.1)) (h : ∀ q ∈ l, q.1 < r) : ∀ q ∈ l', q.1 < r := fun q hq => by
  have h1 : q.1 ∈ l.map (·.1) := e ▸ List.mem_map.mpr ⟨q, hq, rfl⟩
  obtain ⟨p, hp, hpe⟩ := List.mem_map.mp h1
  rw [← hpe]; exact h p hp
theorem Slots2.addr {a b : Addr} {f : Obj → Obj → List (Addr × Obj)} (S : Slots2 a b f) (x y x' y' : Obj) : (f x' y').map (·.1) = (f x y).map (·.1) :=
  (UpdF.addr (S x y').1 x').trans (UpdF.addr (S x y).2 y')
theorem Slots2.lt {a b : Addr} {f : Obj → Obj → List (Addr × Obj)} (S : Slots2 a b f) {x y : Obj} {r : Nat} (h : ∀ q ∈ f x y, q.1 < r) (x' y' : Obj) : ∀ q ∈ f x' y', q.1 < r := lt_addr (S.addr x y x' y') h
/-- a dict's object whose keys are the ints ps, its values flat -/
def IsPl (prog : Program) (w : World) (o : Obj) (ps : List Int) : Prop :=
  ∃ kvs D, o.IsDictOf (PySem.intKind prog w) kvs ∧ FlatPairs PyData.int kvs D ∧ D.map (·.1) = ps.map PyData.int
theorem isPl_nil {prog : Program} {w : World} {o : Obj} (a : o.IsDictOf (PySem.intKind prog w) []) : IsPl prog w o [] := ⟨[], [], a, .nil, rfl⟩
theorem pl_any {p : Int} : ∀ {ps : List Int} {D : List (PyData × PyData)}, D.map (·.1) = ps.map PyData.int → p ∉ ps → (D.any fun q => PySem.Spec.same q.1 (PyData.int p)) = false
  | [], [], _, _ => rfl
  | [], _ :: _, e, _ => by cases e
  | _ :: _, [], e, _ => by cases e
  | x :: ps, q :: D, e, h => by
    simp only [List.map_cons, List.cons.injEq] at e
    rw [List.any_cons, e.1, PyProof.V.same_int, pl_any e.2 fun hm => h (.tail _ hm)]
    simp only [Bool.or_false, decide_eq_false_iff_not]
    exact fun hx => h (hx ▸ .head _)
theorem pl_look {p : Int} : ∀ {ps : List Int} {D : List (PyData × PyData)}, D.map (·.1) = ps.map PyData.int → p ∉ ps → PySem.Spec.lookup (.int p) D = none
  | [], [], _, _ => rfl
  | [], _ :: _, e, _ => by cases e
  | _ :: _, [], e, _ => by cases e
  | x :: ps, (k, v) :: D, e, h => by
    simp only [List.map_cons, List.cons.injEq] at e
    show (if PySem.Spec.same k (PyData.int p) = true then some v else PySem.Spec.lookup (PyData.int p) D) = none
    have e1 : k = PyData.int x := e.1
    rw [e1, PyProof.V.same_int, if_neg (by simp only [decide_eq_true_eq]; exact fun hx => h (hx ▸ .head _))]
    exact pl_look e.2 fun hm => h (.tail _ hm)
section
variable {prog : Program} {w : World} {A : Around} {E : Value → Shared → Prop} {s : Shared} {h₀ : Heap} {L d : Addr} {m : Str → Option Value} {news : List (Addr × Obj)} {g : Obj → List (Addr × Obj)} {o : Obj} {ps : List Int} {p : Int} {t : Tok}
theorem pl_notin {Q : Value → Shared → Prop} (N : News h₀ L s.heap news) (hm : (d, o) ∈ news) (lo : (d == sysModules) = false) (hd : IsPl prog w o ps) (hp : p ∉ ps) (h : Q (.bool true) { s with toks := s.toks + 1 }) :
    wpAny (model prog w) A (compareOp .NotIn (.int p t) (.ref d)) Q E s := by
  obtain ⟨kvs, D, a, b, c⟩ := hd
  refine notin_intTab (TabAt.ofNews N hm lo a b) ?_
  rw [pl_look c hp]
  exact h
theorem pl_set {v : Value} {dv : PyData} {Q : Unit → Shared → Prop} (hv : PyProof.V.Flat v dv) (F : Fr h₀ L s.heap m) (N : News h₀ L s.heap news) (U : UpdF d o news g) (hd : IsPl prog w o ps) (hp : p ∉ ps) (hz : ps.length ≤ 1000)
    (h : ∀ h' o', Fr h₀ L h' m → News h₀ L h' (g o') → IsPl prog w o' (ps ++ [p]) → Q () { s with heap := h', toks := s.toks + 1 }) : wpAny (model prog w) A (setItem (.ref d) (.int p t) v) Q E s := by
  obtain ⟨kvs, D, a, b, c⟩ := hd
  refine setItem_K PyProof.V.same_int (intKind_is _ _ _ _) hv F N U a b (fun h' o' F' N' a' b' => h h' o' F' N' ⟨_, _, a', b', ?_⟩) ?_
  · unfold putD
    rw [pl_any c hp, if_neg Bool.false_ne_true, List.map_append, c, List.map_append]
    rfl
  · have e := congrArg List.length c
    rw [List.length_map, List.length_map] at e
    rw [e, sizeLine_eq]
    omega
end
theorem upd_over {a b d : Addr} {f : Obj → Obj → List (Addr × Obj)} (S : Slots2 a b f) {x y o : Obj} (x' : Obj) (h : ∀ p ∈ f x y, p.1 < d) : Upd a x x' ((d, o) :: f x y) ((d, o) :: f x' y) := .tail (Nat.ne_of_gt (h _ S.ma)) (S.ua _)
theorem noPy {x y : Int} (h : y.natAbs < 1099511627776) : Builtin.divisionGoesByPylong x y = false := by
  refine PyProof.noPylong_of_log2 ?_
  by_cases h0 : y.natAbs = 0
  · rw [h0]; decide +kernel
  · have h30 : y.natAbs.log2 < 40 := (Nat.log2_lt h0).mpr h
    omega
/-- an ErrorList at e with its two slots -/
def ErrIn (news : List (Addr × Obj)) (e rl pd : Addr) : Prop :=
  ∃ dx es n, (e, instObj 207 dx) ∈ news ∧ (dx, dictOf es n) ∈ news ∧ getL "rows" es = some (some (.ref rl)) ∧ getL "places" es = some (some (.ref pd)) ∧ getL "mark" es = some none
theorem ErrIn.rows {news : List (Addr × Obj)} {e rl pd : Addr} (h : ErrIn news e rl pd) : HasA news e 207 "rows" (.ref rl) := let ⟨dx, es, n, a, b, c, _, _⟩ := h; ⟨dx, es, n, a, b, c, rfl⟩
theorem ErrIn.places {news : List (Addr × Obj)} {e rl pd : Addr} (h : ErrIn news e rl pd) : HasA news e 207 "places" (.ref pd) := let ⟨dx, es, n, a, b, _, d, _⟩ := h; ⟨dx, es, n, a, b, d, rfl⟩
theorem ErrIn.mono {news news' : List (Addr × Obj)} {e rl pd : Addr} (h : ErrIn news e rl pd) (hs : ∀ p ∈ news, p ∈ news') : ErrIn news' e rl pd := let ⟨dx, es, n, a, b, c⟩ := h; ⟨dx, es, n, hs _ a, hs _ b, c⟩
section
variable {prog : Program} {w : World} {A : Around} {E : Value → Shared → Prop} {s : Shared} {K : Frag} {e rl pd L : Addr} {h₀ : Heap} {m : Str → Option Value} {news : List (Addr × Obj)}
theorem err_mark {pl : Sem Bool} {Q : Value × List Value → Shared → Prop} {f : Addr} {u : Obj → Obj → List (Addr × Obj)} {o₁ o₂ : Obj} (F : Fr h₀ L s.heap m) (X₀ : K.In h₀) (N : News h₀ L s.heap news) (hA : ∀ x y, ErrIn (u x y) e rl pd) (hs : ∀ p ∈ u o₁ o₂, p ∈ news) (hg : plainGet K 207 (Str.ofString "mark") = true)
    (hf : findIn K (.ref 207) (Str.ofString "mark") = some (some (.ref f))) (ht : isFn K (.ref f) = true) (h : Q (.ref f, [.ref e]) s) : wpAny (model prog w) A (getMethod (.ref e) (Str.ofString "mark") pl) Q E s := by
  obtain ⟨dx, es, n, a, b, _, _, c⟩ := hA o₁ o₂
  exact method_inst F X₀ (InstAt.of_news N (hs _ a) (hs _ b)) hg hf ht c h
end
/-- the ledger bears a Node at x -/
structure NodeF (news : List (Addr × Obj)) (x : Addr) (op : Str) (place : Int) (ty kl : Addr) (val : Value) : Prop where
  op : ∃ t, HasA news x 88 "op" (.str op t)
  place : ∃ t, HasA news x 88 "place" (.int place t)
  type : HasA news x 88 "type" (.ref ty)
  kids : HasA news x 88 "kids" (.ref kl)
  value : HasA news x 88 "value" val
theorem NodeF.mono {news news' : List (Addr × Obj)} {x : Addr} {op : Str} {place : Int} {ty kl : Addr} {val : Value} (h : NodeF news x op place ty kl val) (hs : ∀ p ∈ news, p ∈ news') : NodeF news' x op place ty kl val :=
  ⟨let ⟨t, a⟩ := h.op; ⟨t, a.mono hs⟩, let ⟨t, a⟩ := h.place; ⟨t, a.mono hs⟩, h.type.mono hs, h.kids.mono hs, h.value.mono hs⟩
abbrev kE (P : Params) (name : Str) (t : Tok) (v : Value) : DictEntry := ⟨PyData.keyHash P name, .str name t, v⟩
abbrev NodeD (P : Params) (t1 t2 t3 t4 t5 t6 : Tok) (op pl ty ks v : Value) : Obj :=
  dictOf [kE P "op" t1 op, kE P "place" t2 pl, kE P "type" t3 ty, kE P "kids" t4 ks, kE P "value" t5 v, kE P "sure" t6 (.bool false)] 6
theorem nodeF_of {P : Params} {news : List (Addr × Obj)} {x d : Addr} {t1 t2 t3 t4 t5 t6 t7 t8 : Tok} {op : Str} {place : Int} {ty kl : Addr} {val : Value} (h1 : (x, instObj 88 d) ∈ news)
    (h2 : (d, NodeD P t1 t2 t3 t4 t5 t6 (.str op t7) (.int place t8) (.ref ty) (.ref kl) val) ∈ news) (hv : handedIn val = true) : NodeF news x op place ty kl val :=
  ⟨⟨t7, _, _, _, h1, h2, rfl, rfl⟩, ⟨t8, _, _, _, h1, h2, rfl, rfl⟩, ⟨_, _, _, h1, h2, rfl, rfl⟩, ⟨_, _, _, h1, h2, rfl, rfl⟩, ⟨_, _, _, h1, h2, rfl, hv⟩⟩
def TyF (news : List (Addr × Obj)) (ty : Addr) (form : Str) : Prop := ∃ t, HasA news ty 228 "form" (.str form t)
theorem TyF.mono {news news' : List (Addr × Obj)} {ty : Addr} {form : Str} (h : TyF news ty form) (hs : ∀ p ∈ news, p ∈ news') : TyF news' ty form := let ⟨t, a⟩ := h; ⟨t, a.mono hs⟩
theorem UpdF2.ma {a b : Addr} {oa ob : Obj} {l : List (Addr × Obj)} {f : Obj → Obj → List (Addr × Obj)} (U : UpdF2 a b oa ob l f) : (a, oa) ∈ l := by
  have h := U.slots.ma (x := oa) (y := ob)
  rw [U.self] at h
  exact h
theorem UpdF2.mb {a b : Addr} {oa ob : Obj} {l : List (Addr × Obj)} {f : Obj → Obj → List (Addr × Obj)} (U : UpdF2 a b oa ob l f) : (b, ob) ∈ l := by
  have h := U.slots.mb (x := oa) (y := ob)
  rw [U.self] at h
  exact h
theorem UpdF2.over {a b d : Addr} {oa ob o : Obj} {l : List (Addr × Obj)} {f : Obj → Obj → List (Addr × Obj)} (U : UpdF2 a b oa ob l f) (h : ∀ p ∈ l, p.1 < d) : UpdF2 a b oa ob ((d, o) :: l) (fun x y => (d, o) :: f x y) :=
  .tail (Nat.ne_of_gt (h _ U.ma)) (Nat.ne_of_gt (h _ U.mb)) U
theorem errIn_over {u : Obj → Obj → List (Addr × Obj)} {q : Addr × Obj} {e rl pd : Addr} (h : ∀ x y, ErrIn (u x y) e rl pd) : ∀ x y, ErrIn (q :: u x y) e rl pd := fun x y => (h x y).mono fun _ h => .tail _ h
/-- all of new lies above all that the two-slot ledger bears -/
def Ov (new : List (Addr × Obj)) (upd : Obj → Obj → List (Addr × Obj)) : Prop := ∀ q ∈ new, ∀ a b, ∀ r ∈ upd a b, @LT.lt Nat _ r.1 q.1
theorem ov_nil {upd : Obj → Obj → List (Addr × Obj)} : Ov [] upd := fun _ h => nomatch h
theorem ov_one {upd : Obj → Obj → List (Addr × Obj)} {a b : Addr} {x y : Obj} {k : Nat} {o : Obj} (S : Slots2 a b upd) (h : ∀ p ∈ upd x y, p.1 < k) : Ov [(k, o)] upd := fun q hq x y r hr => by
  rw [List.mem_singleton.mp hq]
  exact S.lt h x y r hr
theorem ov_cons {upd : Obj → Obj → List (Addr × Obj)} {k d : Nat} {o o' : Obj} {l : List (Addr × Obj)} (h : Ov ((k, o) :: l) upd) (hd : k < d) : Ov ((d, o') :: (k, o) :: l) upd := fun q hq a b r hr => by
  rcases List.mem_cons.mp hq with e | hq
  · subst e
    exact Nat.lt_trans (h _ (.head _) a b r hr) hd
  · exact h q hq a b r hr
theorem lt_head {u : Obj → Obj → List (Addr × Obj)} {t r : Nat} {o : Obj} (h : ∀ (x y : Obj), ∀ q ∈ (t, o) :: u x y, q.1 < r) (d : Obj) : t < r := h d d _ (.head _)
theorem ov_of {upd u : Obj → Obj → List (Addr × Obj)} {r : Nat} {o : Obj} (h : ∀ (x y : Obj), ∀ q ∈ u x y, q.1 < r) (hs : ∀ x y, ∀ p ∈ upd x y, p ∈ u x y) : Ov [(r, o)] upd := fun q hq x y p hp => by
  rw [List.mem_singleton.mp hq]
  exact h x y p (hs x y p hp)
theorem Ov.drop {new : List (Addr × Obj)} {u upd : Obj → Obj → List (Addr × Obj)} (h : Ov new u) (hs : ∀ x y, ∀ p ∈ upd x y, p ∈ u x y) : Ov new upd := fun q hq x y p hp => h q hq x y p (hs x y p hp)
theorem sub_cons {q : Addr × Obj} {l l' : List (Addr × Obj)} (h : ∀ p ∈ l, p ∈ l') : ∀ p ∈ q :: l, p ∈ q :: l' := fun p hp => (List.mem_cons.mp hp).elim (fun e => e ▸ .head _) fun hp => .tail _ (h p hp)
theorem sub_app {a l l' : List (Addr × Obj)} (h : ∀ p ∈ l, p ∈ l') : ∀ p ∈ a ++ l, p ∈ a ++ l' := fun p hp => (List.mem_append.mp hp).elim (fun hp => List.mem_append.mpr (.inl hp)) fun hp => List.mem_append.mpr (.inr (h p hp))
theorem sadd {op : Str} (h : op.length ≤ 100) : (Str.ofString "s").length + op.length ≤ sizeLine := by
  have e : (Str.ofString "s").length = 1 := by decide +kernel
  rw [e, PySem.sizeLine_eq]
  omega
local macro_rules | `(tactic| walk_at "subscriptTail") => `(tactic| k_extra "subscriptTail")
local macro_rules | `(tactic| walk_at "subscriptTail Name Constant ref int") => `(tactic| k_extra "subscriptTail Name Constant ref int")
local macro_rules | `(tactic| walk_at "getItem ref int") => `(tactic| k_extra "getItem ref int")
local macro_rules | `(tactic| walk_at "call builtin:len") => `(tactic| k_extra "call builtin:len")
local macro_rules | `(tactic| k_updF) => `(tactic| k_extra "X k_updF")
local macro_rules | `(tactic| k_upd) => `(tactic| k_extra "X k_upd")
local macro_rules | `(tactic| k_mem) => `(tactic| k_extra "X k_mem")
local macro_rules | `(tactic| k_enter) => `(tactic| k_extra "X k_enter")
local macro_rules | `(tactic| k_room) => `(tactic| k_extra "X k_room")
local macro_rules | `(tactic| k_units) => `(tactic| k_extra "X k_units")
local macro_rules | `(tactic| walk_at "getAttr ref") => `(tactic| k_extra "getAttr ref")
local macro_rules | `(tactic| size_fits) => `(tactic| k_extra "X size_fits")
local macro_rules | `(tactic| walk_at "binaryOp FloorDiv int int") => `(tactic| k_extra "binaryOp FloorDiv int int")
local macro_rules | `(tactic| ktr_units) => `(tactic| k_extra "X ktr_units")
local macro_rules | `(tactic| ktr_room) => `(tactic| k_extra "X ktr_room")
local macro_rules | `(tactic| k_all) => `(tactic| k_extra "X k_all")
local macro_rules | `(tactic| omega) => `(tactic| k_extra "X omega")
local macro_rules | `(tactic| walk_at "ite") => `(tactic| k_extra "ite")
local macro_rules | `(tactic| walk_at "eval Name") => `(tactic| k_extra "eval Name")
local macro_rules | `(tactic| walk_at "getItem ref str") => `(tactic| k_extra "getItem ref str")
local macro_rules | `(tactic| walk_at "spliced") => `(tactic| k_extra "spliced")
local macro_rules | `(tactic| walk_at "eval Call") => `(tactic| k_extra "eval Call")
local macro_rules | `(tactic| walk_at "isTrue Compare") => `(tactic| k_extra "isTrue Compare")
local macro_rules | `(tactic| walk_at "eval BinOp") => `(tactic| k_extra "eval BinOp")
local macro_rules | `(tactic| walk_at "eval Subscript") => `(tactic| k_extra "eval Subscript")
local macro_rules | `(tactic| walk_at "eval Attribute") => `(tactic| k_extra "eval Attribute")
local macro_rules | `(tactic| walk_at "exec Return") => `(tactic| k_extra "exec Return")
local macro_rules | `(tactic| walk_at "storeName") => `(tactic| k_extra "storeName")
local macro_rules | `(tactic| walk_at "newList") => `(tactic| k_extra "newList")
local macro_rules | `(tactic| walk_at "newTuple") => `(tactic| k_extra "newTuple")
local macro_rules | `(tactic| walk_at "call builtin:list.append") => `(tactic| k_extra "call builtin:list.append")
local macro_rules | `(tactic| walk_at "setAttr ref") => `(tactic| k_extra "setAttr ref")
local macro_rules | `(tactic| walk_at "LeaveK") => `(tactic| k_extra "LeaveK")
local macro_rules | `(tactic| walk_at "execs cons") => `(tactic| k_extra "execs cons")
local macro_rules | `(tactic| walk_at "SeqK") => `(tactic| k_extra "SeqK")
local macro_rules | `(tactic| walk_at "IfK") => `(tactic| k_extra "IfK")
local macro_rules | `(tactic| walk_at "AndK") => `(tactic| k_extra "AndK")
local macro_rules | `(tactic| walk_at "OrK") => `(tactic| k_extra "OrK")
local macro_rules | `(tactic| walk_at "exec If") => `(tactic| k_extra "exec If")
local macro_rules | `(tactic| walk_at "isTrue BoolOp") => `(tactic| k_extra "isTrue BoolOp")
local macro_rules | `(tactic| walk_at "BackK") => `(tactic| k_extra "BackK")
local macro_rules | `(tactic| walk_at "compareOp In") => `(tactic| k_extra "compareOp In")
local macro_rules | `(tactic| walk_at "compareOp IsNot") => `(tactic| k_extra "compareOp IsNot")
local macro_rules | `(tactic| walk_at "compareOp Is") => `(tactic| k_extra "compareOp Is")
local macro_rules | `(tactic| walk_at "MyPost") => `(tactic| k_extra "MyPost")
local macro_rules | `(tactic| walk_at "loadName") => `(tactic| k_extra "loadName")
local macro_rules | `(tactic| walk_at "execs nil") => `(tactic| k_extra "execs nil")
local macro_rules | `(tactic| walk_at "CompEnd") => `(tactic| k_extra "CompEnd")
local macro_rules | `(tactic| walk_at "binaryOp Pow int int") => `(tactic| k_extra "binaryOp Pow int int")
local macro_rules | `(tactic| walk_at "exec For Name Subscript cons nil") => `(tactic| k_extra "exec For Name Subscript cons nil")
local macro_rules | `(tactic| walk_at "exec For Name Name cons nil") => `(tactic| k_extra "exec For Name Name cons nil")
local macro_rules | `(tactic| walk_at "exec For Name Attribute cons nil") => `(tactic| k_extra "exec For Name Attribute cons nil")
local macro_rules | `(tactic| walk_at "exec For Name Call cons nil") => `(tactic| k_extra "exec For Name Call cons nil")
local macro_rules | `(tactic| walk_at "call ref") => `(tactic| k_extra "call ref")
local macro_rules | `(tactic| walk_at "compareOp NotIn int ref") => `(tactic| k_extra "compareOp NotIn int ref")
local macro_rules | `(tactic| walk_at "setItem ref int") => `(tactic| k_extra "setItem ref int")
local macro_rules | `(tactic| walk_at "getMethod ref") => `(tactic| k_extra "getMethod ref")
local macro_rules | `(tactic| walk_at "compareOp LtE") => `(tactic| k_extra "compareOp LtE")
local macro_rules | `(tactic| walk_at "binaryOp Add str str") => `(tactic| k_extra "binaryOp Add str str")
local macro_rules | `(tactic| walk_at "compareOp Lt") => `(tactic| k_extra "compareOp Lt")
local macro_rules | `(tactic| walk_at "binaryOp Mult int int") => `(tactic| k_extra "binaryOp Mult int int")
local macro_rules | `(tactic| walk_at "compareOp NotEq ref ref") => `(tactic| k_extra "compareOp NotEq ref ref")
local macro_rules | `(tactic| walk_at "compareOp Eq ref ref") => `(tactic| k_extra "compareOp Eq ref ref")
local macro_rules | `(tactic| walk_at "eval ListComp") => `(tactic| k_extra "eval ListComp")
local macro_rules | `(tactic| walk_at "compareOp Eq") => `(tactic| k_extra "compareOp Eq")
local macro_rules | `(tactic| k_ne) => `(tactic| k_extra "X k_ne")
local macro_rules | `(tactic| walk_at "MyPostC") => `(tactic| k_extra "MyPostC")
local macro_rules | `(tactic| walk_at "binaryOp Add int int") => `(tactic| k_extra "binaryOp Add int int")
local macro_rules | `(tactic| walk_at "exec Assign cons ListComp") => `(tactic| k_extra "exec Assign cons ListComp")
local macro_rules | `(tactic| walk_at "CompSrc") => `(tactic| k_extra "CompSrc")
local macro_rules | `(tactic| walk_at "CompRest") => `(tactic| k_extra "CompRest")
local macro_rules | `(tactic| walk_at "pyIter ref") => `(tactic| k_extra "pyIter ref")
local macro_rules | `(tactic| k_lt $h:ident) => `(tactic| (replace $h := allLt_of $h; dsimp only [AllLt] at $h:ident))
theorem filled : Fill PySem.Challenge.rw_nu0332_01 Mine.R.heap_1_1 := by
  k_fill
  trivial
/-! base2 -/
theorem mem_of {p : Addr × Obj} {l : List (Addr × Obj)} (h : p ∈ l) : List.Mem p l := h
theorem allIn1 {p : Addr × Obj} {u : Obj → List (Addr × Obj)} {o : Obj} (h : ∀ x, p ∈ u x) : p ∈ u o := h o
theorem allIn2 {p : Addr × Obj} {u : Obj → Obj → List (Addr × Obj)} {o o' : Obj} (h : ∀ x y, p ∈ u x y) : p ∈ u o o' := h o o'
inductive OptV : Option Int → Value → Prop
  | none : OptV none .none
  | some {a : Int} {t : Tok} : OptV (some a) (.int a t)
theorem str_ne {x y z : Str} (h : (x == y) = true) (h2 : (y == z) = false) : (x == z) = false := by rw [beq_iff_eq.mp h]; exact h2
theorem ite_strF {x y : Str} {a b : Prop} (h : (x == y) = false) (h2 : b) : if (x == y) = true then a else b := by rw [h]; exact h2
theorem ite_strneF {x y : Str} {a b : Prop} (h : (x == y) = false) (h1 : a) : if (x != y) = true then a else b := by
  have e : (x != y) = true := by simpa using h
  rw [if_pos e]; exact h1
def zipB : List Arg → List Value → List (Str × Value)
  | a :: as, v :: vs => (a.arg, v) :: zipB as vs
  | _, _ => []
section
variable {prog : Program} {w : World} {M : Model} {A A₀ : Around} {E : Value → Shared → Prop} {s : Shared} {K : Frag} {h₀ base : Heap} {L a : Addr} {m mg mb : Str → Option Value} {cn : Str} {cs : Scope} {ccd : Value} {cl : List (Str × Addr)} {p : Program} {loose : List Str} {mean : ExcName → Option Value}
  {x : Str} {pos : Pos} {v : Value} {Q : Value → Shared → Prop} {news : List (Addr × Obj)}
theorem nameQ (F : Fr h₀ L s.heap m) (hv : m x = some v) (h : Q v s) (hk : cs.kind = .function) (hx : cs.names.lookup x = some .local) (hd : (x == ("__debug__" : Str)) = false) :
    wpAny M A (eval (.Name x pos) (envX cn cs L a ccd cl)) Q E s := nameX_L F hv h hk hx hd
theorem nameQK (F : Fr h₀ L s.heap m) (X : K.In h₀) (T : TopRead p loose mg mb h₀) (e : nsIn K mainGlobals x = some (some v)) (h : Q v s) (hk : cs.kind = .function) (hx : cs.names.lookup x = some .globalImplicit) (hd : (x == ("__debug__" : Str)) = false) :
    wpAny M A (eval (.Name x pos) (envX cn cs L a ccd cl)) Q E s := nameX_K F X T e h hk hx hd
theorem code_pos {env : Env} {outer : List Env} {R : Result → Shared → Prop} {name qual : Str} {params : Arguments} {body : List Stmt} {scope : Scope} {dV kV doc pm cdv ct oc : Value} {an od : Option Addr} {osl : Array (Option Value)} {f : Addr} {args : List Value}
    (B : Below A₀ base outer h₀) (F : Fr h₀ L s.heap m) (X₀ : K.In h₀) (N : News h₀ L s.heap news) (T : Top p loose mean mg mb h₀) (hA : A.frames = some (env :: outer)) (hf : env.frame = some L) (hke : env.scope.kind = .function)
    (ho : K.lookup f = some ⟨oc, od, .func (fnOf name qual params body scope dV kV doc pm an cdv ct), osl⟩) (hcd : codeIn K cdv qual = true) (hroom : A.depth < recursionLimit)
    (hbind : BindsTo s (fnOf name qual params body scope dV kV doc pm an cdv ct) ⟨args, []⟩ (zipB params.args args)) (hloc : ∀ y ∈ zipB params.args args, scope.names.lookup y.1 = some .local)
    (h : ∀ g L' h₁, Fr h₀ L g m → Fr g L' h₁ (fun y => (zipB params.args args).reverse.lookup y) → News g L' h₁ news → Below A base (env :: outer) g → K.In g → Top p loose mean mg mb g →
      wpAny (model prog w) (A.deeper (envOf qual scope L' f cdv)) (execs body (envOf qual scope L' f cdv))
        (fun fl s' => LeaveK h₀ L m g R (match fl with | .ret v => v | _ => .none) s')
        (fun e s' => wpAny (model prog w) (A.deeper (envOf qual scope L' f cdv)) (leaving (envOf qual scope L' f cdv) e) (fun _ s'' => R (.error e) s'') (fun e' s'' => R (.error e') s'') s')
        { s with heap := h₁, toks := s.toks + (zipB params.args args).length })
    (hco : scope.isCoroutine = false) (hgen : scope.isGenerator = false) (hk : scope.kind = .function)
    (hcell : ∀ x ∈ scope.names, x.2 ≠ .cell) : codeAny (model prog w) A (.call (.ref f) ⟨args, []⟩) R s :=
  code_def B F X₀ N T hA hf hke ho hcd hroom hbind hloc h hco hgen hk hcell
end
theorem lk_hd {x : Str} {v : Value} {l : List (Str × Value)} : List.lookup x ((x, v) :: l) = some v := by simp [List.lookup]
theorem lk_tl {x k : Str} {w : Value} {r : Option Value} {l : List (Str × Value)} (h : (x == k) = false) (h2 : List.lookup x l = r) : List.lookup x ((k, w) :: l) = r := by simp only [List.lookup, h]; exact h2
theorem if_hd {x : Str} {a b : Option Value} : (if x = x then a else b) = a := if_pos rfl
theorem if_tl {x y : Str} {a b r : Option Value} (h : (x == y) = false) (h2 : b = r) : (if x = y then a else b) = r := by rw [if_neg (by simpa using h)]; exact h2
theorem i_tt {a b : Prop} {i : Decidable (true = true)} (h : a) : @ite Prop (true = true) i a b := by rw [if_pos rfl]; exact h
theorem i_ff {a b : Prop} {i : Decidable (false = true)} (h : b) : @ite Prop (false = true) i a b := by rw [if_neg Bool.false_ne_true]; exact h
theorem i_True {a b : Prop} {i : Decidable True} (h : a) : @ite Prop True i a b := by rw [if_pos trivial]; exact h
theorem i_False {a b : Prop} {i : Decidable False} (h : b) : @ite Prop False i a b := by rw [if_neg id]; exact h
theorem i_not {c : Bool} {a b : Prop} (h : if c = true then b else a) : if (!c) = true then a else b := by cases c <;> simpa using h
theorem i_split {c : Bool} {a b : Prop} (h1 : c = true → a) (h2 : c = false → b) : if c = true then a else b := by cases c <;> simp_all
theorem i_splitD {c : Prop} [Decidable c] {a b : Prop} (h1 : c → a) (h2 : ¬ c → b) : if decide c = true then a else b := by by_cases h : c <;> simp_all
theorem i_pos {c a b : Prop} {i : Decidable c} (hc : c) (h : a) : @ite Prop c i a b := by rw [if_pos hc]; exact h
theorem i_neg {c a b : Prop} {i : Decidable c} (hc : ¬ c) (h : b) : @ite Prop c i a b := by rw [if_neg hc]; exact h
theorem lookS_hd {x : Str} {d : PyData} {D : List (PyData × PyData)} : PySem.Spec.lookup (.str x) ((.str x, d) :: D) = some d := by
  show (if PySem.Spec.same (PyData.str x) (PyData.str x) = true then some d else _) = _
  rw [PyProof.V.same_str, if_pos (by simp)]
theorem lookS_tl {x y : Str} {d : PyData} {r : Option PyData} {D : List (PyData × PyData)} (h : (y == x) = false) (h2 : PySem.Spec.lookup (.str x) D = r) : PySem.Spec.lookup (.str x) ((.str y, d) :: D) = r := by
  show (if PySem.Spec.same (PyData.str y) (PyData.str x) = true then some d else _) = _
  rw [PyProof.V.same_str, if_neg (by simpa using h)]
  exact h2
theorem lookD_hd {x : Str} {t u : Tok} {n : Int} {r : List (Value × Value)} : PySem.Spec.lookup (.str x) (strData ((.str x t, .int n u) :: r)) = some (.int n) := lookS_hd
theorem lookD_tl {x y : Str} {t : Tok} {v : Value} {r : List (Value × Value)} {q : Option PyData} (h : (y == x) = false) (h2 : PySem.Spec.lookup (.str x) (strData r) = q) : PySem.Spec.lookup (.str x) (strData ((.str y t, v) :: r)) = q := lookS_tl h h2
section
variable {prog : Program} {w : World} {A : Around} {E : Value → Shared → Prop} {s : Shared} {d : Addr} {D : List (PyData × PyData)} {x : Str} {t : Tok} {n : Int} {Q : Value → Shared → Prop}
theorem getS (T : TabAt (strKind prog w) PyData.str s.heap d D) (hl : PySem.Spec.lookup (.str x) D = some (.int n)) (h : ∀ t', Q (.int n t') { s with toks := s.toks + 1 }) : wpAny (model prog w) A (getItem (.ref d) (.str x t)) Q E s :=
  getItem_tab PyProof.V.same_str (strKind_is _ _ _ _) T hl fun v hv => by
    obtain ⟨t', e⟩ := PyProof.V.Flat.int_inv hv
    rw [e]
    exact h t'
end
/-- on the heap hp, from the tokens t on, the tree e gives v, with the tokens t' behind it, and turns nothing else -/
def Ev (M : Model) (A : Around) (env : Env) (hp : Heap) (t : Nat) (e : Expr) (v : Value) (t' : Nat) : Prop :=
  ∀ ⦃Q E : Value → Shared → Prop⦄ ⦃g d o⦄, Q v ⟨hp, g, d, t', o⟩ → wpAny M A (eval e env) Q E ⟨hp, g, d, t, o⟩
/-- the same of an attribute of the value y -/
def Ga (M : Model) (A : Around) (hp : Heap) (y : Value) (x : Str) (v : Value) : Prop :=
  ∀ ⦃Q E : Value → Shared → Prop⦄ ⦃g d o⦄ ⦃t : Nat⦄, Q v ⟨hp, g, d, t + 1, o⟩ → wpAny M A (getAttr y x true) Q E ⟨hp, g, d, t, o⟩
def plainE : Expr → Bool
  | .Starred .. => false
  | _ => true
def simpleC : Const → Bool
  | .int _ => true
  | .str _ => true
  | .none => true
  | _ => false
def isIntC : Expr → Bool
  | .Constant c _ _ => match c with
    | .int _ => true
    | _ => false
  | _ => false
def simpleE : Expr → Bool
  | .Name _ _ => true
  | .Constant c _ _ => simpleC c
  | .Attribute y _ _ => simpleE y
  | .Subscript y i _ => isIntC i && simpleE y
  | _ => false
def simpleL : List Expr → Bool
  | [] => true
  | e :: r => simpleE e && simpleL r
def simple1 : List Expr → Bool
  | e :: _ => simpleE e
  | [] => false
theorem starEach_plain {env : Env} {e : Expr} {es : List Expr} (h : plainE e = true) : starEach (e :: es) env = (false, eval e env) :: starEach es env := by
  cases e <;> first | rfl | cases h
/-- the functions that have a contract here -/
def contracted : Value → Bool
  | .ref a => [42, 49, 63, 70, 88, 99, 106, 113, 120, 127, 134, 141, 148, 155, 162, 169, 303, 310, 317, 324, 331, 336].contains a
  | _ => false
/-- the trees es from the tokens t on: the values that f lays ahead, up to the trees rest -/
inductive Vs (M : Model) (A : Around) (env : Env) (hp : Heap) : Nat → List Expr → (List Value → List Value) → Nat → List Expr → Prop
  | nil {t rest} : Vs M A env hp t rest (fun r => r) t rest
  | cons {t e v t1 es f t2 rest} : Ev M A env hp t e v t1 → plainE e = true → Vs M A env hp t1 es f t2 rest → Vs M A env hp t (e :: es) (fun r => v :: f r) t2 rest
section
variable {M : Model} {prog : Program} {w : World} {A A₀ : Around} {E : Value → Shared → Prop} {K : Frag} {h₀ hp : Heap} {L a : Addr} {m mg mb : Str → Option Value} {cn : Str} {cs : Scope} {ccd : Value} {cl : List (Str × Addr)} {p : Program} {loose : List Str} {mean : ExcName → Option Value}
  {x : Str} {pos xp : Pos} {v u b : Value} {news : List (Addr × Obj)} {t t1 t2 t' : Nat} {env : Env} {e r : Expr} {es rest : List Expr} {f : List Value → List Value}
theorem Ev.name (F : Fr h₀ L hp m) (hv : m x = some v) (hk : cs.kind = .function) (hx : cs.names.lookup x = some .local) (hd : (x == ("__debug__" : Str)) = false) : Ev M A (envX cn cs L a ccd cl) hp t (.Name x pos) v t :=
  fun Q E g d o h => nameQ (s := ⟨hp, g, d, t, o⟩) F hv h hk hx hd
theorem Ev.int {i : Int} {k : Nat} : Ev M A env hp t (.Constant (.int i) k pos) (.int i t) (t + 1) := fun _ _ _ _ _ h => wpAny_Constant_int h
theorem Ev.str {k : Nat} : Ev M A env hp t (.Constant (.str x) k pos) (.str x t) (t + 1) := fun _ _ _ _ _ h => Calls.Constant_str h
theorem Ev.none {k : Nat} : Ev M A env hp t (.Constant .none k pos) .none t := fun _ _ _ _ _ h => wpAny_Constant_none h
theorem Ev.attr {y : Expr} (h : Ev (model prog w) A env hp t y u t1) (hg : Ga (model prog w) A hp u x v)
    (he : eval (.Attribute y x pos) env = (do
      let o ← eval y env
      standAt pos.atName
      let r ← holding [o] (getAttr o x true)
      letTemporaryGo y o r
      pure r) := by with_unfolding_all rfl) : Ev (model prog w) A env hp t (.Attribute y x pos) v (t1 + 1) :=
  fun _ _ _ _ _ hQ => Attribute_any_ (h (hg hQ)) he
theorem Ev.itemT {y : Expr} {l : Addr} {vs : List Value} {n kk : Nat} {k : Int} {p2 : Pos} (h : Ev (model prog w) A env hp t y (.ref l) t1) (N : News h₀ L hp news) (hm : (l, ({ cls := .type "tuple", data := .seq vs.toArray n } : Obj)) ∈ news) (h0 : 0 ≤ k) (hhi : k < 2 ^ 63) (hx : vs[k.toNat]? = some v) :
    Ev (model prog w) A env hp t (.Subscript y (.Constant (.int k) kk p2) pos) v (t1 + 1) := fun Q E g d o hQ => Subscript_ (h (wpAny_Constant_int (Mine.itemT (s := ⟨hp, g, d, t1 + 1, o⟩) N hm h0 hhi hx hQ)))
theorem Ev.itemL {y : Expr} {l : Addr} {vs : List Value} {n kk : Nat} {k : Int} {p2 : Pos} (h : Ev (model prog w) A env hp t y (.ref l) t1) (N : News h₀ L hp news) (hm : (l, listOf vs.toArray n) ∈ news) (h0 : 0 ≤ k) (hhi : k < 2 ^ 63) (hx : vs[k.toNat]? = some v) :
    Ev (model prog w) A env hp t (.Subscript y (.Constant (.int k) kk p2) pos) v (t1 + 1) := fun Q E g d o hQ => Subscript_ (h (wpAny_Constant_int (Mine.itemN (s := ⟨hp, g, d, t1 + 1, o⟩) N hm h0 hhi hx hQ)))
theorem Ga.has {y C : Addr} {attr : Option Value} {sub : List (Addr × Obj)} (F : Fr h₀ L hp m) (X₀ : K.In h₀) (N : News h₀ L hp news) (hA : HasA sub y C x v) (hs : ∀ p ∈ sub, p ∈ news)
    (hg : plainGet K C x = true) (hh : hasDictIn K C = true) (ha : findIn K (.ref C) x = some attr) (hn : noGet K attr = true) : Ga (model prog w) A hp (.ref y) x v :=
  fun Q E g d o t h => get_has (s := ⟨hp, g, d, t, o⟩) F X₀ N hA hs hg hh ha hn h
theorem Ga.own {y C dx : Addr} {attr : Option Value} {es : List DictEntry} {n : Nat} (F : Fr h₀ L hp m) (X₀ : K.In h₀) (N : News h₀ L hp news) (h1 : (y, instObj C dx) ∈ news) (h2 : (dx, dictOf es n) ∈ news)
    (hg : plainGet K C x = true) (hh : hasDictIn K C = true) (ha : findIn K (.ref C) x = some attr) (hn : noGet K attr = true) (hl : getL x es = some (some v)) (hv : handedIn v = true) : Ga (model prog w) A hp (.ref y) x v :=
  fun Q E g d o t h => get_own (s := ⟨hp, g, d, t, o⟩) F X₀ (InstAt.of_news N h1 h2) hg hh ha hn hl hv h
section
variable {Q : Value → Shared → Prop} {g : Array GenState} {d : Drawn} {o : OsState}
theorem ev_use (hs : simpleE e = true) (h : Ev M A env hp t e v t') (k : Q v ⟨hp, g, d, t', o⟩) : wpAny M A (eval e env) Q E ⟨hp, g, d, t, o⟩ := h k
theorem ev_bin {op : Operator} (hs : (simpleE e && simpleE r) = true) (h1 : Ev M A env hp t e v t1) (h2 : Ev M A env hp t1 r b t2) (k : wpAny M A (binaryOp op v b) Q E ⟨hp, g, d, t2, o⟩) : wpAny M A (eval (.BinOp e op r pos) env) Q E ⟨hp, g, d, t, o⟩ := wpAny_BinOp (h1 (h2 k))
theorem ev_sub (hs : (simpleE e && simpleE r) = true) (h1 : Ev M A env hp t e v t1) (h2 : Ev M A env hp t1 r b t2) (k : wpAny M A (subscriptTail e r v b) Q E ⟨hp, g, d, t2, o⟩) : wpAny M A (eval (.Subscript e r pos) env) Q E ⟨hp, g, d, t, o⟩ := Subscript_ (h1 (h2 k))
theorem ev_ret {Q : Flow → Shared → Prop} (hs : simpleE e = true) (h : Ev M A env hp t e v t') (k : Q (.ret v) ⟨hp, g, d, t', o⟩) : wpAny M A (exec (.Return (some e) pos) env) Q E ⟨hp, g, d, t, o⟩ := wpAny_Return_some (h k)
theorem ev_eqs {y z : Str} {ty tz : Tok} {whole : Sem Value} {Q : Bool → Shared → Prop} (hs : (simpleE e && simpleE r) = true) (h1 : Ev (model prog w) A env hp t e (.str y ty) t1) (h2 : Ev (model prog w) A env hp t1 r (.str z tz) t2) (hm : behindInMarks .Eq r = false)
    (k : Q (y == z) ⟨hp, g, d, t2, o⟩) : wpAny (model prog w) A (isTrue (.Compare e [.Eq] [r] pos) env whole) Q E ⟨hp, g, d, t, o⟩ := wpAny_isTrue_Compare1 (h1 (h2 (PyProof.Rows.eq_str (wpAny_truthy_bool k)))) hm
theorem ev_nes {y z : Str} {ty tz : Tok} {whole : Sem Value} {Q : Bool → Shared → Prop} (hs : (simpleE e && simpleE r) = true) (h1 : Ev (model prog w) A env hp t e (.str y ty) t1) (h2 : Ev (model prog w) A env hp t1 r (.str z tz) t2) (hm : behindInMarks .NotEq r = false)
    (k : Q (y != z) ⟨hp, g, d, t2, o⟩) : wpAny (model prog w) A (isTrue (.Compare e [.NotEq] [r] pos) env whole) Q E ⟨hp, g, d, t, o⟩ := wpAny_isTrue_Compare1 (h1 (h2 (PyProof.Rows.ne_str (wpAny_truthy_bool k)))) hm
theorem args_ev {Q : List Value → Shared → Prop} (hs : simple1 es = true) (V : Vs M A env hp t es f t' rest) (k : wpAny M A (spliced (backTo pos (starEach rest env))) (fun r s' => Q (f r) s') E ⟨hp, g, d, t', o⟩) : wpAny M A (spliced (backTo pos (starEach es env))) Q E ⟨hp, g, d, t, o⟩ := by
  clear hs
  induction V generalizing Q with
  | nil => exact k
  | cons h1 h2 _ ih => exact args_cons (h1 (ih k)) (starEach_plain h2)
theorem args_all {Q : List Value → Shared → Prop} (hs : simpleL es = true) (V : Vs M A env hp t es f t' []) (k : Q (f []) ⟨hp, g, d, t', o⟩) : wpAny M A (spliced (backTo pos (starEach es env))) Q E ⟨hp, g, d, t, o⟩ := by
  cases V with
  | nil => exact args_nil k
  | cons h1 h2 h3 => exact args_ev (by simp only [simpleL, Bool.and_eq_true] at hs; exact hs.1) (.cons h1 h2 h3) (args_nil k)
theorem Vs.plain {pos : Pos} (V : Vs M A env hp t es f t' []) : (backTo pos (starEach es env)).any (·.1) = false := by
  generalize hr : ([] : List Expr) = q at V
  induction V with
  | nil => subst hr; rfl
  | cons h1 h2 _ ih => rw [starEach_plain h2]; show (false || (backTo pos (starEach _ env)).any (·.1)) = false; rw [ih hr]; rfl
theorem call_ev {fv : Value} (F : Fr h₀ L hp m) (X : K.In h₀) (T : TopRead p loose mg mb h₀) (he : nsIn K mainGlobals x = some (some fv)) (hk : cs.kind = .function) (hx : cs.names.lookup x = some .globalImplicit) (hd : (x == ("__debug__" : Str)) = false) (hf : keepIn K fv = true) (hc : contracted fv = true) (hs : simpleL es = true)
    (V : Vs (model prog w) A (envX cn cs L a ccd cl) hp t es f t' []) (k : wpAny (model prog w) A (call fv (f [])) Q E ⟨hp, g, d, t', o⟩) : wpAny (model prog w) A (eval (.Call (.Name x xp) es [] pos) (envX cn cs L a ccd cl)) Q E ⟨hp, g, d, t, o⟩ := by
  refine Call_ (nameQK (s := ⟨hp, g, d, t, o⟩) F X T he ?_ hk hx hd)
  have XX : K.In hp := X.keeps F.keep
  cases V with
  | nil => exact callWith_K0 (s := ⟨hp, g, d, t, o⟩) XX hf k
  | cons h1 h2 h3 =>
    refine callWith_of (by rw [starEach_plain h2]; show ((false || (backTo pos (starEach _ _)).any (·.1)) || false) = false; rw [h3.plain]; rfl) (keeps_K hf) ?_
    rw [starEach_plain h2]
    refine evalArgs_plain (?_ : wpAny _ _ (spliced _) _ _ _)
    refine spliced_cons (h1 ?_)
    exact args_all (by simp only [simpleL, Bool.and_eq_true] at hs; exact hs.2) h3 ⟨XX, k⟩
end
end
/-- the texts of written texts -/
def strsOf : List Expr → Option (List Str)
  | [] => some []
  | .Constant (.str x) _ _ :: r => match strsOf r with
    | some ys => some (x :: ys)
    | none => none
  | _ => none
theorem strs_vs {M : Model} {A : Around} {env : Env} {hp : Heap} : ∀ {es : List Expr} {ys : List Str} {t : Nat}, strsOf es = some ys → ∃ vs t', StrsAre vs ys ∧ Vs M A env hp t es (fun r => vs ++ r) t' [] ∧ simpleL es = true ∧ vs.length = es.length
  | [], ys, t, h => by cases h; exact ⟨[], t, .nil, .nil, rfl, rfl⟩
  | e :: r, ys, t, h => by
    unfold strsOf at h
    split at h
    · cases ‹_ :: _ = []›
    · rename_i x k p r' e9
      cases e9
      split at h
      · rename_i ys' e8
        cases h
        obtain ⟨vs, t', a, b, c, d⟩ := strs_vs (M := M) (A := A) (env := env) (hp := hp) (t := t + 1) e8
        exact ⟨.str x t :: vs, t', .cons _ _ a, .cons Ev.str rfl b, by show (simpleE _ && simpleL _) = true; rw [c]; rfl, by simp [d]⟩
      · cases h
    · cases h
section
variable {prog : Program} {w : World} {A : Around} {E : Value → Shared → Prop} {h₀ hp : Heap} {L : Addr} {m : Str → Option Value} {news : List (Addr × Obj)} {env : Env} {e : Expr} {es : List Expr} {ys : List Str} {t t1 : Nat} {x : Str} {tx : Tok} {k : Nat} {pos p2 : Pos} {whole : Sem Value} {Q : Bool → Shared → Prop} {g : Array GenState} {d : Drawn} {o : OsState}
theorem ev_inL (hs : simpleE e = true) (he : strsOf es = some ys) (hz : Nat.ble es.length 1000 = true) (hm : behindInMarks .In (.List es p2) = false) (F : Fr h₀ L hp m) (N : News h₀ L hp news) (h1 : Ev (model prog w) A env hp t e (.str x tx) t1)
    (h : ∀ h' tk, Fr h₀ L h' m → News h₀ L h' news → Q (ys.any (· == x)) ⟨h', g, d, tk, o⟩) : wpAny (model prog w) A (isTrue (.Compare e [.In] [.List es p2] pos) env whole) Q E ⟨hp, g, d, t, o⟩ := by
  obtain ⟨vs, t', a, b, c, l⟩ := strs_vs (M := model prog w) (A := A) (env := env) (hp := hp) (t := t1) he
  refine wpAny_isTrue_Compare1 (h1 (List_ (args_all c b (newList_K (s := ⟨hp, g, d, t', o⟩) F N (fun q h' F' N' _ => ?_) ?_)))) hm
  · exact in_list_strs (vs := vs ++ []) (PySem.IsL.isList (n := 0) (N' _ (.head _)).1) (by rw [List.append_nil]; exact a) (wpAny_truthy_bool (h h' t' F' fun p hp => N' p (.tail _ hp)))
  · rw [List.append_nil, l, sizeLine_eq]; exact Nat.le_trans (Nat.le_of_ble_eq_true hz) (by decide)
theorem ev_inT (hs : simpleE e = true) (he : strsOf es = some ys) (hz : Nat.ble es.length 1000 = true) (hm : behindInMarks .In (.Tuple es k p2) = false) (F : Fr h₀ L hp m) (N : News h₀ L hp news) (h1 : Ev (model prog w) A env hp t e (.str x tx) t1)
    (h : ∀ h' tk, Fr h₀ L h' m → News h₀ L h' news → Q (ys.any (· == x)) ⟨h', g, d, tk, o⟩) : wpAny (model prog w) A (isTrue (.Compare e [.In] [.Tuple es k p2] pos) env whole) Q E ⟨hp, g, d, t, o⟩ := by
  obtain ⟨vs, t', a, b, c, l⟩ := strs_vs (M := model prog w) (A := A) (env := env) (hp := hp) (t := t1) he
  refine wpAny_isTrue_Compare1 (h1 (Tuple_ (args_all c b (kup_newTuple (s := ⟨hp, g, d, t', o⟩) F N (fun q h' F' N' _ => ?_) ?_)))) hm
  · exact in_tuple_strs (t := q) (items := (vs ++ []).toArray) ⟨_, (N' _ (.head _)).1, rfl, _, rfl⟩ (by rw [List.append_nil]; exact a) (wpAny_truthy_bool (h h' t' F' fun p hp => N' p (.tail _ hp)))
  · rw [List.append_nil, l, sizeLine_eq]; exact Nat.le_trans (Nat.le_of_ble_eq_true hz) (by decide)
end
section
variable {M : Model} {prog : Program} {w : World} {A : Around} {E : Value → Shared → Prop} {K : Frag} {h₀ hp : Heap} {L a : Addr} {m m' : Str → Option Value} {cn : Str} {cs : Scope} {ccd : Value} {cl : List (Str × Addr)} {news news' : List (Addr × Obj)} {g : Array GenState} {d : Drawn} {t : Nat} {o : OsState}
theorem storeE {x : Str} {v : Value} {Q : Unit → Shared → Prop} (F : Fr h₀ L hp m) (N : News h₀ L hp news) (hk : cs.kind = .function) (hx : cs.names.lookup x = some .local)
    (h : ∀ h' tk, Fr h₀ L h' (fun y => if y = x then some v else m y) → News h₀ L h' news → Q () ⟨h', g, d, tk, o⟩) : wpAny M A (storeName (envX cn cs L a ccd cl) x v) Q E ⟨hp, g, d, t, o⟩ := storeX_L (s := ⟨hp, g, d, t, o⟩) F N (fun h' a b => h h' _ a b) hk hx
theorem newListE {vs : List Value} {Q : Value → Shared → Prop} (F : Fr h₀ L hp m) (N : News h₀ L hp news) (hz : vs.length ≤ sizeLine)
    (h : ∀ l h', Fr h₀ L h' m → News h₀ L h' ((l, listOf vs.toArray 0) :: news) → (∀ p ∈ news, p.1 < l) → Q (.ref l) ⟨h', g, d, t, o⟩) : wpAny M A (newList vs) Q E ⟨hp, g, d, t, o⟩ := newList_K (s := ⟨hp, g, d, t, o⟩) F N h hz
theorem newTupleE {vs : List Value} {Q : Value → Shared → Prop} (F : Fr h₀ L hp m) (N : News h₀ L hp news) (hz : vs.length ≤ sizeLine)
    (h : ∀ l h', Fr h₀ L h' m → News h₀ L h' ((l, tupOf vs.toArray 0) :: news) → (∀ p ∈ news, p.1 < l) → Q (.ref l) ⟨h', g, d, t, o⟩) : wpAny M A (newTuple vs) Q E ⟨hp, g, d, t, o⟩ := kup_newTuple (s := ⟨hp, g, d, t, o⟩) F N h hz
theorem appendE {D : Addr} {its : Array Value} {n : Nat} {x : Value} {Q : Value → Shared → Prop} (F : Fr h₀ L hp m) (N : News h₀ L hp news) (U : Upd D (listOf its n) (listOf (its.push x) (n + 1)) news news') (hz : its.size ≤ sizeLine)
    (h : ∀ h', Fr h₀ L h' m → News h₀ L h' news' → Q .none ⟨h', g, d, t, o⟩) : wpAny (model prog w) A (call (.builtin "list.append") [.ref D, x]) Q E ⟨hp, g, d, t, o⟩ := append_K (s := ⟨hp, g, d, t, o⟩) F N U h hz
theorem setE {x C dx : Addr} {es es' : List DictEntry} {n n' : Nat} {name : Str} {v : Value} {Q : Unit → Shared → Prop} (F : Fr h₀ L hp m) (X₀ : K.In h₀) (N : News h₀ L hp news) (h1 : (x, instObj C dx) ∈ news) (h2 : (dx, dictOf es n) ∈ news)
    (hs : findIn K (.ref C) "__setattr__" = some (some (.builtin "object.__setattr__"))) (hp' : plainOver K C = true) (ht : takerIn K C name = some none) (hh : hasDictIn K C = true) (hl : (getL name es).isSome = true)
    (e : (putL name (PyData.keyHash w.params name) (.str name (t + 1)) v es, putN name es n) = (es', n')) (U : Upd dx (dictOf es n) (dictOf es' n') news news') (hz : Nat.ble es'.length 1000 = true)
    (h : ∀ h' tk, Fr h₀ L h' m → News h₀ L h' news' → Q () ⟨h', g, d, tk, o⟩) : wpAny (model prog w) A (setAttr (.ref x) name v) Q E ⟨hp, g, d, t, o⟩ :=
  set_dict (s := ⟨hp, g, d, t, o⟩) F X₀ N (InstAt.of_news N h1 h2) rfl hs hp' ht hh hl e U (Nat.le_of_ble_eq_true hz) (fun h' a b => h h' _ a b)
theorem leaveE {g0 : Heap} {L' : Addr} {R : Result → Shared → Prop} {v : Value} (F' : Fr g0 L' hp m') (N' : News g0 L' hp news') (k : Fr h₀ L hp m → News h₀ L hp news' → R (.ok (.ret v)) ⟨hp, g, d, t, o⟩) : LeaveK h₀ L m g0 R v ⟨hp, g, d, t, o⟩ := leaveK_ (s' := ⟨hp, g, d, t, o⟩) F' N' k
end
/-- what is wanted behind a statement: the rest of its block -/
def SeqK (M : Model) (A : Around) (E : Value → Shared → Prop) (env : Env) (Q : Flow → Shared → Prop) (rest : List Stmt) (f : Flow) (s : Shared) : Prop := match f with
  | .next => wpAny M A (execs rest env) Q E s
  | f => Q f s
def IfK (M : Model) (A : Around) (E : Value → Shared → Prop) (env : Env) (Q : Flow → Shared → Prop) (body orelse : List Stmt) (b : Bool) (s : Shared) : Prop := if b = true then wpAny M A (execs body env) Q E s else wpAny M A (execs orelse env) Q E s
def AndK (M : Model) (A : Around) (E : Value → Shared → Prop) (env : Env) (Q : Bool → Shared → Prop) (whole : Sem Value) (pos : Pos) (rest : List Expr) (c : Bool) (s : Shared) : Prop := if c = true then wpAny M A (isTrue (.BoolOp .And rest pos) env whole) Q E s else Q false s
def OrK (M : Model) (A : Around) (E : Value → Shared → Prop) (env : Env) (Q : Bool → Shared → Prop) (whole : Sem Value) (pos : Pos) (rest : List Expr) (c : Bool) (s : Shared) : Prop := if c = true then Q true s else wpAny M A (isTrue (.BoolOp .Or rest pos) env whole) Q E s
def RQ (Q E : Value → Shared → Prop) (r : Result) (s : Shared) : Prop := match r with
  | .ok (.ret v) => Q v s
  | .ok _ => False
  | .error e => E e s
def BackK (h₀ : Heap) (L : Addr) (m : Str → Option Value) (g : Heap) (R : Result → Shared → Prop) (fl : Flow) (s : Shared) : Prop := LeaveK h₀ L m g R (match fl with | .ret v => v | _ => .none) s
abbrev RaiseK (M : Model) (A : Around) (env : Env) (R : Result → Shared → Prop) (e : Value) (s : Shared) : Prop := wpAny M (A.deeper env) (leaving env e) (fun _ s'' => R (.error e) s'') (fun e' s'' => R (.error e') s'') s
section
variable {M : Model} {prog : Program} {w : World} {A A₀ : Around} {E : Value → Shared → Prop} {env : Env} {K : Frag} {h₀ hp base g0 : Heap} {L L' : Addr} {m m' mg mb : Str → Option Value} {news news' : List (Addr × Obj)} {g : Array GenState} {d : Drawn} {t : Nat} {o : OsState} {s : Shared} {p : Program} {loose : List Str} {mean : ExcName → Option Value}
theorem room_make {C : Addr} {vals : List Value} {kw : List (Str × Value)} (h : A.depth + 1 < recursionLimit) : (A.under (.builtin "type.__call__" ⟨.ref C :: vals, kw⟩)).depth < recursionLimit := by rw [depth_under_kw]; exact h
theorem seq_cons {Q : Flow → Shared → Prop} {st : Stmt} {rest : List Stmt} (h : wpAny M A (exec st env) (SeqK M A E env Q rest) E s) : wpAny M A (execs (st :: rest) env) Q E s := wpAny_execs_cons h
theorem seq_next {Q : Flow → Shared → Prop} {rest : List Stmt} (h : wpAny M A (execs rest env) Q E s) : SeqK M A E env Q rest .next s := h
theorem seq_end {Q : Flow → Shared → Prop} (h : Q .next s) : SeqK M A E env Q [] .next s := wpAny_execs_nil h
theorem seq_ret {Q : Flow → Shared → Prop} {rest : List Stmt} {v : Value} (h : Q (.ret v) s) : SeqK M A E env Q rest (.ret v) s := h
theorem seq_brk {Q : Flow → Shared → Prop} {rest : List Stmt} (h : Q .brk s) : SeqK M A E env Q rest .brk s := h
theorem seq_cont {Q : Flow → Shared → Prop} {rest : List Stmt} (h : Q .cont s) : SeqK M A E env Q rest .cont s := h
theorem seq_if {Q : Flow → Shared → Prop} {test : Expr} {body orelse rest : List Stmt} {pos : Pos} (h : wpAny M A (isTrue test env (eval test env)) (IfK M A E env (SeqK M A E env Q rest) body orelse) E s) : wpAny M A (execs (.If test body orelse pos :: rest) env) Q E s := wpAny_execs_cons (wpAny_If h)
theorem if_k {Q : Flow → Shared → Prop} {test : Expr} {body orelse : List Stmt} {pos : Pos} (h : wpAny M A (isTrue test env (eval test env)) (IfK M A E env Q body orelse) E s) : wpAny M A (exec (.If test body orelse pos) env) Q E s := wpAny_If h
theorem ifK_open {Q : Flow → Shared → Prop} {body orelse : List Stmt} {b : Bool} (h : if b = true then wpAny M A (execs body env) Q E s else wpAny M A (execs orelse env) Q E s) : IfK M A E env Q body orelse b s := h
theorem and_k {Q : Bool → Shared → Prop} {x : Expr} {rest : List Expr} {pos : Pos} {whole : Sem Value} (h : wpAny M A (isTrue x env (eval x env)) (AndK M A E env Q whole pos rest) E s) : wpAny M A (isTrue (.BoolOp .And (x :: rest) pos) env whole) Q E s := isTrue_and h
theorem or_k {Q : Bool → Shared → Prop} {x : Expr} {rest : List Expr} {pos : Pos} {whole : Sem Value} (h : wpAny M A (isTrue x env (eval x env)) (OrK M A E env Q whole pos rest) E s) : wpAny M A (isTrue (.BoolOp .Or (x :: rest) pos) env whole) Q E s := isTrue_or h
theorem andK_open {Q : Bool → Shared → Prop} {rest : List Expr} {pos : Pos} {whole : Sem Value} {b : Bool} (h : if b = true then wpAny M A (isTrue (.BoolOp .And rest pos) env whole) Q E s else Q false s) : AndK M A E env Q whole pos rest b s := h
theorem orK_open {Q : Bool → Shared → Prop} {rest : List Expr} {pos : Pos} {whole : Sem Value} {b : Bool} (h : if b = true then Q true s else wpAny M A (isTrue (.BoolOp .Or rest pos) env whole) Q E s) : OrK M A E env Q whole pos rest b s := h
theorem call_rq {f : Value} {pos : List Value} {Q : Value → Shared → Prop} (h : codeAny M A (.call f ⟨pos, []⟩) (RQ Q E) s) : wpAny M A (call f pos []) Q E s := wpAny_call h
theorem backQ {Q E : Value → Shared → Prop} {v : Value} (F' : Fr g0 L' hp m') (N' : News g0 L' hp news') (k : Fr h₀ L hp m → News h₀ L hp news' → Q v ⟨hp, g, d, t, o⟩) : BackK h₀ L m g0 (RQ Q E) (.ret v) ⟨hp, g, d, t, o⟩ := leaveE F' N' k
theorem backN {Q E : Value → Shared → Prop} (F' : Fr g0 L' hp m') (N' : News g0 L' hp news') (k : Fr h₀ L hp m → News h₀ L hp news' → Q .none ⟨hp, g, d, t, o⟩) : BackK h₀ L m g0 (RQ Q E) .next ⟨hp, g, d, t, o⟩ := leaveE F' N' k
theorem backR {R : Result → Shared → Prop} {v : Value} (F' : Fr g0 L' hp m') (N' : News g0 L' hp news') (k : Fr h₀ L hp m → News h₀ L hp news' → R (.ok (.ret v)) ⟨hp, g, d, t, o⟩) : BackK h₀ L m g0 R (.ret v) ⟨hp, g, d, t, o⟩ := leaveE F' N' k
theorem backRN {R : Result → Shared → Prop} (F' : Fr g0 L' hp m') (N' : News g0 L' hp news') (k : Fr h₀ L hp m → News h₀ L hp news' → R (.ok (.ret .none)) ⟨hp, g, d, t, o⟩) : BackK h₀ L m g0 R .next ⟨hp, g, d, t, o⟩ := leaveE F' N' k
theorem codeE {outer : List Env} {R : Result → Shared → Prop} {name qual : Str} {params : Arguments} {body : List Stmt} {scope : Scope} {dV kV doc pm cdv ct oc : Value} {an od : Option Addr} {osl : Array (Option Value)} {f : Addr} {args : List Value}
    (B : Below A₀ base outer h₀) (F : Fr h₀ L hp m) (X₀ : K.In h₀) (N : News h₀ L hp news) (T : Top p loose mean mg mb h₀) (hA : A.frames = some (env :: outer)) (hf : env.frame = some L) (hke : env.scope.kind = .function)
    (ho : K.lookup f = some ⟨oc, od, .func (fnOf name qual params body scope dV kV doc pm an cdv ct), osl⟩) (hcd : codeIn K cdv qual = true) (hroom : A.depth < recursionLimit)
    (hbind : BindsTo ⟨hp, g, d, t, o⟩ (fnOf name qual params body scope dV kV doc pm an cdv ct) ⟨args, []⟩ (zipB params.args args)) (hloc : ∀ y ∈ zipB params.args args, scope.names.lookup y.1 = some .local)
    (hco : scope.isCoroutine = false) (hgen : scope.isGenerator = false) (hk : scope.kind = .function) (hcell : ∀ x ∈ scope.names, x.2 ≠ .cell)
    (h : ∀ g1 L' h₁ tk, Fr h₀ L g1 m → Fr g1 L' h₁ (fun y => (zipB params.args args).reverse.lookup y) → News g1 L' h₁ news → Below A base (env :: outer) g1 → K.In g1 → Top p loose mean mg mb g1 →
      let nK := envOf qual scope L' f cdv
      let aK := A.deeper nK
      wpAny (model prog w) aK (execs body nK) (BackK h₀ L m g1 R) (RaiseK (model prog w) A nK R) ⟨h₁, g, d, tk, o⟩) :
    codeAny (model prog w) A (.call (.ref f) ⟨args, []⟩) R ⟨hp, g, d, t, o⟩ :=
  code_pos (s := ⟨hp, g, d, t, o⟩) B F X₀ N T hA hf hke ho hcd hroom hbind hloc (fun g1 L' h₁ a b c d' e f' => h g1 L' h₁ _ a b c d' e f') hco hgen hk hcell
end
theorem Ga.has2 {M : Model} {prog : Program} {w : World} {A : Around} {K : Frag} {h₀ hp : Heap} {L y C : Addr} {m : Str → Option Value} {x : Str} {v : Value} {news : List (Addr × Obj)} {attr : Option Value} {u : Obj → Obj → List (Addr × Obj)} {o₁ o₂ : Obj} (F : Fr h₀ L hp m) (X₀ : K.In h₀) (N : News h₀ L hp news) (hA : ∀ a b, HasA (u a b) y C x v) (hs : ∀ p ∈ u o₁ o₂, p ∈ news)
    (hg : plainGet K C x = true) (hh : hasDictIn K C = true) (ha : findIn K (.ref C) x = some attr) (hn : noGet K attr = true) : Ga (model prog w) A hp (.ref y) x v := Ga.has F X₀ N (hA o₁ o₂) hs hg hh ha hn
/-! rules2 -/
def optD : Option Int → PyData
  | none => .none
  | some a => .int a
theorem optV_reads {h : Heap} {o : Option Int} {v : Value} (H : OptV o v) : Reads h v (optD o) [] := by
  cases H with
  | none => exact .none
  | some => exact .int _ _
section
variable {prog : Program} {w : World} {A : Around} {E : Value → Shared → Prop} {s : Shared} {h₀ : Heap} {L l : Addr} {news : List (Addr × Obj)} {a b : Value} {v1 v2 : Option Int} {n : Nat} {Q : Value → Shared → Prop}
theorem in_none (N : News h₀ L s.heap news) (hm : (l, listOf [a, b].toArray n) ∈ news) (h1 : OptV v1 a) (h2 : OptV v2 b) (hu : A.units + 64 < cLine)
    (kt : v1 = none ∨ v2 = none → Q (.bool true) s) (kf : ∀ x t y u, v1 = some x → v2 = some y → a = .int x t → b = .int y u → Q (.bool false) s) :
    wpAny (model prog w) A (compareOp .In .none (.ref l)) Q E s := by
  have e1 : (optD v1).canLay0 = true := by cases v1 <;> rfl
  have e2 : (optD v2).canLay0 = true := by cases v2 <;> rfl
  refine PySem.SeqAt.in_list_reads (xs := [optD v1, optD v2]) (d := .none) (reads_list_at (N _ hm).1 rfl rfl (.cons (optV_reads h1) (.cons (optV_reads h2) .nil))) .none (by simp [PyData.canLayAll0, e1, e2]) rfl ?_ ?_
  · show A.units + 1 + min _ 0 < cLine
    omega
  · cases h1 with
    | none => exact kt (.inl rfl)
    | some => cases h2 with
      | none => exact kt (.inr rfl)
      | some => exact kf _ _ _ _ rfl rfl rfl rfl
theorem isNot_none (h : OptV v1 a) (kf : v1 = none → a = .none → Q (.bool false) s) (kt : ∀ x t, v1 = some x → a = .int x t → Q (.bool true) s) : wpAny (model prog w) A (compareOp .IsNot a .none) Q E s := by
  cases h with
  | none => exact wpAny_isNot_self rfl (kf rfl rfl)
  | some => exact wpAny_isNot_other rfl (by intro e; cases e) (kt _ _ rfl rfl)
theorem is_none (h : OptV v1 a) (kf : v1 = none → a = .none → Q (.bool true) s) (kt : ∀ x t, v1 = some x → a = .int x t → Q (.bool false) s) : wpAny (model prog w) A (compareOp .Is a .none) Q E s := by
  cases h with
  | none => exact wpAny_is_self rfl (kf rfl rfl)
  | some => exact wpAny_is_other rfl (by intro e; cases e) (kt _ _ rfl rfl)
end
/-! loops -/
section
variable {h₀ h h' h1 : Heap} {L c n : Nat} {m : Str → Option Value} {l : List (Addr × Obj)} {a : Addr} {o : Obj}
/-- what lies under n stands as it stood -/
def Kp (n : Nat) (h h' : Heap) : Prop := ∀ (q : Nat) o, q < n → h.get? q = some o → h'.get? q = some o
theorem Kp.trans (a : Kp n h h1) (b : Kp n h1 h') : Kp n h h' := fun q o hq e => b q o hq (a q o hq e)
theorem Kp.of_ext (k : ∀ q o, h.get? q = some o → h'.get? q = some o) : Kp n h h' := fun q o _ e => k q o e
theorem Kp.of_but (hc : n ≤ c) (k : ∀ q o, q ≠ c → h.get? q = some o → h'.get? q = some o) : Kp n h h' := fun q o hq e => k q o (Nat.ne_of_lt (Nat.lt_of_lt_of_le hq hc)) e
theorem Kp.of_same (hc : n ≤ c) (k : Heap.SameBut c h h') : Kp n h h' := Kp.of_but hc k.extBut
theorem Kp.of_in (hc : n ≤ c) (k : ∀ q o, q ∉ [c] → h.get? q = some o → h'.get? q = some o) : Kp n h h' := Kp.of_but hc fun q o hq e => k q o (fun hm => hq (List.mem_singleton.mp hm)) e
theorem Kp.fr (k : Kp n h h') (hl : L < n) (F : Fr h₀ L h m) : Fr h₀ L h' m := ⟨F.ns.at' fun o e => k _ o hl e, fun q o e => k q o (Nat.lt_of_lt_of_le (Heap.lt_size e) (Nat.le_trans F.above (Nat.le_of_lt hl))) (F.keep q o e), F.above⟩
theorem Kp.nws (k : Kp n h h') (hn : ∀ p ∈ l, @LT.lt Nat _ p.1 n) (N : News h₀ L h l) : News h₀ L h' l := fun p hp => ⟨k _ _ (hn p hp) (N p hp).1, (N p hp).2⟩
theorem fresh (F : Fr h₀ L h' m) (hl : L < c) : h₀.get? c = none := by
  cases e : h₀.get? c with
  | none => rfl
  | some o' => exact absurd (Heap.lt_size e) (Nat.not_lt.mpr (Nat.le_trans F.above (Nat.le_of_lt hl)))
theorem nC (h1 : h.get? a = some o) (hl : @LT.lt Nat _ L a) (F : Fr h₀ L h' m) (t : News h₀ L h l) : News h₀ L h ((a, o) :: l) := List.forall_mem_cons.mpr ⟨⟨h1, Nat.ne_of_gt hl, fresh F hl⟩, t⟩
theorem nT {p : Addr × Obj} (N : News h₀ L h (p :: l)) : News h₀ L h l := fun q hq => N q (.tail _ hq)
theorem nH (N : News h₀ L h ((a, o) :: l)) : h.get? a = some o := (N _ (.head _)).1
theorem fr_same (F : Fr h₀ L h m) (hl : L < c) (k : Heap.SameBut c h h') : Fr h₀ L h' m := Kp.fr (n := c) (Kp.of_same (Nat.le_refl _) k) hl F
end
theorem small_zs {zs : List Value} {i n : Nat} (h : zs.length ≤ i) (h2 : i < n) (h3 : n ≤ 1000) : zs.toArray.size ≤ sizeLine := by
  rw [List.size_toArray, PySem.sizeLine_eq]
  exact Nat.le_trans h (Nat.le_trans (Nat.le_of_lt h2) (Nat.le_trans h3 (by decide)))
theorem snoc_len {zs : List Value} {i : Nat} {v : Value} (h : zs.length ≤ i) : (zs ++ [v]).length ≤ i + 1 := by rw [List.length_append, List.length_singleton]; exact Nat.succ_le_succ h
theorem push_lt {h : Heap} {o : Obj} : @LT.lt Nat _ h.objs.size (h.push o).objs.size := by rw [Heap.size_push]; exact Nat.lt_succ_self _
theorem sub_lt {n i : Nat} (h : i < n) : n + 1 - (i + 1) < n + 1 - i := Nat.sub_succ_lt_self _ _ (Nat.lt_succ_of_lt h)
/-- a turn's end under a loop whose iterator lies at I -/
inductive MyEnd (h₀ : Heap) (L : Addr) (J : (Str → Option Value) → List (Addr × Obj) → Prop) (I : Addr) (oI : Obj) (s₁ : Shared) : Shared → Prop
  | intro {h' : Heap} {tk : Nat} {m' : Str → Option Value} {nx : List (Addr × Obj)} (F : Fr h₀ L h' m') (N : News h₀ L h' ((I, oI) :: nx)) (hn : ∀ p ∈ nx, p.1 ≠ I) (hj : J m' nx) : MyEnd h₀ L J I oI s₁ { s₁ with heap := h', toks := tk }
def MyPost (h₀ : Heap) (L : Addr) (J : (Str → Option Value) → List (Addr × Obj) → Prop) (I : Addr) (oI : Obj) (s₁ : Shared) (Q : Flow → Shared → Prop) (f : Flow) (s₂ : Shared) : Prop :=
  match f with
  | .ret v => Q (.ret v) s₂
  | .brk => Q .next s₂
  | _ => MyEnd h₀ L J I oI s₁ s₂
section
variable {prog : Program} {w : World} {A : Around} {E : Value → Shared → Prop} {s : Shared} {env : Env} {h₀ : Heap} {x : Str} {body : List Stmt} {Q : Flow → Shared → Prop} {m₀ : Str → Option Value} {news : List (Addr × Obj)}
theorem my_loop {I : Addr} {fp : List Addr} {n : Nat} {P : Nat → Value → Prop} {St : Nat → Heap → Prop} {ob : Obj} (J : Nat → (Str → Option Value) → List (Addr × Obj) → Prop) (W : Walks prog w A I fp [I] n P St) (hL : @LT.lt Nat _ env.locals I) (hfp : env.locals ∉ fp) (hst : St 0 s.heap)
    (F : Fr h₀ env.locals s.heap m₀) (N : News h₀ env.locals s.heap news) (hlt : ∀ p ∈ news, @LT.lt Nat _ p.1 I) (hj : J 0 m₀ news) (hI : ∀ i h, St i h → ∃ o, h.get? I = some o) (hown : ∀ b ∈ fp, b = I ∨ ∀ i m nx, J i m nx → (b, ob) ∈ nx)
    (turn : ∀ i v m₁ nx h tk oI, i < n → P i v → J i m₁ nx → (∀ p ∈ nx, p.1 ≠ I) → Fr h₀ env.locals h (fun y => if y = x then some v else m₁ y) → News h₀ env.locals h ((I, oI) :: nx) →
      wpAny (model prog w) A (execs body env) (MyPost h₀ env.locals (J (i + 1)) I oI { s with heap := h, toks := tk } Q) E { s with heap := h, toks := tk })
    (done : ∀ m₁ nx h tk, J n m₁ nx → Fr h₀ env.locals h m₁ → News h₀ env.locals h nx → Q .next { s with heap := h, toks := tk }) :
    LoopAtV prog w A h₀ env x body Q E (.ref I) s := by
  refine ⟨I, fp, [I], n, P, St, m₀, news, J, rfl, W, hfp, fun b hb => List.mem_singleton.mp hb ▸ fresh F hL, fun p hp hm => Nat.ne_of_lt (hlt p hp) (List.mem_singleton.mp hm), hst, F, N, hj, ?_, fun h' tk m' nx F' N' _ hJ => done m' nx h' tk hJ F' N'⟩
  rintro i v m₁ nx _ own ⟨hh', tk', rfl⟩ hin hP hJ hoff hown' hget hall hst F₁ N₁
  refine (hI _ _ hst).elim fun oI hoI => ?_
  have hmem := hall I (W.sub I List.mem_cons_self) (fresh F hL) _ hoI
  refine wpAny_mono (turn i v m₁ nx hh' tk' oI hin hP hJ (fun p hp e => hoff p hp (List.mem_singleton.mpr e)) F₁ (List.forall_mem_cons.mpr ⟨N₁ _ (List.mem_append_left _ hmem), fun p hp => N₁ p (List.mem_append_right _ hp)⟩)) (fun f s₂ p => ?_) fun _ _ e => e
  have fin : MyEnd h₀ env.locals (J (i + 1)) I oI { s with heap := hh', toks := tk' } s₂ → LoopStepU h₀ env.locals [I] own (J (i + 1)) { s with heap := hh', toks := tk' } .next s₂ := fun
    | .intro F' N' hn' hm => .intro F' (fun p hp => (List.mem_append.mp hp).elim (fun hp => (hown p.1 (hown' p hp)).elim
        (fun e => (Prod.ext e (Option.some.inj ((hget p hp).symm.trans (e ▸ hoI))) : p = (I, oI)) ▸ N' _ (.head _))
        fun e => (Prod.ext rfl (Option.some.inj ((hget p hp).symm.trans (N₁ _ (List.mem_append_right _ (e _ _ _ hJ))).1)) : p = (p.1, ob)) ▸ N' _ (.tail _ (e _ _ _ hm))) fun hp => N' p (.tail _ hp)) (fun p hp hI => hn' p hp (List.mem_singleton.mp hI)) hm
  cases f with
  | ret v => exact .ret p
  | brk => exact .brk p
  | next => exact .next (fin p)
  | cont => exact .cont (fin p)
theorem my_range {r : Addr} {a₀ b₀ : Int} {t₀ u₀ v₀ : Tok} {n : Nat} (J : Nat → (Str → Option Value) → List (Addr × Obj) → Prop)
    (hh : A.handled = none) (hr : IsRange s.heap r a₀ b₀ 1 t₀ u₀ v₀) (hsmall : Builtin.Range.small a₀ b₀ 1 = true) (hn : Builtin.Range.rangeSize a₀ b₀ 1 = (n : Int)) (F : Fr h₀ env.locals s.heap m₀) (N : News h₀ env.locals s.heap news) (hj : J 0 m₀ news)
    (turn : ∀ (i : Nat) t m₁ nx h tk I oI, i < n → J i m₁ nx → (∀ p ∈ nx, p.1 ≠ I) → Fr h₀ env.locals h (fun y => if y = x then some (.int (a₀ + (i : Int)) t) else m₁ y) → News h₀ env.locals h ((I, oI) :: nx) →
      wpAny (model prog w) A (execs body env) (MyPost h₀ env.locals (J (i + 1)) I oI { s with heap := h, toks := tk } Q) E { s with heap := h, toks := tk })
    (done : ∀ m₁ nx h tk, J n m₁ nx → Fr h₀ env.locals h m₁ → News h₀ env.locals h nx → Q .next { s with heap := h, toks := tk }) :
    wpAny (model prog w) A (pyIter (.ref r)) (fun it s₂ => LoopAtV prog w A h₀ env x body Q E it s₂) E s := by
  refine wpAny_pyIter_range hr hsmall (my_loop (ob := default) J (Walks.range hh _ a₀ 1 n) F.ns.lt (fun hm => Nat.ne_of_lt F.ns.lt (List.mem_singleton.mp hm)) (by show IsRangeIter _ _ _ _ _; rw [hn]; simpa using Heap.get?_push_size _ rfl) (F.push _) (fun p hp => ⟨Heap.get?_push_of_some _ (N p hp).1, (N p hp).2⟩) (fun p hp => Heap.lt_size (N p hp).1) hj (fun _ _ h => ⟨_, h⟩) (fun b hb => .inl (List.mem_singleton.mp hb)) (fun i v m₁ nx h tk oI hi hP hJ hoff F' N' => ?_) done)
  refine hP.elim fun t ht => turn i t m₁ nx h tk _ oI hi hJ hoff ?_ N'
  rw [ht, Int.mul_one] at F'
  exact F'
theorem my_list {l : Addr} {vs : List Value} {nl : Nat} (J : Nat → (Str → Option Value) → List (Addr × Obj) → Prop) (hl : ∀ i m nx, J i m nx → (l, listOf vs.toArray nl) ∈ nx)
    (hh : A.handled = none) (F : Fr h₀ env.locals s.heap m₀) (N : News h₀ env.locals s.heap news) (hj : J 0 m₀ news)
    (turn : ∀ (i : Nat) v m₁ nx h tk I oI, vs[i]? = some v → J i m₁ nx → (∀ p ∈ nx, p.1 ≠ I) → Fr h₀ env.locals h (fun y => if y = x then some v else m₁ y) → News h₀ env.locals h ((I, oI) :: nx) →
      wpAny (model prog w) A (execs body env) (MyPost h₀ env.locals (J (i + 1)) I oI { s with heap := h, toks := tk } Q) E { s with heap := h, toks := tk })
    (done : ∀ m₁ nx h tk, J vs.length m₁ nx → Fr h₀ env.locals h m₁ → News h₀ env.locals h nx → Q .next { s with heap := h, toks := tk }) :
    wpAny (model prog w) A (pyIter (.ref l)) (fun it s₂ => LoopAtV prog w A h₀ env x body Q E it s₂) E s := by
  have hm0 := N _ (hl _ _ _ hj)
  have hls : s.heap.IsList l vs.toArray := PySem.IsL.isList (n := nl) hm0.1
  have hlt : l < s.heap.objs.size := Heap.lt_size hm0.1
  exact wpAny_pyIter_list hls (my_loop (n := vs.length) (ob := listOf vs.toArray nl) J (Walks.list hh _ l (Nat.ne_of_lt hlt) vs.toArray) F.ns.lt (fun hm => (List.mem_cons.mp hm).elim (Nat.ne_of_lt F.ns.lt) fun hm => hm0.2.1 (List.mem_singleton.mp hm).symm) ⟨⟨_, Heap.get?_push_size _ rfl, rfl, rfl⟩, hls.at fun o e => Heap.get?_push_of_some _ e⟩ (F.push _) (fun p hp => ⟨Heap.get?_push_of_some _ (N p hp).1, (N p hp).2⟩) (fun p hp => Heap.lt_size (N p hp).1) hj
    (fun _ _ h => h.1.elim fun o ho => ⟨o, ho.1⟩) (fun b hb => (List.mem_cons.mp hb).imp id fun hm i m nx hJ => (List.mem_singleton.mp hm : b = l).symm ▸ hl i m nx hJ) (fun i v m₁ nx h tk oI _ hP hJ hoff F' N' => turn i v m₁ nx h tk _ oI (by simpa using hP) hJ hoff F' N') done)
end
/-! loops2 -/
theorem off1 {I a : Nat} {o : Obj} {l : List (Addr × Obj)} (h : ∀ p ∈ (a, o) :: l, p.1 ≠ I) : @Ne Nat a I ∧ ∀ p ∈ l, p.1 ≠ I := ⟨h (a, o) (.head _), fun p hp => h p (.tail _ hp)⟩
/-! pick -/
theorem reg1 : True := by
  w_top off
  k_with_none
  (k_with "subscriptTail" => ((k_here; (with_reducible show wpAny _ _ (subscriptTail _ _ (Value.ref _) (Value.int _ _)) _ _ _); k_dflt (refine' itemN ?k1_1 ?k2_1 ?k3_1 ?k4_1 ?k5_1 ?_ ?k6_1; (case k1_1 => k_asm); (case k2_1 => k_mem); (case k3_1 => decide); (case k4_1 => decide); (case k5_1 => rfl); (case k6_1 => with_unfolding_all rfl); k_whole))))
  (k_with "subscriptTail" => ((k_here; (with_reducible show wpAny _ _ (subscriptTail _ _ (Value.ref _) (Value.int _ _)) _ _ _); k_dflt (refine' itemT ?k1_2 ?k2_2 ?k3_2 ?k4_2 ?k5_2 ?_ ?k6_2; (case k1_2 => k_asm); (case k2_2 => k_mem); (case k3_2 => decide); (case k4_2 => decide); (case k5_2 => rfl); (case k6_2 => with_unfolding_all rfl); k_whole))))
  (k_with "subscriptTail Name Constant ref int" => ((k_here; k_dflt (first | (refine' itemT ?k1_3 ?k2_3 ?k3_3 ?k4_3 ?k5_3 ?_ ?k6_3; (case k1_3 => k_asm); (case k2_3 => k_mem); (case k3_3 => decide); (case k4_3 => decide); (case k5_3 => rfl); (case k6_3 => with_unfolding_all rfl); k_whole) | (refine' itemN ?k1_3 ?k2_3 ?k3_3 ?k4_3 ?k5_3 ?_ ?k6_3; (case k1_3 => k_asm); (case k2_3 => k_mem); (case k3_3 => decide); (case k4_3 => decide); (case k5_3 => rfl); (case k6_3 => with_unfolding_all rfl); k_whole)))))
  (k_with "getItem ref int" => ((k_here; k_dflt (refine' getN ?k1_4 ?k2_4 ?k3_4 ?k4_4 ?k5_4 ?_; (case k1_4 => k_asm); (case k2_4 => k_mem); (case k3_4 => decide); (case k4_4 => decide); (case k5_4 => rfl); k_whole))))
  (k_with "call builtin:len" => ((k_here; (with_reducible show wpAny _ _ (call (Value.builtin "len") [Value.ref _]) _ _ _); k_dflt (refine' kst_len ?k1_5 ?k2_5 ?k3_5 ?k4_5 ?_; (case k1_5 => k_asm); (case k2_5 => k_mem); (case k3_5 => first | exact IntsAre.length (by assumption) | assumption); (case k4_5 => omega); k_whole))))
  (k_with "X k_updF" => (with_reducible assumption))
  (k_with "X k_upd" => (exact UpdF.toUpd (by assumption) _))
  (k_with "X k_mem" => (exact UpdF.mem (by assumption)))
  (k_with "X k_mem" => (exact UpdF.mem' (by assumption) _))
  (k_with "X k_enter" => ((refine' code_def ?k1_10 ?k2_10 ?k3_10 ?k4_10 ?k5_10 ?kA_10 ?kF_10 ?kK_10 ?k6_10 ?k7_10 ?k8_10 ?k9_10 ?kB_10 ?_ ?c2_10 ?c3_10 ?c4_10 ?c5_10; (case kA_10 => exact rfl); (case kF_10 => exact rfl); (case kK_10 => first | exact rfl | assumption); (case k1_10 => k_asm); (case k2_10 => k_asm); (case k3_10 => k_asm); (case k4_10 => k_asm); (case k5_10 => k_asm); (case k6_10 => k_is); (case k7_10 => k_is); (case k8_10 => ktr_room); (case k9_10 => first | exact BindsTo.of_eq rfl | exact binds_K (by k_in) rfl (by k_is) rfl rfl rfl | fail "k_enter: no rule for these arguments"); (case c5_10 => decide); (case kB_10 => exact locs rfl); (case c2_10 => exact rfl); (case c3_10 => exact rfl); (case c4_10 => exact rfl); k_whole; intro g' L' h' FG' F' N' B' X' T'; (try dsimp only); (try k_lift B'); (try k_fold))))
  (k_with "X k_room" => (ktr_room))
  (k_with "X k_units" => (ktr_units))
  (k_with "getAttr ref" => ((k_here; k_dflt (first
  | refine' get_has ?k1_13 ?k2_13 ?k3_13 ?k4_13 ?k5_13 ?k6_13 ?k7_13 ?k8_13 ?k9_13 ?_; (case k1_13 => k_asm); (case k2_13 => k_asm); (case k3_13 => k_asm); (case k4_13 => with_reducible assumption); (case k5_13 => first | exact fun _ h => h | (intro p hp; repeat (first | exact hp | apply List.mem_cons_of_mem))); (case k6_13 => k_is); (case k7_13 => k_is); (case k8_13 => k_is); (case k9_13 => k_is); k_whole
  | refine' get_has2 ?k1_13 ?k2_13 ?k3_13 ?k4_13 ?k5_13 ?k6_13 ?k7_13 ?k8_13 ?k9_13 ?_; (case k1_13 => k_asm); (case k2_13 => k_asm); (case k3_13 => k_asm); (case k4_13 => with_reducible assumption); (case k5_13 => first | exact fun _ h => h | (intro p hp; repeat (first | exact hp | apply List.mem_cons_of_mem))); (case k6_13 => k_is); (case k7_13 => k_is); (case k8_13 => k_is); (case k9_13 => k_is); k_whole))))
  (k_with "X size_fits" => ((simp only [List.size_toArray, PySem.sizeLine_eq]; omega)))
  (k_with "binaryOp FloorDiv int int" => ((refine floordiv_int ?_ ?_ (Or.inl (noPy (by omega))); first | decide | omega)))
  (k_with "MINE sub" => (first | exact fun _ h => h | (intro p hp; repeat (first | exact hp | apply List.mem_cons_of_mem))))
  (k_with "MINE subxy" => ((intro x y p hp; repeat (first | exact hp | apply List.mem_cons_of_mem))))
  (k_with "X ktr_units" => (first | k_dflt (first | exact far2 (by with_reducible assumption) (by decide) | exact far1 (by with_reducible assumption) (by decide)) | (have hcL9 := cLine_is; ((try simp only [units_under_make, units_in1, units_deeper, Around.mark_units, units_caller]); (try dsimp only [ktrTop]); omega))))
  (k_with "X ktr_room" => (first | k_dflt (first | exact far2 (by with_reducible assumption) (by decide) | exact far1 (by with_reducible assumption) (by decide)) | ((with_reducible refine room_make ?_); k_dflt (first | exact far2 (by with_reducible assumption) (by decide) | exact far3 (by with_reducible assumption) (by decide) | exact far1 (by with_reducible assumption) (by decide)))))
  (k_with "X k_all" => (k_dflt exact ne_allLt (by assumption)))
  (k_with "MINE ar" => (with_reducible (first | assumption | exact aN1 (by assumption) | exact aN2 (by assumption) | exact aN3 (by assumption) | exact aN4 (by assumption) | exact aN5 (by assumption) | exact aN6 (by assumption) | exact aN7 (by assumption) | exact aN8 (by assumption) | exact aN9 (by assumption) | exact aN10 (by assumption) | exact aN11 (by assumption) | exact aN12 (by assumption))))
  (k_with "X omega" => (first | with_reducible assumption | (with_reducible refine Nat.ne_of_gt ?_; walk_at "MINE ar") | (with_reducible refine Nat.ne_of_lt ?_; walk_at "MINE ar") | ((with_reducible show @Ne Nat _ _); first | with_reducible exact Ne.symm (by assumption) | walk_at "MINE ar" | (with_reducible refine Ne.symm ?_; walk_at "MINE ar") | (with_reducible refine ne_tr (by assumption) ?_; walk_at "MINE ar")) | ((with_reducible show @LT.lt Nat _ _ _); with_reducible (first | exact far1 (by assumption) (by decide) | exact far2 (by assumption) (by decide) | exact far3 (by assumption) (by decide) | exact far0 (by assumption) | walk_at "MINE ar")) | ((with_reducible show @LE.le Nat _ _ _); with_reducible exact Nat.le_trans (by assumption) (by decide)) | ((with_reducible show @LT.lt Int _ _ _); with_reducible (first | exact Int.lt_of_lt_of_le (by assumption) (by decide) | exact int_ll (by assumption) (by decide))) | ((with_reducible show @LE.le Int _ _ _); with_reducible (first | exact Int.le_refl _ | exact i_le1 _ | exact Int.le_trans (by assumption) (by decide))) | decide))
  (k_with "MINE step" => ((first | (k_unfold; (try dsimp only)) | (k_end; wrow_close) | walk1 | (dsimp only; walk1) | (leave1; try dsimp only) | fail "no step")))
  (k_with "X k_mem" => (exact mem_of (by with_reducible assumption)))
  (k_with "ite" => (((with_reducible show (if (_ == Str.ofString _) = true then _ else _)); first | (refine ite_pos (by with_reducible assumption) ?_) | (refine ite_strF (by with_reducible assumption) ?_) | (refine ite_strF (str_ne (by with_reducible assumption) (by decide)) ?_))))
  (k_with "ite" => (((with_reducible show (if (_ != Str.ofString _) = true then _ else _)); first | (refine ite_pos (by with_reducible assumption) ?_) | (refine ite_strneF (by with_reducible assumption) ?_) | (refine ite_strneF (str_ne (by with_reducible assumption) (by decide)) ?_))))
  (k_with "MINE look" => ((repeat (first | with_reducible exact lk_hd | with_reducible exact if_hd | with_reducible refine lk_tl (by decide) ?_ | with_reducible refine if_tl (by decide) ?_))))
  (k_with "eval Name" => ((k_here; (fail_if_success (with_reducible show wpAny _ _ (eval _ (compEnvC _ _ _ _)) _ _ _)); k_dflt (first | (refine' nameQ ?F_28 ?v_28 ?_ ?k_28 ?a_28 ?b_28; (case k_28 => rfl); (case a_28 => decide); (case b_28 => decide); (case F_28 => k_asm); (case v_28 => walk_at "MINE look"); k_whole) | (refine' nameQK ?F_28 ?X_28 ?T_28 ?e_28 ?_ ?k_28 ?a_28 ?b_28; (case k_28 => rfl); (case a_28 => decide); (case b_28 => decide); (case F_28 => k_asm); (case X_28 => k_asm); (case T_28 => k_asm); (case e_28 => k_is); k_whole)))))
  (k_with "ite" => (first | with_reducible refine i_tt ?_ | with_reducible refine i_ff ?_ | with_reducible refine i_True ?_ | with_reducible refine i_False ?_ | with_reducible refine i_not ?_))
  (k_with "X k_enter" => ((refine' code_pos ?k1_30 ?k2_30 ?k3_30 ?k4_30 ?k5_30 ?kA_30 ?kF_30 ?kK_30 ?k6_30 ?k7_30 ?k8_30 ?k9_30 ?kB_30 ?_ ?c2_30 ?c3_30 ?c4_30 ?c5_30; (case kA_30 => exact rfl); (case kF_30 => exact rfl); (case kK_30 => first | exact rfl | assumption); (case k1_30 => k_asm); (case k2_30 => k_asm); (case k3_30 => k_asm); (case k4_30 => k_asm); (case k5_30 => k_asm); (case k6_30 => k_is); (case k7_30 => k_is); (case k8_30 => ktr_room); (case k9_30 => exact BindsTo.of_eq rfl); (case c5_30 => decide); (case kB_30 => exact locs rfl); (case c2_30 => exact rfl); (case c3_30 => exact rfl); (case c4_30 => exact rfl); k_whole; intro g' L' h' FG' F' N' B' X' T'; (try simp only [zipB, List.reverse_cons, List.reverse_nil, List.nil_append, List.cons_append] at F'); (try dsimp only); (try k_lift B'); (try k_fold))))
  (k_with "ite" => ((k_closed; first | with_reducible refine i_pos (by decide) ?_ | with_reducible refine i_neg (by decide) ?_)))
  (k_with "getItem ref str" => ((k_here; k_dflt (refine' getS ?k1_32 ?k2_32 ?_; (case k1_32 => k_tabat); (case k2_32 => (repeat (first | with_reducible exact lookD_hd | with_reducible refine lookD_tl (by decide) ?_ | with_reducible exact lookS_hd | with_reducible refine lookS_tl (by decide) ?_))); k_whole); intro _)))
  (k_with "MINE ga" => (first | exact Ga.has (by k_asm) (by k_asm) (by k_asm) (by with_reducible assumption) (by walk_at "MINE sub") (by k_is) (by k_is) (by k_is) (by k_is) | exact Ga.has2 (by k_asm) (by k_asm) (by k_asm) (by with_reducible assumption) (by walk_at "MINE sub") (by k_is) (by k_is) (by k_is) (by k_is) | exact Ga.own (by k_asm) (by k_asm) (by k_asm) (by k_mem) (by k_mem) (by k_is) (by k_is) (by k_is) (by k_is) (by k_get) (by k_handed)))
  (k_with "MINE tmem" => (first | with_reducible assumption | with_reducible exact List.mem_cons_self | (with_reducible refine List.mem_cons_of_mem _ ?_; walk_at "MINE tmem") | (with_reducible refine List.mem_append_right _ ?_; walk_at "MINE tmem")))
  (k_with "MINE ev" => (first | ((with_reducible show Ev _ _ _ _ _ (Expr.Name _ _) _ _); (fail_if_success (with_reducible show Ev _ _ (compEnvC _ _ _ _) _ _ _ _ _)); exact Ev.name (by k_asm) (by walk_at "MINE look") rfl (by decide) (by decide)) | ((with_reducible show Ev _ _ _ _ _ (Expr.Attribute _ _ _) _ _); exact Ev.attr (by walk_at "MINE ev") (by walk_at "MINE ga") (by with_unfolding_all rfl)) | with_reducible exact Ev.str | with_reducible exact Ev.int | with_reducible exact Ev.none | ((with_reducible show Ev _ _ _ _ _ (Expr.Subscript _ (Expr.Constant _ _ _) _) _ _); first | exact Ev.itemT (by walk_at "MINE ev") (by k_asm) (by walk_at "MINE tmem") (by decide) (by decide) (by first | with_reducible exact it0 | with_reducible exact it1 | with_reducible exact it2 | rfl) | exact Ev.itemL (by walk_at "MINE ev") (by k_asm) (by walk_at "MINE tmem") (by decide) (by decide) (by first | with_reducible exact it0 | with_reducible exact it1 | with_reducible exact it2 | rfl))))
  (k_with "MINE vs" => (first | ((with_reducible show Vs _ _ _ _ _ (_ :: _) _ _ _); exact Vs.cons (by walk_at "MINE ev") rfl (by walk_at "MINE vs")) | with_reducible exact Vs.nil))
  (k_with "MINE vp" => (first | ((with_reducible show Vs _ _ _ _ _ (_ :: _) _ _ _); exact Vs.cons (by walk_at "MINE ev") rfl (by walk_at "MINE vp")) | with_reducible exact Vs.nil))
  (k_with "spliced" => ((k_here; (with_reducible show wpAny _ _ (spliced (backTo _ (starEach (_ :: _) _))) _ _ _); k_dflt (first | ((with_reducible refine' args_all ?s_38 ?V_38 ?_); (case s_38 => exact rfl); (case V_38 => walk_at "MINE vs"); k_whole) | ((with_reducible refine' args_ev ?s_38 ?V_38 ?_); (case s_38 => exact rfl); (case V_38 => ((with_reducible show Vs _ _ _ _ _ (_ :: _) _ _ _); exact Vs.cons (by walk_at "MINE ev") rfl (by walk_at "MINE vp"))); k_whole)))))
  (k_with "eval Call" => ((k_here; (fail_if_success (with_reducible show wpAny _ _ (eval _ (compEnvC _ _ _ _)) _ _ _)); k_dflt (refine' call_ev ?F_39 ?X_39 ?T_39 ?e_39 ?k_39 ?a_39 ?b_39 ?f_39 ?c_39 ?s_39 ?V_39 ?_; (case s_39 => exact rfl); (case k_39 => rfl); (case a_39 => decide); (case b_39 => decide); (case F_39 => k_asm); (case X_39 => k_asm); (case T_39 => k_asm); (case e_39 => k_is); (case c_39 => exact rfl); (case f_39 => k_is); (case V_39 => walk_at "MINE vs"); k_whole))))
  (k_with "isTrue Compare" => ((k_here; first | ((with_reducible show wpAny _ _ (isTrue (Expr.Compare _ [CmpOp.Eq] [_] _) _ _) _ _ _); k_dflt (refine' ev_eqs ?s_40 ?x_40 ?y_40 ?m_40 ?_; (case s_40 => exact rfl); (case m_40 => with_unfolding_all rfl); (case x_40 => walk_at "MINE ev"); (case y_40 => walk_at "MINE ev"); k_whole)) | ((with_reducible show wpAny _ _ (isTrue (Expr.Compare _ [CmpOp.NotEq] [_] _) _ _) _ _ _); k_dflt (refine' ev_nes ?s_40 ?x_40 ?y_40 ?m_40 ?_; (case s_40 => exact rfl); (case m_40 => with_unfolding_all rfl); (case x_40 => walk_at "MINE ev"); (case y_40 => walk_at "MINE ev"); k_whole)) | ((with_reducible show wpAny _ _ (isTrue (Expr.Compare _ [CmpOp.In] [Expr.List _ _] _) _ _) _ _ _); k_dflt (refine' ev_inL ?s_40 ?e_40 ?z_40 ?m_40 ?F_40 ?N_40 ?x_40 ?_; (case s_40 => exact rfl); (case e_40 => exact rfl); (case z_40 => exact rfl); (case m_40 => with_unfolding_all rfl); (case F_40 => k_asm); (case N_40 => k_asm); (case x_40 => walk_at "MINE ev"); k_whole); intro h' tk' F' N'; (try k_sweep); (try dsimp only)) | ((with_reducible show wpAny _ _ (isTrue (Expr.Compare _ [CmpOp.In] [Expr.Tuple _ _ _] _) _ _) _ _ _); k_dflt (refine' ev_inT ?s_40 ?e_40 ?z_40 ?m_40 ?F_40 ?N_40 ?x_40 ?_; (case s_40 => exact rfl); (case e_40 => exact rfl); (case z_40 => exact rfl); (case m_40 => with_unfolding_all rfl); (case F_40 => k_asm); (case N_40 => k_asm); (case x_40 => walk_at "MINE ev"); k_whole); intro h' tk' F' N'; (try k_sweep); (try dsimp only)))))
  (k_with "eval BinOp" => ((k_here; k_dflt (refine' ev_bin ?s_41 ?x_41 ?y_41 ?_; (case s_41 => exact rfl); (case x_41 => walk_at "MINE ev"); (case y_41 => walk_at "MINE ev"); k_whole))))
  (k_with "eval Subscript" => ((k_here; k_dflt (refine' ev_sub ?s_42 ?x_42 ?y_42 ?_; (case s_42 => exact rfl); (case x_42 => walk_at "MINE ev"); (case y_42 => walk_at "MINE ev"); k_whole))))
  (k_with "eval Subscript" => ((k_here; (with_reducible show wpAny _ _ (eval (Expr.Subscript _ (Expr.Constant _ _ _) _) _) _ _ _); k_dflt (refine' ev_use ?s_43 ?x_43 ?_; (case s_43 => exact rfl); (case x_43 => walk_at "MINE ev"); k_whole))))
  (k_with "eval Attribute" => ((k_here; k_dflt (refine' ev_use ?s_44 ?x_44 ?_; (case s_44 => exact rfl); (case x_44 => walk_at "MINE ev"); k_whole))))
  (k_with "exec Return" => ((k_here; k_dflt (refine' ev_ret ?s_45 ?x_45 ?_; (case s_45 => exact rfl); (case x_45 => walk_at "MINE ev"); k_whole))))
  (k_with "storeName" => ((k_here; k_dflt (refine' storeE ?F_46 ?N_46 ?a_46 ?b_46 ?_; (case a_46 => rfl); (case b_46 => decide); (case F_46 => k_asm); (case N_46 => k_asm); k_whole); intro h' tk' F' N'; (try k_sweep))))
  (k_with "newList" => ((k_here; k_dflt (refine' newListE ?F_47 ?N_47 ?z_47 ?_; (case F_47 => k_asm); (case N_47 => k_asm); (case z_47 => size_fits); k_whole); intro l' h' F' N' l1; (try k_lt l1); (try k_sweep))))
  (k_with "newTuple" => ((k_here; kup_bare; k_dflt (refine' newTupleE ?F_48 ?N_48 ?z_48 ?_; (case F_48 => k_asm); (case N_48 => k_asm); (case z_48 => kmk_size); k_whole); intro D' h' F' N' l1; (try k_lt l1); (try k_sweep))))
  (k_with "call builtin:list.append" => ((k_here; (with_reducible show wpAny _ _ (call (Value.builtin _) [Value.ref _, _]) _ _ _); k_dflt (refine' appendE ?F_49 ?N_49 ?U_49 ?z_49 ?_; (case F_49 => k_asm); (case N_49 => k_asm); (case U_49 => k_upd); (case z_49 => size_fits); k_whole); intro h' F' N'; (try k_sweep))))
  (k_with "setAttr ref" => ((k_here; k_dflt (refine' setE ?F_50 ?X_50 ?N_50 ?i_50 ?j_50 ?k6_50 ?k7_50 ?k8_50 ?k9_50 ?k10_50 ?k11_50 ?k12_50 ?k13_50 ?_; (case F_50 => k_asm); (case X_50 => k_asm); (case N_50 => k_asm); (case i_50 => k_mem); (case j_50 => k_mem); (case k6_50 => k_is); (case k7_50 => k_is); (case k8_50 => k_is); (case k9_50 => k_is); (case k10_50 => k_get); (case k11_50 => k_put); (case k12_50 => k_upd); (case k13_50 => exact rfl); k_whole); intro h' tk' F' N'; (try k_sweep))))
  (k_with "LeaveK" => ((k_dflt (refine' leaveE ?F_51 ?N_51 ?_; (case F_51 => k_asm); (case N_51 => k_asm); k_whole); intro kF kN; (try dsimp only [InitBack]); (try refine ⟨rfl, ?_⟩))))
  (k_with "X k_enter" => ((refine' codeE ?k1_52 ?k2_52 ?k3_52 ?k4_52 ?k5_52 ?kA_52 ?kF_52 ?kK_52 ?k6_52 ?k7_52 ?k8_52 ?k9_52 ?kB_52 ?c2_52 ?c3_52 ?c4_52 ?c5_52 ?_; (case kA_52 => exact rfl); (case kF_52 => exact rfl); (case kK_52 => first | exact rfl | assumption); (case k1_52 => k_asm); (case k2_52 => k_asm); (case k3_52 => k_asm); (case k4_52 => k_asm); (case k5_52 => k_asm); (case k6_52 => k_is); (case k7_52 => k_is); (case k8_52 => ktr_room); (case k9_52 => exact BindsTo.of_eq rfl); (case c5_52 => decide); (case kB_52 => exact locs rfl); (case c2_52 => exact rfl); (case c3_52 => exact rfl); (case c4_52 => exact rfl); k_whole; intro g' L' h' tk' FG' F' N' B' X' T' nK aK; (try dsimp only [zipB, List.reverse, List.reverseAux] at F'); (try k_lift B'); (try k_fold))))
  (k_with "execs cons" => (first | with_reducible refine seq_if ?_ | with_reducible refine seq_cons ?_))
  (k_with "SeqK" => (first | with_reducible refine seq_end ?_ | with_reducible refine seq_next ?_ | with_reducible refine seq_ret ?_ | with_reducible refine seq_brk ?_ | with_reducible refine seq_cont ?_))
  (k_with "IfK" => (with_reducible refine ifK_open ?_))
  (k_with "AndK" => (with_reducible refine andK_open ?_))
  (k_with "OrK" => (with_reducible refine orK_open ?_))
  (k_with "exec If" => (with_reducible refine if_k ?_))
  (k_with "isTrue BoolOp" => (first | with_reducible refine and_k ?_ | with_reducible refine or_k ?_))
  (k_with "BackK" => ((k_dflt (first | (refine' backQ ?F_60 ?N_60 ?_; (case F_60 => k_asm); (case N_60 => k_asm); k_whole) | (refine' backN ?F_60 ?N_60 ?_; (case F_60 => k_asm); (case N_60 => k_asm); k_whole) | (refine' backR ?F_60 ?N_60 ?_; (case F_60 => k_asm); (case N_60 => k_asm); k_whole) | (refine' backRN ?F_60 ?N_60 ?_; (case F_60 => k_asm); (case N_60 => k_asm); k_whole)); intro kF kN; (try dsimp only [InitBack]); (try refine ⟨rfl, ?_⟩))))
  (k_with "compareOp In" => ((k_here; (with_reducible show wpAny _ _ (compareOp CmpOp.In Value.none (Value.ref _)) _ _ _); k_dflt (refine' in_none ?k1_61 ?k2_61 ?k3_61 ?k4_61 ?k5_61 ?_ ?_; (case k1_61 => k_asm); (case k2_61 => k_mem); (case k3_61 => assumption); (case k4_61 => assumption); (case k5_61 => ktr_units)); (intro hn; (try dsimp only)); rotate_left; (intro x' t' y' u' e1 e2 e3 e4; cases e1; (try cases e2); (try cases e3); (try cases e4); (try dsimp only)); rotate_left)))
  (k_with "compareOp IsNot" => ((k_here; (with_reducible show wpAny _ _ (compareOp CmpOp.IsNot _ Value.none) _ _ _); k_dflt (refine' isNot_none ?k3_62 ?_ ?_; (case k3_62 => assumption)); (intro e1 e2; subst e1 e2; (try dsimp only)); rotate_left; (intro x' t' e1 e2; subst e1 e2; (try dsimp only)); rotate_left)))
  (k_with "compareOp Is" => ((k_here; (with_reducible show wpAny _ _ (compareOp CmpOp.Is _ Value.none) _ _ _); k_dflt (refine' is_none ?k3_63 ?_ ?_; (case k3_63 => assumption)); (intro e1 e2; subst e1 e2; (try dsimp only)); rotate_left; (intro x' t' e1 e2; subst e1 e2; (try dsimp only)); rotate_left)))
  (k_with "MINE look" => ((repeat (first | with_reducible assumption | with_reducible exact lk_hd | with_reducible exact if_hd | with_reducible refine lk_tl (by decide) ?_ | with_reducible refine if_tl (by decide) ?_))))
  (k_with "MyPost" => ((dsimp only [MyPost])))
  (k_with "loadName" => ((k_here; k_dflt (refine' ldn ?F_66 ?v_66 ?_ ?k_66 ?a_66; (case k_66 => rfl); (case a_66 => rfl); (case F_66 => k_asm); (case v_66 => walk_at "MINE look"); k_whole))))
  (k_with "execs nil" => ((with_reducible refine wpAny_execs_nil ?_)))
  (k_with "CompEnd" => (((rename News _ _ _ _ => nE'); k_dflt (refine LCg.CompEnd.intro (by assumption) nE' _ (fun _ h => h) (by assumption) (by lcg_src) ?_))))
  (k_with "binaryOp Pow int int" => (((with_reducible refine pow_int_small ?_ ?_ ?_ ?_); (first | decide | omega); (first | decide | omega); (decide))))
  trivial
def PickC (w : World) (mean : ExcName → Option Value) (mg mb : Str → Option Value) : Prop :=
  ∀ {dp un : Nat} {gd : Option (List Code)} {cn : Str} {cs : Scope} {a : Addr} {ccd : Value} {cl : List (Str × Addr)} {outer : List Env} {A₀ : Around} {base h₀ : Heap} {L : Addr} {m : Str → Option Value} {hp : Heap} {gns : Array GenState} {drw : Drawn} {tk0 : Nat} {sos : OsState} {Q E : Value → Shared → Prop} {news : List (Addr × Obj)}
    {upd : Obj → List (Addr × Obj)} {pl fl : Addr} {vs : List Value} {figs : List Int} {n0 n1 : Nat} {i mx b : Int} {ti tm tb : Tok},
    Below A₀ base outer h₀ → Fr h₀ L hp m → (Mine.R.heap_1_1 w.params).In h₀ → News h₀ L hp news → Top Mine.R.view_1_2 (looseW Mine.R.view_1_2 []) mean mg mb h₀ → cs.kind = .function →
    dp + 2 < recursionLimit → un + 8 < cLine → UpdF pl (PoolO fl i ti mx tm n0) news upd → (fl, listOf vs.toArray n1) ∈ news → IntsAre vs figs → 0 ≤ i → i ≤ figs.length → figs.length ≤ 5000 → 0 ≤ mx → mx < 1009 → 0 < b → b < 100 →
    (∀ (r : Int) (t : Tok) (i' : Int) (ti' : Tok) (mx' : Int) (tm' : Tok) (h' : Heap) (tk' : Nat), Fr h₀ L h' m → News h₀ L h' (upd (PoolO fl i' ti' mx' tm' n0)) → 0 ≤ r → r < b → 0 ≤ i' → i' ≤ figs.length → 0 ≤ mx' → mx' < 1009 → Q (.int r t) ⟨h', gns, drw, tk', sos⟩) →
    wpAny (model PySem.Challenge.rw_nu0332_01.row.prog w) (ktrTop dp un gd cn cs L a ccd cl outer) (call (.ref 303) [.ref pl, .int b tb]) Q E ⟨hp, gns, drw, tk0, sos⟩
set_option maxHeartbeats 8000000 in
theorem pick_ct (w : World) (mean : ExcName → Option Value) (mg mb : Str → Option Value) : PickC w mean mg mb := by
  unfold PickC
  intro dp un gd cn cs a ccd cl outer A₀ base h₀ L m hp gns drw tk0 sos Q E news upd pl fl vs figs n0 n1 i mx b ti tm tb B F X N T hk hd hu hU hfl hI hi0 hi1 hlen hm0 hm1 hb0 hb1 hret
  refine call_rq ?_
  k_dflt cell_enter
  k_steps
  · exact hret _ _ _ _ _ _ _ _ (by k_asm) (by k_asm) (fmod_in _ hb0).1 (fmod_in _ hb0).2 (by omega) (by omega) hm0 hm1
  · exact hret _ _ i ti mx tm _ _ (by k_asm) (by rw [UpdF.self hU]; k_asm) (fmod_in _ hb0).1 (fmod_in _ hb0).2 hi0 hi1 hm0 hm1
  · exact hret _ _ _ _ _ _ _ _ (by k_asm) (by k_asm) (fmod_in _ hb0).1 (fmod_in _ hb0).2 hi0 hi1 (fmod_in _ (by decide)).1 (fmod_in _ (by decide)).2
/-! node -/
theorem reg3 : True := by
  w_top off
  (k_with "call ref" => ((k_here; (with_reducible show wpAny _ _ (call (Value.ref 303) _) _ _ _); k_dflt (refine' pick_ct _ _ _ _ ?k1_70 ?k2_70 ?k3_70 ?k4_70 ?k5_70 ?kK_70 ?kd_70 ?ku_70 ?p0_70 ?p1_70 ?p2_70 ?p3_70 ?p4_70 ?p5_70 ?p6_70 ?p7_70 ?p8_70 ?p9_70 ?_; (case k1_70 => k_asm); (case k2_70 => k_asm); (case k3_70 => k_asm); (case k4_70 => k_asm); (case k5_70 => k_asm); (case kK_70 => first | exact rfl | assumption); (case kd_70 => ktr_room); (case ku_70 => ktr_units); (case p0_70 => k_updF); (case p1_70 => k_mem); (case p2_70 => assumption); (case p3_70 => omega); (case p4_70 => omega); (case p5_70 => omega); (case p6_70 => omega); (case p7_70 => omega); (case p8_70 => decide); (case p9_70 => decide)); intro r' t' i' ti' mx' tm' h' tk' F' N' r1 r2 i1 i2 m1 m2; (try dsimp only at N'); (try k_sweep); (try dsimp only); (try k_fold))))
  trivial
def NodeC (w : World) (mean : ExcName → Option Value) (mg mb : Str → Option Value) : Prop :=
  ∀ {dp un : Nat} {gd : Option (List Code)} {cn : Str} {cs : Scope} {a : Addr} {ccd : Value} {cl : List (Str × Addr)} {outer : List Env} {A₀ : Around} {base h₀ : Heap} {L : Addr} {m : Str → Option Value} {hp : Heap} {gns : Array GenState} {drw : Drawn} {tk0 : Nat} {sos : OsState} {Q E : Value → Shared → Prop} {news : List (Addr × Obj)}
    {op pl ty ks v : Value},
    Below A₀ base outer h₀ → Fr h₀ L hp m → (Mine.R.heap_1_1 w.params).In h₀ → News h₀ L hp news → Top Mine.R.view_1_2 (looseW Mine.R.view_1_2 []) mean mg mb h₀ → cs.kind = .function →
    dp + 3 < recursionLimit → un + 16 < cLine → 
    (∀ (x d : Nat) (t1 t2 t3 t4 t5 t6 : Tok) (h' : Heap) (tk' : Nat), Fr h₀ L h' m → News h₀ L h' ((x, instObj 88 d) :: (d, NodeD w.params t1 t2 t3 t4 t5 t6 op pl ty ks v) :: news) → (∀ p ∈ news, p.1 < d) → d < x → Q (.ref x) ⟨h', gns, drw, tk', sos⟩) →
    wpAny (model PySem.Challenge.rw_nu0332_01.row.prog w) (ktrTop dp un gd cn cs L a ccd cl outer) (call (.ref 88) [op, pl, ty, ks, v]) Q E ⟨hp, gns, drw, tk0, sos⟩
set_option maxHeartbeats 8000000 in
theorem node_ct (w : World) (mean : ExcName → Option Value) (mg mb : Str → Option Value) : NodeC w mean mg mb := by
  unfold NodeC
  intro dp un gd cn cs a ccd cl outer A₀ base h₀ L m hp gns drw tk0 sos Q E news op pl ty ks v B F X N T hk hd hu  hret
  k_steps
  exact hret _ _ _ _ _ _ _ _ _ _ (by k_asm) (by k_asm) (by assumption) (by assumption)
theorem reg5 : True := by
  (k_with "call ref" => ((k_here; (with_reducible show wpAny _ _ (call (Value.ref 88) [_, _, _, _, _]) _ _ _); k_dflt (refine' node_ct _ _ _ _ ?k1_71 ?k2_71 ?k3_71 ?k4_71 ?k5_71 ?kK_71 ?kd_71 ?ku_71  ?_; (case k1_71 => k_asm); (case k2_71 => k_asm); (case k3_71 => k_asm); (case k4_71 => k_asm); (case k5_71 => k_asm); (case kK_71 => first | exact rfl | assumption); (case kd_71 => ktr_room); (case ku_71 => ktr_units)); intro x' d' t1 t2 t3 t4 t5 t6 h' tk' F' N' l1 l2; (try k_lt l1); (try k_lt2 l2); (try k_sweep); (try dsimp only); (try k_fold))))
  trivial
def Node4C (w : World) (mean : ExcName → Option Value) (mg mb : Str → Option Value) : Prop :=
  ∀ {dp un : Nat} {gd : Option (List Code)} {cn : Str} {cs : Scope} {a : Addr} {ccd : Value} {cl : List (Str × Addr)} {outer : List Env} {A₀ : Around} {base h₀ : Heap} {L : Addr} {m : Str → Option Value} {hp : Heap} {gns : Array GenState} {drw : Drawn} {tk0 : Nat} {sos : OsState} {Q E : Value → Shared → Prop} {news : List (Addr × Obj)}
    {op pl ty ks : Value},
    Below A₀ base outer h₀ → Fr h₀ L hp m → (Mine.R.heap_1_1 w.params).In h₀ → News h₀ L hp news → Top Mine.R.view_1_2 (looseW Mine.R.view_1_2 []) mean mg mb h₀ → cs.kind = .function →
    dp + 3 < recursionLimit → un + 16 < cLine → 
    (∀ (x d : Nat) (t1 t2 t3 t4 t5 t6 : Tok) (h' : Heap) (tk' : Nat), Fr h₀ L h' m → News h₀ L h' ((x, instObj 88 d) :: (d, NodeD w.params t1 t2 t3 t4 t5 t6 op pl ty ks .none) :: news) → (∀ p ∈ news, p.1 < d) → d < x → Q (.ref x) ⟨h', gns, drw, tk', sos⟩) →
    wpAny (model PySem.Challenge.rw_nu0332_01.row.prog w) (ktrTop dp un gd cn cs L a ccd cl outer) (call (.ref 88) [op, pl, ty, ks]) Q E ⟨hp, gns, drw, tk0, sos⟩
set_option maxHeartbeats 8000000 in
theorem node4_ct (w : World) (mean : ExcName → Option Value) (mg mb : Str → Option Value) : Node4C w mean mg mb := by
  unfold Node4C
  intro dp un gd cn cs a ccd cl outer A₀ base h₀ L m hp gns drw tk0 sos Q E news op pl ty ks B F X N T hk hd hu  hret
  k_steps
  exact hret _ _ _ _ _ _ _ _ _ _ (by k_asm) (by k_asm) (by assumption) (by assumption)
theorem reg6 : True := by
  (k_with "call ref" => ((k_here; (with_reducible show wpAny _ _ (call (Value.ref 88) [_, _, _, _]) _ _ _); k_dflt (refine' node4_ct _ _ _ _ ?k1_72 ?k2_72 ?k3_72 ?k4_72 ?k5_72 ?kK_72 ?kd_72 ?ku_72  ?_; (case k1_72 => k_asm); (case k2_72 => k_asm); (case k3_72 => k_asm); (case k4_72 => k_asm); (case k5_72 => k_asm); (case kK_72 => first | exact rfl | assumption); (case kd_72 => ktr_room); (case ku_72 => ktr_units)); intro x' d' tq1 tq2 tq3 tq4 tq5 tq6 h' tk' F' N' l1 l2; (try k_lt l1); (try k_lt2 l2); (try k_sweep); (try dsimp only); (try k_fold))))
  trivial
def ConstC (w : World) (mean : ExcName → Option Value) (mg mb : Str → Option Value) : Prop :=
  ∀ {dp un : Nat} {gd : Option (List Code)} {cn : Str} {cs : Scope} {a : Addr} {ccd : Value} {cl : List (Str × Addr)} {outer : List Env} {A₀ : Around} {base h₀ : Heap} {L : Addr} {m : Str → Option Value} {hp : Heap} {gns : Array GenState} {drw : Drawn} {tk0 : Nat} {sos : OsState} {Q E : Value → Shared → Prop} {news : List (Addr × Obj)}
    {ty v pl : Value},
    Below A₀ base outer h₀ → Fr h₀ L hp m → (Mine.R.heap_1_1 w.params).In h₀ → News h₀ L hp news → Top Mine.R.view_1_2 (looseW Mine.R.view_1_2 []) mean mg mb h₀ → cs.kind = .function →
    dp + 5 < recursionLimit → un + 24 < cLine → 
    (∀ (x d kl : Nat) (t0 t1 t2 t3 t4 t5 t6 : Tok) (h' : Heap) (tk' : Nat), Fr h₀ L h' m → News h₀ L h' ((x, instObj 88 d) :: (d, NodeD w.params t1 t2 t3 t4 t5 t6 (.str (Str.ofString "const") t0) pl ty (.ref kl) v) :: (kl, listOf #[] 0) :: news) → (∀ p ∈ news, p.1 < kl) → kl < d → d < x → Q (.ref x) ⟨h', gns, drw, tk', sos⟩) →
    wpAny (model PySem.Challenge.rw_nu0332_01.row.prog w) (ktrTop dp un gd cn cs L a ccd cl outer) (call (.ref 99) [ty, v, pl]) Q E ⟨hp, gns, drw, tk0, sos⟩
set_option maxHeartbeats 8000000 in
theorem const_ct (w : World) (mean : ExcName → Option Value) (mg mb : Str → Option Value) : ConstC w mean mg mb := by
  unfold ConstC
  intro dp un gd cn cs a ccd cl outer A₀ base h₀ L m hp gns drw tk0 sos Q E news ty v pl B F X N T hk hd hu  hret
  refine call_rq ?_
  k_dflt k_enter
  k_steps
  exact hret _ _ _ _ _ _ _ _ _ _ _ _ (by k_asm) (by k_asm) (by assumption) (by omega) (by omega)
/-! mark -/
theorem reg7 : True := by
  w_top off
  (k_with "call ref" => ((k_here; (with_reducible show wpAny _ _ (call (Value.ref 99) _) _ _ _); k_dflt (refine' const_ct _ _ _ _ ?k1_73 ?k2_73 ?k3_73 ?k4_73 ?k5_73 ?kK_73 ?kd_73 ?ku_73  ?_; (case k1_73 => k_asm); (case k2_73 => k_asm); (case k3_73 => k_asm); (case k4_73 => k_asm); (case k5_73 => k_asm); (case kK_73 => first | exact rfl | assumption); (case kd_73 => ktr_room); (case ku_73 => ktr_units)); intro x' d' l' t0 t1 t2 t3 t4 t5 t6 h' tk' F' N' l1 l2 l3; (try k_lt l1); (try k_lt2 l2); (try k_lt2 l3); (try k_sweep); (try dsimp only); (try k_fold))))
  trivial
def MarkC (w : World) (mean : ExcName → Option Value) (mg mb : Str → Option Value) : Prop :=
  ∀ {dp un : Nat} {gd : Option (List Code)} {cn : Str} {cs : Scope} {a : Addr} {ccd : Value} {cl : List (Str × Addr)} {outer : List Env} {A₀ : Around} {base h₀ : Heap} {L : Addr} {m : Str → Option Value} {hp : Heap} {gns : Array GenState} {drw : Drawn} {tk0 : Nat} {sos : OsState} {Q E : Value → Shared → Prop} {news : List (Addr × Obj)}
    {upd : Obj → Obj → List (Addr × Obj)} {e rl pd : Addr} {rows : List Value} {n : Nat} {od : Obj} {ps : List Int} {p : Int} {code : Str} {tp tc : Tok},
    Below A₀ base outer h₀ → Fr h₀ L hp m → (Mine.R.heap_1_1 w.params).In h₀ → News h₀ L hp news → Top Mine.R.view_1_2 (looseW Mine.R.view_1_2 []) mean mg mb h₀ → cs.kind = .function →
    dp + 3 < recursionLimit → un + 16 < cLine → UpdF2 rl pd (listOf rows.toArray n) od news upd → (∀ x y, ErrIn (upd x y) e rl pd) → (pd == sysModules) = false → IsPl PySem.Challenge.rw_nu0332_01.row.prog w od ps → p ∉ ps → rows.length ≤ 1000 → ps.length ≤ 1000 →
    (∀ (r : Nat) (od' : Obj) (h' : Heap) (tk' : Nat), Fr h₀ L h' m → News h₀ L h' ((r, tupOf #[.int p tp, .str code tc] 0) :: upd (listOf (rows ++ [Value.ref r]).toArray (n + 1)) od') → IsPl PySem.Challenge.rw_nu0332_01.row.prog w od' (ps ++ [p]) → (∀ x y, ∀ q ∈ upd x y, q.1 < r) → Q .none ⟨h', gns, drw, tk', sos⟩) →
    wpAny (model PySem.Challenge.rw_nu0332_01.row.prog w) (ktrTop dp un gd cn cs L a ccd cl outer) (call (.ref 190) [.ref e, .int p tp, .str code tc]) Q E ⟨hp, gns, drw, tk0, sos⟩
theorem reg9 : True := by
  (k_with "X k_upd" => (exact upd_over (by assumption) _ (by assumption)))
  (k_with "X k_upd" => (exact Slots2.ua (by assumption) _))
  (k_with "X k_updF" => (exact Slots2.fb (by assumption)))
  (k_with "X k_mem" => (exact Slots2.mb (by assumption)))
  (k_with "X k_mem" => (exact Slots2.ma (by assumption)))
  (k_with "compareOp NotIn int ref" => ((k_here; k_dflt (refine' pl_notin ?k1_79 ?k2_79 ?k3_79 ?k4_79 ?k5_79 ?_; (case k1_79 => k_asm); (case k2_79 => k_mem); (case k3_79 => assumption); (case k4_79 => assumption); (case k5_79 => assumption)))))
  (k_with "setItem ref int" => ((k_here; k_dflt (refine' pl_set ?v_80 ?F_80 ?N_80 ?U_80 ?d_80 ?p_80 ?z_80 ?_; (case F_80 => k_asm); (case N_80 => k_asm); (case U_80 => k_updF); (case d_80 => assumption); (case p_80 => assumption); (case z_80 => assumption); (case v_80 => k_flat)); intro h' o' F' N' hd'; (try dsimp only at N'); (try k_sweep))))
  trivial
set_option maxHeartbeats 8000000 in
theorem mark_ct (w : World) (mean : ExcName → Option Value) (mg mb : Str → Option Value) : MarkC w mean mg mb := by
  unfold MarkC
  intro dp un gd cn cs a ccd cl outer A₀ base h₀ L m hp gns drw tk0 sos Q E news upd e rl pd rows n od ps p code tp tc B F X N T hk hd hu hU hE hlo hpl hnp hz1 hz2 hret
  have hr := fun x y => (hE x y).rows
  have hp' := fun x y => (hE x y).places
  have hS := UpdF2.slots hU
  have hself := UpdF2.self hU
  subst hself
  refine call_rq ?_
  k_dflt k_enter
  k_steps
  exact hret _ _ _ _ (by k_asm) (by simp only [List.push_toArray] at *; k_asm) (by assumption) (Slots2.lt hS (by assumption))
theorem reg10 : True := by
  (k_with "call ref" => ((k_here; (with_reducible show wpAny _ _ (call (Value.ref 190) _) _ _ _); k_dflt (refine' mark_ct _ _ _ _ ?k1_81 ?k2_81 ?k3_81 ?k4_81 ?k5_81 ?kK_81 ?kd_81 ?ku_81 ?p0_81 ?p1_81 ?p2_81 ?p3_81 ?p4_81 ?p5_81 ?p6_81 ?_; (case k1_81 => k_asm); (case k2_81 => k_asm); (case k3_81 => k_asm); (case k4_81 => k_asm); (case k5_81 => k_asm); (case kK_81 => first | exact rfl | assumption); (case kd_81 => ktr_room); (case ku_81 => ktr_units); (case p0_81 => k_updF); (case p1_81 => assumption); (case p2_81 => assumption); (case p3_81 => assumption); (case p4_81 => assumption); (case p5_81 => first | assumption | omega); (case p6_81 => first | assumption | omega)); intro r' od' h' tk' F' N' hpl' l1; (try dsimp only at N'); (try k_lt l1); (try k_sweep); (try dsimp only); (try k_fold))))
  trivial
def WrongC (w : World) (mean : ExcName → Option Value) (mg mb : Str → Option Value) : Prop :=
  ∀ {dp un : Nat} {gd : Option (List Code)} {cn : Str} {cs : Scope} {a : Addr} {ccd : Value} {cl : List (Str × Addr)} {outer : List Env} {A₀ : Around} {base h₀ : Heap} {L : Addr} {m : Str → Option Value} {hp : Heap} {gns : Array GenState} {drw : Drawn} {tk0 : Nat} {sos : OsState} {Q E : Value → Shared → Prop} {news : List (Addr × Obj)}
    {upd : Obj → Obj → List (Addr × Obj)} {e rl pd ty : Addr} {rows : List Value} {n : Nat} {od : Obj} {ps : List Int} {p : Int} {code : Str} {tp tc : Tok},
    Below A₀ base outer h₀ → Fr h₀ L hp m → (Mine.R.heap_1_1 w.params).In h₀ → News h₀ L hp news → Top Mine.R.view_1_2 (looseW Mine.R.view_1_2 []) mean mg mb h₀ → cs.kind = .function →
    dp + 7 < recursionLimit → un + 32 < cLine → UpdF2 rl pd (listOf rows.toArray n) od news upd → (∀ x y, ErrIn (upd x y) e rl pd) → (pd == sysModules) = false → IsPl PySem.Challenge.rw_nu0332_01.row.prog w od ps → p ∉ ps → rows.length ≤ 1000 → ps.length ≤ 1000 →
    (∀ (x d kl r : Nat) (t0 t1 t2 t3 t4 t5 t6 t7 : Tok) (od' : Obj) (h' : Heap) (tk' : Nat), Fr h₀ L h' m → News h₀ L h' ((x, instObj 88 d) :: (d, NodeD w.params t1 t2 t3 t4 t5 t6 (.str (Str.ofString "const") t0) (.int p tp) (.ref ty) (.ref kl) (.int 0 t7)) :: (kl, listOf #[] 0) :: (r, tupOf #[.int p tp, .str code tc] 0) :: upd (listOf (rows ++ [Value.ref r]).toArray (n + 1)) od') → IsPl PySem.Challenge.rw_nu0332_01.row.prog w od' (ps ++ [p]) → (∀ x y, ∀ q ∈ upd x y, q.1 < r) → r < kl → kl < d → d < x → Q (.ref x) ⟨h', gns, drw, tk', sos⟩) →
    wpAny (model PySem.Challenge.rw_nu0332_01.row.prog w) (ktrTop dp un gd cn cs L a ccd cl outer) (call (.ref 120) [.ref e, .ref ty, .int p tp, .str code tc]) Q E ⟨hp, gns, drw, tk0, sos⟩
theorem reg11 : True := by
  (k_with "getMethod ref" => ((k_here; (with_reducible show wpAny _ _ (getMethod _ (Str.ofString "mark") _) _ _ _); k_dflt (refine' err_mark ?k1_82 ?k2_82 ?k3_82 ?k4_82 ?k5_82 ?k6_82 ?k7_82 ?k8_82 ?_; (case k1_82 => k_asm); (case k2_82 => k_asm); (case k3_82 => k_asm); (case k4_82 => with_reducible assumption); (case k5_82 => first | exact fun _ h => h | (intro p hp; repeat (first | exact hp | apply List.mem_cons_of_mem))); (case k6_82 => k_is); (case k7_82 => k_is); (case k8_82 => k_is); k_whole))))
  trivial
set_option maxHeartbeats 8000000 in
theorem wrong_ct (w : World) (mean : ExcName → Option Value) (mg mb : Str → Option Value) : WrongC w mean mg mb := by
  unfold WrongC
  intro dp un gd cn cs a ccd cl outer A₀ base h₀ L m hp gns drw tk0 sos Q E news upd e rl pd ty rows n od ps p code tp tc B F X N T hk hd hu hU hE hlo hpl hnp hz1 hz2 hret
  have hS := UpdF2.slots hU
  have hself := UpdF2.self hU
  subst hself
  refine call_rq ?_
  k_dflt k_enter
  k_steps
  exact hret _ _ _ _ _ _ _ _ _ _ _ _ _ _ _ (by k_asm) (by k_asm) (by assumption) (by assumption) (by omega) (by omega) (by omega)
/-! fold -/
theorem reg12 : True := by
  w_top off
  (k_with "call ref" => ((k_here; (with_reducible show wpAny _ _ (call (Value.ref 120) _) _ _ _); k_dflt (refine' wrong_ct _ _ _ _ ?k1_83 ?k2_83 ?k3_83 ?k4_83 ?k5_83 ?kK_83 ?kd_83 ?ku_83 ?p0_83 ?p1_83 ?p2_83 ?p3_83 ?p4_83 ?p5_83 ?p6_83 ?_; (case k1_83 => k_asm); (case k2_83 => k_asm); (case k3_83 => k_asm); (case k4_83 => k_asm); (case k5_83 => k_asm); (case kK_83 => first | exact rfl | assumption); (case kd_83 => ktr_room); (case ku_83 => ktr_units); (case p0_83 => first | k_updF | exact UpdF2.over (by assumption) (by assumption) | exact UpdF2.over (UpdF2.over (by assumption) (by assumption)) (kst_ltOf (by assumption))); (case p1_83 => first | with_reducible assumption | exact errIn_over (by assumption) | exact errIn_over (errIn_over (by assumption))); (case p2_83 => assumption); (case p3_83 => assumption); (case p4_83 => first | assumption | exact List.not_mem_nil); (case p5_83 => first | assumption | exact Nat.zero_le _); (case p6_83 => first | assumption | exact Nat.zero_le _)); intro x' d' l' r' t0 t1 t2 t3 t4 t5 t6 t7 od' h' tk' F' N' hpl' l1 l2 l3 l4; (try dsimp only at N'); (try k_lt2 l2); (try k_lt2 l3); (try k_lt2 l4); (try k_sweep); (try dsimp only); (try k_fold))))
  trivial
def chk (n : Int) : Str := if -2147483648 ≤ n ∧ n ≤ 2147483647 then Str.ofString "" else Str.ofString "constant_overflow"
theorem chk_in {n : Int} (h : (if -2147483648 ≤ n then decide (n ≤ 2147483647) else decide (-2147483648 ≤ n)) = true) : chk n = Str.ofString "" := by
  unfold chk
  by_cases h1 : -2147483648 ≤ n
  · rw [if_pos h1, decide_eq_true_eq] at h
    rw [if_pos ⟨h1, h⟩]
  · rw [if_neg h1, decide_eq_true_eq] at h
    exact absurd h h1
theorem chk_out {n : Int} (h : (if -2147483648 ≤ n then decide (n ≤ 2147483647) else decide (-2147483648 ≤ n)) = false) : chk n = Str.ofString "constant_overflow" := by
  unfold chk
  refine if_neg fun hc => ?_
  rw [if_pos hc.1, decide_eq_false_iff_not] at h
  exact h hc.2
theorem chk_ne {n : Int} (h : chk n = Str.ofString "constant_overflow") : chk n ≠ Str.ofString "" := by rw [h]; decide
def CheckedC (w : World) (mean : ExcName → Option Value) (mg mb : Str → Option Value) : Prop :=
  ∀ {dp un : Nat} {gd : Option (List Code)} {cn : Str} {cs : Scope} {a : Addr} {ccd : Value} {cl : List (Str × Addr)} {outer : List Env} {A₀ : Around} {base h₀ : Heap} {L : Addr} {m : Str → Option Value} {hp : Heap} {gns : Array GenState} {drw : Drawn} {tk0 : Nat} {sos : OsState} {Q E : Value → Shared → Prop} {news : List (Addr × Obj)}
    {x : Int} {tx : Tok},
    Below A₀ base outer h₀ → Fr h₀ L hp m → (Mine.R.heap_1_1 w.params).In h₀ → News h₀ L hp news → Top Mine.R.view_1_2 (looseW Mine.R.view_1_2 []) mean mg mb h₀ → cs.kind = .function →
    dp + 3 < recursionLimit → un + 16 < cLine → 
    (∀ (r : Int) (t1 t2 : Tok) (tp : Nat) (h' : Heap) (tk' : Nat), Fr h₀ L h' m → News h₀ L h' ((tp, tupOf #[.int r t1, .str (chk x) t2] 0) :: news) → (∀ p ∈ news, p.1 < tp) → (chk x = Str.ofString "" → r = x) → Q (.ref tp) ⟨h', gns, drw, tk', sos⟩) →
    wpAny (model PySem.Challenge.rw_nu0332_01.row.prog w) (ktrTop dp un gd cn cs L a ccd cl outer) (call (.ref 42) [.int x tx]) Q E ⟨hp, gns, drw, tk0, sos⟩
set_option maxHeartbeats 8000000 in
theorem checked_ct (w : World) (mean : ExcName → Option Value) (mg mb : Str → Option Value) : CheckedC w mean mg mb := by
  unfold CheckedC
  intro dp un gd cn cs a ccd cl outer A₀ base h₀ L m hp gns drw tk0 sos Q E news x tx B F X N T hk hd hu  hret
  refine call_rq ?_
  k_dflt k_enter
  k_steps
  · have e := chk_in (by assumption)
    exact hret _ _ _ _ _ _ (by k_asm) (by rw [e]; k_asm) (by assumption) (fun _ => rfl)
  · have e := chk_out (by assumption)
    exact hret _ _ _ _ _ _ (by k_asm) (by rw [e]; k_asm) (by assumption) (fun h => absurd h (chk_ne e))
  · have e := chk_out (by assumption)
    exact hret _ _ _ _ _ _ (by k_asm) (by rw [e]; k_asm) (by assumption) (fun h => absurd h (chk_ne e))
theorem reg14 : True := by
  (k_with "call ref" => ((k_here; (with_reducible show wpAny _ _ (call (Value.ref 42) _) _ _ _); k_dflt (refine' checked_ct _ _ _ _ ?k1_84 ?k2_84 ?k3_84 ?k4_84 ?k5_84 ?kK_84 ?kd_84 ?ku_84  ?_; (case k1_84 => k_asm); (case k2_84 => k_asm); (case k3_84 => k_asm); (case k4_84 => k_asm); (case k5_84 => k_asm); (case kK_84 => first | exact rfl | assumption); (case kd_84 => ktr_room); (case ku_84 => ktr_units)); intro r' t1 t2 tp' h' tk' F' N' l1 e1; (try k_lt l1); (try k_sweep); (try dsimp only); (try k_fold))))
  trivial
def foldCode (op : Str) (x y : Int) : Str :=
  if op == Str.ofString "+" then chk (x + y) else if op == Str.ofString "-" then chk (x - y) else if op == Str.ofString "*" then chk (x * y)
  else if op == Str.ofString "DIV" then (if y ≤ 0 then Str.ofString "division" else Str.ofString "") else if op == Str.ofString "MOD" then (if y ≤ 0 then Str.ofString "division" else Str.ofString "") else Str.ofString ""
def foldVal (op : Str) (x y : Int) : Int :=
  if op == Str.ofString "+" then x + y else if op == Str.ofString "-" then x - y else if op == Str.ofString "*" then x * y
  else if op == Str.ofString "DIV" then x.fdiv y else if op == Str.ofString "MOD" then x.fmod y
  else if op == Str.ofString "s+" then Builtin.bitOr x y else if op == Str.ofString "OR" then Builtin.bitOr x y
  else if op == Str.ofString "s*" then Builtin.bitAnd x y else if op == Str.ofString "&" then Builtin.bitAnd x y
  else if op == Str.ofString "s-" then Builtin.bitAnd x (Builtin.bitXor y 4294967295) else Builtin.bitXor x y
def FoldC (w : World) (mean : ExcName → Option Value) (mg mb : Str → Option Value) : Prop :=
  ∀ {dp un : Nat} {gd : Option (List Code)} {cn : Str} {cs : Scope} {a : Addr} {ccd : Value} {cl : List (Str × Addr)} {outer : List Env} {A₀ : Around} {base h₀ : Heap} {L : Addr} {m : Str → Option Value} {hp : Heap} {gns : Array GenState} {drw : Drawn} {tk0 : Nat} {sos : OsState} {Q E : Value → Shared → Prop} {news : List (Addr × Obj)}
    {op : Str} {x y : Int} {to tx ty : Tok},
    Below A₀ base outer h₀ → Fr h₀ L hp m → (Mine.R.heap_1_1 w.params).In h₀ → News h₀ L hp news → Top Mine.R.view_1_2 (looseW Mine.R.view_1_2 []) mean mg mb h₀ → cs.kind = .function →
    dp + 5 < recursionLimit → un + 24 < cLine → -4294967296 ≤ x → x ≤ 4294967296 → -4294967296 ≤ y → y ≤ 4294967296 →
    (∀ (r : Int) (t1 t2 : Tok) (tp : Nat) (h' : Heap) (tk' : Nat), Fr h₀ L h' m → News h₀ L h' ((tp, tupOf #[.int r t1, .str (foldCode op x y) t2] 0) :: news) → (∀ p ∈ news, p.1 < tp) → (foldCode op x y = Str.ofString "" → r = foldVal op x y) → Q (.ref tp) ⟨h', gns, drw, tk', sos⟩) →
    wpAny (model PySem.Challenge.rw_nu0332_01.row.prog w) (ktrTop dp un gd cn cs L a ccd cl outer) (call (.ref 63) [.str op to, .int x tx, .int y ty]) Q E ⟨hp, gns, drw, tk0, sos⟩
set_option maxHeartbeats 8000000 in
theorem fold_ct (w : World) (mean : ExcName → Option Value) (mg mb : Str → Option Value) : FoldC w mean mg mb := by
  unfold FoldC
  intro dp un gd cn cs a ccd cl outer A₀ base h₀ L m hp gns drw tk0 sos Q E news op x y to tx ty B F X N T hk hd hu h1 h2 h3 h4 hret
  refine call_rq ?_
  k_dflt k_enter
  k_steps
  all_goals clear hu hd h1 h2 h3 h4
  iterate 3 (· exact hret _ _ _ _ _ _ (by k_asm) (by simp only [foldCode, reduceIte, Bool.false_eq_true, *]; k_asm) (by assumption) (by simp only [foldCode, foldVal, reduceIte, Bool.false_eq_true, *]; assumption))
  all_goals exact hret _ _ _ _ _ _ (by k_asm) (by simp only [foldCode, reduceIte, Bool.false_eq_true, *]; k_asm) (by assumption) (by simp only [foldCode, foldVal, reduceIte, Bool.false_eq_true, *]; first | exact fun _ => rfl | exact fun _ => trivial | exact fun h => absurd h (by decide))
/-! bnode -/
theorem reg15 : True := by
  w_top off
  (k_with "call ref" => ((k_here; (with_reducible show wpAny _ _ (call (Value.ref 63) _) _ _ _); k_dflt (refine' fold_ct _ _ _ _ ?k1_85 ?k2_85 ?k3_85 ?k4_85 ?k5_85 ?kK_85 ?kd_85 ?ku_85 ?p0_85 ?p1_85 ?p2_85 ?p3_85 ?_; (case k1_85 => k_asm); (case k2_85 => k_asm); (case k3_85 => k_asm); (case k4_85 => k_asm); (case k5_85 => k_asm); (case kK_85 => first | exact rfl | assumption); (case kd_85 => ktr_room); (case ku_85 => ktr_units); (case p0_85 => omega); (case p1_85 => omega); (case p2_85 => omega); (case p3_85 => omega)); intro r' t1 t2 tp' h' tk' F' N' l1 e1; (try k_lt l1); (try k_sweep); (try dsimp only); (try k_fold))))
  trivial
/-- what a checked operator hands back -/
inductive Res (new : List (Addr × Obj)) (p : Int) (x : Addr) (rows : List Value) (code : Str) (v : Option Int) (op : Str) (ks : List Value) (ty : Addr) : Prop
  | err {r : Addr} {kl : Addr} {val : Value} {tp tc : Tok} : code ≠ Str.ofString "" → NodeF new x (Str.ofString "const") p ty kl val → rows = [.ref r] → (r, tupOf #[.int p tp, .str code tc] 0) ∈ new → Res new p x rows code v op ks ty
  | val {n : Int} {t : Tok} {kl : Addr} : code = Str.ofString "" → v = some n → rows = [] → NodeF new x (Str.ofString "const") p ty kl (.int n t) → Res new p x rows code v op ks ty
  | op {kl : Addr} {val : Value} {nk : Nat} : code = Str.ofString "" → v = none → rows = [] → NodeF new x op p ty kl val → (kl, listOf ks.toArray nk) ∈ new → Res new p x rows code v op ks ty
inductive BinArgs (opx opy : Str) (vx vy : Value) (v1 v2 : Option Int) : Prop
  | both {a b : Int} {ta tb : Tok} : opx = Str.ofString "const" → opy = Str.ofString "const" → vx = .int a ta → vy = .int b tb → v1 = some a → v2 = some b → -4294967296 ≤ a → a ≤ 4294967296 → -4294967296 ≤ b → b ≤ 4294967296 → BinArgs opx opy vx vy v1 v2
  | left : (opx == Str.ofString "const") = false → v1 = none → BinArgs opx opy vx vy v1 v2
  | right : opx = Str.ofString "const" → (opy == Str.ofString "const") = false → v2 = none → BinArgs opx opy vx vy v1 v2
def bnCode (op : Str) : Option Int → Option Int → Str
  | some a, some b => foldCode op a b
  | _, _ => Str.ofString ""
def bnVal (op : Str) : Option Int → Option Int → Option Int
  | some a, some b => some (foldVal op a b)
  | _, _ => none
theorem bn_l {op : Str} {v : Option Int} : bnCode op none v = Str.ofString "" ∧ bnVal op none v = none := by cases v <;> exact ⟨rfl, rfl⟩
theorem bn_r {op : Str} {v : Option Int} : bnCode op v none = Str.ofString "" ∧ bnVal op v none = none := by cases v <;> exact ⟨rfl, rfl⟩
def BnodeC (w : World) (mean : ExcName → Option Value) (mg mb : Str → Option Value) : Prop :=
  ∀ {dp un : Nat} {gd : Option (List Code)} {cn : Str} {cs : Scope} {a : Addr} {ccd : Value} {cl : List (Str × Addr)} {outer : List Env} {A₀ : Around} {base h₀ : Heap} {L : Addr} {m : Str → Option Value} {hp : Heap} {gns : Array GenState} {drw : Drawn} {tk0 : Nat} {sos : OsState} {Q E : Value → Shared → Prop} {news : List (Addr × Obj)}
    {upd : Obj → Obj → List (Addr × Obj)} {e rl pd ty x y : Addr} {n : Nat} {od : Obj} {p : Int} {op opx opy : Str} {tp to : Tok} {plx ply : Int} {tyx tyy klx kly : Addr} {vx vy : Value} {v1 v2 : Option Int},
    Below A₀ base outer h₀ → Fr h₀ L hp m → (Mine.R.heap_1_1 w.params).In h₀ → News h₀ L hp news → Top Mine.R.view_1_2 (looseW Mine.R.view_1_2 []) mean mg mb h₀ → cs.kind = .function →
    dp + 12 < recursionLimit → un + 60 < cLine → UpdF2 rl pd (listOf (List.nil (α := Value)).toArray n) od news upd → (∀ x y, ErrIn (upd x y) e rl pd) → (pd == sysModules) = false → IsPl PySem.Challenge.rw_nu0332_01.row.prog w od [] → NodeF news x opx plx tyx klx vx → NodeF news y opy ply tyy kly vy → BinArgs opx opy vx vy v1 v2 →
    (∀ (new : List (Addr × Obj)) (x' : Nat) (rows' : List Value) (nn : Nat) (od' : Obj) (h' : Heap) (tk' : Nat), Fr h₀ L h' m → News h₀ L h' (new ++ upd (listOf rows'.toArray nn) od') → Ov new upd → Res new p x' rows' (bnCode op v1 v2) (bnVal op v1 v2) op [.ref x, .ref y] ty → Q (.ref x') ⟨h', gns, drw, tk', sos⟩) →
    wpAny (model PySem.Challenge.rw_nu0332_01.row.prog w) (ktrTop dp un gd cn cs L a ccd cl outer) (call (.ref 148) [.ref e, .str op to, .ref ty, .ref x, .ref y, .int p tp]) Q E ⟨hp, gns, drw, tk0, sos⟩
set_option maxHeartbeats 8000000 in
theorem bnode_ct (w : World) (mean : ExcName → Option Value) (mg mb : Str → Option Value) : BnodeC w mean mg mb := by
  unfold BnodeC
  intro dp un gd cn cs a ccd cl outer A₀ base h₀ L m hp gns drw tk0 sos Q E news upd e rl pd ty x y n od p op opx opy tp to plx ply tyx tyy klx kly vx vy v1 v2 B F X N T hk hd hu hU hE hlo hpl hx hy hb hret
  have hS := UpdF2.slots hU
  have hself := UpdF2.self hU
  subst hself
  obtain ⟨⟨tx1, hx1⟩, ⟨tx2, hx2⟩, hx3, hx4, hx5⟩ := hx
  obtain ⟨⟨ty1, hy1⟩, ⟨ty2, hy2⟩, hy3, hy4, hy5⟩ := hy
  cases hb
  case both a b ta tb e1 e2 e3 e4 e5 e6 b1 b2 b3 b4 =>
    subst e1 e2 e3 e4 e5 e6
    refine call_rq ?_
    k_dflt k_enter
    k_steps
    · exact hret [_, _, _, _, _] _ [_] _ _ _ _ (by k_asm) (by k_asm) (ov_cons (ov_cons (ov_cons (ov_cons (ov_one hS (by assumption)) (lt_head (by assumption) od)) (by assumption)) (by assumption)) (by assumption)) (.err (bne_iff_ne.mp (by assumption)) (nodeF_of (.head _) (.tail _ (.head _)) rfl) rfl (.tail _ (.tail _ (.tail _ (.head _)))))
    · have hc : foldCode op a b = Str.ofString "" := by simpa using (by assumption : (foldCode op a b != Str.ofString "") = false)
      have hv := (by assumption : foldCode op a b = Str.ofString "" → _ = foldVal op a b) hc
      subst hv
      exact hret [_, _, _, _] _ [] _ _ _ _ (by k_asm) (by k_asm) (ov_cons (ov_cons (ov_cons (ov_one hS (by assumption)) (And.left (by assumption))) (by assumption)) (by assumption)) (.val hc rfl rfl (nodeF_of (.head _) (.tail _ (.head _)) rfl))
  case left e1 e2 =>
    subst e2
    refine call_rq ?_
    k_dflt k_enter
    k_steps
    exact hret [_, _, _] _ [] _ _ _ _ (by k_asm) (by k_asm) (ov_cons (ov_cons (ov_one hS (by assumption)) (And.left (by assumption))) (by assumption)) (.op bn_l.1 bn_l.2 rfl (nodeF_of (.head _) (.tail _ (.head _)) rfl) (.tail _ (.tail _ (.head _))))
  case right e1 e2 e3 =>
    subst e1 e3
    refine call_rq ?_
    k_dflt k_enter
    k_steps
    exact hret [_, _, _] _ [] _ _ _ _ (by k_asm) (by k_asm) (ov_cons (ov_cons (ov_one hS (by assumption)) (And.left (by assumption))) (by assumption)) (.op bn_r.1 bn_r.2 rfl (nodeF_of (.head _) (.tail _ (.head _)) rfl) (.tail _ (.tail _ (.head _))))
/-! bin -/
theorem reg17 : True := by
  w_top off
  (k_with "MINE none" => (skip))
  trivial
def isI (f : Str) : Bool := f == Str.ofString "integer" || f == Str.ofString "byte"
def IsIntC (w : World) (mean : ExcName → Option Value) (mg mb : Str → Option Value) : Prop :=
  ∀ {dp un : Nat} {gd : Option (List Code)} {cn : Str} {cs : Scope} {a : Addr} {ccd : Value} {cl : List (Str × Addr)} {outer : List Env} {A₀ : Around} {base h₀ : Heap} {L : Addr} {m : Str → Option Value} {hp : Heap} {gns : Array GenState} {drw : Drawn} {tk0 : Nat} {sos : OsState} {Q E : Value → Shared → Prop} {news : List (Addr × Obj)}
    {ty : Addr} {f : Str} {t : Tok},
    Below A₀ base outer h₀ → Fr h₀ L hp m → (Mine.R.heap_1_1 w.params).In h₀ → News h₀ L hp news → Top Mine.R.view_1_2 (looseW Mine.R.view_1_2 []) mean mg mb h₀ → cs.kind = .function →
    dp + 2 < recursionLimit → un + 8 < cLine → HasA news ty 228 "form" (.str f t) →
    (∀ (h' : Heap) (tk' : Nat), Fr h₀ L h' m → News h₀ L h' news → Q (.bool (isI f)) ⟨h', gns, drw, tk', sos⟩) →
    wpAny (model PySem.Challenge.rw_nu0332_01.row.prog w) (ktrTop dp un gd cn cs L a ccd cl outer) (call (.ref 106) [.ref ty]) Q E ⟨hp, gns, drw, tk0, sos⟩
set_option maxHeartbeats 8000000 in
theorem isint_ct (w : World) (mean : ExcName → Option Value) (mg mb : Str → Option Value) : IsIntC w mean mg mb := by
  unfold IsIntC
  intro dp un gd cn cs a ccd cl outer A₀ base h₀ L m hp gns drw tk0 sos Q E news ty f t B F X N T hk hd hu h1 hret
  refine call_rq ?_
  k_dflt k_enter
  k_steps
  · have e : isI f = (f == Str.ofString "integer") := by unfold isI; rw [(by assumption : (f == Str.ofString "integer") = true)]; rfl
    rw [← e]
    exact hret _ _ (by k_asm) (by k_asm)
  · have e : isI f = (f == Str.ofString "byte") := by unfold isI; rw [(by assumption : (f == Str.ofString "integer") = false)]; rfl
    rw [← e]
    exact hret _ _ (by k_asm) (by k_asm)
theorem reg19 : True := by
  (k_with "call ref" => ((k_here; (with_reducible show wpAny _ _ (call (Value.ref 106) _) _ _ _); k_dflt (refine' isint_ct _ _ _ _ ?k1_87 ?k2_87 ?k3_87 ?k4_87 ?k5_87 ?kK_87 ?kd_87 ?ku_87 ?p0_87 ?_; (case k1_87 => k_asm); (case k2_87 => k_asm); (case k3_87 => k_asm); (case k4_87 => k_asm); (case k5_87 => k_asm); (case kK_87 => first | exact rfl | assumption); (case kd_87 => ktr_room); (case ku_87 => ktr_units); (case p0_87 => first | with_reducible assumption | exact HasA.mono (by assumption) (by first | exact fun _ h => h | (intro p hp; repeat (first | exact hp | apply List.mem_cons_of_mem))))); intro h' tk' F' N'; (try k_sweep); (try dsimp only); (try k_fold))))
  trivial
theorem isI_set {f : Str} (h : (f == Str.ofString "set") = true) : isI f = false := by rw [beq_iff_eq.mp h]; decide
def IsIntSetC (w : World) (mean : ExcName → Option Value) (mg mb : Str → Option Value) : Prop :=
  ∀ {dp un : Nat} {gd : Option (List Code)} {cn : Str} {cs : Scope} {a : Addr} {ccd : Value} {cl : List (Str × Addr)} {outer : List Env} {A₀ : Around} {base h₀ : Heap} {L : Addr} {m : Str → Option Value} {hp : Heap} {gns : Array GenState} {drw : Drawn} {tk0 : Nat} {sos : OsState} {Q E : Value → Shared → Prop} {news : List (Addr × Obj)}
    {ty : Addr} {f : Str} {t : Tok},
    Below A₀ base outer h₀ → Fr h₀ L hp m → (Mine.R.heap_1_1 w.params).In h₀ → News h₀ L hp news → Top Mine.R.view_1_2 (looseW Mine.R.view_1_2 []) mean mg mb h₀ → cs.kind = .function →
    dp + 2 < recursionLimit → un + 8 < cLine → HasA news ty 228 "form" (.str f t) → (f == Str.ofString "set") = true →
    (∀ (h' : Heap) (tk' : Nat), Fr h₀ L h' m → News h₀ L h' news → Q (.bool false) ⟨h', gns, drw, tk', sos⟩) →
    wpAny (model PySem.Challenge.rw_nu0332_01.row.prog w) (ktrTop dp un gd cn cs L a ccd cl outer) (call (.ref 106) [.ref ty]) Q E ⟨hp, gns, drw, tk0, sos⟩
set_option maxHeartbeats 8000000 in
theorem isintset_ct (w : World) (mean : ExcName → Option Value) (mg mb : Str → Option Value) : IsIntSetC w mean mg mb := by
  unfold IsIntSetC
  intro dp un gd cn cs a ccd cl outer A₀ base h₀ L m hp gns drw tk0 sos Q E news ty f t B F X N T hk hd hu h1 h2 hret
  exact isint_ct _ _ _ _ B F X N T hk hd hu h1 (fun h' tk' F' N' => by rw [isI_set h2]; exact hret h' tk' F' N')
theorem reg20 : True := by
  (k_with "call ref" => ((k_here; (with_reducible show wpAny _ _ (call (Value.ref 106) _) _ _ _); k_dflt (refine' isintset_ct _ _ _ _ ?k1_88 ?k2_88 ?k3_88 ?k4_88 ?k5_88 ?kK_88 ?kd_88 ?ku_88 ?p0_88 ?p1_88 ?_; (case k1_88 => k_asm); (case k2_88 => k_asm); (case k3_88 => k_asm); (case k4_88 => k_asm); (case k5_88 => k_asm); (case kK_88 => first | exact rfl | assumption); (case kd_88 => ktr_room); (case ku_88 => ktr_units); (case p0_88 => exact HasA.mono (by assumption) (by walk_at "MINE sub")); (case p1_88 => with_reducible assumption)); intro h' tk' F' N'; (try k_sweep); (try dsimp only); (try k_fold))))
  trivial
def IsConstC (w : World) (mean : ExcName → Option Value) (mg mb : Str → Option Value) : Prop :=
  ∀ {dp un : Nat} {gd : Option (List Code)} {cn : Str} {cs : Scope} {a : Addr} {ccd : Value} {cl : List (Str × Addr)} {outer : List Env} {A₀ : Around} {base h₀ : Heap} {L : Addr} {m : Str → Option Value} {hp : Heap} {gns : Array GenState} {drw : Drawn} {tk0 : Nat} {sos : OsState} {Q E : Value → Shared → Prop} {news : List (Addr × Obj)}
    {x : Addr} {o : Str} {t : Tok},
    Below A₀ base outer h₀ → Fr h₀ L hp m → (Mine.R.heap_1_1 w.params).In h₀ → News h₀ L hp news → Top Mine.R.view_1_2 (looseW Mine.R.view_1_2 []) mean mg mb h₀ → cs.kind = .function →
    dp + 2 < recursionLimit → un + 8 < cLine → HasA news x 88 "op" (.str o t) →
    (∀ (h' : Heap) (tk' : Nat), Fr h₀ L h' m → News h₀ L h' news → Q (.bool (o == Str.ofString "const")) ⟨h', gns, drw, tk', sos⟩) →
    wpAny (model PySem.Challenge.rw_nu0332_01.row.prog w) (ktrTop dp un gd cn cs L a ccd cl outer) (call (.ref 113) [.ref x]) Q E ⟨hp, gns, drw, tk0, sos⟩
set_option maxHeartbeats 8000000 in
theorem isconst_ct (w : World) (mean : ExcName → Option Value) (mg mb : Str → Option Value) : IsConstC w mean mg mb := by
  unfold IsConstC
  intro dp un gd cn cs a ccd cl outer A₀ base h₀ L m hp gns drw tk0 sos Q E news x o t B F X N T hk hd hu h1 hret
  refine call_rq ?_
  k_dflt k_enter
  k_steps
  exact hret _ _ (by k_asm) (by k_asm)
theorem reg21 : True := by
  (k_with "call ref" => ((k_here; (with_reducible show wpAny _ _ (call (Value.ref 113) _) _ _ _); k_dflt (refine' isconst_ct _ _ _ _ ?k1_89 ?k2_89 ?k3_89 ?k4_89 ?k5_89 ?kK_89 ?kd_89 ?ku_89 ?p0_89 ?_; (case k1_89 => k_asm); (case k2_89 => k_asm); (case k3_89 => k_asm); (case k4_89 => k_asm); (case k5_89 => k_asm); (case kK_89 => first | exact rfl | assumption); (case kd_89 => ktr_room); (case ku_89 => ktr_units); (case p0_89 => first | with_reducible assumption | exact HasA.mono (by assumption) (by first | exact fun _ h => h | (intro p hp; repeat (first | exact hp | apply List.mem_cons_of_mem))))); intro h' tk' F' N'; (try k_sweep); (try dsimp only); (try k_fold))))
  trivial
/-- what is known of an operand: its operator's text, its type's form, its value -/
structure SideV (op f : Str) (vx : Value) (v : Option Int) : Prop where
  var : (op == Str.ofString "const") = false → v = none
  int : (op == Str.ofString "const") = true → isI f = true → ∃ a t, vx = .int a t ∧ v = some a ∧ -4294967296 ≤ a ∧ a ≤ 4294967296
  set : (op == Str.ofString "const") = true → (f == Str.ofString "set") = true → ∃ a t, vx = .int a t ∧ v = some a ∧ -4294967296 ≤ a ∧ a ≤ 4294967296
  bool : (op == Str.ofString "const") = true → (f == Str.ofString "boolean") = true → ∃ a t, vx = .int a t ∧ v = some a ∧ -4294967296 ≤ a ∧ a ≤ 4294967296
theorem binArgs_of {opx opy : Str} {vx vy : Value} {v1 v2 : Option Int} (a1 : (opx == Str.ofString "const") = false → v1 = none) (a2 : (opy == Str.ofString "const") = false → v2 = none)
    (b1 : (opx == Str.ofString "const") = true → ∃ a t, vx = .int a t ∧ v1 = some a ∧ -4294967296 ≤ a ∧ a ≤ 4294967296) (b2 : (opy == Str.ofString "const") = true → ∃ a t, vy = .int a t ∧ v2 = some a ∧ -4294967296 ≤ a ∧ a ≤ 4294967296) : BinArgs opx opy vx vy v1 v2 := by
  cases h1 : (opx == Str.ofString "const") with
  | false => exact .left h1 (a1 h1)
  | true =>
    cases h2 : (opy == Str.ofString "const") with
    | false => exact .right (beq_iff_eq.mp h1) h2 (a2 h2)
    | true =>
      obtain ⟨a, t, e1, e2, e3, e4⟩ := b1 h1
      obtain ⟨b, u, f1, f2, f3, f4⟩ := b2 h2
      exact .both (beq_iff_eq.mp h1) (beq_iff_eq.mp h2) e1 f1 e2 f2 e3 e4 f3 f4
section
variable {opx opy fx fy : Str} {vx vy : Value} {v1 v2 : Option Int} (h1 : SideV opx fx vx v1) (h2 : SideV opy fy vy v2)
include h1 h2
theorem binArgs_bool (a : (fx != Str.ofString "boolean") = false) (b : (fy != Str.ofString "boolean") = false) : BinArgs opx opy vx vy v1 v2 :=
  binArgs_of h1.var h2.var (fun c => h1.bool c (by simpa using a)) (fun c => h2.bool c (by simpa using b))
theorem binArgs_set (a : (fx == Str.ofString "set") = true) (b : (fy == Str.ofString "set") = true) : BinArgs opx opy vx vy v1 v2 :=
  binArgs_of h1.var h2.var (fun c => h1.set c a) (fun c => h2.set c b)
theorem binArgs_int (a : isI fx = true) (b : isI fy = true) : BinArgs opx opy vx vy v1 v2 :=
  binArgs_of h1.var h2.var (fun c => h1.int c a) (fun c => h2.int c b)
end
theorem reg22 : True := by
  (k_with "call ref" => ((k_here; (with_reducible show wpAny _ _ (call (Value.ref 148) _) _ _ _); k_dflt (refine' bnode_ct _ _ _ _ ?k1_90 ?k2_90 ?k3_90 ?k4_90 ?k5_90 ?kK_90 ?kd_90 ?ku_90 ?p0_90 ?p1_90 ?p2_90 ?p3_90 ?p4_90 ?p5_90 ?p6_90 ?_; (case k1_90 => k_asm); (case k2_90 => k_asm); (case k3_90 => k_asm); (case k4_90 => k_asm); (case k5_90 => k_asm); (case kK_90 => first | exact rfl | assumption); (case kd_90 => ktr_room); (case ku_90 => ktr_units); (case p0_90 => first | k_updF | exact UpdF2.over (by assumption) (by assumption) | exact UpdF2.over (UpdF2.over (by assumption) (by assumption)) (kst_ltOf (by assumption))); (case p1_90 => first | with_reducible assumption | exact errIn_over (by assumption) | exact errIn_over (errIn_over (by assumption))); (case p2_90 => assumption); (case p3_90 => assumption); (case p4_90 => exact NodeF.mono (by assumption) (by first | exact fun _ h => h | (intro p hp; repeat (first | exact hp | apply List.mem_cons_of_mem)))); (case p5_90 => exact NodeF.mono (by assumption) (by first | exact fun _ h => h | (intro p hp; repeat (first | exact hp | apply List.mem_cons_of_mem)))); (case p6_90 => first | with_reducible assumption | exact binArgs_bool (by assumption) (by assumption) (by assumption) (by assumption) | exact binArgs_set (by assumption) (by assumption) (by assumption) (by assumption) | exact binArgs_int (by assumption) (by assumption) (by assumption) (by assumption))); intro new' x' rows' nn' od' h' tk' F' N' ov' res'; (try dsimp only at N'); (try k_sweep); (try dsimp only); (try k_fold))))
  trivial
def setOp (op : Str) : Bool := [Str.ofString "+", Str.ofString "-", Str.ofString "*", Str.ofString "/"].any fun x => x == op
def divOp (op : Str) : Bool := [Str.ofString "DIV", Str.ofString "MOD"].any fun x => x == op
def negO : Option Int → Bool
  | some b => decide (b ≤ 0)
  | none => false
def badOps : Str := Str.ofString "bad_operands"
/-- what binary answers, in the kind of the three types -/
def dueSel {α : Type} (op fx fy : Str) (b s i : α) : α :=
  if op == Str.ofString "&" then b else if op == Str.ofString "OR" then b
  else if fx == Str.ofString "set" && fy == Str.ofString "set" && setOp op then s
  else if isI fx && isI fy && op != Str.ofString "/" then i
  else if fx == Str.ofString "set" then s else if fy == Str.ofString "set" then s else i
def dueOp (op fx fy : Str) : Str :=
  if op == Str.ofString "&" then op else if op == Str.ofString "OR" then op
  else if fx == Str.ofString "set" && fy == Str.ofString "set" && setOp op then Str.ofString "s" ++ op else op
def dueC (op fx fy : Str) (v1 v2 : Option Int) : Str :=
  if op == Str.ofString "&" then (if fx != Str.ofString "boolean" then badOps else if fy != Str.ofString "boolean" then badOps else bnCode op v1 v2)
  else if op == Str.ofString "OR" then (if fx != Str.ofString "boolean" then badOps else if fy != Str.ofString "boolean" then badOps else bnCode op v1 v2)
  else if fx == Str.ofString "set" && fy == Str.ofString "set" && setOp op then bnCode (Str.ofString "s" ++ op) v1 v2
  else if isI fx && isI fy && op != Str.ofString "/" then (if divOp op && negO v2 then Str.ofString "division" else bnCode op v1 v2)
  else badOps
theorem res_err {new : List (Addr × Obj)} {p : Int} {x : Addr} {rows : List Value} {code c : Str} {v : Option Int} {op : Str} {ks : List Value} {ty ty' r kl : Addr} {val : Value} {tp tc : Tok} (hc : code = c) (hne : c ≠ Str.ofString "") (hty : ty' = ty)
    (hn : NodeF new x (Str.ofString "const") p ty kl val) (hr : rows = [.ref r]) (ht : (r, tupOf #[.int p tp, .str c tc] 0) ∈ new) : Res new p x rows code v op ks ty' := by
  subst hc hty
  exact .err hne hn hr ht
theorem res_of {new : List (Addr × Obj)} {p : Int} {x : Addr} {rows : List Value} {code c : Str} {v v' : Option Int} {op op' : Str} {ks : List Value} {ty ty' : Addr} (h : Res new p x rows c v op ks ty) (hc : code = c) (hv : v' = v) (ho : op' = op) (hty : ty' = ty) : Res new p x rows code v' op' ks ty' := by
  subst hc hv ho hty
  exact h
section
variable {prog : Program} {w : World} {A : Around} {E : Value → Shared → Prop} {s : Shared}
theorem le_side {o f : Str} {v : Value} {ov : Option Int} {n : Int} {tn : Tok} {Q : Value → Shared → Prop} (h : SideV o f v ov) (h1 : (o == Str.ofString "const") = true) (h2 : isI f = true) (k : ∀ b t, v = .int b t → ov = some b → Q (.bool (decide (b ≤ n))) s) :
    wpAny (model prog w) A (compareOp .LtE v (.int n tn)) Q E s := by
  obtain ⟨b, t, e, e', _⟩ := h.int h1 h2
  subst e
  exact PyProof.Rows.le_int (k b t rfl e')
end
theorem reg23 : True := by
  (k_with "compareOp LtE" => ((k_here; k_dflt (refine' le_side ?h_91 ?h1_91 ?h2_91 ?_; (case h_91 => assumption); (case h1_91 => assumption); (case h2_91 => assumption)); intro b t ev eo; subst ev; subst eo; (try dsimp only))))
  (k_with "binaryOp Add str str" => ((refine PyProof.Rows.add_str ?_ (sadd (by assumption)); intro _ _)))
  (k_with "MINE due" => ((simp only [dueC, dueOp, dueSel, setOp, divOp, negO, badOps, isI_set, *, reduceIte, Bool.and_true, Bool.true_and, Bool.and_false, Bool.false_and, Bool.false_eq_true, decide_true, decide_false])))
  trivial
def BinC (w : World) (mean : ExcName → Option Value) (mg mb : Str → Option Value) : Prop :=
  ∀ {dp un : Nat} {gd : Option (List Code)} {cn : Str} {cs : Scope} {a : Addr} {ccd : Value} {cl : List (Str × Addr)} {outer : List Env} {A₀ : Around} {base h₀ : Heap} {L : Addr} {m : Str → Option Value} {hp : Heap} {gns : Array GenState} {drw : Drawn} {tk0 : Nat} {sos : OsState} {Q E : Value → Shared → Prop} {news : List (Addr × Obj)}
    {upd : Obj → Obj → List (Addr × Obj)} {T tb tm ti e rl pd x y : Addr} {n : Nat} {od : Obj} {p : Int} {op opx opy fx fy : Str} {tp to : Tok} {plx ply : Int} {tyx tyy klx kly : Addr} {vx vy : Value} {v1 v2 : Option Int},
    Below A₀ base outer h₀ → Fr h₀ L hp m → (Mine.R.heap_1_1 w.params).In h₀ → News h₀ L hp news → Top Mine.R.view_1_2 (looseW Mine.R.view_1_2 []) mean mg mb h₀ → cs.kind = .function →
    dp + 16 < recursionLimit → un + 80 < cLine → ErrIn news e rl pd → UpdF2 rl pd (listOf (List.nil (α := Value)).toArray n) od news upd → (∀ x y, ErrIn (upd x y) e rl pd) → (pd == sysModules) = false → IsPl PySem.Challenge.rw_nu0332_01.row.prog w od [] → NodeF news x opx plx tyx klx vx → NodeF news y opy ply tyy kly vy → TyF news tyx fx → TyF news tyy fy →
  HasA news T 285 "boolean" (.ref tb) → HasA news T 285 "mask" (.ref tm) → HasA news T 285 "integer" (.ref ti) → SideV opx fx vx v1 → SideV opy fy vy v2 → op.length ≤ 100 →
    (∀ (new : List (Addr × Obj)) (x' : Nat) (rows' : List Value) (nn : Nat) (od' : Obj) (h' : Heap) (tk' : Nat), Fr h₀ L h' m → News h₀ L h' (new ++ upd (listOf rows'.toArray nn) od') → Ov new upd → Res new p x' rows' (dueC op fx fy v1 v2) (bnVal (dueOp op fx fy) v1 v2) (dueOp op fx fy) [.ref x, .ref y] (dueSel op fx fy tb tm ti) → Q (.ref x') ⟨h', gns, drw, tk', sos⟩) →
    wpAny (model PySem.Challenge.rw_nu0332_01.row.prog w) (ktrTop dp un gd cn cs L a ccd cl outer) (call (.ref 141) [.ref T, .ref e, .str op to, .ref x, .ref y, .int p tp]) Q E ⟨hp, gns, drw, tk0, sos⟩
set_option maxHeartbeats 8000000 in
theorem bin_ct (w : World) (mean : ExcName → Option Value) (mg mb : Str → Option Value) : BinC w mean mg mb := by
  unfold BinC
  intro dp un gd cn cs a ccd cl outer A₀ base h₀ L m hp gns drw tk0 sos Q E news upd T tb tm ti e rl pd x y n od p op opx opy fx fy tp to plx ply tyx tyy klx kly vx vy v1 v2 B F X N T hk hd hu _ hU hE hlo hpl hx hy htx hty hT1 hT2 hT3 hs1 hs2 hop hret
  have hS := UpdF2.slots hU
  have hself := UpdF2.self hU
  subst hself
  have hx' := hx
  have hy' := hy
  obtain ⟨⟨tx1, hx1⟩, ⟨tx2, hx2⟩, hx3, hx4, hx5⟩ := hx'
  obtain ⟨⟨ty1, hy1⟩, ⟨ty2, hy2⟩, hy3, hy4, hy5⟩ := hy'
  obtain ⟨tx3, htx⟩ := htx
  obtain ⟨ty3, hty⟩ := hty
  have hv2 := hs2.var
  refine call_rq ?_
  k_dflt k_enter
  k_steps
  all_goals clear hx hy hx1 hx2 hx3 hx4 hx5 hy1 hy2 hy3 hy4 hy5 htx hty hT1 hT2 hT3 hs1 hs2 hop hd hu hk hpl hlo hU
  all_goals first | ((rename Res _ _ _ _ _ _ _ _ _ => hres); exact hret _ _ _ _ _ _ _ (by k_asm) (cb_drop (by assumption) (sub_app (by walk_at "MINE sub"))) (Ov.drop (by assumption) (by walk_at "MINE subxy")) (res_of (by assumption) (by walk_at "MINE due") (by walk_at "MINE due") (by walk_at "MINE due") (by walk_at "MINE due"))) | (exact hret [_, _, _, _] _ [_] _ _ _ _ (by k_asm) (cb_drop (by assumption) (sub_cons (sub_cons (sub_cons (sub_cons (by walk_at "MINE sub")))))) (ov_cons (ov_cons (ov_cons (ov_of (by assumption) (by walk_at "MINE subxy")) (by assumption)) (by assumption)) (by assumption)) (res_err (by walk_at "MINE due") (by decide) (by walk_at "MINE due") (nodeF_of (.head _) (.tail _ (.head _)) rfl) rfl (.tail _ (.tail _ (.tail _ (.head _))))))
/-! elem -/
theorem reg24 : True := by
  w_top off
  (k_with "MINE none" => (skip))
  trivial
/-- what element_code answers -/
def kidCode (f : Str) (v : Option Int) : Str :=
  if isI f then (match v with | some a => if a < 0 then Str.ofString "bad_element" else if 31 < a then Str.ofString "bad_element" else Str.ofString "" | none => Str.ofString "") else Str.ofString "not_an_integer"
theorem ek_lo {f : Str} {b : Int} (h : isI f = true) (h1 : b < 0) : kidCode f (some b) = Str.ofString "bad_element" := by
  unfold kidCode
  rw [if_pos h]; dsimp only; rw [if_pos h1]
theorem ek_hi {f : Str} {b : Int} (h : isI f = true) (h1 : ¬ b < 0) (h2 : 31 < b) : kidCode f (some b) = Str.ofString "bad_element" := by
  unfold kidCode
  rw [if_pos h]; dsimp only; rw [if_neg h1, if_pos h2]
theorem ek_ok {f : Str} {b : Int} (h : isI f = true) (h1 : ¬ b < 0) (h2 : ¬ 31 < b) : kidCode f (some b) = Str.ofString "" := by
  unfold kidCode
  rw [if_pos h]; dsimp only; rw [if_neg h1, if_neg h2]
theorem ek_var {f : Str} {v : Option Int} (h : isI f = true) (h1 : v = none) : kidCode f v = Str.ofString "" := by
  subst h1
  unfold kidCode
  rw [if_pos h]
theorem ek_no {f : Str} {v : Option Int} (h : isI f = false) : kidCode f v = Str.ofString "not_an_integer" := by
  unfold kidCode
  rw [h, if_neg (by decide)]
section
variable {prog : Program} {w : World} {A : Around} {E : Value → Shared → Prop} {s : Shared}
theorem lt_side {o f : Str} {v : Value} {ov : Option Int} {n : Int} {tn : Tok} {Q : Value → Shared → Prop} (h : SideV o f v ov) (h1 : (o == Str.ofString "const") = true) (h2 : isI f = true) (k : ∀ b t, v = .int b t → ov = some b → Q (.bool (decide (b < n))) s) :
    wpAny (model prog w) A (compareOp .Lt v (.int n tn)) Q E s := by
  obtain ⟨b, t, e, e', _⟩ := h.int h1 h2
  subst e
  exact PyProof.Rows.lt_int (k b t rfl e')
end
-- priv>
theorem reg26 : True := by
  (k_with "compareOp Lt" => ((k_here; k_dflt (refine' lt_side ?h_95 ?h1_95 ?h2_95 ?_; (case h_95 => assumption); (case h1_95 => assumption); (case h2_95 => assumption)); intro b t ev eo; subst ev; subst eo; (try dsimp only))))
  trivial
-- <priv
def ElemC (w : World) (mean : ExcName → Option Value) (mg mb : Str → Option Value) : Prop :=
  ∀ {dp un : Nat} {gd : Option (List Code)} {cn : Str} {cs : Scope} {a : Addr} {ccd : Value} {cl : List (Str × Addr)} {outer : List Env} {A₀ : Around} {base h₀ : Heap} {L : Addr} {m : Str → Option Value} {hp : Heap} {gns : Array GenState} {drw : Drawn} {tk0 : Nat} {sos : OsState} {Q E : Value → Shared → Prop} {news : List (Addr × Obj)}
    {x : Addr} {op f : Str} {pl : Int} {ty kl : Addr} {vx : Value} {v : Option Int},
    Below A₀ base outer h₀ → Fr h₀ L hp m → (Mine.R.heap_1_1 w.params).In h₀ → News h₀ L hp news → Top Mine.R.view_1_2 (looseW Mine.R.view_1_2 []) mean mg mb h₀ → cs.kind = .function →
    dp + 6 < recursionLimit → un + 32 < cLine → NodeF news x op pl ty kl vx → TyF news ty f → SideV op f vx v →
    (∀ (t : Tok) (h' : Heap) (tk' : Nat), Fr h₀ L h' m → News h₀ L h' news → Q (.str (kidCode f v) t) ⟨h', gns, drw, tk', sos⟩) →
    wpAny (model PySem.Challenge.rw_nu0332_01.row.prog w) (ktrTop dp un gd cn cs L a ccd cl outer) (call (.ref 155) [.ref x]) Q E ⟨hp, gns, drw, tk0, sos⟩
set_option maxHeartbeats 8000000 in
theorem elem_ct (w : World) (mean : ExcName → Option Value) (mg mb : Str → Option Value) : ElemC w mean mg mb := by
  unfold ElemC
  intro dp un gd cn cs a ccd cl outer A₀ base h₀ L m hp gns drw tk0 sos Q E news x op f pl ty kl vx v B F X N T hk hd hu hx htx hs hret
  have hx' := hx
  obtain ⟨⟨tx1, hx1⟩, ⟨tx2, hx2⟩, hx3, hx4, hx5⟩ := hx'
  obtain ⟨tx3, htx⟩ := htx
  have hv := hs.var
  refine call_rq ?_
  k_dflt k_enter
  k_steps
  · exact ek_lo (by assumption) (by assumption) ▸ hret _ _ _ (by k_asm) (by k_asm)
  · exact ek_hi (by assumption) (by assumption) (by assumption) ▸ hret _ _ _ (by k_asm) (by k_asm)
  · exact ek_ok (by assumption) (by assumption) (by assumption) ▸ hret _ _ _ (by k_asm) (by k_asm)
  · exact ek_var (by assumption) (hv (by assumption)) ▸ hret _ _ _ (by k_asm) (by k_asm)
  · exact ek_no (by assumption) ▸ hret _ _ _ (by k_asm) (by k_asm)
/-! mrange -/
theorem reg27 : True := by
  w_top off
  k_with_none
  (k_with "subscriptTail" => ((k_here; (with_reducible show wpAny _ _ (subscriptTail _ _ (Value.ref _) (Value.int _ _)) _ _ _); k_dflt (refine' itemN ?k1_96 ?k2_96 ?k3_96 ?k4_96 ?k5_96 ?_ ?k6_96; (case k1_96 => k_asm); (case k2_96 => k_mem); (case k3_96 => decide); (case k4_96 => decide); (case k5_96 => rfl); (case k6_96 => with_unfolding_all rfl); k_whole))))
  (k_with "subscriptTail" => ((k_here; (with_reducible show wpAny _ _ (subscriptTail _ _ (Value.ref _) (Value.int _ _)) _ _ _); k_dflt (refine' itemT ?k1_97 ?k2_97 ?k3_97 ?k4_97 ?k5_97 ?_ ?k6_97; (case k1_97 => k_asm); (case k2_97 => k_mem); (case k3_97 => decide); (case k4_97 => decide); (case k5_97 => rfl); (case k6_97 => with_unfolding_all rfl); k_whole))))
  (k_with "subscriptTail Name Constant ref int" => ((k_here; k_dflt (first | (refine' itemT ?k1_98 ?k2_98 ?k3_98 ?k4_98 ?k5_98 ?_ ?k6_98; (case k1_98 => k_asm); (case k2_98 => k_mem); (case k3_98 => decide); (case k4_98 => decide); (case k5_98 => rfl); (case k6_98 => with_unfolding_all rfl); k_whole) | (refine' itemN ?k1_98 ?k2_98 ?k3_98 ?k4_98 ?k5_98 ?_ ?k6_98; (case k1_98 => k_asm); (case k2_98 => k_mem); (case k3_98 => decide); (case k4_98 => decide); (case k5_98 => rfl); (case k6_98 => with_unfolding_all rfl); k_whole)))))
  (k_with "getItem ref int" => ((k_here; k_dflt (refine' getN ?k1_99 ?k2_99 ?k3_99 ?k4_99 ?k5_99 ?_; (case k1_99 => k_asm); (case k2_99 => k_mem); (case k3_99 => decide); (case k4_99 => decide); (case k5_99 => rfl); k_whole))))
  (k_with "call builtin:len" => ((k_here; (with_reducible show wpAny _ _ (call (Value.builtin "len") [Value.ref _]) _ _ _); k_dflt (refine' kst_len ?k1_100 ?k2_100 ?k3_100 ?k4_100 ?_; (case k1_100 => k_asm); (case k2_100 => k_mem); (case k3_100 => first | exact IntsAre.length (by assumption) | assumption); (case k4_100 => omega); k_whole))))
  (k_with "X k_updF" => (with_reducible assumption))
  (k_with "X k_upd" => (exact UpdF.toUpd (by assumption) _))
  (k_with "X k_mem" => (exact UpdF.mem (by assumption)))
  (k_with "X k_mem" => (exact UpdF.mem' (by assumption) _))
  (k_with "X k_enter" => ((refine' code_def ?k1_105 ?k2_105 ?k3_105 ?k4_105 ?k5_105 ?kA_105 ?kF_105 ?kK_105 ?k6_105 ?k7_105 ?k8_105 ?k9_105 ?kB_105 ?_ ?c2_105 ?c3_105 ?c4_105 ?c5_105; (case kA_105 => exact rfl); (case kF_105 => exact rfl); (case kK_105 => first | exact rfl | assumption); (case k1_105 => k_asm); (case k2_105 => k_asm); (case k3_105 => k_asm); (case k4_105 => k_asm); (case k5_105 => k_asm); (case k6_105 => k_is); (case k7_105 => k_is); (case k8_105 => ktr_room); (case k9_105 => first | exact BindsTo.of_eq rfl | exact binds_K (by k_in) rfl (by k_is) rfl rfl rfl | fail "k_enter: no rule for these arguments"); (case c5_105 => decide); (case kB_105 => exact locs rfl); (case c2_105 => exact rfl); (case c3_105 => exact rfl); (case c4_105 => exact rfl); k_whole; intro g' L' h' FG' F' N' B' X' T'; (try dsimp only); (try k_lift B'); (try k_fold))))
  (k_with "X k_room" => (ktr_room))
  (k_with "X k_units" => (ktr_units))
  (k_with "getAttr ref" => ((k_here; k_dflt (first
  | refine' get_has ?k1_108 ?k2_108 ?k3_108 ?k4_108 ?k5_108 ?k6_108 ?k7_108 ?k8_108 ?k9_108 ?_; (case k1_108 => k_asm); (case k2_108 => k_asm); (case k3_108 => k_asm); (case k4_108 => with_reducible assumption); (case k5_108 => first | exact fun _ h => h | (intro p hp; repeat (first | exact hp | apply List.mem_cons_of_mem))); (case k6_108 => k_is); (case k7_108 => k_is); (case k8_108 => k_is); (case k9_108 => k_is); k_whole
  | refine' get_has2 ?k1_108 ?k2_108 ?k3_108 ?k4_108 ?k5_108 ?k6_108 ?k7_108 ?k8_108 ?k9_108 ?_; (case k1_108 => k_asm); (case k2_108 => k_asm); (case k3_108 => k_asm); (case k4_108 => with_reducible assumption); (case k5_108 => first | exact fun _ h => h | (intro p hp; repeat (first | exact hp | apply List.mem_cons_of_mem))); (case k6_108 => k_is); (case k7_108 => k_is); (case k8_108 => k_is); (case k9_108 => k_is); k_whole))))
  (k_with "X size_fits" => ((simp only [List.size_toArray, PySem.sizeLine_eq]; omega)))
  (k_with "binaryOp FloorDiv int int" => ((refine floordiv_int ?_ ?_ (Or.inl (noPy (by omega))); first | decide | omega)))
  (k_with "MINE sub" => (first | exact fun _ h => h | (intro p hp; repeat (first | exact hp | apply List.mem_cons_of_mem))))
  (k_with "MINE subxy" => ((intro x y p hp; repeat (first | exact hp | apply List.mem_cons_of_mem))))
  (k_with "X ktr_units" => (first | k_dflt (first | exact far2 (by with_reducible assumption) (by decide) | exact far1 (by with_reducible assumption) (by decide)) | (have hcL9 := cLine_is; ((try simp only [units_under_make, units_in1, units_deeper, Around.mark_units, units_caller]); (try dsimp only [ktrTop]); omega))))
  (k_with "X ktr_room" => (first | k_dflt (first | exact far2 (by with_reducible assumption) (by decide) | exact far1 (by with_reducible assumption) (by decide)) | ((with_reducible refine room_make ?_); k_dflt (first | exact far2 (by with_reducible assumption) (by decide) | exact far3 (by with_reducible assumption) (by decide) | exact far1 (by with_reducible assumption) (by decide)))))
  (k_with "X k_all" => (k_dflt exact ne_allLt (by assumption)))
  (k_with "MINE ar" => (with_reducible (first | assumption | exact aN1 (by assumption) | exact aN2 (by assumption) | exact aN3 (by assumption) | exact aN4 (by assumption) | exact aN5 (by assumption) | exact aN6 (by assumption) | exact aN7 (by assumption) | exact aN8 (by assumption) | exact aN9 (by assumption) | exact aN10 (by assumption) | exact aN11 (by assumption) | exact aN12 (by assumption))))
  (k_with "X omega" => (first | with_reducible assumption | (with_reducible refine Nat.ne_of_gt ?_; walk_at "MINE ar") | (with_reducible refine Nat.ne_of_lt ?_; walk_at "MINE ar") | ((with_reducible show @Ne Nat _ _); first | with_reducible exact Ne.symm (by assumption) | walk_at "MINE ar" | (with_reducible refine Ne.symm ?_; walk_at "MINE ar") | (with_reducible refine ne_tr (by assumption) ?_; walk_at "MINE ar")) | ((with_reducible show @LT.lt Nat _ _ _); with_reducible (first | exact far1 (by assumption) (by decide) | exact far2 (by assumption) (by decide) | exact far3 (by assumption) (by decide) | exact far0 (by assumption) | walk_at "MINE ar")) | ((with_reducible show @LE.le Nat _ _ _); with_reducible exact Nat.le_trans (by assumption) (by decide)) | ((with_reducible show @LT.lt Int _ _ _); with_reducible (first | exact Int.lt_of_lt_of_le (by assumption) (by decide) | exact int_ll (by assumption) (by decide))) | ((with_reducible show @LE.le Int _ _ _); with_reducible (first | exact Int.le_refl _ | exact i_le1 _ | exact Int.le_trans (by assumption) (by decide))) | decide))
  (k_with "MINE step" => ((first | (k_unfold; (try dsimp only)) | (k_end; wrow_close) | walk1 | (dsimp only; walk1) | (leave1; try dsimp only) | fail "no step")))
  (k_with "X k_mem" => (exact mem_of (by with_reducible assumption)))
  (k_with "ite" => (((with_reducible show (if (_ == Str.ofString _) = true then _ else _)); first | (refine ite_pos (by with_reducible assumption) ?_) | (refine ite_strF (by with_reducible assumption) ?_) | (refine ite_strF (str_ne (by with_reducible assumption) (by decide)) ?_))))
  (k_with "ite" => (((with_reducible show (if (_ != Str.ofString _) = true then _ else _)); first | (refine ite_pos (by with_reducible assumption) ?_) | (refine ite_strneF (by with_reducible assumption) ?_) | (refine ite_strneF (str_ne (by with_reducible assumption) (by decide)) ?_))))
  (k_with "MINE look" => ((repeat (first | with_reducible exact lk_hd | with_reducible exact if_hd | with_reducible refine lk_tl (by decide) ?_ | with_reducible refine if_tl (by decide) ?_))))
  (k_with "eval Name" => ((k_here; (fail_if_success (with_reducible show wpAny _ _ (eval _ (compEnvC _ _ _ _)) _ _ _)); k_dflt (first | (refine' nameQ ?F_123 ?v_123 ?_ ?k_123 ?a_123 ?b_123; (case k_123 => rfl); (case a_123 => decide); (case b_123 => decide); (case F_123 => k_asm); (case v_123 => walk_at "MINE look"); k_whole) | (refine' nameQK ?F_123 ?X_123 ?T_123 ?e_123 ?_ ?k_123 ?a_123 ?b_123; (case k_123 => rfl); (case a_123 => decide); (case b_123 => decide); (case F_123 => k_asm); (case X_123 => k_asm); (case T_123 => k_asm); (case e_123 => k_is); k_whole)))))
  (k_with "ite" => (first | with_reducible refine i_tt ?_ | with_reducible refine i_ff ?_ | with_reducible refine i_True ?_ | with_reducible refine i_False ?_ | with_reducible refine i_not ?_))
  (k_with "X k_enter" => ((refine' code_pos ?k1_125 ?k2_125 ?k3_125 ?k4_125 ?k5_125 ?kA_125 ?kF_125 ?kK_125 ?k6_125 ?k7_125 ?k8_125 ?k9_125 ?kB_125 ?_ ?c2_125 ?c3_125 ?c4_125 ?c5_125; (case kA_125 => exact rfl); (case kF_125 => exact rfl); (case kK_125 => first | exact rfl | assumption); (case k1_125 => k_asm); (case k2_125 => k_asm); (case k3_125 => k_asm); (case k4_125 => k_asm); (case k5_125 => k_asm); (case k6_125 => k_is); (case k7_125 => k_is); (case k8_125 => ktr_room); (case k9_125 => exact BindsTo.of_eq rfl); (case c5_125 => decide); (case kB_125 => exact locs rfl); (case c2_125 => exact rfl); (case c3_125 => exact rfl); (case c4_125 => exact rfl); k_whole; intro g' L' h' FG' F' N' B' X' T'; (try simp only [zipB, List.reverse_cons, List.reverse_nil, List.nil_append, List.cons_append] at F'); (try dsimp only); (try k_lift B'); (try k_fold))))
  (k_with "ite" => ((k_closed; first | with_reducible refine i_pos (by decide) ?_ | with_reducible refine i_neg (by decide) ?_)))
  (k_with "getItem ref str" => ((k_here; k_dflt (refine' getS ?k1_127 ?k2_127 ?_; (case k1_127 => k_tabat); (case k2_127 => (repeat (first | with_reducible exact lookD_hd | with_reducible refine lookD_tl (by decide) ?_ | with_reducible exact lookS_hd | with_reducible refine lookS_tl (by decide) ?_))); k_whole); intro _)))
  (k_with "MINE ga" => (first | exact Ga.has (by k_asm) (by k_asm) (by k_asm) (by with_reducible assumption) (by walk_at "MINE sub") (by k_is) (by k_is) (by k_is) (by k_is) | exact Ga.has2 (by k_asm) (by k_asm) (by k_asm) (by with_reducible assumption) (by walk_at "MINE sub") (by k_is) (by k_is) (by k_is) (by k_is) | exact Ga.own (by k_asm) (by k_asm) (by k_asm) (by k_mem) (by k_mem) (by k_is) (by k_is) (by k_is) (by k_is) (by k_get) (by k_handed)))
  (k_with "MINE tmem" => (first | with_reducible assumption | with_reducible exact List.mem_cons_self | (with_reducible refine List.mem_cons_of_mem _ ?_; walk_at "MINE tmem") | (with_reducible refine List.mem_append_right _ ?_; walk_at "MINE tmem")))
  (k_with "MINE ev" => (first | ((with_reducible show Ev _ _ _ _ _ (Expr.Name _ _) _ _); (fail_if_success (with_reducible show Ev _ _ (compEnvC _ _ _ _) _ _ _ _ _)); exact Ev.name (by k_asm) (by walk_at "MINE look") rfl (by decide) (by decide)) | ((with_reducible show Ev _ _ _ _ _ (Expr.Attribute _ _ _) _ _); exact Ev.attr (by walk_at "MINE ev") (by walk_at "MINE ga") (by with_unfolding_all rfl)) | with_reducible exact Ev.str | with_reducible exact Ev.int | with_reducible exact Ev.none | ((with_reducible show Ev _ _ _ _ _ (Expr.Subscript _ (Expr.Constant _ _ _) _) _ _); first | exact Ev.itemT (by walk_at "MINE ev") (by k_asm) (by walk_at "MINE tmem") (by decide) (by decide) (by first | with_reducible exact it0 | with_reducible exact it1 | with_reducible exact it2 | rfl) | exact Ev.itemL (by walk_at "MINE ev") (by k_asm) (by walk_at "MINE tmem") (by decide) (by decide) (by first | with_reducible exact it0 | with_reducible exact it1 | with_reducible exact it2 | rfl))))
  (k_with "MINE vs" => (first | ((with_reducible show Vs _ _ _ _ _ (_ :: _) _ _ _); exact Vs.cons (by walk_at "MINE ev") rfl (by walk_at "MINE vs")) | with_reducible exact Vs.nil))
  (k_with "MINE vp" => (first | ((with_reducible show Vs _ _ _ _ _ (_ :: _) _ _ _); exact Vs.cons (by walk_at "MINE ev") rfl (by walk_at "MINE vp")) | with_reducible exact Vs.nil))
  (k_with "spliced" => ((k_here; (with_reducible show wpAny _ _ (spliced (backTo _ (starEach (_ :: _) _))) _ _ _); k_dflt (first | ((with_reducible refine' args_all ?s_133 ?V_133 ?_); (case s_133 => exact rfl); (case V_133 => walk_at "MINE vs"); k_whole) | ((with_reducible refine' args_ev ?s_133 ?V_133 ?_); (case s_133 => exact rfl); (case V_133 => ((with_reducible show Vs _ _ _ _ _ (_ :: _) _ _ _); exact Vs.cons (by walk_at "MINE ev") rfl (by walk_at "MINE vp"))); k_whole)))))
  (k_with "eval Call" => ((k_here; (fail_if_success (with_reducible show wpAny _ _ (eval _ (compEnvC _ _ _ _)) _ _ _)); k_dflt (refine' call_ev ?F_134 ?X_134 ?T_134 ?e_134 ?k_134 ?a_134 ?b_134 ?f_134 ?c_134 ?s_134 ?V_134 ?_; (case s_134 => exact rfl); (case k_134 => rfl); (case a_134 => decide); (case b_134 => decide); (case F_134 => k_asm); (case X_134 => k_asm); (case T_134 => k_asm); (case e_134 => k_is); (case c_134 => exact rfl); (case f_134 => k_is); (case V_134 => walk_at "MINE vs"); k_whole))))
  (k_with "isTrue Compare" => ((k_here; first | ((with_reducible show wpAny _ _ (isTrue (Expr.Compare _ [CmpOp.Eq] [_] _) _ _) _ _ _); k_dflt (refine' ev_eqs ?s_135 ?x_135 ?y_135 ?m_135 ?_; (case s_135 => exact rfl); (case m_135 => with_unfolding_all rfl); (case x_135 => walk_at "MINE ev"); (case y_135 => walk_at "MINE ev"); k_whole)) | ((with_reducible show wpAny _ _ (isTrue (Expr.Compare _ [CmpOp.NotEq] [_] _) _ _) _ _ _); k_dflt (refine' ev_nes ?s_135 ?x_135 ?y_135 ?m_135 ?_; (case s_135 => exact rfl); (case m_135 => with_unfolding_all rfl); (case x_135 => walk_at "MINE ev"); (case y_135 => walk_at "MINE ev"); k_whole)) | ((with_reducible show wpAny _ _ (isTrue (Expr.Compare _ [CmpOp.In] [Expr.List _ _] _) _ _) _ _ _); k_dflt (refine' ev_inL ?s_135 ?e_135 ?z_135 ?m_135 ?F_135 ?N_135 ?x_135 ?_; (case s_135 => exact rfl); (case e_135 => exact rfl); (case z_135 => exact rfl); (case m_135 => with_unfolding_all rfl); (case F_135 => k_asm); (case N_135 => k_asm); (case x_135 => walk_at "MINE ev"); k_whole); intro h' tk' F' N'; (try k_sweep); (try dsimp only)) | ((with_reducible show wpAny _ _ (isTrue (Expr.Compare _ [CmpOp.In] [Expr.Tuple _ _ _] _) _ _) _ _ _); k_dflt (refine' ev_inT ?s_135 ?e_135 ?z_135 ?m_135 ?F_135 ?N_135 ?x_135 ?_; (case s_135 => exact rfl); (case e_135 => exact rfl); (case z_135 => exact rfl); (case m_135 => with_unfolding_all rfl); (case F_135 => k_asm); (case N_135 => k_asm); (case x_135 => walk_at "MINE ev"); k_whole); intro h' tk' F' N'; (try k_sweep); (try dsimp only)))))
  (k_with "eval BinOp" => ((k_here; k_dflt (refine' ev_bin ?s_136 ?x_136 ?y_136 ?_; (case s_136 => exact rfl); (case x_136 => walk_at "MINE ev"); (case y_136 => walk_at "MINE ev"); k_whole))))
  (k_with "eval Subscript" => ((k_here; k_dflt (refine' ev_sub ?s_137 ?x_137 ?y_137 ?_; (case s_137 => exact rfl); (case x_137 => walk_at "MINE ev"); (case y_137 => walk_at "MINE ev"); k_whole))))
  (k_with "eval Subscript" => ((k_here; (with_reducible show wpAny _ _ (eval (Expr.Subscript _ (Expr.Constant _ _ _) _) _) _ _ _); k_dflt (refine' ev_use ?s_138 ?x_138 ?_; (case s_138 => exact rfl); (case x_138 => walk_at "MINE ev"); k_whole))))
  (k_with "eval Attribute" => ((k_here; k_dflt (refine' ev_use ?s_139 ?x_139 ?_; (case s_139 => exact rfl); (case x_139 => walk_at "MINE ev"); k_whole))))
  (k_with "exec Return" => ((k_here; k_dflt (refine' ev_ret ?s_140 ?x_140 ?_; (case s_140 => exact rfl); (case x_140 => walk_at "MINE ev"); k_whole))))
  (k_with "storeName" => ((k_here; k_dflt (refine' storeE ?F_141 ?N_141 ?a_141 ?b_141 ?_; (case a_141 => rfl); (case b_141 => decide); (case F_141 => k_asm); (case N_141 => k_asm); k_whole); intro h' tk' F' N'; (try k_sweep))))
  (k_with "newList" => ((k_here; k_dflt (refine' newListE ?F_142 ?N_142 ?z_142 ?_; (case F_142 => k_asm); (case N_142 => k_asm); (case z_142 => size_fits); k_whole); intro l' h' F' N' l1; (try k_lt l1); (try k_sweep))))
  (k_with "newTuple" => ((k_here; kup_bare; k_dflt (refine' newTupleE ?F_143 ?N_143 ?z_143 ?_; (case F_143 => k_asm); (case N_143 => k_asm); (case z_143 => kmk_size); k_whole); intro D' h' F' N' l1; (try k_lt l1); (try k_sweep))))
  (k_with "call builtin:list.append" => ((k_here; (with_reducible show wpAny _ _ (call (Value.builtin _) [Value.ref _, _]) _ _ _); k_dflt (refine' appendE ?F_144 ?N_144 ?U_144 ?z_144 ?_; (case F_144 => k_asm); (case N_144 => k_asm); (case U_144 => k_upd); (case z_144 => size_fits); k_whole); intro h' F' N'; (try k_sweep))))
  (k_with "setAttr ref" => ((k_here; k_dflt (refine' setE ?F_145 ?X_145 ?N_145 ?i_145 ?j_145 ?k6_145 ?k7_145 ?k8_145 ?k9_145 ?k10_145 ?k11_145 ?k12_145 ?k13_145 ?_; (case F_145 => k_asm); (case X_145 => k_asm); (case N_145 => k_asm); (case i_145 => k_mem); (case j_145 => k_mem); (case k6_145 => k_is); (case k7_145 => k_is); (case k8_145 => k_is); (case k9_145 => k_is); (case k10_145 => k_get); (case k11_145 => k_put); (case k12_145 => k_upd); (case k13_145 => exact rfl); k_whole); intro h' tk' F' N'; (try k_sweep))))
  (k_with "LeaveK" => ((k_dflt (refine' leaveE ?F_146 ?N_146 ?_; (case F_146 => k_asm); (case N_146 => k_asm); k_whole); intro kF kN; (try dsimp only [InitBack]); (try refine ⟨rfl, ?_⟩))))
  (k_with "X k_enter" => ((refine' codeE ?k1_147 ?k2_147 ?k3_147 ?k4_147 ?k5_147 ?kA_147 ?kF_147 ?kK_147 ?k6_147 ?k7_147 ?k8_147 ?k9_147 ?kB_147 ?c2_147 ?c3_147 ?c4_147 ?c5_147 ?_; (case kA_147 => exact rfl); (case kF_147 => exact rfl); (case kK_147 => first | exact rfl | assumption); (case k1_147 => k_asm); (case k2_147 => k_asm); (case k3_147 => k_asm); (case k4_147 => k_asm); (case k5_147 => k_asm); (case k6_147 => k_is); (case k7_147 => k_is); (case k8_147 => ktr_room); (case k9_147 => exact BindsTo.of_eq rfl); (case c5_147 => decide); (case kB_147 => exact locs rfl); (case c2_147 => exact rfl); (case c3_147 => exact rfl); (case c4_147 => exact rfl); k_whole; intro g' L' h' tk' FG' F' N' B' X' T' nK aK; (try dsimp only [zipB, List.reverse, List.reverseAux] at F'); (try k_lift B'); (try k_fold))))
  (k_with "execs cons" => (first | with_reducible refine seq_if ?_ | with_reducible refine seq_cons ?_))
  (k_with "SeqK" => (first | with_reducible refine seq_end ?_ | with_reducible refine seq_next ?_ | with_reducible refine seq_ret ?_ | with_reducible refine seq_brk ?_ | with_reducible refine seq_cont ?_))
  (k_with "IfK" => (with_reducible refine ifK_open ?_))
  (k_with "AndK" => (with_reducible refine andK_open ?_))
  (k_with "OrK" => (with_reducible refine orK_open ?_))
  (k_with "exec If" => (with_reducible refine if_k ?_))
  (k_with "isTrue BoolOp" => (first | with_reducible refine and_k ?_ | with_reducible refine or_k ?_))
  (k_with "BackK" => ((k_dflt (first | (refine' backQ ?F_155 ?N_155 ?_; (case F_155 => k_asm); (case N_155 => k_asm); k_whole) | (refine' backN ?F_155 ?N_155 ?_; (case F_155 => k_asm); (case N_155 => k_asm); k_whole) | (refine' backR ?F_155 ?N_155 ?_; (case F_155 => k_asm); (case N_155 => k_asm); k_whole) | (refine' backRN ?F_155 ?N_155 ?_; (case F_155 => k_asm); (case N_155 => k_asm); k_whole)); intro kF kN; (try dsimp only [InitBack]); (try refine ⟨rfl, ?_⟩))))
  (k_with "compareOp In" => ((k_here; (with_reducible show wpAny _ _ (compareOp CmpOp.In Value.none (Value.ref _)) _ _ _); k_dflt (refine' in_none ?k1_156 ?k2_156 ?k3_156 ?k4_156 ?k5_156 ?_ ?_; (case k1_156 => k_asm); (case k2_156 => k_mem); (case k3_156 => assumption); (case k4_156 => assumption); (case k5_156 => ktr_units)); (intro hn; (try dsimp only)); rotate_left; (intro x' t' y' u' e1 e2 e3 e4; cases e1; (try cases e2); (try cases e3); (try cases e4); (try dsimp only)); rotate_left)))
  (k_with "compareOp IsNot" => ((k_here; (with_reducible show wpAny _ _ (compareOp CmpOp.IsNot _ Value.none) _ _ _); k_dflt (refine' isNot_none ?k3_157 ?_ ?_; (case k3_157 => assumption)); (intro e1 e2; subst e1 e2; (try dsimp only)); rotate_left; (intro x' t' e1 e2; subst e1 e2; (try dsimp only)); rotate_left)))
  (k_with "compareOp Is" => ((k_here; (with_reducible show wpAny _ _ (compareOp CmpOp.Is _ Value.none) _ _ _); k_dflt (refine' is_none ?k3_158 ?_ ?_; (case k3_158 => assumption)); (intro e1 e2; subst e1 e2; (try dsimp only)); rotate_left; (intro x' t' e1 e2; subst e1 e2; (try dsimp only)); rotate_left)))
  (k_with "MINE look" => ((repeat (first | with_reducible assumption | with_reducible exact lk_hd | with_reducible exact if_hd | with_reducible refine lk_tl (by decide) ?_ | with_reducible refine if_tl (by decide) ?_))))
  (k_with "MyPost" => ((dsimp only [MyPost])))
  (k_with "loadName" => ((k_here; k_dflt (refine' ldn ?F_161 ?v_161 ?_ ?k_161 ?a_161; (case k_161 => rfl); (case a_161 => rfl); (case F_161 => k_asm); (case v_161 => walk_at "MINE look"); k_whole))))
  (k_with "execs nil" => ((with_reducible refine wpAny_execs_nil ?_)))
  (k_with "CompEnd" => (((rename News _ _ _ _ => nE'); k_dflt (refine LCg.CompEnd.intro (by assumption) nE' _ (fun _ h => h) (by assumption) (by lcg_src) ?_))))
  (k_with "binaryOp Pow int int" => (((with_reducible refine pow_int_small ?_ ?_ ?_ ?_); (first | decide | omega); (first | decide | omega); (decide))))
  (k_with "call ref" => ((k_here; (with_reducible show wpAny _ _ (call (Value.ref 303) _) _ _ _); k_dflt (refine' pick_ct _ _ _ _ ?k1_165 ?k2_165 ?k3_165 ?k4_165 ?k5_165 ?kK_165 ?kd_165 ?ku_165 ?p0_165 ?p1_165 ?p2_165 ?p3_165 ?p4_165 ?p5_165 ?p6_165 ?p7_165 ?p8_165 ?p9_165 ?_; (case k1_165 => k_asm); (case k2_165 => k_asm); (case k3_165 => k_asm); (case k4_165 => k_asm); (case k5_165 => k_asm); (case kK_165 => first | exact rfl | assumption); (case kd_165 => ktr_room); (case ku_165 => ktr_units); (case p0_165 => k_updF); (case p1_165 => k_mem); (case p2_165 => assumption); (case p3_165 => omega); (case p4_165 => omega); (case p5_165 => omega); (case p6_165 => omega); (case p7_165 => omega); (case p8_165 => decide); (case p9_165 => decide)); intro r' t' i' ti' mx' tm' h' tk' F' N' r1 r2 i1 i2 m1 m2; (try dsimp only at N'); (try k_sweep); (try dsimp only); (try k_fold))))
  (k_with "call ref" => ((k_here; (with_reducible show wpAny _ _ (call (Value.ref 88) [_, _, _, _, _]) _ _ _); k_dflt (refine' node_ct _ _ _ _ ?k1_166 ?k2_166 ?k3_166 ?k4_166 ?k5_166 ?kK_166 ?kd_166 ?ku_166  ?_; (case k1_166 => k_asm); (case k2_166 => k_asm); (case k3_166 => k_asm); (case k4_166 => k_asm); (case k5_166 => k_asm); (case kK_166 => first | exact rfl | assumption); (case kd_166 => ktr_room); (case ku_166 => ktr_units)); intro x' d' t1 t2 t3 t4 t5 t6 h' tk' F' N' l1 l2; (try k_lt l1); (try k_lt2 l2); (try k_sweep); (try dsimp only); (try k_fold))))
  (k_with "call ref" => ((k_here; (with_reducible show wpAny _ _ (call (Value.ref 88) [_, _, _, _]) _ _ _); k_dflt (refine' node4_ct _ _ _ _ ?k1_167 ?k2_167 ?k3_167 ?k4_167 ?k5_167 ?kK_167 ?kd_167 ?ku_167  ?_; (case k1_167 => k_asm); (case k2_167 => k_asm); (case k3_167 => k_asm); (case k4_167 => k_asm); (case k5_167 => k_asm); (case kK_167 => first | exact rfl | assumption); (case kd_167 => ktr_room); (case ku_167 => ktr_units)); intro x' d' tq1 tq2 tq3 tq4 tq5 tq6 h' tk' F' N' l1 l2; (try k_lt l1); (try k_lt2 l2); (try k_sweep); (try dsimp only); (try k_fold))))
  (k_with "call ref" => ((k_here; (with_reducible show wpAny _ _ (call (Value.ref 99) _) _ _ _); k_dflt (refine' const_ct _ _ _ _ ?k1_168 ?k2_168 ?k3_168 ?k4_168 ?k5_168 ?kK_168 ?kd_168 ?ku_168  ?_; (case k1_168 => k_asm); (case k2_168 => k_asm); (case k3_168 => k_asm); (case k4_168 => k_asm); (case k5_168 => k_asm); (case kK_168 => first | exact rfl | assumption); (case kd_168 => ktr_room); (case ku_168 => ktr_units)); intro x' d' l' t0 t1 t2 t3 t4 t5 t6 h' tk' F' N' l1 l2 l3; (try k_lt l1); (try k_lt2 l2); (try k_lt2 l3); (try k_sweep); (try dsimp only); (try k_fold))))
  (k_with "X k_upd" => (exact upd_over (by assumption) _ (by assumption)))
  (k_with "X k_upd" => (exact Slots2.ua (by assumption) _))
  (k_with "X k_updF" => (exact Slots2.fb (by assumption)))
  (k_with "X k_mem" => (exact Slots2.mb (by assumption)))
  (k_with "X k_mem" => (exact Slots2.ma (by assumption)))
  (k_with "compareOp NotIn int ref" => ((k_here; k_dflt (refine' pl_notin ?k1_174 ?k2_174 ?k3_174 ?k4_174 ?k5_174 ?_; (case k1_174 => k_asm); (case k2_174 => k_mem); (case k3_174 => assumption); (case k4_174 => assumption); (case k5_174 => assumption)))))
  (k_with "setItem ref int" => ((k_here; k_dflt (refine' pl_set ?v_175 ?F_175 ?N_175 ?U_175 ?d_175 ?p_175 ?z_175 ?_; (case F_175 => k_asm); (case N_175 => k_asm); (case U_175 => k_updF); (case d_175 => assumption); (case p_175 => assumption); (case z_175 => assumption); (case v_175 => k_flat)); intro h' o' F' N' hd'; (try dsimp only at N'); (try k_sweep))))
  (k_with "call ref" => ((k_here; (with_reducible show wpAny _ _ (call (Value.ref 190) _) _ _ _); k_dflt (refine' mark_ct _ _ _ _ ?k1_176 ?k2_176 ?k3_176 ?k4_176 ?k5_176 ?kK_176 ?kd_176 ?ku_176 ?p0_176 ?p1_176 ?p2_176 ?p3_176 ?p4_176 ?p5_176 ?p6_176 ?_; (case k1_176 => k_asm); (case k2_176 => k_asm); (case k3_176 => k_asm); (case k4_176 => k_asm); (case k5_176 => k_asm); (case kK_176 => first | exact rfl | assumption); (case kd_176 => ktr_room); (case ku_176 => ktr_units); (case p0_176 => k_updF); (case p1_176 => assumption); (case p2_176 => assumption); (case p3_176 => assumption); (case p4_176 => assumption); (case p5_176 => first | assumption | omega); (case p6_176 => first | assumption | omega)); intro r' od' h' tk' F' N' hpl' l1; (try dsimp only at N'); (try k_lt l1); (try k_sweep); (try dsimp only); (try k_fold))))
  (k_with "getMethod ref" => ((k_here; (with_reducible show wpAny _ _ (getMethod _ (Str.ofString "mark") _) _ _ _); k_dflt (refine' err_mark ?k1_177 ?k2_177 ?k3_177 ?k4_177 ?k5_177 ?k6_177 ?k7_177 ?k8_177 ?_; (case k1_177 => k_asm); (case k2_177 => k_asm); (case k3_177 => k_asm); (case k4_177 => with_reducible assumption); (case k5_177 => first | exact fun _ h => h | (intro p hp; repeat (first | exact hp | apply List.mem_cons_of_mem))); (case k6_177 => k_is); (case k7_177 => k_is); (case k8_177 => k_is); k_whole))))
  (k_with "call ref" => ((k_here; (with_reducible show wpAny _ _ (call (Value.ref 120) _) _ _ _); k_dflt (refine' wrong_ct _ _ _ _ ?k1_178 ?k2_178 ?k3_178 ?k4_178 ?k5_178 ?kK_178 ?kd_178 ?ku_178 ?p0_178 ?p1_178 ?p2_178 ?p3_178 ?p4_178 ?p5_178 ?p6_178 ?_; (case k1_178 => k_asm); (case k2_178 => k_asm); (case k3_178 => k_asm); (case k4_178 => k_asm); (case k5_178 => k_asm); (case kK_178 => first | exact rfl | assumption); (case kd_178 => ktr_room); (case ku_178 => ktr_units); (case p0_178 => first | k_updF | exact UpdF2.over (by assumption) (by assumption) | exact UpdF2.over (UpdF2.over (by assumption) (by assumption)) (kst_ltOf (by assumption))); (case p1_178 => first | with_reducible assumption | exact errIn_over (by assumption) | exact errIn_over (errIn_over (by assumption))); (case p2_178 => assumption); (case p3_178 => assumption); (case p4_178 => first | assumption | exact List.not_mem_nil); (case p5_178 => first | assumption | exact Nat.zero_le _); (case p6_178 => first | assumption | exact Nat.zero_le _)); intro x' d' l' r' t0 t1 t2 t3 t4 t5 t6 t7 od' h' tk' F' N' hpl' l1 l2 l3 l4; (try dsimp only at N'); (try k_lt2 l2); (try k_lt2 l3); (try k_lt2 l4); (try k_sweep); (try dsimp only); (try k_fold))))
  (k_with "call ref" => ((k_here; (with_reducible show wpAny _ _ (call (Value.ref 42) _) _ _ _); k_dflt (refine' checked_ct _ _ _ _ ?k1_179 ?k2_179 ?k3_179 ?k4_179 ?k5_179 ?kK_179 ?kd_179 ?ku_179  ?_; (case k1_179 => k_asm); (case k2_179 => k_asm); (case k3_179 => k_asm); (case k4_179 => k_asm); (case k5_179 => k_asm); (case kK_179 => first | exact rfl | assumption); (case kd_179 => ktr_room); (case ku_179 => ktr_units)); intro r' t1 t2 tp' h' tk' F' N' l1 e1; (try k_lt l1); (try k_sweep); (try dsimp only); (try k_fold))))
  (k_with "call ref" => ((k_here; (with_reducible show wpAny _ _ (call (Value.ref 63) _) _ _ _); k_dflt (refine' fold_ct _ _ _ _ ?k1_180 ?k2_180 ?k3_180 ?k4_180 ?k5_180 ?kK_180 ?kd_180 ?ku_180 ?p0_180 ?p1_180 ?p2_180 ?p3_180 ?_; (case k1_180 => k_asm); (case k2_180 => k_asm); (case k3_180 => k_asm); (case k4_180 => k_asm); (case k5_180 => k_asm); (case kK_180 => first | exact rfl | assumption); (case kd_180 => ktr_room); (case ku_180 => ktr_units); (case p0_180 => omega); (case p1_180 => omega); (case p2_180 => omega); (case p3_180 => omega)); intro r' t1 t2 tp' h' tk' F' N' l1 e1; (try k_lt l1); (try k_sweep); (try dsimp only); (try k_fold))))
  (k_with "call ref" => ((k_here; (with_reducible show wpAny _ _ (call (Value.ref 106) _) _ _ _); k_dflt (refine' isint_ct _ _ _ _ ?k1_181 ?k2_181 ?k3_181 ?k4_181 ?k5_181 ?kK_181 ?kd_181 ?ku_181 ?p0_181 ?_; (case k1_181 => k_asm); (case k2_181 => k_asm); (case k3_181 => k_asm); (case k4_181 => k_asm); (case k5_181 => k_asm); (case kK_181 => first | exact rfl | assumption); (case kd_181 => ktr_room); (case ku_181 => ktr_units); (case p0_181 => first | with_reducible assumption | exact HasA.mono (by assumption) (by first | exact fun _ h => h | (intro p hp; repeat (first | exact hp | apply List.mem_cons_of_mem))))); intro h' tk' F' N'; (try k_sweep); (try dsimp only); (try k_fold))))
  (k_with "call ref" => ((k_here; (with_reducible show wpAny _ _ (call (Value.ref 106) _) _ _ _); k_dflt (refine' isintset_ct _ _ _ _ ?k1_182 ?k2_182 ?k3_182 ?k4_182 ?k5_182 ?kK_182 ?kd_182 ?ku_182 ?p0_182 ?p1_182 ?_; (case k1_182 => k_asm); (case k2_182 => k_asm); (case k3_182 => k_asm); (case k4_182 => k_asm); (case k5_182 => k_asm); (case kK_182 => first | exact rfl | assumption); (case kd_182 => ktr_room); (case ku_182 => ktr_units); (case p0_182 => exact HasA.mono (by assumption) (by walk_at "MINE sub")); (case p1_182 => with_reducible assumption)); intro h' tk' F' N'; (try k_sweep); (try dsimp only); (try k_fold))))
  (k_with "call ref" => ((k_here; (with_reducible show wpAny _ _ (call (Value.ref 113) _) _ _ _); k_dflt (refine' isconst_ct _ _ _ _ ?k1_183 ?k2_183 ?k3_183 ?k4_183 ?k5_183 ?kK_183 ?kd_183 ?ku_183 ?p0_183 ?_; (case k1_183 => k_asm); (case k2_183 => k_asm); (case k3_183 => k_asm); (case k4_183 => k_asm); (case k5_183 => k_asm); (case kK_183 => first | exact rfl | assumption); (case kd_183 => ktr_room); (case ku_183 => ktr_units); (case p0_183 => first | with_reducible assumption | exact HasA.mono (by assumption) (by first | exact fun _ h => h | (intro p hp; repeat (first | exact hp | apply List.mem_cons_of_mem))))); intro h' tk' F' N'; (try k_sweep); (try dsimp only); (try k_fold))))
  (k_with "call ref" => ((k_here; (with_reducible show wpAny _ _ (call (Value.ref 148) _) _ _ _); k_dflt (refine' bnode_ct _ _ _ _ ?k1_184 ?k2_184 ?k3_184 ?k4_184 ?k5_184 ?kK_184 ?kd_184 ?ku_184 ?p0_184 ?p1_184 ?p2_184 ?p3_184 ?p4_184 ?p5_184 ?p6_184 ?_; (case k1_184 => k_asm); (case k2_184 => k_asm); (case k3_184 => k_asm); (case k4_184 => k_asm); (case k5_184 => k_asm); (case kK_184 => first | exact rfl | assumption); (case kd_184 => ktr_room); (case ku_184 => ktr_units); (case p0_184 => first | k_updF | exact UpdF2.over (by assumption) (by assumption) | exact UpdF2.over (UpdF2.over (by assumption) (by assumption)) (kst_ltOf (by assumption))); (case p1_184 => first | with_reducible assumption | exact errIn_over (by assumption) | exact errIn_over (errIn_over (by assumption))); (case p2_184 => assumption); (case p3_184 => assumption); (case p4_184 => exact NodeF.mono (by assumption) (by first | exact fun _ h => h | (intro p hp; repeat (first | exact hp | apply List.mem_cons_of_mem)))); (case p5_184 => exact NodeF.mono (by assumption) (by first | exact fun _ h => h | (intro p hp; repeat (first | exact hp | apply List.mem_cons_of_mem)))); (case p6_184 => first | with_reducible assumption | exact binArgs_bool (by assumption) (by assumption) (by assumption) (by assumption) | exact binArgs_set (by assumption) (by assumption) (by assumption) (by assumption) | exact binArgs_int (by assumption) (by assumption) (by assumption) (by assumption))); intro new' x' rows' nn' od' h' tk' F' N' ov' res'; (try dsimp only at N'); (try k_sweep); (try dsimp only); (try k_fold))))
  (k_with "compareOp LtE" => ((k_here; k_dflt (refine' le_side ?h_185 ?h1_185 ?h2_185 ?_; (case h_185 => assumption); (case h1_185 => assumption); (case h2_185 => assumption)); intro b t ev eo; subst ev; subst eo; (try dsimp only))))
  (k_with "binaryOp Add str str" => ((refine PyProof.Rows.add_str ?_ (sadd (by assumption)); intro _ _)))
  (k_with "MINE due" => ((simp only [dueC, dueOp, dueSel, setOp, divOp, negO, badOps, isI_set, *, reduceIte, Bool.and_true, Bool.true_and, Bool.and_false, Bool.false_and, Bool.false_eq_true, decide_true, decide_false])))
  trivial
/-- what mask_range answers -/
def rangeM (x y : Int) : Int := if y < x then 0 else (1 * 2 ^ (y - x + 1).toNat - 1) * 2 ^ x.toNat
def RangeC (w : World) (mean : ExcName → Option Value) (mg mb : Str → Option Value) : Prop :=
  ∀ {dp un : Nat} {gd : Option (List Code)} {cn : Str} {cs : Scope} {a : Addr} {ccd : Value} {cl : List (Str × Addr)} {outer : List Env} {A₀ : Around} {base h₀ : Heap} {L : Addr} {m : Str → Option Value} {hp : Heap} {gns : Array GenState} {drw : Drawn} {tk0 : Nat} {sos : OsState} {Q E : Value → Shared → Prop} {news : List (Addr × Obj)}
    {x y : Int} {tx ty : Tok},
    Below A₀ base outer h₀ → Fr h₀ L hp m → (Mine.R.heap_1_1 w.params).In h₀ → News h₀ L hp news → Top Mine.R.view_1_2 (looseW Mine.R.view_1_2 []) mean mg mb h₀ → cs.kind = .function →
    dp + 3 < recursionLimit → un + 16 < cLine → 0 ≤ x → x ≤ 31 → 0 ≤ y → y ≤ 31 →
    (∀ (t : Tok) (h' : Heap) (tk' : Nat), Fr h₀ L h' m → News h₀ L h' news → Q (.int (rangeM x y) t) ⟨h', gns, drw, tk', sos⟩) →
    wpAny (model PySem.Challenge.rw_nu0332_01.row.prog w) (ktrTop dp un gd cn cs L a ccd cl outer) (call (.ref 70) [.int x tx, .int y ty]) Q E ⟨hp, gns, drw, tk0, sos⟩
set_option maxHeartbeats 8000000 in
theorem range_ct (w : World) (mean : ExcName → Option Value) (mg mb : Str → Option Value) : RangeC w mean mg mb := by
  unfold RangeC
  intro dp un gd cn cs a ccd cl outer A₀ base h₀ L m hp gns drw tk0 sos Q E news x y tx ty B F X N T hk hd hu h1 h2 h3 h4 hret
  refine call_rq ?_
  k_dflt k_enter
  k_steps
  · have e : rangeM x y = 0 := if_pos (by assumption)
    rw [← e]
    exact hret _ _ _ (by k_asm) (by k_asm)
  · have e : rangeM x y = (1 * 2 ^ (y - x + 1).toNat - 1) * 2 ^ x.toNat := if_neg (by assumption)
    rw [← e]
    exact hret _ _ _ (by k_asm) (by k_asm)
/-! types -/
theorem reg29 : True := by
  w_top off
  (k_with "MINE none" => (skip))
  trivial
abbrev TypeD (P : Params) (t1 t2 t3 t4 t5 t6 t7 t8 t9 t10 t11 t12 : Tok) (num form size base len fl lev pa mo la hi ex : Value) : Obj :=
  dictOf [kE P "number" t1 num, kE P "form" t2 form, kE P "size" t3 size, kE P "base" t4 base, kE P "length" t5 len, kE P "fields" t6 fl, kE P "level" t7 lev, kE P "params" t8 pa, kE P "module" t9 mo, kE P "label" t10 la, kE P "hidden" t11 hi, kE P "exno" t12 ex] 12
theorem tyF_of {P : Params} {news : List (Addr × Obj)} {x d : Addr} {t1 t2 t3 t4 t5 t6 t7 t8 t9 t10 t11 t12 t13 : Tok} {num size base len fl lev pa mo la hi ex : Value} {form : Str} (h1 : (x, instObj 228 d) ∈ news)
    (h2 : (d, TypeD P t1 t2 t3 t4 t5 t6 t7 t8 t9 t10 t11 t12 num (.str form t13) size base len fl lev pa mo la hi ex) ∈ news) : TyF news x form := ⟨t13, _, _, _, h1, h2, rfl, rfl⟩
section
variable {prog : Program} {w : World} {A : Around} {E : Value → Shared → Prop} {s : Shared} {K : Frag} {x C dx L : Addr} {h₀ : Heap} {m : Str → Option Value} {news news' : List (Addr × Obj)}
/-- a store to the dict's first entry, the rest unknown -/
theorem set_head {Q : Unit → Shared → Prop} {es : List DictEntry} {n : Nat} {P : Params} {name : Str} {t : Tok} {u v : Value} (F : Fr h₀ L s.heap m) (X₀ : K.In h₀) (N : News h₀ L s.heap news) (I : InstAt s.heap x (instObj C dx) C (some (dictOf (kE P name t u :: es) n)))
    (hs : findIn K (.ref C) "__setattr__" = some (some (.builtin "object.__setattr__"))) (hp : plainOver K C = true) (ht : takerIn K C name = some none) (hh : hasDictIn K C = true)
    (U : Upd dx (dictOf (kE P name t u :: es) n) (dictOf (kE P name t v :: es) n) news news') (hz : es.length ≤ 900)
    (h : ∀ h', Fr h₀ L h' m → News h₀ L h' news' → Q () { s with heap := h', toks := s.toks + 2 }) :
    wpAny (model prog w) A (setAttr (.ref x) name v) Q E s := by
  have hn : (Value.str name t).isStr name = true := by simp [Value.isStr]
  have hl : getL name (kE P name t u :: es) = some (some u) := by unfold getL; simp [kE, hn]
  refine set_dict F X₀ N I rfl hs hp ht hh (by rw [hl]; rfl) (es' := kE P name t v :: es) (n' := n) ?_ U (by simp; omega) h
  unfold putL putN
  simp [kE, hn]
end
section
variable {prog : Program} {w : World} {A : Around} {E : Value → Shared → Prop} {s : Shared} {K : Frag} {x C dx L : Addr} {h₀ : Heap} {m : Str → Option Value} {news : List (Addr × Obj)}
theorem get_head {expr : Bool} {Q : Value → Shared → Prop} {attr : Option Value} {es : List DictEntry} {n : Nat} {P : Params} {name : Str} {t : Tok} {u : Value} (F : Fr h₀ L s.heap m) (X₀ : K.In h₀) (I : InstAt s.heap x (instObj C dx) C (some (dictOf (kE P name t u :: es) n)))
    (hg : plainGet K C name = true) (hh : hasDictIn K C = true) (ha : findIn K (.ref C) name = some attr) (hn : noGet K attr = true) (hv : handedIn u = true) (h : Q u { s with toks := s.toks + 1 }) :
    wpAny (model prog w) A (getAttr (.ref x) name expr) Q E s := by
  have hn' : (Value.str name t).isStr name = true := by simp [Value.isStr]
  exact get_own F X₀ I hg hh ha hn (by unfold getL; simp [kE, hn']) hv h
end
theorem slot1_mem {d : Addr} {u : Obj → List (Addr × Obj)} {o : Obj} (h : ∀ o, UpdF d o (u o) u) : (d, o) ∈ u o := UpdF.mem (h o)
theorem slot1_upd {d : Addr} {u : Obj → List (Addr × Obj)} {o : Obj} (h : ∀ o, UpdF d o (u o) u) (o' : Obj) : Upd d o o' (u o) (u o') := UpdF.toUpd (h o) o'
-- priv>
theorem reg31 : True := by
  (k_with "X k_mem" => (exact slot1_mem (by assumption)))
  (k_with "X k_mem" => (exact allIn1 (by assumption)))
  (k_with "X k_upd" => (exact slot1_upd (by assumption) _))
  (k_with "getAttr ref" => ((k_here; k_dflt (refine' get_head ?k1_192 ?k2_192 ?k3_192 ?k4_192 ?k5_192 ?k6_192 ?k7_192 ?k8_192 ?_; (case k1_192 => k_asm); (case k2_192 => k_asm); (case k3_192 => k_inst); (case k4_192 => k_is); (case k5_192 => k_is); (case k6_192 => k_is); (case k7_192 => k_is); (case k8_192 => rfl); k_whole))))
  (k_with "setAttr ref" => ((k_here; (with_reducible show wpAny _ _ (setAttr _ (Str.ofString "counter") _) _ _ _); k_dflt (refine' set_head ?k1_193 ?k2_193 ?k3_193 ?k4_193 ?k5_193 ?k6_193 ?k7_193 ?k8_193 ?k9_193 ?k10_193 ?_; (case k1_193 => k_asm); (case k2_193 => k_asm); (case k3_193 => k_asm); (case k4_193 => k_inst); (case k5_193 => k_is); (case k6_193 => k_is); (case k7_193 => k_is); (case k8_193 => k_is); (case k9_193 => k_upd); (case k10_193 => assumption); k_whole; intro h' F' N'; (try k_sweep)))))
  trivial
-- <priv
/-- all of new lies above all that the one-slot ledger bears -/
def Ov1 (new : List (Addr × Obj)) (upd : Obj → List (Addr × Obj)) : Prop := ∀ q ∈ new, ∀ a, ∀ r ∈ upd a, @LT.lt Nat _ r.1 q.1
theorem ov1_two {T d x : Nat} {upd : Obj → List (Addr × Obj)} {o o1 o2 : Obj} (hS : ∀ o, UpdF T o (upd o) upd) (h : AllLt d (upd o)) (h2 : d < x) : Ov1 [(x, o1), (d, o2)] upd := by
  intro q hq a r hr
  have h3 : @LT.lt Nat _ r.1 d := lt_addr (r := d) (UpdF.addr (hS o) a) (fun q hq => kst_ltOf h q hq) r hr
  simp only [List.mem_cons, List.not_mem_nil, or_false] at hq
  rcases hq with rfl | rfl
  · exact Nat.lt_trans h3 h2
  · exact h3
structure TyT where
  (t1 t2 t3 t4 t5 t6 t7 t8 t9 t10 t11 t12 tf : Tok)
  (num fl lev pa mo la hi ex : Value)
/-- a new type's dict -/
abbrev TypeX (P : Params) (r : TyT) (form : Str) (size base len : Value) : Obj := TypeD P r.t1 r.t2 r.t3 r.t4 r.t5 r.t6 r.t7 r.t8 r.t9 r.t10 r.t11 r.t12 r.num (.str form r.tf) size base len r.fl r.lev r.pa r.mo r.la r.hi r.ex
def NewXC (w : World) (mean : ExcName → Option Value) (mg mb : Str → Option Value) : Prop :=
  ∀ {dp un : Nat} {gd : Option (List Code)} {cn : Str} {cs : Scope} {a : Addr} {ccd : Value} {cl : List (Str × Addr)} {outer : List Env} {A₀ : Around} {base h₀ : Heap} {L : Addr} {m : Str → Option Value} {hp : Heap} {gns : Array GenState} {drw : Drawn} {tk0 : Nat} {sos : OsState} {Q E : Value → Shared → Prop} {news : List (Addr × Obj)}
    {upd : Obj → List (Addr × Obj)} {T Td : Addr} {es : List DictEntry} {n : Nat} {t1 : Tok} {c : Int} {tc : Tok} {form : Str} {size : Int} {tf tz : Tok},
    Below A₀ base outer h₀ → Fr h₀ L hp m → (Mine.R.heap_1_1 w.params).In h₀ → News h₀ L hp news → Top Mine.R.view_1_2 (looseW Mine.R.view_1_2 []) mean mg mb h₀ → cs.kind = .function →
    dp + 8 < recursionLimit → un + 48 < cLine → UpdF Td (dictOf (kE w.params "counter" t1 (.int c tc) :: es) n) news upd → (∀ o, (T, instObj 285 Td) ∈ upd o) → es.length ≤ 900 → 0 ≤ c → c ≤ 1000 →
    (∀ (ty d : Nat) (r : TyT) (tl tc' : Tok) (h' : Heap) (tk' : Nat), Fr h₀ L h' m → News h₀ L h' ((ty, instObj 228 d) :: (d, TypeX w.params r form (.int size tz) .none (.int 0 tl)) :: upd (dictOf (kE w.params "counter" t1 (.int (c + 1) tc') :: es) n)) → AllLt d (upd (dictOf (kE w.params "counter" t1 (.int (c + 1) tc') :: es) n)) → d < ty → Q (.ref ty) ⟨h', gns, drw, tk', sos⟩) →
    wpAny (model PySem.Challenge.rw_nu0332_01.row.prog w) (ktrTop dp un gd cn cs L a ccd cl outer) (call (.ref 275) [.ref T, .str form tf, .int size tz]) Q E ⟨hp, gns, drw, tk0, sos⟩
set_option maxHeartbeats 8000000 in
theorem newx_ct (w : World) (mean : ExcName → Option Value) (mg mb : Str → Option Value) : NewXC w mean mg mb := by
  unfold NewXC
  intro dp un gd cn cs a ccd cl outer A₀ base h₀ L m hp gns drw tk0 sos Q E news upd T Td es n t1 c tc form size tf tz B F X N T hk hd hu hU hTm hes hc0 hc1 hret
  have hS1 := fun o => UpdF.again hU o
  have hself := UpdF.self hU
  subst hself
  refine call_rq ?_
  (first | k_dflt k_enter | fail "not entered")
  k_steps
  exact hret _ _ ⟨_, _, _, _, _, _, _, _, _, _, _, _, _, _, _, _, _, _, _, _, _⟩ _ _ _ _ (by k_asm) (cb_drop (by assumption) (fun p hp => .tail _ (.tail _ (.tail _ hp)))) (by assumption) (by assumption)
def NewC (w : World) (mean : ExcName → Option Value) (mg mb : Str → Option Value) : Prop :=
  ∀ {dp un : Nat} {gd : Option (List Code)} {cn : Str} {cs : Scope} {a : Addr} {ccd : Value} {cl : List (Str × Addr)} {outer : List Env} {A₀ : Around} {base h₀ : Heap} {L : Addr} {m : Str → Option Value} {hp : Heap} {gns : Array GenState} {drw : Drawn} {tk0 : Nat} {sos : OsState} {Q E : Value → Shared → Prop} {news : List (Addr × Obj)}
    {upd : Obj → List (Addr × Obj)} {T Td : Addr} {es : List DictEntry} {n : Nat} {t1 : Tok} {c : Int} {tc : Tok} {form : Str} {size : Int} {tf tz : Tok},
    Below A₀ base outer h₀ → Fr h₀ L hp m → (Mine.R.heap_1_1 w.params).In h₀ → News h₀ L hp news → Top Mine.R.view_1_2 (looseW Mine.R.view_1_2 []) mean mg mb h₀ → cs.kind = .function →
    dp + 8 < recursionLimit → un + 48 < cLine → UpdF Td (dictOf (kE w.params "counter" t1 (.int c tc) :: es) n) news upd → (∀ o, (T, instObj 285 Td) ∈ upd o) → es.length ≤ 900 → 0 ≤ c → c ≤ 1000 →
    (∀ (ty : Nat) (new : List (Addr × Obj)) (tc' : Tok) (h' : Heap) (tk' : Nat), Fr h₀ L h' m → News h₀ L h' (new ++ upd (dictOf (kE w.params "counter" t1 (.int (c + 1) tc') :: es) n)) → Ov1 new upd → TyF new ty form → HasA new ty 228 "base" .none → Q (.ref ty) ⟨h', gns, drw, tk', sos⟩) →
    wpAny (model PySem.Challenge.rw_nu0332_01.row.prog w) (ktrTop dp un gd cn cs L a ccd cl outer) (call (.ref 275) [.ref T, .str form tf, .int size tz]) Q E ⟨hp, gns, drw, tk0, sos⟩
set_option maxHeartbeats 8000000 in
theorem new_ct (w : World) (mean : ExcName → Option Value) (mg mb : Str → Option Value) : NewC w mean mg mb := by
  unfold NewC
  intro dp un gd cn cs a ccd cl outer A₀ base h₀ L m hp gns drw tk0 sos Q E news upd T Td es n t1 c tc form size tf tz B F X N T hk hd hu hU hTm hes hc0 hc1 hret
  have hS1 := fun o => UpdF.again hU o
  exact newx_ct w mean mg mb B F X N T hk hd hu hU hTm hes hc0 hc1 fun ty d r tl tc' h' tk' F' N' l1 l2 => hret ty [_, _] tc' h' tk' F' N' (ov1_two hS1 l1 l2) ⟨_, _, _, _, .head _, .tail _ (.head _), rfl, rfl⟩ ⟨_, _, _, .head _, .tail _ (.head _), rfl, rfl⟩
def AllNe (d : Addr) (l : List (Addr × Obj)) : Prop := ∀ p ∈ l, p.1 ≠ d
/-- what the types' dict holds, but for the counter -/
structure TyK where
  (t1 t2 t3 t4 t5 t6 t7 t8 t9 : Tok)
  (kn b ch by' i m ni no : Addr)
abbrev TyO (P : Params) (k : TyK) (c : Int) (tc : Tok) : Obj :=
  dictOf [kE P "counter" k.t1 (.int c tc), kE P "known" k.t2 (.ref k.kn), kE P "boolean" k.t3 (.ref k.b), kE P "char" k.t4 (.ref k.ch), kE P "byte" k.t5 (.ref k.by'), kE P "integer" k.t6 (.ref k.i), kE P "mask" k.t7 (.ref k.m), kE P "nil" k.t8 (.ref k.ni), kE P "none" k.t9 (.ref k.no)] 9
section
variable {P : Params} {k : TyK} {c : Int} {tc : Tok} {news : List (Addr × Obj)} {T Td : Addr} (h1 : (T, instObj 285 Td) ∈ news) (h2 : (Td, TyO P k c tc) ∈ news)
include h1 h2
theorem tyo_b : HasA news T 285 "boolean" (.ref k.b) := ⟨_, _, _, h1, h2, rfl, rfl⟩
theorem tyo_m : HasA news T 285 "mask" (.ref k.m) := ⟨_, _, _, h1, h2, rfl, rfl⟩
theorem tyo_i : HasA news T 285 "integer" (.ref k.i) := ⟨_, _, _, h1, h2, rfl, rfl⟩
end
/-- the forms of the seven types -/
structure TyFs (Z : List (Addr × Obj)) (k : TyK) : Prop where
  b : TyF Z k.b "boolean"
  ch : TyF Z k.ch "char"
  by' : TyF Z k.by' "byte"
  i : TyF Z k.i "integer"
  m : TyF Z k.m "set"
  ni : TyF Z k.ni "nil"
theorem TyFs.mono {Z Z' : List (Addr × Obj)} {k : TyK} (h : TyFs Z k) (hs : ∀ p ∈ Z, p ∈ Z') : TyFs Z' k := ⟨h.b.mono hs, h.ch.mono hs, h.by'.mono hs, h.i.mono hs, h.m.mono hs, h.ni.mono hs⟩
def StringC (w : World) (mean : ExcName → Option Value) (mg mb : Str → Option Value) : Prop :=
  ∀ {dp un : Nat} {gd : Option (List Code)} {cn : Str} {cs : Scope} {a : Addr} {ccd : Value} {cl : List (Str × Addr)} {outer : List Env} {A₀ : Around} {base h₀ : Heap} {L : Addr} {m : Str → Option Value} {hp : Heap} {gns : Array GenState} {drw : Drawn} {tk0 : Nat} {sos : OsState} {Q E : Value → Shared → Prop} {news : List (Addr × Obj)}
    {upd : Obj → List (Addr × Obj)} {Ta Td : Addr} {k : TyK} {c : Int} {tc : Tok} {size : Int} {tz : Tok},
    Below A₀ base outer h₀ → Fr h₀ L hp m → (Mine.R.heap_1_1 w.params).In h₀ → News h₀ L hp news → Top Mine.R.view_1_2 (looseW Mine.R.view_1_2 []) mean mg mb h₀ → cs.kind = .function →
    dp + 12 < recursionLimit → un + 60 < cLine → (Ta, instObj 285 Td) ∈ news → UpdF Td (TyO w.params k c tc) news upd → (∀ o, (Ta, instObj 285 Td) ∈ upd o) → 0 ≤ c → c ≤ 1000 →
    (∀ (ty : Nat) (new : List (Addr × Obj)) (tc' : Tok) (h' : Heap) (tk' : Nat), Fr h₀ L h' m → News h₀ L h' (new ++ upd (TyO w.params k (c + 1) tc')) → Ov1 new upd → TyF new ty "string" → Q (.ref ty) ⟨h', gns, drw, tk', sos⟩) →
    wpAny (model PySem.Challenge.rw_nu0332_01.row.prog w) (ktrTop dp un gd cn cs L a ccd cl outer) (call (.ref 282) [.ref Ta, .int size tz]) Q E ⟨hp, gns, drw, tk0, sos⟩
-- priv>
theorem reg32 : True := by
  (k_with "call ref" => ((k_here; (with_reducible show wpAny _ _ (call (Value.ref 275) _) _ _ _); k_dflt (refine' newx_ct _ _ _ _ ?k1_194 ?k2_194 ?k3_194 ?k4_194 ?k5_194 ?kK_194 ?kd_194 ?ku_194 ?p0_194 ?p1_194 ?p2_194 ?p3_194 ?p4_194 ?_; (case k1_194 => k_asm); (case k2_194 => k_asm); (case k3_194 => k_asm); (case k4_194 => k_asm); (case k5_194 => k_asm); (case kK_194 => first | exact rfl | assumption); (case kd_194 => ktr_room); (case ku_194 => ktr_units); (case p0_194 => k_updF); (case p1_194 => (intro o; (try dsimp only); k_mem)); (case p2_194 => (simp only [List.length_cons, List.length_nil]; omega)); (case p3_194 => first | decide | omega); (case p4_194 => first | decide | omega)); intro ty' d' r' tl' tc' h' tk' F' N' l1 l2; (try dsimp only at N'); (try k_lt2 l2); (try k_sweep); (try dsimp only); (try k_fold))))
  trivial
-- <priv
set_option maxHeartbeats 8000000 in
theorem string_ct (w : World) (mean : ExcName → Option Value) (mg mb : Str → Option Value) : StringC w mean mg mb := by
  unfold StringC
  intro dp un gd cn cs a ccd cl outer A₀ base h₀ L m hp gns drw tk0 sos Q E news upd Ta Td k c tc size tz B F X N T hk hd hu _ hU hTm hc0 hc1 hret
  have hS1 := fun o => UpdF.again hU o
  have hself := UpdF.self hU
  subst hself
  refine call_rq ?_
  (first | k_dflt k_enter | fail "not entered")
  k_steps
  exact hret _ [_, _] _ _ _ (by k_asm) (by k_asm) (ov1_two hS1 (by assumption) (by assumption)) ⟨_, _, _, _, .head _, .tail _ (.head _), rfl, rfl⟩
/-! types2 -/
theorem reg33 : True := by
  w_top off
  k_with_none
  (k_with "subscriptTail" => ((k_here; (with_reducible show wpAny _ _ (subscriptTail _ _ (Value.ref _) (Value.int _ _)) _ _ _); k_dflt (refine' itemN ?k1_195 ?k2_195 ?k3_195 ?k4_195 ?k5_195 ?_ ?k6_195; (case k1_195 => k_asm); (case k2_195 => k_mem); (case k3_195 => decide); (case k4_195 => decide); (case k5_195 => rfl); (case k6_195 => with_unfolding_all rfl); k_whole))))
  (k_with "subscriptTail" => ((k_here; (with_reducible show wpAny _ _ (subscriptTail _ _ (Value.ref _) (Value.int _ _)) _ _ _); k_dflt (refine' itemT ?k1_196 ?k2_196 ?k3_196 ?k4_196 ?k5_196 ?_ ?k6_196; (case k1_196 => k_asm); (case k2_196 => k_mem); (case k3_196 => decide); (case k4_196 => decide); (case k5_196 => rfl); (case k6_196 => with_unfolding_all rfl); k_whole))))
  (k_with "subscriptTail Name Constant ref int" => ((k_here; k_dflt (first | (refine' itemT ?k1_197 ?k2_197 ?k3_197 ?k4_197 ?k5_197 ?_ ?k6_197; (case k1_197 => k_asm); (case k2_197 => k_mem); (case k3_197 => decide); (case k4_197 => decide); (case k5_197 => rfl); (case k6_197 => with_unfolding_all rfl); k_whole) | (refine' itemN ?k1_197 ?k2_197 ?k3_197 ?k4_197 ?k5_197 ?_ ?k6_197; (case k1_197 => k_asm); (case k2_197 => k_mem); (case k3_197 => decide); (case k4_197 => decide); (case k5_197 => rfl); (case k6_197 => with_unfolding_all rfl); k_whole)))))
  (k_with "getItem ref int" => ((k_here; k_dflt (refine' getN ?k1_198 ?k2_198 ?k3_198 ?k4_198 ?k5_198 ?_; (case k1_198 => k_asm); (case k2_198 => k_mem); (case k3_198 => decide); (case k4_198 => decide); (case k5_198 => rfl); k_whole))))
  (k_with "call builtin:len" => ((k_here; (with_reducible show wpAny _ _ (call (Value.builtin "len") [Value.ref _]) _ _ _); k_dflt (refine' kst_len ?k1_199 ?k2_199 ?k3_199 ?k4_199 ?_; (case k1_199 => k_asm); (case k2_199 => k_mem); (case k3_199 => first | exact IntsAre.length (by assumption) | assumption); (case k4_199 => omega); k_whole))))
  (k_with "X k_updF" => (with_reducible assumption))
  (k_with "X k_upd" => (exact UpdF.toUpd (by assumption) _))
  (k_with "X k_mem" => (exact UpdF.mem (by assumption)))
  (k_with "X k_mem" => (exact UpdF.mem' (by assumption) _))
  (k_with "X k_enter" => ((refine' code_def ?k1_204 ?k2_204 ?k3_204 ?k4_204 ?k5_204 ?kA_204 ?kF_204 ?kK_204 ?k6_204 ?k7_204 ?k8_204 ?k9_204 ?kB_204 ?_ ?c2_204 ?c3_204 ?c4_204 ?c5_204; (case kA_204 => exact rfl); (case kF_204 => exact rfl); (case kK_204 => first | exact rfl | assumption); (case k1_204 => k_asm); (case k2_204 => k_asm); (case k3_204 => k_asm); (case k4_204 => k_asm); (case k5_204 => k_asm); (case k6_204 => k_is); (case k7_204 => k_is); (case k8_204 => ktr_room); (case k9_204 => first | exact BindsTo.of_eq rfl | exact binds_K (by k_in) rfl (by k_is) rfl rfl rfl | fail "k_enter: no rule for these arguments"); (case c5_204 => decide); (case kB_204 => exact locs rfl); (case c2_204 => exact rfl); (case c3_204 => exact rfl); (case c4_204 => exact rfl); k_whole; intro g' L' h' FG' F' N' B' X' T'; (try dsimp only); (try k_lift B'); (try k_fold))))
  (k_with "X k_room" => (ktr_room))
  (k_with "X k_units" => (ktr_units))
  (k_with "getAttr ref" => ((k_here; k_dflt (first
  | refine' get_has ?k1_207 ?k2_207 ?k3_207 ?k4_207 ?k5_207 ?k6_207 ?k7_207 ?k8_207 ?k9_207 ?_; (case k1_207 => k_asm); (case k2_207 => k_asm); (case k3_207 => k_asm); (case k4_207 => with_reducible assumption); (case k5_207 => first | exact fun _ h => h | (intro p hp; repeat (first | exact hp | apply List.mem_cons_of_mem))); (case k6_207 => k_is); (case k7_207 => k_is); (case k8_207 => k_is); (case k9_207 => k_is); k_whole
  | refine' get_has2 ?k1_207 ?k2_207 ?k3_207 ?k4_207 ?k5_207 ?k6_207 ?k7_207 ?k8_207 ?k9_207 ?_; (case k1_207 => k_asm); (case k2_207 => k_asm); (case k3_207 => k_asm); (case k4_207 => with_reducible assumption); (case k5_207 => first | exact fun _ h => h | (intro p hp; repeat (first | exact hp | apply List.mem_cons_of_mem))); (case k6_207 => k_is); (case k7_207 => k_is); (case k8_207 => k_is); (case k9_207 => k_is); k_whole))))
  (k_with "X size_fits" => ((simp only [List.size_toArray, PySem.sizeLine_eq]; omega)))
  (k_with "binaryOp FloorDiv int int" => ((refine floordiv_int ?_ ?_ (Or.inl (noPy (by omega))); first | decide | omega)))
  (k_with "MINE sub" => (first | exact fun _ h => h | (intro p hp; repeat (first | exact hp | apply List.mem_cons_of_mem))))
  (k_with "MINE subxy" => ((intro x y p hp; repeat (first | exact hp | apply List.mem_cons_of_mem))))
  (k_with "X ktr_units" => (first | k_dflt (first | exact far2 (by with_reducible assumption) (by decide) | exact far1 (by with_reducible assumption) (by decide)) | (have hcL9 := cLine_is; ((try simp only [units_under_make, units_in1, units_deeper, Around.mark_units, units_caller]); (try dsimp only [ktrTop]); omega))))
  (k_with "X ktr_room" => (first | k_dflt (first | exact far2 (by with_reducible assumption) (by decide) | exact far1 (by with_reducible assumption) (by decide)) | ((with_reducible refine room_make ?_); k_dflt (first | exact far2 (by with_reducible assumption) (by decide) | exact far3 (by with_reducible assumption) (by decide) | exact far1 (by with_reducible assumption) (by decide)))))
  (k_with "X k_all" => (k_dflt exact ne_allLt (by assumption)))
  (k_with "MINE ar" => (with_reducible (first | assumption | exact aN1 (by assumption) | exact aN2 (by assumption) | exact aN3 (by assumption) | exact aN4 (by assumption) | exact aN5 (by assumption) | exact aN6 (by assumption) | exact aN7 (by assumption) | exact aN8 (by assumption) | exact aN9 (by assumption) | exact aN10 (by assumption) | exact aN11 (by assumption) | exact aN12 (by assumption))))
  (k_with "X omega" => (first | with_reducible assumption | (with_reducible refine Nat.ne_of_gt ?_; walk_at "MINE ar") | (with_reducible refine Nat.ne_of_lt ?_; walk_at "MINE ar") | ((with_reducible show @Ne Nat _ _); first | with_reducible exact Ne.symm (by assumption) | walk_at "MINE ar" | (with_reducible refine Ne.symm ?_; walk_at "MINE ar") | (with_reducible refine ne_tr (by assumption) ?_; walk_at "MINE ar")) | ((with_reducible show @LT.lt Nat _ _ _); with_reducible (first | exact far1 (by assumption) (by decide) | exact far2 (by assumption) (by decide) | exact far3 (by assumption) (by decide) | exact far0 (by assumption) | walk_at "MINE ar")) | ((with_reducible show @LE.le Nat _ _ _); with_reducible exact Nat.le_trans (by assumption) (by decide)) | ((with_reducible show @LT.lt Int _ _ _); with_reducible (first | exact Int.lt_of_lt_of_le (by assumption) (by decide) | exact int_ll (by assumption) (by decide))) | ((with_reducible show @LE.le Int _ _ _); with_reducible (first | exact Int.le_refl _ | exact i_le1 _ | exact Int.le_trans (by assumption) (by decide))) | decide))
  (k_with "MINE step" => ((first | (k_unfold; (try dsimp only)) | (k_end; wrow_close) | walk1 | (dsimp only; walk1) | (leave1; try dsimp only) | fail "no step")))
  (k_with "X k_mem" => (exact mem_of (by with_reducible assumption)))
  (k_with "ite" => (((with_reducible show (if (_ == Str.ofString _) = true then _ else _)); first | (refine ite_pos (by with_reducible assumption) ?_) | (refine ite_strF (by with_reducible assumption) ?_) | (refine ite_strF (str_ne (by with_reducible assumption) (by decide)) ?_))))
  (k_with "ite" => (((with_reducible show (if (_ != Str.ofString _) = true then _ else _)); first | (refine ite_pos (by with_reducible assumption) ?_) | (refine ite_strneF (by with_reducible assumption) ?_) | (refine ite_strneF (str_ne (by with_reducible assumption) (by decide)) ?_))))
  (k_with "MINE look" => ((repeat (first | with_reducible exact lk_hd | with_reducible exact if_hd | with_reducible refine lk_tl (by decide) ?_ | with_reducible refine if_tl (by decide) ?_))))
  (k_with "eval Name" => ((k_here; (fail_if_success (with_reducible show wpAny _ _ (eval _ (compEnvC _ _ _ _)) _ _ _)); k_dflt (first | (refine' nameQ ?F_222 ?v_222 ?_ ?k_222 ?a_222 ?b_222; (case k_222 => rfl); (case a_222 => decide); (case b_222 => decide); (case F_222 => k_asm); (case v_222 => walk_at "MINE look"); k_whole) | (refine' nameQK ?F_222 ?X_222 ?T_222 ?e_222 ?_ ?k_222 ?a_222 ?b_222; (case k_222 => rfl); (case a_222 => decide); (case b_222 => decide); (case F_222 => k_asm); (case X_222 => k_asm); (case T_222 => k_asm); (case e_222 => k_is); k_whole)))))
  (k_with "ite" => (first | with_reducible refine i_tt ?_ | with_reducible refine i_ff ?_ | with_reducible refine i_True ?_ | with_reducible refine i_False ?_ | with_reducible refine i_not ?_))
  (k_with "X k_enter" => ((refine' code_pos ?k1_224 ?k2_224 ?k3_224 ?k4_224 ?k5_224 ?kA_224 ?kF_224 ?kK_224 ?k6_224 ?k7_224 ?k8_224 ?k9_224 ?kB_224 ?_ ?c2_224 ?c3_224 ?c4_224 ?c5_224; (case kA_224 => exact rfl); (case kF_224 => exact rfl); (case kK_224 => first | exact rfl | assumption); (case k1_224 => k_asm); (case k2_224 => k_asm); (case k3_224 => k_asm); (case k4_224 => k_asm); (case k5_224 => k_asm); (case k6_224 => k_is); (case k7_224 => k_is); (case k8_224 => ktr_room); (case k9_224 => exact BindsTo.of_eq rfl); (case c5_224 => decide); (case kB_224 => exact locs rfl); (case c2_224 => exact rfl); (case c3_224 => exact rfl); (case c4_224 => exact rfl); k_whole; intro g' L' h' FG' F' N' B' X' T'; (try simp only [zipB, List.reverse_cons, List.reverse_nil, List.nil_append, List.cons_append] at F'); (try dsimp only); (try k_lift B'); (try k_fold))))
  (k_with "ite" => ((k_closed; first | with_reducible refine i_pos (by decide) ?_ | with_reducible refine i_neg (by decide) ?_)))
  (k_with "getItem ref str" => ((k_here; k_dflt (refine' getS ?k1_226 ?k2_226 ?_; (case k1_226 => k_tabat); (case k2_226 => (repeat (first | with_reducible exact lookD_hd | with_reducible refine lookD_tl (by decide) ?_ | with_reducible exact lookS_hd | with_reducible refine lookS_tl (by decide) ?_))); k_whole); intro _)))
  (k_with "MINE ga" => (first | exact Ga.has (by k_asm) (by k_asm) (by k_asm) (by with_reducible assumption) (by walk_at "MINE sub") (by k_is) (by k_is) (by k_is) (by k_is) | exact Ga.has2 (by k_asm) (by k_asm) (by k_asm) (by with_reducible assumption) (by walk_at "MINE sub") (by k_is) (by k_is) (by k_is) (by k_is) | exact Ga.own (by k_asm) (by k_asm) (by k_asm) (by k_mem) (by k_mem) (by k_is) (by k_is) (by k_is) (by k_is) (by k_get) (by k_handed)))
  (k_with "MINE tmem" => (first | with_reducible assumption | with_reducible exact List.mem_cons_self | (with_reducible refine List.mem_cons_of_mem _ ?_; walk_at "MINE tmem") | (with_reducible refine List.mem_append_right _ ?_; walk_at "MINE tmem")))
  (k_with "MINE ev" => (first | ((with_reducible show Ev _ _ _ _ _ (Expr.Name _ _) _ _); (fail_if_success (with_reducible show Ev _ _ (compEnvC _ _ _ _) _ _ _ _ _)); exact Ev.name (by k_asm) (by walk_at "MINE look") rfl (by decide) (by decide)) | ((with_reducible show Ev _ _ _ _ _ (Expr.Attribute _ _ _) _ _); exact Ev.attr (by walk_at "MINE ev") (by walk_at "MINE ga") (by with_unfolding_all rfl)) | with_reducible exact Ev.str | with_reducible exact Ev.int | with_reducible exact Ev.none | ((with_reducible show Ev _ _ _ _ _ (Expr.Subscript _ (Expr.Constant _ _ _) _) _ _); first | exact Ev.itemT (by walk_at "MINE ev") (by k_asm) (by walk_at "MINE tmem") (by decide) (by decide) (by first | with_reducible exact it0 | with_reducible exact it1 | with_reducible exact it2 | rfl) | exact Ev.itemL (by walk_at "MINE ev") (by k_asm) (by walk_at "MINE tmem") (by decide) (by decide) (by first | with_reducible exact it0 | with_reducible exact it1 | with_reducible exact it2 | rfl))))
  (k_with "MINE vs" => (first | ((with_reducible show Vs _ _ _ _ _ (_ :: _) _ _ _); exact Vs.cons (by walk_at "MINE ev") rfl (by walk_at "MINE vs")) | with_reducible exact Vs.nil))
  (k_with "MINE vp" => (first | ((with_reducible show Vs _ _ _ _ _ (_ :: _) _ _ _); exact Vs.cons (by walk_at "MINE ev") rfl (by walk_at "MINE vp")) | with_reducible exact Vs.nil))
  (k_with "spliced" => ((k_here; (with_reducible show wpAny _ _ (spliced (backTo _ (starEach (_ :: _) _))) _ _ _); k_dflt (first | ((with_reducible refine' args_all ?s_232 ?V_232 ?_); (case s_232 => exact rfl); (case V_232 => walk_at "MINE vs"); k_whole) | ((with_reducible refine' args_ev ?s_232 ?V_232 ?_); (case s_232 => exact rfl); (case V_232 => ((with_reducible show Vs _ _ _ _ _ (_ :: _) _ _ _); exact Vs.cons (by walk_at "MINE ev") rfl (by walk_at "MINE vp"))); k_whole)))))
  (k_with "eval Call" => ((k_here; (fail_if_success (with_reducible show wpAny _ _ (eval _ (compEnvC _ _ _ _)) _ _ _)); k_dflt (refine' call_ev ?F_233 ?X_233 ?T_233 ?e_233 ?k_233 ?a_233 ?b_233 ?f_233 ?c_233 ?s_233 ?V_233 ?_; (case s_233 => exact rfl); (case k_233 => rfl); (case a_233 => decide); (case b_233 => decide); (case F_233 => k_asm); (case X_233 => k_asm); (case T_233 => k_asm); (case e_233 => k_is); (case c_233 => exact rfl); (case f_233 => k_is); (case V_233 => walk_at "MINE vs"); k_whole))))
  (k_with "isTrue Compare" => ((k_here; first | ((with_reducible show wpAny _ _ (isTrue (Expr.Compare _ [CmpOp.Eq] [_] _) _ _) _ _ _); k_dflt (refine' ev_eqs ?s_234 ?x_234 ?y_234 ?m_234 ?_; (case s_234 => exact rfl); (case m_234 => with_unfolding_all rfl); (case x_234 => walk_at "MINE ev"); (case y_234 => walk_at "MINE ev"); k_whole)) | ((with_reducible show wpAny _ _ (isTrue (Expr.Compare _ [CmpOp.NotEq] [_] _) _ _) _ _ _); k_dflt (refine' ev_nes ?s_234 ?x_234 ?y_234 ?m_234 ?_; (case s_234 => exact rfl); (case m_234 => with_unfolding_all rfl); (case x_234 => walk_at "MINE ev"); (case y_234 => walk_at "MINE ev"); k_whole)) | ((with_reducible show wpAny _ _ (isTrue (Expr.Compare _ [CmpOp.In] [Expr.List _ _] _) _ _) _ _ _); k_dflt (refine' ev_inL ?s_234 ?e_234 ?z_234 ?m_234 ?F_234 ?N_234 ?x_234 ?_; (case s_234 => exact rfl); (case e_234 => exact rfl); (case z_234 => exact rfl); (case m_234 => with_unfolding_all rfl); (case F_234 => k_asm); (case N_234 => k_asm); (case x_234 => walk_at "MINE ev"); k_whole); intro h' tk' F' N'; (try k_sweep); (try dsimp only)) | ((with_reducible show wpAny _ _ (isTrue (Expr.Compare _ [CmpOp.In] [Expr.Tuple _ _ _] _) _ _) _ _ _); k_dflt (refine' ev_inT ?s_234 ?e_234 ?z_234 ?m_234 ?F_234 ?N_234 ?x_234 ?_; (case s_234 => exact rfl); (case e_234 => exact rfl); (case z_234 => exact rfl); (case m_234 => with_unfolding_all rfl); (case F_234 => k_asm); (case N_234 => k_asm); (case x_234 => walk_at "MINE ev"); k_whole); intro h' tk' F' N'; (try k_sweep); (try dsimp only)))))
  (k_with "eval BinOp" => ((k_here; k_dflt (refine' ev_bin ?s_235 ?x_235 ?y_235 ?_; (case s_235 => exact rfl); (case x_235 => walk_at "MINE ev"); (case y_235 => walk_at "MINE ev"); k_whole))))
  (k_with "eval Subscript" => ((k_here; k_dflt (refine' ev_sub ?s_236 ?x_236 ?y_236 ?_; (case s_236 => exact rfl); (case x_236 => walk_at "MINE ev"); (case y_236 => walk_at "MINE ev"); k_whole))))
  (k_with "eval Subscript" => ((k_here; (with_reducible show wpAny _ _ (eval (Expr.Subscript _ (Expr.Constant _ _ _) _) _) _ _ _); k_dflt (refine' ev_use ?s_237 ?x_237 ?_; (case s_237 => exact rfl); (case x_237 => walk_at "MINE ev"); k_whole))))
  (k_with "eval Attribute" => ((k_here; k_dflt (refine' ev_use ?s_238 ?x_238 ?_; (case s_238 => exact rfl); (case x_238 => walk_at "MINE ev"); k_whole))))
  (k_with "exec Return" => ((k_here; k_dflt (refine' ev_ret ?s_239 ?x_239 ?_; (case s_239 => exact rfl); (case x_239 => walk_at "MINE ev"); k_whole))))
  (k_with "storeName" => ((k_here; k_dflt (refine' storeE ?F_240 ?N_240 ?a_240 ?b_240 ?_; (case a_240 => rfl); (case b_240 => decide); (case F_240 => k_asm); (case N_240 => k_asm); k_whole); intro h' tk' F' N'; (try k_sweep))))
  (k_with "newList" => ((k_here; k_dflt (refine' newListE ?F_241 ?N_241 ?z_241 ?_; (case F_241 => k_asm); (case N_241 => k_asm); (case z_241 => size_fits); k_whole); intro l' h' F' N' l1; (try k_lt l1); (try k_sweep))))
  (k_with "newTuple" => ((k_here; kup_bare; k_dflt (refine' newTupleE ?F_242 ?N_242 ?z_242 ?_; (case F_242 => k_asm); (case N_242 => k_asm); (case z_242 => kmk_size); k_whole); intro D' h' F' N' l1; (try k_lt l1); (try k_sweep))))
  (k_with "call builtin:list.append" => ((k_here; (with_reducible show wpAny _ _ (call (Value.builtin _) [Value.ref _, _]) _ _ _); k_dflt (refine' appendE ?F_243 ?N_243 ?U_243 ?z_243 ?_; (case F_243 => k_asm); (case N_243 => k_asm); (case U_243 => k_upd); (case z_243 => size_fits); k_whole); intro h' F' N'; (try k_sweep))))
  (k_with "setAttr ref" => ((k_here; k_dflt (refine' setE ?F_244 ?X_244 ?N_244 ?i_244 ?j_244 ?k6_244 ?k7_244 ?k8_244 ?k9_244 ?k10_244 ?k11_244 ?k12_244 ?k13_244 ?_; (case F_244 => k_asm); (case X_244 => k_asm); (case N_244 => k_asm); (case i_244 => k_mem); (case j_244 => k_mem); (case k6_244 => k_is); (case k7_244 => k_is); (case k8_244 => k_is); (case k9_244 => k_is); (case k10_244 => k_get); (case k11_244 => k_put); (case k12_244 => k_upd); (case k13_244 => exact rfl); k_whole); intro h' tk' F' N'; (try k_sweep))))
  (k_with "LeaveK" => ((k_dflt (refine' leaveE ?F_245 ?N_245 ?_; (case F_245 => k_asm); (case N_245 => k_asm); k_whole); intro kF kN; (try dsimp only [InitBack]); (try refine ⟨rfl, ?_⟩))))
  (k_with "X k_enter" => ((refine' codeE ?k1_246 ?k2_246 ?k3_246 ?k4_246 ?k5_246 ?kA_246 ?kF_246 ?kK_246 ?k6_246 ?k7_246 ?k8_246 ?k9_246 ?kB_246 ?c2_246 ?c3_246 ?c4_246 ?c5_246 ?_; (case kA_246 => exact rfl); (case kF_246 => exact rfl); (case kK_246 => first | exact rfl | assumption); (case k1_246 => k_asm); (case k2_246 => k_asm); (case k3_246 => k_asm); (case k4_246 => k_asm); (case k5_246 => k_asm); (case k6_246 => k_is); (case k7_246 => k_is); (case k8_246 => ktr_room); (case k9_246 => exact BindsTo.of_eq rfl); (case c5_246 => decide); (case kB_246 => exact locs rfl); (case c2_246 => exact rfl); (case c3_246 => exact rfl); (case c4_246 => exact rfl); k_whole; intro g' L' h' tk' FG' F' N' B' X' T' nK aK; (try dsimp only [zipB, List.reverse, List.reverseAux] at F'); (try k_lift B'); (try k_fold))))
  (k_with "execs cons" => (first | with_reducible refine seq_if ?_ | with_reducible refine seq_cons ?_))
  (k_with "SeqK" => (first | with_reducible refine seq_end ?_ | with_reducible refine seq_next ?_ | with_reducible refine seq_ret ?_ | with_reducible refine seq_brk ?_ | with_reducible refine seq_cont ?_))
  (k_with "IfK" => (with_reducible refine ifK_open ?_))
  (k_with "AndK" => (with_reducible refine andK_open ?_))
  (k_with "OrK" => (with_reducible refine orK_open ?_))
  (k_with "exec If" => (with_reducible refine if_k ?_))
  (k_with "isTrue BoolOp" => (first | with_reducible refine and_k ?_ | with_reducible refine or_k ?_))
  (k_with "BackK" => ((k_dflt (first | (refine' backQ ?F_254 ?N_254 ?_; (case F_254 => k_asm); (case N_254 => k_asm); k_whole) | (refine' backN ?F_254 ?N_254 ?_; (case F_254 => k_asm); (case N_254 => k_asm); k_whole) | (refine' backR ?F_254 ?N_254 ?_; (case F_254 => k_asm); (case N_254 => k_asm); k_whole) | (refine' backRN ?F_254 ?N_254 ?_; (case F_254 => k_asm); (case N_254 => k_asm); k_whole)); intro kF kN; (try dsimp only [InitBack]); (try refine ⟨rfl, ?_⟩))))
  (k_with "compareOp In" => ((k_here; (with_reducible show wpAny _ _ (compareOp CmpOp.In Value.none (Value.ref _)) _ _ _); k_dflt (refine' in_none ?k1_255 ?k2_255 ?k3_255 ?k4_255 ?k5_255 ?_ ?_; (case k1_255 => k_asm); (case k2_255 => k_mem); (case k3_255 => assumption); (case k4_255 => assumption); (case k5_255 => ktr_units)); (intro hn; (try dsimp only)); rotate_left; (intro x' t' y' u' e1 e2 e3 e4; cases e1; (try cases e2); (try cases e3); (try cases e4); (try dsimp only)); rotate_left)))
  (k_with "compareOp IsNot" => ((k_here; (with_reducible show wpAny _ _ (compareOp CmpOp.IsNot _ Value.none) _ _ _); k_dflt (refine' isNot_none ?k3_256 ?_ ?_; (case k3_256 => assumption)); (intro e1 e2; subst e1 e2; (try dsimp only)); rotate_left; (intro x' t' e1 e2; subst e1 e2; (try dsimp only)); rotate_left)))
  (k_with "compareOp Is" => ((k_here; (with_reducible show wpAny _ _ (compareOp CmpOp.Is _ Value.none) _ _ _); k_dflt (refine' is_none ?k3_257 ?_ ?_; (case k3_257 => assumption)); (intro e1 e2; subst e1 e2; (try dsimp only)); rotate_left; (intro x' t' e1 e2; subst e1 e2; (try dsimp only)); rotate_left)))
  (k_with "MINE look" => ((repeat (first | with_reducible assumption | with_reducible exact lk_hd | with_reducible exact if_hd | with_reducible refine lk_tl (by decide) ?_ | with_reducible refine if_tl (by decide) ?_))))
  (k_with "MyPost" => ((dsimp only [MyPost])))
  (k_with "loadName" => ((k_here; k_dflt (refine' ldn ?F_260 ?v_260 ?_ ?k_260 ?a_260; (case k_260 => rfl); (case a_260 => rfl); (case F_260 => k_asm); (case v_260 => walk_at "MINE look"); k_whole))))
  (k_with "execs nil" => ((with_reducible refine wpAny_execs_nil ?_)))
  (k_with "CompEnd" => (((rename News _ _ _ _ => nE'); k_dflt (refine LCg.CompEnd.intro (by assumption) nE' _ (fun _ h => h) (by assumption) (by lcg_src) ?_))))
  (k_with "binaryOp Pow int int" => (((with_reducible refine pow_int_small ?_ ?_ ?_ ?_); (first | decide | omega); (first | decide | omega); (decide))))
  (k_with "call ref" => ((k_here; (with_reducible show wpAny _ _ (call (Value.ref 303) _) _ _ _); k_dflt (refine' pick_ct _ _ _ _ ?k1_264 ?k2_264 ?k3_264 ?k4_264 ?k5_264 ?kK_264 ?kd_264 ?ku_264 ?p0_264 ?p1_264 ?p2_264 ?p3_264 ?p4_264 ?p5_264 ?p6_264 ?p7_264 ?p8_264 ?p9_264 ?_; (case k1_264 => k_asm); (case k2_264 => k_asm); (case k3_264 => k_asm); (case k4_264 => k_asm); (case k5_264 => k_asm); (case kK_264 => first | exact rfl | assumption); (case kd_264 => ktr_room); (case ku_264 => ktr_units); (case p0_264 => k_updF); (case p1_264 => k_mem); (case p2_264 => assumption); (case p3_264 => omega); (case p4_264 => omega); (case p5_264 => omega); (case p6_264 => omega); (case p7_264 => omega); (case p8_264 => decide); (case p9_264 => decide)); intro r' t' i' ti' mx' tm' h' tk' F' N' r1 r2 i1 i2 m1 m2; (try dsimp only at N'); (try k_sweep); (try dsimp only); (try k_fold))))
  (k_with "call ref" => ((k_here; (with_reducible show wpAny _ _ (call (Value.ref 88) [_, _, _, _, _]) _ _ _); k_dflt (refine' node_ct _ _ _ _ ?k1_265 ?k2_265 ?k3_265 ?k4_265 ?k5_265 ?kK_265 ?kd_265 ?ku_265  ?_; (case k1_265 => k_asm); (case k2_265 => k_asm); (case k3_265 => k_asm); (case k4_265 => k_asm); (case k5_265 => k_asm); (case kK_265 => first | exact rfl | assumption); (case kd_265 => ktr_room); (case ku_265 => ktr_units)); intro x' d' t1 t2 t3 t4 t5 t6 h' tk' F' N' l1 l2; (try k_lt l1); (try k_lt2 l2); (try k_sweep); (try dsimp only); (try k_fold))))
  (k_with "call ref" => ((k_here; (with_reducible show wpAny _ _ (call (Value.ref 88) [_, _, _, _]) _ _ _); k_dflt (refine' node4_ct _ _ _ _ ?k1_266 ?k2_266 ?k3_266 ?k4_266 ?k5_266 ?kK_266 ?kd_266 ?ku_266  ?_; (case k1_266 => k_asm); (case k2_266 => k_asm); (case k3_266 => k_asm); (case k4_266 => k_asm); (case k5_266 => k_asm); (case kK_266 => first | exact rfl | assumption); (case kd_266 => ktr_room); (case ku_266 => ktr_units)); intro x' d' tq1 tq2 tq3 tq4 tq5 tq6 h' tk' F' N' l1 l2; (try k_lt l1); (try k_lt2 l2); (try k_sweep); (try dsimp only); (try k_fold))))
  (k_with "call ref" => ((k_here; (with_reducible show wpAny _ _ (call (Value.ref 99) _) _ _ _); k_dflt (refine' const_ct _ _ _ _ ?k1_267 ?k2_267 ?k3_267 ?k4_267 ?k5_267 ?kK_267 ?kd_267 ?ku_267  ?_; (case k1_267 => k_asm); (case k2_267 => k_asm); (case k3_267 => k_asm); (case k4_267 => k_asm); (case k5_267 => k_asm); (case kK_267 => first | exact rfl | assumption); (case kd_267 => ktr_room); (case ku_267 => ktr_units)); intro x' d' l' t0 t1 t2 t3 t4 t5 t6 h' tk' F' N' l1 l2 l3; (try k_lt l1); (try k_lt2 l2); (try k_lt2 l3); (try k_sweep); (try dsimp only); (try k_fold))))
  (k_with "X k_upd" => (exact upd_over (by assumption) _ (by assumption)))
  (k_with "X k_upd" => (exact Slots2.ua (by assumption) _))
  (k_with "X k_updF" => (exact Slots2.fb (by assumption)))
  (k_with "X k_mem" => (exact Slots2.mb (by assumption)))
  (k_with "X k_mem" => (exact Slots2.ma (by assumption)))
  (k_with "compareOp NotIn int ref" => ((k_here; k_dflt (refine' pl_notin ?k1_273 ?k2_273 ?k3_273 ?k4_273 ?k5_273 ?_; (case k1_273 => k_asm); (case k2_273 => k_mem); (case k3_273 => assumption); (case k4_273 => assumption); (case k5_273 => assumption)))))
  (k_with "setItem ref int" => ((k_here; k_dflt (refine' pl_set ?v_274 ?F_274 ?N_274 ?U_274 ?d_274 ?p_274 ?z_274 ?_; (case F_274 => k_asm); (case N_274 => k_asm); (case U_274 => k_updF); (case d_274 => assumption); (case p_274 => assumption); (case z_274 => assumption); (case v_274 => k_flat)); intro h' o' F' N' hd'; (try dsimp only at N'); (try k_sweep))))
  (k_with "call ref" => ((k_here; (with_reducible show wpAny _ _ (call (Value.ref 190) _) _ _ _); k_dflt (refine' mark_ct _ _ _ _ ?k1_275 ?k2_275 ?k3_275 ?k4_275 ?k5_275 ?kK_275 ?kd_275 ?ku_275 ?p0_275 ?p1_275 ?p2_275 ?p3_275 ?p4_275 ?p5_275 ?p6_275 ?_; (case k1_275 => k_asm); (case k2_275 => k_asm); (case k3_275 => k_asm); (case k4_275 => k_asm); (case k5_275 => k_asm); (case kK_275 => first | exact rfl | assumption); (case kd_275 => ktr_room); (case ku_275 => ktr_units); (case p0_275 => k_updF); (case p1_275 => assumption); (case p2_275 => assumption); (case p3_275 => assumption); (case p4_275 => assumption); (case p5_275 => first | assumption | omega); (case p6_275 => first | assumption | omega)); intro r' od' h' tk' F' N' hpl' l1; (try dsimp only at N'); (try k_lt l1); (try k_sweep); (try dsimp only); (try k_fold))))
  (k_with "getMethod ref" => ((k_here; (with_reducible show wpAny _ _ (getMethod _ (Str.ofString "mark") _) _ _ _); k_dflt (refine' err_mark ?k1_276 ?k2_276 ?k3_276 ?k4_276 ?k5_276 ?k6_276 ?k7_276 ?k8_276 ?_; (case k1_276 => k_asm); (case k2_276 => k_asm); (case k3_276 => k_asm); (case k4_276 => with_reducible assumption); (case k5_276 => first | exact fun _ h => h | (intro p hp; repeat (first | exact hp | apply List.mem_cons_of_mem))); (case k6_276 => k_is); (case k7_276 => k_is); (case k8_276 => k_is); k_whole))))
  (k_with "call ref" => ((k_here; (with_reducible show wpAny _ _ (call (Value.ref 120) _) _ _ _); k_dflt (refine' wrong_ct _ _ _ _ ?k1_277 ?k2_277 ?k3_277 ?k4_277 ?k5_277 ?kK_277 ?kd_277 ?ku_277 ?p0_277 ?p1_277 ?p2_277 ?p3_277 ?p4_277 ?p5_277 ?p6_277 ?_; (case k1_277 => k_asm); (case k2_277 => k_asm); (case k3_277 => k_asm); (case k4_277 => k_asm); (case k5_277 => k_asm); (case kK_277 => first | exact rfl | assumption); (case kd_277 => ktr_room); (case ku_277 => ktr_units); (case p0_277 => first | k_updF | exact UpdF2.over (by assumption) (by assumption) | exact UpdF2.over (UpdF2.over (by assumption) (by assumption)) (kst_ltOf (by assumption))); (case p1_277 => first | with_reducible assumption | exact errIn_over (by assumption) | exact errIn_over (errIn_over (by assumption))); (case p2_277 => assumption); (case p3_277 => assumption); (case p4_277 => first | assumption | exact List.not_mem_nil); (case p5_277 => first | assumption | exact Nat.zero_le _); (case p6_277 => first | assumption | exact Nat.zero_le _)); intro x' d' l' r' t0 t1 t2 t3 t4 t5 t6 t7 od' h' tk' F' N' hpl' l1 l2 l3 l4; (try dsimp only at N'); (try k_lt2 l2); (try k_lt2 l3); (try k_lt2 l4); (try k_sweep); (try dsimp only); (try k_fold))))
  (k_with "call ref" => ((k_here; (with_reducible show wpAny _ _ (call (Value.ref 42) _) _ _ _); k_dflt (refine' checked_ct _ _ _ _ ?k1_278 ?k2_278 ?k3_278 ?k4_278 ?k5_278 ?kK_278 ?kd_278 ?ku_278  ?_; (case k1_278 => k_asm); (case k2_278 => k_asm); (case k3_278 => k_asm); (case k4_278 => k_asm); (case k5_278 => k_asm); (case kK_278 => first | exact rfl | assumption); (case kd_278 => ktr_room); (case ku_278 => ktr_units)); intro r' t1 t2 tp' h' tk' F' N' l1 e1; (try k_lt l1); (try k_sweep); (try dsimp only); (try k_fold))))
  (k_with "call ref" => ((k_here; (with_reducible show wpAny _ _ (call (Value.ref 63) _) _ _ _); k_dflt (refine' fold_ct _ _ _ _ ?k1_279 ?k2_279 ?k3_279 ?k4_279 ?k5_279 ?kK_279 ?kd_279 ?ku_279 ?p0_279 ?p1_279 ?p2_279 ?p3_279 ?_; (case k1_279 => k_asm); (case k2_279 => k_asm); (case k3_279 => k_asm); (case k4_279 => k_asm); (case k5_279 => k_asm); (case kK_279 => first | exact rfl | assumption); (case kd_279 => ktr_room); (case ku_279 => ktr_units); (case p0_279 => omega); (case p1_279 => omega); (case p2_279 => omega); (case p3_279 => omega)); intro r' t1 t2 tp' h' tk' F' N' l1 e1; (try k_lt l1); (try k_sweep); (try dsimp only); (try k_fold))))
  (k_with "call ref" => ((k_here; (with_reducible show wpAny _ _ (call (Value.ref 106) _) _ _ _); k_dflt (refine' isint_ct _ _ _ _ ?k1_280 ?k2_280 ?k3_280 ?k4_280 ?k5_280 ?kK_280 ?kd_280 ?ku_280 ?p0_280 ?_; (case k1_280 => k_asm); (case k2_280 => k_asm); (case k3_280 => k_asm); (case k4_280 => k_asm); (case k5_280 => k_asm); (case kK_280 => first | exact rfl | assumption); (case kd_280 => ktr_room); (case ku_280 => ktr_units); (case p0_280 => first | with_reducible assumption | exact HasA.mono (by assumption) (by first | exact fun _ h => h | (intro p hp; repeat (first | exact hp | apply List.mem_cons_of_mem))))); intro h' tk' F' N'; (try k_sweep); (try dsimp only); (try k_fold))))
  (k_with "call ref" => ((k_here; (with_reducible show wpAny _ _ (call (Value.ref 106) _) _ _ _); k_dflt (refine' isintset_ct _ _ _ _ ?k1_281 ?k2_281 ?k3_281 ?k4_281 ?k5_281 ?kK_281 ?kd_281 ?ku_281 ?p0_281 ?p1_281 ?_; (case k1_281 => k_asm); (case k2_281 => k_asm); (case k3_281 => k_asm); (case k4_281 => k_asm); (case k5_281 => k_asm); (case kK_281 => first | exact rfl | assumption); (case kd_281 => ktr_room); (case ku_281 => ktr_units); (case p0_281 => exact HasA.mono (by assumption) (by walk_at "MINE sub")); (case p1_281 => with_reducible assumption)); intro h' tk' F' N'; (try k_sweep); (try dsimp only); (try k_fold))))
  (k_with "call ref" => ((k_here; (with_reducible show wpAny _ _ (call (Value.ref 113) _) _ _ _); k_dflt (refine' isconst_ct _ _ _ _ ?k1_282 ?k2_282 ?k3_282 ?k4_282 ?k5_282 ?kK_282 ?kd_282 ?ku_282 ?p0_282 ?_; (case k1_282 => k_asm); (case k2_282 => k_asm); (case k3_282 => k_asm); (case k4_282 => k_asm); (case k5_282 => k_asm); (case kK_282 => first | exact rfl | assumption); (case kd_282 => ktr_room); (case ku_282 => ktr_units); (case p0_282 => first | with_reducible assumption | exact HasA.mono (by assumption) (by first | exact fun _ h => h | (intro p hp; repeat (first | exact hp | apply List.mem_cons_of_mem))))); intro h' tk' F' N'; (try k_sweep); (try dsimp only); (try k_fold))))
  (k_with "call ref" => ((k_here; (with_reducible show wpAny _ _ (call (Value.ref 148) _) _ _ _); k_dflt (refine' bnode_ct _ _ _ _ ?k1_283 ?k2_283 ?k3_283 ?k4_283 ?k5_283 ?kK_283 ?kd_283 ?ku_283 ?p0_283 ?p1_283 ?p2_283 ?p3_283 ?p4_283 ?p5_283 ?p6_283 ?_; (case k1_283 => k_asm); (case k2_283 => k_asm); (case k3_283 => k_asm); (case k4_283 => k_asm); (case k5_283 => k_asm); (case kK_283 => first | exact rfl | assumption); (case kd_283 => ktr_room); (case ku_283 => ktr_units); (case p0_283 => first | k_updF | exact UpdF2.over (by assumption) (by assumption) | exact UpdF2.over (UpdF2.over (by assumption) (by assumption)) (kst_ltOf (by assumption))); (case p1_283 => first | with_reducible assumption | exact errIn_over (by assumption) | exact errIn_over (errIn_over (by assumption))); (case p2_283 => assumption); (case p3_283 => assumption); (case p4_283 => exact NodeF.mono (by assumption) (by first | exact fun _ h => h | (intro p hp; repeat (first | exact hp | apply List.mem_cons_of_mem)))); (case p5_283 => exact NodeF.mono (by assumption) (by first | exact fun _ h => h | (intro p hp; repeat (first | exact hp | apply List.mem_cons_of_mem)))); (case p6_283 => first | with_reducible assumption | exact binArgs_bool (by assumption) (by assumption) (by assumption) (by assumption) | exact binArgs_set (by assumption) (by assumption) (by assumption) (by assumption) | exact binArgs_int (by assumption) (by assumption) (by assumption) (by assumption))); intro new' x' rows' nn' od' h' tk' F' N' ov' res'; (try dsimp only at N'); (try k_sweep); (try dsimp only); (try k_fold))))
  (k_with "compareOp LtE" => ((k_here; k_dflt (refine' le_side ?h_284 ?h1_284 ?h2_284 ?_; (case h_284 => assumption); (case h1_284 => assumption); (case h2_284 => assumption)); intro b t ev eo; subst ev; subst eo; (try dsimp only))))
  (k_with "binaryOp Add str str" => ((refine PyProof.Rows.add_str ?_ (sadd (by assumption)); intro _ _)))
  (k_with "MINE due" => ((simp only [dueC, dueOp, dueSel, setOp, divOp, negO, badOps, isI_set, *, reduceIte, Bool.and_true, Bool.true_and, Bool.and_false, Bool.false_and, Bool.false_eq_true, decide_true, decide_false])))
  (k_with "call ref" => ((k_here; (with_reducible show wpAny _ _ (call (Value.ref 275) _) _ _ _); k_dflt (refine' new_ct _ _ _ _ ?k1_287 ?k2_287 ?k3_287 ?k4_287 ?k5_287 ?kK_287 ?kd_287 ?ku_287 ?p0_287 ?p1_287 ?p2_287 ?p3_287 ?p4_287 ?_; (case k1_287 => k_asm); (case k2_287 => k_asm); (case k3_287 => k_asm); (case k4_287 => k_asm); (case k5_287 => k_asm); (case kK_287 => first | exact rfl | assumption); (case kd_287 => ktr_room); (case ku_287 => ktr_units); (case p0_287 => k_updF); (case p1_287 => (intro o; (try dsimp only); k_mem)); (case p2_287 => (simp only [List.length_cons, List.length_nil]; omega)); (case p3_287 => first | decide | omega); (case p4_287 => first | decide | omega)); intro ty' new' tc' h' tk' F' N' ov' tf' tb'; (try dsimp only at N'); (try k_sweep); (try dsimp only); (try k_fold))))
  (k_with "call ref" => ((k_here; (with_reducible show wpAny _ _ (call (Value.ref 282) _) _ _ _); k_dflt (refine' string_ct _ _ _ _ ?k1_288 ?k2_288 ?k3_288 ?k4_288 ?k5_288 ?kK_288 ?kd_288 ?ku_288 ?p0_288 ?p1_288 ?p2_288 ?p3_288 ?p4_288 ?_; (case k1_288 => k_asm); (case k2_288 => k_asm); (case k3_288 => k_asm); (case k4_288 => k_asm); (case k5_288 => k_asm); (case kK_288 => first | exact rfl | assumption); (case kd_288 => ktr_room); (case ku_288 => ktr_units); (case p0_288 => k_mem); (case p1_288 => k_updF); (case p2_288 => (intro o; (try dsimp only); k_mem)); (case p3_288 => omega); (case p4_288 => omega)); intro ty' new' tc' h' tk' F' N' ov' tf'; (try dsimp only at N'); (try k_sweep); (try dsimp only); (try k_fold))))
  trivial
theorem allNe_app {d : Addr} {a b : List (Addr × Obj)} (h1 : AllNe d a) (h2 : AllNe d b) : AllNe d (a ++ b) := fun p hp => (List.mem_append.mp hp).elim (h1 p) (h2 p)
/-- what is known of the types' ledger between two news: the pair (Ta, its dict's slot), the rest Y above nb -/
structure TyI (Ta Td : Nat) (Y nb : List (Addr × Obj)) : Prop where
  ne : AllNe Td Y
  lt : ∀ q ∈ Y, ∀ r ∈ nb, @LT.lt Nat _ r.1 q.1
  tt : Ta ≠ Td
  tx : ∀ r ∈ nb, @LT.lt Nat _ r.1 Td
  ty : ∀ r ∈ nb, @LT.lt Nat _ r.1 Ta
theorem tyI_one {Ta Td k : Nat} {o : Obj} {nb : List (Addr × Obj)} (h1 : Ta < k ∧ Td < k ∧ AllLt k nb) (h2 : Td < Ta) (h3 : ∀ p ∈ nb, p.1 < Td) : TyI Ta Td [(k, o)] nb where
  ne := fun p hp => by rw [List.mem_singleton.mp hp]; exact Nat.ne_of_gt h1.2.1
  lt := fun p hp r hr => by rw [List.mem_singleton.mp hp]; exact Nat.lt_trans (h3 r hr) h1.2.1
  tt := Nat.ne_of_gt h2
  tx := h3
  ty := fun r hr => Nat.lt_trans (h3 r hr) h2
def New2C (w : World) (mean : ExcName → Option Value) (mg mb : Str → Option Value) : Prop :=
  ∀ {dp un : Nat} {gd : Option (List Code)} {cn : Str} {cs : Scope} {a : Addr} {ccd : Value} {cl : List (Str × Addr)} {outer : List Env} {A₀ : Around} {base h₀ : Heap} {L : Addr} {m : Str → Option Value} {hp : Heap} {gns : Array GenState} {drw : Drawn} {tk0 : Nat} {sos : OsState} {Q E : Value → Shared → Prop} {news : List (Addr × Obj)}
    {Y nb : List (Addr × Obj)} {Ta Td : Addr} {es : List DictEntry} {n : Nat} {t1 : Tok} {c : Int} {tc : Tok} {form : Str} {size : Int} {tf tz : Tok},
    Below A₀ base outer h₀ → Fr h₀ L hp m → (Mine.R.heap_1_1 w.params).In h₀ → News h₀ L hp news → Top Mine.R.view_1_2 (looseW Mine.R.view_1_2 []) mean mg mb h₀ → cs.kind = .function →
    dp + 8 < recursionLimit → un + 48 < cLine → (∀ p ∈ Y, p ∈ news) → (∀ p ∈ nb, p ∈ news) → TyI Ta Td Y nb → (Ta, instObj 285 Td) ∈ news → (Td, dictOf (kE w.params "counter" t1 (.int c tc) :: es) n) ∈ news → es.length ≤ 900 → 0 ≤ c → c ≤ 1000 →
    (∀ (ty : Nat) (Y' : List (Addr × Obj)) (tc' : Tok) (h' : Heap) (tk' : Nat), Fr h₀ L h' m → News h₀ L h' ((Ta, instObj 285 Td) :: (Td, dictOf (kE w.params "counter" t1 (.int (c + 1) tc') :: es) n) :: (Y' ++ nb)) → (∀ p ∈ Y, p ∈ Y') → TyI Ta Td Y' nb → TyF Y' ty form → HasA Y' ty 228 "base" .none → Q (.ref ty) ⟨h', gns, drw, tk', sos⟩) →
    wpAny (model PySem.Challenge.rw_nu0332_01.row.prog w) (ktrTop dp un gd cn cs L a ccd cl outer) (call (.ref 275) [.ref Ta, .str form tf, .int size tz]) Q E ⟨hp, gns, drw, tk0, sos⟩
theorem mem4 {α : Type} {a b : α} {Y nb l : List α} (h1 : a ∈ l) (h2 : b ∈ l) (h3 : ∀ p ∈ Y, p ∈ l) (h4 : ∀ p ∈ nb, p ∈ l) : ∀ p ∈ a :: b :: (Y ++ nb), p ∈ l := by
  intro p hp
  rcases List.mem_cons.mp hp with rfl | hp
  · exact h1
  rcases List.mem_cons.mp hp with rfl | hp
  · exact h2
  exact (List.mem_append.mp hp).elim (h3 p) (h4 p)
theorem mem_sw {α : Type} {a b : α} {N Y nb : List α} : ∀ p ∈ a :: b :: ((N ++ Y) ++ nb), p ∈ N ++ a :: b :: (Y ++ nb) := (pC (List.mem_append_right _ (.head _)) (pC (List.mem_append_right _ (.tail _ (.head _))) (pA (pA (fun _ hp => (List.mem_append_left _ hp)) (fun _ hp => (List.mem_append_right _ (.tail _ (.tail _ (List.mem_append_left _ hp)))))) (fun _ hp => (List.mem_append_right _ (.tail _ (.tail _ (List.mem_append_right _ hp))))))))
set_option maxHeartbeats 8000000 in
theorem new2_ct (w : World) (mean : ExcName → Option Value) (mg mb : Str → Option Value) : New2C w mean mg mb := by
  unfold New2C
  intro dp un gd cn cs a ccd cl outer A₀ base h₀ L m hp gns drw tk0 sos Q E news Y nb Ta Td es n t1 c tc form size tf tz B F X N T hk hd hu h3 h4 hT h1 h2 h5 h6 h7 hret
  have hnb : AllNe Td nb := fun p hp => Nat.ne_of_lt (hT.tx p hp)
  refine new_ct (upd := fun o => (Ta, instObj 285 Td) :: (Td, o) :: (Y ++ nb)) w mean mg mb B F X (fun p hp => N p (mem4 h1 h2 h3 h4 p hp)) T hk hd hu (.tail hT.tt (.head (allNe_app hT.ne hnb))) (fun o => .head _) h5 h6 h7 ?_
  intro ty new tc' h' tk' F' N' ov tf tb
  refine hret ty (new ++ Y) tc' h' tk' F' (fun p hp => N' p (mem_sw p hp)) (fun p hp => List.mem_append.mpr (.inr hp)) ⟨allNe_app (fun p hp => ?_) hT.ne, fun q hq r hr => ?_, hT.tt, hT.tx, hT.ty⟩ (tf.mono fun p hp => List.mem_append.mpr (.inl hp)) (tb.mono fun p hp => List.mem_append.mpr (.inl hp))
  · exact Nat.ne_of_gt (ov p hp (instObj 285 Td) (Td, _) (.tail _ (.head _)))
  · rcases List.mem_append.mp hq with hq | hq
    · exact ov q hq (instObj 285 Td) r (.tail _ (.tail _ (List.mem_append.mpr (.inr hr))))
    · exact hT.lt q hq r hr
theorem sub_here {α : Type} {Y nb : List α} {a b : α} : ∀ p ∈ nb, p ∈ a :: b :: (Y ++ nb) := fun _ hp => .tail _ (.tail _ (List.mem_append.mpr (.inr hp)))
theorem sub_hereY {α : Type} {Y nb : List α} {a b : α} : ∀ p ∈ Y, p ∈ a :: b :: (Y ++ nb) := fun _ hp => .tail _ (.tail _ (List.mem_append.mpr (.inl hp)))
theorem sub_one {α : Type} {nb : List α} {a b c : α} : ∀ p ∈ [a], p ∈ a :: b :: c :: nb := fun p hp => by rw [List.mem_singleton.mp hp]; exact .head _
theorem sub_tl3 {α : Type} {nb : List α} {a b c : α} : ∀ p ∈ nb, p ∈ a :: b :: c :: nb := fun _ hp => .tail _ (.tail _ (.tail _ hp))
theorem tyI_all {Ta Td : Nat} {Y nb : List (Addr × Obj)} (h : TyI Ta Td Y nb) : ∀ p ∈ Y ++ nb, p.1 ≠ Td := allNe_app h.ne fun p hp => Nat.ne_of_lt (h.tx p hp)
theorem reg35 : True := by
  (k_with "X k_all" => (exact tyI_all (by assumption)))
  (k_with "call ref" => ((k_here; (with_reducible show wpAny _ _ (call (Value.ref 275) _) _ _ _); k_dflt (refine' new2_ct _ _ _ _ ?k1_290 ?k2_290 ?k3_290 ?k4_290 ?k5_290 ?kK_290 ?kd_290 ?ku_290 ?p0_290 ?p1_290 ?p2_290 ?p3_290 ?p4_290 ?p5_290 ?p6_290 ?p7_290 ?_; (case k1_290 => k_asm); (case k2_290 => k_asm); (case k3_290 => k_asm); (case k4_290 => k_asm); (case k5_290 => k_asm); (case kK_290 => first | exact rfl | assumption); (case kd_290 => ktr_room); (case ku_290 => ktr_units); (case p0_290 => first | exact sub_hereY | exact sub_one); (case p1_290 => first | exact sub_here | exact sub_tl3); (case p2_290 => first | with_reducible assumption | exact tyI_one (by assumption) (by assumption) (by assumption)); (case p3_290 => k_mem); (case p4_290 => k_mem); (case p5_290 => (simp only [List.length_cons, List.length_nil]; omega)); (case p6_290 => first | decide | omega); (case p7_290 => first | decide | omega)); intro ty' new' tc' h' tk' F' N' sub' ov' tf' tb'; (try dsimp only at N'); (try k_sweep); (try dsimp only); (try k_fold))))
  trivial
def TypesC (w : World) (mean : ExcName → Option Value) (mg mb : Str → Option Value) : Prop :=
  ∀ {dp un : Nat} {gd : Option (List Code)} {cn : Str} {cs : Scope} {a : Addr} {ccd : Value} {cl : List (Str × Addr)} {outer : List Env} {A₀ : Around} {base h₀ : Heap} {L : Addr} {m : Str → Option Value} {hp : Heap} {gns : Array GenState} {drw : Drawn} {tk0 : Nat} {sos : OsState} {Q E : Value → Shared → Prop} {news : List (Addr × Obj)}
    ,
    Below A₀ base outer h₀ → Fr h₀ L hp m → (Mine.R.heap_1_1 w.params).In h₀ → News h₀ L hp news → Top Mine.R.view_1_2 (looseW Mine.R.view_1_2 []) mean mg mb h₀ → cs.kind = .function →
    dp + 16 < recursionLimit → un + 90 < cLine → 
    (∀ (Ta Td : Nat) (Y : List (Addr × Obj)) (k : TyK) (tc : Tok) (h' : Heap) (tk' : Nat), Fr h₀ L h' m → News h₀ L h' ((Ta, instObj 285 Td) :: (Td, TyO w.params k 7 tc) :: (Y ++ news)) → TyI Ta Td Y news → TyFs Y k → Q (.ref Ta) ⟨h', gns, drw, tk', sos⟩) →
    wpAny (model PySem.Challenge.rw_nu0332_01.row.prog w) (ktrTop dp un gd cn cs L a ccd cl outer) (call (.ref 285) []) Q E ⟨hp, gns, drw, tk0, sos⟩
set_option maxHeartbeats 8000000 in
theorem types_ct (w : World) (mean : ExcName → Option Value) (mg mb : Str → Option Value) : TypesC w mean mg mb := by
  unfold TypesC
  intro dp un gd cn cs a ccd cl outer A₀ base h₀ L m hp gns drw tk0 sos Q E news  B F X N T hk hd hu  hret
  k_steps
  refine hret _ _ _ ⟨_, _, _, _, _, _, _, _, _, _, _, _, _, _, _, _, _⟩ _ _ _ (by assumption) (by assumption) (by assumption) ⟨?_, ?_, ?_, ?_, ?_, ?_⟩
  all_goals (refine TyF.mono (by assumption) ?_; (intro p hp; solve_by_elim (maxDepth := 10)))
/-! unary -/
theorem reg36 : True := by
  w_top off
  (k_with "MINE none" => (skip))
  trivial
def uCode (op : Str) : Option Int → Str
  | some a => if op == Str.ofString "neg" then chk (0 - a) else Str.ofString ""
  | none => Str.ofString ""
def uVal (op : Str) : Option Int → Option Int
  | some a => some (if op == Str.ofString "neg" then 0 - a else if op == Str.ofString "not" then 1 - a else Builtin.bitXor a 4294967295)
  | none => none
def FoldUC (w : World) (mean : ExcName → Option Value) (mg mb : Str → Option Value) : Prop :=
  ∀ {dp un : Nat} {gd : Option (List Code)} {cn : Str} {cs : Scope} {a : Addr} {ccd : Value} {cl : List (Str × Addr)} {outer : List Env} {A₀ : Around} {base h₀ : Heap} {L : Addr} {m : Str → Option Value} {hp : Heap} {gns : Array GenState} {drw : Drawn} {tk0 : Nat} {sos : OsState} {Q E : Value → Shared → Prop} {news : List (Addr × Obj)}
    {op : Str} {x : Int} {to tx : Tok},
    Below A₀ base outer h₀ → Fr h₀ L hp m → (Mine.R.heap_1_1 w.params).In h₀ → News h₀ L hp news → Top Mine.R.view_1_2 (looseW Mine.R.view_1_2 []) mean mg mb h₀ → cs.kind = .function →
    dp + 5 < recursionLimit → un + 24 < cLine → -4294967296 ≤ x → x ≤ 4294967296 →
    (∀ (r : Int) (t1 t2 : Tok) (tp : Nat) (h' : Heap) (tk' : Nat), Fr h₀ L h' m → News h₀ L h' ((tp, tupOf #[.int r t1, .str (uCode op (some x)) t2] 0) :: news) → (∀ p ∈ news, p.1 < tp) → (uCode op (some x) = Str.ofString "" → uVal op (some x) = some r) → Q (.ref tp) ⟨h', gns, drw, tk', sos⟩) →
    wpAny (model PySem.Challenge.rw_nu0332_01.row.prog w) (ktrTop dp un gd cn cs L a ccd cl outer) (call (.ref 49) [.str op to, .int x tx]) Q E ⟨hp, gns, drw, tk0, sos⟩
set_option maxHeartbeats 8000000 in
theorem foldu_ct (w : World) (mean : ExcName → Option Value) (mg mb : Str → Option Value) : FoldUC w mean mg mb := by
  unfold FoldUC
  intro dp un gd cn cs a ccd cl outer A₀ base h₀ L m hp gns drw tk0 sos Q E news op x to tx B F X N T hk hd hu h1 h2 hret
  refine call_rq ?_
  k_dflt k_enter
  k_steps
  all_goals clear hu hd h1 h2
  · exact hret _ _ _ _ _ _ (by k_asm) (by simp only [uCode, reduceIte, Bool.false_eq_true, *]; k_asm) (by assumption) (fun h => by simp only [uCode, uVal, reduceIte, Bool.false_eq_true, *] at h ⊢; have e := (by assumption : chk (0 - x) = Str.ofString "" → _ = 0 - x) h; rw [e])
  all_goals exact hret _ _ _ _ _ _ (by k_asm) (by simp only [uCode, reduceIte, Bool.false_eq_true, *]; k_asm) (by assumption) (by simp only [uVal, reduceIte, Bool.false_eq_true, *]; first | exact fun _ => rfl | exact fun _ => trivial)
theorem reg38 : True := by
  (k_with "call ref" => ((k_here; (with_reducible show wpAny _ _ (call (Value.ref 49) _) _ _ _); k_dflt (refine' foldu_ct _ _ _ _ ?k1_292 ?k2_292 ?k3_292 ?k4_292 ?k5_292 ?kK_292 ?kd_292 ?ku_292 ?p0_292 ?p1_292 ?_; (case k1_292 => k_asm); (case k2_292 => k_asm); (case k3_292 => k_asm); (case k4_292 => k_asm); (case k5_292 => k_asm); (case kK_292 => first | exact rfl | assumption); (case kd_292 => ktr_room); (case ku_292 => ktr_units); (case p0_292 => omega); (case p1_292 => omega)); intro r' t1 t2 tp' h' tk' F' N' l1 e1; (try k_lt l1); (try k_sweep); (try dsimp only); (try k_fold))))
  trivial
inductive UArgs (opx : Str) (vx : Value) (v : Option Int) : Prop
  | both {a : Int} {ta : Tok} : opx = Str.ofString "const" → vx = .int a ta → v = some a → -4294967296 ≤ a → a ≤ 4294967296 → UArgs opx vx v
  | left : (opx == Str.ofString "const") = false → v = none → UArgs opx vx v
theorem uArgs_of {opx : Str} {vx : Value} {v : Option Int} (a1 : (opx == Str.ofString "const") = false → v = none)
    (b1 : (opx == Str.ofString "const") = true → ∃ a t, vx = .int a t ∧ v = some a ∧ -4294967296 ≤ a ∧ a ≤ 4294967296) : UArgs opx vx v := by
  cases h1 : (opx == Str.ofString "const") with
  | false => exact .left h1 (a1 h1)
  | true =>
    obtain ⟨a, t, e1, e2, e3, e4⟩ := b1 h1
    exact .both (beq_iff_eq.mp h1) e1 e2 e3 e4
theorem uArgs_bool {o f : Str} {vx : Value} {v : Option Int} (h : SideV o f vx v) (a : (f != Str.ofString "boolean") = false) : UArgs o vx v := uArgs_of h.var fun c => h.bool c (by simpa using a)
theorem uArgs_set {o f : Str} {vx : Value} {v : Option Int} (h : SideV o f vx v) (a : (f == Str.ofString "set") = true) : UArgs o vx v := uArgs_of h.var fun c => h.set c a
theorem uArgs_int {o f : Str} {vx : Value} {v : Option Int} (h : SideV o f vx v) (a : isI f = true) : UArgs o vx v := uArgs_of h.var fun c => h.int c a
def UnodeC (w : World) (mean : ExcName → Option Value) (mg mb : Str → Option Value) : Prop :=
  ∀ {dp un : Nat} {gd : Option (List Code)} {cn : Str} {cs : Scope} {a : Addr} {ccd : Value} {cl : List (Str × Addr)} {outer : List Env} {A₀ : Around} {base h₀ : Heap} {L : Addr} {m : Str → Option Value} {hp : Heap} {gns : Array GenState} {drw : Drawn} {tk0 : Nat} {sos : OsState} {Q E : Value → Shared → Prop} {news : List (Addr × Obj)}
    {upd : Obj → Obj → List (Addr × Obj)} {e rl pd ty x : Addr} {n : Nat} {od : Obj} {p : Int} {op opx : Str} {tp to : Tok} {plx : Int} {tyx klx : Addr} {vx : Value} {v1 : Option Int},
    Below A₀ base outer h₀ → Fr h₀ L hp m → (Mine.R.heap_1_1 w.params).In h₀ → News h₀ L hp news → Top Mine.R.view_1_2 (looseW Mine.R.view_1_2 []) mean mg mb h₀ → cs.kind = .function →
    dp + 12 < recursionLimit → un + 60 < cLine → UpdF2 rl pd (listOf (List.nil (α := Value)).toArray n) od news upd → (∀ x y, ErrIn (upd x y) e rl pd) → (pd == sysModules) = false → IsPl PySem.Challenge.rw_nu0332_01.row.prog w od [] → NodeF news x opx plx tyx klx vx → UArgs opx vx v1 →
    (∀ (new : List (Addr × Obj)) (x' : Nat) (rows' : List Value) (nn : Nat) (od' : Obj) (h' : Heap) (tk' : Nat), Fr h₀ L h' m → News h₀ L h' (new ++ upd (listOf rows'.toArray nn) od') → Ov new upd → Res new p x' rows' (uCode op v1) (uVal op v1) op [.ref x] ty → Q (.ref x') ⟨h', gns, drw, tk', sos⟩) →
    wpAny (model PySem.Challenge.rw_nu0332_01.row.prog w) (ktrTop dp un gd cn cs L a ccd cl outer) (call (.ref 134) [.ref e, .str op to, .ref ty, .ref x, .int p tp]) Q E ⟨hp, gns, drw, tk0, sos⟩
set_option maxHeartbeats 8000000 in
theorem unode_ct (w : World) (mean : ExcName → Option Value) (mg mb : Str → Option Value) : UnodeC w mean mg mb := by
  unfold UnodeC
  intro dp un gd cn cs a ccd cl outer A₀ base h₀ L m hp gns drw tk0 sos Q E news upd e rl pd ty x n od p op opx tp to plx tyx klx vx v1 B F X N T hk hd hu hU hE hlo hpl hx hb hret
  have hS := UpdF2.slots hU
  have hself := UpdF2.self hU
  subst hself
  obtain ⟨⟨tx1, hx1⟩, ⟨tx2, hx2⟩, hx3, hx4, hx5⟩ := hx
  cases hb
  case both a ta e1 e3 e5 b1 b2 =>
    subst e1 e3 e5
    refine call_rq ?_
    k_dflt k_enter
    k_steps
    · exact hret [_, _, _, _, _] _ [_] _ _ _ _ (by k_asm) (by k_asm) (ov_cons (ov_cons (ov_cons (ov_cons (ov_one hS (by assumption)) (lt_head (by assumption) od)) (by assumption)) (by assumption)) (by assumption)) (.err (bne_iff_ne.mp (by assumption)) (nodeF_of (.head _) (.tail _ (.head _)) rfl) rfl (.tail _ (.tail _ (.tail _ (.head _)))))
    · have hc : uCode op (some a) = Str.ofString "" := by simpa using (by assumption : (uCode op (some a) != Str.ofString "") = false)
      have hv := (by assumption : uCode op (some a) = Str.ofString "" → uVal op (some a) = some _) hc
      exact hret [_, _, _, _] _ [] _ _ _ _ (by k_asm) (by k_asm) (ov_cons (ov_cons (ov_cons (ov_one hS (by assumption)) (And.left (by assumption))) (by assumption)) (by assumption)) (.val hc hv rfl (nodeF_of (.head _) (.tail _ (.head _)) rfl))
  case left e1 e2 =>
    subst e2
    refine call_rq ?_
    k_dflt k_enter
    k_steps
    exact hret [_, _, _] _ [] _ _ _ _ (by k_asm) (by k_asm) (ov_cons (ov_cons (ov_one hS (by assumption)) (And.left (by assumption))) (by assumption)) (.op rfl rfl rfl (nodeF_of (.head _) (.tail _ (.head _)) rfl) (.tail _ (.tail _ (.head _))))
theorem reg39 : True := by
  (k_with "call ref" => ((k_here; (with_reducible show wpAny _ _ (call (Value.ref 134) _) _ _ _); k_dflt (refine' unode_ct _ _ _ _ ?k1_293 ?k2_293 ?k3_293 ?k4_293 ?k5_293 ?kK_293 ?kd_293 ?ku_293 ?p0_293 ?p1_293 ?p2_293 ?p3_293 ?p4_293 ?p5_293 ?_; (case k1_293 => k_asm); (case k2_293 => k_asm); (case k3_293 => k_asm); (case k4_293 => k_asm); (case k5_293 => k_asm); (case kK_293 => first | exact rfl | assumption); (case kd_293 => ktr_room); (case ku_293 => ktr_units); (case p0_293 => first | k_updF | exact UpdF2.over (by assumption) (by assumption)); (case p1_293 => first | with_reducible assumption | exact errIn_over (by assumption)); (case p2_293 => assumption); (case p3_293 => assumption); (case p4_293 => exact NodeF.mono (by assumption) (by walk_at "MINE sub")); (case p5_293 => first | with_reducible assumption | exact uArgs_bool (by assumption) (by assumption) | exact uArgs_set (by assumption) (by assumption) | exact uArgs_int (by assumption) (by assumption))); intro new' x' rows' nn' od' h' tk' F' N' ov' res'; (try dsimp only at N'); (try k_sweep); (try dsimp only); (try k_fold))))
  trivial
def uSel {α : Type} (op f : Str) (b s i : α) : α := if op == Str.ofString "~" then b else if op == Str.ofString "-" && f == Str.ofString "set" then s else i
def uOp (op f : Str) : Str := if op == Str.ofString "~" then Str.ofString "not" else if op == Str.ofString "-" && f == Str.ofString "set" then Str.ofString "s~" else Str.ofString "neg"
def uC (op f : Str) (v : Option Int) : Str :=
  if op == Str.ofString "~" then (if f != Str.ofString "boolean" then badOps else uCode (Str.ofString "not") v)
  else if op == Str.ofString "-" && f == Str.ofString "set" then uCode (Str.ofString "s~") v
  else if isI f then uCode (Str.ofString "neg") v else badOps
theorem reg40 : True := by
  (k_with "MINE udue" => ((simp only [uC, uOp, uSel, badOps, *, reduceIte, Bool.not_true, Bool.not_false, Bool.and_true, Bool.true_and, Bool.and_false, Bool.false_and, Bool.false_eq_true])))
  trivial
def UnC (w : World) (mean : ExcName → Option Value) (mg mb : Str → Option Value) : Prop :=
  ∀ {dp un : Nat} {gd : Option (List Code)} {cn : Str} {cs : Scope} {a : Addr} {ccd : Value} {cl : List (Str × Addr)} {outer : List Env} {A₀ : Around} {base h₀ : Heap} {L : Addr} {m : Str → Option Value} {hp : Heap} {gns : Array GenState} {drw : Drawn} {tk0 : Nat} {sos : OsState} {Q E : Value → Shared → Prop} {news : List (Addr × Obj)}
    {upd : Obj → Obj → List (Addr × Obj)} {T tb tm ti e rl pd x : Addr} {n : Nat} {od : Obj} {p : Int} {op opx fx : Str} {tp to : Tok} {plx : Int} {tyx klx : Addr} {vx : Value} {v1 : Option Int},
    Below A₀ base outer h₀ → Fr h₀ L hp m → (Mine.R.heap_1_1 w.params).In h₀ → News h₀ L hp news → Top Mine.R.view_1_2 (looseW Mine.R.view_1_2 []) mean mg mb h₀ → cs.kind = .function →
    dp + 16 < recursionLimit → un + 80 < cLine → ErrIn news e rl pd → UpdF2 rl pd (listOf (List.nil (α := Value)).toArray n) od news upd → (∀ x y, ErrIn (upd x y) e rl pd) → (pd == sysModules) = false → IsPl PySem.Challenge.rw_nu0332_01.row.prog w od [] → NodeF news x opx plx tyx klx vx → TyF news tyx fx →
  HasA news T 285 "boolean" (.ref tb) → HasA news T 285 "mask" (.ref tm) → HasA news T 285 "integer" (.ref ti) → SideV opx fx vx v1 →
  ((op == Str.ofString "~") = false → (op == Str.ofString "-") = false → isI fx = true → ∀ (h' : Heap) (tk' : Nat), Fr h₀ L h' m → News h₀ L h' news → Q (.ref x) ⟨h', gns, drw, tk', sos⟩) →
    (∀ (new : List (Addr × Obj)) (x' : Nat) (rows' : List Value) (nn : Nat) (od' : Obj) (h' : Heap) (tk' : Nat), ((op == Str.ofString "-") = false → (op == Str.ofString "~") = false → isI fx = false) → Fr h₀ L h' m → News h₀ L h' (new ++ upd (listOf rows'.toArray nn) od') → Ov new upd → Res new p x' rows' (uC op fx v1) (uVal (uOp op fx) v1) (uOp op fx) [.ref x] (uSel op fx tb tm ti) → Q (.ref x') ⟨h', gns, drw, tk', sos⟩) →
    wpAny (model PySem.Challenge.rw_nu0332_01.row.prog w) (ktrTop dp un gd cn cs L a ccd cl outer) (call (.ref 127) [.ref T, .ref e, .str op to, .ref x, .int p tp]) Q E ⟨hp, gns, drw, tk0, sos⟩
set_option maxHeartbeats 8000000 in
theorem un_ct (w : World) (mean : ExcName → Option Value) (mg mb : Str → Option Value) : UnC w mean mg mb := by
  unfold UnC
  intro dp un gd cn cs a ccd cl outer A₀ base h₀ L m hp gns drw tk0 sos Q E news upd T tb tm ti e rl pd x n od p op opx fx tp to plx tyx klx vx v1 B F X N T hk hd hu _ hU hE hlo hpl hx htx hT1 hT2 hT3 hs1 hrs hret
  have hS := UpdF2.slots hU
  have hself := UpdF2.self hU
  subst hself
  have hx' := hx
  obtain ⟨⟨tx1, hx1⟩, ⟨tx2, hx2⟩, hx3, hx4, hx5⟩ := hx'
  obtain ⟨tx3, htx⟩ := htx
  refine call_rq ?_
  k_dflt k_enter
  k_steps
  all_goals clear hx1 hx2 hx3 hx4 hx5 htx hT1 hT2 hT3 hs1 hd hu hk hpl hlo hU
  · exact hret [_, _, _, _] _ [_] _ _ _ _ (fun a b => Bool.noConfusion (b.symm.trans (by assumption : (op == Str.ofString "~") = true))) (by k_asm) (cb_drop (by assumption) (sub_cons (sub_cons (sub_cons (sub_cons (by walk_at "MINE sub")))))) (ov_cons (ov_cons (ov_cons (ov_of (by assumption) (by walk_at "MINE subxy")) (by assumption)) (by assumption)) (by assumption)) (res_err (by walk_at "MINE udue") (by decide) (by walk_at "MINE udue") (nodeF_of (.head _) (.tail _ (.head _)) rfl) rfl (.tail _ (.tail _ (.tail _ (.head _)))))
  · (rename Res _ _ _ _ _ _ _ _ _ => hres; exact hret _ _ _ _ _ _ _ (fun a b => Bool.noConfusion (b.symm.trans (by assumption : (op == Str.ofString "~") = true))) (by k_asm) (cb_drop (by assumption) (sub_app (by walk_at "MINE sub"))) (Ov.drop (by assumption) (by walk_at "MINE subxy")) (res_of (by assumption) (by walk_at "MINE udue") (by walk_at "MINE udue") (by walk_at "MINE udue") (by walk_at "MINE udue")))
  · (rename Res _ _ _ _ _ _ _ _ _ => hres; exact hret _ _ _ _ _ _ _ (fun a b => Bool.noConfusion (a.symm.trans (by assumption : (op == Str.ofString "-") = true))) (by k_asm) (cb_drop (by assumption) (sub_app (by walk_at "MINE sub"))) (Ov.drop (by assumption) (by walk_at "MINE subxy")) (res_of (by assumption) (by walk_at "MINE udue") (by walk_at "MINE udue") (by walk_at "MINE udue") (by walk_at "MINE udue")))
  · (rename Res _ _ _ _ _ _ _ _ _ => hres; exact hret _ _ _ _ _ _ _ (fun a b => Bool.noConfusion (a.symm.trans (by assumption : (op == Str.ofString "-") = true))) (by k_asm) (cb_drop (by assumption) (sub_app (by walk_at "MINE sub"))) (Ov.drop (by assumption) (by walk_at "MINE subxy")) (res_of (by assumption) (by walk_at "MINE udue") (by walk_at "MINE udue") (by walk_at "MINE udue") (by walk_at "MINE udue")))
  · exact hret [_, _, _, _] _ [_] _ _ _ _ (fun a b => Bool.noConfusion (a.symm.trans (by assumption : (op == Str.ofString "-") = true))) (by k_asm) (cb_drop (by assumption) (sub_cons (sub_cons (sub_cons (sub_cons (by walk_at "MINE sub")))))) (ov_cons (ov_cons (ov_cons (ov_of (by assumption) (by walk_at "MINE subxy")) (by assumption)) (by assumption)) (by assumption)) (res_err (by walk_at "MINE udue") (by decide) (by walk_at "MINE udue") (nodeF_of (.head _) (.tail _ (.head _)) rfl) rfl (.tail _ (.tail _ (.tail _ (.head _)))))
  · exact hrs (by assumption) (by assumption) (by assumption) _ _ (by k_asm) (by k_asm)
  · exact hret [_, _, _, _] _ [_] _ _ _ _ (fun a b => by assumption) (by k_asm) (cb_drop (by assumption) (sub_cons (sub_cons (sub_cons (sub_cons (by walk_at "MINE sub")))))) (ov_cons (ov_cons (ov_cons (ov_of (by assumption) (by walk_at "MINE subxy")) (by assumption)) (by assumption)) (by assumption)) (res_err (by walk_at "MINE udue") (by decide) (by walk_at "MINE udue") (nodeF_of (.head _) (.tail _ (.head _)) rfl) rfl (.tail _ (.tail _ (.tail _ (.head _)))))
/-! due -/
theorem reg41 : True := by
  w_top off
  (k_with "MINE none" => (skip))
  trivial
def ExactC (w : World) (mean : ExcName → Option Value) (mg mb : Str → Option Value) : Prop :=
  ∀ {dp un : Nat} {gd : Option (List Code)} {cn : Str} {cs : Scope} {a : Addr} {ccd : Value} {cl : List (Str × Addr)} {outer : List Env} {A₀ : Around} {base h₀ : Heap} {L : Addr} {m : Str → Option Value} {hp : Heap} {gns : Array GenState} {drw : Drawn} {tk0 : Nat} {sos : OsState} {Q E : Value → Shared → Prop} {news : List (Addr × Obj)}
    {op : Str} {x y : Int} {to tx ty : Tok},
    Below A₀ base outer h₀ → Fr h₀ L hp m → (Mine.R.heap_1_1 w.params).In h₀ → News h₀ L hp news → Top Mine.R.view_1_2 (looseW Mine.R.view_1_2 []) mean mg mb h₀ → cs.kind = .function →
    dp + 3 < recursionLimit → un + 16 < cLine → -4294967296 ≤ x → x ≤ 4294967296 → -4294967296 ≤ y → y ≤ 4294967296 → (op = Str.ofString "+" ∨ op = Str.ofString "-" ∨ op = Str.ofString "*" ∨ (op = Str.ofString "DIV" ∧ 0 < y) ∨ (op = Str.ofString "MOD" ∧ 0 < y)) →
    (∀ (t : Tok) (h' : Heap) (tk' : Nat), Fr h₀ L h' m → News h₀ L h' news → Q (.int (foldVal op x y) t) ⟨h', gns, drw, tk', sos⟩) →
    wpAny (model PySem.Challenge.rw_nu0332_01.row.prog w) (ktrTop dp un gd cn cs L a ccd cl outer) (call (.ref 317) [.str op to, .int x tx, .int y ty]) Q E ⟨hp, gns, drw, tk0, sos⟩
theorem exact_div (x : Int) {y : Int} (h : 0 < y) : (x - x.fmod y).fdiv y = x.fdiv y := by
  have e := Int.fmod_add_mul_fdiv x y
  have e2 : x - x.fmod y = y * x.fdiv y := by omega
  rw [e2, Int.mul_fdiv_cancel_left _ (by omega)]
set_option maxHeartbeats 8000000 in
theorem exact_ct (w : World) (mean : ExcName → Option Value) (mg mb : Str → Option Value) : ExactC w mean mg mb := by
  unfold ExactC
  intro dp un gd cn cs a ccd cl outer A₀ base h₀ L m hp gns drw tk0 sos Q E news op x y to tx ty B F X N T hk hd hu h1 h2 h3 h4 h5 hret
  rcases h5 with h5 | h5 | h5 | ⟨h5, h6⟩ | ⟨h5, h6⟩ <;> subst h5
  all_goals (refine call_rq ?_; (first | k_dflt k_enter | fail "not entered"))
  all_goals k_steps
  · exact hret _ _ _ (by k_asm) (cb_drop (by assumption) (by walk_at "MINE sub"))
  · exact hret _ _ _ (by k_asm) (cb_drop (by assumption) (by walk_at "MINE sub"))
  · exact hret _ _ _ (by k_asm) (cb_drop (by assumption) (by walk_at "MINE sub"))
  · rw [exact_div x h6]
    exact hret _ _ _ (by k_asm) (cb_drop (by assumption) (by walk_at "MINE sub"))
  · exact hret _ _ _ (by k_asm) (cb_drop (by assumption) (by walk_at "MINE sub"))
/-- what _law_mask(op, one, two) reckons, row by row -/
def maskBit (op : Str) (x y : Int) (k : Nat) : Int :=
  let a := (x.fdiv (2 ^ k)).fmod 2
  let b := (y.fdiv (2 ^ k)).fmod 2
  if op == Str.ofString "+" then max a b else if op == Str.ofString "*" then a * b else if op == Str.ofString "-" then a * (1 - b) else (a + b).fmod 2
def maskUp (op : Str) (x y : Int) : Nat → Int
  | 0 => 0
  | k + 1 => maskUp op x y k + maskBit op x y k * 2 ^ k
def Mk (x : Int) : Prop := x = 0 ∨ x = 4294967295 ∨ x = 5 ∨ x = 2147483648
def Op4 (op : Str) : Prop := op = Str.ofString "+" ∨ op = Str.ofString "-" ∨ op = Str.ofString "*" ∨ op = Str.ofString "/"
theorem mask_is {op : Str} (ho : Op4 op) {x y : Int} (hx : Mk x) (hy : Mk y) : maskUp op x y 32 = foldVal (Str.ofString "s" ++ op) x y := by
  rcases ho with e | e | e | e <;> subst e <;> rcases hx with e | e | e | e <;> subst e <;> rcases hy with e | e | e | e <;> subst e <;> decide +kernel
/-! mask -/
theorem reg43 : True := by
  w_top off
  (k_with "MINE none" => (skip))
  trivial
structure KindF (k f : Str) : Prop where
  i : (k == Str.ofString "int") = isI f
  s : (k == Str.ofString "set") = (f == Str.ofString "set")
  b : (k == Str.ofString "bool") = (f == Str.ofString "boolean")
def Dom (f : Str) (a : Int) : Prop := (isI f = true → -2147483648 ≤ a ∧ a ≤ 2147483647) ∧ ((f == Str.ofString "set") = true → Mk a) ∧ ((f == Str.ofString "boolean") = true → a = 0 ∨ a = 1)
def OpOf (op : Str) : Prop := op = Str.ofString "+" ∨ op = Str.ofString "-" ∨ op = Str.ofString "*" ∨ op = Str.ofString "DIV" ∨ op = Str.ofString "MOD" ∨ op = Str.ofString "/" ∨ op = Str.ofString "&" ∨ op = Str.ofString "OR"
theorem fmod2 (x : Int) : x.fmod 2 = 0 ∨ x.fmod 2 = 1 := by have h := fmod_in x (b := 2) (by decide); omega
theorem maskBit_01 {op : Str} (ho : Op4 op) (x y : Int) (k : Nat) : 0 ≤ maskBit op x y k ∧ maskBit op x y k ≤ 1 := by
  unfold maskBit
  dsimp only
  rcases fmod2 (x.fdiv (2 ^ k)) with h | h <;> rcases fmod2 (y.fdiv (2 ^ k)) with h' | h' <;> rw [h, h'] <;> rcases ho with e | e | e | e <;> subst e <;> decide
def sel4 (op : Str) (a b c d : Int) : Int := if op == Str.ofString "+" then a else if op == Str.ofString "*" then b else if op == Str.ofString "-" then c else d
theorem sel4_bit (op : Str) (x y : Int) (k : Nat) {a b : Int} (ha : a = (x.fdiv (2 ^ k)).fmod 2) (hb : b = (y.fdiv (2 ^ k)).fmod 2) :
    sel4 op (if b > a then b else a) (a * b) (a * (1 - b)) ((a + b).fmod 2) = maskBit op x y k := by
  unfold sel4 maskBit
  dsimp only
  rw [← ha, ← hb]
  have e : (if b > a then b else a) = max a b := by
    by_cases h : b > a
    · rw [if_pos h]; omega
    · rw [if_neg h]; omega
  rw [e]
theorem look4 {op : Str} (ho : Op4 op) {t1 t2 t3 t4 u1 u2 u3 u4 : Tok} {a b c d : Int} : PySem.Spec.lookup (.str op) (strData [(.str (Str.ofString "+") t1, .int a u1), (.str (Str.ofString "*") t2, .int b u2), (.str (Str.ofString "-") t3, .int c u3), (.str (Str.ofString "/") t4, .int d u4)]) = some (.int (sel4 op a b c d)) := by
  rcases ho with e | e | e | e <;> subst e
  · exact lookD_hd
  · exact lookD_tl (by decide) (lookD_tl (by decide) lookD_hd)
  · exact lookD_tl (by decide) lookD_hd
  · exact lookD_tl (by decide) (lookD_tl (by decide) (lookD_tl (by decide) lookD_hd))
section
variable {prog : Program} {w : World} {A : Around} {E : Value → Shared → Prop} {s : Shared} {d : Addr} {t t1 t2 t3 t4 u1 u2 u3 u4 : Tok} {Q : Value → Shared → Prop}
theorem getMask {op : Str} {x y : Int} {i : Nat} (ho : Op4 op)
    (T : TabAt (strKind prog w) PyData.str s.heap d (strData [(.str (Str.ofString "+") t1, .int (if (y.fdiv (2 ^ (0 + (i : Int)).toNat)).fmod 2 > (x.fdiv (2 ^ (0 + (i : Int)).toNat)).fmod 2 then (y.fdiv (2 ^ (0 + (i : Int)).toNat)).fmod 2 else (x.fdiv (2 ^ (0 + (i : Int)).toNat)).fmod 2) u1), (.str (Str.ofString "*") t2, .int ((x.fdiv (2 ^ (0 + (i : Int)).toNat)).fmod 2 * (y.fdiv (2 ^ (0 + (i : Int)).toNat)).fmod 2) u2), (.str (Str.ofString "-") t3, .int ((x.fdiv (2 ^ (0 + (i : Int)).toNat)).fmod 2 * (1 - (y.fdiv (2 ^ (0 + (i : Int)).toNat)).fmod 2)) u3), (.str (Str.ofString "/") t4, .int (((x.fdiv (2 ^ (0 + (i : Int)).toNat)).fmod 2 + (y.fdiv (2 ^ (0 + (i : Int)).toNat)).fmod 2).fmod 2) u4)]))
    (h : ∀ V t', V = maskBit op x y i → 0 ≤ V → V ≤ 1 → Q (.int V t') { s with toks := s.toks + 1 }) : wpAny (model prog w) A (getItem (.ref d) (.str op t)) Q E s := by
  have ei : (0 + (i : Int)).toNat = i := by omega
  rw [ei] at T
  refine getS T (look4 ho) fun t' => ?_
  rw [sel4_bit op x y i rfl rfl]
  exact h _ t' rfl (maskBit_01 ho x y i).1 (maskBit_01 ho x y i).2
end
theorem reg45 : True := by
  (k_with "getItem ref str" => ((k_here; k_dflt (refine' getMask ?k1_297 ?k2_297 ?_; (case k1_297 => assumption); (case k2_297 => k_tabat)); intro V9 t9 hV9 hV0 hV1; (try dsimp only))))
  trivial
theorem mulok01 {a b : Int} (h0 : 0 ≤ a) (h1 : a ≤ 1) : IntMulOk a b := .of_left (by rcases (by omega : a = 0 ∨ a = 1) with e | e <;> subst e <;> decide)
theorem reg46 : True := by
  (k_with "binaryOp Mult int int" => (with_reducible refine PyProof.Rows.mul_int ?_ (mulok01 (by assumption) (by assumption))))
  (k_with "binaryOp Pow int int" => (((with_reducible refine pow_int_small ?_ ?_ ?_ ?_); (omega); (omega); (decide))))
  trivial
def MaskC (w : World) (mean : ExcName → Option Value) (mg mb : Str → Option Value) : Prop :=
  ∀ {dp un : Nat} {gd : Option (List Code)} {cn : Str} {cs : Scope} {a : Addr} {ccd : Value} {cl : List (Str × Addr)} {outer : List Env} {A₀ : Around} {base h₀ : Heap} {L : Addr} {m : Str → Option Value} {hp : Heap} {gns : Array GenState} {drw : Drawn} {tk0 : Nat} {sos : OsState} {Q E : Value → Shared → Prop} {news : List (Addr × Obj)}
    {op : Str} {x y : Int} {to tx ty : Tok},
    Below A₀ base outer h₀ → Fr h₀ L hp m → (Mine.R.heap_1_1 w.params).In h₀ → News h₀ L hp news → Top Mine.R.view_1_2 (looseW Mine.R.view_1_2 []) mean mg mb h₀ → cs.kind = .function →
    dp + 6 < recursionLimit → un + 80 < cLine → Mk x → Mk y → Op4 op →
    (∀ (t : Tok) (h' : Heap) (tk' : Nat), Fr h₀ L h' m → News h₀ L h' news → Q (.int (maskUp op x y 32) t) ⟨h', gns, drw, tk', sos⟩) →
    wpAny (model PySem.Challenge.rw_nu0332_01.row.prog w) (ktrTop dp un gd cn cs L a ccd cl outer) (call (.ref 324) [.str op to, .int x tx, .int y ty]) Q E ⟨hp, gns, drw, tk0, sos⟩
theorem row_end {mu : Nat → Int} {op : Str} {x y : Int} (hs : ∀ k V, V = maskBit op x y k → mu (k + 1) = mu k + V * 2 ^ k) {i : Nat} {V : Int} (hV : V = maskBit op x y i) : mu i + V * 2 ^ (0 + (i : Int)).toNat = mu (i + 1) := by
  have ei : (0 + (i : Int)).toNat = i := by omega
  rw [ei, hs i V hV]
theorem some_int {a b : Int} {t : Tok} (h : a = b) : some (Value.int a t) = some (Value.int b t) := by rw [h]
set_option maxHeartbeats 8000000 in
theorem mask_ct (w : World) (mean : ExcName → Option Value) (mg mb : Str → Option Value) : MaskC w mean mg mb := by
  unfold MaskC
  intro dp un gd cn cs a ccd cl outer A₀ base h₀ L m hp gns drw tk0 sos Q E news op x y to tx ty B F X N T hk hd hu h1 h2 h3 hret
  have hx : 0 ≤ x ∧ x ≤ 4294967295 := by rcases h1 with h | h | h | h <;> omega
  have hy : 0 ≤ y ∧ y ≤ 4294967295 := by rcases h2 with h | h | h | h <;> omega
  obtain ⟨mu, hmu⟩ : ∃ mu : Nat → Int, mu = maskUp op x y := ⟨_, rfl⟩
  have hm0 : mu 0 = 0 := by rw [hmu]; rfl
  have hms : ∀ k V, V = maskBit op x y k → mu (k + 1) = mu k + V * 2 ^ k := by intro k V e; rw [e, hmu]; rfl
  rw [← hmu] at hret
  clear hmu
  have gMaskRow : True := trivial
  k_with "pyIter ref" => ((fail_if_success (fail_if_success (have hz9 := gMaskRow))); k_here; (with_unfolding_all refine' my_range (n := 32) (fun i m nx => nx = news ∧ m (Str.ofString "op") = some (.str op to) ∧ m (Str.ofString "one") = some (.int x tx) ∧ m (Str.ofString "two") = some (.int y ty) ∧ ∃ t, m (Str.ofString "row") = some (.int (mu i) t)) (by rfl) (by assumption) (by decide) (by rfl) (by assumption) (by assumption) ⟨rfl, rfl, rfl, rfl, _, some_int hm0.symm⟩ (fun i t m₁ nx h9 tk9 I oI hin hJ hoff F9 N9 => ?_) (fun m₁ nx h9 tk9 hJ F9 N9 => ?_)); all_goals (obtain ⟨e9, ho, ho1, ho2, t2, ho3⟩ := hJ; subst e9; (try dsimp only at F9 N9)))
  refine call_rq ?_
  k_dflt k_enter
  k_steps
  · refine MyEnd.intro (by assumption) (cb_drop (by assumption) (by walk_at "MINE sub")) (by assumption) ?_
    exact ⟨rfl, by walk_at "MINE look", by walk_at "MINE look", by walk_at "MINE look", _, if_hd.trans (some_int (row_end hms (by assumption)))⟩
  · exact hret _ _ _ (by k_asm) (by k_asm)
theorem dom_mk {x : Int} {k f : Str} (hd : ∀ a, some x = some a → Dom f a) (hk : KindF k f) (h : (k == Str.ofString "set") = true) : Mk x := (hd x rfl).2.1 (hk.s ▸ h)
theorem op4_of {op : Str} (h : ([Str.ofString "+", Str.ofString "-", Str.ofString "*", Str.ofString "/"].any fun x => x == op) = true) : Op4 op := by
  simp only [List.any_cons, List.any_nil, Bool.or_false, Bool.or_eq_true, beq_iff_eq] at h
  unfold Op4
  rcases h with h | h | h | h <;> simp [← h]
theorem reg47 : True := by
  (k_with "call ref" => ((k_here; (with_reducible show wpAny _ _ (call (Value.ref 324) _) _ _ _); k_dflt (refine' mask_ct _ _ _ _ ?k1_300 ?k2_300 ?k3_300 ?k4_300 ?k5_300 ?kK_300 ?kd_300 ?ku_300 ?p0_300 ?p1_300 ?p2_300 ?_; (case k1_300 => k_asm); (case k2_300 => k_asm); (case k3_300 => k_asm); (case k4_300 => k_asm); (case k5_300 => k_asm); (case kK_300 => first | exact rfl | assumption); (case kd_300 => ktr_room); (case ku_300 => ktr_units); (case p0_300 => exact dom_mk (by assumption) (by assumption) (by assumption)); (case p1_300 => exact dom_mk (by assumption) (by assumption) (by assumption)); (case p2_300 => exact op4_of (by assumption))); intro t' h' tk' F' N'; (try k_sweep); (try dsimp only); (try k_fold))))
  trivial
theorem dom_lo {x : Int} {k f : Str} (hd : ∀ a, some x = some a → Dom f a) (hk : KindF k f) (h : (k == Str.ofString "int") = true) : -4294967296 ≤ x := by
  have h1 := (hd x rfl).1 (hk.i ▸ h)
  omega
theorem dom_hi {x : Int} {k f : Str} (hd : ∀ a, some x = some a → Dom f a) (hk : KindF k f) (h : (k == Str.ofString "int") = true) : x ≤ 4294967296 := by
  have h1 := (hd x rfl).1 (hk.i ▸ h)
  omega
theorem exop1 {op : Str} {y : Int} (h : OpOf op) (h1 : ([Str.ofString "&", Str.ofString "OR"].any fun x => x == op) = false) (h2 : (op != Str.ofString "/") = true) (h3 : ([Str.ofString "DIV", Str.ofString "MOD"].any fun x => x == op) = false) :
    op = Str.ofString "+" ∨ op = Str.ofString "-" ∨ op = Str.ofString "*" ∨ (op = Str.ofString "DIV" ∧ 0 < y) ∨ (op = Str.ofString "MOD" ∧ 0 < y) := by
  rcases h with e | e | e | e | e | e | e | e <;> subst e <;> first | exact .inl rfl | exact .inr (.inl rfl) | exact .inr (.inr (.inl rfl)) | exact absurd h1 (by decide) | exact absurd h2 (by decide) | exact absurd h3 (by decide)
theorem exop2 {op : Str} {y : Int} (h : OpOf op) (h3 : ([Str.ofString "DIV", Str.ofString "MOD"].any fun x => x == op) = true) (h4 : ¬ y < 1) :
    op = Str.ofString "+" ∨ op = Str.ofString "-" ∨ op = Str.ofString "*" ∨ (op = Str.ofString "DIV" ∧ 0 < y) ∨ (op = Str.ofString "MOD" ∧ 0 < y) := by
  have hy : 0 < y := by omega
  rcases h with e | e | e | e | e | e | e | e <;> subst e <;> first | exact .inr (.inr (.inr (.inl ⟨rfl, hy⟩))) | exact .inr (.inr (.inr (.inr ⟨rfl, hy⟩))) | exact absurd h3 (by decide)
theorem op_len {op : Str} (h : OpOf op) : op.length ≤ 100 := by
  rcases h with e | e | e | e | e | e | e | e <;> subst e <;> decide +kernel
/-! dlaw -/
theorem reg48 : True := by
  w_top off
  (k_with "call ref" => ((k_here; (with_reducible show wpAny _ _ (call (Value.ref 317) _) _ _ _); k_dflt (refine' exact_ct _ _ _ _ ?k1_301 ?k2_301 ?k3_301 ?k4_301 ?k5_301 ?kK_301 ?kd_301 ?ku_301 ?p0_301 ?p1_301 ?p2_301 ?p3_301 ?p4_301 ?_; (case k1_301 => k_asm); (case k2_301 => k_asm); (case k3_301 => k_asm); (case k4_301 => k_asm); (case k5_301 => k_asm); (case kK_301 => first | exact rfl | assumption); (case kd_301 => ktr_room); (case ku_301 => ktr_units); (case p0_301 => exact dom_lo (by assumption) (by assumption) (by assumption)); (case p1_301 => exact dom_hi (by assumption) (by assumption) (by assumption)); (case p2_301 => exact dom_lo (by assumption) (by assumption) (by assumption)); (case p3_301 => exact dom_hi (by assumption) (by assumption) (by assumption)); (case p4_301 => first | exact exop1 (by assumption) (by assumption) (by assumption) (by assumption) | exact exop2 (by assumption) (by assumption) (by assumption))); intro t' h' tk' F' N'; (try k_sweep); (try dsimp only); (try k_fold))))
  trivial
/-- what _law_due hands back -/
def Due (op f1 f2 : Str) (v1 v2 : Option Int) (form code : Str) (v4 : Value) (op' : Str) : Prop :=
  form = dueSel op f1 f2 (Str.ofString "boolean") (Str.ofString "set") (Str.ofString "integer") ∧ code = dueC op f1 f2 v1 v2 ∧ ∃ v, OptV v v4 ∧ (code = Str.ofString "" → v = bnVal (dueOp op f1 f2) v1 v2 ∧ op' = dueOp op f1 f2)
theorem bn_none {op : Str} {v1 v2 : Option Int} (h : v1 = none ∨ v2 = none) : bnCode op v1 v2 = Str.ofString "" ∧ bnVal op v1 v2 = none := by
  rcases h with h | h <;> subst h
  · exact bn_l
  · exact bn_r
theorem opB {op : Str} (h : ([Str.ofString "&", Str.ofString "OR"].any fun x => x == op) = true) : (op == Str.ofString "&") = true ∨ ((op == Str.ofString "&") = false ∧ (op == Str.ofString "OR") = true) := by
  simp only [List.any_cons, List.any_nil, Bool.or_false, Bool.or_eq_true, beq_iff_eq] at h
  rcases h with h | h <;> subst h
  · exact .inl (by decide)
  · exact .inr (by decide)
theorem opN {op : Str} (h : ([Str.ofString "&", Str.ofString "OR"].any fun x => x == op) = false) : (op == Str.ofString "&") = false ∧ (op == Str.ofString "OR") = false := by
  simp only [List.any_cons, List.any_nil, Bool.or_false, Bool.or_eq_false_iff] at h
  exact ⟨by rw [← h.1, Bool.eq_iff_iff, beq_iff_eq, beq_iff_eq]; exact eq_comm, by rw [← h.2, Bool.eq_iff_iff, beq_iff_eq, beq_iff_eq]; exact eq_comm⟩
theorem sBad : Str.ofString "bad_operands" ≠ Str.ofString "" := by decide
theorem sDiv : Str.ofString "division" ≠ Str.ofString "" := by decide
theorem sOvf : Str.ofString "constant_overflow" ≠ Str.ofString "" := by decide
theorem int_set {k : Str} (h : (k == Str.ofString "int") = true) : (k == Str.ofString "set") = false := by rw [beq_iff_eq.mp h]; decide
theorem set_int {k : Str} (h : (k == Str.ofString "set") = true) : (k == Str.ofString "int") = false := by rw [beq_iff_eq.mp h]; decide
theorem reg50 : True := by
  (k_with "MINE duek" => ((simp only [dueC, dueOp, dueSel, setOp, divOp, negO, badOps, bne, *, reduceIte, Bool.not_true, Bool.not_false, Bool.and_true, Bool.true_and, Bool.and_false, Bool.false_and, Bool.false_eq_true, decide_true, decide_false])))
  trivial
section
variable {op f1 f2 k1 k2 : Str} {v1 v2 : Option Int} (hk1 : KindF k1 f1) (hk2 : KindF k2 f2)
include hk1
theorem due_bad1 (h1 : ([Str.ofString "&", Str.ofString "OR"].any fun x => x == op) = true) (h2 : (k1 != Str.ofString "bool") = true) : Due op f1 f2 v1 v2 (Str.ofString "boolean") (Str.ofString "bad_operands") .none op := by
  have e1 : (f1 == Str.ofString "boolean") = false := by rw [← hk1.b]; simpa using h2
  rcases opB h1 with h | ⟨h, h'⟩ <;> refine ⟨?_, ?_, none, .none, fun c => absurd c sBad⟩ <;> walk_at "MINE duek"
include hk2
theorem due_bad2 (h1 : ([Str.ofString "&", Str.ofString "OR"].any fun x => x == op) = true) (h2 : (k1 != Str.ofString "bool") = false) (h3 : (k2 != Str.ofString "bool") = true) : Due op f1 f2 v1 v2 (Str.ofString "boolean") (Str.ofString "bad_operands") .none op := by
  have e1 : (f1 == Str.ofString "boolean") = true := by rw [← hk1.b]; simpa using h2
  have e2 : (f2 == Str.ofString "boolean") = false := by rw [← hk2.b]; simpa using h3
  rcases opB h1 with h | ⟨h, h'⟩ <;> refine ⟨?_, ?_, none, .none, fun c => absurd c sBad⟩ <;> walk_at "MINE duek"
theorem due_bnone (h1 : ([Str.ofString "&", Str.ofString "OR"].any fun x => x == op) = true) (h2 : (k1 != Str.ofString "bool") = false) (h3 : (k2 != Str.ofString "bool") = false) (hn : v1 = none ∨ v2 = none) : Due op f1 f2 v1 v2 (Str.ofString "boolean") (Str.ofString "") .none op := by
  have e1 : (f1 == Str.ofString "boolean") = true := by rw [← hk1.b]; simpa using h2
  have e2 : (f2 == Str.ofString "boolean") = true := by rw [← hk2.b]; simpa using h3
  have e3 := fun o => (bn_none (op := o) hn).1
  have e4 := fun o => (bn_none (op := o) hn).2
  rcases opB h1 with h | ⟨h, h'⟩ <;> refine ⟨?_, ?_, none, .none, fun _ => ⟨?_, ?_⟩⟩ <;> walk_at "MINE duek"
theorem due_band {x y : Int} {t : Tok} (hd1 : ∀ a, some x = some a → Dom f1 a) (hd2 : ∀ a, some y = some a → Dom f2 a) (h2 : (k1 != Str.ofString "bool") = false) (h3 : (k2 != Str.ofString "bool") = false) (h4 : (op == Str.ofString "&") = true) :
    Due op f1 f2 (some x) (some y) (Str.ofString "boolean") (Str.ofString "") (.int (if y < x then y else x) t) op := by
  have e1 : (f1 == Str.ofString "boolean") = true := by rw [← hk1.b]; simpa using h2
  have e2 : (f2 == Str.ofString "boolean") = true := by rw [← hk2.b]; simpa using h3
  have hx := (hd1 x rfl).2.2 e1
  have hy := (hd2 y rfl).2.2 e2
  have e5 := beq_iff_eq.mp h4
  subst e5
  have e6 : foldCode (Str.ofString "&") x y = Str.ofString "" := rfl
  refine ⟨?_, ?_, some _, .some, fun _ => ⟨?_, ?_⟩⟩
  · walk_at "MINE duek"
  · walk_at "MINE duek"
    exact e6.symm
  · rcases hx with hx | hx <;> rcases hy with hy | hy <;> subst hx hy <;> rfl
  · walk_at "MINE duek"
theorem due_bor {x y : Int} {t : Tok} (hd1 : ∀ a, some x = some a → Dom f1 a) (hd2 : ∀ a, some y = some a → Dom f2 a) (h1 : ([Str.ofString "&", Str.ofString "OR"].any fun x => x == op) = true) (h2 : (k1 != Str.ofString "bool") = false) (h3 : (k2 != Str.ofString "bool") = false) (h4 : (op == Str.ofString "&") = false) :
    Due op f1 f2 (some x) (some y) (Str.ofString "boolean") (Str.ofString "") (.int (if y > x then y else x) t) op := by
  have e1 : (f1 == Str.ofString "boolean") = true := by rw [← hk1.b]; simpa using h2
  have e2 : (f2 == Str.ofString "boolean") = true := by rw [← hk2.b]; simpa using h3
  have hx := (hd1 x rfl).2.2 e1
  have hy := (hd2 y rfl).2.2 e2
  have e5 : op = Str.ofString "OR" := by
    rcases opB h1 with h | ⟨h, h'⟩
    · rw [h] at h4; cases h4
    · exact beq_iff_eq.mp h'
  subst e5
  have e6 : foldCode (Str.ofString "OR") x y = Str.ofString "" := rfl
  refine ⟨?_, ?_, some _, .some, fun _ => ⟨?_, ?_⟩⟩
  · rfl
  · have e7 : (Str.ofString "OR" == Str.ofString "OR") = true := by decide
    walk_at "MINE duek"
    exact e6.symm
  · rcases hx with hx | hx <;> rcases hy with hy | hy <;> subst hx hy <;> rfl
  · rfl
theorem due_snone {o : Str} (h1 : ([Str.ofString "&", Str.ofString "OR"].any fun x => x == op) = false) (h2 : (k1 == Str.ofString "set") = true) (h3 : (k2 == Str.ofString "set") = true) (h4 : ([Str.ofString "+", Str.ofString "-", Str.ofString "*", Str.ofString "/"].any fun x => x == op) = true) (hn : v1 = none ∨ v2 = none) (ho : o = Str.ofString "s" ++ op) : Due op f1 f2 v1 v2 (Str.ofString "set") (Str.ofString "") .none o := by
  have e1 : (f1 == Str.ofString "set") = true := by rw [← hk1.s]; exact h2
  have e2 : (f2 == Str.ofString "set") = true := by rw [← hk2.s]; exact h3
  have e3 := fun o => (bn_none (op := o) hn).1
  have e4 := fun o => (bn_none (op := o) hn).2
  obtain ⟨h, h'⟩ := opN h1
  refine ⟨?_, ?_, none, .none, fun _ => ⟨?_, ?_⟩⟩ <;> walk_at "MINE duek"
theorem due_sval {x y : Int} {o : Str} {t : Tok} (hd1 : ∀ a, some x = some a → Dom f1 a) (hd2 : ∀ a, some y = some a → Dom f2 a) (h1 : ([Str.ofString "&", Str.ofString "OR"].any fun x => x == op) = false) (h2 : (k1 == Str.ofString "set") = true) (h3 : (k2 == Str.ofString "set") = true) (h4 : ([Str.ofString "+", Str.ofString "-", Str.ofString "*", Str.ofString "/"].any fun x => x == op) = true) (ho : o = Str.ofString "s" ++ op) :
    Due op f1 f2 (some x) (some y) (Str.ofString "set") (Str.ofString "") (.int (maskUp op x y 32) t) o := by
  have e1 : (f1 == Str.ofString "set") = true := by rw [← hk1.s]; exact h2
  have e2 : (f2 == Str.ofString "set") = true := by rw [← hk2.s]; exact h3
  have hx := dom_mk hd1 hk1 h2
  have hy := dom_mk hd2 hk2 h3
  have ho4 := op4_of h4
  rw [mask_is ho4 hx hy]
  have e6 : foldCode (Str.ofString "s" ++ op) x y = Str.ofString "" := by rcases ho4 with e | e | e | e <;> subst e <;> rfl
  obtain ⟨h, h'⟩ := opN h1
  refine ⟨?_, ?_, some _, .some, fun _ => ⟨?_, ?_⟩⟩
  · walk_at "MINE duek"
  · walk_at "MINE duek"
    exact e6.symm
  · walk_at "MINE duek"
    rfl
  · walk_at "MINE duek"
theorem due_wrong {form : Str} (h1 : ([Str.ofString "&", Str.ofString "OR"].any fun x => x == op) = false) (h2 : (k1 == Str.ofString "set" && k2 == Str.ofString "set" && setOp op) = false) (h3 : (k1 == Str.ofString "int" && k2 == Str.ofString "int" && op != Str.ofString "/") = false)
    (hf : form = if ([k1, k2].any fun x => x == Str.ofString "set") then Str.ofString "set" else Str.ofString "integer") : Due op f1 f2 v1 v2 form (Str.ofString "bad_operands") .none op := by
  obtain ⟨h, h'⟩ := opN h1
  rw [hk1.s, hk2.s] at h2
  rw [hk1.i, hk2.i] at h3
  have e9 : form = if (f1 == Str.ofString "set") = true then Str.ofString "set" else if (f2 == Str.ofString "set") = true then Str.ofString "set" else Str.ofString "integer" := by
    rw [hf]
    simp only [List.any_cons, List.any_nil, Bool.or_false, hk1.s, hk2.s]
    cases (f1 == Str.ofString "set") <;> cases (f2 == Str.ofString "set") <;> rfl
  refine ⟨?_, ?_, none, .none, fun c => absurd c sBad⟩
  · rw [e9]
    simp only [dueSel, h, h', h2, h3, Bool.false_eq_true, if_false]
  · simp only [dueC, h, h', h2, h3, Bool.false_eq_true, if_false]
    rfl
section
variable (h1 : ([Str.ofString "&", Str.ofString "OR"].any fun x => x == op) = false) (h2 : (k1 == Str.ofString "int") = true) (h3 : (k2 == Str.ofString "int") = true) (h4 : (op != Str.ofString "/") = true)
include h1 h2 h3 h4
theorem due_int {code : Str} {v4 : Value} (hc : code = if divOp op && negO v2 then Str.ofString "division" else bnCode op v1 v2) (hv : ∃ v, OptV v v4 ∧ (code = Str.ofString "" → v = bnVal op v1 v2)) : Due op f1 f2 v1 v2 (Str.ofString "integer") code v4 op := by
  obtain ⟨h, h'⟩ := opN h1
  have e1 : isI f1 = true := by rw [← hk1.i]; exact h2
  have e2 : isI f2 = true := by rw [← hk2.i]; exact h3
  have e3 : (f1 == Str.ofString "set") = false := by rw [← hk1.s]; exact int_set h2
  have e4 : (!(op == Str.ofString "/")) = true := h4
  obtain ⟨v, hv1, hv2⟩ := hv
  refine ⟨?_, ?_, v, hv1, fun c => ⟨?_, ?_⟩⟩
  · walk_at "MINE duek"
  · rw [hc]
    simp only [dueC, h, h', e1, e2, e3, h4, Bool.false_and, Bool.true_and, Bool.false_eq_true, if_false, if_true]
  · rw [hv2 c]
    simp only [dueOp, h, h', e3, Bool.false_and, Bool.false_eq_true, if_false]
  · simp only [dueOp, h, h', e3, Bool.false_and, Bool.false_eq_true, if_false]
theorem due_idiv {y : Int} (h5 : ([Str.ofString "DIV", Str.ofString "MOD"].any fun x => x == op) = true) (h6 : y < 1) : Due op f1 f2 v1 (some y) (Str.ofString "integer") (Str.ofString "division") .none op := by
  refine due_int hk1 hk2 h1 h2 h3 h4 ?_ ⟨none, .none, fun c => absurd c sDiv⟩
  have e5 : divOp op = true := h5
  have e6 : negO (some y) = true := by simp only [negO, decide_eq_true_eq]; omega
  rw [e5, e6]; rfl
theorem due_inone (h5 : ([Str.ofString "DIV", Str.ofString "MOD"].any fun x => x == op) = false ∨ negO v2 = false) (hn : v1 = none ∨ v2 = none) : Due op f1 f2 v1 v2 (Str.ofString "integer") (Str.ofString "") .none op := by
  refine due_int hk1 hk2 h1 h2 h3 h4 ?_ ⟨none, .none, fun _ => (bn_none hn).2.symm⟩
  have e5 : (divOp op && negO v2) = false := by
    rcases h5 with h5 | h5
    · have e : divOp op = false := h5
      rw [e]; rfl
    · rw [h5, Bool.and_false]
  rw [e5, (bn_none hn).1]; rfl
theorem code_in {x y : Int} (ho : OpOf op) (hd1 : ∀ a, some x = some a → Dom f1 a) (hd2 : ∀ a, some y = some a → Dom f2 a) (h5 : ([Str.ofString "DIV", Str.ofString "MOD"].any fun x => x == op) = false ∨ ¬ y < 1) :
    (-2147483648 ≤ foldVal op x y ∧ foldVal op x y ≤ 2147483647 → foldCode op x y = Str.ofString "") ∧ (¬ (-2147483648 ≤ foldVal op x y ∧ foldVal op x y ≤ 2147483647) → foldCode op x y = Str.ofString "constant_overflow") := by
  have hx := (hd1 x rfl).1 (by rw [← hk1.i]; exact h2)
  rcases ho with e | e | e | e | e | e | e | e <;> subst e
  · exact ⟨fun h => if_pos h, fun h => if_neg h⟩
  · exact ⟨fun h => if_pos h, fun h => if_neg h⟩
  · exact ⟨fun h => if_pos h, fun h => if_neg h⟩
  · have hy : 0 < y := by rcases h5 with h5 | h5; · exact absurd h5 (by decide)
                          · omega
    have e1 : foldCode (Str.ofString "DIV") x y = Str.ofString "" := by show (if y ≤ 0 then _ else _) = _; exact if_neg (by omega)
    have e2 : foldVal (Str.ofString "DIV") x y = x.fdiv y := rfl
    have hq := Int.fmod_add_mul_fdiv x y
    have h7 := fmod_in x hy
    refine ⟨fun _ => e1, fun h => absurd ?_ h⟩
    rw [e2]
    generalize x.fdiv y = q at *
    generalize x.fmod y = r at *
    constructor
    · by_cases hq0 : -2147483648 ≤ q
      · exact hq0
      · have h8 : y * q ≤ 1 * q := Int.mul_le_mul_of_nonpos_right (by omega) (by omega)
        by_cases hr : y * q + y ≤ q + 1
        · omega
        · have h9 : y * (q + 1) ≤ 1 * (q + 1) := Int.mul_le_mul_of_nonpos_right (by omega) (by omega)
          rw [Int.mul_add] at h9
          omega
    · by_cases hq0 : q ≤ 2147483647
      · exact hq0
      · have h8 : 1 * q ≤ y * q := Int.mul_le_mul_of_nonneg_right (by omega) (by omega)
        omega
  · have hy : 0 < y := by rcases h5 with h5 | h5; · exact absurd h5 (by decide)
                          · omega
    have e1 : foldCode (Str.ofString "MOD") x y = Str.ofString "" := by show (if y ≤ 0 then _ else _) = _; exact if_neg (by omega)
    have e2 : foldVal (Str.ofString "MOD") x y = x.fmod y := rfl
    have h7 := fmod_in x hy
    have h8 := (hd2 y rfl).1 (by rw [← hk2.i]; exact h3)
    refine ⟨fun _ => e1, fun h => absurd ?_ h⟩
    rw [e2]
    omega
  · exact absurd h4 (by decide)
  · exact absurd h1 (by decide)
  · exact absurd h1 (by decide)
theorem due_ival {x y : Int} {t : Tok} (ho : OpOf op) (hd1 : ∀ a, some x = some a → Dom f1 a) (hd2 : ∀ a, some y = some a → Dom f2 a) (h5 : ([Str.ofString "DIV", Str.ofString "MOD"].any fun x => x == op) = false ∨ ¬ y < 1)
    (h6 : -2 ^ Int.toNat 31 ≤ foldVal op x y) (h7 : foldVal op x y < 2 ^ Int.toNat 31) : Due op f1 f2 (some x) (some y) (Str.ofString "integer") (Str.ofString "") (.int (foldVal op x y) t) op := by
  have e6 : (-2147483648 : Int) ≤ foldVal op x y := h6
  have e7 : foldVal op x y < (2147483648 : Int) := h7
  have hc := (code_in hk1 hk2 h1 h2 h3 h4 ho hd1 hd2 h5).1 ⟨e6, by omega⟩
  refine due_int hk1 hk2 h1 h2 h3 h4 ?_ ⟨some _, .some, fun _ => rfl⟩
  have e5 : (divOp op && negO (some y)) = false := by
    rcases h5 with h5 | h5
    · have e : divOp op = false := h5
      rw [e]; rfl
    · have e : negO (some y) = false := by simp only [negO, decide_eq_false_iff_not]; omega
      rw [e, Bool.and_false]
  rw [e5]
  exact hc.symm
theorem due_iovf {x y : Int} (ho : OpOf op) (hd1 : ∀ a, some x = some a → Dom f1 a) (hd2 : ∀ a, some y = some a → Dom f2 a) (h5 : ([Str.ofString "DIV", Str.ofString "MOD"].any fun x => x == op) = false ∨ ¬ y < 1)
    (h6 : ¬ (-2 ^ Int.toNat 31 ≤ foldVal op x y) ∨ ¬ (foldVal op x y < 2 ^ Int.toNat 31)) : Due op f1 f2 (some x) (some y) (Str.ofString "integer") (Str.ofString "constant_overflow") .none op := by
  have e6 : ¬ ((-2147483648 : Int) ≤ foldVal op x y) ∨ ¬ (foldVal op x y < (2147483648 : Int)) := h6
  have hc := (code_in hk1 hk2 h1 h2 h3 h4 ho hd1 hd2 h5).2 (by omega)
  refine due_int hk1 hk2 h1 h2 h3 h4 ?_ ⟨none, .none, fun c => absurd c sOvf⟩
  have e5 : (divOp op && negO (some y)) = false := by
    rcases h5 with h5 | h5
    · have e : divOp op = false := h5
      rw [e]; rfl
    · have e : negO (some y) = false := by simp only [negO, decide_eq_false_iff_not]; omega
      rw [e, Bool.and_false]
  rw [e5]
  exact hc.symm
end
end
section
variable {op f1 f2 k1 k2 : Str} {v1 v2 : Option Int} (hk1 : KindF k1 f1) (hk2 : KindF k2 f2)
include hk1 hk2
theorem due_wS (h1 : ([Str.ofString "&", Str.ofString "OR"].any fun x => x == op) = false) (h2 : (k1 == Str.ofString "set" && k2 == Str.ofString "set" && setOp op) = false) (h3 : (k1 == Str.ofString "int" && k2 == Str.ofString "int" && op != Str.ofString "/") = false)
    (hf : ([k1, k2].any fun x => x == Str.ofString "set") = true) : Due op f1 f2 v1 v2 (Str.ofString "set") (Str.ofString "bad_operands") .none op := due_wrong hk1 hk2 h1 h2 h3 (if_pos hf).symm
theorem due_wI (h1 : ([Str.ofString "&", Str.ofString "OR"].any fun x => x == op) = false) (h2 : (k1 == Str.ofString "set" && k2 == Str.ofString "set" && setOp op) = false) (h3 : (k1 == Str.ofString "int" && k2 == Str.ofString "int" && op != Str.ofString "/") = false)
    (hf : ([k1, k2].any fun x => x == Str.ofString "set") = false) : Due op f1 f2 v1 v2 (Str.ofString "integer") (Str.ofString "bad_operands") .none op := due_wrong hk1 hk2 h1 h2 h3 (by rw [hf]; rfl)
end
theorem and3a {a b c : Bool} (h : a = false) : (a && b && c) = false := by rw [h]; rfl
theorem and3b {a b c : Bool} (h : b = false) : (a && b && c) = false := by rw [h, Bool.and_false]; rfl
theorem and3c {a b c : Bool} (h : c = false) : (a && b && c) = false := by rw [h, Bool.and_false]
/-! duec -/
theorem reg51 : True := by
  w_top off
  (k_with "MINE none" => (skip))
  trivial
theorem reg52 : True := by
  (k_with "MINE ltend" => (first | with_reducible assumption | exact kst_ltOf (by with_reducible assumption) | exact kst_ltOf (And.right (by assumption)) | exact kst_ltOf (And.right (And.right (by assumption))) | exact kst_ltOf (And.right (And.right (And.right (by assumption))))))
  (k_with "MINE a3" => (first | exact and3a (by assumption) | exact and3b (by assumption) | exact and3c (by assumption) | exact and3a (set_int (by assumption))))
  (k_with "MINE or2" => (first | exact Or.inl (by assumption) | exact Or.inr (by assumption) | exact Or.inr rfl | exact Or.inr (by simp only [negO, decide_eq_false_iff_not]; omega)))
  (k_with "MINE dueend" => (first | exact due_bad1 (by assumption) (by assumption) (by assumption) | exact due_bad2 (by assumption) (by assumption) (by assumption) (by assumption) (by assumption) | exact due_bnone (by assumption) (by assumption) (by assumption) (by assumption) (by assumption) (by assumption) | exact due_band (by assumption) (by assumption) (by assumption) (by assumption) (by assumption) (by assumption) (by assumption) | exact due_bor (by assumption) (by assumption) (by assumption) (by assumption) (by assumption) (by assumption) (by assumption) (by assumption) | exact due_snone (by assumption) (by assumption) (by assumption) (by assumption) (by assumption) (by assumption) (by assumption) rfl | exact due_sval (by assumption) (by assumption) (by assumption) (by assumption) (by assumption) (by assumption) (by assumption) (by assumption) rfl | exact due_wS (by assumption) (by assumption) (by assumption) (by walk_at "MINE a3") (by walk_at "MINE a3") (by assumption) | exact due_wI (by assumption) (by assumption) (by assumption) (by walk_at "MINE a3") (by walk_at "MINE a3") (by assumption) | exact due_idiv (by assumption) (by assumption) (by assumption) (by assumption) (by assumption) (by assumption) (by assumption) (by assumption) | exact due_inone (by assumption) (by assumption) (by assumption) (by assumption) (by assumption) (by assumption) (by walk_at "MINE or2") (by assumption) | exact due_ival (by assumption) (by assumption) (by assumption) (by assumption) (by assumption) (by assumption) (by assumption) (by assumption) (by assumption) (by walk_at "MINE or2") (by assumption) (by assumption) | exact due_iovf (by assumption) (by assumption) (by assumption) (by assumption) (by assumption) (by assumption) (by assumption) (by assumption) (by assumption) (by walk_at "MINE or2") (by walk_at "MINE or2")))
  trivial
def DueC (w : World) (mean : ExcName → Option Value) (mg mb : Str → Option Value) : Prop :=
  ∀ {dp un : Nat} {gd : Option (List Code)} {cn : Str} {cs : Scope} {a : Addr} {ccd : Value} {cl : List (Str × Addr)} {outer : List Env} {A₀ : Around} {base h₀ : Heap} {L : Addr} {m : Str → Option Value} {hp : Heap} {gns : Array GenState} {drw : Drawn} {tk0 : Nat} {sos : OsState} {Q E : Value → Shared → Prop} {news : List (Addr × Obj)}
    {one two : Addr} {x1 x2 v3 w3 : Value} {k1 k2 f1 f2 op : Str} {v1 v2 : Option Int} {tk1 tk2 to : Tok} {n1 n2 : Nat},
    Below A₀ base outer h₀ → Fr h₀ L hp m → (Mine.R.heap_1_1 w.params).In h₀ → News h₀ L hp news → Top Mine.R.view_1_2 (looseW Mine.R.view_1_2 []) mean mg mb h₀ → cs.kind = .function →
    dp + 8 < recursionLimit → un + 120 < cLine → (one, tupOf #[x1, .str k1 tk1, v3] n1) ∈ news → (two, tupOf #[x2, .str k2 tk2, w3] n2) ∈ news → KindF k1 f1 → KindF k2 f2 → OptV v1 v3 → OptV v2 w3 → (∀ a, v1 = some a → Dom f1 a) → (∀ a, v2 = some a → Dom f2 a) → OpOf op →
    (∀ (d : Nat) (form code op' : Str) (v4 : Value) (t1 t2 t3 : Tok) (h' : Heap) (tk' : Nat), Fr h₀ L h' m → News h₀ L h' ((d, tupOf #[.str form t1, .str code t2, v4, .str op' t3] 0) :: news) → (∀ p ∈ news, p.1 < d) → Due op f1 f2 v1 v2 form code v4 op' → Q (.ref d) ⟨h', gns, drw, tk', sos⟩) →
    wpAny (model PySem.Challenge.rw_nu0332_01.row.prog w) (ktrTop dp un gd cn cs L a ccd cl outer) (call (.ref 331) [.str op to, .ref one, .ref two]) Q E ⟨hp, gns, drw, tk0, sos⟩
set_option maxHeartbeats 8000000 in
theorem due_ct (w : World) (mean : ExcName → Option Value) (mg mb : Str → Option Value) : DueC w mean mg mb := by
  unfold DueC
  intro dp un gd cn cs a ccd cl outer A₀ base h₀ L m hp gns drw tk0 sos Q E news one two x1 x2 v3 w3 k1 k2 f1 f2 op v1 v2 tk1 tk2 to n1 n2 B F X N T hk hd hu h1 h2 hk1 hk2 hv1 hv2 hd1 hd2 hop hret
  have hol := op_len hop
  refine call_rq ?_
  k_dflt k_enter
  k_steps
  all_goals first
    | exact hret _ _ _ _ _ _ _ _ _ _ (by k_asm) (cb_drop (by assumption) (sub_cons (by walk_at "MINE sub"))) (by walk_at "MINE ltend") (by walk_at "MINE dueend")
/-! rows -/
/-- a list's items are tuples of a place and a code -/
inductive RowsAre (news : List (Addr × Obj)) : List Value → List (Int × Str) → Prop
  | nil : RowsAre news [] []
  | cons {r : Addr} {n : Nat} {p : Int} {c : Str} {tp tc : Tok} {vs : List Value} {ds : List (Int × Str)} : PyData.strOk c = true → (r, tupOf #[.int p tp, .str c tc] n) ∈ news → RowsAre news vs ds → RowsAre news (.ref r :: vs) ((p, c) :: ds)
theorem RowsAre.mono {news news' : List (Addr × Obj)} {vs : List Value} {ds : List (Int × Str)} (h : RowsAre news vs ds) (hs : ∀ p ∈ news, p ∈ news') : RowsAre news' vs ds := by
  induction h with
  | nil => exact .nil
  | cons ho hm _ ih => exact .cons ho (hs _ hm) ih
theorem RowsAre.snoc {news : List (Addr × Obj)} {vs : List Value} {ds : List (Int × Str)} {r : Addr} {n : Nat} {p : Int} {c : Str} {tp tc : Tok} (h : RowsAre news vs ds) (ho : PyData.strOk c = true) (hm : (r, tupOf #[.int p tp, .str c tc] n) ∈ news) : RowsAre news (vs ++ [.ref r]) (ds ++ [(p, c)]) := by
  induction h with
  | nil => exact .cons ho hm .nil
  | cons h0 h1 _ ih => exact .cons h0 h1 ih
theorem RowsAre.length {news : List (Addr × Obj)} {vs : List Value} {ds : List (Int × Str)} (h : RowsAre news vs ds) : vs.length = ds.length := by
  induction h with
  | nil => rfl
  | cons _ _ _ ih => simp [ih]
def rowD (d : Int × Str) : PyData := .tuple [.int d.1, .str d.2]
section
variable {h₀ h : Heap} {L : Addr} {news : List (Addr × Obj)}
theorem RowsAre.ok {vs : List Value} {ds : List (Int × Str)} (H : RowsAre news vs ds) : ∀ d ∈ ds, PyData.strOk d.2 = true := by
  induction H with
  | nil => exact fun _ h => nomatch h
  | cons ho _ _ ih => exact List.forall_mem_cons.mpr ⟨ho, ih⟩
theorem RowsAre.reads {vs : List Value} {ds : List (Int × Str)} (N : News h₀ L h news) (H : RowsAre news vs ds) : ∃ as, ReadsAll h vs (ds.map rowD) as := by
  induction H with
  | nil => exact ⟨_, .nil⟩
  | cons _ hm _ ih =>
    obtain ⟨as, ih⟩ := ih
    exact ⟨_, .cons (reads_tuple_at (N _ hm).1 rfl rfl (.cons (.int _ _) (.cons (.str _ _) .nil))) ih⟩
end
theorem rows_canLay : ∀ ds : List (Int × Str), (∀ d ∈ ds, PyData.strOk d.2 = true) → PyData.canLayAll0 (ds.map rowD) = true
  | [], _ => rfl
  | d :: r, h => by
    simp only [List.map_cons, PyData.canLayAll0, rowD, PyData.canLay0, h d (.head _), Bool.true_and]
    exact rows_canLay r fun e he => h e (.tail _ he)
theorem rows_depth (ds : List (Int × Str)) : PyData.depthAll (ds.map rowD) ≤ 1 := by
  induction ds with
  | nil => decide
  | cons d r ih =>
    have e : (rowD d).depth ≤ 1 := by simp [rowD, PyData.depth, PyData.depthAll]
    simp only [List.map_cons, PyData.depthAll]
    exact Nat.max_le.mpr ⟨e, ih⟩
theorem rows_shaped {ds : List (Int × Str)} (h : ∀ d ∈ ds, PyData.strOk d.2 = true) : PySem.SeqAt.shaped (.list (ds.map rowD)) = true := by
  have h1 := rows_canLay ds h
  have h2 := rows_depth ds
  unfold PySem.SeqAt.shaped
  rw [Bool.and_eq_true, decide_eq_true_eq]
  refine ⟨by simp only [PyData.canLay0]; exact h1, ?_⟩
  simp only [PyData.depth]
  omega
theorem rows_eqv : ∀ ds es : List (Int × Str), PyData.eqvAll (ds.map rowD) (es.map rowD) = decide (ds = es)
  | [], [] => by simp [PyData.eqvAll]
  | [], _ :: _ => by simp [PyData.eqvAll]
  | _ :: _, [] => by simp [PyData.eqvAll]
  | (p, c) :: r, (q, d) :: t => by
    simp only [List.map_cons, PyData.eqvAll, rows_eqv r t, rowD, PyData.eqv]
    by_cases h1 : p = q <;> by_cases h2 : c = d <;> by_cases h3 : r = t <;> simp [h1, h2, h3]
section
variable {prog : Program} {w : World} {A : Around} {E : Value → Shared → Prop} {s : Shared} {h₀ : Heap} {L a b : Addr} {news : List (Addr × Obj)} {xs ys : List Value} {ds es : List (Int × Str)} {n k : Nat} {Q : Value → Shared → Prop}
theorem ne_rows (N : News h₀ L s.heap news) (h1 : (a, listOf xs.toArray n) ∈ news) (h2 : (b, listOf ys.toArray k) ∈ news) (r1 : RowsAre news xs ds) (r2 : RowsAre news ys es) (hu : A.units + 64 < cLine) (h : Q (.bool (!decide (ds = es))) s) :
    wpAny (model prog w) A (compareOp .NotEq (.ref a) (.ref b)) Q E s := by
  obtain ⟨as, ra⟩ := r1.reads N
  obtain ⟨bs, rb⟩ := r2.reads N
  refine ne_dataH (reads_list_at (N _ h1).1 rfl rfl ra) (reads_list_at (N _ h2).1 rfl rfl rb) (rows_shaped r1.ok) (rows_shaped r2.ok) hu ?_
  show Q (.bool (!PyData.eqvAll (ds.map rowD) (es.map rowD))) s
  rw [rows_eqv]
  exact h
theorem ne_rowsS (N : News h₀ L s.heap news) (h1 : (a, listOf xs.toArray n) ∈ news) (h2 : (b, listOf ys.toArray k) ∈ news) (r1 : RowsAre news xs ds) (r2 : RowsAre news ys ds) (hu : A.units + 64 < cLine) (h : Q (.bool false) s) :
    wpAny (model prog w) A (compareOp .NotEq (.ref a) (.ref b)) Q E s := ne_rows N h1 h2 r1 r2 hu (by simpa using h)
theorem eq_intsN {ps qs : List Int} (N : News h₀ L s.heap news) (h1 : (a, listOf xs.toArray n) ∈ news) (h2 : (b, listOf ys.toArray k) ∈ news) (r1 : IntsAre xs ps) (r2 : IntsAre ys qs) (hu : A.units + 64 < cLine) (h : Q (.bool (decide (ps = qs))) s) :
    wpAny (model prog w) A (compareOp .Eq (.ref a) (.ref b)) Q E s :=
  ke_eq_ints (PySem.IsL.isList (n := n) (N _ h1).1) (PySem.IsL.isList (n := k) (N _ h2).1) r1 r2 hu h
theorem eq_intsS {ps : List Int} (N : News h₀ L s.heap news) (h1 : (a, listOf xs.toArray n) ∈ news) (h2 : (b, listOf ys.toArray k) ∈ news) (r1 : IntsAre xs ps) (r2 : IntsAre ys ps) (hu : A.units + 64 < cLine) (h : Q (.bool true) s) :
    wpAny (model prog w) A (compareOp .Eq (.ref a) (.ref b)) Q E s := eq_intsN N h1 h2 r1 r2 hu (by simpa using h)
end
/-! kids -/
/-- an element's operand -/
structure Kid where
  (x : Addr) (pl : Int) (op f : Str) (vx : Value) (v : Option Int)
structure Kid.Ok (news : List (Addr × Obj)) (k : Kid) : Prop where
  node : ∃ ty kl, NodeF news k.x k.op k.pl ty kl k.vx ∧ TyF news ty k.f
  sv : SideV k.op k.f k.vx k.v
theorem Kid.Ok.mono {news news' : List (Addr × Obj)} {k : Kid} (h : k.Ok news) (hs : ∀ p ∈ news, p ∈ news') : k.Ok news' := ⟨let ⟨ty, kl, a, b⟩ := h.node; ⟨ty, kl, a.mono hs, b.mono hs⟩, h.sv⟩
abbrev Kid.code (k : Kid) : Str := kidCode k.f k.v
abbrev refs (ks : List Kid) : List Value := ks.map fun k => Value.ref k.x
abbrev Elem := Addr × List Kid
structure ElemOk (news : List (Addr × Obj)) (e : Elem) : Prop where
  node : ∃ op pl ty kl n val, NodeF news e.1 op pl ty kl val ∧ (kl, listOf (refs e.2).toArray n) ∈ news
  kids : ∀ k ∈ e.2, k.Ok news
  len : e.2.length = 1 ∨ e.2.length = 2
theorem ElemOk.mono {news news' : List (Addr × Obj)} {e : Elem} (h : ElemOk news e) (hs : ∀ p ∈ news, p ∈ news') : ElemOk news' e :=
  ⟨let ⟨op, pl, ty, kl, n, val, a, b⟩ := h.node; ⟨op, pl, ty, kl, n, val, a.mono hs, hs _ b⟩, fun k hk => (h.kids k hk).mono hs, h.len⟩
def rowOf (k : Kid) : List (Int × Str) := if k.code == Str.ofString "" then [] else [(k.pl, k.code)]
def rowsOf (ks : List Kid) : List (Int × Str) := ks.flatMap rowOf
theorem rowsOf_app (a b : List Kid) : rowsOf (a ++ b) = rowsOf a ++ rowsOf b := List.flatMap_append
theorem rowsOf_one (k : Kid) : rowsOf [k] = rowOf k := by simp [rowsOf]
theorem rowOf_ok {k : Kid} (h : (k.code == Str.ofString "") = true) : rowOf k = [] := by unfold rowOf; rw [if_pos h]
theorem rowOf_bad {k : Kid} (h : (k.code == Str.ofString "") = false) : rowOf k = [(k.pl, k.code)] := by unfold rowOf; rw [if_neg (by simp [h])]
theorem rowsOf_len (ks : List Kid) : (rowsOf ks).length ≤ ks.length := by
  induction ks with
  | nil => exact Nat.le_refl _
  | cons k r ih =>
    have e : rowsOf (k :: r) = rowOf k ++ rowsOf r := by simp [rowsOf]
    have h1 : (rowOf k).length ≤ 1 := by unfold rowOf; split <;> simp
    rw [e, List.length_append, List.length_cons]
    omega
theorem rowsOf_pl {ks : List Kid} {p : Int} (h : p ∈ (rowsOf ks).map (·.1)) : ∃ k ∈ ks, k.pl = p := by
  simp only [rowsOf, List.mem_map, List.mem_flatMap] at h
  obtain ⟨d, ⟨k, hk, hd⟩, rfl⟩ := h
  refine ⟨k, hk, ?_⟩
  unfold rowOf at hd
  split at hd
  · cases hd
  · rw [List.mem_singleton.mp hd]
/-- the places of all operands, one after the other -/
def Ups (ks : List Kid) : Prop := ks.Pairwise fun a b => a.pl < b.pl
theorem ups_fresh {all D r : List Kid} {k : Kid} (h : Ups all) (e : all = D ++ k :: r) : k.pl ∉ (rowsOf D).map (·.1) := by
  intro hm
  obtain ⟨d, hd, hp⟩ := rowsOf_pl hm
  subst e
  have h2 := (List.pairwise_append.mp h).2.2 d hd k (.head _)
  omega
/-- the operand is sound -/
theorem kid_sound {k : Kid} (h : (k.code == Str.ofString "") = true) : isI k.f = true ∧ ∀ a, k.v = some a → 0 ≤ a ∧ a ≤ 31 := by
  have e := beq_iff_eq.mp h
  unfold Kid.code kidCode at e
  by_cases h1 : isI k.f = true
  · refine ⟨h1, fun a ha => ?_⟩
    rw [if_pos h1, ha] at e
    dsimp only at e
    by_cases h2 : a < 0
    · rw [if_pos h2] at e; exact absurd e (by decide)
    · rw [if_neg h2] at e
      by_cases h3 : 31 < a
      · rw [if_pos h3] at e; exact absurd e (by decide)
      · omega
  · rw [if_neg h1] at e; exact absurd e (by decide)
theorem rowsOf_nil {ks : List Kid} (h : rowsOf ks = []) : ∀ k ∈ ks, (k.code == Str.ofString "") = true := by
  intro k hk
  have h2 : rowOf k = [] := by
    have h3 := List.flatMap_eq_nil_iff.mp h
    exact h3 k hk
  unfold rowOf at h2
  split at h2
  · assumption
  · cases h2
def lowOf (ks : List Kid) : Option Int := ks.head?.bind (·.v)
def highOf (ks : List Kid) : Option Int := ks.getLast?.bind (·.v)
/-- what constant_mask answers of sound operands -/
def cmOf (ks : List Kid) : Int := match lowOf ks, highOf ks with
  | some a, some b => rangeM a b
  | _, _ => -1
/-! pool -/
theorem reg53 : True := by
  w_top off
  k_with_none
  (k_with "subscriptTail" => ((k_here; (with_reducible show wpAny _ _ (subscriptTail _ _ (Value.ref _) (Value.int _ _)) _ _ _); k_dflt (refine' itemN ?k1_308 ?k2_308 ?k3_308 ?k4_308 ?k5_308 ?_ ?k6_308; (case k1_308 => k_asm); (case k2_308 => k_mem); (case k3_308 => decide); (case k4_308 => decide); (case k5_308 => rfl); (case k6_308 => with_unfolding_all rfl); k_whole))))
  (k_with "subscriptTail" => ((k_here; (with_reducible show wpAny _ _ (subscriptTail _ _ (Value.ref _) (Value.int _ _)) _ _ _); k_dflt (refine' itemT ?k1_309 ?k2_309 ?k3_309 ?k4_309 ?k5_309 ?_ ?k6_309; (case k1_309 => k_asm); (case k2_309 => k_mem); (case k3_309 => decide); (case k4_309 => decide); (case k5_309 => rfl); (case k6_309 => with_unfolding_all rfl); k_whole))))
  (k_with "subscriptTail Name Constant ref int" => ((k_here; k_dflt (first | (refine' itemT ?k1_310 ?k2_310 ?k3_310 ?k4_310 ?k5_310 ?_ ?k6_310; (case k1_310 => k_asm); (case k2_310 => k_mem); (case k3_310 => decide); (case k4_310 => decide); (case k5_310 => rfl); (case k6_310 => with_unfolding_all rfl); k_whole) | (refine' itemN ?k1_310 ?k2_310 ?k3_310 ?k4_310 ?k5_310 ?_ ?k6_310; (case k1_310 => k_asm); (case k2_310 => k_mem); (case k3_310 => decide); (case k4_310 => decide); (case k5_310 => rfl); (case k6_310 => with_unfolding_all rfl); k_whole)))))
  (k_with "getItem ref int" => ((k_here; k_dflt (refine' getN ?k1_311 ?k2_311 ?k3_311 ?k4_311 ?k5_311 ?_; (case k1_311 => k_asm); (case k2_311 => k_mem); (case k3_311 => decide); (case k4_311 => decide); (case k5_311 => rfl); k_whole))))
  (k_with "call builtin:len" => ((k_here; (with_reducible show wpAny _ _ (call (Value.builtin "len") [Value.ref _]) _ _ _); k_dflt (refine' kst_len ?k1_312 ?k2_312 ?k3_312 ?k4_312 ?_; (case k1_312 => k_asm); (case k2_312 => k_mem); (case k3_312 => first | exact IntsAre.length (by assumption) | assumption); (case k4_312 => omega); k_whole))))
  (k_with "X k_updF" => (with_reducible assumption))
  (k_with "X k_upd" => (exact UpdF.toUpd (by assumption) _))
  (k_with "X k_mem" => (exact UpdF.mem (by assumption)))
  (k_with "X k_mem" => (exact UpdF.mem' (by assumption) _))
  (k_with "X k_enter" => ((refine' code_def ?k1_317 ?k2_317 ?k3_317 ?k4_317 ?k5_317 ?kA_317 ?kF_317 ?kK_317 ?k6_317 ?k7_317 ?k8_317 ?k9_317 ?kB_317 ?_ ?c2_317 ?c3_317 ?c4_317 ?c5_317; (case kA_317 => exact rfl); (case kF_317 => exact rfl); (case kK_317 => first | exact rfl | assumption); (case k1_317 => k_asm); (case k2_317 => k_asm); (case k3_317 => k_asm); (case k4_317 => k_asm); (case k5_317 => k_asm); (case k6_317 => k_is); (case k7_317 => k_is); (case k8_317 => ktr_room); (case k9_317 => first | exact BindsTo.of_eq rfl | exact binds_K (by k_in) rfl (by k_is) rfl rfl rfl | fail "k_enter: no rule for these arguments"); (case c5_317 => decide); (case kB_317 => exact locs rfl); (case c2_317 => exact rfl); (case c3_317 => exact rfl); (case c4_317 => exact rfl); k_whole; intro g' L' h' FG' F' N' B' X' T'; (try dsimp only); (try k_lift B'); (try k_fold))))
  (k_with "X k_room" => (ktr_room))
  (k_with "X k_units" => (ktr_units))
  (k_with "getAttr ref" => ((k_here; k_dflt (first
  | refine' get_has ?k1_320 ?k2_320 ?k3_320 ?k4_320 ?k5_320 ?k6_320 ?k7_320 ?k8_320 ?k9_320 ?_; (case k1_320 => k_asm); (case k2_320 => k_asm); (case k3_320 => k_asm); (case k4_320 => with_reducible assumption); (case k5_320 => first | exact fun _ h => h | (intro p hp; repeat (first | exact hp | apply List.mem_cons_of_mem))); (case k6_320 => k_is); (case k7_320 => k_is); (case k8_320 => k_is); (case k9_320 => k_is); k_whole
  | refine' get_has2 ?k1_320 ?k2_320 ?k3_320 ?k4_320 ?k5_320 ?k6_320 ?k7_320 ?k8_320 ?k9_320 ?_; (case k1_320 => k_asm); (case k2_320 => k_asm); (case k3_320 => k_asm); (case k4_320 => with_reducible assumption); (case k5_320 => first | exact fun _ h => h | (intro p hp; repeat (first | exact hp | apply List.mem_cons_of_mem))); (case k6_320 => k_is); (case k7_320 => k_is); (case k8_320 => k_is); (case k9_320 => k_is); k_whole))))
  (k_with "X size_fits" => ((simp only [List.size_toArray, PySem.sizeLine_eq]; omega)))
  (k_with "binaryOp FloorDiv int int" => ((refine floordiv_int ?_ ?_ (Or.inl (noPy (by omega))); first | decide | omega)))
  (k_with "MINE sub" => (first | exact fun _ h => h | (intro p hp; repeat (first | exact hp | apply List.mem_cons_of_mem))))
  (k_with "MINE subxy" => ((intro x y p hp; repeat (first | exact hp | apply List.mem_cons_of_mem))))
  (k_with "X ktr_units" => (first | k_dflt (first | exact far2 (by with_reducible assumption) (by decide) | exact far1 (by with_reducible assumption) (by decide)) | (have hcL9 := cLine_is; ((try simp only [units_under_make, units_in1, units_deeper, Around.mark_units, units_caller]); (try dsimp only [ktrTop]); omega))))
  (k_with "X ktr_room" => (first | k_dflt (first | exact far2 (by with_reducible assumption) (by decide) | exact far1 (by with_reducible assumption) (by decide)) | ((with_reducible refine room_make ?_); k_dflt (first | exact far2 (by with_reducible assumption) (by decide) | exact far3 (by with_reducible assumption) (by decide) | exact far1 (by with_reducible assumption) (by decide)))))
  (k_with "X k_all" => (k_dflt exact ne_allLt (by assumption)))
  (k_with "MINE ar" => (with_reducible (first | assumption | exact aN1 (by assumption) | exact aN2 (by assumption) | exact aN3 (by assumption) | exact aN4 (by assumption) | exact aN5 (by assumption) | exact aN6 (by assumption) | exact aN7 (by assumption) | exact aN8 (by assumption) | exact aN9 (by assumption) | exact aN10 (by assumption) | exact aN11 (by assumption) | exact aN12 (by assumption))))
  (k_with "X omega" => (first | with_reducible assumption | (with_reducible refine Nat.ne_of_gt ?_; walk_at "MINE ar") | (with_reducible refine Nat.ne_of_lt ?_; walk_at "MINE ar") | ((with_reducible show @Ne Nat _ _); first | with_reducible exact Ne.symm (by assumption) | walk_at "MINE ar" | (with_reducible refine Ne.symm ?_; walk_at "MINE ar") | (with_reducible refine ne_tr (by assumption) ?_; walk_at "MINE ar")) | ((with_reducible show @LT.lt Nat _ _ _); with_reducible (first | exact far1 (by assumption) (by decide) | exact far2 (by assumption) (by decide) | exact far3 (by assumption) (by decide) | exact far0 (by assumption) | walk_at "MINE ar")) | ((with_reducible show @LE.le Nat _ _ _); with_reducible exact Nat.le_trans (by assumption) (by decide)) | ((with_reducible show @LT.lt Int _ _ _); with_reducible (first | exact Int.lt_of_lt_of_le (by assumption) (by decide) | exact int_ll (by assumption) (by decide))) | ((with_reducible show @LE.le Int _ _ _); with_reducible (first | exact Int.le_refl _ | exact i_le1 _ | exact Int.le_trans (by assumption) (by decide))) | decide))
  (k_with "MINE step" => ((first | (k_unfold; (try dsimp only)) | (k_end; wrow_close) | walk1 | (dsimp only; walk1) | (leave1; try dsimp only) | fail "no step")))
  (k_with "X k_mem" => (exact mem_of (by with_reducible assumption)))
  (k_with "ite" => (((with_reducible show (if (_ == Str.ofString _) = true then _ else _)); first | (refine ite_pos (by with_reducible assumption) ?_) | (refine ite_strF (by with_reducible assumption) ?_) | (refine ite_strF (str_ne (by with_reducible assumption) (by decide)) ?_))))
  (k_with "ite" => (((with_reducible show (if (_ != Str.ofString _) = true then _ else _)); first | (refine ite_pos (by with_reducible assumption) ?_) | (refine ite_strneF (by with_reducible assumption) ?_) | (refine ite_strneF (str_ne (by with_reducible assumption) (by decide)) ?_))))
  (k_with "MINE look" => ((repeat (first | with_reducible exact lk_hd | with_reducible exact if_hd | with_reducible refine lk_tl (by decide) ?_ | with_reducible refine if_tl (by decide) ?_))))
  (k_with "eval Name" => ((k_here; (fail_if_success (with_reducible show wpAny _ _ (eval _ (compEnvC _ _ _ _)) _ _ _)); k_dflt (first | (refine' nameQ ?F_335 ?v_335 ?_ ?k_335 ?a_335 ?b_335; (case k_335 => rfl); (case a_335 => decide); (case b_335 => decide); (case F_335 => k_asm); (case v_335 => walk_at "MINE look"); k_whole) | (refine' nameQK ?F_335 ?X_335 ?T_335 ?e_335 ?_ ?k_335 ?a_335 ?b_335; (case k_335 => rfl); (case a_335 => decide); (case b_335 => decide); (case F_335 => k_asm); (case X_335 => k_asm); (case T_335 => k_asm); (case e_335 => k_is); k_whole)))))
  (k_with "ite" => (first | with_reducible refine i_tt ?_ | with_reducible refine i_ff ?_ | with_reducible refine i_True ?_ | with_reducible refine i_False ?_ | with_reducible refine i_not ?_))
  (k_with "X k_enter" => ((refine' code_pos ?k1_337 ?k2_337 ?k3_337 ?k4_337 ?k5_337 ?kA_337 ?kF_337 ?kK_337 ?k6_337 ?k7_337 ?k8_337 ?k9_337 ?kB_337 ?_ ?c2_337 ?c3_337 ?c4_337 ?c5_337; (case kA_337 => exact rfl); (case kF_337 => exact rfl); (case kK_337 => first | exact rfl | assumption); (case k1_337 => k_asm); (case k2_337 => k_asm); (case k3_337 => k_asm); (case k4_337 => k_asm); (case k5_337 => k_asm); (case k6_337 => k_is); (case k7_337 => k_is); (case k8_337 => ktr_room); (case k9_337 => exact BindsTo.of_eq rfl); (case c5_337 => decide); (case kB_337 => exact locs rfl); (case c2_337 => exact rfl); (case c3_337 => exact rfl); (case c4_337 => exact rfl); k_whole; intro g' L' h' FG' F' N' B' X' T'; (try simp only [zipB, List.reverse_cons, List.reverse_nil, List.nil_append, List.cons_append] at F'); (try dsimp only); (try k_lift B'); (try k_fold))))
  (k_with "ite" => ((k_closed; first | with_reducible refine i_pos (by decide) ?_ | with_reducible refine i_neg (by decide) ?_)))
  (k_with "getItem ref str" => ((k_here; k_dflt (refine' getS ?k1_339 ?k2_339 ?_; (case k1_339 => k_tabat); (case k2_339 => (repeat (first | with_reducible exact lookD_hd | with_reducible refine lookD_tl (by decide) ?_ | with_reducible exact lookS_hd | with_reducible refine lookS_tl (by decide) ?_))); k_whole); intro _)))
  (k_with "MINE ga" => (first | exact Ga.has (by k_asm) (by k_asm) (by k_asm) (by with_reducible assumption) (by walk_at "MINE sub") (by k_is) (by k_is) (by k_is) (by k_is) | exact Ga.has2 (by k_asm) (by k_asm) (by k_asm) (by with_reducible assumption) (by walk_at "MINE sub") (by k_is) (by k_is) (by k_is) (by k_is) | exact Ga.own (by k_asm) (by k_asm) (by k_asm) (by k_mem) (by k_mem) (by k_is) (by k_is) (by k_is) (by k_is) (by k_get) (by k_handed)))
  (k_with "MINE tmem" => (first | with_reducible assumption | with_reducible exact List.mem_cons_self | (with_reducible refine List.mem_cons_of_mem _ ?_; walk_at "MINE tmem") | (with_reducible refine List.mem_append_right _ ?_; walk_at "MINE tmem")))
  (k_with "MINE ev" => (first | ((with_reducible show Ev _ _ _ _ _ (Expr.Name _ _) _ _); (fail_if_success (with_reducible show Ev _ _ (compEnvC _ _ _ _) _ _ _ _ _)); exact Ev.name (by k_asm) (by walk_at "MINE look") rfl (by decide) (by decide)) | ((with_reducible show Ev _ _ _ _ _ (Expr.Attribute _ _ _) _ _); exact Ev.attr (by walk_at "MINE ev") (by walk_at "MINE ga") (by with_unfolding_all rfl)) | with_reducible exact Ev.str | with_reducible exact Ev.int | with_reducible exact Ev.none | ((with_reducible show Ev _ _ _ _ _ (Expr.Subscript _ (Expr.Constant _ _ _) _) _ _); first | exact Ev.itemT (by walk_at "MINE ev") (by k_asm) (by walk_at "MINE tmem") (by decide) (by decide) (by first | with_reducible exact it0 | with_reducible exact it1 | with_reducible exact it2 | rfl) | exact Ev.itemL (by walk_at "MINE ev") (by k_asm) (by walk_at "MINE tmem") (by decide) (by decide) (by first | with_reducible exact it0 | with_reducible exact it1 | with_reducible exact it2 | rfl))))
  (k_with "MINE vs" => (first | ((with_reducible show Vs _ _ _ _ _ (_ :: _) _ _ _); exact Vs.cons (by walk_at "MINE ev") rfl (by walk_at "MINE vs")) | with_reducible exact Vs.nil))
  (k_with "MINE vp" => (first | ((with_reducible show Vs _ _ _ _ _ (_ :: _) _ _ _); exact Vs.cons (by walk_at "MINE ev") rfl (by walk_at "MINE vp")) | with_reducible exact Vs.nil))
  (k_with "spliced" => ((k_here; (with_reducible show wpAny _ _ (spliced (backTo _ (starEach (_ :: _) _))) _ _ _); k_dflt (first | ((with_reducible refine' args_all ?s_345 ?V_345 ?_); (case s_345 => exact rfl); (case V_345 => walk_at "MINE vs"); k_whole) | ((with_reducible refine' args_ev ?s_345 ?V_345 ?_); (case s_345 => exact rfl); (case V_345 => ((with_reducible show Vs _ _ _ _ _ (_ :: _) _ _ _); exact Vs.cons (by walk_at "MINE ev") rfl (by walk_at "MINE vp"))); k_whole)))))
  (k_with "eval Call" => ((k_here; (fail_if_success (with_reducible show wpAny _ _ (eval _ (compEnvC _ _ _ _)) _ _ _)); k_dflt (refine' call_ev ?F_346 ?X_346 ?T_346 ?e_346 ?k_346 ?a_346 ?b_346 ?f_346 ?c_346 ?s_346 ?V_346 ?_; (case s_346 => exact rfl); (case k_346 => rfl); (case a_346 => decide); (case b_346 => decide); (case F_346 => k_asm); (case X_346 => k_asm); (case T_346 => k_asm); (case e_346 => k_is); (case c_346 => exact rfl); (case f_346 => k_is); (case V_346 => walk_at "MINE vs"); k_whole))))
  (k_with "isTrue Compare" => ((k_here; first | ((with_reducible show wpAny _ _ (isTrue (Expr.Compare _ [CmpOp.Eq] [_] _) _ _) _ _ _); k_dflt (refine' ev_eqs ?s_347 ?x_347 ?y_347 ?m_347 ?_; (case s_347 => exact rfl); (case m_347 => with_unfolding_all rfl); (case x_347 => walk_at "MINE ev"); (case y_347 => walk_at "MINE ev"); k_whole)) | ((with_reducible show wpAny _ _ (isTrue (Expr.Compare _ [CmpOp.NotEq] [_] _) _ _) _ _ _); k_dflt (refine' ev_nes ?s_347 ?x_347 ?y_347 ?m_347 ?_; (case s_347 => exact rfl); (case m_347 => with_unfolding_all rfl); (case x_347 => walk_at "MINE ev"); (case y_347 => walk_at "MINE ev"); k_whole)) | ((with_reducible show wpAny _ _ (isTrue (Expr.Compare _ [CmpOp.In] [Expr.List _ _] _) _ _) _ _ _); k_dflt (refine' ev_inL ?s_347 ?e_347 ?z_347 ?m_347 ?F_347 ?N_347 ?x_347 ?_; (case s_347 => exact rfl); (case e_347 => exact rfl); (case z_347 => exact rfl); (case m_347 => with_unfolding_all rfl); (case F_347 => k_asm); (case N_347 => k_asm); (case x_347 => walk_at "MINE ev"); k_whole); intro h' tk' F' N'; (try k_sweep); (try dsimp only)) | ((with_reducible show wpAny _ _ (isTrue (Expr.Compare _ [CmpOp.In] [Expr.Tuple _ _ _] _) _ _) _ _ _); k_dflt (refine' ev_inT ?s_347 ?e_347 ?z_347 ?m_347 ?F_347 ?N_347 ?x_347 ?_; (case s_347 => exact rfl); (case e_347 => exact rfl); (case z_347 => exact rfl); (case m_347 => with_unfolding_all rfl); (case F_347 => k_asm); (case N_347 => k_asm); (case x_347 => walk_at "MINE ev"); k_whole); intro h' tk' F' N'; (try k_sweep); (try dsimp only)))))
  (k_with "eval BinOp" => ((k_here; k_dflt (refine' ev_bin ?s_348 ?x_348 ?y_348 ?_; (case s_348 => exact rfl); (case x_348 => walk_at "MINE ev"); (case y_348 => walk_at "MINE ev"); k_whole))))
  (k_with "eval Subscript" => ((k_here; k_dflt (refine' ev_sub ?s_349 ?x_349 ?y_349 ?_; (case s_349 => exact rfl); (case x_349 => walk_at "MINE ev"); (case y_349 => walk_at "MINE ev"); k_whole))))
  (k_with "eval Subscript" => ((k_here; (with_reducible show wpAny _ _ (eval (Expr.Subscript _ (Expr.Constant _ _ _) _) _) _ _ _); k_dflt (refine' ev_use ?s_350 ?x_350 ?_; (case s_350 => exact rfl); (case x_350 => walk_at "MINE ev"); k_whole))))
  (k_with "eval Attribute" => ((k_here; k_dflt (refine' ev_use ?s_351 ?x_351 ?_; (case s_351 => exact rfl); (case x_351 => walk_at "MINE ev"); k_whole))))
  (k_with "exec Return" => ((k_here; k_dflt (refine' ev_ret ?s_352 ?x_352 ?_; (case s_352 => exact rfl); (case x_352 => walk_at "MINE ev"); k_whole))))
  (k_with "storeName" => ((k_here; k_dflt (refine' storeE ?F_353 ?N_353 ?a_353 ?b_353 ?_; (case a_353 => rfl); (case b_353 => decide); (case F_353 => k_asm); (case N_353 => k_asm); k_whole); intro h' tk' F' N'; (try k_sweep))))
  (k_with "newList" => ((k_here; k_dflt (refine' newListE ?F_354 ?N_354 ?z_354 ?_; (case F_354 => k_asm); (case N_354 => k_asm); (case z_354 => size_fits); k_whole); intro l' h' F' N' l1; (try k_lt l1); (try k_sweep))))
  (k_with "newTuple" => ((k_here; kup_bare; k_dflt (refine' newTupleE ?F_355 ?N_355 ?z_355 ?_; (case F_355 => k_asm); (case N_355 => k_asm); (case z_355 => kmk_size); k_whole); intro D' h' F' N' l1; (try k_lt l1); (try k_sweep))))
  (k_with "call builtin:list.append" => ((k_here; (with_reducible show wpAny _ _ (call (Value.builtin _) [Value.ref _, _]) _ _ _); k_dflt (refine' appendE ?F_356 ?N_356 ?U_356 ?z_356 ?_; (case F_356 => k_asm); (case N_356 => k_asm); (case U_356 => k_upd); (case z_356 => size_fits); k_whole); intro h' F' N'; (try k_sweep))))
  (k_with "setAttr ref" => ((k_here; k_dflt (refine' setE ?F_357 ?X_357 ?N_357 ?i_357 ?j_357 ?k6_357 ?k7_357 ?k8_357 ?k9_357 ?k10_357 ?k11_357 ?k12_357 ?k13_357 ?_; (case F_357 => k_asm); (case X_357 => k_asm); (case N_357 => k_asm); (case i_357 => k_mem); (case j_357 => k_mem); (case k6_357 => k_is); (case k7_357 => k_is); (case k8_357 => k_is); (case k9_357 => k_is); (case k10_357 => k_get); (case k11_357 => k_put); (case k12_357 => k_upd); (case k13_357 => exact rfl); k_whole); intro h' tk' F' N'; (try k_sweep))))
  (k_with "LeaveK" => ((k_dflt (refine' leaveE ?F_358 ?N_358 ?_; (case F_358 => k_asm); (case N_358 => k_asm); k_whole); intro kF kN; (try dsimp only [InitBack]); (try refine ⟨rfl, ?_⟩))))
  (k_with "X k_enter" => ((refine' codeE ?k1_359 ?k2_359 ?k3_359 ?k4_359 ?k5_359 ?kA_359 ?kF_359 ?kK_359 ?k6_359 ?k7_359 ?k8_359 ?k9_359 ?kB_359 ?c2_359 ?c3_359 ?c4_359 ?c5_359 ?_; (case kA_359 => exact rfl); (case kF_359 => exact rfl); (case kK_359 => first | exact rfl | assumption); (case k1_359 => k_asm); (case k2_359 => k_asm); (case k3_359 => k_asm); (case k4_359 => k_asm); (case k5_359 => k_asm); (case k6_359 => k_is); (case k7_359 => k_is); (case k8_359 => ktr_room); (case k9_359 => exact BindsTo.of_eq rfl); (case c5_359 => decide); (case kB_359 => exact locs rfl); (case c2_359 => exact rfl); (case c3_359 => exact rfl); (case c4_359 => exact rfl); k_whole; intro g' L' h' tk' FG' F' N' B' X' T' nK aK; (try dsimp only [zipB, List.reverse, List.reverseAux] at F'); (try k_lift B'); (try k_fold))))
  (k_with "execs cons" => (first | with_reducible refine seq_if ?_ | with_reducible refine seq_cons ?_))
  (k_with "SeqK" => (first | with_reducible refine seq_end ?_ | with_reducible refine seq_next ?_ | with_reducible refine seq_ret ?_ | with_reducible refine seq_brk ?_ | with_reducible refine seq_cont ?_))
  (k_with "IfK" => (with_reducible refine ifK_open ?_))
  (k_with "AndK" => (with_reducible refine andK_open ?_))
  (k_with "OrK" => (with_reducible refine orK_open ?_))
  (k_with "exec If" => (with_reducible refine if_k ?_))
  (k_with "isTrue BoolOp" => (first | with_reducible refine and_k ?_ | with_reducible refine or_k ?_))
  (k_with "BackK" => ((k_dflt (first | (refine' backQ ?F_367 ?N_367 ?_; (case F_367 => k_asm); (case N_367 => k_asm); k_whole) | (refine' backN ?F_367 ?N_367 ?_; (case F_367 => k_asm); (case N_367 => k_asm); k_whole) | (refine' backR ?F_367 ?N_367 ?_; (case F_367 => k_asm); (case N_367 => k_asm); k_whole) | (refine' backRN ?F_367 ?N_367 ?_; (case F_367 => k_asm); (case N_367 => k_asm); k_whole)); intro kF kN; (try dsimp only [InitBack]); (try refine ⟨rfl, ?_⟩))))
  (k_with "compareOp In" => ((k_here; (with_reducible show wpAny _ _ (compareOp CmpOp.In Value.none (Value.ref _)) _ _ _); k_dflt (refine' in_none ?k1_368 ?k2_368 ?k3_368 ?k4_368 ?k5_368 ?_ ?_; (case k1_368 => k_asm); (case k2_368 => k_mem); (case k3_368 => assumption); (case k4_368 => assumption); (case k5_368 => ktr_units)); (intro hn; (try dsimp only)); rotate_left; (intro x' t' y' u' e1 e2 e3 e4; cases e1; (try cases e2); (try cases e3); (try cases e4); (try dsimp only)); rotate_left)))
  (k_with "compareOp IsNot" => ((k_here; (with_reducible show wpAny _ _ (compareOp CmpOp.IsNot _ Value.none) _ _ _); k_dflt (refine' isNot_none ?k3_369 ?_ ?_; (case k3_369 => assumption)); (intro e1 e2; subst e1 e2; (try dsimp only)); rotate_left; (intro x' t' e1 e2; subst e1 e2; (try dsimp only)); rotate_left)))
  (k_with "compareOp Is" => ((k_here; (with_reducible show wpAny _ _ (compareOp CmpOp.Is _ Value.none) _ _ _); k_dflt (refine' is_none ?k3_370 ?_ ?_; (case k3_370 => assumption)); (intro e1 e2; subst e1 e2; (try dsimp only)); rotate_left; (intro x' t' e1 e2; subst e1 e2; (try dsimp only)); rotate_left)))
  (k_with "MINE look" => ((repeat (first | with_reducible assumption | with_reducible exact lk_hd | with_reducible exact if_hd | with_reducible refine lk_tl (by decide) ?_ | with_reducible refine if_tl (by decide) ?_))))
  (k_with "MyPost" => ((dsimp only [MyPost])))
  (k_with "loadName" => ((k_here; k_dflt (refine' ldn ?F_373 ?v_373 ?_ ?k_373 ?a_373; (case k_373 => rfl); (case a_373 => rfl); (case F_373 => k_asm); (case v_373 => walk_at "MINE look"); k_whole))))
  (k_with "execs nil" => ((with_reducible refine wpAny_execs_nil ?_)))
  (k_with "CompEnd" => (((rename News _ _ _ _ => nE'); k_dflt (refine LCg.CompEnd.intro (by assumption) nE' _ (fun _ h => h) (by assumption) (by lcg_src) ?_))))
  (k_with "binaryOp Pow int int" => (((with_reducible refine pow_int_small ?_ ?_ ?_ ?_); (first | decide | omega); (first | decide | omega); (decide))))
  (k_with "exec For Name Subscript cons nil" => ((k_here; (with_reducible show wpAny _ _ (exec (Stmt.For (Expr.Name _ _) _ _ [] _) _) _ _ _); k_dflt ((rename Fr _ _ _ _ => lF'); refine' For_invVF lF' ?k1_377 ?k2_377 ?_; (case k1_377 => exact rfl); (case k2_377 => exact rfl); k_whole))))
  (k_with "exec For Name Name cons nil" => ((k_here; (with_reducible show wpAny _ _ (exec (Stmt.For (Expr.Name _ _) _ _ [] _) _) _ _ _); k_dflt ((rename Fr _ _ _ _ => lF'); refine' For_invVF lF' ?k1_378 ?k2_378 ?_; (case k1_378 => exact rfl); (case k2_378 => exact rfl); k_whole))))
  (k_with "exec For Name Attribute cons nil" => ((k_here; (with_reducible show wpAny _ _ (exec (Stmt.For (Expr.Name _ _) _ _ [] _) _) _ _ _); k_dflt ((rename Fr _ _ _ _ => lF'); refine' For_invVF lF' ?k1_379 ?k2_379 ?_; (case k1_379 => exact rfl); (case k2_379 => exact rfl); k_whole))))
  (k_with "exec For Name Call cons nil" => ((k_here; (with_reducible show wpAny _ _ (exec (Stmt.For (Expr.Name _ _) _ _ [] _) _) _ _ _); k_dflt ((rename Fr _ _ _ _ => lF'); refine' For_invVF lF' ?k1_380 ?k2_380 ?_; (case k1_380 => exact rfl); (case k2_380 => exact rfl); k_whole))))
  (k_with "call ref" => ((k_here; (with_reducible show wpAny _ _ (call (Value.ref 303) _) _ _ _); k_dflt (refine' pick_ct _ _ _ _ ?k1_381 ?k2_381 ?k3_381 ?k4_381 ?k5_381 ?kK_381 ?kd_381 ?ku_381 ?p0_381 ?p1_381 ?p2_381 ?p3_381 ?p4_381 ?p5_381 ?p6_381 ?p7_381 ?p8_381 ?p9_381 ?_; (case k1_381 => k_asm); (case k2_381 => k_asm); (case k3_381 => k_asm); (case k4_381 => k_asm); (case k5_381 => k_asm); (case kK_381 => first | exact rfl | assumption); (case kd_381 => ktr_room); (case ku_381 => ktr_units); (case p0_381 => k_updF); (case p1_381 => k_mem); (case p2_381 => assumption); (case p3_381 => omega); (case p4_381 => omega); (case p5_381 => omega); (case p6_381 => omega); (case p7_381 => omega); (case p8_381 => decide); (case p9_381 => decide)); intro r' t' i' ti' mx' tm' h' tk' F' N' r1 r2 i1 i2 m1 m2; (try dsimp only at N'); (try k_sweep); (try dsimp only); (try k_fold))))
  (k_with "call ref" => ((k_here; (with_reducible show wpAny _ _ (call (Value.ref 88) [_, _, _, _, _]) _ _ _); k_dflt (refine' node_ct _ _ _ _ ?k1_382 ?k2_382 ?k3_382 ?k4_382 ?k5_382 ?kK_382 ?kd_382 ?ku_382  ?_; (case k1_382 => k_asm); (case k2_382 => k_asm); (case k3_382 => k_asm); (case k4_382 => k_asm); (case k5_382 => k_asm); (case kK_382 => first | exact rfl | assumption); (case kd_382 => ktr_room); (case ku_382 => ktr_units)); intro x' d' t1 t2 t3 t4 t5 t6 h' tk' F' N' l1 l2; (try k_lt l1); (try k_lt2 l2); (try k_sweep); (try dsimp only); (try k_fold))))
  (k_with "call ref" => ((k_here; (with_reducible show wpAny _ _ (call (Value.ref 88) [_, _, _, _]) _ _ _); k_dflt (refine' node4_ct _ _ _ _ ?k1_383 ?k2_383 ?k3_383 ?k4_383 ?k5_383 ?kK_383 ?kd_383 ?ku_383  ?_; (case k1_383 => k_asm); (case k2_383 => k_asm); (case k3_383 => k_asm); (case k4_383 => k_asm); (case k5_383 => k_asm); (case kK_383 => first | exact rfl | assumption); (case kd_383 => ktr_room); (case ku_383 => ktr_units)); intro x' d' tq1 tq2 tq3 tq4 tq5 tq6 h' tk' F' N' l1 l2; (try k_lt l1); (try k_lt2 l2); (try k_sweep); (try dsimp only); (try k_fold))))
  (k_with "call ref" => ((k_here; (with_reducible show wpAny _ _ (call (Value.ref 99) _) _ _ _); k_dflt (refine' const_ct _ _ _ _ ?k1_384 ?k2_384 ?k3_384 ?k4_384 ?k5_384 ?kK_384 ?kd_384 ?ku_384  ?_; (case k1_384 => k_asm); (case k2_384 => k_asm); (case k3_384 => k_asm); (case k4_384 => k_asm); (case k5_384 => k_asm); (case kK_384 => first | exact rfl | assumption); (case kd_384 => ktr_room); (case ku_384 => ktr_units)); intro x' d' l' t0 t1 t2 t3 t4 t5 t6 h' tk' F' N' l1 l2 l3; (try k_lt l1); (try k_lt2 l2); (try k_lt2 l3); (try k_sweep); (try dsimp only); (try k_fold))))
  (k_with "X k_upd" => (exact upd_over (by assumption) _ (by assumption)))
  (k_with "X k_upd" => (exact Slots2.ua (by assumption) _))
  (k_with "X k_updF" => (exact Slots2.fb (by assumption)))
  (k_with "X k_mem" => (exact Slots2.mb (by assumption)))
  (k_with "X k_mem" => (exact Slots2.ma (by assumption)))
  (k_with "compareOp NotIn int ref" => ((k_here; k_dflt (refine' pl_notin ?k1_390 ?k2_390 ?k3_390 ?k4_390 ?k5_390 ?_; (case k1_390 => k_asm); (case k2_390 => k_mem); (case k3_390 => assumption); (case k4_390 => assumption); (case k5_390 => assumption)))))
  (k_with "setItem ref int" => ((k_here; k_dflt (refine' pl_set ?v_391 ?F_391 ?N_391 ?U_391 ?d_391 ?p_391 ?z_391 ?_; (case F_391 => k_asm); (case N_391 => k_asm); (case U_391 => k_updF); (case d_391 => assumption); (case p_391 => assumption); (case z_391 => assumption); (case v_391 => k_flat)); intro h' o' F' N' hd'; (try dsimp only at N'); (try k_sweep))))
  (k_with "call ref" => ((k_here; (with_reducible show wpAny _ _ (call (Value.ref 190) _) _ _ _); k_dflt (refine' mark_ct _ _ _ _ ?k1_392 ?k2_392 ?k3_392 ?k4_392 ?k5_392 ?kK_392 ?kd_392 ?ku_392 ?p0_392 ?p1_392 ?p2_392 ?p3_392 ?p4_392 ?p5_392 ?p6_392 ?_; (case k1_392 => k_asm); (case k2_392 => k_asm); (case k3_392 => k_asm); (case k4_392 => k_asm); (case k5_392 => k_asm); (case kK_392 => first | exact rfl | assumption); (case kd_392 => ktr_room); (case ku_392 => ktr_units); (case p0_392 => k_updF); (case p1_392 => assumption); (case p2_392 => assumption); (case p3_392 => assumption); (case p4_392 => assumption); (case p5_392 => first | assumption | omega); (case p6_392 => first | assumption | omega)); intro r' od' h' tk' F' N' hpl' l1; (try dsimp only at N'); (try k_lt l1); (try k_sweep); (try dsimp only); (try k_fold))))
  (k_with "getMethod ref" => ((k_here; (with_reducible show wpAny _ _ (getMethod _ (Str.ofString "mark") _) _ _ _); k_dflt (refine' err_mark ?k1_393 ?k2_393 ?k3_393 ?k4_393 ?k5_393 ?k6_393 ?k7_393 ?k8_393 ?_; (case k1_393 => k_asm); (case k2_393 => k_asm); (case k3_393 => k_asm); (case k4_393 => with_reducible assumption); (case k5_393 => first | exact fun _ h => h | (intro p hp; repeat (first | exact hp | apply List.mem_cons_of_mem))); (case k6_393 => k_is); (case k7_393 => k_is); (case k8_393 => k_is); k_whole))))
  (k_with "call ref" => ((k_here; (with_reducible show wpAny _ _ (call (Value.ref 120) _) _ _ _); k_dflt (refine' wrong_ct _ _ _ _ ?k1_394 ?k2_394 ?k3_394 ?k4_394 ?k5_394 ?kK_394 ?kd_394 ?ku_394 ?p0_394 ?p1_394 ?p2_394 ?p3_394 ?p4_394 ?p5_394 ?p6_394 ?_; (case k1_394 => k_asm); (case k2_394 => k_asm); (case k3_394 => k_asm); (case k4_394 => k_asm); (case k5_394 => k_asm); (case kK_394 => first | exact rfl | assumption); (case kd_394 => ktr_room); (case ku_394 => ktr_units); (case p0_394 => first | k_updF | exact UpdF2.over (by assumption) (by assumption) | exact UpdF2.over (UpdF2.over (by assumption) (by assumption)) (kst_ltOf (by assumption))); (case p1_394 => first | with_reducible assumption | exact errIn_over (by assumption) | exact errIn_over (errIn_over (by assumption))); (case p2_394 => assumption); (case p3_394 => assumption); (case p4_394 => first | assumption | exact List.not_mem_nil); (case p5_394 => first | assumption | exact Nat.zero_le _); (case p6_394 => first | assumption | exact Nat.zero_le _)); intro x' d' l' r' t0 t1 t2 t3 t4 t5 t6 t7 od' h' tk' F' N' hpl' l1 l2 l3 l4; (try dsimp only at N'); (try k_lt2 l2); (try k_lt2 l3); (try k_lt2 l4); (try k_sweep); (try dsimp only); (try k_fold))))
  (k_with "call ref" => ((k_here; (with_reducible show wpAny _ _ (call (Value.ref 42) _) _ _ _); k_dflt (refine' checked_ct _ _ _ _ ?k1_395 ?k2_395 ?k3_395 ?k4_395 ?k5_395 ?kK_395 ?kd_395 ?ku_395  ?_; (case k1_395 => k_asm); (case k2_395 => k_asm); (case k3_395 => k_asm); (case k4_395 => k_asm); (case k5_395 => k_asm); (case kK_395 => first | exact rfl | assumption); (case kd_395 => ktr_room); (case ku_395 => ktr_units)); intro r' t1 t2 tp' h' tk' F' N' l1 e1; (try k_lt l1); (try k_sweep); (try dsimp only); (try k_fold))))
  (k_with "call ref" => ((k_here; (with_reducible show wpAny _ _ (call (Value.ref 63) _) _ _ _); k_dflt (refine' fold_ct _ _ _ _ ?k1_396 ?k2_396 ?k3_396 ?k4_396 ?k5_396 ?kK_396 ?kd_396 ?ku_396 ?p0_396 ?p1_396 ?p2_396 ?p3_396 ?_; (case k1_396 => k_asm); (case k2_396 => k_asm); (case k3_396 => k_asm); (case k4_396 => k_asm); (case k5_396 => k_asm); (case kK_396 => first | exact rfl | assumption); (case kd_396 => ktr_room); (case ku_396 => ktr_units); (case p0_396 => omega); (case p1_396 => omega); (case p2_396 => omega); (case p3_396 => omega)); intro r' t1 t2 tp' h' tk' F' N' l1 e1; (try k_lt l1); (try k_sweep); (try dsimp only); (try k_fold))))
  (k_with "call ref" => ((k_here; (with_reducible show wpAny _ _ (call (Value.ref 106) _) _ _ _); k_dflt (refine' isint_ct _ _ _ _ ?k1_397 ?k2_397 ?k3_397 ?k4_397 ?k5_397 ?kK_397 ?kd_397 ?ku_397 ?p0_397 ?_; (case k1_397 => k_asm); (case k2_397 => k_asm); (case k3_397 => k_asm); (case k4_397 => k_asm); (case k5_397 => k_asm); (case kK_397 => first | exact rfl | assumption); (case kd_397 => ktr_room); (case ku_397 => ktr_units); (case p0_397 => first | with_reducible assumption | exact HasA.mono (by assumption) (by first | exact fun _ h => h | (intro p hp; repeat (first | exact hp | apply List.mem_cons_of_mem))))); intro h' tk' F' N'; (try k_sweep); (try dsimp only); (try k_fold))))
  (k_with "call ref" => ((k_here; (with_reducible show wpAny _ _ (call (Value.ref 106) _) _ _ _); k_dflt (refine' isintset_ct _ _ _ _ ?k1_398 ?k2_398 ?k3_398 ?k4_398 ?k5_398 ?kK_398 ?kd_398 ?ku_398 ?p0_398 ?p1_398 ?_; (case k1_398 => k_asm); (case k2_398 => k_asm); (case k3_398 => k_asm); (case k4_398 => k_asm); (case k5_398 => k_asm); (case kK_398 => first | exact rfl | assumption); (case kd_398 => ktr_room); (case ku_398 => ktr_units); (case p0_398 => exact HasA.mono (by assumption) (by walk_at "MINE sub")); (case p1_398 => with_reducible assumption)); intro h' tk' F' N'; (try k_sweep); (try dsimp only); (try k_fold))))
  (k_with "call ref" => ((k_here; (with_reducible show wpAny _ _ (call (Value.ref 113) _) _ _ _); k_dflt (refine' isconst_ct _ _ _ _ ?k1_399 ?k2_399 ?k3_399 ?k4_399 ?k5_399 ?kK_399 ?kd_399 ?ku_399 ?p0_399 ?_; (case k1_399 => k_asm); (case k2_399 => k_asm); (case k3_399 => k_asm); (case k4_399 => k_asm); (case k5_399 => k_asm); (case kK_399 => first | exact rfl | assumption); (case kd_399 => ktr_room); (case ku_399 => ktr_units); (case p0_399 => first | with_reducible assumption | exact HasA.mono (by assumption) (by first | exact fun _ h => h | (intro p hp; repeat (first | exact hp | apply List.mem_cons_of_mem))))); intro h' tk' F' N'; (try k_sweep); (try dsimp only); (try k_fold))))
  (k_with "call ref" => ((k_here; (with_reducible show wpAny _ _ (call (Value.ref 148) _) _ _ _); k_dflt (refine' bnode_ct _ _ _ _ ?k1_400 ?k2_400 ?k3_400 ?k4_400 ?k5_400 ?kK_400 ?kd_400 ?ku_400 ?p0_400 ?p1_400 ?p2_400 ?p3_400 ?p4_400 ?p5_400 ?p6_400 ?_; (case k1_400 => k_asm); (case k2_400 => k_asm); (case k3_400 => k_asm); (case k4_400 => k_asm); (case k5_400 => k_asm); (case kK_400 => first | exact rfl | assumption); (case kd_400 => ktr_room); (case ku_400 => ktr_units); (case p0_400 => first | k_updF | exact UpdF2.over (by assumption) (by assumption) | exact UpdF2.over (UpdF2.over (by assumption) (by assumption)) (kst_ltOf (by assumption))); (case p1_400 => first | with_reducible assumption | exact errIn_over (by assumption) | exact errIn_over (errIn_over (by assumption))); (case p2_400 => assumption); (case p3_400 => assumption); (case p4_400 => exact NodeF.mono (by assumption) (by first | exact fun _ h => h | (intro p hp; repeat (first | exact hp | apply List.mem_cons_of_mem)))); (case p5_400 => exact NodeF.mono (by assumption) (by first | exact fun _ h => h | (intro p hp; repeat (first | exact hp | apply List.mem_cons_of_mem)))); (case p6_400 => first | with_reducible assumption | exact binArgs_bool (by assumption) (by assumption) (by assumption) (by assumption) | exact binArgs_set (by assumption) (by assumption) (by assumption) (by assumption) | exact binArgs_int (by assumption) (by assumption) (by assumption) (by assumption))); intro new' x' rows' nn' od' h' tk' F' N' ov' res'; (try dsimp only at N'); (try k_sweep); (try dsimp only); (try k_fold))))
  (k_with "compareOp LtE" => ((k_here; k_dflt (refine' le_side ?h_401 ?h1_401 ?h2_401 ?_; (case h_401 => assumption); (case h1_401 => assumption); (case h2_401 => assumption)); intro b t ev eo; subst ev; subst eo; (try dsimp only))))
  (k_with "binaryOp Add str str" => ((refine PyProof.Rows.add_str ?_ (sadd (by assumption)); intro _ _)))
  (k_with "MINE due" => ((simp only [dueC, dueOp, dueSel, setOp, divOp, negO, badOps, isI_set, *, reduceIte, Bool.and_true, Bool.true_and, Bool.and_false, Bool.false_and, Bool.false_eq_true, decide_true, decide_false])))
  (k_with "call ref" => ((k_here; (with_reducible show wpAny _ _ (call (Value.ref 275) _) _ _ _); k_dflt (refine' new_ct _ _ _ _ ?k1_404 ?k2_404 ?k3_404 ?k4_404 ?k5_404 ?kK_404 ?kd_404 ?ku_404 ?p0_404 ?p1_404 ?p2_404 ?p3_404 ?p4_404 ?_; (case k1_404 => k_asm); (case k2_404 => k_asm); (case k3_404 => k_asm); (case k4_404 => k_asm); (case k5_404 => k_asm); (case kK_404 => first | exact rfl | assumption); (case kd_404 => ktr_room); (case ku_404 => ktr_units); (case p0_404 => k_updF); (case p1_404 => (intro o; (try dsimp only); k_mem)); (case p2_404 => (simp only [List.length_cons, List.length_nil]; omega)); (case p3_404 => first | decide | omega); (case p4_404 => first | decide | omega)); intro ty' new' tc' h' tk' F' N' ov' tf' tb'; (try dsimp only at N'); (try k_sweep); (try dsimp only); (try k_fold))))
  (k_with "call ref" => ((k_here; (with_reducible show wpAny _ _ (call (Value.ref 282) _) _ _ _); k_dflt (refine' string_ct _ _ _ _ ?k1_405 ?k2_405 ?k3_405 ?k4_405 ?k5_405 ?kK_405 ?kd_405 ?ku_405 ?p0_405 ?p1_405 ?p2_405 ?p3_405 ?p4_405 ?_; (case k1_405 => k_asm); (case k2_405 => k_asm); (case k3_405 => k_asm); (case k4_405 => k_asm); (case k5_405 => k_asm); (case kK_405 => first | exact rfl | assumption); (case kd_405 => ktr_room); (case ku_405 => ktr_units); (case p0_405 => k_mem); (case p1_405 => k_updF); (case p2_405 => (intro o; (try dsimp only); k_mem)); (case p3_405 => omega); (case p4_405 => omega)); intro ty' new' tc' h' tk' F' N' ov' tf'; (try dsimp only at N'); (try k_sweep); (try dsimp only); (try k_fold))))
  (k_with "X k_all" => (exact tyI_all (by assumption)))
  (k_with "call ref" => ((k_here; (with_reducible show wpAny _ _ (call (Value.ref 275) _) _ _ _); k_dflt (refine' new2_ct _ _ _ _ ?k1_407 ?k2_407 ?k3_407 ?k4_407 ?k5_407 ?kK_407 ?kd_407 ?ku_407 ?p0_407 ?p1_407 ?p2_407 ?p3_407 ?p4_407 ?p5_407 ?p6_407 ?p7_407 ?_; (case k1_407 => k_asm); (case k2_407 => k_asm); (case k3_407 => k_asm); (case k4_407 => k_asm); (case k5_407 => k_asm); (case kK_407 => first | exact rfl | assumption); (case kd_407 => ktr_room); (case ku_407 => ktr_units); (case p0_407 => first | exact sub_hereY | exact sub_one); (case p1_407 => first | exact sub_here | exact sub_tl3); (case p2_407 => first | with_reducible assumption | exact tyI_one (by assumption) (by assumption) (by assumption)); (case p3_407 => k_mem); (case p4_407 => k_mem); (case p5_407 => (simp only [List.length_cons, List.length_nil]; omega)); (case p6_407 => first | decide | omega); (case p7_407 => first | decide | omega)); intro ty' new' tc' h' tk' F' N' sub' ov' tf' tb'; (try dsimp only at N'); (try k_sweep); (try dsimp only); (try k_fold))))
  (k_with "call ref" => ((k_here; (with_reducible show wpAny _ _ (call (Value.ref 49) _) _ _ _); k_dflt (refine' foldu_ct _ _ _ _ ?k1_408 ?k2_408 ?k3_408 ?k4_408 ?k5_408 ?kK_408 ?kd_408 ?ku_408 ?p0_408 ?p1_408 ?_; (case k1_408 => k_asm); (case k2_408 => k_asm); (case k3_408 => k_asm); (case k4_408 => k_asm); (case k5_408 => k_asm); (case kK_408 => first | exact rfl | assumption); (case kd_408 => ktr_room); (case ku_408 => ktr_units); (case p0_408 => omega); (case p1_408 => omega)); intro r' t1 t2 tp' h' tk' F' N' l1 e1; (try k_lt l1); (try k_sweep); (try dsimp only); (try k_fold))))
  (k_with "call ref" => ((k_here; (with_reducible show wpAny _ _ (call (Value.ref 134) _) _ _ _); k_dflt (refine' unode_ct _ _ _ _ ?k1_409 ?k2_409 ?k3_409 ?k4_409 ?k5_409 ?kK_409 ?kd_409 ?ku_409 ?p0_409 ?p1_409 ?p2_409 ?p3_409 ?p4_409 ?p5_409 ?_; (case k1_409 => k_asm); (case k2_409 => k_asm); (case k3_409 => k_asm); (case k4_409 => k_asm); (case k5_409 => k_asm); (case kK_409 => first | exact rfl | assumption); (case kd_409 => ktr_room); (case ku_409 => ktr_units); (case p0_409 => first | k_updF | exact UpdF2.over (by assumption) (by assumption)); (case p1_409 => first | with_reducible assumption | exact errIn_over (by assumption)); (case p2_409 => assumption); (case p3_409 => assumption); (case p4_409 => exact NodeF.mono (by assumption) (by walk_at "MINE sub")); (case p5_409 => first | with_reducible assumption | exact uArgs_bool (by assumption) (by assumption) | exact uArgs_set (by assumption) (by assumption) | exact uArgs_int (by assumption) (by assumption))); intro new' x' rows' nn' od' h' tk' F' N' ov' res'; (try dsimp only at N'); (try k_sweep); (try dsimp only); (try k_fold))))
  (k_with "MINE udue" => ((simp only [uC, uOp, uSel, badOps, *, reduceIte, Bool.not_true, Bool.not_false, Bool.and_true, Bool.true_and, Bool.and_false, Bool.false_and, Bool.false_eq_true])))
  (k_with "getItem ref str" => ((k_here; k_dflt (refine' getMask ?k1_411 ?k2_411 ?_; (case k1_411 => assumption); (case k2_411 => k_tabat)); intro V9 t9 hV9 hV0 hV1; (try dsimp only))))
  (k_with "binaryOp Mult int int" => (with_reducible refine PyProof.Rows.mul_int ?_ (mulok01 (by assumption) (by assumption))))
  (k_with "binaryOp Pow int int" => (((with_reducible refine pow_int_small ?_ ?_ ?_ ?_); (omega); (omega); (decide))))
  (k_with "call ref" => ((k_here; (with_reducible show wpAny _ _ (call (Value.ref 324) _) _ _ _); k_dflt (refine' mask_ct _ _ _ _ ?k1_414 ?k2_414 ?k3_414 ?k4_414 ?k5_414 ?kK_414 ?kd_414 ?ku_414 ?p0_414 ?p1_414 ?p2_414 ?_; (case k1_414 => k_asm); (case k2_414 => k_asm); (case k3_414 => k_asm); (case k4_414 => k_asm); (case k5_414 => k_asm); (case kK_414 => first | exact rfl | assumption); (case kd_414 => ktr_room); (case ku_414 => ktr_units); (case p0_414 => exact dom_mk (by assumption) (by assumption) (by assumption)); (case p1_414 => exact dom_mk (by assumption) (by assumption) (by assumption)); (case p2_414 => exact op4_of (by assumption))); intro t' h' tk' F' N'; (try k_sweep); (try dsimp only); (try k_fold))))
  (k_with "call ref" => ((k_here; (with_reducible show wpAny _ _ (call (Value.ref 317) _) _ _ _); k_dflt (refine' exact_ct _ _ _ _ ?k1_415 ?k2_415 ?k3_415 ?k4_415 ?k5_415 ?kK_415 ?kd_415 ?ku_415 ?p0_415 ?p1_415 ?p2_415 ?p3_415 ?p4_415 ?_; (case k1_415 => k_asm); (case k2_415 => k_asm); (case k3_415 => k_asm); (case k4_415 => k_asm); (case k5_415 => k_asm); (case kK_415 => first | exact rfl | assumption); (case kd_415 => ktr_room); (case ku_415 => ktr_units); (case p0_415 => exact dom_lo (by assumption) (by assumption) (by assumption)); (case p1_415 => exact dom_hi (by assumption) (by assumption) (by assumption)); (case p2_415 => exact dom_lo (by assumption) (by assumption) (by assumption)); (case p3_415 => exact dom_hi (by assumption) (by assumption) (by assumption)); (case p4_415 => first | exact exop1 (by assumption) (by assumption) (by assumption) (by assumption) | exact exop2 (by assumption) (by assumption) (by assumption))); intro t' h' tk' F' N'; (try k_sweep); (try dsimp only); (try k_fold))))
  (k_with "MINE duek" => ((simp only [dueC, dueOp, dueSel, setOp, divOp, negO, badOps, bne, *, reduceIte, Bool.not_true, Bool.not_false, Bool.and_true, Bool.true_and, Bool.and_false, Bool.false_and, Bool.false_eq_true, decide_true, decide_false])))
  (k_with "MINE ltend" => (first | with_reducible assumption | exact kst_ltOf (by with_reducible assumption) | exact kst_ltOf (And.right (by assumption)) | exact kst_ltOf (And.right (And.right (by assumption))) | exact kst_ltOf (And.right (And.right (And.right (by assumption))))))
  (k_with "MINE a3" => (first | exact and3a (by assumption) | exact and3b (by assumption) | exact and3c (by assumption) | exact and3a (set_int (by assumption))))
  (k_with "MINE or2" => (first | exact Or.inl (by assumption) | exact Or.inr (by assumption) | exact Or.inr rfl | exact Or.inr (by simp only [negO, decide_eq_false_iff_not]; omega)))
  (k_with "MINE dueend" => (first | exact due_bad1 (by assumption) (by assumption) (by assumption) | exact due_bad2 (by assumption) (by assumption) (by assumption) (by assumption) (by assumption) | exact due_bnone (by assumption) (by assumption) (by assumption) (by assumption) (by assumption) (by assumption) | exact due_band (by assumption) (by assumption) (by assumption) (by assumption) (by assumption) (by assumption) (by assumption) | exact due_bor (by assumption) (by assumption) (by assumption) (by assumption) (by assumption) (by assumption) (by assumption) (by assumption) | exact due_snone (by assumption) (by assumption) (by assumption) (by assumption) (by assumption) (by assumption) (by assumption) rfl | exact due_sval (by assumption) (by assumption) (by assumption) (by assumption) (by assumption) (by assumption) (by assumption) (by assumption) rfl | exact due_wS (by assumption) (by assumption) (by assumption) (by walk_at "MINE a3") (by walk_at "MINE a3") (by assumption) | exact due_wI (by assumption) (by assumption) (by assumption) (by walk_at "MINE a3") (by walk_at "MINE a3") (by assumption) | exact due_idiv (by assumption) (by assumption) (by assumption) (by assumption) (by assumption) (by assumption) (by assumption) (by assumption) | exact due_inone (by assumption) (by assumption) (by assumption) (by assumption) (by assumption) (by assumption) (by walk_at "MINE or2") (by assumption) | exact due_ival (by assumption) (by assumption) (by assumption) (by assumption) (by assumption) (by assumption) (by assumption) (by assumption) (by assumption) (by walk_at "MINE or2") (by assumption) (by assumption) | exact due_iovf (by assumption) (by assumption) (by assumption) (by assumption) (by assumption) (by assumption) (by assumption) (by assumption) (by assumption) (by walk_at "MINE or2") (by walk_at "MINE or2")))
  (k_with "call ref" => ((k_here; (with_reducible show wpAny _ _ (call (Value.ref 331) _) _ _ _); k_dflt (refine' due_ct _ _ _ _ ?k1_421 ?k2_421 ?k3_421 ?k4_421 ?k5_421 ?kK_421 ?kd_421 ?ku_421 ?p0_421 ?p1_421 ?p2_421 ?p3_421 ?p4_421 ?p5_421 ?p6_421 ?p7_421 ?p8_421 ?_; (case k1_421 => k_asm); (case k2_421 => k_asm); (case k3_421 => k_asm); (case k4_421 => k_asm); (case k5_421 => k_asm); (case kK_421 => first | exact rfl | assumption); (case kd_421 => ktr_room); (case ku_421 => ktr_units); (case p0_421 => k_mem); (case p1_421 => k_mem); (case p2_421 => assumption); (case p3_421 => assumption); (case p4_421 => assumption); (case p5_421 => assumption); (case p6_421 => assumption); (case p7_421 => assumption); (case p8_421 => assumption)); intro d' form' code' op' v4' t1 t2 t3 h' tk' F' N' l1 due'; (try k_lt l1); (try k_sweep); (try dsimp only); (try k_fold))))
  (k_with "MINE rows" => (first | with_reducible assumption | exact RowsAre.nil | exact RowsAre.cons (by first | assumption | decide +kernel) (by k_mem) .nil))
  (k_with "MINE ints" => (first | with_reducible assumption | exact IntsAre.nil | exact IntsAre.cons _ _ .nil | exact IntsAre.cons _ _ (.cons _ _ .nil) | exact IntsAre.cons _ _ (.cons _ _ (.cons _ _ .nil))))
  (k_with "compareOp NotEq ref ref" => ((k_here; k_dflt (refine' ne_rowsS ?k1_424 ?k2_424 ?k3_424 ?k4_424 ?k5_424 ?k6_424 ?_; (case k1_424 => k_asm); (case k2_424 => k_mem); (case k3_424 => k_mem); (case k4_424 => walk_at "MINE rows"); (case k5_424 => walk_at "MINE rows"); (case k6_424 => ktr_units); k_whole))))
  (k_with "compareOp Eq ref ref" => ((k_here; k_dflt (refine' eq_intsS ?k1_425 ?k2_425 ?k3_425 ?k4_425 ?k5_425 ?k6_425 ?_; (case k1_425 => k_asm); (case k2_425 => k_mem); (case k3_425 => k_mem); (case k4_425 => walk_at "MINE ints"); (case k5_425 => walk_at "MINE ints"); (case k6_425 => ktr_units); k_whole))))
  trivial
def PoolC (w : World) (mean : ExcName → Option Value) (mg mb : Str → Option Value) : Prop :=
  ∀ {dp un : Nat} {gd : Option (List Code)} {cn : Str} {cs : Scope} {a : Addr} {ccd : Value} {cl : List (Str × Addr)} {outer : List Env} {A₀ : Around} {base h₀ : Heap} {L : Addr} {m : Str → Option Value} {hp : Heap} {gns : Array GenState} {drw : Drawn} {tk0 : Nat} {sos : OsState} {Q E : Value → Shared → Prop} {news : List (Addr × Obj)}
    {sc : Addr} {vs : List Value} {ns : List Int},
    Below A₀ base outer h₀ → Fr h₀ L hp m → (Mine.R.heap_1_1 w.params).In h₀ → News h₀ L hp news → Top Mine.R.view_1_2 (looseW Mine.R.view_1_2 []) mean mg mb h₀ → cs.kind = .function →
    dp + 4 < recursionLimit → un + 60 < cLine → h₀.IsList sc vs.toArray → IntsAre vs ns → ns.length ≤ 63 →
    (∀ (pl fl : Nat) (fvs : List Value) (figs : List Int) (n0 n1 : Nat) (mx : Int) (ti tm : Tok) (h' : Heap) (tk' : Nat), Fr h₀ L h' m → News h₀ L h' ((pl, PoolO fl 0 ti mx tm n0) :: (fl, listOf fvs.toArray n1) :: news) → IntsAre fvs figs → figs.length ≤ 2400 → 0 ≤ mx → mx < 1009 → (∀ p ∈ news, p.1 < fl) → fl < pl → Q (.ref pl) ⟨h', gns, drw, tk', sos⟩) →
    wpAny (model PySem.Challenge.rw_nu0332_01.row.prog w) (ktrTop dp un gd cn cs L a ccd cl outer) (call (.ref 296) [.ref sc]) Q E ⟨hp, gns, drw, tk0, sos⟩
theorem ints_at {vs : List Value} {ns : List Int} {i : Nat} {v : Value} (h : vs[i]? = some v) (H : IntsAre vs ns) : ∃ n t, v = .int n t := by
  induction H generalizing i with
  | nil => simp at h
  | cons a t _ ih =>
    cases i with
    | zero => exact ⟨a, t, by simpa using h.symm⟩
    | succ k => exact ih (by simpa using h)
theorem ints_lt {vs : List Value} {ns : List Int} {i k : Nat} {v : Value} (h : vs[i]? = some v) (H : IntsAre vs (ns.take k)) : i < k := by
  obtain ⟨h1, _⟩ := List.getElem?_eq_some_iff.mp h
  have h2 := H.length
  rw [List.length_take] at h2
  omega
theorem ints_len {vs : List Value} {ns : List Int} {k : Nat} (H : IntsAre vs (ns.take k)) : vs.length ≤ k := by
  have h2 := H.length
  rw [List.length_take] at h2
  omega
theorem offK {a b : Addr × Obj} {l I : Addr} {o : Obj} (o' : Obj) {news : List (Addr × Obj)} (h : ∀ p ∈ a :: b :: (l, o) :: news, p.1 ≠ I) : ∀ p ∈ a :: b :: (l, o') :: news, p.1 ≠ I := by
  simp only [List.forall_mem_cons] at h ⊢
  exact h
theorem offJ {a : Addr × Obj} {l I : Addr} {o : Obj} (o' : Obj) {news : List (Addr × Obj)} (h : ∀ p ∈ a :: (l, o) :: news, p.1 ≠ I) : ∀ p ∈ a :: (l, o') :: news, p.1 ≠ I := by
  simp only [List.forall_mem_cons] at h ⊢
  exact h
/-- between two cells -/
def PoolJ (D : Addr) (ws : List Value) (fl : Addr) (base : List (Addr × Obj)) (i : Nat) (m : Str → Option Value) (nx : List (Addr × Obj)) : Prop :=
  ∃ (fvs : List Value) (figs : List Int) (n1 : Nat) (mx : Int) (tm : Tok), nx = (D, listOf ws.toArray 0) :: (fl, listOf fvs.toArray n1) :: base ∧ IntsAre fvs figs ∧ figs.length ≤ 60 * i ∧ 0 ≤ mx ∧ mx < 1009 ∧ m (Str.ofString "figures") = some (.ref fl) ∧ m (Str.ofString "mix") = some (.int mx tm)
theorem PoolJ.src {D : Addr} {ws : List Value} {fl : Addr} {base : List (Addr × Obj)} (i : Nat) (m : Str → Option Value) (nx : List (Addr × Obj)) (h : PoolJ D ws fl base i m nx) : (D, listOf ws.toArray 0) ∈ nx := by
  obtain ⟨_, _, _, _, _, e, _⟩ := h
  rw [e]
  exact .head _
/-- between two figures of a cell -/
def PoolK (I D : Addr) (oI : Obj) (ws : List Value) (fl : Addr) (base : List (Addr × Obj)) (lim : Nat) (mx : Int) (j : Nat) (m : Str → Option Value) (nx : List (Addr × Obj)) : Prop :=
  ∃ (fvs : List Value) (figs : List Int) (n1 : Nat) (tm tr : Tok) (rest : Int), nx = (I, oI) :: (D, listOf ws.toArray 0) :: (fl, listOf fvs.toArray n1) :: base ∧ IntsAre fvs figs ∧ figs.length ≤ lim + j ∧ m (Str.ofString "figures") = some (.ref fl) ∧ m (Str.ofString "mix") = some (.int mx tm) ∧ m (Str.ofString "rest") = some (.int rest tr) ∧ 0 ≤ rest
theorem PoolK.intro {I D : Addr} {oI : Obj} {ws : List Value} {fl : Addr} {base : List (Addr × Obj)} {lim : Nat} {mx : Int} {j : Nat} {m : Str → Option Value} {fvs : List Value} {figs : List Int} {n1 : Nat} {tm tr : Tok} {rest : Int} (hI : IntsAre fvs figs) (hl : figs.length ≤ lim + j)
    (h1 : m (Str.ofString "figures") = some (.ref fl)) (h2 : m (Str.ofString "mix") = some (.int mx tm)) (h3 : m (Str.ofString "rest") = some (.int rest tr)) (h0 : 0 ≤ rest) : PoolK I D oI ws fl base lim mx j m ((I, oI) :: (D, listOf ws.toArray 0) :: (fl, listOf fvs.toArray n1) :: base) := ⟨_, _, _, _, _, _, rfl, hI, hl, h1, h2, h3, h0⟩
theorem PoolK.start {I D : Addr} {oI : Obj} {ws : List Value} {fl : Addr} {base : List (Addr × Obj)} {i : Nat} {mx : Int} {m : Str → Option Value} {fvs : List Value} {figs : List Int} {n1 : Nat} {tm tr : Tok} {rest : Int} (hI : IntsAre fvs figs) (hl : figs.length ≤ 60 * i)
    (h1 : m (Str.ofString "figures") = some (.ref fl)) (h2 : m (Str.ofString "mix") = some (.int mx tm)) (h3 : m (Str.ofString "rest") = some (.int rest tr)) (h0 : 0 ≤ rest) : PoolK I D oI ws fl base (60 * i) mx 0 m ((I, oI) :: (D, listOf ws.toArray 0) :: (fl, listOf fvs.toArray n1) :: base) := .intro hI hl h1 h2 h3 h0
theorem PoolJ.intro {D : Addr} {ws : List Value} {fl : Addr} {base : List (Addr × Obj)} {i : Nat} {m : Str → Option Value} {fvs : List Value} {figs : List Int} {n1 : Nat} {mx : Int} {tm : Tok} (hI : IntsAre fvs figs) (hl : figs.length ≤ 60 * i) (hm0 : 0 ≤ mx) (hm1 : mx < 1009)
    (h1 : m (Str.ofString "figures") = some (.ref fl)) (h2 : m (Str.ofString "mix") = some (.int mx tm)) : PoolJ D ws fl base i m ((D, listOf ws.toArray 0) :: (fl, listOf fvs.toArray n1) :: base) := ⟨_, _, _, _, _, rfl, hI, hl, hm0, hm1, h1, h2⟩
theorem sub2 {a b : Addr × Obj} {Z news : List (Addr × Obj)} (h1 : a ∈ news) (h2 : b ∈ news) (h3 : ∀ p ∈ Z, p ∈ news) : ∀ p ∈ a :: b :: Z, p ∈ news := List.forall_mem_cons.mpr ⟨h1, List.forall_mem_cons.mpr ⟨h2, h3⟩⟩
set_option maxHeartbeats 8000000 in
theorem pool_ct (w : World) (mean : ExcName → Option Value) (mg mb : Str → Option Value) : PoolC w mean mg mb := by
  unfold PoolC
  intro dp un gd cn cs a ccd cl outer A₀ base h₀ L m hp gns drw tk0 sos Q E news sc vs ns B F X N T hk hd hu h1 h2 h3 hret
  have gPoolRow : True := trivial
  k_with "pyIter ref" => ((fail_if_success (fail_if_success (have hz9 := gPoolRow))); k_here; first
    | k_dflt ((refine' my_range (n := 60) (PoolK _ _ _ _ _ _ _ _) ?hh ?hr ?hs ?hn ?F ?N ?hj ?_ ?_; (case hh => rfl); (case hr => assumption); (case hs => decide); (case hn => rfl); (case F => assumption); (case N => assumption); (case hj => (refine' PoolK.start ?a ?b ?c ?d ?e ?f; (case a => assumption); (case b => assumption); (case c => walk_at "MINE look"); (case d => walk_at "MINE look"); (case e => walk_at "MINE look"); (case f => first | omega | (split <;> omega))))); (intro i t m₁ nx h9 tk9 I oI hin hJ hoff F9 N9; obtain ⟨fvs, figs, n1, tm, tr, rest, e9, hI9, hl9, ho1, ho2, ho3, hr0⟩ := hJ; subst e9; (try dsimp only at F9 N9); have hle := hI9.length; have hA := off1 hoff; have hB := off1 hA.2; have hC := off1 hB.2); rotate_left; (intro m₁ nx h9 tk9 hJ F9 N9; obtain ⟨fvs, figs, n1, tm, tr, rest, e9, hI9, hl9, ho1, ho2, ho3, hr0⟩ := hJ; subst e9; (try dsimp only at F9 N9); have hle := hI9.length); rotate_left)
    | k_dflt ((refine' my_list (PoolJ _ _ _ _) PoolJ.src ?hh ?F ?N ?hj ?_ ?_; (case hh => rfl); (case F => assumption); (case N => assumption); (case hj => exact ⟨_, _, _, _, _, rfl, .nil, Nat.le_refl _, by decide, by decide, rfl, rfl⟩)); (intro i v m₁ nx h9 tk9 I oI hin hJ hoff F9 N9; obtain ⟨fvs, figs, n1, mx, tm, e9, hI9, hl9, hm0, hm1, ho1, ho2⟩ := hJ; subst e9; (try dsimp only at F9 N9); (have hib : i < 40 := ints_lt hin (by assumption)); (obtain ⟨big, tbig, ebig⟩ := ints_at hin (by assumption); subst ebig); have hA := off1 hoff; have hB := off1 hA.2); rotate_left; (intro m₁ nx h9 tk9 hJ F9 N9; obtain ⟨fvs, figs, n1, mx, tm, e9, hI9, hl9, hm0, hm1, ho1, ho2⟩ := hJ; subst e9; (try dsimp only at F9 N9); (have hwl := ints_len (by assumption))); rotate_left))
  refine call_rq ?_
  k_dflt k_enter
  have hls := Fr.lst (by assumption : Fr h₀ L _ m) h1
  k_steps
  all_goals (simp only [List.push_toArray] at *)
  · first | exact hret _ _ _ _ _ _ _ _ _ _ _ (by k_asm) (cb_drop (by assumption) (sub2 (by k_mem) (by k_mem) (by walk_at "MINE sub"))) (by l_ints) (by (try simp only [List.length_append, List.length_cons, List.length_nil]); omega) (by first | assumption | exact (fmod_in _ (by decide)).1) (by first | assumption | exact (fmod_in _ (by decide)).2) (by assumption) (by omega) | fail "end"
  · refine' MyEnd.intro ?F0q ?N0q ?o0q ?j0q
    (case F0q => assumption)
    (case N0q => exact cb_drop (by assumption) (by walk_at "MINE sub"))
    (case o0q => exact offJ _ (by assumption))
    (case j0q => (refine' PoolJ.intro ?a0q ?b0q ?c0q ?d0q ?e0q ?f0q; (case a0q => l_ints); (case b0q => (simp only [List.length_append, List.length_cons, List.length_nil]; omega)); (case e0q => walk_at "MINE look"); (case f0q => walk_at "MINE look"); (case c0q => exact (fmod_in _ (by decide)).1); (case d0q => exact (fmod_in _ (by decide)).2)))
  · refine' MyEnd.intro ?F1q ?N1q ?o1q ?j1q
    (case F1q => assumption)
    (case N1q => exact cb_drop (by assumption) (by walk_at "MINE sub"))
    (case o1q => exact offK _ (by assumption))
    (case j1q => (refine' PoolK.intro ?a1q ?b1q ?c1q ?d1q ?e1q ?f1q; (case a1q => l_ints); (case b1q => (simp only [List.length_append, List.length_cons, List.length_nil]; omega)); (case c1q => walk_at "MINE look"); (case d1q => walk_at "MINE look"); (case e1q => walk_at "MINE look"); (case f1q => exact Int.fdiv_nonneg (by assumption) (by decide))))
  · first | exact hret _ _ _ _ _ _ _ _ _ _ _ (by k_asm) (cb_drop (by assumption) (sub2 (by k_mem) (by k_mem) (by walk_at "MINE sub"))) (by l_ints) (by (try simp only [List.length_append, List.length_cons, List.length_nil]); omega) (by first | assumption | exact (fmod_in _ (by decide)).1) (by first | assumption | exact (fmod_in _ (by decide)).2) (by assumption) (by omega) | fail "end"
  · refine' MyEnd.intro ?F2q ?N2q ?o2q ?j2q
    (case F2q => assumption)
    (case N2q => exact cb_drop (by assumption) (by walk_at "MINE sub"))
    (case o2q => exact offJ _ (by assumption))
    (case j2q => (refine' PoolJ.intro ?a2q ?b2q ?c2q ?d2q ?e2q ?f2q; (case a2q => l_ints); (case b2q => omega); (case e2q => walk_at "MINE look"); (case f2q => walk_at "MINE look"); (case c2q => exact (fmod_in _ (by decide)).1); (case d2q => exact (fmod_in _ (by decide)).2)))
  · first | exact hret _ _ _ _ _ _ _ _ _ _ _ (by k_asm) (cb_drop (by assumption) (sub2 (by k_mem) (by k_mem) (by walk_at "MINE sub"))) (by l_ints) (by (try simp only [List.length_append, List.length_cons, List.length_nil]); omega) (by first | assumption | exact (fmod_in _ (by decide)).1) (by first | assumption | exact (fmod_in _ (by decide)).2) (by assumption) (by omega) | fail "end"
/-! cmask -/
theorem reg55 : True := by
  w_top off
  (k_with "MINE none" => (skip))
  trivial
theorem val_of {o f : Str} {v : Value} {ov : Option Int} (h : SideV o f v ov) (h1 : (o == Str.ofString "const") = true) (h2 : isI f = true) : ∃ b t, v = .int b t ∧ ov = some b := by
  obtain ⟨b, t, e, e', _⟩ := h.int h1 h2
  exact ⟨b, t, e, e'⟩
theorem cm_l {k1 k2 : Kid} (h : k1.v = none ∨ k2.v = none) : cmOf [k1, k2] = -1 := by
  have e1 : lowOf [k1, k2] = k1.v := rfl
  have e2 : highOf [k1, k2] = k2.v := rfl
  unfold cmOf
  rw [e1, e2]
  rcases h with h | h
  · rw [h]
  · rw [h]; cases k1.v <;> rfl
theorem cm_2 {k1 k2 : Kid} {a b : Int} (h1 : k1.v = some a) (h2 : k2.v = some b) : cmOf [k1, k2] = rangeM a b := by
  have e1 : lowOf [k1, k2] = k1.v := rfl
  have e2 : highOf [k1, k2] = k2.v := rfl
  unfold cmOf
  rw [e1, e2, h1, h2]
theorem cm_1 {k1 : Kid} {a : Int} (h1 : k1.v = some a) : cmOf [k1] = rangeM a a := by
  have e1 : lowOf [k1] = k1.v := rfl
  have e2 : highOf [k1] = k1.v := rfl
  unfold cmOf
  rw [e1, e2, h1]
theorem cm_0 {k1 : Kid} (h1 : k1.v = none) : cmOf [k1] = -1 := by
  have e1 : lowOf [k1] = k1.v := rfl
  have e2 : highOf [k1] = k1.v := rfl
  unfold cmOf
  rw [e1, e2, h1]
theorem neg1 {n : Nat} (h : 0 < n) : (-1 + (n : Int)).toNat = n - 1 := by omega
theorem itemL {prog : Program} {w : World} {A : Around} {E : Value → Shared → Prop} {s : Shared} {h₀ : Heap} {L l : Addr} {news : List (Addr × Obj)} {value slice : PySem.Expr} {vs : List Value} {n : Nat} {u : Tok} {v : Value} {Q : Value → Shared → Prop} (N : News h₀ L s.heap news) (hm : (l, listOf vs.toArray n) ∈ news) (hx : vs[vs.length - 1]? = some v) (hz : vs.length ≤ 1000) (h : Q v s)
    (hs : subscripted slice false (.ref l) (.int (-1) u) = operate [.ref l, .int (-1) u] (getItem (.ref l) (.int (-1) u)) := by with_unfolding_all rfl) :
    wpAny (model prog w) A (subscriptTail value slice (.ref l) (.int (-1) u)) Q E s := by
  have hl : s.heap.IsList l vs.toArray := PySem.IsL.isList (n := n) (N _ hm).1
  have hp : 0 < vs.length := by
    rcases Nat.eq_zero_or_pos vs.length with e | e
    · rw [List.getElem?_eq_none (by omega)] at hx; cases hx
    · exact e
  have e1 : ((vs.toArray.size : Nat) : Int) = (vs.length : Int) := by rw [List.size_toArray]
  refine tail_any hl.typeIs slot_list_getitem.lookup (wpAny_getItem_list_neg hl (by decide) (by rw [e1]; omega) ?_ ?_ h) hs
  · first | omega | decide | (rw [List.size_toArray]; omega)
  · have e2 : (-1 + ((vs.toArray.size : Nat) : Int)).toNat = vs.length - 1 := by rw [e1]; exact neg1 hp
    rw [List.getElem?_toArray]
    rw [e2]; exact hx
theorem reg57 : True := by
  (k_with "subscriptTail" => ((k_here; (with_reducible show wpAny _ _ (subscriptTail _ _ (Value.ref _) (Value.int (-1) _)) _ _ _); k_dflt (refine' itemL ?k1_427 ?k2_427 ?k5_427 ?kz_427 ?_ ?k6_427; (case k1_427 => k_asm); (case k2_427 => k_mem); (case k5_427 => rfl); (case kz_427 => exact Nat.le_of_ble_eq_true rfl); (case k6_427 => with_unfolding_all rfl); k_whole))))
  (k_with "call ref" => ((k_here; (with_reducible show wpAny _ _ (call (Value.ref 70) _) _ _ _); k_dflt (refine' range_ct _ _ _ _ ?k1_428 ?k2_428 ?k3_428 ?k4_428 ?k5_428 ?kK_428 ?kd_428 ?ku_428 ?p0_428 ?p1_428 ?p2_428 ?p3_428 ?_; (case k1_428 => k_asm); (case k2_428 => k_asm); (case k3_428 => k_asm); (case k4_428 => k_asm); (case k5_428 => k_asm); (case kK_428 => first | exact rfl | assumption); (case kd_428 => ktr_room); (case ku_428 => ktr_units); (case p0_428 => omega); (case p1_428 => omega); (case p2_428 => omega); (case p3_428 => omega)); intro t' h' tk' F' N'; (try k_sweep); (try dsimp only); (try k_fold))))
  trivial
def CMaskC (w : World) (mean : ExcName → Option Value) (mg mb : Str → Option Value) : Prop :=
  ∀ {dp un : Nat} {gd : Option (List Code)} {cn : Str} {cs : Scope} {a : Addr} {ccd : Value} {cl : List (Str × Addr)} {outer : List Env} {A₀ : Around} {base h₀ : Heap} {L : Addr} {m : Str → Option Value} {hp : Heap} {gns : Array GenState} {drw : Drawn} {tk0 : Nat} {sos : OsState} {Q E : Value → Shared → Prop} {news : List (Addr × Obj)}
    {e : Elem},
    Below A₀ base outer h₀ → Fr h₀ L hp m → (Mine.R.heap_1_1 w.params).In h₀ → News h₀ L hp news → Top Mine.R.view_1_2 (looseW Mine.R.view_1_2 []) mean mg mb h₀ → cs.kind = .function →
    dp + 6 < recursionLimit → un + 40 < cLine → ElemOk news e → (∀ k ∈ e.2, (k.code == Str.ofString "") = true) →
    (∀ (t : Tok) (h' : Heap) (tk' : Nat), Fr h₀ L h' m → News h₀ L h' news → Q (.int (cmOf e.2) t) ⟨h', gns, drw, tk', sos⟩) →
    wpAny (model PySem.Challenge.rw_nu0332_01.row.prog w) (ktrTop dp un gd cn cs L a ccd cl outer) (call (.ref 162) [.ref e.1]) Q E ⟨hp, gns, drw, tk0, sos⟩
def CmJ (base : List (Addr × Obj)) (ea : Addr) (o1 o2 : Str) (i : Nat) (m : Str → Option Value) (nx : List (Addr × Obj)) : Prop :=
  nx = base ∧ m (Str.ofString "element") = some (.ref ea) ∧ (0 < i → (o1 == Str.ofString "const") = true) ∧ (1 < i → (o2 == Str.ofString "const") = true)
theorem CmJ.zero {base : List (Addr × Obj)} {ea : Addr} {o1 o2 : Str} {m : Str → Option Value} (h : m (Str.ofString "element") = some (.ref ea)) : CmJ base ea o1 o2 0 m base := ⟨rfl, h, fun h => absurd h (by decide), fun h => absurd h (by decide)⟩
theorem CmJ.one {base : List (Addr × Obj)} {ea : Addr} {o1 o2 : Str} {m : Str → Option Value} (h : m (Str.ofString "element") = some (.ref ea)) (h1 : (o1 == Str.ofString "const") = true) : CmJ base ea o1 o2 (0 + 1) m base := ⟨rfl, h, fun _ => h1, fun h => absurd h (by decide)⟩
theorem CmJ.two {base : List (Addr × Obj)} {ea : Addr} {o1 o2 : Str} {m : Str → Option Value} (h : m (Str.ofString "element") = some (.ref ea)) (h1 : (o1 == Str.ofString "const") = true) (h2 : (o2 == Str.ofString "const") = true) : CmJ base ea o1 o2 (1 + 1) m base := ⟨rfl, h, fun _ => h1, fun _ => h2⟩
theorem CmJ.src {base : List (Addr × Obj)} {ea : Addr} {o1 o2 : Str} {q : Addr × Obj} (h : q ∈ base) (i : Nat) (m : Str → Option Value) (nx : List (Addr × Obj)) (j : CmJ base ea o1 o2 i m nx) : q ∈ nx := j.1 ▸ h
theorem item1 {a v : Value} {i : Nat} (h : [a][i]? = some v) : i = 0 ∧ v = a := by
  match i, h with
  | 0, h => exact ⟨rfl, by simpa using h.symm⟩
  | i + 1, h => simp at h
theorem item2 {a b v : Value} {i : Nat} (h : [a, b][i]? = some v) : (i = 0 ∧ v = a) ∨ (i = 1 ∧ v = b) := by
  match i, h with
  | 0, h => exact .inl ⟨rfl, by simpa using h.symm⟩
  | 1, h => exact .inr ⟨rfl, by simpa using h.symm⟩
  | i + 2, h => simp at h
theorem len12 {α : Type} {l : List α} (h : l.length = 1 ∨ l.length = 2) : (∃ a, l = [a]) ∨ ∃ a b, l = [a, b] := by
  rcases l with _ | ⟨a, _ | ⟨b, _ | ⟨c, r⟩⟩⟩
  · simp at h
  · exact .inl ⟨a, rfl⟩
  · exact .inr ⟨a, b, rfl⟩
  · simp at h
set_option maxHeartbeats 8000000 in
theorem cmask_ct (w : World) (mean : ExcName → Option Value) (mg mb : Str → Option Value) : CMaskC w mean mg mb := by
  unfold CMaskC
  intro dp un gd cn cs a ccd cl outer A₀ base h₀ L m hp gns drw tk0 sos Q E news e B F X N T hk hd hu he hs hret
  obtain ⟨ea, ks⟩ := e
  obtain ⟨⟨op, pl, ty, kl, n, val, hn, hkl⟩, hks, hlen⟩ := he
  dsimp only at hn hkl hks hlen hs hret ⊢
  obtain ⟨-, -, -, hnk, -⟩ := hn
  rcases len12 hlen with ⟨k1, e0⟩ | ⟨k1, k2, e0⟩ <;> subst e0 <;> clear hlen
  · show wpAny _ _ _ _ _ _
    have hk1 := hks k1 (.head _)
    obtain ⟨i1, b1⟩ := kid_sound (hs k1 (.head _))
    obtain ⟨x1, pl1, op1, f1, vx1, v1⟩ := k1
    obtain ⟨⟨ty1, kl1, hn1, hf1⟩, sv1⟩ := hk1
    dsimp only at i1 b1 hn1 hf1 sv1
    obtain ⟨⟨to1, ho1⟩, -, -, -, hv1⟩ := hn1
    have hkl1 : (kl, listOf [Value.ref x1].toArray n) ∈ news := hkl
    clear hks hs hkl hf1
    have gCmaskRow : True := trivial
    k_with "pyIter ref" => ((fail_if_success (fail_if_success (have hz9 := gCmaskRow))); k_here; k_dflt ((refine' my_list (CmJ news _ op1 op1) (CmJ.src hkl1) ?hh ?F ?N ?hj ?_ ?_; (case hh => rfl); (case F => assumption); (case N => assumption); (case hj => exact CmJ.zero (by walk_at "MINE look"))); (intro i v m₁ nx h9 tk9 I oI hin hJ hoff F9 N9; obtain ⟨e9, hme, hc1, hc2⟩ := hJ; subst e9; obtain ⟨e8, e7⟩ := item1 hin; subst e8 e7); rotate_left; (intro m₁ nx h9 tk9 hJ F9 N9; obtain ⟨e9, hme, hc1, hc2⟩ := hJ; subst e9; have hd1 := hc1 (Nat.succ_pos _); obtain ⟨a1, t1, e1, e2⟩ := val_of sv1 hd1 i1; subst e1 e2; have hb1 := b1 _ rfl); rotate_left))
    refine call_rq ?_
    k_dflt k_enter
    k_steps
    · refine' MyEnd.intro ?F1 ?N1 ?o1 ?j1
      (case F1 => assumption)
      (case N1 => assumption)
      (case o1 => assumption)
      (case j1 => exact CmJ.one (by walk_at "MINE look") (by assumption))
    · have e := cm_0 (k1 := ⟨x1, pl1, op1, f1, vx1, v1⟩) (sv1.var (by assumption))
      rw [e] at hret
      first | exact hret _ _ _ (by k_asm) (cb_drop (by assumption) (by walk_at "MINE sub")) | fail "end"
    · have e := cm_1 (k1 := ⟨x1, pl1, op1, f1, .int a1 t1, some a1⟩) rfl
      rw [e] at hret
      first | exact hret _ _ _ (by k_asm) (cb_drop (by assumption) (by walk_at "MINE sub")) | fail "end"
  · show wpAny _ _ _ _ _ _
    have hk1 := hks k1 (.head _)
    obtain ⟨i1, b1⟩ := kid_sound (hs k1 (.head _))
    obtain ⟨x1, pl1, op1, f1, vx1, v1⟩ := k1
    obtain ⟨⟨ty1, kl1, hn1, hf1⟩, sv1⟩ := hk1
    dsimp only at i1 b1 hn1 hf1 sv1
    obtain ⟨⟨to1, ho1⟩, -, -, -, hv1⟩ := hn1
    have hk2 := hks k2 (.tail _ (.head _))
    obtain ⟨i2, b2⟩ := kid_sound (hs k2 (.tail _ (.head _)))
    obtain ⟨x2, pl2, op2, f2, vx2, v2⟩ := k2
    obtain ⟨⟨ty2, kl2, hn2, hf2⟩, sv2⟩ := hk2
    dsimp only at i2 b2 hn2 hf2 sv2
    obtain ⟨⟨to2, ho2⟩, -, -, -, hv2⟩ := hn2
    have hkl1 : (kl, listOf [Value.ref x1, Value.ref x2].toArray n) ∈ news := hkl
    clear hks hs hkl hf1 hf2
    have gCmaskRow : True := trivial
    k_with "pyIter ref" => ((fail_if_success (fail_if_success (have hz9 := gCmaskRow))); k_here; k_dflt ((refine' my_list (CmJ news _ op1 op2) (CmJ.src hkl1) ?hh ?F ?N ?hj ?_ ?_; (case hh => rfl); (case F => assumption); (case N => assumption); (case hj => exact CmJ.zero (by walk_at "MINE look"))); (intro i v m₁ nx h9 tk9 I oI hin hJ hoff F9 N9; obtain ⟨e9, hme, hc1, hc2⟩ := hJ; subst e9; (rcases item2 hin with ⟨e8, e7⟩ | ⟨e8, e7⟩ <;> subst e8 e7); rotate_left; (have hd1 := hc1 (Nat.succ_pos _))); rotate_left; (intro m₁ nx h9 tk9 hJ F9 N9; obtain ⟨e9, hme, hc1, hc2⟩ := hJ; subst e9; have hd1 := hc1 (Nat.succ_pos _); have hd2 := hc2 (Nat.succ_lt_succ (Nat.succ_pos _)); obtain ⟨a1, t1, e1, e2⟩ := val_of sv1 hd1 i1; subst e1 e2; have hb1 := b1 _ rfl; obtain ⟨a2, t2, e1, e2⟩ := val_of sv2 hd2 i2; subst e1 e2; have hb2 := b2 _ rfl)))
    refine call_rq ?_
    k_dflt k_enter
    k_steps
    · have e := cm_2 (k1 := ⟨x1, pl1, op1, f1, .int a1 t1, some a1⟩) (k2 := ⟨x2, pl2, op2, f2, .int a2 t2, some a2⟩) rfl rfl
      rw [e] at hret
      first | exact hret _ _ _ (by k_asm) (cb_drop (by assumption) (by walk_at "MINE sub")) | fail "end"
    · refine' MyEnd.intro ?F2 ?N2 ?o2 ?j2
      (case F2 => assumption)
      (case N2 => assumption)
      (case o2 => assumption)
      (case j2 => exact CmJ.one (by walk_at "MINE look") (by assumption))
    · have e := cm_l (k1 := ⟨x1, pl1, op1, f1, vx1, v1⟩) (k2 := ⟨x2, pl2, op2, f2, vx2, v2⟩) (.inl (sv1.var (by assumption)))
      rw [e] at hret
      first | exact hret _ _ _ (by k_asm) (cb_drop (by assumption) (by walk_at "MINE sub")) | fail "end"
    · refine' MyEnd.intro ?F3 ?N3 ?o3 ?j3
      (case F3 => assumption)
      (case N3 => assumption)
      (case o3 => assumption)
      (case j3 => exact CmJ.two (by walk_at "MINE look") (by assumption) (by assumption))
    · have e := cm_l (k1 := ⟨x1, pl1, op1, f1, vx1, v1⟩) (k2 := ⟨x2, pl2, op2, f2, vx2, v2⟩) (.inr (sv2.var (by assumption)))
      rw [e] at hret
      first | exact hret _ _ _ (by k_asm) (cb_drop (by assumption) (by walk_at "MINE sub")) | fail "end"
/-! setlaw -/
def allK (es : List Elem) : List Kid := es.flatMap fun e => e.2
theorem allK_app (a b : List Elem) : allK (a ++ b) = allK a ++ allK b := List.flatMap_append
theorem take_next {α : Type} {l : List α} {i : Nat} {a : α} (h : l[i]? = some a) : l.take (i + 1) = l.take i ++ [a] := by
  rw [List.take_add_one, h]; rfl
theorem allK_next {es : List Elem} {i : Nat} {e : Elem} (h : es[i]? = some e) : allK (es.take (i + 1)) = allK (es.take i) ++ e.2 := by
  rw [take_next h, allK_app]
  simp [allK]
theorem split_at {α : Type} {l : List α} {i : Nat} {a : α} (h : l[i]? = some a) : l = l.take i ++ a :: l.drop (i + 1) := by
  obtain ⟨h1, h2⟩ := List.getElem?_eq_some_iff.mp h
  rw [← h2, List.getElem_cons_drop, List.take_append_drop]
theorem all_split {es : List Elem} {i j : Nat} {e : Elem} {k : Kid} (h : es[i]? = some e) (h2 : e.2[j]? = some k) : allK es = (allK (es.take i) ++ e.2.take j) ++ k :: (e.2.drop (j + 1) ++ allK (es.drop (i + 1))) := by
  have e1 := split_at h
  have e2 := split_at h2
  have e3 : allK (e :: es.drop (i + 1)) = e.2 ++ allK (es.drop (i + 1)) := by simp [allK]
  calc allK es = allK (es.take i) ++ allK (e :: es.drop (i + 1)) := by rw [← allK_app, ← e1]
    _ = allK (es.take i) ++ ((e.2.take j ++ k :: e.2.drop (j + 1)) ++ allK (es.drop (i + 1))) := by rw [e3, ← e2]
    _ = _ := by simp
theorem strOk_kid (f : Str) (v : Option Int) : PyData.strOk (kidCode f v) = true := by
  unfold kidCode
  repeat' split
  all_goals decide +kernel
theorem refs_get {ks : List Kid} {i : Nat} {v : Value} (h : (refs ks)[i]? = some v) : ∃ k, ks[i]? = some k ∧ v = .ref k.x := by
  rw [List.getElem?_map] at h
  obtain ⟨k, hk, e⟩ := Option.map_eq_some_iff.mp h
  exact ⟨k, hk, e.symm⟩
abbrev erefs (es : List Elem) : List Value := es.map fun e => Value.ref e.1
theorem erefs_get {es : List Elem} {i : Nat} {v : Value} (h : (erefs es)[i]? = some v) : ∃ e, es[i]? = some e ∧ v = .ref e.1 := by
  rw [List.getElem?_map] at h
  obtain ⟨k, hk, e⟩ := Option.map_eq_some_iff.mp h
  exact ⟨k, hk, e.symm⟩
/-- what holds between two operands of setnode's first loops -/
structure SetF (w : World) (pre Z : List (Addr × Obj)) (rl pd Ta e el : Addr) (pl : Int) (D : List Kid) (m : Str → Option Value) (rvs : List Value) (od : Obj) (Y : List (Addr × Obj)) : Prop where
  sub : ∀ p ∈ Z, p ∈ Y
  r : ∀ p ∈ Y, p.1 ≠ rl
  d : ∀ p ∈ Y, p.1 ≠ pd
  o : ∀ q ∈ pre, ∀ p ∈ Y, p.1 ≠ q.1
  rows : RowsAre Y rvs (rowsOf D)
  ip : IsPl PySem.Challenge.rw_nu0332_01.row.prog w od ((rowsOf D).map (·.1))
  n1 : m (Str.ofString "types") = some (.ref Ta)
  n2 : m (Str.ofString "errors") = some (.ref e)
  n3 : ∃ tp, m (Str.ofString "place") = some (.int pl tp)
  n4 : m (Str.ofString "elements") = some (.ref el)
  n5 : m (Str.ofString "sound") = some (.bool (rowsOf D).isEmpty)
def SetJ (w : World) (pre Z : List (Addr × Obj)) (rl pd Ta e el : Addr) (pl : Int) (D : List Kid) (m : Str → Option Value) (nx : List (Addr × Obj)) : Prop :=
  ∃ rvs nr od Y, nx = pre ++ (rl, listOf rvs.toArray nr) :: (pd, od) :: Y ∧ SetF w pre Z rl pd Ta e el pl D m rvs od Y
theorem SetJ.src {w : World} {pre Z : List (Addr × Obj)} {rl pd Ta e el : Addr} {pl : Int} {D : List Kid} {m : Str → Option Value} {nx : List (Addr × Obj)} {q : Addr × Obj} (h : q ∈ Z) (j : SetJ w pre Z rl pd Ta e el pl D m nx) : q ∈ nx := by
  obtain ⟨_, _, _, _, e, f⟩ := j
  rw [e]
  exact List.mem_append.mpr (.inr (.tail _ (.tail _ (f.sub _ h))))
section
variable {w : World} {pre Z : List (Addr × Obj)} {rl pd Ta e el : Addr} {pl : Int} {D : List Kid} {m m' : Str → Option Value} {rvs : List Value} {od od' : Obj} {Y : List (Addr × Obj)} {k : Kid}
theorem code_bad {f : Str} {v : Option Int} (h : (kidCode f v != Str.ofString "") = true) : (kidCode f v == Str.ofString "") = false := by simpa using h
theorem code_ok {f : Str} {v : Option Int} (h : (kidCode f v != Str.ofString "") = false) : (kidCode f v == Str.ofString "") = true := by simpa using h
theorem SetF.bad {r n : Nat} {tp tc : Tok} (h : SetF w pre Z rl pd Ta e el pl D m rvs od Y) (hk : (kidCode k.f k.v != Str.ofString "") = true) (hpl : IsPl PySem.Challenge.rw_nu0332_01.row.prog w od' ((rowsOf D).map (·.1) ++ [k.pl])) (h1 : @Ne Nat r rl) (h2 : @Ne Nat r pd) (h3 : ∀ q ∈ pre, @Ne Nat r q.1)
    (e1 : m' (Str.ofString "types") = some (.ref Ta)) (e2 : m' (Str.ofString "errors") = some (.ref e)) (e3 : ∃ tp, m' (Str.ofString "place") = some (.int pl tp)) (e4 : m' (Str.ofString "elements") = some (.ref el)) (e5 : m' (Str.ofString "sound") = some (.bool false)) :
    SetF w pre Z rl pd Ta e el pl (D ++ [k]) m' (rvs ++ [.ref r]) od' ((r, tupOf #[.int k.pl tp, .str (kidCode k.f k.v) tc] n) :: Y) := by
  have er : rowsOf (D ++ [k]) = rowsOf D ++ [(k.pl, kidCode k.f k.v)] := by rw [rowsOf_app, rowsOf_one, rowOf_bad (code_bad hk)]
  refine ⟨fun p hp => .tail _ (h.sub p hp), List.forall_mem_cons.mpr ⟨h1, h.r⟩, List.forall_mem_cons.mpr ⟨h2, h.d⟩, fun q hq => List.forall_mem_cons.mpr ⟨h3 q hq, h.o q hq⟩, ?_, ?_, e1, e2, e3, e4, ?_⟩
  · rw [er]; exact (h.rows.mono fun _ hp => .tail _ hp).snoc (strOk_kid _ _) (.head _)
  · rw [er, List.map_append]; exact hpl
  · rw [er, e5]; congr 2; simp
theorem SetF.good (h : SetF w pre Z rl pd Ta e el pl D m rvs od Y) (hk : (kidCode k.f k.v != Str.ofString "") = false)
    (e1 : m' (Str.ofString "types") = some (.ref Ta)) (e2 : m' (Str.ofString "errors") = some (.ref e)) (e3 : ∃ tp, m' (Str.ofString "place") = some (.int pl tp)) (e4 : m' (Str.ofString "elements") = some (.ref el)) (e5 : m' (Str.ofString "sound") = some (.bool (rowsOf D).isEmpty)) :
    SetF w pre Z rl pd Ta e el pl (D ++ [k]) m' rvs od Y := by
  have er : rowsOf (D ++ [k]) = rowsOf D := by rw [rowsOf_app, rowsOf_one, rowOf_ok (code_ok hk), List.append_nil]
  exact ⟨h.sub, h.r, h.d, h.o, er ▸ h.rows, er ▸ h.ip, e1, e2, e3, e4, er ▸ e5⟩
theorem SetF.start {Y : List (Addr × Obj)} {i : Nat} {es : List Elem} (h : SetF w [] Z rl pd Ta e el pl D m rvs od Y) (hD : D = allK (es.take i)) {I : Addr} {oI : Obj} (hI : ∀ p ∈ Y, p.1 ≠ I) {ks : List Kid}
    (e1 : m' (Str.ofString "types") = some (.ref Ta)) (e2 : m' (Str.ofString "errors") = some (.ref e)) (e3 : ∃ tp, m' (Str.ofString "place") = some (.int pl tp)) (e4 : m' (Str.ofString "elements") = some (.ref el)) (e5 : m' (Str.ofString "sound") = some (.bool (rowsOf D).isEmpty)) :
    SetF w [(I, oI)] Z rl pd Ta e el pl (allK (es.take i) ++ ks.take 0) m' rvs od Y := by
  have er : allK (es.take i) ++ ks.take 0 = D := by rw [List.take_zero, List.append_nil, hD]
  rw [er]
  exact ⟨h.sub, h.r, h.d, fun q hq => by rw [List.mem_singleton.mp hq]; exact hI, h.rows, h.ip, e1, e2, e3, e4, e5⟩
end
theorem allK_full {es : List Elem} {i : Nat} {ea : Addr} {ks : List Kid} (h : es[i]? = some (ea, ks)) : allK (es.take i) ++ ks.take (refs ks).length = allK (es.take (i + 1)) := by
  rw [allK_next h, List.length_map, List.take_length]
/-- what setnode's second loop reckons -/
def maskUp3 (es : List Elem) (i : Nat) : Int := ((es.take i).map fun e => cmOf e.2).foldl Builtin.bitOr 0
theorem maskUp3_next {es : List Elem} {i : Nat} {e : Elem} (h : es[i]? = some e) : maskUp3 es (i + 1) = Builtin.bitOr (maskUp3 es i) (cmOf e.2) := by
  unfold maskUp3
  rw [take_next h, List.map_append, List.foldl_append]
  rfl
inductive SetRes (Y : List (Addr × Obj)) (x : Addr) (pl : Int) (tm el : Addr) (es : List Elem) : Prop
  | bad {kl : Addr} {val : Value} : rowsOf (allK es) ≠ [] → NodeF Y x (Str.ofString "const") pl tm kl val → SetRes Y x pl tm el es
  | var {val : Value} : rowsOf (allK es) = [] → (∃ e ∈ es, cmOf e.2 < 0) → NodeF Y x (Str.ofString "set") pl tm el val → SetRes Y x pl tm el es
  | val {kl : Addr} {t : Tok} : rowsOf (allK es) = [] → (∀ e ∈ es, 0 ≤ cmOf e.2) → NodeF Y x (Str.ofString "const") pl tm kl (.int (maskUp3 es es.length) t) → SetRes Y x pl tm el es
theorem take_all {α : Type} (l : List α) : l.take l.length = l := List.take_length
theorem SetF.bare {w : World} {pre Z : List (Addr × Obj)} {rl pd Ta e el : Addr} {pl : Int} {D : List Kid} {m : Str → Option Value} {rvs : List Value} {od : Obj} {Y : List (Addr × Obj)} (h : SetF w pre Z rl pd Ta e el pl D m rvs od Y) : SetF w [] Z rl pd Ta e el pl D m rvs od Y :=
  ⟨h.sub, h.r, h.d, (fun _ hq => nomatch hq), h.rows, h.ip, h.n1, h.n2, h.n3, h.n4, h.n5⟩
theorem SetF.rowsLen {w : World} {pre Z : List (Addr × Obj)} {rl pd Ta e el : Addr} {pl : Int} {D r : List Kid} {k : Kid} {m : Str → Option Value} {rvs : List Value} {od : Obj} {Y : List (Addr × Obj)} {es : List Elem} (h : SetF w pre Z rl pd Ta e el pl D m rvs od Y) (ha : allK es = D ++ k :: r) (hl : (allK es).length ≤ 100) : rvs.length ≤ 1000 ∧ ((rowsOf D).map (·.1)).length ≤ 1000 := by
  have h1 := h.rows.length
  have h2 := rowsOf_len D
  rw [ha, List.length_append] at hl
  rw [List.length_map]
  omega
theorem erefs_full (es : List Elem) : es.take (erefs es).length = es := by rw [List.length_map, List.take_length]
def Set3 (base : List (Addr × Obj)) (Ta el : Addr) (pl : Int) (es : List Elem) (i : Nat) (m : Str → Option Value) (nx : List (Addr × Obj)) : Prop :=
  nx = base ∧ m (Str.ofString "types") = some (.ref Ta) ∧ (∃ tp, m (Str.ofString "place") = some (.int pl tp)) ∧ m (Str.ofString "elements") = some (.ref el) ∧ (∃ t, m (Str.ofString "mask") = some (.int (maskUp3 es i) t)) ∧ ∀ e ∈ es.take i, 0 ≤ cmOf e.2
theorem Set3.src {base : List (Addr × Obj)} {Ta el : Addr} {pl : Int} {es : List Elem} {q : Addr × Obj} (h : q ∈ base) (i : Nat) (m : Str → Option Value) (nx : List (Addr × Obj)) (j : Set3 base Ta el pl es i m nx) : q ∈ nx := j.1 ▸ h
theorem Set3.next {base : List (Addr × Obj)} {Ta el : Addr} {pl : Int} {es : List Elem} {i : Nat} {m' : Str → Option Value} {e : Elem} {tp t : Tok} (hp : ∀ e ∈ es.take i, 0 ≤ cmOf e.2) (h : es[i]? = some e) (hc : 0 ≤ cmOf e.2) (e1 : m' (Str.ofString "types") = some (.ref Ta)) (e2 : m' (Str.ofString "place") = some (.int pl tp)) (e3 : m' (Str.ofString "elements") = some (.ref el)) (e4 : m' (Str.ofString "mask") = some (.int (Builtin.bitOr (maskUp3 es i) (cmOf e.2)) t)) :
    Set3 base Ta el pl es (i + 1) m' base := by
  refine ⟨rfl, e1, ⟨tp, e2⟩, e3, ⟨t, by rw [maskUp3_next h]; exact e4⟩, ?_⟩
  rw [take_next h]
  intro x hx
  rcases List.mem_append.mp hx with hx | hx
  · exact hp x hx
  · rw [List.mem_singleton.mp hx]; exact hc
theorem erefs_len (es : List Elem) : (erefs es).length = es.length := List.length_map ..
/-! setn -/
theorem reg58 : True := by
  w_top off
  (k_with "MINE none" => (skip))
  trivial
theorem off2 {I rl pd : Nat} {o o' : Obj} {Y : List (Addr × Obj)} (x x' : Obj) (h : ∀ p ∈ (rl, o) :: (pd, o') :: Y, p.1 ≠ I) : ∀ p ∈ (rl, x) :: (pd, x') :: Y, p.1 ≠ I := by
  simp only [List.forall_mem_cons] at h ⊢
  exact h
theorem perm3 {α : Type} {a b c : α} {Y l : List α} (h : ∀ p ∈ a :: b :: c :: Y, p ∈ l) : ∀ p ∈ b :: c :: a :: Y, p ∈ l := by
  simp only [List.forall_mem_cons] at h ⊢
  exact ⟨h.2.1, h.2.2.1, h.1, h.2.2.2⟩
theorem err_mark1 {prog : Program} {w : World} {A : Around} {E : Value → Shared → Prop} {s : Shared} {K : Frag} {e rl pd L : Addr} {h₀ : Heap} {m : Str → Option Value} {news Y : List (Addr × Obj)} {pl : Sem Bool} {Q : Value × List Value → Shared → Prop} {f : Addr} (F : Fr h₀ L s.heap m) (X₀ : K.In h₀) (N : News h₀ L s.heap news) (hA : ErrIn Y e rl pd) (hs : ∀ p ∈ Y, p ∈ news) (hg : plainGet K 207 (Str.ofString "mark") = true)
    (hf : findIn K (.ref 207) (Str.ofString "mark") = some (some (.ref f))) (ht : isFn K (.ref f) = true) (h : Q (.ref f, [.ref e]) s) : wpAny (model prog w) A (getMethod (.ref e) (Str.ofString "mark") pl) Q E s := by
  obtain ⟨dx, es, n, a, b, _, _, c⟩ := hA
  exact method_inst F X₀ (InstAt.of_news N (hs _ a) (hs _ b)) hg hf ht c h
def Mark2C (w : World) (mean : ExcName → Option Value) (mg mb : Str → Option Value) : Prop :=
  ∀ {dp un : Nat} {gd : Option (List Code)} {cn : Str} {cs : Scope} {a : Addr} {ccd : Value} {cl : List (Str × Addr)} {outer : List Env} {A₀ : Around} {base h₀ : Heap} {L : Addr} {m : Str → Option Value} {hp : Heap} {gns : Array GenState} {drw : Drawn} {tk0 : Nat} {sos : OsState} {Q E : Value → Shared → Prop} {news : List (Addr × Obj)}
    {upd : Obj → Obj → List (Addr × Obj)} {e rl pd : Addr} {rows : List Value} {n : Nat} {od : Obj} {ps : List Int} {p : Int} {code : Str} {tp tc : Tok},
    Below A₀ base outer h₀ → Fr h₀ L hp m → (Mine.R.heap_1_1 w.params).In h₀ → News h₀ L hp news → Top Mine.R.view_1_2 (looseW Mine.R.view_1_2 []) mean mg mb h₀ → cs.kind = .function →
    dp + 3 < recursionLimit → un + 16 < cLine → ErrIn news e rl pd → UpdF2 rl pd (listOf rows.toArray n) od news upd → (∀ x y, ErrIn (upd x y) e rl pd) → (pd == sysModules) = false → IsPl PySem.Challenge.rw_nu0332_01.row.prog w od ps → p ∉ ps → rows.length ≤ 1000 → ps.length ≤ 1000 →
    (∀ (r : Nat) (od' : Obj) (h' : Heap) (tk' : Nat), Fr h₀ L h' m → News h₀ L h' ((r, tupOf #[.int p tp, .str code tc] 0) :: upd (listOf (rows ++ [Value.ref r]).toArray (n + 1)) od') → IsPl PySem.Challenge.rw_nu0332_01.row.prog w od' (ps ++ [p]) → (∀ x y, ∀ q ∈ upd x y, q.1 < r) → Q .none ⟨h', gns, drw, tk', sos⟩) →
    wpAny (model PySem.Challenge.rw_nu0332_01.row.prog w) (ktrTop dp un gd cn cs L a ccd cl outer) (call (.ref 190) [.ref e, .int p tp, .str code tc]) Q E ⟨hp, gns, drw, tk0, sos⟩
set_option maxHeartbeats 8000000 in
theorem mark2_ct (w : World) (mean : ExcName → Option Value) (mg mb : Str → Option Value) : Mark2C w mean mg mb := by
  unfold Mark2C
  intro dp un gd cn cs a ccd cl outer A₀ base h₀ L m hp gns drw tk0 sos Q E news upd e rl pd rows n od ps p code tp tc B F X N T hk hd hu _ hU hE hlo hpl hnp hz1 hz2 hret
  exact mark_ct _ _ _ _ B F X N T hk hd hu hU hE hlo hpl hnp hz1 hz2 hret
-- priv>
theorem reg60 : True := by
  (k_with "MINE upd2" => (first | (refine' UpdF2.hb ?a_430 ?b_430; (case a_430 => k_all); (case b_430 => k_updF)) | (refine' UpdF2.ha ?a_430 ?b_430; (case a_430 => k_all); (case b_430 => k_updF)) | (refine' UpdF2.tail ?a_430 ?b_430 ?c_430; (case a_430 => k_ne); (case b_430 => k_ne); (case c_430 => walk_at "MINE upd2"))))
  (k_with "X k_all" => (with_reducible assumption))
  (k_with "getMethod ref" => ((k_here; (with_reducible show wpAny _ _ (getMethod _ (Str.ofString "mark") _) _ _ _); k_dflt (refine' err_mark1 ?k1_432 ?k2_432 ?k3_432 ?k4_432 ?k5_432 ?k6_432 ?k7_432 ?k8_432 ?_; (case k1_432 => k_asm); (case k2_432 => k_asm); (case k3_432 => k_asm); (case k4_432 => with_reducible assumption); (case k5_432 => walk_at "MINE sub"); (case k6_432 => k_is); (case k7_432 => k_is); (case k8_432 => k_is); k_whole))))
  (k_with "call ref" => ((k_here; (with_reducible show wpAny _ _ (call (Value.ref 155) _) _ _ _); k_dflt (refine' elem_ct _ _ _ _ ?k1_433 ?k2_433 ?k3_433 ?k4_433 ?k5_433 ?kK_433 ?kd_433 ?ku_433 ?p0_433 ?p1_433 ?p2_433 ?_; (case k1_433 => k_asm); (case k2_433 => k_asm); (case k3_433 => k_asm); (case k4_433 => k_asm); (case k5_433 => k_asm); (case kK_433 => first | exact rfl | assumption); (case kd_433 => ktr_room); (case ku_433 => ktr_units); (case p0_433 => exact NodeF.mono (by assumption) (by walk_at "MINE sub")); (case p1_433 => exact TyF.mono (by assumption) (by walk_at "MINE sub")); (case p2_433 => assumption)); intro t' h' tk' F' N'; (try k_sweep); (try dsimp only); (try k_fold))))
  (k_with "call ref" => ((k_here; (with_reducible show wpAny _ _ (call (Value.ref 162) _) _ _ _); k_dflt (refine' cmask_ct _ _ _ _ ?k1_434 ?k2_434 ?k3_434 ?k4_434 ?k5_434 ?kK_434 ?kd_434 ?ku_434 ?p0_434 ?p1_434 ?_; (case k1_434 => k_asm); (case k2_434 => k_asm); (case k3_434 => k_asm); (case k4_434 => k_asm); (case k5_434 => k_asm); (case kK_434 => first | exact rfl | assumption); (case kd_434 => ktr_room); (case ku_434 => ktr_units); (case p0_434 => exact ElemOk.mono (by assumption) (by walk_at "MINE sub")); (case p1_434 => assumption)); intro t' h' tk' F' N'; (try k_sweep); (try dsimp only); (try k_fold))))
  (k_with "call ref" => ((k_here; (with_reducible show wpAny _ _ (call (Value.ref 190) _) _ _ _); k_dflt (refine' mark2_ct _ _ _ _ ?k1_435 ?k2_435 ?k3_435 ?k4_435 ?k5_435 ?kK_435 ?kd_435 ?ku_435 ?p0_435 ?p1_435 ?p2_435 ?p3_435 ?p4_435 ?p5_435 ?p6_435 ?p7_435 ?_; (case k1_435 => k_asm); (case k2_435 => k_asm); (case k3_435 => k_asm); (case k4_435 => k_asm); (case k5_435 => k_asm); (case kK_435 => first | exact rfl | assumption); (case kd_435 => ktr_room); (case ku_435 => ktr_units); (case p0_435 => exact ErrIn.mono (by assumption) (by walk_at "MINE sub")); (case p1_435 => walk_at "MINE upd2"); (case p2_435 => (intro x y; (try dsimp only); exact ErrIn.mono (by assumption) (by walk_at "MINE sub"))); (case p3_435 => assumption); (case p4_435 => assumption); (case p5_435 => assumption); (case p6_435 => first | assumption | omega); (case p7_435 => first | assumption | omega)); intro r' od' h' tk' F' N' hpl' l1; (try dsimp only at N'); (try k_sweep); (try dsimp only); (try k_fold))))
  trivial
-- <priv
def SetC (w : World) (mean : ExcName → Option Value) (mg mb : Str → Option Value) : Prop :=
  ∀ {dp un : Nat} {gd : Option (List Code)} {cn : Str} {cs : Scope} {a : Addr} {ccd : Value} {cl : List (Str × Addr)} {outer : List Env} {A₀ : Around} {base h₀ : Heap} {L : Addr} {m : Str → Option Value} {hp : Heap} {gns : Array GenState} {drw : Drawn} {tk0 : Nat} {sos : OsState} {Q E : Value → Shared → Prop} {news : List (Addr × Obj)}
    {Z : List (Addr × Obj)} {rl pd Ta tm e el : Addr} {od : Obj} {nr ne : Nat} {pl : Int} {tp : Tok} {es : List Elem},
    Below A₀ base outer h₀ → Fr h₀ L hp m → (Mine.R.heap_1_1 w.params).In h₀ → News h₀ L hp news → Top Mine.R.view_1_2 (looseW Mine.R.view_1_2 []) mean mg mb h₀ → cs.kind = .function →
    dp + 16 < recursionLimit → un + 90 < cLine → (rl, listOf (List.nil (α := Value)).toArray nr) ∈ news → (pd, od) ∈ news → (∀ p ∈ Z, p ∈ news) → (∀ p ∈ Z, p.1 ≠ rl) → (∀ p ∈ Z, p.1 ≠ pd) → @Ne Nat rl pd → ErrIn Z e rl pd → (pd == sysModules) = false → IsPl PySem.Challenge.rw_nu0332_01.row.prog w od [] → HasA Z Ta 285 "mask" (.ref tm) → (el, listOf (erefs es).toArray ne) ∈ Z → (∀ x ∈ es, ElemOk Z x) → Ups (allK es) → es.length ≤ 10 → (allK es).length ≤ 100 →
    (∀ (x' : Nat) (rvs : List Value) (nr' : Nat) (od' : Obj) (Y : List (Addr × Obj)) (h' : Heap) (tk' : Nat), Fr h₀ L h' m → News h₀ L h' ((rl, listOf rvs.toArray nr') :: (pd, od') :: Y) → (∀ p ∈ Z, p ∈ Y) → ErrIn Y e rl pd → RowsAre Y rvs (rowsOf (allK es)) → SetRes Y x' pl tm el es → Q (.ref x') ⟨h', gns, drw, tk', sos⟩) →
    wpAny (model PySem.Challenge.rw_nu0332_01.row.prog w) (ktrTop dp un gd cn cs L a ccd cl outer) (call (.ref 169) [.ref Ta, .ref e, .int pl tp, .ref el]) Q E ⟨hp, gns, drw, tk0, sos⟩
section
variable {w : World} {Z : List (Addr × Obj)} {rl pd Ta e el : Addr} {pl : Int} {D : List Kid} {m m' : Str → Option Value} {rvs : List Value} {od od2 : Obj} {Y : List (Addr × Obj)} {k : Kid} {g h' : Heap} {L : Addr} {I I2 r nr : Nat} {oI oI2 : Obj} {s1 : Shared} {tk' : Nat} {tp tc : Tok} {ks : List Kid} {D0 : List Kid} {j : Nat}
theorem setT_bad (hS : SetF w [(I, oI)] Z rl pd Ta e el pl (D0 ++ ks.take j) m rvs od Y) (hk : ks[j]? = some k) (hb : (kidCode k.f k.v != Str.ofString "") = true) (hpl : IsPl PySem.Challenge.rw_nu0332_01.row.prog w od2 ((rowsOf (D0 ++ ks.take j)).map (·.1) ++ [k.pl]))
    (l1 : ∀ (x y : Obj), ∀ q ∈ (I2, oI2) :: (I, oI) :: (rl, x) :: (pd, y) :: Y, q.1 < r) (hoff : ∀ p ∈ (I, oI) :: (rl, listOf rvs.toArray nr) :: (pd, od) :: Y, p.1 ≠ I2)
    (F : Fr g L h' m') (N : News g L h' ((r, tupOf #[.int k.pl tp, .str (kidCode k.f k.v) tc] 0) :: (I2, oI2) :: (I, oI) :: (rl, listOf (rvs ++ [Value.ref r]).toArray (nr + 1)) :: (pd, od2) :: Y))
    (e1 : m' (Str.ofString "types") = some (.ref Ta)) (e2 : m' (Str.ofString "errors") = some (.ref e)) (e3 : ∃ tp, m' (Str.ofString "place") = some (.int pl tp)) (e4 : m' (Str.ofString "elements") = some (.ref el)) (e5 : m' (Str.ofString "sound") = some (.bool false)) :
    MyEnd g L (SetJ w [(I, oI)] Z rl pd Ta e el pl (D0 ++ ks.take (j + 1))) I2 oI2 s1 { s1 with heap := h', toks := tk' } := by
  have lI2 : I2 < r := l1 od od _ (.head _)
  have lI : I < r := l1 od od _ (.tail _ (.head _))
  have lr : @LT.lt Nat _ rl r := l1 od od (rl, od) (.tail _ (.tail _ (.head _)))
  have lp : @LT.lt Nat _ pd r := l1 od od (pd, od) (.tail _ (.tail _ (.tail _ (.head _))))
  refine MyEnd.intro (nx := (I, oI) :: (rl, listOf (rvs ++ [Value.ref r]).toArray (nr + 1)) :: (pd, od2) :: (r, tupOf #[.int k.pl tp, .str (kidCode k.f k.v) tc] 0) :: Y) F (fun p hp => N p ?_) ?_ ?_
  · simp only [List.mem_cons] at hp ⊢
    rcases hp with h | h | h | h | h | h <;> simp [h]
  · simp only [List.forall_mem_cons] at hoff ⊢
    exact ⟨hoff.1, hoff.2.1, hoff.2.2.1, Nat.ne_of_gt lI2, hoff.2.2.2⟩
  · rw [take_next hk, ← List.append_assoc]
    exact ⟨_, _, _, _, rfl, hS.bad hb hpl (Nat.ne_of_gt lr) (Nat.ne_of_gt lp) (fun q hq => by rw [List.mem_singleton.mp hq]; exact Nat.ne_of_gt lI) e1 e2 e3 e4 e5⟩
theorem setT_good (hS : SetF w [(I, oI)] Z rl pd Ta e el pl (D0 ++ ks.take j) m rvs od Y) (hk : ks[j]? = some k) (hb : (kidCode k.f k.v != Str.ofString "") = false)
    (hoff : ∀ p ∈ (I, oI) :: (rl, listOf rvs.toArray nr) :: (pd, od) :: Y, p.1 ≠ I2)
    (F : Fr g L h' m') (N : News g L h' ((I2, oI2) :: (I, oI) :: (rl, listOf rvs.toArray nr) :: (pd, od) :: Y))
    (e1 : m' (Str.ofString "types") = some (.ref Ta)) (e2 : m' (Str.ofString "errors") = some (.ref e)) (e3 : ∃ tp, m' (Str.ofString "place") = some (.int pl tp)) (e4 : m' (Str.ofString "elements") = some (.ref el)) (e5 : m' (Str.ofString "sound") = some (.bool (rowsOf (D0 ++ ks.take j)).isEmpty)) :
    MyEnd g L (SetJ w [(I, oI)] Z rl pd Ta e el pl (D0 ++ ks.take (j + 1))) I2 oI2 s1 { s1 with heap := h', toks := tk' } := by
  refine MyEnd.intro F N hoff ?_
  rw [take_next hk, ← List.append_assoc]
  exact ⟨_, _, _, _, rfl, hS.good hb e1 e2 e3 e4 e5⟩
theorem setT_out {pre : List (Addr × Obj)} (hS : SetF w pre Z rl pd Ta e el pl D m rvs od Y) (h1 : @Ne Nat rl I) (h2 : @Ne Nat pd I) (h3 : ∀ p ∈ Y, p.1 ≠ I) (F : Fr g L h' m) (N : News g L h' ((I, oI) :: (rl, listOf rvs.toArray nr) :: (pd, od) :: Y)) : MyEnd g L (SetJ w [] Z rl pd Ta e el pl D) I oI s1 { s1 with heap := h', toks := tk' } :=
  .intro F N (List.forall_mem_cons.mpr ⟨h1, List.forall_mem_cons.mpr ⟨h2, h3⟩⟩) ⟨_, _, _, _, rfl, hS.bare⟩
end
theorem sub2b {a b : Addr × Obj} {Z news : List (Addr × Obj)} (h1 : a ∈ news) (h2 : b ∈ news) (h3 : ∀ p ∈ Z, p ∈ news) : ∀ p ∈ a :: b :: Z, p ∈ news := List.forall_mem_cons.mpr ⟨h1, List.forall_mem_cons.mpr ⟨h2, h3⟩⟩
theorem ne_nil_of {l : List (Int × Str)} (h : l.isEmpty = false) : l ≠ [] := fun e => by rw [e] at h; cases h
set_option maxHeartbeats 8000000 in
theorem setn_ct (w : World) (mean : ExcName → Option Value) (mg mb : Str → Option Value) : SetC w mean mg mb := by
  unfold SetC
  intro dp un gd cn cs a ccd cl outer A₀ base h₀ L m hp gns drw tk0 sos Q E news Z rl pd Ta tm e el od nr ne pl tp es B F X N T hk hd hu hrl hpd hZ hZr hZd hne hE hlo hip hT hel hes hup hl1 hl2 hret
  have N0 : News h₀ L hp ((rl, listOf (List.nil (α := Value)).toArray nr) :: (pd, od) :: Z) := fun p hp => by
    rcases List.mem_cons.mp hp with e | hp
    · exact e ▸ N _ hrl
    · rcases List.mem_cons.mp hp with e | hp
      · exact e ▸ N _ hpd
      · exact N _ (hZ _ hp)
  clear N hrl hpd hZ
  have gSetnRow : True := trivial
  k_with "pyIter ref" => ((fail_if_success (fail_if_success (have hz9 := gSetnRow))); k_here; first
    | k_dflt ((refine' my_list (Set3 _ Ta el pl es) (Set3.src (q := (el, listOf (erefs es).toArray ne)) ?sC) ?hhC ?FC ?NC ?hjC ?_ ?_; (case hhC => rfl); (case FC => assumption); (case NC => assumption); (case hjC => exact ⟨rfl, by walk_at "MINE look", ⟨_, by walk_at "MINE look"⟩, by walk_at "MINE look", ⟨_, by exact if_hd⟩, fun _ h => nomatch h⟩); (case sC => exact .tail _ (.tail _ (hS.sub _ hel)))); (intro i v m₁ nx h9 tk9 I oI hin hJ hoff F9 N9; obtain ⟨x, hx, ev⟩ := erefs_get hin; subst ev; obtain ⟨e9, hn1, ⟨tp3, hn3⟩, hn4, ⟨tm3, hn6⟩, hpos⟩ := hJ; subst e9; (try dsimp only at F9 N9); have hxe := (hes _ (List.mem_of_getElem? hx)).mono hS.sub; have hxs : ∀ k ∈ x.2, (k.code == Str.ofString "") = true := fun k hk => rowsOf_nil (List.isEmpty_iff.mp (by assumption)) k (List.mem_flatMap.mpr ⟨x, List.mem_of_getElem? hx, hk⟩)); rotate_left; (intro m₁ nx h9 tk9 hJ F9 N9; obtain ⟨e9, hn1, ⟨tp3, hn3⟩, hn4, ⟨tm3, hn6⟩, hpos⟩ := hJ; subst e9; (try dsimp only at F9 N9); rw [erefs_full] at hpos; rw [erefs_len] at hn6); rotate_left)
    | k_dflt ((refine' my_list (fun j => SetJ w [(I, oI)] Z rl pd Ta e el pl (allK (es.take i) ++ ks.take j)) (fun j m nx q => SetJ.src hkl9 q) ?hhB ?FB ?NB ?hjB ?_ ?_; (case hhB => rfl); (case FB => assumption); (case NB => assumption); (case hjB => exact ⟨rvs, nrv, od', Y, rfl, hS.start rfl hIY (by walk_at "MINE look") (by walk_at "MINE look") ⟨_, by walk_at "MINE look"⟩ (by walk_at "MINE look") (by walk_at "MINE look")⟩)); (intro j v m₂ nx h9 tk9 I2 oI2 hin2 hJ hoff2 F9 N9; obtain ⟨k, hk, ev⟩ := refs_get hin2; subst ev; obtain ⟨rvs, nrv, od', Y, e9, hS⟩ := hJ; dsimp only [List.nil_append, List.cons_append] at e9; subst e9; (try dsimp only at F9 N9); have hA2 := off1 hoff2; have hB2 := off1 hA2.2; have hC2 := off1 hB2.2; have hfr := ups_fresh hup (all_split hx hk); have hlen := hS.rowsLen (all_split hx hk) hl2; have hok := (hks9 k (List.mem_of_getElem? hk)).mono hS.sub; obtain ⟨⟨ty, kl, hn, hf⟩, hsv⟩ := hok; have hn' := hn; obtain ⟨-, ⟨tpk, hpk⟩, -, -, -⟩ := hn'; have hEY := hE.mono hS.sub; have hrY := hS.r; have hdY := hS.d; have hoY := hS.o _ (.head _); have hipY := hS.ip; obtain ⟨hz1, hz2⟩ := hlen; have hn1 := hS.n1; have hn2 := hS.n2; obtain ⟨tp3, hn3⟩ := hS.n3; have hn4 := hS.n4; have hn5 := hS.n5); rotate_left; (intro m₂ nx h9 tk9 hJ F9 N9; obtain ⟨rvs, nrv, od', Y, e9, hS⟩ := hJ; dsimp only [List.nil_append, List.cons_append] at e9; subst e9; (try dsimp only at F9 N9); rw [allK_full hx] at hS; have hoY := hS.o _ (.head _)); rotate_left)
    | k_dflt ((refine' my_list (fun i => SetJ w [] Z rl pd Ta e el pl (allK (es.take i))) (fun i m nx q => SetJ.src hel q) ?hhA ?FA ?NA ?hjA ?_ ?_; (case hhA => rfl); (case FA => assumption); (case NA => assumption); (case hjA => exact ⟨[], nr, od, Z, rfl, ⟨fun _ h => h, hZr, hZd, (fun _ h => nomatch h), .nil, hip, by walk_at "MINE look", by walk_at "MINE look", ⟨_, by walk_at "MINE look"⟩, by walk_at "MINE look", by exact if_hd⟩⟩)); (intro i v m₁ nx h9 tk9 I oI hin hJ hoff F9 N9; obtain ⟨⟨ea, ks⟩, hx, ev⟩ := erefs_get hin; subst ev; obtain ⟨rvs, nrv, od', Y, e9, hS⟩ := hJ; dsimp only [List.nil_append] at e9; subst e9; (try dsimp only at F9 N9); have hA := off1 hoff; have hB := off1 hA.2; have hIY := hB.2; have hnZ := hes _ (List.mem_of_getElem? hx); obtain ⟨⟨op9, pl9, ty9, kl9, n9, val9, hn9, hkl9⟩, hks9, hlen9⟩ := hnZ; dsimp only at hn9 hkl9 hks9 hlen9; have hkk := hn9.kids.mono hS.sub; have hn1 := hS.n1; have hn2 := hS.n2; obtain ⟨tp3, hn3⟩ := hS.n3; have hn4 := hS.n4; have hn5 := hS.n5); rotate_left; (intro m₁ nx h9 tk9 hJ F9 N9; obtain ⟨rvs, nrv, od', Y, e9, hS⟩ := hJ; dsimp only [List.nil_append] at e9; subst e9; (try dsimp only at F9 N9); rw [erefs_full] at hS; have hTY := hT.mono hS.sub; have hn1 := hS.n1; obtain ⟨tp3, hn3⟩ := hS.n3; have hn4 := hS.n4; have hn5 := hS.n5); rotate_left))
  refine call_rq ?_
  k_dflt k_enter
  k_steps
  · first | exact setT_bad hS hk (by assumption) (by assumption) (by assumption) hoff2 (by assumption) (by assumption) (by walk_at "MINE look") (by walk_at "MINE look") ⟨_, by walk_at "MINE look"⟩ (by walk_at "MINE look") (by walk_at "MINE look") | fail "end"
  · first | exact setT_good hS hk (by assumption) hoff2 (by assumption) (by assumption) (by walk_at "MINE look") (by walk_at "MINE look") ⟨_, by walk_at "MINE look"⟩ (by walk_at "MINE look") (by walk_at "MINE look") | fail "end"
  · first | exact setT_out hS hA.1 hB.1 hoY (by assumption) (by assumption) | fail "end"
  · first | exact hret _ rvs nrv od' (_ :: _ :: Y) _ _ (by k_asm) (cb_drop (by assumption) (sub2b (by k_mem) (by k_mem) (sub_cons (sub_cons (by walk_at "MINE sub"))))) (fun p hp => .tail _ (.tail _ (hS.sub p hp))) (hE.mono fun p hp => .tail _ (.tail _ (hS.sub p hp))) (hS.rows.mono fun _ hp => .tail _ (.tail _ hp)) (.var (List.isEmpty_iff.mp (by assumption)) ⟨x, List.mem_of_getElem? hx, by assumption⟩ (nodeF_of (.head _) (.tail _ (.head _)) rfl)) | fail "end"
  · refine' MyEnd.intro ?F4 ?N4 ?o4 ?j4
    (case F4 => assumption)
    (case N4 => assumption)
    (case o4 => assumption)
    (case j4 => refine' Set3.next hpos hx ?n1 ?n2 ?n3 ?n4 ?n5; (case n1 => omega); (case n2 => walk_at "MINE look"); (case n3 => walk_at "MINE look"); (case n4 => walk_at "MINE look"); (case n5 => walk_at "MINE look"))
  · first | exact hret _ rvs nrv od' (_ :: _ :: _ :: Y) _ _ (by k_asm) (cb_drop (by assumption) (sub2b (by k_mem) (by k_mem) (sub_cons (sub_cons (sub_cons (by walk_at "MINE sub")))))) (fun p hp => .tail _ (.tail _ (.tail _ (hS.sub p hp)))) (hE.mono fun p hp => .tail _ (.tail _ (.tail _ (hS.sub p hp)))) (hS.rows.mono fun _ hp => .tail _ (.tail _ (.tail _ hp))) (.val (List.isEmpty_iff.mp (by assumption)) hpos (nodeF_of (.head _) (.tail _ (.head _)) rfl)) | fail "end"
  · first | exact hret _ rvs nrv od' (_ :: _ :: _ :: Y) _ _ (by k_asm) (cb_drop (by assumption) (sub2b (by k_mem) (by k_mem) (sub_cons (sub_cons (sub_cons (by walk_at "MINE sub")))))) (fun p hp => .tail _ (.tail _ (.tail _ (hS.sub p hp)))) (hE.mono fun p hp => .tail _ (.tail _ (.tail _ (hS.sub p hp)))) (hS.rows.mono fun _ hp => .tail _ (.tail _ (.tail _ hp))) (.bad (ne_nil_of (by assumption)) (nodeF_of (.head _) (.tail _ (.head _)) rfl)) | fail "end"
/-! maskp -/
/-- the sum of the powers of two below 2^n that p takes -/
def sumN (p : Nat → Bool) : Nat → Nat
  | 0 => 0
  | n + 1 => sumN p n + if p n then 2 ^ n else 0
theorem sumN_s (p : Nat → Bool) (n : Nat) : sumN p (n + 1) = sumN p n + if p n then 2 ^ n else 0 := rfl
theorem sumN_lt (p : Nat → Bool) : ∀ n, sumN p n < 2 ^ n
  | 0 => Nat.one_pos
  | n + 1 => by
    have h := sumN_lt p n
    have e : 2 ^ (n + 1) = 2 ^ n + 2 ^ n := by rw [Nat.pow_succ]; omega
    unfold sumN
    split <;> omega
theorem sumN_bit (p : Nat → Bool) (j : Nat) : ∀ n, (sumN p n).testBit j = (decide (j < n) && p j)
  | 0 => by simp [sumN]
  | n + 1 => by
    have ih := sumN_bit p j n
    have hl := sumN_lt p n
    unfold sumN
    cases hp : p n with
    | true =>
      simp only [if_true]
      have e : sumN p n + 2 ^ n = 2 ^ n ||| sumN p n := by
        have h := Nat.two_pow_add_eq_or_of_lt hl 1
        rw [Nat.mul_one] at h
        omega
      rw [e, Nat.testBit_or, ih, Nat.testBit_two_pow]
      by_cases h1 : n = j
      · subst h1; simp [hp]
      · have h2 : (decide (j < n + 1)) = decide (j < n) := by
          rw [decide_eq_decide]; omega
        rw [h2]
        simp [h1]
    | false =>
      simp only [Bool.false_eq_true, if_false, Nat.add_zero, ih]
      by_cases h1 : n = j
      · subst h1; simp [hp]
      · have h2 : (decide (j < n + 1)) = decide (j < n) := by
          rw [decide_eq_decide]; omega
        rw [h2]
theorem sumN_or (p q : Nat → Bool) (n : Nat) : sumN p n ||| sumN q n = sumN (fun k => p k || q k) n := by
  refine Nat.eq_of_testBit_eq fun j => ?_
  rw [Nat.testBit_or, sumN_bit, sumN_bit, sumN_bit]
  cases decide (j < n) <;> simp
theorem sumN_list (p : Nat → Bool) : ∀ n, (((List.range n).filter p).map fun i => (2 : Int) ^ i).sum = (sumN p n : Int)
  | 0 => rfl
  | n + 1 => by
    have ih := sumN_list p n
    rw [List.range_succ, List.filter_append, List.map_append, List.sum_append, ih, sumN_s]
    cases hp : p n with
    | true =>
      rw [List.filter_cons, hp, if_pos rfl]
      simp
    | false =>
      rw [List.filter_cons, hp, if_neg Bool.false_ne_true]
      simp
def inR (a b : Int) (k : Nat) : Bool := decide (a ≤ (k : Int)) && decide ((k : Int) ≤ b)
theorem range_all : ∀ a : Fin 32, ∀ b : Fin 32, rangeM (a.val : Int) (b.val : Int) = (sumN (inR (a.val : Int) (b.val : Int)) 32 : Int) := by decide +kernel
theorem range_is {a b : Int} (h1 : 0 ≤ a) (h2 : a ≤ 31) (h3 : 0 ≤ b) (h4 : b ≤ 31) : rangeM a b = (sumN (inR a b) 32 : Int) := by
  obtain ⟨x, rfl⟩ := Int.eq_ofNat_of_zero_le h1
  obtain ⟨y, rfl⟩ := Int.eq_ofNat_of_zero_le h3
  exact range_all ⟨x, by omega⟩ ⟨y, by omega⟩
def inK (ks : List Kid) (k : Nat) : Bool := match lowOf ks, highOf ks with
  | some a, some b => inR a b k
  | _, _ => false
def anyIn (es : List Elem) (k : Nat) : Bool := es.any fun e => inK e.2 k
/-- the element's two values are known and within 0 to 31 -/
def Good (e : Elem) : Prop := ∃ a b, lowOf e.2 = some a ∧ highOf e.2 = some b ∧ 0 ≤ a ∧ a ≤ 31 ∧ 0 ≤ b ∧ b ≤ 31
theorem cm_is {e : Elem} (h : Good e) : cmOf e.2 = (sumN (inK e.2) 32 : Int) := by
  obtain ⟨a, b, ha, hb, h1, h2, h3, h4⟩ := h
  have e1 : inK e.2 = inR a b := by
    funext k
    unfold inK
    rw [ha, hb]
  unfold cmOf
  rw [e1, ha, hb]
  exact range_is h1 h2 h3 h4
theorem or_nat (a b : Nat) : Builtin.bitOr (a : Int) (b : Int) = ((a ||| b : Nat) : Int) := by
  have h := nat_or_add_and a b
  rw [bitOr_and, bitAnd_pp (Int.natCast_nonneg _) (Int.natCast_nonneg _), Int.toNat_natCast, Int.toNat_natCast]
  omega
theorem mask_fold : ∀ (es : List Elem) (p : Nat → Bool), (∀ e ∈ es, Good e) → (es.map fun e => cmOf e.2).foldl Builtin.bitOr (sumN p 32 : Int) = (sumN (fun k => p k || anyIn es k) 32 : Int)
  | [], p, _ => by
    have e : (fun k => p k || anyIn [] k) = p := by funext k; simp [anyIn]
    rw [e]; rfl
  | e :: es, p, h => by
    rw [List.map_cons, List.foldl_cons, cm_is (h e (.head _)), or_nat, sumN_or, mask_fold es _ fun x hx => h x (.tail _ hx)]
    have e2 : (fun k => (p k || inK e.2 k) || anyIn es k) = (fun k => p k || anyIn (e :: es) k) := by
      funext k
      simp [anyIn, Bool.or_assoc]
    rw [e2]
theorem mask_sum {es : List Elem} (h : ∀ e ∈ es, Good e) : maskUp3 es es.length = (((List.range 32).filter (anyIn es)).map fun i => (2 : Int) ^ i).sum := by
  have e0 : (0 : Int) = (sumN (fun _ => false) 32 : Int) := by decide +kernel
  unfold maskUp3
  rw [List.take_length, e0, mask_fold es _ h, sumN_list]
  have e2 : (fun k => false || anyIn es k) = anyIn es := by funext k; simp
  rw [e2]
/-- the law's own pairs: of each element its first and its last value -/
inductive HeldAre (news : List (Addr × Obj)) : List Value → List Elem → Prop
  | nil : HeldAre news [] []
  | cons {T n : Nat} {a b : Value} {vs : List Value} {e : Elem} {es : List Elem} : (T, tupOf #[a, b] n) ∈ news → OptV (lowOf e.2) a → OptV (highOf e.2) b → HeldAre news vs es → HeldAre news (.ref T :: vs) (e :: es)
theorem HeldAre.mono {news news' : List (Addr × Obj)} {vs : List Value} {es : List Elem} (h : HeldAre news vs es) (hs : ∀ p ∈ news, p ∈ news') : HeldAre news' vs es := by
  induction h with
  | nil => exact .nil
  | cons h1 h2 h3 _ ih => exact .cons (hs _ h1) h2 h3 ih
theorem HeldAre.snoc {news : List (Addr × Obj)} {vs : List Value} {es : List Elem} {T n : Nat} {a b : Value} {e : Elem} (h : HeldAre news vs es) (h1 : (T, tupOf #[a, b] n) ∈ news) (h2 : OptV (lowOf e.2) a) (h3 : OptV (highOf e.2) b) : HeldAre news (vs ++ [.ref T]) (es ++ [e]) := by
  induction h with
  | nil => exact .cons h1 h2 h3 .nil
  | cons a1 a2 a3 _ ih => exact .cons a1 a2 a3 ih
theorem HeldAre.length {news : List (Addr × Obj)} {vs : List Value} {es : List Elem} (h : HeldAre news vs es) : vs.length = es.length := by
  induction h with
  | nil => rfl
  | cons _ _ _ _ ih => simp [ih]
theorem HeldAre.funs {news : List (Addr × Obj)} {vs : List Value} {es : List Elem} (h : HeldAre news vs es) : ∃ xs ys : Nat → Value, ∀ i v, vs[i]? = some v → ∃ T n e, v = .ref T ∧ (T, tupOf #[xs i, ys i] n) ∈ news ∧ es[i]? = some e ∧ OptV (lowOf e.2) (xs i) ∧ OptV (highOf e.2) (ys i) := by
  induction h with
  | nil => exact ⟨fun _ => .none, fun _ => .none, fun i v h => by simp at h⟩
  | cons h1 h2 h3 _ ih =>
    rename_i T n a b vs e es _
    obtain ⟨xs, ys, ih⟩ := ih
    refine ⟨fun i => match i with | 0 => a | i + 1 => xs i, fun i => match i with | 0 => b | i + 1 => ys i, fun i v hv => ?_⟩
    cases i with
    | zero => exact ⟨T, n, e, by simpa using hv.symm, h1, rfl, h2, h3⟩
    | succ i =>
      obtain ⟨T', n', e', r⟩ := ih i v (by simpa using hv)
      exact ⟨T', n', e', r⟩
theorem rangeM_nn (a b : Int) : 0 ≤ rangeM a b := by
  unfold rangeM
  split
  · exact Int.le_refl 0
  · have h1 := pow_pos_of (b := 2) (by decide) (b - a + 1).toNat
    have h2 := pow_pos_of (b := 2) (by decide) a.toNat
    exact Int.mul_nonneg (by omega) (by omega)
theorem cm_neg {ks : List Kid} (h : cmOf ks < 0) : lowOf ks = none ∨ highOf ks = none := by
  unfold cmOf at h
  split at h
  · rename_i a b _ _
    exact absurd (rangeM_nn a b) (by omega)
  · rename_i hx
    cases h1 : lowOf ks with
    | none => exact .inl rfl
    | some a =>
      cases h2 : highOf ks with
      | none => exact .inr rfl
      | some b => exact absurd h2 (hx a b h1)
theorem cm_pos {ks : List Kid} (h : 0 ≤ cmOf ks) : ∃ a b, lowOf ks = some a ∧ highOf ks = some b := by
  unfold cmOf at h
  split at h
  · rename_i a b h1 h2
    exact ⟨a, b, h1, h2⟩
  · exact absurd h (by decide)
theorem low_mem {ks : List Kid} {a : Int} (h : lowOf ks = some a) : ∃ k ∈ ks, k.v = some a := by
  unfold lowOf at h
  obtain ⟨k, h1, h2⟩ := Option.bind_eq_some_iff.mp h
  exact ⟨k, List.mem_of_head? h1, h2⟩
theorem high_mem {ks : List Kid} {a : Int} (h : highOf ks = some a) : ∃ k ∈ ks, k.v = some a := by
  unfold highOf at h
  obtain ⟨k, h1, h2⟩ := Option.bind_eq_some_iff.mp h
  exact ⟨k, List.mem_of_getLast? h1, h2⟩
theorem good_of {e : Elem} (hs : ∀ k ∈ e.2, (k.code == Str.ofString "") = true) (h : 0 ≤ cmOf e.2) : Good e := by
  obtain ⟨a, b, h1, h2⟩ := cm_pos h
  obtain ⟨k1, m1, v1⟩ := low_mem h1
  obtain ⟨k2, m2, v2⟩ := high_mem h2
  have b1 := (kid_sound (hs k1 m1)).2 a v1
  have b2 := (kid_sound (hs k2 m2)).2 b v2
  exact ⟨a, b, h1, h2, b1.1, b1.2, b2.1, b2.2⟩
theorem all_good {es : List Elem} (hr : rowsOf (allK es) = []) (h : ∀ e ∈ es, 0 ≤ cmOf e.2) : ∀ e ∈ es, Good e := fun e he => good_of (fun k hk => rowsOf_nil hr k (List.mem_flatMap.mpr ⟨e, he, hk⟩)) (h e he)
/-- the i-th element's first or last value is not known -/
def noneP (es : List Elem) (i : Nat) : Bool := match es[i]? with
  | some e => (lowOf e.2).isNone || (highOf e.2).isNone
  | none => false
theorem noneP_lo {es : List Elem} {i : Nat} {e : Elem} (h : es[i]? = some e) (h1 : none = lowOf e.2) : true = noneP es i := by unfold noneP; rw [h]; simp [← h1]
theorem noneP_hi {es : List Elem} {i : Nat} {e : Elem} (h : es[i]? = some e) (h1 : none = highOf e.2) : true = noneP es i := by unfold noneP; rw [h]; simp [← h1]
theorem noneP_no {es : List Elem} {i : Nat} {e : Elem} {a b : Int} (h : es[i]? = some e) (h1 : some a = lowOf e.2) (h2 : some b = highOf e.2) : false = noneP es i := by unfold noneP; rw [h]; simp [← h1, ← h2]
theorem none_some {es : List Elem} {ms : List Int} {n : Nat} (hn : n = es.length) (h : ms = [] ↔ ∀ i, i < n → noneP es i = false) (hx : ∃ e ∈ es, cmOf e.2 < 0) : ms ≠ [] := by
  intro hm
  obtain ⟨e, he, hc⟩ := hx
  obtain ⟨i, hi, hie⟩ := List.getElem_of_mem he
  have h1 := h.mp hm i (hn ▸ hi)
  have h2 : es[i]? = some e := by rw [List.getElem?_eq_getElem hi, hie]
  unfold noneP at h1
  rw [h2] at h1
  dsimp only at h1
  rcases cm_neg hc with h3 | h3 <;> rw [h3] at h1 <;> simp at h1
theorem none_none {es : List Elem} {ms : List Int} {n : Nat} (h : ms = [] ↔ ∀ i, i < n → noneP es i = false) (hx : ∀ e ∈ es, 0 ≤ cmOf e.2) : ms = [] := by
  refine h.mpr fun i _ => ?_
  unfold noneP
  cases h2 : es[i]? with
  | none => rfl
  | some e =>
    obtain ⟨a, b, ha, hb⟩ := cm_pos (hx e (List.mem_of_getElem? h2))
    simp [ha, hb]
/-- does the i-th element take the place k? -/
def inP (es : List Elem) (k i : Nat) : Bool := match es[i]? with
  | some e => inK e.2 k
  | none => false
theorem inP_at {es : List Elem} {k i : Nat} {e : Elem} {a b : Int} (h : es[i]? = some e) (h1 : some a = lowOf e.2) (h2 : some b = highOf e.2) : inP es k i = (decide (a ≤ (k : Int)) && decide ((k : Int) ≤ b)) := by
  unfold inP inK inR
  rw [h]
  dsimp only
  rw [← h1, ← h2]
theorem any_in {es : List Elem} {k n : Nat} {ms : List Int} (hn : n = es.length) (h : ms = [] ↔ ∀ i, i < n → inP es k i = false) : (!decide (ms = [])) = anyIn es k := by
  cases ha : anyIn es k with
  | true =>
    obtain ⟨e, he, hk⟩ := List.any_eq_true.mp ha
    obtain ⟨i, hi, hie⟩ := List.getElem_of_mem he
    have h2 : es[i]? = some e := by rw [List.getElem?_eq_getElem hi, hie]
    have h3 : ms ≠ [] := fun hm => by
      have h1 := h.mp hm i (hn ▸ hi)
      unfold inP at h1
      rw [h2] at h1
      exact absurd (h1.symm.trans hk) (by decide)
    rw [decide_eq_false h3]; rfl
  | false =>
    have h3 : ms = [] := h.mpr fun i _ => by
      unfold inP
      cases h2 : es[i]? with
      | none => rfl
      | some e =>
        have h4 := List.any_eq_false.mp ha e (List.mem_of_getElem? h2)
        simpa using h4
    rw [decide_eq_true h3]; rfl
theorem mem_sub {p : Addr × Obj} {Y l : List (Addr × Obj)} (h : p ∈ Y) (hs : ∀ q ∈ Y, q ∈ l) : p ∈ l := hs p h
/-! compa -/
inductive AttrSt (h₀ : Heap) (L : Addr) (m : Str → Option Value) (news : List (Addr × Obj)) (s : Shared) (I l D C : Nat) (n : Nat) (ps : List Int) : Nat → Shared → Prop
  | mk {h tk i zs m'} : i ≤ n → zs.length ≤ i → h.IsListIter I l i → Fr h₀ L h m → h.Ns C m' → News h₀ L h ((D, PyProof.Rows.LCg.lst zs) :: news) → IntsAre zs (ps.take i) → AttrSt h₀ L m news s I l D C n ps (n + 1 - i) { s with heap := h, toks := tk }
theorem take_snoc {zs : List Value} {ps : List Int} {i : Nat} {p : Int} {t : Tok} (h : ps[i]? = some p) (hI : IntsAre zs (ps.take i)) : IntsAre (zs ++ [.int p t]) (ps.take (i + 1)) := by
  rw [List.take_add_one, h]
  exact hI.append (.cons _ _ .nil)
section
open PyProof.Rows.LCg
variable {prog : Program} {w : World} {A : Around} {E : Value → Shared → Prop} {h₀ : Heap} {L : Addr} {m : Str → Option Value} {env : Env} {news : List (Addr × Obj)} {K : Frag} {cc : Addr} {oa : Option Value} {iter : PySem.Expr} {x attr : Str} {px xp ap : Pos} {scope : Scope} {cl : List (Str × Addr)} {pos : Pos} {l : Addr} {vs : List Value} {nl : Nat} {ps : List Int} {Q : Value → Shared → Prop}
theorem attr_run {s : Shared} {I D C n0 : Nat} {h₁ : Heap} {tk1 : Nat} {mC : Str → Option Value}
    (hh : A.handled = none) (X : K.In h₀) (hg : plainGet K cc attr = true) (hhd : hasDictIn K cc = true) (ha : findIn K (.ref cc) attr = some oa) (hno : noGet K oa = true)
    (hl : (l, listOf vs.toArray nl) ∈ news) (hsz : vs.length ≤ 1000) (hps : ps.length = vs.length) (hv : ∀ (i : Nat) v, vs[i]? = some v → ∃ T p t, v = Value.ref T ∧ ps[i]? = some p ∧ HasA news T cc attr (.int p t))
    (hkind : scope.kind = .function) (hxl : scope.names.lookup x = some .local) (hdb : (x == ("__debug__" : Str)) = false)
    (hL : @LT.lt Nat _ L n0) (hn : ∀ p ∈ news, @LT.lt Nat _ p.1 n0) (hI : n0 ≤ I) (hD : I < D) (hC : D < C)
    (fin : ∀ D zs h tk, Fr h₀ L h m → News h₀ L h ((D, lst zs) :: news) → IntsAre zs ps → Q (.ref D) { s with heap := h, toks := tk })
    (F : Fr h₀ L h₁ m) (N : News h₀ L h₁ news) (hit : h₁.IsListIter I l 0) (eD : h₁.get? D = some (lst [])) (eC : h₁.Ns C mC) :
    codeAny (model prog w) A (.compStart (.ListComp (.Attribute (.Name x xp) attr ap) [⟨.Name x px, iter, [], 0⟩] scope pos) 0 (.ref I) (.ref D) (compEnvC scope cl C env))
      (compPost (model prog w) A E none Q (.ref D) C) { s with heap := h₁, toks := tk1 } := by
  have hDn : n0 ≤ D := Nat.le_of_lt (Nat.lt_of_le_of_lt hI hD)
  have hCn : n0 ≤ C := Nat.le_trans hDn (Nat.le_of_lt hC)
  have hLD : @LT.lt Nat _ L D := Nat.lt_of_lt_of_le hL hDn
  have hIC : I < C := Nat.lt_trans hD hC
  have hIl : l ≠ I := Nat.ne_of_lt (Nat.lt_of_lt_of_le (hn _ hl) hI)
  have W := Walks.list (prog := prog) (w := w) hh I l hIl vs.toArray
  have lstAt : ∀ h' : Heap, News h₀ L h' news → h'.IsList l vs.toArray := fun h' N' => PySem.IsL.isList (n := nl) (N' _ hl).1
  have loop : codeAny (model prog w) A (.compLoop (.ListComp (.Attribute (.Name x xp) attr ap) [⟨.Name x px, iter, [], 0⟩] scope pos) 0 (.ref I) (.ref D) (compEnvC scope cl C env))
      (compPost (model prog w) A E none Q (.ref D) C) { s with heap := h₁, toks := tk1 } := by
    refine codeAny_compLoop_list (AttrSt h₀ L m news s I l D C vs.length ps) ?_ (vs.length + 1) (.mk (i := 0) (Nat.zero_le _) (Nat.le_refl _) hit F eC (nC eD hLD F N) .nil)
    intro k s' st
    cases st with
    | @mk h' tk i zs m' hi' hzl hit' F' hn' N' hI' =>
    have N'n := nT N'
    refine (Nat.lt_or_eq_of_le hi').elim (fun hlt => ?_) fun hin => ?_
    · refine W.item i _ _ _ hlt ⟨hit', lstAt _ N'n⟩ fun v h₂ tk₂ hPv hst₂ hk₂ => ?_
      refine (hv i v (by simpa using hPv)).elim fun T hT => hT.elim fun p hT => hT.elim fun t hT => ?_
      rw [hT.1]
      have hk2 : ∀ q o, @Ne Nat q I → h'.get? q = some o → h₂.get? q = some o := fun q o hq e => hk₂ q o (fun hm => hq (List.mem_singleton.mp hm)) e
      refine wpAny_assign_Name (wpAny_storeName_local (env := compEnvC scope cl C env) (lookup_relabel_local hxl) (hn'.at' fun o e => hk2 _ o (Nat.ne_of_gt hIC) e) (fun h₄ hn₄ hs₄ => ?_) (by simp [compEnvC, relabel, hkind]))
      have k4 : Kp n0 h' h₄ := Kp.trans (Kp.of_in hI hk₂) (Kp.of_same hCn hs₄)
      have F₄ := Kp.fr k4 hL F'
      have N₄ := Kp.nws k4 hn N'n
      refine hst₂.1.elim fun oI heI => ?_
      refine Attribute_any_ (ldVarK hn₄ (if_pos rfl) ?_ hkind (lookup_relabel_local hxl) hdb) rfl
      refine Ga.has F₄ X N₄ hT.2.2 (fun _ h => h) hg hhd ha hno ?_
      refine append_at (hsz := small_zs hzl hlt hsz) (hs₄.extBut _ _ (Nat.ne_of_lt hC) (hk2 _ _ (Nat.ne_of_gt hD) (nH N'))) fun h₆ hs₆ hD₆ => ?_
      exact ⟨vs.length + 1 - (i + 1), sub_lt hlt, .mk hlt (snoc_len hzl) ⟨oI, hs₆.extBut _ _ (Nat.ne_of_lt hD) (hs₄.extBut _ _ (Nat.ne_of_lt hIC) heI.1), heI.2⟩ (fr_same F₄ hLD hs₆) (hn₄.sameBut hs₆ (Nat.ne_of_gt hC)) (nC (hD₆.trans (congrArg some (lst_snoc zs _))) hLD F₄ ((Kp.of_same hDn hs₆).nws hn N₄)) (take_snoc hT.2.1 hI')⟩
    · refine W.done _ _ _ (show h'.IsListIter I l vs.length ∧ _ from ⟨hin ▸ hit', lstAt _ N'n⟩) fun h₂ tk₂ hk₂ => ?_
      have hk2 : ∀ q o, @Ne Nat q I → h'.get? q = some o → h₂.get? q = some o := fun q o hq e => hk₂ q o (fun hm => hq (List.mem_singleton.mp hm)) e
      have k2 : Kp n0 h' h₂ := Kp.of_in hI hk₂
      exact ⟨m', hn'.at' fun o e => hk2 _ o (Nat.ne_of_gt hIC) e, fun h'' hs'' => fin _ zs h'' tk₂ (Kp.fr (Kp.trans k2 (Kp.of_same hCn hs'')) hL F') (nC (hs''.extBut _ _ (Nat.ne_of_lt hC) (hk2 _ _ (Nat.ne_of_gt hD) (nH N'))) hLD F' (Kp.nws (Kp.trans k2 (Kp.of_same hCn hs'')) hn N'n)) (by rw [hin, ← hps, List.take_length] at hI'; exact hI')⟩
  exact codeAny_compStart_list loop (W.self 0 _ _ _ ⟨hit, lstAt _ N⟩ loop)
/-- «[x.attr for x in l]» over a list of objects whose attribute is an int -/
theorem comp_attr {hp : Heap} {g : Array GenState} {d : Drawn} {t t1 : Nat} {o : OsState}
    (F : Fr h₀ L hp m) (N : News h₀ L hp news) (X : K.In h₀) (hi : Ev (model prog w) A env hp t iter (.ref l) t1) (hh : A.handled = none) (hg : plainGet K cc attr = true) (hhd : hasDictIn K cc = true) (ha : findIn K (.ref cc) attr = some oa) (hno : noGet K oa = true)
    (hl : (l, listOf vs.toArray nl) ∈ news) (hsz : vs.length ≤ 1000) (hps : ps.length = vs.length) (hv : ∀ (i : Nat) v, vs[i]? = some v → ∃ T p t, v = Value.ref T ∧ ps[i]? = some p ∧ HasA news T cc attr (.int p t))
    (hclos : closureFor scope env = pure cl) (hcell : ∀ y ∈ scope.names, y.2 ≠ .cell) (hkind : scope.kind = .function)
    (hnames : ∀ y ∈ scope.names, y.2 = .local → scope.names.lookup y.1 = some .local) (hxl : scope.names.lookup x = some .local) (hdb : (x == ("__debug__" : Str)) = false)
    (fin : ∀ D zs h tk, Fr h₀ L h m → News h₀ L h ((D, lst zs) :: news) → IntsAre zs ps → Q (.ref D) ⟨h, g, d, tk, o⟩)
    (hs : ∀ x, foldedSetIterable iter env x = pure x := by intro _; rfl) :
    wpAny (model prog w) A (eval (.ListComp (.Attribute (.Name x xp) attr ap) [⟨.Name x px, iter, [], 0⟩] scope pos) env) Q E ⟨hp, g, d, t, o⟩ := by
  rw [eval_ListComp]
  refine wpAny_comprehension_free (use := none) rfl hs hclos hkind hnames (hi ?_)
  refine wpAny_pyIter_list (PySem.IsL.isList (n := nl) (N _ hl).1) ?_
  refine wpAny_newObj_type (wpAny_newFunctionEnv hcell (fun _ hy => nomatch hy) (fun h₁ hns₁ hsb₁ => ?_) hkind)
  have up : ∀ q o, (hp.push _).get? q = some o → h₁.get? q = some o := fun q o e => hsb₁.extBut q o (Nat.ne_of_lt (Heap.lt_size (Heap.get?_push_of_some _ e))) (Heap.get?_push_of_some _ (Heap.get?_push_of_some _ e))
  have up0 : ∀ q o, hp.get? q = some o → h₁.get? q = some o := fun q o e => up q o (Heap.get?_push_of_some _ e)
  exact attr_run (s := ⟨hp, g, d, t, o⟩) (n0 := hp.objs.size) hh X hg hhd ha hno hl hsz hps hv hkind hxl hdb F.ns.lt (fun q hq => Heap.lt_size (N q hq).1) (Nat.le_refl _) push_lt push_lt fin (F.keeps up0) (Kp.nws (Kp.of_ext (n := hp.objs.size) up0) (fun q hq => Heap.lt_size (N q hq).1) N)
    ⟨_, up _ _ (Heap.get?_push_size _ rfl), rfl, rfl⟩ (hsb₁.extBut _ _ (Nat.ne_of_lt push_lt) (Heap.get?_push_of_some _ (Heap.get?_push_size _ rfl))) hns₁
end
/-- the places of the objects vs are ps -/
def PlacesOf (news : List (Addr × Obj)) (vs : List Value) (ps : List Int) : Prop := ps.length = vs.length ∧ ∀ (i : Nat) v, vs[i]? = some v → ∃ T p t, v = Value.ref T ∧ ps[i]? = some p ∧ HasA news T 88 "place" (.int p t)
theorem PlacesOf.nil {news : List (Addr × Obj)} : PlacesOf news [] [] := ⟨rfl, fun _ _ h => nomatch h⟩
theorem PlacesOf.cons {news : List (Addr × Obj)} {T : Addr} {p : Int} {t : Tok} {vs : List Value} {ps : List Int} (h : HasA news T 88 "place" (.int p t)) (r : PlacesOf news vs ps) : PlacesOf news (.ref T :: vs) (p :: ps) :=
  ⟨congrArg (· + 1) r.1, fun
    | 0, _, e => ⟨T, p, t, (Option.some.inj e).symm, rfl, h⟩
    | i + 1, v, e => r.2 i v e⟩
theorem comp_place {prog : Program} {w : World} {A : Around} {E : Value → Shared → Prop} {h₀ : Heap} {L : Addr} {m : Str → Option Value} {env : Env} {news sub : List (Addr × Obj)} {K : Frag} {oa : Option Value} {iter : PySem.Expr} {x : Str} {px xp ap : Pos} {scope : Scope} {cl : List (Str × Addr)} {pos : Pos} {l : Addr} {vs : List Value} {nl : Nat} {ps : List Int} {Q : Value → Shared → Prop} {hp : Heap} {g : Array GenState} {d : Drawn} {t t1 : Nat} {o : OsState}
    (F : Fr h₀ L hp m) (N : News h₀ L hp news) (X : K.In h₀) (hi : Ev (model prog w) A env hp t iter (.ref l) t1) (hl : (l, listOf vs.toArray nl) ∈ news) (hP : PlacesOf sub vs ps) (hs' : ∀ p ∈ sub, p ∈ news) (hsz : vs.length ≤ 1000) (hh : A.handled = none) (hg : plainGet K 88 "place" = true) (hhd : hasDictIn K 88 = true) (ha : findIn K (.ref 88) "place" = some oa) (hno : noGet K oa = true)
    (hclos : closureFor scope env = pure cl) (hcell : ∀ y ∈ scope.names, y.2 ≠ .cell) (hkind : scope.kind = .function)
    (hnames : ∀ y ∈ scope.names, y.2 = .local → scope.names.lookup y.1 = some .local) (hxl : scope.names.lookup x = some .local) (hdb : (x == ("__debug__" : Str)) = false)
    (hs : ∀ x, foldedSetIterable iter env x = pure x) (fin : ∀ D zs h tk, Fr h₀ L h m → News h₀ L h ((D, PyProof.Rows.LCg.lst zs) :: news) → IntsAre zs ps → Q (.ref D) ⟨h, g, d, tk, o⟩) :
    wpAny (model prog w) A (eval (.ListComp (.Attribute (.Name x xp) "place" ap) [⟨.Name x px, iter, [], 0⟩] scope pos) env) Q E ⟨hp, g, d, t, o⟩ :=
  comp_attr F N X hi hh hg hhd ha hno hl hsz hP.1 (fun i v e => let ⟨T, p, t, a, b, c⟩ := hP.2 i v e; ⟨T, p, t, a, b, c.mono hs'⟩) hclos hcell hkind hnames hxl hdb fin hs
/-! fits -/
theorem reg61 : True := by
  w_top off
  k_with_none
  (k_with "subscriptTail" => ((k_here; (with_reducible show wpAny _ _ (subscriptTail _ _ (Value.ref _) (Value.int _ _)) _ _ _); k_dflt (refine' itemN ?k1_436 ?k2_436 ?k3_436 ?k4_436 ?k5_436 ?_ ?k6_436; (case k1_436 => k_asm); (case k2_436 => k_mem); (case k3_436 => decide); (case k4_436 => decide); (case k5_436 => rfl); (case k6_436 => with_unfolding_all rfl); k_whole))))
  (k_with "subscriptTail" => ((k_here; (with_reducible show wpAny _ _ (subscriptTail _ _ (Value.ref _) (Value.int _ _)) _ _ _); k_dflt (refine' itemT ?k1_437 ?k2_437 ?k3_437 ?k4_437 ?k5_437 ?_ ?k6_437; (case k1_437 => k_asm); (case k2_437 => k_mem); (case k3_437 => decide); (case k4_437 => decide); (case k5_437 => rfl); (case k6_437 => with_unfolding_all rfl); k_whole))))
  (k_with "subscriptTail Name Constant ref int" => ((k_here; k_dflt (first | (refine' itemT ?k1_438 ?k2_438 ?k3_438 ?k4_438 ?k5_438 ?_ ?k6_438; (case k1_438 => k_asm); (case k2_438 => k_mem); (case k3_438 => decide); (case k4_438 => decide); (case k5_438 => rfl); (case k6_438 => with_unfolding_all rfl); k_whole) | (refine' itemN ?k1_438 ?k2_438 ?k3_438 ?k4_438 ?k5_438 ?_ ?k6_438; (case k1_438 => k_asm); (case k2_438 => k_mem); (case k3_438 => decide); (case k4_438 => decide); (case k5_438 => rfl); (case k6_438 => with_unfolding_all rfl); k_whole)))))
  (k_with "getItem ref int" => ((k_here; k_dflt (refine' getN ?k1_439 ?k2_439 ?k3_439 ?k4_439 ?k5_439 ?_; (case k1_439 => k_asm); (case k2_439 => k_mem); (case k3_439 => decide); (case k4_439 => decide); (case k5_439 => rfl); k_whole))))
  (k_with "call builtin:len" => ((k_here; (with_reducible show wpAny _ _ (call (Value.builtin "len") [Value.ref _]) _ _ _); k_dflt (refine' kst_len ?k1_440 ?k2_440 ?k3_440 ?k4_440 ?_; (case k1_440 => k_asm); (case k2_440 => k_mem); (case k3_440 => first | exact IntsAre.length (by assumption) | assumption); (case k4_440 => omega); k_whole))))
  (k_with "X k_updF" => (with_reducible assumption))
  (k_with "X k_upd" => (exact UpdF.toUpd (by assumption) _))
  (k_with "X k_mem" => (exact UpdF.mem (by assumption)))
  (k_with "X k_mem" => (exact UpdF.mem' (by assumption) _))
  (k_with "X k_enter" => ((refine' code_def ?k1_445 ?k2_445 ?k3_445 ?k4_445 ?k5_445 ?kA_445 ?kF_445 ?kK_445 ?k6_445 ?k7_445 ?k8_445 ?k9_445 ?kB_445 ?_ ?c2_445 ?c3_445 ?c4_445 ?c5_445; (case kA_445 => exact rfl); (case kF_445 => exact rfl); (case kK_445 => first | exact rfl | assumption); (case k1_445 => k_asm); (case k2_445 => k_asm); (case k3_445 => k_asm); (case k4_445 => k_asm); (case k5_445 => k_asm); (case k6_445 => k_is); (case k7_445 => k_is); (case k8_445 => ktr_room); (case k9_445 => first | exact BindsTo.of_eq rfl | exact binds_K (by k_in) rfl (by k_is) rfl rfl rfl | fail "k_enter: no rule for these arguments"); (case c5_445 => decide); (case kB_445 => exact locs rfl); (case c2_445 => exact rfl); (case c3_445 => exact rfl); (case c4_445 => exact rfl); k_whole; intro g' L' h' FG' F' N' B' X' T'; (try dsimp only); (try k_lift B'); (try k_fold))))
  (k_with "X k_room" => (ktr_room))
  (k_with "X k_units" => (ktr_units))
  (k_with "getAttr ref" => ((k_here; k_dflt (first
  | refine' get_has ?k1_448 ?k2_448 ?k3_448 ?k4_448 ?k5_448 ?k6_448 ?k7_448 ?k8_448 ?k9_448 ?_; (case k1_448 => k_asm); (case k2_448 => k_asm); (case k3_448 => k_asm); (case k4_448 => with_reducible assumption); (case k5_448 => first | exact fun _ h => h | (intro p hp; repeat (first | exact hp | apply List.mem_cons_of_mem))); (case k6_448 => k_is); (case k7_448 => k_is); (case k8_448 => k_is); (case k9_448 => k_is); k_whole
  | refine' get_has2 ?k1_448 ?k2_448 ?k3_448 ?k4_448 ?k5_448 ?k6_448 ?k7_448 ?k8_448 ?k9_448 ?_; (case k1_448 => k_asm); (case k2_448 => k_asm); (case k3_448 => k_asm); (case k4_448 => with_reducible assumption); (case k5_448 => first | exact fun _ h => h | (intro p hp; repeat (first | exact hp | apply List.mem_cons_of_mem))); (case k6_448 => k_is); (case k7_448 => k_is); (case k8_448 => k_is); (case k9_448 => k_is); k_whole))))
  (k_with "X size_fits" => ((simp only [List.size_toArray, PySem.sizeLine_eq]; omega)))
  (k_with "binaryOp FloorDiv int int" => ((refine floordiv_int ?_ ?_ (Or.inl (noPy (by omega))); first | decide | omega)))
  (k_with "MINE sub" => (first | exact fun _ h => h | (intro p hp; repeat (first | exact hp | apply List.mem_cons_of_mem))))
  (k_with "MINE subxy" => ((intro x y p hp; repeat (first | exact hp | apply List.mem_cons_of_mem))))
  (k_with "X ktr_units" => (first | k_dflt (first | exact far2 (by with_reducible assumption) (by decide) | exact far1 (by with_reducible assumption) (by decide)) | (have hcL9 := cLine_is; ((try simp only [units_under_make, units_in1, units_deeper, Around.mark_units, units_caller]); (try dsimp only [ktrTop]); omega))))
  (k_with "X ktr_room" => (first | k_dflt (first | exact far2 (by with_reducible assumption) (by decide) | exact far1 (by with_reducible assumption) (by decide)) | ((with_reducible refine room_make ?_); k_dflt (first | exact far2 (by with_reducible assumption) (by decide) | exact far3 (by with_reducible assumption) (by decide) | exact far1 (by with_reducible assumption) (by decide)))))
  (k_with "X k_all" => (k_dflt exact ne_allLt (by assumption)))
  (k_with "MINE ar" => (with_reducible (first | assumption | exact aN1 (by assumption) | exact aN2 (by assumption) | exact aN3 (by assumption) | exact aN4 (by assumption) | exact aN5 (by assumption) | exact aN6 (by assumption) | exact aN7 (by assumption) | exact aN8 (by assumption) | exact aN9 (by assumption) | exact aN10 (by assumption) | exact aN11 (by assumption) | exact aN12 (by assumption))))
  (k_with "X omega" => (first | with_reducible assumption | (with_reducible refine Nat.ne_of_gt ?_; walk_at "MINE ar") | (with_reducible refine Nat.ne_of_lt ?_; walk_at "MINE ar") | ((with_reducible show @Ne Nat _ _); first | with_reducible exact Ne.symm (by assumption) | walk_at "MINE ar" | (with_reducible refine Ne.symm ?_; walk_at "MINE ar") | (with_reducible refine ne_tr (by assumption) ?_; walk_at "MINE ar")) | ((with_reducible show @LT.lt Nat _ _ _); with_reducible (first | exact far1 (by assumption) (by decide) | exact far2 (by assumption) (by decide) | exact far3 (by assumption) (by decide) | exact far0 (by assumption) | walk_at "MINE ar")) | ((with_reducible show @LE.le Nat _ _ _); with_reducible exact Nat.le_trans (by assumption) (by decide)) | ((with_reducible show @LT.lt Int _ _ _); with_reducible (first | exact Int.lt_of_lt_of_le (by assumption) (by decide) | exact int_ll (by assumption) (by decide))) | ((with_reducible show @LE.le Int _ _ _); with_reducible (first | exact Int.le_refl _ | exact i_le1 _ | exact Int.le_trans (by assumption) (by decide))) | decide))
  (k_with "MINE step" => ((first | (k_unfold; (try dsimp only)) | (k_end; wrow_close) | walk1 | (dsimp only; walk1) | (leave1; try dsimp only) | fail "no step")))
  (k_with "X k_mem" => (exact mem_of (by with_reducible assumption)))
  (k_with "ite" => (((with_reducible show (if (_ == Str.ofString _) = true then _ else _)); first | (refine ite_pos (by with_reducible assumption) ?_) | (refine ite_strF (by with_reducible assumption) ?_) | (refine ite_strF (str_ne (by with_reducible assumption) (by decide)) ?_))))
  (k_with "ite" => (((with_reducible show (if (_ != Str.ofString _) = true then _ else _)); first | (refine ite_pos (by with_reducible assumption) ?_) | (refine ite_strneF (by with_reducible assumption) ?_) | (refine ite_strneF (str_ne (by with_reducible assumption) (by decide)) ?_))))
  (k_with "MINE look" => ((repeat (first | with_reducible exact lk_hd | with_reducible exact if_hd | with_reducible refine lk_tl (by decide) ?_ | with_reducible refine if_tl (by decide) ?_))))
  (k_with "eval Name" => ((k_here; (fail_if_success (with_reducible show wpAny _ _ (eval _ (compEnvC _ _ _ _)) _ _ _)); k_dflt (first | (refine' nameQ ?F_463 ?v_463 ?_ ?k_463 ?a_463 ?b_463; (case k_463 => rfl); (case a_463 => decide); (case b_463 => decide); (case F_463 => k_asm); (case v_463 => walk_at "MINE look"); k_whole) | (refine' nameQK ?F_463 ?X_463 ?T_463 ?e_463 ?_ ?k_463 ?a_463 ?b_463; (case k_463 => rfl); (case a_463 => decide); (case b_463 => decide); (case F_463 => k_asm); (case X_463 => k_asm); (case T_463 => k_asm); (case e_463 => k_is); k_whole)))))
  (k_with "ite" => (first | with_reducible refine i_tt ?_ | with_reducible refine i_ff ?_ | with_reducible refine i_True ?_ | with_reducible refine i_False ?_ | with_reducible refine i_not ?_))
  (k_with "X k_enter" => ((refine' code_pos ?k1_465 ?k2_465 ?k3_465 ?k4_465 ?k5_465 ?kA_465 ?kF_465 ?kK_465 ?k6_465 ?k7_465 ?k8_465 ?k9_465 ?kB_465 ?_ ?c2_465 ?c3_465 ?c4_465 ?c5_465; (case kA_465 => exact rfl); (case kF_465 => exact rfl); (case kK_465 => first | exact rfl | assumption); (case k1_465 => k_asm); (case k2_465 => k_asm); (case k3_465 => k_asm); (case k4_465 => k_asm); (case k5_465 => k_asm); (case k6_465 => k_is); (case k7_465 => k_is); (case k8_465 => ktr_room); (case k9_465 => exact BindsTo.of_eq rfl); (case c5_465 => decide); (case kB_465 => exact locs rfl); (case c2_465 => exact rfl); (case c3_465 => exact rfl); (case c4_465 => exact rfl); k_whole; intro g' L' h' FG' F' N' B' X' T'; (try simp only [zipB, List.reverse_cons, List.reverse_nil, List.nil_append, List.cons_append] at F'); (try dsimp only); (try k_lift B'); (try k_fold))))
  (k_with "ite" => ((k_closed; first | with_reducible refine i_pos (by decide) ?_ | with_reducible refine i_neg (by decide) ?_)))
  (k_with "getItem ref str" => ((k_here; k_dflt (refine' getS ?k1_467 ?k2_467 ?_; (case k1_467 => k_tabat); (case k2_467 => (repeat (first | with_reducible exact lookD_hd | with_reducible refine lookD_tl (by decide) ?_ | with_reducible exact lookS_hd | with_reducible refine lookS_tl (by decide) ?_))); k_whole); intro _)))
  (k_with "MINE ga" => (first | exact Ga.has (by k_asm) (by k_asm) (by k_asm) (by with_reducible assumption) (by walk_at "MINE sub") (by k_is) (by k_is) (by k_is) (by k_is) | exact Ga.has2 (by k_asm) (by k_asm) (by k_asm) (by with_reducible assumption) (by walk_at "MINE sub") (by k_is) (by k_is) (by k_is) (by k_is) | exact Ga.own (by k_asm) (by k_asm) (by k_asm) (by k_mem) (by k_mem) (by k_is) (by k_is) (by k_is) (by k_is) (by k_get) (by k_handed)))
  (k_with "MINE tmem" => (first | with_reducible assumption | with_reducible exact List.mem_cons_self | (with_reducible refine List.mem_cons_of_mem _ ?_; walk_at "MINE tmem") | (with_reducible refine List.mem_append_right _ ?_; walk_at "MINE tmem")))
  (k_with "MINE ev" => (first | ((with_reducible show Ev _ _ _ _ _ (Expr.Name _ _) _ _); (fail_if_success (with_reducible show Ev _ _ (compEnvC _ _ _ _) _ _ _ _ _)); exact Ev.name (by k_asm) (by walk_at "MINE look") rfl (by decide) (by decide)) | ((with_reducible show Ev _ _ _ _ _ (Expr.Attribute _ _ _) _ _); exact Ev.attr (by walk_at "MINE ev") (by walk_at "MINE ga") (by with_unfolding_all rfl)) | with_reducible exact Ev.str | with_reducible exact Ev.int | with_reducible exact Ev.none | ((with_reducible show Ev _ _ _ _ _ (Expr.Subscript _ (Expr.Constant _ _ _) _) _ _); first | exact Ev.itemT (by walk_at "MINE ev") (by k_asm) (by walk_at "MINE tmem") (by decide) (by decide) (by first | with_reducible exact it0 | with_reducible exact it1 | with_reducible exact it2 | rfl) | exact Ev.itemL (by walk_at "MINE ev") (by k_asm) (by walk_at "MINE tmem") (by decide) (by decide) (by first | with_reducible exact it0 | with_reducible exact it1 | with_reducible exact it2 | rfl))))
  (k_with "MINE vs" => (first | ((with_reducible show Vs _ _ _ _ _ (_ :: _) _ _ _); exact Vs.cons (by walk_at "MINE ev") rfl (by walk_at "MINE vs")) | with_reducible exact Vs.nil))
  (k_with "MINE vp" => (first | ((with_reducible show Vs _ _ _ _ _ (_ :: _) _ _ _); exact Vs.cons (by walk_at "MINE ev") rfl (by walk_at "MINE vp")) | with_reducible exact Vs.nil))
  (k_with "spliced" => ((k_here; (with_reducible show wpAny _ _ (spliced (backTo _ (starEach (_ :: _) _))) _ _ _); k_dflt (first | ((with_reducible refine' args_all ?s_473 ?V_473 ?_); (case s_473 => exact rfl); (case V_473 => walk_at "MINE vs"); k_whole) | ((with_reducible refine' args_ev ?s_473 ?V_473 ?_); (case s_473 => exact rfl); (case V_473 => ((with_reducible show Vs _ _ _ _ _ (_ :: _) _ _ _); exact Vs.cons (by walk_at "MINE ev") rfl (by walk_at "MINE vp"))); k_whole)))))
  (k_with "eval Call" => ((k_here; (fail_if_success (with_reducible show wpAny _ _ (eval _ (compEnvC _ _ _ _)) _ _ _)); k_dflt (refine' call_ev ?F_474 ?X_474 ?T_474 ?e_474 ?k_474 ?a_474 ?b_474 ?f_474 ?c_474 ?s_474 ?V_474 ?_; (case s_474 => exact rfl); (case k_474 => rfl); (case a_474 => decide); (case b_474 => decide); (case F_474 => k_asm); (case X_474 => k_asm); (case T_474 => k_asm); (case e_474 => k_is); (case c_474 => exact rfl); (case f_474 => k_is); (case V_474 => walk_at "MINE vs"); k_whole))))
  (k_with "isTrue Compare" => ((k_here; first | ((with_reducible show wpAny _ _ (isTrue (Expr.Compare _ [CmpOp.Eq] [_] _) _ _) _ _ _); k_dflt (refine' ev_eqs ?s_475 ?x_475 ?y_475 ?m_475 ?_; (case s_475 => exact rfl); (case m_475 => with_unfolding_all rfl); (case x_475 => walk_at "MINE ev"); (case y_475 => walk_at "MINE ev"); k_whole)) | ((with_reducible show wpAny _ _ (isTrue (Expr.Compare _ [CmpOp.NotEq] [_] _) _ _) _ _ _); k_dflt (refine' ev_nes ?s_475 ?x_475 ?y_475 ?m_475 ?_; (case s_475 => exact rfl); (case m_475 => with_unfolding_all rfl); (case x_475 => walk_at "MINE ev"); (case y_475 => walk_at "MINE ev"); k_whole)) | ((with_reducible show wpAny _ _ (isTrue (Expr.Compare _ [CmpOp.In] [Expr.List _ _] _) _ _) _ _ _); k_dflt (refine' ev_inL ?s_475 ?e_475 ?z_475 ?m_475 ?F_475 ?N_475 ?x_475 ?_; (case s_475 => exact rfl); (case e_475 => exact rfl); (case z_475 => exact rfl); (case m_475 => with_unfolding_all rfl); (case F_475 => k_asm); (case N_475 => k_asm); (case x_475 => walk_at "MINE ev"); k_whole); intro h' tk' F' N'; (try k_sweep); (try dsimp only)) | ((with_reducible show wpAny _ _ (isTrue (Expr.Compare _ [CmpOp.In] [Expr.Tuple _ _ _] _) _ _) _ _ _); k_dflt (refine' ev_inT ?s_475 ?e_475 ?z_475 ?m_475 ?F_475 ?N_475 ?x_475 ?_; (case s_475 => exact rfl); (case e_475 => exact rfl); (case z_475 => exact rfl); (case m_475 => with_unfolding_all rfl); (case F_475 => k_asm); (case N_475 => k_asm); (case x_475 => walk_at "MINE ev"); k_whole); intro h' tk' F' N'; (try k_sweep); (try dsimp only)))))
  (k_with "eval BinOp" => ((k_here; k_dflt (refine' ev_bin ?s_476 ?x_476 ?y_476 ?_; (case s_476 => exact rfl); (case x_476 => walk_at "MINE ev"); (case y_476 => walk_at "MINE ev"); k_whole))))
  (k_with "eval Subscript" => ((k_here; k_dflt (refine' ev_sub ?s_477 ?x_477 ?y_477 ?_; (case s_477 => exact rfl); (case x_477 => walk_at "MINE ev"); (case y_477 => walk_at "MINE ev"); k_whole))))
  (k_with "eval Subscript" => ((k_here; (with_reducible show wpAny _ _ (eval (Expr.Subscript _ (Expr.Constant _ _ _) _) _) _ _ _); k_dflt (refine' ev_use ?s_478 ?x_478 ?_; (case s_478 => exact rfl); (case x_478 => walk_at "MINE ev"); k_whole))))
  (k_with "eval Attribute" => ((k_here; k_dflt (refine' ev_use ?s_479 ?x_479 ?_; (case s_479 => exact rfl); (case x_479 => walk_at "MINE ev"); k_whole))))
  (k_with "exec Return" => ((k_here; k_dflt (refine' ev_ret ?s_480 ?x_480 ?_; (case s_480 => exact rfl); (case x_480 => walk_at "MINE ev"); k_whole))))
  (k_with "storeName" => ((k_here; k_dflt (refine' storeE ?F_481 ?N_481 ?a_481 ?b_481 ?_; (case a_481 => rfl); (case b_481 => decide); (case F_481 => k_asm); (case N_481 => k_asm); k_whole); intro h' tk' F' N'; (try k_sweep))))
  (k_with "newList" => ((k_here; k_dflt (refine' newListE ?F_482 ?N_482 ?z_482 ?_; (case F_482 => k_asm); (case N_482 => k_asm); (case z_482 => size_fits); k_whole); intro l' h' F' N' l1; (try k_lt l1); (try k_sweep))))
  (k_with "newTuple" => ((k_here; kup_bare; k_dflt (refine' newTupleE ?F_483 ?N_483 ?z_483 ?_; (case F_483 => k_asm); (case N_483 => k_asm); (case z_483 => kmk_size); k_whole); intro D' h' F' N' l1; (try k_lt l1); (try k_sweep))))
  (k_with "call builtin:list.append" => ((k_here; (with_reducible show wpAny _ _ (call (Value.builtin _) [Value.ref _, _]) _ _ _); k_dflt (refine' appendE ?F_484 ?N_484 ?U_484 ?z_484 ?_; (case F_484 => k_asm); (case N_484 => k_asm); (case U_484 => k_upd); (case z_484 => size_fits); k_whole); intro h' F' N'; (try k_sweep))))
  (k_with "setAttr ref" => ((k_here; k_dflt (refine' setE ?F_485 ?X_485 ?N_485 ?i_485 ?j_485 ?k6_485 ?k7_485 ?k8_485 ?k9_485 ?k10_485 ?k11_485 ?k12_485 ?k13_485 ?_; (case F_485 => k_asm); (case X_485 => k_asm); (case N_485 => k_asm); (case i_485 => k_mem); (case j_485 => k_mem); (case k6_485 => k_is); (case k7_485 => k_is); (case k8_485 => k_is); (case k9_485 => k_is); (case k10_485 => k_get); (case k11_485 => k_put); (case k12_485 => k_upd); (case k13_485 => exact rfl); k_whole); intro h' tk' F' N'; (try k_sweep))))
  (k_with "LeaveK" => ((k_dflt (refine' leaveE ?F_486 ?N_486 ?_; (case F_486 => k_asm); (case N_486 => k_asm); k_whole); intro kF kN; (try dsimp only [InitBack]); (try refine ⟨rfl, ?_⟩))))
  (k_with "X k_enter" => ((refine' codeE ?k1_487 ?k2_487 ?k3_487 ?k4_487 ?k5_487 ?kA_487 ?kF_487 ?kK_487 ?k6_487 ?k7_487 ?k8_487 ?k9_487 ?kB_487 ?c2_487 ?c3_487 ?c4_487 ?c5_487 ?_; (case kA_487 => exact rfl); (case kF_487 => exact rfl); (case kK_487 => first | exact rfl | assumption); (case k1_487 => k_asm); (case k2_487 => k_asm); (case k3_487 => k_asm); (case k4_487 => k_asm); (case k5_487 => k_asm); (case k6_487 => k_is); (case k7_487 => k_is); (case k8_487 => ktr_room); (case k9_487 => exact BindsTo.of_eq rfl); (case c5_487 => decide); (case kB_487 => exact locs rfl); (case c2_487 => exact rfl); (case c3_487 => exact rfl); (case c4_487 => exact rfl); k_whole; intro g' L' h' tk' FG' F' N' B' X' T' nK aK; (try dsimp only [zipB, List.reverse, List.reverseAux] at F'); (try k_lift B'); (try k_fold))))
  (k_with "execs cons" => (first | with_reducible refine seq_if ?_ | with_reducible refine seq_cons ?_))
  (k_with "SeqK" => (first | with_reducible refine seq_end ?_ | with_reducible refine seq_next ?_ | with_reducible refine seq_ret ?_ | with_reducible refine seq_brk ?_ | with_reducible refine seq_cont ?_))
  (k_with "IfK" => (with_reducible refine ifK_open ?_))
  (k_with "AndK" => (with_reducible refine andK_open ?_))
  (k_with "OrK" => (with_reducible refine orK_open ?_))
  (k_with "exec If" => (with_reducible refine if_k ?_))
  (k_with "isTrue BoolOp" => (first | with_reducible refine and_k ?_ | with_reducible refine or_k ?_))
  (k_with "BackK" => ((k_dflt (first | (refine' backQ ?F_495 ?N_495 ?_; (case F_495 => k_asm); (case N_495 => k_asm); k_whole) | (refine' backN ?F_495 ?N_495 ?_; (case F_495 => k_asm); (case N_495 => k_asm); k_whole) | (refine' backR ?F_495 ?N_495 ?_; (case F_495 => k_asm); (case N_495 => k_asm); k_whole) | (refine' backRN ?F_495 ?N_495 ?_; (case F_495 => k_asm); (case N_495 => k_asm); k_whole)); intro kF kN; (try dsimp only [InitBack]); (try refine ⟨rfl, ?_⟩))))
  (k_with "compareOp In" => ((k_here; (with_reducible show wpAny _ _ (compareOp CmpOp.In Value.none (Value.ref _)) _ _ _); k_dflt (refine' in_none ?k1_496 ?k2_496 ?k3_496 ?k4_496 ?k5_496 ?_ ?_; (case k1_496 => k_asm); (case k2_496 => k_mem); (case k3_496 => assumption); (case k4_496 => assumption); (case k5_496 => ktr_units)); (intro hn; (try dsimp only)); rotate_left; (intro x' t' y' u' e1 e2 e3 e4; cases e1; (try cases e2); (try cases e3); (try cases e4); (try dsimp only)); rotate_left)))
  (k_with "compareOp IsNot" => ((k_here; (with_reducible show wpAny _ _ (compareOp CmpOp.IsNot _ Value.none) _ _ _); k_dflt (refine' isNot_none ?k3_497 ?_ ?_; (case k3_497 => assumption)); (intro e1 e2; subst e1 e2; (try dsimp only)); rotate_left; (intro x' t' e1 e2; subst e1 e2; (try dsimp only)); rotate_left)))
  (k_with "compareOp Is" => ((k_here; (with_reducible show wpAny _ _ (compareOp CmpOp.Is _ Value.none) _ _ _); k_dflt (refine' is_none ?k3_498 ?_ ?_; (case k3_498 => assumption)); (intro e1 e2; subst e1 e2; (try dsimp only)); rotate_left; (intro x' t' e1 e2; subst e1 e2; (try dsimp only)); rotate_left)))
  (k_with "MINE look" => ((repeat (first | with_reducible assumption | with_reducible exact lk_hd | with_reducible exact if_hd | with_reducible refine lk_tl (by decide) ?_ | with_reducible refine if_tl (by decide) ?_))))
  (k_with "MyPost" => ((dsimp only [MyPost])))
  (k_with "loadName" => ((k_here; k_dflt (refine' ldn ?F_501 ?v_501 ?_ ?k_501 ?a_501; (case k_501 => rfl); (case a_501 => rfl); (case F_501 => k_asm); (case v_501 => walk_at "MINE look"); k_whole))))
  (k_with "execs nil" => ((with_reducible refine wpAny_execs_nil ?_)))
  (k_with "CompEnd" => (((rename News _ _ _ _ => nE'); k_dflt (refine LCg.CompEnd.intro (by assumption) nE' _ (fun _ h => h) (by assumption) (by lcg_src) ?_))))
  (k_with "binaryOp Pow int int" => (((with_reducible refine pow_int_small ?_ ?_ ?_ ?_); (first | decide | omega); (first | decide | omega); (decide))))
  (k_with "exec For Name Subscript cons nil" => ((k_here; (with_reducible show wpAny _ _ (exec (Stmt.For (Expr.Name _ _) _ _ [] _) _) _ _ _); k_dflt ((rename Fr _ _ _ _ => lF'); refine' For_invVF lF' ?k1_505 ?k2_505 ?_; (case k1_505 => exact rfl); (case k2_505 => exact rfl); k_whole))))
  (k_with "exec For Name Name cons nil" => ((k_here; (with_reducible show wpAny _ _ (exec (Stmt.For (Expr.Name _ _) _ _ [] _) _) _ _ _); k_dflt ((rename Fr _ _ _ _ => lF'); refine' For_invVF lF' ?k1_506 ?k2_506 ?_; (case k1_506 => exact rfl); (case k2_506 => exact rfl); k_whole))))
  (k_with "exec For Name Attribute cons nil" => ((k_here; (with_reducible show wpAny _ _ (exec (Stmt.For (Expr.Name _ _) _ _ [] _) _) _ _ _); k_dflt ((rename Fr _ _ _ _ => lF'); refine' For_invVF lF' ?k1_507 ?k2_507 ?_; (case k1_507 => exact rfl); (case k2_507 => exact rfl); k_whole))))
  (k_with "exec For Name Call cons nil" => ((k_here; (with_reducible show wpAny _ _ (exec (Stmt.For (Expr.Name _ _) _ _ [] _) _) _ _ _); k_dflt ((rename Fr _ _ _ _ => lF'); refine' For_invVF lF' ?k1_508 ?k2_508 ?_; (case k1_508 => exact rfl); (case k2_508 => exact rfl); k_whole))))
  (k_with "call ref" => ((k_here; (with_reducible show wpAny _ _ (call (Value.ref 303) _) _ _ _); k_dflt (refine' pick_ct _ _ _ _ ?k1_509 ?k2_509 ?k3_509 ?k4_509 ?k5_509 ?kK_509 ?kd_509 ?ku_509 ?p0_509 ?p1_509 ?p2_509 ?p3_509 ?p4_509 ?p5_509 ?p6_509 ?p7_509 ?p8_509 ?p9_509 ?_; (case k1_509 => k_asm); (case k2_509 => k_asm); (case k3_509 => k_asm); (case k4_509 => k_asm); (case k5_509 => k_asm); (case kK_509 => first | exact rfl | assumption); (case kd_509 => ktr_room); (case ku_509 => ktr_units); (case p0_509 => k_updF); (case p1_509 => k_mem); (case p2_509 => assumption); (case p3_509 => omega); (case p4_509 => omega); (case p5_509 => omega); (case p6_509 => omega); (case p7_509 => omega); (case p8_509 => decide); (case p9_509 => decide)); intro r' t' i' ti' mx' tm' h' tk' F' N' r1 r2 i1 i2 m1 m2; (try dsimp only at N'); (try k_sweep); (try dsimp only); (try k_fold))))
  (k_with "call ref" => ((k_here; (with_reducible show wpAny _ _ (call (Value.ref 88) [_, _, _, _, _]) _ _ _); k_dflt (refine' node_ct _ _ _ _ ?k1_510 ?k2_510 ?k3_510 ?k4_510 ?k5_510 ?kK_510 ?kd_510 ?ku_510  ?_; (case k1_510 => k_asm); (case k2_510 => k_asm); (case k3_510 => k_asm); (case k4_510 => k_asm); (case k5_510 => k_asm); (case kK_510 => first | exact rfl | assumption); (case kd_510 => ktr_room); (case ku_510 => ktr_units)); intro x' d' t1 t2 t3 t4 t5 t6 h' tk' F' N' l1 l2; (try k_lt l1); (try k_lt2 l2); (try k_sweep); (try dsimp only); (try k_fold))))
  (k_with "call ref" => ((k_here; (with_reducible show wpAny _ _ (call (Value.ref 88) [_, _, _, _]) _ _ _); k_dflt (refine' node4_ct _ _ _ _ ?k1_511 ?k2_511 ?k3_511 ?k4_511 ?k5_511 ?kK_511 ?kd_511 ?ku_511  ?_; (case k1_511 => k_asm); (case k2_511 => k_asm); (case k3_511 => k_asm); (case k4_511 => k_asm); (case k5_511 => k_asm); (case kK_511 => first | exact rfl | assumption); (case kd_511 => ktr_room); (case ku_511 => ktr_units)); intro x' d' tq1 tq2 tq3 tq4 tq5 tq6 h' tk' F' N' l1 l2; (try k_lt l1); (try k_lt2 l2); (try k_sweep); (try dsimp only); (try k_fold))))
  (k_with "call ref" => ((k_here; (with_reducible show wpAny _ _ (call (Value.ref 99) _) _ _ _); k_dflt (refine' const_ct _ _ _ _ ?k1_512 ?k2_512 ?k3_512 ?k4_512 ?k5_512 ?kK_512 ?kd_512 ?ku_512  ?_; (case k1_512 => k_asm); (case k2_512 => k_asm); (case k3_512 => k_asm); (case k4_512 => k_asm); (case k5_512 => k_asm); (case kK_512 => first | exact rfl | assumption); (case kd_512 => ktr_room); (case ku_512 => ktr_units)); intro x' d' l' t0 t1 t2 t3 t4 t5 t6 h' tk' F' N' l1 l2 l3; (try k_lt l1); (try k_lt2 l2); (try k_lt2 l3); (try k_sweep); (try dsimp only); (try k_fold))))
  (k_with "X k_upd" => (exact upd_over (by assumption) _ (by assumption)))
  (k_with "X k_upd" => (exact Slots2.ua (by assumption) _))
  (k_with "X k_updF" => (exact Slots2.fb (by assumption)))
  (k_with "X k_mem" => (exact Slots2.mb (by assumption)))
  (k_with "X k_mem" => (exact Slots2.ma (by assumption)))
  (k_with "compareOp NotIn int ref" => ((k_here; k_dflt (refine' pl_notin ?k1_518 ?k2_518 ?k3_518 ?k4_518 ?k5_518 ?_; (case k1_518 => k_asm); (case k2_518 => k_mem); (case k3_518 => assumption); (case k4_518 => assumption); (case k5_518 => assumption)))))
  (k_with "setItem ref int" => ((k_here; k_dflt (refine' pl_set ?v_519 ?F_519 ?N_519 ?U_519 ?d_519 ?p_519 ?z_519 ?_; (case F_519 => k_asm); (case N_519 => k_asm); (case U_519 => k_updF); (case d_519 => assumption); (case p_519 => assumption); (case z_519 => assumption); (case v_519 => k_flat)); intro h' o' F' N' hd'; (try dsimp only at N'); (try k_sweep))))
  (k_with "call ref" => ((k_here; (with_reducible show wpAny _ _ (call (Value.ref 190) _) _ _ _); k_dflt (refine' mark_ct _ _ _ _ ?k1_520 ?k2_520 ?k3_520 ?k4_520 ?k5_520 ?kK_520 ?kd_520 ?ku_520 ?p0_520 ?p1_520 ?p2_520 ?p3_520 ?p4_520 ?p5_520 ?p6_520 ?_; (case k1_520 => k_asm); (case k2_520 => k_asm); (case k3_520 => k_asm); (case k4_520 => k_asm); (case k5_520 => k_asm); (case kK_520 => first | exact rfl | assumption); (case kd_520 => ktr_room); (case ku_520 => ktr_units); (case p0_520 => k_updF); (case p1_520 => assumption); (case p2_520 => assumption); (case p3_520 => assumption); (case p4_520 => assumption); (case p5_520 => first | assumption | omega); (case p6_520 => first | assumption | omega)); intro r' od' h' tk' F' N' hpl' l1; (try dsimp only at N'); (try k_lt l1); (try k_sweep); (try dsimp only); (try k_fold))))
  (k_with "getMethod ref" => ((k_here; (with_reducible show wpAny _ _ (getMethod _ (Str.ofString "mark") _) _ _ _); k_dflt (refine' err_mark ?k1_521 ?k2_521 ?k3_521 ?k4_521 ?k5_521 ?k6_521 ?k7_521 ?k8_521 ?_; (case k1_521 => k_asm); (case k2_521 => k_asm); (case k3_521 => k_asm); (case k4_521 => with_reducible assumption); (case k5_521 => first | exact fun _ h => h | (intro p hp; repeat (first | exact hp | apply List.mem_cons_of_mem))); (case k6_521 => k_is); (case k7_521 => k_is); (case k8_521 => k_is); k_whole))))
  (k_with "call ref" => ((k_here; (with_reducible show wpAny _ _ (call (Value.ref 120) _) _ _ _); k_dflt (refine' wrong_ct _ _ _ _ ?k1_522 ?k2_522 ?k3_522 ?k4_522 ?k5_522 ?kK_522 ?kd_522 ?ku_522 ?p0_522 ?p1_522 ?p2_522 ?p3_522 ?p4_522 ?p5_522 ?p6_522 ?_; (case k1_522 => k_asm); (case k2_522 => k_asm); (case k3_522 => k_asm); (case k4_522 => k_asm); (case k5_522 => k_asm); (case kK_522 => first | exact rfl | assumption); (case kd_522 => ktr_room); (case ku_522 => ktr_units); (case p0_522 => first | k_updF | exact UpdF2.over (by assumption) (by assumption) | exact UpdF2.over (UpdF2.over (by assumption) (by assumption)) (kst_ltOf (by assumption))); (case p1_522 => first | with_reducible assumption | exact errIn_over (by assumption) | exact errIn_over (errIn_over (by assumption))); (case p2_522 => assumption); (case p3_522 => assumption); (case p4_522 => first | assumption | exact List.not_mem_nil); (case p5_522 => first | assumption | exact Nat.zero_le _); (case p6_522 => first | assumption | exact Nat.zero_le _)); intro x' d' l' r' t0 t1 t2 t3 t4 t5 t6 t7 od' h' tk' F' N' hpl' l1 l2 l3 l4; (try dsimp only at N'); (try k_lt2 l2); (try k_lt2 l3); (try k_lt2 l4); (try k_sweep); (try dsimp only); (try k_fold))))
  (k_with "call ref" => ((k_here; (with_reducible show wpAny _ _ (call (Value.ref 42) _) _ _ _); k_dflt (refine' checked_ct _ _ _ _ ?k1_523 ?k2_523 ?k3_523 ?k4_523 ?k5_523 ?kK_523 ?kd_523 ?ku_523  ?_; (case k1_523 => k_asm); (case k2_523 => k_asm); (case k3_523 => k_asm); (case k4_523 => k_asm); (case k5_523 => k_asm); (case kK_523 => first | exact rfl | assumption); (case kd_523 => ktr_room); (case ku_523 => ktr_units)); intro r' t1 t2 tp' h' tk' F' N' l1 e1; (try k_lt l1); (try k_sweep); (try dsimp only); (try k_fold))))
  (k_with "call ref" => ((k_here; (with_reducible show wpAny _ _ (call (Value.ref 63) _) _ _ _); k_dflt (refine' fold_ct _ _ _ _ ?k1_524 ?k2_524 ?k3_524 ?k4_524 ?k5_524 ?kK_524 ?kd_524 ?ku_524 ?p0_524 ?p1_524 ?p2_524 ?p3_524 ?_; (case k1_524 => k_asm); (case k2_524 => k_asm); (case k3_524 => k_asm); (case k4_524 => k_asm); (case k5_524 => k_asm); (case kK_524 => first | exact rfl | assumption); (case kd_524 => ktr_room); (case ku_524 => ktr_units); (case p0_524 => omega); (case p1_524 => omega); (case p2_524 => omega); (case p3_524 => omega)); intro r' t1 t2 tp' h' tk' F' N' l1 e1; (try k_lt l1); (try k_sweep); (try dsimp only); (try k_fold))))
  (k_with "call ref" => ((k_here; (with_reducible show wpAny _ _ (call (Value.ref 106) _) _ _ _); k_dflt (refine' isint_ct _ _ _ _ ?k1_525 ?k2_525 ?k3_525 ?k4_525 ?k5_525 ?kK_525 ?kd_525 ?ku_525 ?p0_525 ?_; (case k1_525 => k_asm); (case k2_525 => k_asm); (case k3_525 => k_asm); (case k4_525 => k_asm); (case k5_525 => k_asm); (case kK_525 => first | exact rfl | assumption); (case kd_525 => ktr_room); (case ku_525 => ktr_units); (case p0_525 => first | with_reducible assumption | exact HasA.mono (by assumption) (by first | exact fun _ h => h | (intro p hp; repeat (first | exact hp | apply List.mem_cons_of_mem))))); intro h' tk' F' N'; (try k_sweep); (try dsimp only); (try k_fold))))
  (k_with "call ref" => ((k_here; (with_reducible show wpAny _ _ (call (Value.ref 106) _) _ _ _); k_dflt (refine' isintset_ct _ _ _ _ ?k1_526 ?k2_526 ?k3_526 ?k4_526 ?k5_526 ?kK_526 ?kd_526 ?ku_526 ?p0_526 ?p1_526 ?_; (case k1_526 => k_asm); (case k2_526 => k_asm); (case k3_526 => k_asm); (case k4_526 => k_asm); (case k5_526 => k_asm); (case kK_526 => first | exact rfl | assumption); (case kd_526 => ktr_room); (case ku_526 => ktr_units); (case p0_526 => exact HasA.mono (by assumption) (by walk_at "MINE sub")); (case p1_526 => with_reducible assumption)); intro h' tk' F' N'; (try k_sweep); (try dsimp only); (try k_fold))))
  (k_with "call ref" => ((k_here; (with_reducible show wpAny _ _ (call (Value.ref 113) _) _ _ _); k_dflt (refine' isconst_ct _ _ _ _ ?k1_527 ?k2_527 ?k3_527 ?k4_527 ?k5_527 ?kK_527 ?kd_527 ?ku_527 ?p0_527 ?_; (case k1_527 => k_asm); (case k2_527 => k_asm); (case k3_527 => k_asm); (case k4_527 => k_asm); (case k5_527 => k_asm); (case kK_527 => first | exact rfl | assumption); (case kd_527 => ktr_room); (case ku_527 => ktr_units); (case p0_527 => first | with_reducible assumption | exact HasA.mono (by assumption) (by first | exact fun _ h => h | (intro p hp; repeat (first | exact hp | apply List.mem_cons_of_mem))))); intro h' tk' F' N'; (try k_sweep); (try dsimp only); (try k_fold))))
  (k_with "call ref" => ((k_here; (with_reducible show wpAny _ _ (call (Value.ref 148) _) _ _ _); k_dflt (refine' bnode_ct _ _ _ _ ?k1_528 ?k2_528 ?k3_528 ?k4_528 ?k5_528 ?kK_528 ?kd_528 ?ku_528 ?p0_528 ?p1_528 ?p2_528 ?p3_528 ?p4_528 ?p5_528 ?p6_528 ?_; (case k1_528 => k_asm); (case k2_528 => k_asm); (case k3_528 => k_asm); (case k4_528 => k_asm); (case k5_528 => k_asm); (case kK_528 => first | exact rfl | assumption); (case kd_528 => ktr_room); (case ku_528 => ktr_units); (case p0_528 => first | k_updF | exact UpdF2.over (by assumption) (by assumption) | exact UpdF2.over (UpdF2.over (by assumption) (by assumption)) (kst_ltOf (by assumption))); (case p1_528 => first | with_reducible assumption | exact errIn_over (by assumption) | exact errIn_over (errIn_over (by assumption))); (case p2_528 => assumption); (case p3_528 => assumption); (case p4_528 => exact NodeF.mono (by assumption) (by first | exact fun _ h => h | (intro p hp; repeat (first | exact hp | apply List.mem_cons_of_mem)))); (case p5_528 => exact NodeF.mono (by assumption) (by first | exact fun _ h => h | (intro p hp; repeat (first | exact hp | apply List.mem_cons_of_mem)))); (case p6_528 => first | with_reducible assumption | exact binArgs_bool (by assumption) (by assumption) (by assumption) (by assumption) | exact binArgs_set (by assumption) (by assumption) (by assumption) (by assumption) | exact binArgs_int (by assumption) (by assumption) (by assumption) (by assumption))); intro new' x' rows' nn' od' h' tk' F' N' ov' res'; (try dsimp only at N'); (try k_sweep); (try dsimp only); (try k_fold))))
  (k_with "compareOp LtE" => ((k_here; k_dflt (refine' le_side ?h_529 ?h1_529 ?h2_529 ?_; (case h_529 => assumption); (case h1_529 => assumption); (case h2_529 => assumption)); intro b t ev eo; subst ev; subst eo; (try dsimp only))))
  (k_with "binaryOp Add str str" => ((refine PyProof.Rows.add_str ?_ (sadd (by assumption)); intro _ _)))
  (k_with "MINE due" => ((simp only [dueC, dueOp, dueSel, setOp, divOp, negO, badOps, isI_set, *, reduceIte, Bool.and_true, Bool.true_and, Bool.and_false, Bool.false_and, Bool.false_eq_true, decide_true, decide_false])))
  (k_with "call ref" => ((k_here; (with_reducible show wpAny _ _ (call (Value.ref 275) _) _ _ _); k_dflt (refine' new_ct _ _ _ _ ?k1_532 ?k2_532 ?k3_532 ?k4_532 ?k5_532 ?kK_532 ?kd_532 ?ku_532 ?p0_532 ?p1_532 ?p2_532 ?p3_532 ?p4_532 ?_; (case k1_532 => k_asm); (case k2_532 => k_asm); (case k3_532 => k_asm); (case k4_532 => k_asm); (case k5_532 => k_asm); (case kK_532 => first | exact rfl | assumption); (case kd_532 => ktr_room); (case ku_532 => ktr_units); (case p0_532 => k_updF); (case p1_532 => (intro o; (try dsimp only); k_mem)); (case p2_532 => (simp only [List.length_cons, List.length_nil]; omega)); (case p3_532 => first | decide | omega); (case p4_532 => first | decide | omega)); intro ty' new' tc' h' tk' F' N' ov' tf' tb'; (try dsimp only at N'); (try k_sweep); (try dsimp only); (try k_fold))))
  (k_with "call ref" => ((k_here; (with_reducible show wpAny _ _ (call (Value.ref 282) _) _ _ _); k_dflt (refine' string_ct _ _ _ _ ?k1_533 ?k2_533 ?k3_533 ?k4_533 ?k5_533 ?kK_533 ?kd_533 ?ku_533 ?p0_533 ?p1_533 ?p2_533 ?p3_533 ?p4_533 ?_; (case k1_533 => k_asm); (case k2_533 => k_asm); (case k3_533 => k_asm); (case k4_533 => k_asm); (case k5_533 => k_asm); (case kK_533 => first | exact rfl | assumption); (case kd_533 => ktr_room); (case ku_533 => ktr_units); (case p0_533 => k_mem); (case p1_533 => k_updF); (case p2_533 => (intro o; (try dsimp only); k_mem)); (case p3_533 => omega); (case p4_533 => omega)); intro ty' new' tc' h' tk' F' N' ov' tf'; (try dsimp only at N'); (try k_sweep); (try dsimp only); (try k_fold))))
  (k_with "X k_all" => (exact tyI_all (by assumption)))
  (k_with "call ref" => ((k_here; (with_reducible show wpAny _ _ (call (Value.ref 275) _) _ _ _); k_dflt (refine' new2_ct _ _ _ _ ?k1_535 ?k2_535 ?k3_535 ?k4_535 ?k5_535 ?kK_535 ?kd_535 ?ku_535 ?p0_535 ?p1_535 ?p2_535 ?p3_535 ?p4_535 ?p5_535 ?p6_535 ?p7_535 ?_; (case k1_535 => k_asm); (case k2_535 => k_asm); (case k3_535 => k_asm); (case k4_535 => k_asm); (case k5_535 => k_asm); (case kK_535 => first | exact rfl | assumption); (case kd_535 => ktr_room); (case ku_535 => ktr_units); (case p0_535 => first | exact sub_hereY | exact sub_one); (case p1_535 => first | exact sub_here | exact sub_tl3); (case p2_535 => first | with_reducible assumption | exact tyI_one (by assumption) (by assumption) (by assumption)); (case p3_535 => k_mem); (case p4_535 => k_mem); (case p5_535 => (simp only [List.length_cons, List.length_nil]; omega)); (case p6_535 => first | decide | omega); (case p7_535 => first | decide | omega)); intro ty' new' tc' h' tk' F' N' sub' ov' tf' tb'; (try dsimp only at N'); (try k_sweep); (try dsimp only); (try k_fold))))
  (k_with "call ref" => ((k_here; (with_reducible show wpAny _ _ (call (Value.ref 49) _) _ _ _); k_dflt (refine' foldu_ct _ _ _ _ ?k1_536 ?k2_536 ?k3_536 ?k4_536 ?k5_536 ?kK_536 ?kd_536 ?ku_536 ?p0_536 ?p1_536 ?_; (case k1_536 => k_asm); (case k2_536 => k_asm); (case k3_536 => k_asm); (case k4_536 => k_asm); (case k5_536 => k_asm); (case kK_536 => first | exact rfl | assumption); (case kd_536 => ktr_room); (case ku_536 => ktr_units); (case p0_536 => omega); (case p1_536 => omega)); intro r' t1 t2 tp' h' tk' F' N' l1 e1; (try k_lt l1); (try k_sweep); (try dsimp only); (try k_fold))))
  (k_with "call ref" => ((k_here; (with_reducible show wpAny _ _ (call (Value.ref 134) _) _ _ _); k_dflt (refine' unode_ct _ _ _ _ ?k1_537 ?k2_537 ?k3_537 ?k4_537 ?k5_537 ?kK_537 ?kd_537 ?ku_537 ?p0_537 ?p1_537 ?p2_537 ?p3_537 ?p4_537 ?p5_537 ?_; (case k1_537 => k_asm); (case k2_537 => k_asm); (case k3_537 => k_asm); (case k4_537 => k_asm); (case k5_537 => k_asm); (case kK_537 => first | exact rfl | assumption); (case kd_537 => ktr_room); (case ku_537 => ktr_units); (case p0_537 => first | k_updF | exact UpdF2.over (by assumption) (by assumption)); (case p1_537 => first | with_reducible assumption | exact errIn_over (by assumption)); (case p2_537 => assumption); (case p3_537 => assumption); (case p4_537 => exact NodeF.mono (by assumption) (by walk_at "MINE sub")); (case p5_537 => first | with_reducible assumption | exact uArgs_bool (by assumption) (by assumption) | exact uArgs_set (by assumption) (by assumption) | exact uArgs_int (by assumption) (by assumption))); intro new' x' rows' nn' od' h' tk' F' N' ov' res'; (try dsimp only at N'); (try k_sweep); (try dsimp only); (try k_fold))))
  (k_with "MINE udue" => ((simp only [uC, uOp, uSel, badOps, *, reduceIte, Bool.not_true, Bool.not_false, Bool.and_true, Bool.true_and, Bool.and_false, Bool.false_and, Bool.false_eq_true])))
  (k_with "getItem ref str" => ((k_here; k_dflt (refine' getMask ?k1_539 ?k2_539 ?_; (case k1_539 => assumption); (case k2_539 => k_tabat)); intro V9 t9 hV9 hV0 hV1; (try dsimp only))))
  (k_with "binaryOp Mult int int" => (with_reducible refine PyProof.Rows.mul_int ?_ (mulok01 (by assumption) (by assumption))))
  (k_with "binaryOp Pow int int" => (((with_reducible refine pow_int_small ?_ ?_ ?_ ?_); (omega); (omega); (decide))))
  (k_with "call ref" => ((k_here; (with_reducible show wpAny _ _ (call (Value.ref 324) _) _ _ _); k_dflt (refine' mask_ct _ _ _ _ ?k1_542 ?k2_542 ?k3_542 ?k4_542 ?k5_542 ?kK_542 ?kd_542 ?ku_542 ?p0_542 ?p1_542 ?p2_542 ?_; (case k1_542 => k_asm); (case k2_542 => k_asm); (case k3_542 => k_asm); (case k4_542 => k_asm); (case k5_542 => k_asm); (case kK_542 => first | exact rfl | assumption); (case kd_542 => ktr_room); (case ku_542 => ktr_units); (case p0_542 => exact dom_mk (by assumption) (by assumption) (by assumption)); (case p1_542 => exact dom_mk (by assumption) (by assumption) (by assumption)); (case p2_542 => exact op4_of (by assumption))); intro t' h' tk' F' N'; (try k_sweep); (try dsimp only); (try k_fold))))
  (k_with "call ref" => ((k_here; (with_reducible show wpAny _ _ (call (Value.ref 317) _) _ _ _); k_dflt (refine' exact_ct _ _ _ _ ?k1_543 ?k2_543 ?k3_543 ?k4_543 ?k5_543 ?kK_543 ?kd_543 ?ku_543 ?p0_543 ?p1_543 ?p2_543 ?p3_543 ?p4_543 ?_; (case k1_543 => k_asm); (case k2_543 => k_asm); (case k3_543 => k_asm); (case k4_543 => k_asm); (case k5_543 => k_asm); (case kK_543 => first | exact rfl | assumption); (case kd_543 => ktr_room); (case ku_543 => ktr_units); (case p0_543 => exact dom_lo (by assumption) (by assumption) (by assumption)); (case p1_543 => exact dom_hi (by assumption) (by assumption) (by assumption)); (case p2_543 => exact dom_lo (by assumption) (by assumption) (by assumption)); (case p3_543 => exact dom_hi (by assumption) (by assumption) (by assumption)); (case p4_543 => first | exact exop1 (by assumption) (by assumption) (by assumption) (by assumption) | exact exop2 (by assumption) (by assumption) (by assumption))); intro t' h' tk' F' N'; (try k_sweep); (try dsimp only); (try k_fold))))
  (k_with "MINE duek" => ((simp only [dueC, dueOp, dueSel, setOp, divOp, negO, badOps, bne, *, reduceIte, Bool.not_true, Bool.not_false, Bool.and_true, Bool.true_and, Bool.and_false, Bool.false_and, Bool.false_eq_true, decide_true, decide_false])))
  (k_with "MINE ltend" => (first | with_reducible assumption | exact kst_ltOf (by with_reducible assumption) | exact kst_ltOf (And.right (by assumption)) | exact kst_ltOf (And.right (And.right (by assumption))) | exact kst_ltOf (And.right (And.right (And.right (by assumption))))))
  (k_with "MINE a3" => (first | exact and3a (by assumption) | exact and3b (by assumption) | exact and3c (by assumption) | exact and3a (set_int (by assumption))))
  (k_with "MINE or2" => (first | exact Or.inl (by assumption) | exact Or.inr (by assumption) | exact Or.inr rfl | exact Or.inr (by simp only [negO, decide_eq_false_iff_not]; omega)))
  (k_with "MINE dueend" => (first | exact due_bad1 (by assumption) (by assumption) (by assumption) | exact due_bad2 (by assumption) (by assumption) (by assumption) (by assumption) (by assumption) | exact due_bnone (by assumption) (by assumption) (by assumption) (by assumption) (by assumption) (by assumption) | exact due_band (by assumption) (by assumption) (by assumption) (by assumption) (by assumption) (by assumption) (by assumption) | exact due_bor (by assumption) (by assumption) (by assumption) (by assumption) (by assumption) (by assumption) (by assumption) (by assumption) | exact due_snone (by assumption) (by assumption) (by assumption) (by assumption) (by assumption) (by assumption) (by assumption) rfl | exact due_sval (by assumption) (by assumption) (by assumption) (by assumption) (by assumption) (by assumption) (by assumption) (by assumption) rfl | exact due_wS (by assumption) (by assumption) (by assumption) (by walk_at "MINE a3") (by walk_at "MINE a3") (by assumption) | exact due_wI (by assumption) (by assumption) (by assumption) (by walk_at "MINE a3") (by walk_at "MINE a3") (by assumption) | exact due_idiv (by assumption) (by assumption) (by assumption) (by assumption) (by assumption) (by assumption) (by assumption) (by assumption) | exact due_inone (by assumption) (by assumption) (by assumption) (by assumption) (by assumption) (by assumption) (by walk_at "MINE or2") (by assumption) | exact due_ival (by assumption) (by assumption) (by assumption) (by assumption) (by assumption) (by assumption) (by assumption) (by assumption) (by assumption) (by walk_at "MINE or2") (by assumption) (by assumption) | exact due_iovf (by assumption) (by assumption) (by assumption) (by assumption) (by assumption) (by assumption) (by assumption) (by assumption) (by assumption) (by walk_at "MINE or2") (by walk_at "MINE or2")))
  (k_with "call ref" => ((k_here; (with_reducible show wpAny _ _ (call (Value.ref 331) _) _ _ _); k_dflt (refine' due_ct _ _ _ _ ?k1_549 ?k2_549 ?k3_549 ?k4_549 ?k5_549 ?kK_549 ?kd_549 ?ku_549 ?p0_549 ?p1_549 ?p2_549 ?p3_549 ?p4_549 ?p5_549 ?p6_549 ?p7_549 ?p8_549 ?_; (case k1_549 => k_asm); (case k2_549 => k_asm); (case k3_549 => k_asm); (case k4_549 => k_asm); (case k5_549 => k_asm); (case kK_549 => first | exact rfl | assumption); (case kd_549 => ktr_room); (case ku_549 => ktr_units); (case p0_549 => k_mem); (case p1_549 => k_mem); (case p2_549 => assumption); (case p3_549 => assumption); (case p4_549 => assumption); (case p5_549 => assumption); (case p6_549 => assumption); (case p7_549 => assumption); (case p8_549 => assumption)); intro d' form' code' op' v4' t1 t2 t3 h' tk' F' N' l1 due'; (try k_lt l1); (try k_sweep); (try dsimp only); (try k_fold))))
  (k_with "MINE rows" => (first | with_reducible assumption | exact RowsAre.nil | exact RowsAre.cons (by first | assumption | decide +kernel) (by k_mem) .nil))
  (k_with "MINE ints" => (first | with_reducible assumption | exact IntsAre.nil | exact IntsAre.cons _ _ .nil | exact IntsAre.cons _ _ (.cons _ _ .nil) | exact IntsAre.cons _ _ (.cons _ _ (.cons _ _ .nil))))
  (k_with "compareOp NotEq ref ref" => ((k_here; k_dflt (refine' ne_rowsS ?k1_552 ?k2_552 ?k3_552 ?k4_552 ?k5_552 ?k6_552 ?_; (case k1_552 => k_asm); (case k2_552 => k_mem); (case k3_552 => k_mem); (case k4_552 => walk_at "MINE rows"); (case k5_552 => walk_at "MINE rows"); (case k6_552 => ktr_units); k_whole))))
  (k_with "compareOp Eq ref ref" => ((k_here; k_dflt (refine' eq_intsS ?k1_553 ?k2_553 ?k3_553 ?k4_553 ?k5_553 ?k6_553 ?_; (case k1_553 => k_asm); (case k2_553 => k_mem); (case k3_553 => k_mem); (case k4_553 => walk_at "MINE ints"); (case k5_553 => walk_at "MINE ints"); (case k6_553 => ktr_units); k_whole))))
  (k_with "subscriptTail" => ((k_here; (with_reducible show wpAny _ _ (subscriptTail _ _ (Value.ref _) (Value.int (-1) _)) _ _ _); k_dflt (refine' itemL ?k1_554 ?k2_554 ?k5_554 ?kz_554 ?_ ?k6_554; (case k1_554 => k_asm); (case k2_554 => k_mem); (case k5_554 => rfl); (case kz_554 => exact Nat.le_of_ble_eq_true rfl); (case k6_554 => with_unfolding_all rfl); k_whole))))
  (k_with "call ref" => ((k_here; (with_reducible show wpAny _ _ (call (Value.ref 70) _) _ _ _); k_dflt (refine' range_ct _ _ _ _ ?k1_555 ?k2_555 ?k3_555 ?k4_555 ?k5_555 ?kK_555 ?kd_555 ?ku_555 ?p0_555 ?p1_555 ?p2_555 ?p3_555 ?_; (case k1_555 => k_asm); (case k2_555 => k_asm); (case k3_555 => k_asm); (case k4_555 => k_asm); (case k5_555 => k_asm); (case kK_555 => first | exact rfl | assumption); (case kd_555 => ktr_room); (case ku_555 => ktr_units); (case p0_555 => omega); (case p1_555 => omega); (case p2_555 => omega); (case p3_555 => omega)); intro t' h' tk' F' N'; (try k_sweep); (try dsimp only); (try k_fold))))
  (k_with "eval ListComp" => ((k_here; (with_reducible show wpAny _ _ (eval (Expr.ListComp (Expr.Attribute _ _ _) _ _ _) _) _ _ _); k_dflt (refine' comp_place ?F_556 ?N_556 ?X_556 ?i_556 ?hl_556 ?P_556 ?s_556 ?z_556 ?hh_556 ?g1_556 ?g2_556 ?g3_556 ?g4_556 ?c1_556 ?c2_556 ?c3_556 ?c4_556 ?c5_556 ?c6_556 ?c7_556 ?_; (case F_556 => k_asm); (case N_556 => k_asm); (case X_556 => k_asm); (case i_556 => walk_at "MINE ev"); (case hl_556 => k_mem); (case P_556 => assumption); (case s_556 => walk_at "MINE sub"); (case z_556 => assumption); (case hh_556 => rfl); (case g1_556 => k_is); (case g2_556 => k_is); (case g3_556 => k_is); (case g4_556 => k_is); (case c1_556 => with_unfolding_all rfl); (case c2_556 => decide); (case c3_556 => rfl); (case c4_556 => decide); (case c5_556 => rfl); (case c6_556 => decide); (case c7_556 => exact fun _ => rfl); k_whole); intro D' zs' h' tk' F' N' I')))
  trivial
inductive KsP (news : List (Addr × Obj)) : List Value → List Int → Prop
  | one {x ty kl : Addr} {op : Str} {p : Int} {val : Value} : NodeF news x op p ty kl val → KsP news [.ref x] [p]
  | two {x y ty kl ty' kl' : Addr} {op op' : Str} {p p' : Int} {val val' : Value} : NodeF news x op p ty kl val → NodeF news y op' p' ty' kl' val' → KsP news [.ref x, .ref y] [p, p']
theorem KsP.places {news : List (Addr × Obj)} {ks : List Value} {ps : List Int} (h : KsP news ks ps) : PlacesOf news ks ps ∧ ks.length ≤ 1000 := by
  cases h with
  | one h1 =>
    obtain ⟨t, a⟩ := h1.place
    exact ⟨.cons a .nil, Nat.le_of_ble_eq_true rfl⟩
  | two h1 h2 =>
    obtain ⟨t, a⟩ := h1.place
    obtain ⟨u, b⟩ := h2.place
    exact ⟨.cons a (.cons b .nil), Nat.le_of_ble_eq_true rfl⟩
theorem i_neself {f : Str} {a b : Prop} (h : b) : if (f != f) = true then a else b := by rw [if_neg (by simp)]; exact h
theorem i_eqself {f : Str} {a b : Prop} (h : a) : if (f == f) = true then a else b := by rw [if_pos (by simp)]; exact h
theorem i_neint {p : Int} {a b : Prop} (h : b) : if decide (p ≠ p) = true then a else b := by rw [if_neg (by simp)]; exact h
theorem i_neint2 {p : Int} {a b : Prop} (h : b) : if (p != p) = true then a else b := by rw [if_neg (by simp)]; exact h
theorem i_eqint {p : Int} {a b : Prop} (h : a) : if decide (p = p) = true then a else b := by rw [if_pos (by simp)]; exact h
theorem i_eqint2 {p : Int} {a b : Prop} (h : a) : if (p == p) = true then a else b := by rw [if_pos (by simp)]; exact h
theorem reg63 : True := by
  (k_with "ite" => (first | with_reducible refine i_neself ?_ | with_reducible refine i_eqself ?_ | with_reducible refine i_neint ?_ | with_reducible refine i_eqint ?_ | with_reducible refine i_neint2 ?_ | with_reducible refine i_eqint2 ?_))
  trivial
def FitsC (w : World) (mean : ExcName → Option Value) (mg mb : Str → Option Value) : Prop :=
  ∀ {dp un : Nat} {gd : Option (List Code)} {cn : Str} {cs : Scope} {a : Addr} {ccd : Value} {cl : List (Str × Addr)} {outer : List Env} {A₀ : Around} {base h₀ : Heap} {L : Addr} {m : Str → Option Value} {hp : Heap} {gns : Array GenState} {drw : Drawn} {tk0 : Nat} {sos : OsState} {Q E : Value → Shared → Prop} {news : List (Addr × Obj)}
    {e rl d sl x ty : Addr} {rows ks svs : List Value} {nn ns nd : Nat} {form code op' op0 : Str} {v4 : Value} {p : Int} {v v0 : Option Int} {ps : List Int} {tf tc to tp : Tok},
    Below A₀ base outer h₀ → Fr h₀ L hp m → (Mine.R.heap_1_1 w.params).In h₀ → News h₀ L hp news → Top Mine.R.view_1_2 (looseW Mine.R.view_1_2 []) mean mg mb h₀ → cs.kind = .function →
    dp + 4 < recursionLimit → un + 120 < cLine → HasA news e 207 "rows" (.ref rl) → (rl, listOf rows.toArray nn) ∈ news → Res news p x rows code v0 op0 ks ty → TyF news ty form → (d, tupOf #[.str form tf, .str code tc, v4, .str op' to] nd) ∈ news → OptV v v4 → (code = Str.ofString "" → v = v0 ∧ op' = op0) → KsP news ks ps → (sl, listOf svs.toArray ns) ∈ news → IntsAre svs ps → PyData.strOk code = true →
    (∀ (h' : Heap) (tk' : Nat), Fr h₀ L h' m → News h₀ L h' news → Q (.bool true) ⟨h', gns, drw, tk', sos⟩) →
    wpAny (model PySem.Challenge.rw_nu0332_01.row.prog w) (ktrTop dp un gd cn cs L a ccd cl outer) (call (.ref 336) [.ref e, .ref x, .ref d, .ref sl, .int p tp]) Q E ⟨hp, gns, drw, tk0, sos⟩
set_option maxHeartbeats 8000000 in
theorem fits_ct (w : World) (mean : ExcName → Option Value) (mg mb : Str → Option Value) : FitsC w mean mg mb := by
  unfold FitsC
  intro dp un gd cn cs a ccd cl outer A₀ base h₀ L m hp gns drw tk0 sos Q E news e rl d sl x ty rows ks svs nn ns nd form code op' op0 v4 p v v0 ps tf tc to tp B F X N T hk hd hu hr hrl hres hty hd' hv hvo hks hsl hsi hok hret
  obtain ⟨ty3, hty⟩ := hty
  cases hres
  case err r kl val tp' tc' hc hn er hrm =>
    have hcb : (code == Str.ofString "") = false := by simpa using hc
    subst er
    obtain ⟨⟨tx1, hx1⟩, ⟨tx2, hx2⟩, hx3, hx4, hx5⟩ := hn
    refine call_rq ?_
    k_dflt k_enter
    k_steps
    rw [beq_self_eq_true]
    exact hret _ _ (by k_asm) (cb_drop (by assumption) (by walk_at "MINE sub"))
  case val n t kl hc hv0 er hn =>
    subst er hc hv0
    obtain ⟨⟨tx1, hx1⟩, ⟨tx2, hx2⟩, hx3, hx4, hx5⟩ := hn
    obtain ⟨e1, e2⟩ := hvo rfl
    subst e1 e2
    cases hv
    refine call_rq ?_
    k_dflt k_enter
    k_steps
    all_goals ((try rw [beq_self_eq_true]); (try simp only [decide_true]); exact hret _ _ (by k_asm) (cb_drop (by assumption) (by walk_at "MINE sub")))
  case op kl val nk hc hv0 er hn hkm =>
    subst er hc hv0
    obtain ⟨⟨tx1, hx1⟩, ⟨tx2, hx2⟩, hx3, hx4, hx5⟩ := hn
    obtain ⟨e1, e2⟩ := hvo rfl
    subst e1 e2
    cases hv
    have hP := hks.places.1
    have hP2 := hks.places.2
    refine call_rq ?_
    k_dflt k_enter
    k_steps
    exact hret _ _ (by k_asm) (cb_drop (by assumption) (by walk_at "MINE sub"))
/-! ulaw -/
theorem reg64 : True := by
  w_top off
  (k_with "MINE none" => (skip))
  trivial
/-- what the law reckons for one operand -/
def UDue (op f : Str) (v1 : Option Int) (form code : Str) (v4 : Value) (op' : Str) : Prop :=
  form = uSel op f (Str.ofString "boolean") (Str.ofString "set") (Str.ofString "integer") ∧ code = uC op f v1 ∧ ∃ v, OptV v v4 ∧ (code = Str.ofString "" → v = uVal (uOp op f) v1 ∧ op' = uOp op f)
theorem tyF_uSel {news : List (Addr × Obj)} {tb tm ti : Addr} {op f : Str} (h1 : TyF news tb (Str.ofString "boolean")) (h2 : TyF news tm (Str.ofString "set")) (h3 : TyF news ti (Str.ofString "integer")) : TyF news (uSel op f tb tm ti) (uSel op f (Str.ofString "boolean") (Str.ofString "set") (Str.ofString "integer")) := by
  unfold uSel
  repeat' split
  all_goals assumption
theorem ok_uCode (op : Str) (v : Option Int) : PyData.strOk (uCode op v) = true := by
  have e : PyData.strOk (Str.ofString "") = true := by decide +kernel
  cases v with
  | none => exact e
  | some a =>
    show PyData.strOk (if op == Str.ofString "neg" then chk (0 - a) else Str.ofString "") = true
    split
    · unfold chk
      split <;> decide +kernel
    · exact e
theorem ok_uC (op f : Str) (v : Option Int) : PyData.strOk (uC op f v) = true := by
  unfold uC
  (repeat' split) <;> first | exact ok_uCode _ _ | decide +kernel
def FitsUC (w : World) (mean : ExcName → Option Value) (mg mb : Str → Option Value) : Prop :=
  ∀ {dp un : Nat} {gd : Option (List Code)} {cn : Str} {cs : Scope} {a : Addr} {ccd : Value} {cl : List (Str × Addr)} {outer : List Env} {A₀ : Around} {base h₀ : Heap} {L : Addr} {m : Str → Option Value} {hp : Heap} {gns : Array GenState} {drw : Drawn} {tk0 : Nat} {sos : OsState} {Q E : Value → Shared → Prop} {news : List (Addr × Obj)}
    {e rl d sl x tb tm ti : Addr} {rows ks svs : List Value} {nn ns nd : Nat} {op f form code op' : Str} {v4 : Value} {p : Int} {v1 : Option Int} {ps : List Int} {tf tc to tp : Tok},
    Below A₀ base outer h₀ → Fr h₀ L hp m → (Mine.R.heap_1_1 w.params).In h₀ → News h₀ L hp news → Top Mine.R.view_1_2 (looseW Mine.R.view_1_2 []) mean mg mb h₀ → cs.kind = .function →
    dp + 4 < recursionLimit → un + 120 < cLine → HasA news e 207 "rows" (.ref rl) → (rl, listOf rows.toArray nn) ∈ news → (d, tupOf #[.str form tf, .str code tc, v4, .str op' to] nd) ∈ news → Res news p x rows (uC op f v1) (uVal (uOp op f) v1) (uOp op f) ks (uSel op f tb tm ti) → TyF news tb (Str.ofString "boolean") → TyF news tm (Str.ofString "set") → TyF news ti (Str.ofString "integer") → UDue op f v1 form code v4 op' → KsP news ks ps → (sl, listOf svs.toArray ns) ∈ news → IntsAre svs ps →
    (∀ (h' : Heap) (tk' : Nat), Fr h₀ L h' m → News h₀ L h' news → Q (.bool true) ⟨h', gns, drw, tk', sos⟩) →
    wpAny (model PySem.Challenge.rw_nu0332_01.row.prog w) (ktrTop dp un gd cn cs L a ccd cl outer) (call (.ref 336) [.ref e, .ref x, .ref d, .ref sl, .int p tp]) Q E ⟨hp, gns, drw, tk0, sos⟩
set_option maxHeartbeats 8000000 in
theorem fitsu_ct (w : World) (mean : ExcName → Option Value) (mg mb : Str → Option Value) : FitsUC w mean mg mb := by
  unfold FitsUC
  intro dp un gd cn cs a ccd cl outer A₀ base h₀ L m hp gns drw tk0 sos Q E news e rl d sl x tb tm ti rows ks svs nn ns nd op f form code op' v4 p v1 ps tf tc to tp B F X N T hk hd hu h1 h2 h3 h4 h5 h6 h7 h8 h9 h10 h11 hret
  obtain ⟨e1, e2, v, hv, hvo⟩ := h8
  subst e1 e2
  exact fits_ct _ _ _ _ B F X N T hk hd hu h1 h2 h4 (tyF_uSel h5 h6 h7) h3 hv hvo h9 h10 h11 (ok_uC _ _ _) hret
theorem uBad : badOps ≠ Str.ofString "" := by decide
theorem s_mt : (Str.ofString "-" == Str.ofString "~") = false := by decide
theorem s_mm : (Str.ofString "-" == Str.ofString "-") = true := by decide
theorem s_tt : (Str.ofString "~" == Str.ofString "~") = true := by decide
theorem s_pt : (Str.ofString "+" == Str.ofString "~") = false := by decide
theorem s_pm : (Str.ofString "+" == Str.ofString "-") = false := by decide
theorem s_nn : (Str.ofString "neg" == Str.ofString "neg") = true := by decide
theorem s_on : (Str.ofString "not" == Str.ofString "neg") = false := by decide
theorem s_oo : (Str.ofString "not" == Str.ofString "not") = true := by decide
theorem s_sn : (Str.ofString "s~" == Str.ofString "neg") = false := by decide
theorem s_so : (Str.ofString "s~" == Str.ofString "not") = false := by decide
theorem reg66 : True := by
  (k_with "MINE u" => ((simp only [uSel, uC, uOp, uCode, uVal, s_mt, s_mm, s_tt, s_pt, s_pm, s_nn, s_on, s_oo, s_sn, s_so, bne, *, reduceIte, Bool.not_true, Bool.not_false, Bool.and_true, Bool.true_and, Bool.and_false, Bool.false_and, Bool.false_eq_true])))
  trivial
theorem chk_neg {a : Int} (h1 : -2147483648 ≤ a) (h2 : a ≤ 2147483647) (h : ¬ a = -2147483648) : chk (0 - a) = Str.ofString "" := if_pos (by omega)
theorem chk_ovf {a : Int} (h : a = -2147483648) : chk (0 - a) = Str.ofString "constant_overflow" := if_neg (by omega)
section
variable {kd f : Str} {v1 : Option Int} (hk : KindF kd f)
include hk
/-- «-» of a set -/
theorem um_set_n (h : (kd == Str.ofString "set") = true) : UDue (Str.ofString "-") f none (Str.ofString "set") (Str.ofString "") .none (Str.ofString "s~") := by
  have e : (f == Str.ofString "set") = true := by rw [← hk.s]; exact h
  refine ⟨?_, ?_, none, .none, fun _ => ⟨rfl, ?_⟩⟩ <;> walk_at "MINE u"
theorem um_set_s {a b : Int} {t : Tok} (hd : ∀ x, some a = some x → Dom f x) (h : (kd == Str.ofString "set") = true) (hb : b = 4294967295 - a) : UDue (Str.ofString "-") f (some a) (Str.ofString "set") (Str.ofString "") (.int b t) (Str.ofString "s~") := by
  have e : (f == Str.ofString "set") = true := by rw [← hk.s]; exact h
  have hx := dom_mk hd hk h
  subst hb
  refine ⟨?_, ?_, some _, .some, fun _ => ⟨?_, ?_⟩⟩
  · walk_at "MINE u"
  · walk_at "MINE u"
  · walk_at "MINE u"
    rcases hx with hx | hx | hx | hx <;> subst hx <;> rfl
  · walk_at "MINE u"
/-- «-» of an int -/
theorem um_int_n (h : (kd == Str.ofString "int") = true) : UDue (Str.ofString "-") f none (Str.ofString "integer") (Str.ofString "") .none (Str.ofString "neg") := by
  have e : isI f = true := by rw [← hk.i]; exact h
  have e2 : (f == Str.ofString "set") = false := by rw [← hk.s]; exact int_set h
  refine ⟨?_, ?_, none, .none, fun _ => ⟨rfl, ?_⟩⟩ <;> walk_at "MINE u"
theorem um_int_s {a b : Int} {t : Tok} (hd : ∀ x, some a = some x → Dom f x) (h : (kd == Str.ofString "int") = true) (h1 : ¬ a = -2147483648) (hb : b = -a) : UDue (Str.ofString "-") f (some a) (Str.ofString "integer") (Str.ofString "") (.int b t) (Str.ofString "neg") := by
  have e : isI f = true := by rw [← hk.i]; exact h
  have e2 : (f == Str.ofString "set") = false := by rw [← hk.s]; exact int_set h
  have hx := (hd a rfl).1 e
  have e3 := chk_neg hx.1 hx.2 h1
  have e4 : b = 0 - a := by omega
  subst e4
  refine ⟨?_, ?_, some _, .some, fun _ => ⟨?_, ?_⟩⟩
  · walk_at "MINE u"
  · walk_at "MINE u"; rw [show -a = 0 - a by omega]; exact e3.symm
  · walk_at "MINE u"
  · walk_at "MINE u"
theorem um_int_o {a : Int} (h : (kd == Str.ofString "int") = true) (h1 : a = -2147483648) : UDue (Str.ofString "-") f (some a) (Str.ofString "integer") (Str.ofString "constant_overflow") .none (Str.ofString "neg") := by
  have e : isI f = true := by rw [← hk.i]; exact h
  have e2 : (f == Str.ofString "set") = false := by rw [← hk.s]; exact int_set h
  have e3 := chk_ovf h1
  refine ⟨?_, ?_, none, .none, fun c => absurd c sOvf⟩
  · walk_at "MINE u"
  · walk_at "MINE u"; rw [h1] at e3; exact e3.symm
theorem um_bad (h : (kd == Str.ofString "int") = false) (h2 : (kd == Str.ofString "set") = false) : UDue (Str.ofString "-") f v1 (Str.ofString "integer") (Str.ofString "bad_operands") .none (Str.ofString "neg") := by
  have e : isI f = false := by rw [← hk.i]; exact h
  have e2 : (f == Str.ofString "set") = false := by rw [← hk.s]; exact h2
  refine ⟨?_, ?_, none, .none, fun c => absurd c sBad⟩ <;> walk_at "MINE u" <;> rfl
/-- «~» -/
theorem ut_n (h : (kd == Str.ofString "bool") = true) : UDue (Str.ofString "~") f none (Str.ofString "boolean") (Str.ofString "") .none (Str.ofString "not") := by
  have e : (f == Str.ofString "boolean") = true := by rw [← hk.b]; exact h
  refine ⟨?_, ?_, none, .none, fun _ => ⟨rfl, ?_⟩⟩ <;> walk_at "MINE u"
theorem ut_s {a b : Int} {t : Tok} (h : (kd == Str.ofString "bool") = true) (hb : b = 1 - a) : UDue (Str.ofString "~") f (some a) (Str.ofString "boolean") (Str.ofString "") (.int b t) (Str.ofString "not") := by
  have e : (f == Str.ofString "boolean") = true := by rw [← hk.b]; exact h
  subst hb
  refine ⟨?_, ?_, some _, .some, fun _ => ⟨?_, ?_⟩⟩ <;> walk_at "MINE u"
theorem ut_bad (h : (kd == Str.ofString "bool") = false) : UDue (Str.ofString "~") f v1 (Str.ofString "boolean") (Str.ofString "bad_operands") .none (Str.ofString "not") := by
  have e : (f == Str.ofString "boolean") = false := by rw [← hk.b]; exact h
  refine ⟨?_, ?_, none, .none, fun c => absurd c sBad⟩ <;> walk_at "MINE u" <;> rfl
/-- «+» of what is no int -/
theorem up_bad (h : (kd == Str.ofString "int") = false) : UDue (Str.ofString "+") f v1 (Str.ofString "integer") (Str.ofString "bad_operands") .none (Str.ofString "neg") := by
  have e : isI f = false := by rw [← hk.i]; exact h
  refine ⟨?_, ?_, none, .none, fun c => absurd c sBad⟩ <;> walk_at "MINE u" <;> rfl
end
theorem pow32 : (2 : Int) ^ Int.toNat 32 = 4294967296 := by decide +kernel
theorem pow31 : (2 : Int) ^ Int.toNat 31 = 2147483648 := by decide +kernel
section
variable {prog : Program} {w : World} {A : Around} {E : Value → Shared → Prop} {s : Shared} {t u : Tok} {Q : Value → Shared → Prop}
theorem pow32_int (h : Q (.int 4294967296 s.toks) { s with toks := s.toks + 1 }) : wpAny (model prog w) A (binaryOp .Pow (.int 2 t) (.int 32 u)) Q E s := pow_int_small (by decide) (by decide) (by decide) (by rw [pow32]; exact h)
theorem pow31_int (h : Q (.int 2147483648 s.toks) { s with toks := s.toks + 1 }) : wpAny (model prog w) A (binaryOp .Pow (.int 2 t) (.int 31 u)) Q E s := pow_int_small (by decide) (by decide) (by decide) (by rw [pow31]; exact h)
end
/-! sidelaw -/
/-- the kinds of operands -/
inductive KT (k : TyK) : Addr → Str → Str → Prop
  | i : KT k k.i (Str.ofString "int") (Str.ofString "integer")
  | m : KT k k.m (Str.ofString "set") (Str.ofString "set")
  | b : KT k k.b (Str.ofString "bool") (Str.ofString "boolean")
  | by' : KT k k.by' (Str.ofString "int") (Str.ofString "byte")
  | ch : KT k k.ch (Str.ofString "char") (Str.ofString "char")
  | ni : KT k k.ni (Str.ofString "nil") (Str.ofString "nil")
theorem KT.ty {k : TyK} {ty : Addr} {kd f : Str} {Z : List (Addr × Obj)} (h : KT k ty kd f) (t : TyFs Z k) : TyF Z ty f := by
  cases h
  · exact t.i
  · exact t.m
  · exact t.b
  · exact t.by'
  · exact t.ch
  · exact t.ni
theorem KT.kf {k : TyK} {ty : Addr} {kd f : Str} (h : KT k ty kd f) : KindF kd f := by
  cases h <;> exact ⟨by decide, by decide, by decide⟩
theorem menu9 {r : Int} (h0 : 0 ≤ r) (h1 : r < 9) {vs : List Value} (hl : vs.length = 9) : ∃ v, vs[r.toNat]? = some v ∧ v ∈ vs := by
  have h : r.toNat < vs.length := by omega
  exact ⟨vs[r.toNat], by simp [h], List.getElem_mem h⟩
structure SideT (news : List (Addr × Obj)) (tup x : Addr) (sp : Int) (op f kd : Str) (vx v3 : Value) (v : Option Int) : Prop where
  tup : ∃ tk n, (tup, tupOf #[.ref x, .str kd tk, v3] n) ∈ news
  node : ∃ ty kl, NodeF news x op sp ty kl vx ∧ TyF news ty f
  kf : KindF kd f
  ov : OptV v v3
  sv : SideV op f vx v
  dom : ∀ a, v = some a → Dom f a
theorem SideT.mono {news news' : List (Addr × Obj)} {tup x : Addr} {sp : Int} {op f kd : Str} {vx v3 : Value} {v : Option Int} (h : SideT news tup x sp op f kd vx v3 v) (hs : ∀ p ∈ news, p ∈ news') : SideT news' tup x sp op f kd vx v3 v where
  tup := let ⟨tk, n, a⟩ := h.tup; ⟨tk, n, hs _ a⟩
  node := let ⟨ty, kl, a, b⟩ := h.node; ⟨ty, kl, a.mono hs, b.mono hs⟩
  kf := h.kf
  ov := h.ov
  sv := h.sv
  dom := h.dom
def Abv (new : List (Addr × Obj)) (pl Td : Nat) (Z : List (Addr × Obj)) : Prop := ∀ q ∈ new, @LT.lt Nat _ pl q.1 ∧ @LT.lt Nat _ Td q.1 ∧ ∀ r ∈ Z, @LT.lt Nat _ r.1 q.1
section
variable {prog : Program} {w : World} {A : Around} {E : Value → Shared → Prop} {s : Shared} {h₀ : Heap} {L l : Addr} {news : List (Addr × Obj)}
/-- kinds[menu[r]] -/
theorem kinds_item {value slice : PySem.Expr} {k : TyK} {t0 t1 t2 t3 t4 t5 : Addr} {u0 u1 u2 u3 u4 u5 : Tok} {n n0 n1 n2 n3 n4 n5 : Nat} {j : Int} {u : Tok} {Q : Value → Shared → Prop} (N : News h₀ L s.heap news)
    (hm : (l, listOf [.ref t0, .ref t1, .ref t2, .ref t3, .ref t4, .ref t5].toArray n) ∈ news)
    (m0 : (t0, tupOf #[.ref k.i, .str (Str.ofString "int") u0] n0) ∈ news) (m1 : (t1, tupOf #[.ref k.m, .str (Str.ofString "set") u1] n1) ∈ news) (m2 : (t2, tupOf #[.ref k.b, .str (Str.ofString "bool") u2] n2) ∈ news)
    (m3 : (t3, tupOf #[.ref k.by', .str (Str.ofString "int") u3] n3) ∈ news) (m4 : (t4, tupOf #[.ref k.ch, .str (Str.ofString "char") u4] n4) ∈ news) (m5 : (t5, tupOf #[.ref k.ni, .str (Str.ofString "nil") u5] n5) ∈ news)
    (h0 : 0 ≤ j) (h1 : j < 6) (h : ∀ tup ty kd f tok nn, (tup, tupOf #[.ref ty, .str kd tok] nn) ∈ news → KT k ty kd f → Q (.ref tup) s)
    (hs : subscripted slice false (.ref l) (.int j u) = operate [.ref l, .int j u] (getItem (.ref l) (.int j u)) := by with_unfolding_all rfl) :
    wpAny (model prog w) A (subscriptTail value slice (.ref l) (.int j u)) Q E s := by
  obtain ⟨j, rfl⟩ := Int.eq_ofNat_of_zero_le h0
  have hj := (by decide : ∀ j, j < 6 → j = 0 ∨ j = 1 ∨ j = 2 ∨ j = 3 ∨ j = 4 ∨ j = 5) j (Int.ofNat_lt.mp h1)
  rcases hj with e | e | e | e | e | e <;> subst e
  · exact itemN N hm (by decide) (by decide) rfl (h _ _ _ _ _ _ m0 .i) hs
  · exact itemN N hm (by decide) (by decide) rfl (h _ _ _ _ _ _ m1 .m) hs
  · exact itemN N hm (by decide) (by decide) rfl (h _ _ _ _ _ _ m2 .b) hs
  · exact itemN N hm (by decide) (by decide) rfl (h _ _ _ _ _ _ m3 .by') hs
  · exact itemN N hm (by decide) (by decide) rfl (h _ _ _ _ _ _ m4 .ch) hs
  · exact itemN N hm (by decide) (by decide) rfl (h _ _ _ _ _ _ m5 .ni) hs
/-- an item of a written list of ints at a place within -/
theorem menu_item {value slice : PySem.Expr} {vs : List Value} {is : List Int} {n : Nat} {j : Int} {u : Tok} {Q : Value → Shared → Prop} (N : News h₀ L s.heap news)
    (hm : (l, listOf vs.toArray n) ∈ news) (hi : IntsAre vs is) (h0 : 0 ≤ j) (h1 : j < is.length) (hb : is.length ≤ 100) (h : ∀ a t, a ∈ is → Q (.int a t) s)
    (hs : subscripted slice false (.ref l) (.int j u) = operate [.ref l, .int j u] (getItem (.ref l) (.int j u)) := by with_unfolding_all rfl) :
    wpAny (model prog w) A (subscriptTail value slice (.ref l) (.int j u)) Q E s := by
  have hlt : j.toNat < is.length := by omega
  obtain ⟨t, hx⟩ := hi.get j.toNat is[j.toNat] (by simp [hlt])
  exact itemN N hm h0 (by omega) hx (h _ t (List.getElem_mem hlt)) hs
end
theorem sideV_int {f : Str} {a : Int} {t : Tok} (h1 : -4294967296 ≤ a) (h2 : a ≤ 4294967296) : SideV (Str.ofString "const") f (.int a t) (some a) where
  var := fun h => absurd h (by decide)
  int := fun _ _ => ⟨a, t, rfl, rfl, h1, h2⟩
  set := fun _ _ => ⟨a, t, rfl, rfl, h1, h2⟩
  bool := fun _ _ => ⟨a, t, rfl, rfl, h1, h2⟩
theorem sideV_var {f : Str} {v : Value} : SideV (Str.ofString "var") f v none where
  var := fun _ => rfl
  int := fun h => absurd h (by decide)
  set := fun h => absurd h (by decide)
  bool := fun h => absurd h (by decide)
theorem sideV_none {f : Str} {v : Value} (h1 : isI f = false) (h2 : (f == Str.ofString "set") = false) (h3 : (f == Str.ofString "boolean") = false) : SideV (Str.ofString "const") f v none where
  var := fun _ => rfl
  int := fun _ h => absurd (h.symm.trans h1) (by decide)
  set := fun _ h => absurd (h.symm.trans h2) (by decide)
  bool := fun _ h => absurd (h.symm.trans h3) (by decide)
theorem menuI {a : Int} (h : a ∈ [0, 7, 2, -3, 2 ^ Int.toNat 31 - 1, -2 ^ Int.toNat 31, 65536, 31, 32]) : -2147483648 ≤ a ∧ a ≤ 2147483647 :=
  (by decide : ∀ a ∈ [(0 : Int), 7, 2, -3, 2 ^ Int.toNat 31 - 1, -2 ^ Int.toNat 31, 65536, 31, 32], -2147483648 ≤ a ∧ a ≤ 2147483647) a h
theorem menuS {a : Int} (h : a ∈ [0, 2 ^ Int.toNat 32 - 1, 5, 2 ^ Int.toNat 31]) : Mk a :=
  (by decide : ∀ a ∈ [(0 : Int), 2 ^ Int.toNat 32 - 1, 5, 2 ^ Int.toNat 31], a = 0 ∨ a = 4294967295 ∨ a = 5 ∨ a = 2147483648) a h
section
variable {Z : List (Addr × Obj)} {P : Params} {k : TyK} {tup x d ty kl : Addr} {sp : Int} {f kd : Str} {vx : Value} {a : Int} {t t1 t2 t3 t4 t5 t6 t7 t8 tk : Tok} {n : Nat}
theorem sideT_var (h1 : (tup, tupOf #[.ref x, .str kd tk, .none] n) ∈ Z) (h2 : (x, instObj 88 d) ∈ Z) (h3 : (d, NodeD P t1 t2 t3 t4 t5 t6 (.str (Str.ofString "var") t7) (.int sp t8) (.ref ty) (.ref kl) vx) ∈ Z) (hv : handedIn vx = true) (hk : KT k ty kd f) (ht : TyFs Z k) :
    SideT Z tup x sp (Str.ofString "var") f kd vx .none none := ⟨⟨_, _, h1⟩, ⟨_, _, nodeF_of h2 h3 hv, hk.ty ht⟩, hk.kf, .none, sideV_var, fun _ e => nomatch e⟩
variable (h1 : (tup, tupOf #[.ref x, .str kd tk, .int a t] n) ∈ Z) (h2 : (x, instObj 88 d) ∈ Z) (h3 : (d, NodeD P t1 t2 t3 t4 t5 t6 (.str (Str.ofString "const") t7) (.int sp t8) (.ref ty) (.ref kl) (.int a t)) ∈ Z) (ht : TyFs Z k)
include h1 h2 h3 ht
theorem sideT_int (e : kd = Str.ofString "int") (ety : ty = k.i) (hb : -2147483648 ≤ a ∧ a ≤ 2147483647) : SideT Z tup x sp (Str.ofString "const") (Str.ofString "integer") kd (.int a t) (.int a t) (some a) := by
  subst e ety
  exact ⟨⟨_, _, h1⟩, ⟨_, _, nodeF_of h2 h3 rfl, ht.i⟩, KT.i (k := k).kf, .some, sideV_int (by omega) (by omega), fun b e => by cases e; exact ⟨fun _ => hb, fun h => absurd h (by decide), fun h => absurd h (by decide)⟩⟩
theorem sideT_set (hk : KT k ty kd f) (e : kd = Str.ofString "set") (hb : Mk a) : SideT Z tup x sp (Str.ofString "const") f kd (.int a t) (.int a t) (some a) := by
  have hb' : 0 ≤ a ∧ a ≤ 4294967295 := by rcases hb with h | h | h | h <;> omega
  cases hk
  case m => exact ⟨⟨_, _, h1⟩, ⟨_, _, nodeF_of h2 h3 rfl, ht.m⟩, KT.m (k := k).kf, .some, sideV_int (by omega) (by omega), fun b e => by cases e; exact ⟨fun h => absurd h (by decide), fun _ => hb, fun h => absurd h (by decide)⟩⟩
  all_goals exact absurd e (by decide)
theorem sideT_01 (hk : KT k ty kd f) (e1 : (kd == Str.ofString "int") = false) (e2 : (kd == Str.ofString "set") = false) (hb0 : 0 ≤ a) (hb1 : a < 2) : SideT Z tup x sp (Str.ofString "const") f kd (.int a t) (.int a t) (some a) := by
  have hd : Dom f a := ⟨fun h => absurd (hk.kf.i.symm.trans e1 |>.symm.trans h) (by decide), fun h => absurd (hk.kf.s.symm.trans e2 |>.symm.trans h) (by decide), fun _ => by omega⟩
  exact ⟨⟨_, _, h1⟩, ⟨_, _, nodeF_of h2 h3 rfl, hk.ty ht⟩, hk.kf, .some, sideV_int (by omega) (by omega), fun b e => by cases e; exact hd⟩
end
section
variable {Z : List (Addr × Obj)} {P : Params} {k : TyK} {tup x d ty kl : Addr} {sp : Int} {f kd : Str} {vx : Value} {t1 t2 t3 t4 t5 t6 t7 t8 tk : Tok} {n : Nat}
  (h1 : (tup, tupOf #[.ref x, .str kd tk, .none] n) ∈ Z) (h2 : (x, instObj 88 d) ∈ Z) (h3 : (d, NodeD P t1 t2 t3 t4 t5 t6 (.str (Str.ofString "const") t7) (.int sp t8) (.ref ty) (.ref kl) vx) ∈ Z) (hv : handedIn vx = true)
include h1 h2 h3 hv
theorem sideT_nil (ht : TyFs Z k) (hk : KT k ty kd f) (e : kd = Str.ofString "nil") : SideT Z tup x sp (Str.ofString "const") f kd vx .none none := by
  cases hk
  case ni => exact ⟨⟨_, _, h1⟩, ⟨_, _, nodeF_of h2 h3 hv, ht.ni⟩, KT.ni (k := k).kf, .none, sideV_none (by decide) (by decide) (by decide), fun _ e => nomatch e⟩
  all_goals exact absurd e (by decide)
theorem sideT_text (ht : TyF Z ty (Str.ofString "string")) (e : kd = Str.ofString "text") : SideT Z tup x sp (Str.ofString "const") (Str.ofString "string") kd vx .none none := by
  subst e
  exact ⟨⟨_, _, h1⟩, ⟨_, _, nodeF_of h2 h3 hv, ht⟩, ⟨by decide, by decide, by decide⟩, .none, sideV_none (by decide) (by decide) (by decide), fun _ e => nomatch e⟩
end
theorem abv_one {pl Td kl : Nat} {o : Obj} {Z : List (Addr × Obj)} (h1 : pl < kl) (h2 : Td < kl) (h3 : ∀ r ∈ Z, r.1 < kl) : Abv [(kl, o)] pl Td Z := fun q hq => by
  rw [List.mem_singleton.mp hq]; exact ⟨h1, h2, h3⟩
theorem abv_cons {pl Td a b : Nat} {o o' : Obj} {l Z : List (Addr × Obj)} (h : Abv ((a, o) :: l) pl Td Z) (h1 : a < b) : Abv ((b, o') :: (a, o) :: l) pl Td Z := fun q hq => by
  rcases List.mem_cons.mp hq with e | hq
  · subst e
    obtain ⟨x1, x2, x3⟩ := h _ (.head _)
    exact ⟨Nat.lt_trans x1 h1, Nat.lt_trans x2 h1, fun r hr => Nat.lt_trans (x3 r hr) h1⟩
  · exact h q hq
theorem subN {a b : Addr × Obj} {new Z l : List (Addr × Obj)} (h1 : a ∈ l) (h2 : b ∈ l) (h3 : ∀ p ∈ new, p ∈ l) (h4 : ∀ p ∈ Z, p ∈ l) : ∀ p ∈ a :: b :: (new ++ Z), p ∈ l :=
  List.forall_mem_cons.mpr ⟨h1, List.forall_mem_cons.mpr ⟨h2, fun p hp => (List.mem_append.mp hp).elim (h3 p) (h4 p)⟩⟩
theorem tyFs_app {new Z : List (Addr × Obj)} {k : TyK} (h : TyFs Z k) : TyFs (new ++ Z) k := h.mono fun p hp => List.mem_append.mpr (.inr hp)
theorem sub4 {a b c d : Addr × Obj} {l : List (Addr × Obj)} : ∀ p ∈ [a, b, c, d], p ∈ a :: b :: c :: d :: l := fun p hp => List.mem_append.mpr (.inl hp : p ∈ [a, b, c, d] ∨ p ∈ l)
theorem sub6 {a b c d e f : Addr × Obj} {l : List (Addr × Obj)} : ∀ p ∈ [a, b, c, d, e, f], p ∈ a :: b :: c :: d :: e :: f :: l := fun p hp => List.mem_append.mpr (.inl hp : p ∈ [a, b, c, d, e, f] ∨ p ∈ l)
/-! side -/
theorem reg67 : True := by
  w_top off
  (k_with "binaryOp Pow int int" => (first | with_reducible refine pow32_int ?_ | with_reducible refine pow31_int ?_))
  (k_with "MINE ueq" => (first | with_reducible rfl | omega | (simp only [pow32]; omega) | fail "ueq"))
  (k_with "MINE udueend" => (first | exact um_set_n (by assumption) (by assumption) | exact um_set_s (by assumption) (by assumption) (by assumption) (by walk_at "MINE ueq") | exact um_int_n (by assumption) (by assumption) | exact um_int_s (by assumption) (by assumption) (by assumption) (by assumption) (by walk_at "MINE ueq") | exact um_int_o (by assumption) (by assumption) (by assumption) | exact um_bad (by assumption) (by assumption) (by assumption) | exact ut_n (by assumption) (by assumption) | exact ut_s (by assumption) (by assumption) (by walk_at "MINE ueq") | exact ut_bad (by assumption) (by assumption) | exact up_bad (by assumption) (by assumption)))
  (k_with "execs cons" => ((k_here; (with_reducible show wpAny _ _ (execs (Stmt.Assign [Expr.Name (Str.ofString "due") _] _ _ :: _) _) _ _ _); (with_reducible refine wpAny_execs_cons ?_); try dsimp only)))
  trivial
def SideC (w : World) (mean : ExcName → Option Value) (mg mb : Str → Option Value) : Prop :=
  ∀ {dp un : Nat} {gd : Option (List Code)} {cn : Str} {cs : Scope} {a : Addr} {ccd : Value} {cl : List (Str × Addr)} {outer : List Env} {A₀ : Around} {base h₀ : Heap} {L : Addr} {m : Str → Option Value} {hp : Heap} {gns : Array GenState} {drw : Drawn} {tk0 : Nat} {sos : OsState} {Q E : Value → Shared → Prop} {news : List (Addr × Obj)}
    {Z W : List (Addr × Obj)} {pl fl Ta Td : Addr} {k : TyK} {c : Int} {tc : Tok} {vs : List Value} {figs : List Int} {n0 n1 : Nat} {i mx sp : Int} {ti tm ts : Tok},
    Below A₀ base outer h₀ → Fr h₀ L hp m → (Mine.R.heap_1_1 w.params).In h₀ → News h₀ L hp news → Top Mine.R.view_1_2 (looseW Mine.R.view_1_2 []) mean mg mb h₀ → cs.kind = .function →
    dp + 20 < recursionLimit → un + 100 < cLine → (pl, PoolO fl i ti mx tm n0) ∈ news → (Td, TyO w.params k c tc) ∈ news → (∀ p ∈ Z, p ∈ news) → (∀ p ∈ Z, p.1 ≠ pl) → (∀ p ∈ Z, p.1 ≠ Td) → @Ne Nat pl Td → (Ta, instObj 285 Td) ∈ Z → TyFs W k → (fl, listOf vs.toArray n1) ∈ Z → IntsAre vs figs → 0 ≤ i → i ≤ figs.length → figs.length ≤ 5000 → 0 ≤ mx → mx < 1009 → 0 ≤ c → c ≤ 900 →
    (∀ (new : List (Addr × Obj)) (tup x : Nat) (op f kd : Str) (vx v3 : Value) (v : Option Int) (i' mx' c' : Int) (ti' tm' tc' : Tok) (h' : Heap) (tk' : Nat), Fr h₀ L h' m → News h₀ L h' ((pl, PoolO fl i' ti' mx' tm' n0) :: (Td, TyO w.params k c' tc') :: (new ++ Z)) → Abv new pl Td Z → 0 ≤ i' → i' ≤ figs.length → 0 ≤ mx' → mx' < 1009 → c ≤ c' → c' ≤ c + 1 → SideT (new ++ W) tup x sp op f kd vx v3 v → Q (.ref tup) ⟨h', gns, drw, tk', sos⟩) →
    wpAny (model PySem.Challenge.rw_nu0332_01.row.prog w) (ktrTop dp un gd cn cs L a ccd cl outer) (call (.ref 310) [.ref pl, .ref Ta, .int sp ts]) Q E ⟨hp, gns, drw, tk0, sos⟩
theorem sub_can {a b : Addr × Obj} {Z news : List (Addr × Obj)} (h1 : a ∈ news) (h2 : b ∈ news) (h3 : ∀ p ∈ Z, p ∈ news) : ∀ p ∈ a :: b :: Z, p ∈ news := List.forall_mem_cons.mpr ⟨h1, List.forall_mem_cons.mpr ⟨h2, h3⟩⟩
theorem reg69 : True := by
  (k_with "X k_all" => (with_reducible assumption))
  (k_with "subscriptTail" => ((k_here; (with_reducible show wpAny _ _ (subscriptTail _ _ (Value.ref _) (Value.int _ _)) _ _ _); k_dflt (refine' menu_item ?k1_565 ?k2_565 ?k3_565 ?k4_565 ?k5_565 ?k6_565 ?_ ?k7_565; (case k1_565 => k_asm); (case k2_565 => k_mem); (case k3_565 => repeat constructor); (case k4_565 => assumption); (case k5_565 => (simp only [List.length_cons, List.length_nil]; omega)); (case k6_565 => decide); (case k7_565 => with_unfolding_all rfl); k_whole); intro a' t' hmenu)))
  (k_with "subscriptTail" => ((k_here; (with_reducible show wpAny _ _ (subscriptTail _ _ (Value.ref _) (Value.int _ _)) _ _ _); k_dflt (refine' kinds_item ?k1_566 ?k2_566 ?k3_566 ?k4_566 ?k5_566 ?k6_566 ?k7_566 ?k8_566 ?k9_566 ?k10_566 ?_ ?k11_566; (case k1_566 => k_asm); (case k2_566 => k_mem); (case k3_566 => k_mem); (case k4_566 => k_mem); (case k5_566 => k_mem); (case k6_566 => k_mem); (case k7_566 => k_mem); (case k8_566 => k_mem); (case k9_566 => walk_at "MINE menu"); (case k10_566 => walk_at "MINE menu"); (case k11_566 => with_unfolding_all rfl); k_whole); intro tup' ty' kd' f' tok' nn' htup' hkt')))
  trivial
theorem menu_lo {a : Int} (h : a ∈ [0, 0, 1, 1, 2, 2, 3, 4, 5]) : 0 ≤ a := by simp at h; omega
theorem menu_hi {a : Int} (h : a ∈ [0, 0, 1, 1, 2, 2, 3, 4, 5]) : a < 6 := by simp at h; omega
theorem reg70 : True := by
  (k_with "MINE menu" => (first | exact menu_lo (by assumption) | exact menu_hi (by assumption)))
  trivial
theorem i_strS {x y : Str} {a b : Prop} (h1 : x = y → a) (h2 : (x == y) = false → b) : if (x == y) = true then a else b := by
  by_cases h : x = y
  · rw [if_pos (by simpa using h)]; exact h1 h
  · rw [if_neg (by simpa using h)]; exact h2 (by simpa using h)
theorem i_strN {x y : Str} {a b : Prop} (h1 : (x == y) = false → a) (h2 : x = y → b) : if (x != y) = true then a else b := by
  by_cases h : x = y
  · rw [if_neg (by simpa using h)]; exact h2 h
  · rw [if_pos (by simpa using h)]; exact h1 (by simpa using h)
theorem reg71 : True := by
  (k_with "ite" => (((with_reducible show (if (_ == Str.ofString _) = true then _ else _)); first | (refine ite_pos (by with_reducible assumption) ?_) | (refine ite_strF (by with_reducible assumption) ?_) | (refine i_strS ?_ ?_; (intro e9; subst e9); rotate_left; (intro _); rotate_left))))
  (k_with "ite" => (((with_reducible show (if (_ != Str.ofString _) = true then _ else _)); first | (refine ite_strneF (by with_reducible assumption) ?_) | (refine i_strN ?_ ?_; (intro _); rotate_left; (intro e9; subst e9); rotate_left))))
  trivial
theorem text_abv {new' Z : List (Addr × Obj)} {u : Obj → List (Addr × Obj)} {o op o1 o2 o3 o4 : Obj} {pl Td kl d x D : Nat} (ov : Ov1 new' u) (hk : ∀ p ∈ new' ++ u o, p.1 < kl) (hp : (pl, op) ∈ u o) (ht : (Td, o) ∈ u o) (hz : ∀ p ∈ Z, p ∈ u o) (h1 : kl < d) (h2 : d < x) (h3 : x < D) :
    Abv ([(D, o1), (x, o2), (d, o3), (kl, o4)] ++ new') pl Td Z := by
  have hk' := hk
  have b : Abv [(kl, o4)] pl Td Z := abv_one (hk' _ (List.mem_append.mpr (.inr hp))) (hk' _ (List.mem_append.mpr (.inr ht))) fun r hr => hk' r (List.mem_append.mpr (.inr (hz r hr)))
  have c := abv_cons (o' := o1) (abv_cons (o' := o2) (abv_cons (o' := o3) b h1) h2) h3
  intro q hq
  rcases List.mem_append.mp hq with hq | hq
  · exact c q hq
  · exact ⟨ov q hq o _ hp, ov q hq o _ ht, fun r hr => ov q hq o r (hz r hr)⟩
theorem tyF_mid {p1 p2 p3 p4 : Addr × Obj} {new' Z : List (Addr × Obj)} {ty : Addr} {f : Str} (h : TyF new' ty f) : TyF (([p1, p2, p3, p4] ++ new') ++ Z) ty f := h.mono fun p hp => List.mem_append.mpr (.inl (List.mem_append.mpr (.inr hp)))
theorem sideT_textA {new' Z : List (Addr × Obj)} {P : Params} {tup x d ty kl : Addr} {sp : Int} {kd : Str} {vx : Value} {t1 t2 t3 t4 t5 t6 t7 t8 tk : Tok} {n : Nat} {p4 : Addr × Obj} (hv : handedIn vx = true) (ht : TyF new' ty (Str.ofString "string")) (e : kd = Str.ofString "text") :
    SideT (([(tup, tupOf #[.ref x, .str kd tk, .none] n), (x, instObj 88 d), (d, NodeD P t1 t2 t3 t4 t5 t6 (.str (Str.ofString "const") t7) (.int sp t8) (.ref ty) (.ref kl) vx), p4] ++ new') ++ Z) tup x sp (Str.ofString "const") (Str.ofString "string") kd vx .none none :=
  sideT_text (.head _) (.tail _ (.head _)) (.tail _ (.tail _ (.head _))) hv (tyF_mid ht) e
theorem subT {a b p1 p2 p3 p4 : Addr × Obj} {new' Z U : List (Addr × Obj)} (h1 : a ∈ U) (h2 : b ∈ U) (h3 : ∀ p ∈ Z, p ∈ U) : ∀ p ∈ a :: b :: (([p1, p2, p3, p4] ++ new') ++ Z), p ∈ p1 :: p2 :: p3 :: p4 :: (new' ++ U) := by
  intro p hp
  simp only [List.mem_cons, List.mem_append, List.not_mem_nil, or_false] at hp ⊢
  rcases hp with h | h | ((h | h | h | h) | h) | h
  · rw [h]; simp [h1]
  · rw [h]; simp [h2]
  · simp [h]
  · simp [h]
  · simp [h]
  · simp [h]
  · simp [h]
  · simp [h3 p h]
theorem reg72 : True := by
  (k_with "MINE allLt" => (first | assumption | exact And.right (by assumption) | exact And.right (And.right (by assumption)) | exact And.right (And.right (And.right (by assumption))) | exact (And.right <| And.right <| And.right <| And.right (by assumption)) | exact (And.right <| And.right <| And.right <| And.right <| And.right (by assumption)) | exact (And.right <| And.right <| And.right <| And.right <| And.right <| And.right (by assumption)) | exact (And.right <| And.right <| And.right <| And.right <| And.right <| And.right <| And.right (by assumption)) | exact (And.right <| And.right <| And.right <| And.right <| And.right <| And.right <| And.right <| And.right (by assumption)) | exact (And.right <| And.right <| And.right <| And.right <| And.right <| And.right <| And.right <| And.right <| And.right (by assumption)) | exact (And.right <| And.right <| And.right <| And.right <| And.right <| And.right <| And.right <| And.right <| And.right <| And.right (by assumption)) | exact (And.right <| And.right <| And.right <| And.right <| And.right <| And.right <| And.right <| And.right <| And.right <| And.right <| And.right (by assumption)) | exact (And.right <| And.right <| And.right <| And.right <| And.right <| And.right <| And.right <| And.right <| And.right <| And.right <| And.right <| And.right (by assumption))))
  (k_with "MINE lt" => (first | with_reducible assumption | with_reducible exact And.left (by with_reducible assumption) | with_reducible exact And.left (And.right (by with_reducible assumption)) | with_reducible exact And.left (And.right (And.right (by with_reducible assumption))) | with_reducible exact And.left (And.right <| And.right <| And.right (by with_reducible assumption)) | with_reducible exact And.left (And.right <| And.right <| And.right <| And.right (by with_reducible assumption)) | with_reducible exact And.left (And.right <| And.right <| And.right <| And.right <| And.right (by with_reducible assumption)) | omega))
  (k_with "MINE abv4" => (exact abv_cons (abv_cons (abv_cons (abv_one (by walk_at "MINE lt") (by walk_at "MINE lt") (kst_ltOf (by walk_at "MINE allLt"))) (by walk_at "MINE lt")) (by walk_at "MINE lt")) (by walk_at "MINE lt")))
  (k_with "MINE abv6" => (exact abv_cons (abv_cons (abv_cons (abv_cons (abv_cons (abv_one (by walk_at "MINE lt") (by walk_at "MINE lt") (kst_ltOf (by walk_at "MINE allLt"))) (by walk_at "MINE lt")) (by walk_at "MINE lt")) (by walk_at "MINE lt")) (by walk_at "MINE lt")) (by walk_at "MINE lt")))
  trivial
set_option maxHeartbeats 8000000 in
theorem side_ct (w : World) (mean : ExcName → Option Value) (mg mb : Str → Option Value) : SideC w mean mg mb := by
  unfold SideC
  intro dp un gd cn cs a ccd cl outer A₀ base h₀ L m hp gns drw tk0 sos Q E news Z W pl fl Ta Td k c tc vs figs n0 n1 i mx sp ti tm ts B F X N T hk hd hu hpl hTd hZ hZp hZt hne hTa hTy hfl hI hi0 hi1 hlen hm0 hm1 hc0 hc1 hret
  have N0 : News h₀ L hp ((pl, PoolO fl i ti mx tm n0) :: (Td, TyO w.params k c tc) :: Z) := fun p hp => N p (sub_can hpl hTd hZ p hp)
  clear N hpl hTd hZ
  refine call_rq ?_
  (first | k_dflt k_enter | fail "not entered")
  repeat' (first | ((fail_if_success (with_reducible show wpAny _ _ (execs (Stmt.If _ _ _ _ :: _) _) _ _ _)); walk_at "MINE step"))
  (rename News _ _ _ _ => N9)
  have N8 : News _ _ _ ((pl, PoolO fl _ _ _ _ n0) :: (Td, TyO w.params k c tc) :: Z) := cb_drop N9 (by walk_at "MINE sub")
  clear N9
  k_steps
  · first | exact hret [_, _, _, _, _, _] _ _ _ _ _ _ _ _ _ _ _ _ _ _ _ _ (by k_asm) (cb_drop (by assumption) (subN (by k_mem) (by k_mem) sub6 (by walk_at "MINE sub"))) (by walk_at "MINE abv6") (by assumption) (by assumption) (by assumption) (by assumption) (by omega) (by omega) (sideT_var (.head _) (.tail _ (.head _)) (.tail _ (.tail _ (.head _))) rfl (by assumption) (tyFs_app hTy)) | fail "end"
  · first | exact hret [_, _, _, _] _ _ _ _ _ _ _ _ _ _ _ _ _ _ _ _ (by k_asm) (cb_drop (by assumption) (subN (by k_mem) (by k_mem) sub4 (by walk_at "MINE sub"))) (by walk_at "MINE abv4") (by assumption) (by assumption) (by assumption) (by assumption) (by omega) (by omega) (sideT_nil (.head _) (.tail _ (.head _)) (.tail _ (.tail _ (.head _))) rfl (tyFs_app hTy) (by assumption) rfl) | fail "end"
  · first | exact hret [_, _, _, _] _ _ _ _ _ _ _ _ _ _ _ _ _ _ _ _ (by k_asm) (cb_drop (by assumption) (subN (by k_mem) (by k_mem) sub4 (by walk_at "MINE sub"))) (by walk_at "MINE abv4") (by assumption) (by assumption) (by assumption) (by assumption) (by omega) (by omega) (sideT_int (.head _) (.tail _ (.head _)) (.tail _ (.tail _ (.head _))) (tyFs_app hTy) rfl rfl (menuI (by assumption))) | fail "end"
  · first | exact hret [_, _, _, _] _ _ _ _ _ _ _ _ _ _ _ _ _ _ _ _ (by k_asm) (cb_drop (by assumption) (subN (by k_mem) (by k_mem) sub4 (by walk_at "MINE sub"))) (by walk_at "MINE abv4") (by assumption) (by assumption) (by assumption) (by assumption) (by omega) (by omega) (sideT_set (.head _) (.tail _ (.head _)) (.tail _ (.tail _ (.head _))) (tyFs_app hTy) (by assumption) rfl (menuS (by assumption))) | fail "end"
  · first | exact hret ([_, _, _, _] ++ _) _ _ _ _ _ _ _ _ _ _ _ _ _ _ _ _ (by k_asm) (cb_drop (by assumption) (subT (by k_mem) (by k_mem) (by walk_at "MINE sub"))) (text_abv (by assumption) (by first | assumption | exact kst_ltOf (by assumption)) (by (try dsimp only); k_mem) (by (try dsimp only); k_mem) (by (try dsimp only); walk_at "MINE sub") (by assumption) (by assumption) (by omega)) (by assumption) (by assumption) (by assumption) (by assumption) (by omega) (by omega) (sideT_textA rfl (by assumption) rfl) | fail "end"
  · first | exact hret [_, _, _, _] _ _ _ _ _ _ _ _ _ _ _ _ _ _ _ _ (by k_asm) (cb_drop (by assumption) (subN (by k_mem) (by k_mem) sub4 (by walk_at "MINE sub"))) (by walk_at "MINE abv4") (by assumption) (by assumption) (by assumption) (by assumption) (by omega) (by omega) (sideT_01 (.head _) (.tail _ (.head _)) (.tail _ (.tail _ (.head _))) (tyFs_app hTy) (by assumption) (by decide) (by decide) (by assumption) (by assumption)) | fail "end"
  · first | exact hret [_, _, _, _] _ _ _ _ _ _ _ _ _ _ _ _ _ _ _ _ (by k_asm) (cb_drop (by assumption) (subN (by k_mem) (by k_mem) sub4 (by walk_at "MINE sub"))) (by walk_at "MINE abv4") (by assumption) (by assumption) (by assumption) (by assumption) (by omega) (by omega) (sideT_nil (.head _) (.tail _ (.head _)) (.tail _ (.tail _ (.head _))) rfl (tyFs_app hTy) (by assumption) rfl) | fail "end"
  · first | exact hret [_, _, _, _] _ _ _ _ _ _ _ _ _ _ _ _ _ _ _ _ (by k_asm) (cb_drop (by assumption) (subN (by k_mem) (by k_mem) sub4 (by walk_at "MINE sub"))) (by walk_at "MINE abv4") (by assumption) (by assumption) (by assumption) (by assumption) (by omega) (by omega) (sideT_01 (.head _) (.tail _ (.head _)) (.tail _ (.tail _ (.head _))) (tyFs_app hTy) (by assumption) (by assumption) (by assumption) (by assumption) (by assumption)) | fail "end"
theorem sub_tl2 {a b : Addr × Obj} {Z : List (Addr × Obj)} : ∀ p ∈ Z, p ∈ a :: b :: Z := fun _ hp => .tail _ (.tail _ hp)
/-! law0 -/
/-- the law's own body, text and scope, as the heap bears them -/
def LawB (w : World) (body : List Stmt) (qual : Str) (scope : Scope) : Prop :=
  ∃ oc od osl name params dV kV doc pm an cdv ct, (Mine.R.heap_1_1 w.params).lookup 341 = some ⟨oc, od, .func (fnOf name qual params body scope dV kV doc pm an cdv ct), osl⟩
theorem fn_inj {oc oc' : Value} {od od' : Option Addr} {osl osl' : Array (Option Value)} {name name' qual qual' : Str} {params params' : Arguments} {body body' : List Stmt} {scope scope' : Scope} {dV dV' kV kV' doc doc' pm pm' cdv cdv' ct ct' : Value} {an an' : Option Addr}
    (e : (⟨oc, od, .func (fnOf name qual params body scope dV kV doc pm an cdv ct), osl⟩ : Obj) = ⟨oc', od', .func (fnOf name' qual' params' body' scope' dV' kV' doc' pm' an' cdv' ct'), osl'⟩) : body = body' ∧ qual = qual' ∧ scope = scope' := by
  cases e
  exact ⟨rfl, rfl, rfl⟩
theorem law_lit {w : World} {body body' : List Stmt} {qual qual' : Str} {scope scope' : Scope} {P : List Stmt → Str → Scope → Prop} {oc : Value} {od : Option Addr} {osl : Array (Option Value)} {name : Str} {params : Arguments} {dV kV doc pm cdv ct : Value} {an : Option Addr}
    (hb : LawB w body qual scope) (ho : (Mine.R.heap_1_1 w.params).lookup 341 = some ⟨oc, od, .func (fnOf name qual' params body' scope' dV kV doc pm an cdv ct), osl⟩) (h : LawB w body' qual' scope' → P body' qual' scope') : P body qual scope := by
  have hb' := hb
  obtain ⟨_, _, _, _, _, _, _, _, _, _, _, _, h2⟩ := hb
  obtain ⟨e1, e2, e3⟩ := fn_inj (Option.some.inj (h2.symm.trans ho))
  subst e1 e2 e3
  exact h hb'
abbrev cellO (v : Option Value) : Obj := { cls := .type "cell", data := .cell v }
/-- a frame's cell: the object as the call made it, but for what it holds -/
abbrev cellQ (q : Obj) (v : Option Value) : Obj := { cls := q.cls, dict := q.dict, data := .cell v, slots := q.slots }
/-- what stands in the ledger beneath the two open cells -/
structure Base0 (L pl fl Ta Td : Addr) (vs : List Value) (n1 : Nat) (k : TyK) (q1 q2 : Obj) (Z0 : List (Addr × Obj)) : Prop where
  ta : (Ta, instObj 285 Td) ∈ Z0
  ty : TyFs Z0 k
  fl : (fl, listOf vs.toArray n1) ∈ Z0
  cp : (L + 1, cellQ q1 (some (.ref pl))) ∈ Z0
  ct : (L + 1 + 1, cellQ q2 (some (.ref Ta))) ∈ Z0
  o3 : ∀ p ∈ Z0, p.1 ≠ L + 1 + 1 + 1
  o4 : ∀ p ∈ Z0, p.1 ≠ L + 1 + 1 + 1 + 1
/-- the law's run from its statement k on -/
abbrev LawAt (w : World) (dp un : Nat) (gd : Option (List Code)) (L a : Addr) (ccd : Value) (outer : List Env) (k : Nat) (Q : Flow → Shared → Prop) (E : Value → Shared → Prop) (s : Shared) (b : List Stmt) (q : Str) (sc : Scope) : Prop :=
  wpAny (model PySem.Challenge.rw_nu0332_01.row.prog w) (ktrTop dp un gd q sc L a ccd (cellsFrom (L + 1) sc.names []) outer) (execs (b.drop k) (envX q sc L a ccd (cellsFrom (L + 1) sc.names []))) Q E s
abbrev LawAtE (w : World) (dp un : Nat) (gd : Option (List Code)) (L a : Addr) (ccd : Value) (outer : List Env) (k : Nat) (Q : Flow → Shared → Prop) (E : Value → Shared → Prop) (s : Shared) (b : List Stmt) (q : Str) (sc : Scope) : Prop :=
  PassesOwn (model PySem.Challenge.rw_nu0332_01.row.prog w) (ktrTop dp un gd q sc L a ccd (cellsFrom (L + 1) sc.names []) outer) (envX q sc L a ccd (cellsFrom (L + 1) sc.names [])) E → LawAt w dp un gd L a ccd outer k Q E s b q sc
theorem menu_str {prog : Program} {w : World} {A : Around} {E : Value → Shared → Prop} {s : Shared} {h₀ : Heap} {L l : Addr} {news : List (Addr × Obj)} {value slice : PySem.Expr} {vs : List Value} {ys : List Str} {n : Nat} {j : Int} {u : Tok} {Q : Value → Shared → Prop} (N : News h₀ L s.heap news)
    (hm : (l, listOf vs.toArray n) ∈ news) (hi : StrsAre vs ys) (h0 : 0 ≤ j) (h1 : j < ys.length) (hb : ys.length ≤ 100) (h : ∀ a t, a ∈ ys → Q (.str a t) s)
    (hs : subscripted slice false (.ref l) (.int j u) = operate [.ref l, .int j u] (getItem (.ref l) (.int j u)) := by with_unfolding_all rfl) :
    wpAny (model prog w) A (subscriptTail value slice (.ref l) (.int j u)) Q E s := by
  have hlt : j.toNat < ys.length := by omega
  have key : ∀ {vs : List Value} {ys : List Str}, StrsAre vs ys → ∀ k, k < ys.length → ∃ a t, a ∈ ys ∧ vs[k]? = some (.str a t) := by
    intro vs ys H
    induction H with
    | nil => exact fun k hk => absurd hk (Nat.not_lt_zero _)
    | cons a t _ ih =>
      intro k hk
      cases k with
      | zero => exact ⟨a, t, .head _, rfl⟩
      | succ k =>
        obtain ⟨b, t', hb, e⟩ := ih k (by simpa using hk)
        exact ⟨b, t', .tail _ hb, by simpa using e⟩
  obtain ⟨a, t, ha, hx⟩ := key hi _ hlt
  exact itemN N hm h0 (by omega) hx (h _ t ha) hs
theorem opOf_mem {op : Str} (h : op ∈ [Str.ofString "+", Str.ofString "-", Str.ofString "*", Str.ofString "DIV", Str.ofString "MOD", Str.ofString "/", Str.ofString "&", Str.ofString "OR"]) : OpOf op := by
  simpa [OpOf] using h
theorem Res.mono {new new' : List (Addr × Obj)} {p : Int} {x : Addr} {rows : List Value} {code : Str} {v : Option Int} {op : Str} {ks : List Value} {ty : Addr} (h : Res new p x rows code v op ks ty) (hs : ∀ q ∈ new, q ∈ new') : Res new' p x rows code v op ks ty := by
  cases h with
  | err a b c d => exact .err a (b.mono hs) c (hs _ d)
  | val a b c d => exact .val a b c (d.mono hs)
  | op a b c d e => exact .op a b c (d.mono hs) (hs _ e)
theorem tyF_sel {Z : List (Addr × Obj)} {k : TyK} {op f1 f2 : Str} (h : TyFs Z k) : TyF Z (dueSel op f1 f2 k.b k.m k.i) (dueSel op f1 f2 (Str.ofString "boolean") (Str.ofString "set") (Str.ofString "integer")) := by
  unfold dueSel
  (repeat' split) <;> first | exact h.b | exact h.m | exact h.i
theorem ok_chk (n : Int) : PyData.strOk (chk n) = true := by
  unfold chk
  split <;> decide +kernel
theorem ok_fold (op : Str) (x y : Int) : PyData.strOk (foldCode op x y) = true := by
  unfold foldCode
  (repeat' split) <;> first | exact ok_chk _ | decide +kernel
theorem ok_bn (op : Str) (v1 v2 : Option Int) : PyData.strOk (bnCode op v1 v2) = true := by
  have e : PyData.strOk (Str.ofString "") = true := by decide +kernel
  cases v1 <;> cases v2 <;> first | exact ok_fold _ _ _ | exact e
theorem ok_due (op f1 f2 : Str) (v1 v2 : Option Int) : PyData.strOk (dueC op f1 f2 v1 v2) = true := by
  unfold dueC
  (repeat' split) <;> first | exact ok_bn _ _ _ | decide +kernel
theorem nameQC {M : Model} {A : Around} {E : Value → Shared → Prop} {s : Shared} {h₀ : Heap} {L a c : Addr} {cn : Str} {cs : Scope} {ccd : Value} {cl : List (Str × Addr)} {x : Str} {pos : Pos} {v : Value} {Q : Value → Shared → Prop} {news : List (Addr × Obj)}
    {q : Obj} (N : News h₀ L s.heap news) (hc : cl.lookup x = some c) (hm : (c, cellQ q (some v)) ∈ news) (h : Q v s) (hk : cs.kind = .function) (hx : cs.names.lookup x = some .cell) (hd : (x == ("__debug__" : Str)) = false) :
    wpAny M A (eval (.Name x pos) (envX cn cs L a ccd cl)) Q E s := nameX_C N hc hm rfl h hk hx hd
theorem Ev.cell {M : Model} {A : Around} {hp h₀ : Heap} {L a c : Addr} {cn : Str} {cs : Scope} {ccd : Value} {cl : List (Str × Addr)} {x : Str} {pos : Pos} {v : Value} {news : List (Addr × Obj)} {t : Nat} {q : Obj} (hx : cs.names.lookup x = some .cell) (hk : cs.kind = .function) (hd : (x == ("__debug__" : Str)) = false)
    (N : News h₀ L hp news) (hc : cl.lookup x = some c) (hm : (c, cellQ q (some v)) ∈ news) : Ev M A (envX cn cs L a ccd cl) hp t (.Name x pos) v t := fun Q E g d o h => nameQC (s := ⟨hp, g, d, t, o⟩) N hc hm h hk hx hd
theorem eq_opt {prog : Program} {w : World} {A : Around} {E : Value → Shared → Prop} {s : Shared} {Q : Value → Shared → Prop} {v : Value} {o : Option Int} {n : Int} {tn : Tok} (h : OptV o v) (kn : o = none → v = .none → Q (.bool false) s) (ks : ∀ a t, o = some a → v = .int a t → Q (.bool (a == n)) s) :
    wpAny (model prog w) A (compareOp .Eq v (.int n tn)) Q E s := by
  cases h with
  | none => exact PySem.EqNone.eq_none_int (kn rfl rfl)
  | some => exact PyProof.Rows.eq_int (ks _ _ rfl rfl)
theorem errIn_of {news : List (Addr × Obj)} {e rl pd dx : Addr} {es : List DictEntry} {n : Nat} (h1 : (e, instObj 207 dx) ∈ news) (h2 : (dx, dictOf es n) ∈ news) (h3 : getL "rows" es = some (some (.ref rl))) (h4 : getL "places" es = some (some (.ref pd))) (h5 : getL "mark" es = some none) : ErrIn news e rl pd := ⟨_, _, _, h1, h2, h3, h4, h5⟩
theorem mem_app {p : Addr × Obj} {a b : List (Addr × Obj)} (h : p ∈ b) : p ∈ a ++ b := List.mem_append_right _ h
/-! loops3 -/
section
variable {M : Model} {prog : Program} {w : World} {A : Around} {E : Value → Shared → Prop} {s : Shared} {env : Env} {x : Str} {c : Addr} {v₀ : Option Value} {v : Value} {q : Obj}
theorem store_cellS {Q : Unit → Shared → Prop} (hk : env.scope.kind = .function) (hl : env.kindOf x = some .cell) (hc : env.cells.lookup x = some c) (ho : s.heap.get? c = some (cellQ q v₀))
    (h : ∀ h', h'.get? c = some (cellQ q (some v)) → Heap.SameBut c s.heap h' → Q () { s with heap := h' }) : wpAny M A (storeName env x v) Q E s := by
  unfold storeName
  simp only [hl, hk]
  refine wpAny_bind (wpAny_cellOf hc ?_)
  unfold cellSet
  refine wpAny_bind (wpAny_load ho ?_)
  exact wpAny_update ho (h _ (by have e := Heap.get?_update_self (fun o : Obj => { o with data := .cell (some v) }) ho rfl; exact e) (Heap.SameBut.update ..))
theorem storeQC {h₀ : Heap} {L a : Addr} {m : Str → Option Value} {cn : Str} {cs : Scope} {ccd : Value} {cl : List (Str × Addr)} {news : List (Addr × Obj)} {g : Obj → List (Addr × Obj)} {Q : Unit → Shared → Prop} (F : Fr h₀ L s.heap m) (N : News h₀ L s.heap news) (hc : cl.lookup x = some c) (U : UpdF c (cellQ q v₀) news g)
    (h : ∀ h', Fr h₀ L h' m → News h₀ L h' (g (cellQ q (some v))) → Q () { s with heap := h' })
    (hk : cs.kind = .function) (hx : (envX cn cs L a ccd cl).kindOf x = some .cell) : wpAny M A (storeName (envX cn cs L a ccd cl) x v) Q E s := by
  obtain ⟨own, rest, rfl, hg, h1, h2⟩ := U.split
  have hmem := N (c, cellQ q v₀) (List.mem_append_right _ (.head _))
  refine store_cellS hk hx hc hmem.1 fun h' ho' hs => ?_
  refine h h' ⟨F.ns.sameBut hs (Ne.symm hmem.2.1), fun b ob e => (hs.2 b (fun q => ?_)).trans (F.keep b ob e), F.above⟩ (hg _ ▸ N.setAt h1 h2 hs ho')
  rw [q, hmem.2.2] at e; cases e
end
/-- a turn's end under a loop whose target is a cell -/
inductive MyEndC (h₀ : Heap) (L : Addr) (J : (Str → Option Value) → List (Addr × Obj) → Prop) (I : Addr) (oI : Obj) (c : Addr) (q : Obj) (s₁ : Shared) : Shared → Prop
  | intro {h' : Heap} {tk : Nat} {m' : Str → Option Value} {nx : List (Addr × Obj)} {v : Option Value} (F : Fr h₀ L h' m') (N : News h₀ L h' ((I, oI) :: (c, cellQ q v) :: nx)) (hn : ∀ p ∈ nx, p.1 ≠ I) (hm : ∀ p ∈ nx, p.1 ≠ c) (hj : J m' nx) : MyEndC h₀ L J I oI c q s₁ { s₁ with heap := h', toks := tk }
def MyPostC (h₀ : Heap) (L : Addr) (J : (Str → Option Value) → List (Addr × Obj) → Prop) (I : Addr) (oI : Obj) (c : Addr) (q : Obj) (s₁ : Shared) (Q : Flow → Shared → Prop) (f : Flow) (s₂ : Shared) : Prop :=
  match f with
  | .ret v => Q (.ret v) s₂
  | .brk => Q .next s₂
  | _ => MyEndC h₀ L J I oI c q s₁ s₂
/-- a loop's word under a target that is a cell -/
inductive RcSt (h₀ : Heap) (L : Addr) (c : Nat) (q : Obj) (I : Nat) (a₀ : Int) (n : Nat) (J : Nat → (Str → Option Value) → List (Addr × Obj) → Prop) (s : Shared) : Nat → Shared → Prop
  | mk {h : Heap} {tk : Nat} {m : Str → Option Value} {nx : List (Addr × Obj)} {v : Option Value} {i : Nat} : IsRangeIter h I (a₀ + (i : Nat) * 1) ((n : Int) - (i : Nat)) 1 → Fr h₀ L h m → News h₀ L h ((c, cellQ q v) :: nx) → (∀ p ∈ nx, p.1 ≠ I) → (∀ p ∈ nx, p.1 ≠ c) → J i m nx → i ≤ n → RcSt h₀ L c q I a₀ n J s (n + 1 - i) { s with heap := h, toks := tk }
theorem nw_but {h₀ h h' : Heap} {L I : Nat} {l : List (Addr × Obj)} (N : News h₀ L h l) (ho : ∀ p ∈ l, p.1 ≠ I) (k : ∀ (q : Nat) o, q ≠ I → h.get? q = some o → h'.get? q = some o) : News h₀ L h' l := fun p hp => ⟨k _ _ (ho p hp) (N p hp).1, (N p hp).2⟩
def LoopC (prog : Program) (w : World) (A : Around) (env : Env) (x : Str) (px : Pos) (body : List Stmt) (Q : Flow → Shared → Prop) (E : Value → Shared → Prop) (it : Value) (s₂ : Shared) : Prop :=
  codeAny (model prog w) A (.forLoop (.Name x px) it body [] env) (fun r s' => match r with | .ok f => Q f s' | .error e => cameBackBy (model prog w) A env E e s') s₂
section
variable {prog : Program} {w : World} {A : Around} {E : Value → Shared → Prop} {s : Shared} {env : Env} {h₀ : Heap} {x : Str} {px : Pos} {body : List Stmt} {Q : Flow → Shared → Prop} {m₀ : Str → Option Value} {news : List (Addr × Obj)} {c : Addr} {v₀ : Option Value} {q : Obj}
theorem For_C {iter : Expr} {pos : Pos} (h : wpAny (model prog w) A (eval iter env) (fun xv s₁ => wpAny (model prog w) A (pyIter xv) (fun it s₂ => LoopC prog w A env x px body Q E it s₂) E s₁) E s)
    (hs : ∀ x, foldedSetIterable iter env x = pure x := by intro _; rfl) : wpAny (model prog w) A (exec (.For (.Name x px) iter body [] pos) env) Q E s := wpAny_For h hs
theorem my_rangeC {r : Addr} {a₀ b₀ : Int} {t₀ u₀ w₀ : Tok} {n : Nat} (J : Nat → (Str → Option Value) → List (Addr × Obj) → Prop) (hk : env.scope.kind = .function) (hx : env.kindOf x = some .cell) (hc : env.cells.lookup x = some c) (hE : PassesOwn (model prog w) A env E)
    (hh : A.handled = none) (hr : IsRange s.heap r a₀ b₀ 1 t₀ u₀ w₀) (hsmall : Builtin.Range.small a₀ b₀ 1 = true) (hn : Builtin.Range.rangeSize a₀ b₀ 1 = (n : Int)) (F : Fr h₀ env.locals s.heap m₀) (N : News h₀ env.locals s.heap ((c, cellQ q v₀) :: news)) (hoc : ∀ p ∈ news, p.1 ≠ c) (hj : J 0 m₀ news)
    (turn : ∀ (i : Nat) t m₁ nx h tk I oI, i < n → J i m₁ nx → (∀ p ∈ nx, p.1 ≠ I) → @Ne Nat c I → (∀ p ∈ nx, p.1 ≠ c) → Fr h₀ env.locals h m₁ → News h₀ env.locals h ((I, oI) :: (c, cellQ q (some (.int (a₀ + (i : Int)) t))) :: nx) →
      wpAny (model prog w) A (execs body env) (MyPostC h₀ env.locals (J (i + 1)) I oI c q { s with heap := h, toks := tk } Q) E { s with heap := h, toks := tk })
    (done : ∀ m₁ nx v h tk, J n m₁ nx → (∀ p ∈ nx, p.1 ≠ c) → Fr h₀ env.locals h m₁ → News h₀ env.locals h ((c, cellQ q v) :: nx) → Q .next { s with heap := h, toks := tk }) :
    wpAny (model prog w) A (pyIter (.ref r)) (fun it s₂ => LoopC prog w A env x px body Q E it s₂) E s := by
  refine wpAny_pyIter_range hr hsmall ?_
  have hLI : @LT.lt Nat _ env.locals s.heap.objs.size := F.ns.lt
  generalize hI : s.heap.objs.size = I at hLI
  have W := Walks.range (prog := prog) (w := w) hh I a₀ 1 n
  have hci : @Ne Nat c I := hI ▸ Nat.ne_of_lt (Heap.lt_size (N _ (.head _)).1)
  refine codeAny_forLoop (RcSt h₀ env.locals c q I a₀ n J s) ?_ (n + 1)
    (.mk (i := 0) (by show IsRangeIter _ _ _ _ _; rw [hn, ← hI]; simpa using Heap.get?_push_size _ rfl) (F.push _) (fun p hp => ⟨Heap.get?_push_of_some _ (N p hp).1, (N p hp).2⟩) (fun p hp => hI ▸ Nat.ne_of_lt (Heap.lt_size (N p (.tail _ hp)).1)) hoc hj (Nat.zero_le _))
  intro k s' st
  cases st with
  | @mk h' tk m' nx v i hst' F' N' hnI hnc hJ hi =>
  have next : ∀ h₁ : Heap, (∀ b o, b ∉ [I] → h'.get? b = some o → h₁.get? b = some o) → Fr h₀ env.locals h₁ m' ∧ News h₀ env.locals h₁ ((c, cellQ q v) :: nx) := fun h₁ hk₁ =>
    have k1 : ∀ q o, @Ne Nat q I → h'.get? q = some o → h₁.get? q = some o := fun q o hq e => hk₁ q o (fun hm => hq (List.mem_singleton.mp hm)) e
    ⟨Kp.fr (Kp.of_but (Nat.le_refl _) k1) hLI F', nw_but N' (List.forall_mem_cons.mpr ⟨hci, hnI⟩) k1⟩
  refine (Nat.lt_or_eq_of_le hi).elim (fun hlt => ?_) fun hin => ?_
  · refine W.item i _ _ _ hlt hst' fun v1 h₁ tk₁ hP hst₁ hk₁ => ?_
    refine hP.elim fun t ht => ?_
    rw [ht, Int.mul_one]
    have F₁ := (next h₁ hk₁).1
    have N₁ := (next h₁ hk₁).2
    have hc1 := N₁ _ (.head _)
    refine wpAny_assign_Name (store_cellS hk hx hc hc1.1 fun h₂ ho₂ hs₂ => ?_)
    refine wpAny_mono (wpAny_passesOwn hE (turn i t m' nx h₂ tk₁ I _ hlt hJ hnI hci hnc (F₁.change hs₂ hc1.2.1 hc1.2.2) (nC (hs₂.extBut _ _ (Ne.symm hci) hst₁) hLI F' (List.forall_mem_cons.mpr ⟨⟨ho₂, hc1.2⟩, nw_but (nT N₁) hnc hs₂.extBut⟩)))) (fun f s₃ h₃ => ?_) fun _ _ e => e
    have fin : MyEndC h₀ env.locals (J (i + 1)) I (itR (a₀ + ((i + 1 : Nat) : Int) * 1) ((n : Int) - ((i + 1 : Nat) : Int))) c q { s with heap := h₂, toks := tk₁ } s₃ → ∃ m, m < n + 1 - i ∧ RcSt h₀ env.locals c q I a₀ n J s m s₃ := fun
      | .intro F3 N3 hI3 hc3 hJ3 => ⟨n + 1 - (i + 1), Nat.sub_succ_lt_self _ _ (Nat.lt_succ_of_lt hlt), .mk (nH N3) F3 (nT N3) hI3 hc3 hJ3 hlt⟩
    cases f with
    | ret v => exact h₃
    | brk => exact h₃
    | next => exact fin h₃
    | cont => exact fin h₃
  · refine W.done _ _ _ (show IsRangeIter h' I (a₀ + (n : Nat) * 1) ((n : Int) - (n : Nat)) 1 from hin ▸ hst') fun h₁ tk₁ hk₁ => wpAny_execs_nil ?_
    exact done m' nx v h₁ tk₁ (hin ▸ hJ) hnc (next h₁ hk₁).1 (next h₁ hk₁).2
end
/-! comp -/
open PyProof.Rows.LCg in
/-- a comprehension's turn leaves the ledger as it stood -/
def CStill (h₀ : Heap) (L : Addr) (m : Str → Option Value) (nw : List (Addr × Obj)) (s s' : Shared) : Prop := ∃ h' tk', s' = { s with heap := h', toks := tk' } ∧ Fr h₀ L h' m ∧ News h₀ L h' nw
theorem CStill.mk {h₀ : Heap} {L : Addr} {m : Str → Option Value} {nw : List (Addr × Obj)} {s : Shared} {h' : Heap} {tk' : Nat} (F : Fr h₀ L h' m) (N : News h₀ L h' nw) : CStill h₀ L m nw s { s with heap := h', toks := tk' } := ⟨h', tk', rfl, F, N⟩
inductive PairSt (h₀ : Heap) (L : Addr) (m : Str → Option Value) (news : List (Addr × Obj)) (s : Shared) (I l D C : Nat) (n : Nat) (p : Nat → Bool) : Nat → Shared → Prop
  | mk {h tk i zs ms m'} : i ≤ n → zs.length ≤ i → h.IsListIter I l i → Fr h₀ L h m → h.Ns C m' → News h₀ L h ((D, PyProof.Rows.LCg.lst zs) :: news) → IntsAre zs ms → (ms = [] ↔ ∀ j, j < i → p j = false) → PairSt h₀ L m news s I l D C n p (n + 1 - i) { s with heap := h, toks := tk }
theorem none_ff {p : Nat → Bool} {i : Nat} (h : false = p i) : (∀ j, j < i + 1 → p j = false) ↔ ∀ j, j < i → p j = false :=
  ⟨fun z j hj => z j (Nat.lt_succ_of_lt hj), fun z j hj => (Nat.lt_succ_iff_lt_or_eq.mp hj).elim (z j) fun e => e ▸ h.symm⟩
theorem none_tt {p : Nat → Bool} {i : Nat} {ms : List Int} (h : true = p i) : ms ++ [1] = [] ↔ ∀ j, j < i + 1 → p j = false :=
  ⟨fun z => absurd z (by simp), fun z => absurd (h.trans (z i (Nat.lt_succ_self _))) (by simp)⟩
section
open PyProof.Rows.LCg
variable {prog : Program} {w : World} {A : Around} {E : Value → Shared → Prop} {s : Shared} {h₀ : Heap} {L : Addr} {m : Str → Option Value} {env : Env} {news : List (Addr × Obj)}
theorem pairs_run {iter c : PySem.Expr} {a b : Str} {pa pb tp cp : Pos} {kk ck : Nat} {scope : Scope} {cl : List (Str × Addr)} {pos : Pos} {l : Addr} {vs : List Value} {nl : Nat} {xs ys : Nat → Value} {p : Nat → Bool} {Q : Value → Shared → Prop} {I D C n0 : Nat} {h₁ : Heap} {tk1 : Nat} {mC : Str → Option Value}
    (hh : A.handled = none) (hl : (l, listOf vs.toArray nl) ∈ news) (hsz : vs.length ≤ 1000)
    (hv : ∀ i v, vs[i]? = some v → ∃ T nt, v = .ref T ∧ (T, tupOf #[xs i, ys i] nt) ∈ news)
    (hkind : scope.kind = .function) (hxa : scope.names.lookup a = some .local) (hxb : scope.names.lookup b = some .local) (hab : ¬ a = b)
    (hL : @LT.lt Nat _ L n0) (hn : ∀ p ∈ news, @LT.lt Nat _ p.1 n0) (hI : n0 ≤ I) (hD : I < D) (hC : D < C)
    (turn : ∀ (i : Nat) I oI C oC D oD m₂ h tk (E' : Value → Shared → Prop), i < vs.length → NsObj oC m₂ → m₂ a = some (xs i) → m₂ b = some (ys i) → Fr h₀ L h m → News h₀ L h ((I, oI) :: (C, oC) :: (D, oD) :: news) →
      wpAny (model prog w) A (isTrue c (compEnvC scope cl C env) (eval c (compEnvC scope cl C env))) (fun ok s₃ => ok = p i ∧ CStill h₀ L m ((I, oI) :: (C, oC) :: (D, oD) :: news) { s with heap := h, toks := tk } s₃) E' { s with heap := h, toks := tk })
    (fin : ∀ D zs ms h tk, Fr h₀ L h m → News h₀ L h ((D, lst zs) :: news) → IntsAre zs ms → (ms = [] ↔ ∀ i, i < vs.length → p i = false) → Q (.ref D) { s with heap := h, toks := tk })
    (F : Fr h₀ L h₁ m) (N : News h₀ L h₁ news) (hit : h₁.IsListIter I l 0) (eD : h₁.get? D = some (lst [])) (eC : h₁.Ns C mC) :
    codeAny (model prog w) A (.compStart (.ListComp (.Constant (.int 1) ck cp) [⟨.Tuple [.Name a pa, .Name b pb] kk tp, iter, [c], 0⟩] scope pos) 0 (.ref I) (.ref D) (compEnvC scope cl C env))
      (compPost (model prog w) A E none Q (.ref D) C) { s with heap := h₁, toks := tk1 } := by
  have hLD : @LT.lt Nat _ L D := Nat.lt_of_lt_of_le hL (Nat.le_of_lt (Nat.lt_of_le_of_lt hI hD))
  have hLC : @LT.lt Nat _ L C := Nat.lt_trans hLD hC
  have hLI : @LT.lt Nat _ L I := Nat.lt_of_lt_of_le hL hI
  have hDn : n0 ≤ D := Nat.le_of_lt (Nat.lt_of_le_of_lt hI hD)
  have hCn : n0 ≤ C := Nat.le_trans hDn (Nat.le_of_lt hC)
  have hIl : l ≠ I := Nat.ne_of_lt (Nat.lt_of_lt_of_le (hn _ hl) hI)
  have W := Walks.list (prog := prog) (w := w) hh I l hIl vs.toArray
  have lstAt : ∀ h' : Heap, News h₀ L h' news → h'.IsList l vs.toArray := fun h' N' => PySem.IsL.isList (n := nl) (N' _ hl).1
  have loop : codeAny (model prog w) A (.compLoop (.ListComp (.Constant (.int 1) ck cp) [⟨.Tuple [.Name a pa, .Name b pb] kk tp, iter, [c], 0⟩] scope pos) 0 (.ref I) (.ref D) (compEnvC scope cl C env))
      (compPost (model prog w) A E none Q (.ref D) C) { s with heap := h₁, toks := tk1 } := by
    refine kct_loop (PairSt h₀ L m news s I l D C vs.length p) ?_ (vs.length + 1) (.mk (i := 0) (Nat.zero_le _) (Nat.le_refl _) hit F eC (nC eD hLD F N) .nil ⟨fun _ j hj => absurd hj (Nat.not_lt_zero _), fun _ => rfl⟩)
    intro k s' st
    cases st with
    | @mk h' tk i zs ms m' hi' hzl hit' F' hn' N' hI' hp' =>
    have N'n := nT N'
    refine (Nat.lt_or_eq_of_le hi').elim (fun hlt => ?_) fun hin => ?_
    · refine W.item i _ _ _ hlt ⟨hit', lstAt _ N'n⟩ fun v h₂ tk₂ hPv hst₂ hk₂ => ?_
      refine (hv i v (by simpa using hPv)).elim fun T hT => hT.elim fun nt hT => ?_
      rw [hT.1]
      refine wpAny_letOwnedTupleGo_listiter hst₂.1 ?_
      have k2 : Kp I h' h₂ := Kp.of_in (Nat.le_refl _) hk₂
      have hk2 : ∀ q o, @Ne Nat q I → h'.get? q = some o → h₂.get? q = some o := fun q o hq e => hk₂ q o (fun hm => hq (List.mem_singleton.mp hm)) e
      have hTs : h₂.IsTuple T #[xs i, ys i] := ⟨_, k2 _ _ (Nat.lt_of_lt_of_le (hn _ hT.2) hI) (N'n _ hT.2).1, rfl, nt, rfl⟩
      refine kcp_assign (env := compEnvC scope cl C env) hh hTs (lookup_relabel_local hxa) (lookup_relabel_local hxb) (by simp [compEnvC, relabel, hkind]) (hn'.at' fun o e => hk2 _ o (Nat.ne_of_gt (Nat.lt_trans hD hC)) e) fun h₄ tk₄ hn₄ hs₄ => ?_
      have k4 : Kp n0 h' h₄ := Kp.trans (Kp.of_in hI hk₂) (Kp.of_but hCn hs₄)
      refine hst₂.1.elim fun oI heI => (ns_obj hn₄).elim fun oC heC => ?_
      refine wpAny_mono (turn i I oI C oC D (lst zs) _ h₄ tk₄ _ hlt heC.2 (by simp [hab]) (by simp) (k4.fr hL F') (nC (hs₄ _ _ (Nat.ne_of_lt (Nat.lt_trans hD hC)) heI.1) hLI F' (nC heC.1 hLC F' (nC (hs₄ _ _ (Nat.ne_of_lt hC) (hk2 _ _ (Nat.ne_of_gt hD) (nH N'))) hLD F' (k4.nws hn N'n))))) (fun ok s₅ h₅ => ?_) fun _ _ e => e
      refine h₅.2.elim fun h5 hx => hx.elim fun tk5 hx => ?_
      have F₅ := hx.2.1
      have N₅ := hx.2.2
      rw [hx.1]
      have zI : h5.IsListIter I l (i + 1) := ⟨oI, nH N₅, heI.2⟩
      have zC := heC.2.ns (nH (nT N₅))
      have N6 := nT (nT N₅)
      cases ok with
      | false => exact ⟨vs.length + 1 - (i + 1), sub_lt hlt, .mk hlt (Nat.le_succ_of_le hzl) zI F₅ zC N6 hI' (hp'.trans (none_ff h₅.1).symm)⟩
      | true =>
        refine wpAny_Constant_int ?_
        refine append_at (hsz := small_zs hzl hlt hsz) (nH N6) fun h₆ hs₆ hD₆ => ?_
        have k6 : Kp D h5 h₆ := Kp.of_same (Nat.le_refl _) hs₆
        exact ⟨vs.length + 1 - (i + 1), sub_lt hlt, .mk hlt (snoc_len hzl) ⟨oI, k6 _ _ hD (nH N₅), heI.2⟩ (k6.fr hLD F₅) (zC.sameBut hs₆ (Nat.ne_of_gt hC)) (nC (hD₆.trans (congrArg some (lst_snoc zs _))) hLD F₅ ((Kp.of_same hDn hs₆).nws hn (nT N6))) (hI'.append (.cons _ _ .nil)) (none_tt h₅.1)⟩
    · refine W.done _ _ _ (show h'.IsListIter I l vs.length ∧ _ from ⟨hin ▸ hit', lstAt _ N'n⟩) fun h₂ tk₂ hk₂ => ?_
      have hk2 : ∀ q o, @Ne Nat q I → h'.get? q = some o → h₂.get? q = some o := fun q o hq e => hk₂ q o (fun hm => hq (List.mem_singleton.mp hm)) e
      have k2 : Kp n0 h' h₂ := Kp.of_in hI hk₂
      exact ⟨m', hn'.at' fun o e => hk2 _ o (Nat.ne_of_gt (Nat.lt_trans hD hC)) e, fun h'' hs'' => fin _ zs ms h'' tk₂ (Kp.fr (Kp.trans k2 (Kp.of_same hCn hs'')) hL F') (nC (hs''.extBut _ _ (Nat.ne_of_lt hC) (hk2 _ _ (Nat.ne_of_gt hD) (nH N'))) hLD F' (Kp.nws (Kp.trans k2 (Kp.of_same hCn hs'')) hn N'n)) hI' (hin ▸ hp')⟩
  exact codeAny_compStart_list loop (W.self 0 _ _ _ ⟨hit, lstAt _ N⟩ loop)
/-- «[1 for a, b in l if c]» where the turns store nothing: is it empty? -/
theorem comp_pairs {iter c : PySem.Expr} {a b : Str} {pa pb tp cp : Pos} {kk ck : Nat} {scope : Scope} {cl : List (Str × Addr)} {pos : Pos} {l : Addr} {vs : List Value} {nl : Nat} {xs ys : Nat → Value} {p : Nat → Bool} {Q : Value → Shared → Prop}
    (hh : A.handled = none) (hi : ∀ Q' : Value → Shared → Prop, Q' (.ref l) s → wpAny (model prog w) A (eval iter env) Q' E s)
    (F : Fr h₀ L s.heap m) (N : News h₀ L s.heap news) (hl : (l, listOf vs.toArray nl) ∈ news) (hsz : vs.length ≤ 1000)
    (hv : ∀ i v, vs[i]? = some v → ∃ T nt, v = .ref T ∧ (T, tupOf #[xs i, ys i] nt) ∈ news)
    (hclos : closureFor scope env = pure cl) (hcell : ∀ y ∈ scope.names, y.2 ≠ .cell) (hkind : scope.kind = .function)
    (hnames : ∀ y ∈ scope.names, y.2 = .local → scope.names.lookup y.1 = some .local) (hxa : scope.names.lookup a = some .local) (hxb : scope.names.lookup b = some .local) (hab : ¬ a = b)
    (turn : ∀ (i : Nat) I oI C oC D oD m₂ h tk (E' : Value → Shared → Prop), i < vs.length → NsObj oC m₂ → m₂ a = some (xs i) → m₂ b = some (ys i) → Fr h₀ L h m → News h₀ L h ((I, oI) :: (C, oC) :: (D, oD) :: news) →
      wpAny (model prog w) A (isTrue c (compEnvC scope cl C env) (eval c (compEnvC scope cl C env))) (fun ok s₃ => ok = p i ∧ CStill h₀ L m ((I, oI) :: (C, oC) :: (D, oD) :: news) { s with heap := h, toks := tk } s₃) E' { s with heap := h, toks := tk })
    (fin : ∀ D zs ms h tk, Fr h₀ L h m → News h₀ L h ((D, lst zs) :: news) → IntsAre zs ms → (ms = [] ↔ ∀ i, i < vs.length → p i = false) → Q (.ref D) { s with heap := h, toks := tk })
    (hs : ∀ x, foldedSetIterable iter env x = pure x := by intro _; rfl) :
    wpAny (model prog w) A (eval (.ListComp (.Constant (.int 1) ck cp) [⟨.Tuple [.Name a pa, .Name b pb] kk tp, iter, [c], 0⟩] scope pos) env) Q E s := by
  rw [eval_ListComp]
  refine wpAny_comprehension_free (use := none) rfl hs hclos hkind hnames (hi _ ?_)
  refine wpAny_pyIter_list (PySem.IsL.isList (n := nl) (N _ hl).1) ?_
  refine wpAny_newObj_type (wpAny_newFunctionEnv hcell (fun _ hy => nomatch hy) (fun h₁ hns₁ hsb₁ => ?_) hkind)
  have up : ∀ q o, (s.heap.push _).get? q = some o → h₁.get? q = some o := fun q o e => hsb₁.extBut q o (Nat.ne_of_lt (Heap.lt_size (Heap.get?_push_of_some _ e))) (Heap.get?_push_of_some _ (Heap.get?_push_of_some _ e))
  have up0 : ∀ q o, s.heap.get? q = some o → h₁.get? q = some o := fun q o e => up q o (Heap.get?_push_of_some _ e)
  exact pairs_run (n0 := s.heap.objs.size) hh hl hsz hv hkind hxa hxb hab F.ns.lt (fun q hq => Heap.lt_size (N q hq).1) (Nat.le_refl _) push_lt push_lt turn fin (F.keeps up0) ((Kp.of_ext (n := s.heap.objs.size) up0).nws (fun q hq => Heap.lt_size (N q hq).1) N)
    ⟨_, up _ _ (Heap.get?_push_size _ rfl), rfl, rfl⟩ (hsb₁.extBut _ _ (Nat.ne_of_lt push_lt) (Heap.get?_push_of_some _ (Heap.get?_push_size _ rfl))) hns₁
end
/-! comp2 -/
theorem newEnv_cells {M : Model} {A : Around} {E : Value → Shared → Prop} {s : Shared} {scope : Scope} {globals : Addr} {closure : List (Str × Addr)} {qual : Str} {func : Option Addr} {code : Value} {outer : Env} {builtins : Addr} {Q : Env → Shared → Prop}
    (hQ : Q (newEnv scope s.heap.objs.size globals (cellsFrom (s.heap.objs.size + 1) scope.names closure) qual func code (some outer) builtins) { s with heap := pushCells (s.heap.push { cls := .type "dict", data := .dict #[] }) scope.names }) :
    wpAny M A (newFunctionEnv scope globals closure [] qual func code (some outer) builtins) Q E s := by
  simp only [newFunctionEnv, Option.isSome_some, if_true]
  refine wpAny_bind (wpAny_alloc ?_)
  refine wpAny_bind (wpAny_layCells _ (fun name kind cells => by cases hkc : kind == NameKind.cell <;> simp [hkc]) _ _ _ _ ?_)
  rw [show ({ s with heap := s.heap.push { cls := .type "dict", data := .dict #[] } } : Shared).heap.objs.size = s.heap.objs.size + 1 from Heap.size_push ..]
  refine wpAny_bind ?_
  rw [List.forIn_nil]
  exact wpAny_pure (wpAny_pure hQ)
inductive CellSt (h₀ : Heap) (L : Addr) (m : Str → Option Value) (news : List (Addr × Obj)) (s : Shared) (I D C K : Nat) (oC : Obj) (n : Nat) (p : Nat → Bool) (f : Nat → Int) : Nat → Shared → Prop
  | mk {h tk i zs v} : i ≤ n → zs.length ≤ i → IsRangeIter h I (0 + (i : Nat) * 1) ((n : Int) - (i : Nat)) 1 → Fr h₀ L h m → h.get? K = some (cellO v) → News h₀ L h ((C, oC) :: (D, PyProof.Rows.LCg.lst zs) :: news) → IntsAre zs (((List.range i).filter p).map f) → CellSt h₀ L m news s I D C K oC n p f (n + 1 - i) { s with heap := h, toks := tk }
theorem range_ff {p : Nat → Bool} {f : Nat → Int} {i : Nat} {zs : List Value} (h : false = p i) (hI : IntsAre zs (((List.range i).filter p).map f)) : IntsAre zs (((List.range (i + 1)).filter p).map f) := by
  rw [List.range_succ, List.filter_append, List.filter_cons, ← h, if_neg Bool.false_ne_true, List.filter_nil, List.append_nil]
  exact hI
theorem range_tt {p : Nat → Bool} {f : Nat → Int} {i : Nat} {zs : List Value} {t : Tok} (h : true = p i) (hI : IntsAre zs (((List.range i).filter p).map f)) : IntsAre (zs ++ [.int (f i) t]) (((List.range (i + 1)).filter p).map f) := by
  rw [List.range_succ, List.filter_append, List.filter_cons, ← h, if_pos rfl, List.filter_nil, List.map_append]
  exact hI.append (.cons _ _ .nil)
theorem at1 {i : Nat} {t : Tok} : Value.int (0 + (i : Int) * 1) t = Value.int (0 + (i : Int)) t := by rw [Int.mul_one]
section
open PyProof.Rows.LCg
variable {prog : Program} {w : World} {A : Around} {E : Value → Shared → Prop} {s : Shared} {h₀ : Heap} {L : Addr} {m : Str → Option Value} {env : Env} {news : List (Addr × Obj)}
theorem cell_run {elt iter c : PySem.Expr} {x : Str} {px : Pos} {scope : Scope} {cl : List (Str × Addr)} {pos : Pos} {n : Nat} {p : Nat → Bool} {f : Nat → Int} {Q : Value → Shared → Prop} {I D C K n0 : Nat} {h₁ : Heap} {tk1 : Nat} {oC : Obj}
    (hh : A.handled = none) (hn : n ≤ 1000) (hL : @LT.lt Nat _ L n0) (hnw : ∀ p ∈ news, @LT.lt Nat _ p.1 n0) (hI : n0 ≤ I) (hD : I < D) (hC : D < C) (hK : C < K)
    (hk : scope.kind = .function) (hkc : (compEnvC scope ((x, K) :: cl) C env).kindOf x = some .cell) (hcl : List.lookup x ((x, K) :: cl) = some K)
    (turn : ∀ (i : Nat) (t : Tok) I oI C oC K D oD h tk (E' : Value → Shared → Prop), i < n → Fr h₀ L h m → News h₀ L h ((I, oI) :: (C, oC) :: (K, cellO (some (.int (0 + (i : Int)) t))) :: (D, oD) :: news) →
      wpAny (model prog w) A (isTrue c (compEnvC scope ((x, K) :: cl) C env) (eval c (compEnvC scope ((x, K) :: cl) C env))) (fun ok s₃ => ok = p i ∧ CStill h₀ L m ((I, oI) :: (C, oC) :: (K, cellO (some (.int (0 + (i : Int)) t))) :: (D, oD) :: news) { s with heap := h, toks := tk } s₃) E' { s with heap := h, toks := tk })
    (eltT : ∀ (i : Nat) (t : Tok) I oI C oC K D oD h tk (E' : Value → Shared → Prop), i < n → Fr h₀ L h m → News h₀ L h ((I, oI) :: (C, oC) :: (K, cellO (some (.int (0 + (i : Int)) t))) :: (D, oD) :: news) →
      wpAny (model prog w) A (eval elt (compEnvC scope ((x, K) :: cl) C env)) (fun y s₃ => (∃ t, y = .int (f i) t) ∧ CStill h₀ L m ((I, oI) :: (C, oC) :: (K, cellO (some (.int (0 + (i : Int)) t))) :: (D, oD) :: news) { s with heap := h, toks := tk } s₃) E' { s with heap := h, toks := tk })
    (fin : ∀ D zs h tk, Fr h₀ L h m → News h₀ L h ((D, lst zs) :: news) → IntsAre zs (((List.range n).filter p).map f) → Q (.ref D) { s with heap := h, toks := tk })
    (F : Fr h₀ L h₁ m) (N : News h₀ L h₁ news) (hit : IsRangeIter h₁ I (0 + ((0 : Nat) : Int) * 1) ((n : Int) - ((0 : Nat) : Int)) 1) (eD : h₁.get? D = some (lst [])) (eC : h₁.get? C = some oC) (hoC : NsObj oC fun _ => none) (eK : h₁.get? K = some (cellO none)) :
    codeAny (model prog w) A (.compStart (.ListComp elt [⟨.Name x px, iter, [c], 0⟩] scope pos) 0 (.ref I) (.ref D) (compEnvC scope ((x, K) :: cl) C env))
      (compPost (model prog w) A E none Q (.ref D) C) { s with heap := h₁, toks := tk1 } := by
  have hLI : @LT.lt Nat _ L I := Nat.lt_of_lt_of_le hL hI
  have hLD : @LT.lt Nat _ L D := Nat.lt_trans hLI hD
  have hLC : @LT.lt Nat _ L C := Nat.lt_trans hLD hC
  have hLK : @LT.lt Nat _ L K := Nat.lt_trans hLC hK
  have hIC : I < C := Nat.lt_trans hD hC
  have hIK : I < K := Nat.lt_trans hIC hK
  have hDK : D < K := Nat.lt_trans hC hK
  have hDn : n0 ≤ D := Nat.le_trans hI (Nat.le_of_lt hD)
  have hCn : n0 ≤ C := Nat.le_trans hDn (Nat.le_of_lt hC)
  have hKn : n0 ≤ K := Nat.le_trans hCn (Nat.le_of_lt hK)
  have W := Walks.range (prog := prog) (w := w) hh I 0 1 n
  have loop : codeAny (model prog w) A (.compLoop (.ListComp elt [⟨.Name x px, iter, [c], 0⟩] scope pos) 0 (.ref I) (.ref D) (compEnvC scope ((x, K) :: cl) C env))
      (compPost (model prog w) A E none Q (.ref D) C) { s with heap := h₁, toks := tk1 } := by
    refine kct_loop (CellSt h₀ L m news s I D C K oC n p f) ?_ (n + 1) (.mk (i := 0) (Nat.zero_le _) (Nat.le_refl _) hit F eK (nC eC hLC F (nC eD hLD F N)) .nil)
    intro k s' st
    cases st with
    | @mk h' tk i zs v hi' hzl hit' F' hc' N' hI' =>
    have N'n := nT (nT N')
    refine (Nat.lt_or_eq_of_le hi').elim (fun hlt => ?_) fun hin => ?_
    · refine W.item i _ _ _ hlt hit' fun v1 h₂ tk₂ hPv hst₂ hk₂ => ?_
      refine hPv.elim fun t ht => ?_
      rw [ht.trans at1]
      have hk2 : ∀ q o, @Ne Nat q I → h'.get? q = some o → h₂.get? q = some o := fun q o hq e => hk₂ q o (fun hm => hq (List.mem_singleton.mp hm)) e
      refine wpAny_of_eq (show letOwnedTupleGo (.Name x px) (.ref I) (.int (0 + (i : Int)) t) = pure () from rfl) ?_
      refine wpAny_assign_Name (store_cellS (q := cellO none) (env := compEnvC scope ((x, K) :: cl) C env) (c := K) (v₀ := v) hk hkc hcl (hk2 _ _ (Nat.ne_of_gt hIK) hc') fun h₃ ho₃ hs₃ => ?_)
      have k3 : Kp n0 h' h₃ := Kp.trans (Kp.of_in hI hk₂) (Kp.of_same hKn hs₃)
      have kK : Kp K h₂ h₃ := Kp.of_same (Nat.le_refl _) hs₃
      refine wpAny_mono (turn i t I _ C oC K D (lst zs) h₃ tk₂ _ hlt (k3.fr hL F') (nC (kK _ _ hIK hst₂) hLI F' (nC (kK _ _ hK (hk2 _ _ (Nat.ne_of_gt hIC) (nH N'))) hLC F' (nC ho₃ hLK F' (nC (kK _ _ hDK (hk2 _ _ (Nat.ne_of_gt hD) (nH (nT N')))) hLD F' (k3.nws hnw N'n)))))) (fun ok s₅ h₅ => ?_) fun _ _ e => e
      refine h₅.2.elim fun h5 hx => hx.elim fun tk5 hx => ?_
      have F₅ := hx.2.1
      have N₅ := hx.2.2
      rw [hx.1]
      cases ok with
      | false => exact ⟨n + 1 - (i + 1), sub_lt hlt, .mk hlt (Nat.le_succ_of_le hzl) (nH N₅) F₅ (nH (nT (nT N₅))) (nC (nH (nT N₅)) hLC F' (nT (nT (nT N₅)))) (range_ff h₅.1 hI')⟩
      | true =>
        refine wpAny_mono (eltT i t I _ C oC K D (lst zs) h5 tk5 _ hlt F₅ N₅) (fun y s₆ h₆ => ?_) fun _ _ e => e
        refine h₆.1.elim fun ty hy => h₆.2.elim fun h6 hx => hx.elim fun tk6 hx => ?_
        have F₆ := hx.2.1
        have N₆ := hx.2.2
        rw [hx.1, hy]
        have ND := nT (nT (nT N₆))
        refine append_at (hsz := small_zs hzl hlt hn) (nH ND) fun h₇ hs₇ hD₇ => ?_
        have k7 : Kp D h6 h₇ := Kp.of_same (Nat.le_refl _) hs₇
        exact ⟨n + 1 - (i + 1), sub_lt hlt, .mk hlt (snoc_len hzl) (k7 _ _ hD (nH N₆)) (k7.fr hLD F₆) (hs₇.extBut _ _ (Nat.ne_of_gt hDK) (nH (nT (nT N₆)))) (nC (hs₇.extBut _ _ (Nat.ne_of_gt hC) (nH (nT N₆))) hLC F' (nC (hD₇.trans (congrArg some (lst_snoc zs _))) hLD F' ((Kp.of_same hDn hs₇).nws hnw (nT ND)))) (range_tt h₅.1 hI')⟩
    · refine W.done _ _ _ (show IsRangeIter h' I (0 + (n : Nat) * 1) ((n : Int) - (n : Nat)) 1 from hin ▸ hit') fun h₂ tk₂ hk₂ => ?_
      have hk2 : ∀ q o, @Ne Nat q I → h'.get? q = some o → h₂.get? q = some o := fun q o hq e => hk₂ q o (fun hm => hq (List.mem_singleton.mp hm)) e
      have k2 : Kp n0 h' h₂ := Kp.of_in hI hk₂
      exact ⟨_, hoC.ns (hk2 _ _ (Nat.ne_of_gt hIC) (nH N')), fun h'' hs'' => fin _ zs h'' tk₂ (Kp.fr (Kp.trans k2 (Kp.of_same hCn hs'')) hL F') (nC (hs''.extBut _ _ (Nat.ne_of_lt hC) (hk2 _ _ (Nat.ne_of_gt hD) (nH (nT N')))) hLD F' (Kp.nws (Kp.trans k2 (Kp.of_same hCn hs'')) hnw N'n)) (hin ▸ hI')⟩
  exact codeAny_compStart_list loop (W.self 0 _ _ _ hit loop)
/-- «[elt for x in range(n) if c]» where the name x is caught by a block within c -/
theorem comp_cell {elt iter c : PySem.Expr} {x n0 y0 : Str} {px : Pos} {more : List (Str × Const)} {cl : List (Str × Addr)} {pos : Pos} {n : Nat} {p : Nat → Bool} {f : Nat → Int} {Q : Value → Shared → Prop}
    (hh : A.handled = none) (hn : n ≤ 1000) (_F : Fr h₀ L s.heap m) (_N : News h₀ L s.heap news)
    (hi : ∀ Q' : Value → Shared → Prop, (∀ r t u v h tk, IsRange h r 0 (n : Int) 1 t u v → Fr h₀ L h m → News h₀ L h news → Q' (.ref r) { s with heap := h, toks := tk }) → wpAny (model prog w) A (eval iter env) Q' E s)
    (hsm : Builtin.Range.small 0 (n : Int) 1 = true) (hrn : Builtin.Range.rangeSize 0 (n : Int) 1 = (n : Int))
    (hclos : closureFor ⟨.function, [(n0, .local), (x, .cell), (y0, .free)], false, false, more⟩ env = pure cl)
    (hxc : (relabel ⟨.function, [(n0, .local), (x, .cell), (y0, .free)], false, false, more⟩ env).names.lookup x = some .cell)
    (turn : ∀ (i : Nat) (t : Tok) I oI C oC K D oD h tk (E' : Value → Shared → Prop), i < n → Fr h₀ L h m → News h₀ L h ((I, oI) :: (C, oC) :: (K, cellO (some (.int (0 + (i : Int)) t))) :: (D, oD) :: news) →
      wpAny (model prog w) A (isTrue c (compEnvC ⟨.function, [(n0, .local), (x, .cell), (y0, .free)], false, false, more⟩ ((x, K) :: cl) C env) (eval c (compEnvC ⟨.function, [(n0, .local), (x, .cell), (y0, .free)], false, false, more⟩ ((x, K) :: cl) C env))) (fun ok s₃ => ok = p i ∧ CStill h₀ L m ((I, oI) :: (C, oC) :: (K, cellO (some (.int (0 + (i : Int)) t))) :: (D, oD) :: news) { s with heap := h, toks := tk } s₃) E' { s with heap := h, toks := tk })
    (eltT : ∀ (i : Nat) (t : Tok) I oI C oC K D oD h tk (E' : Value → Shared → Prop), i < n → Fr h₀ L h m → News h₀ L h ((I, oI) :: (C, oC) :: (K, cellO (some (.int (0 + (i : Int)) t))) :: (D, oD) :: news) →
      wpAny (model prog w) A (eval elt (compEnvC ⟨.function, [(n0, .local), (x, .cell), (y0, .free)], false, false, more⟩ ((x, K) :: cl) C env)) (fun y s₃ => (∃ t, y = .int (f i) t) ∧ CStill h₀ L m ((I, oI) :: (C, oC) :: (K, cellO (some (.int (0 + (i : Int)) t))) :: (D, oD) :: news) { s with heap := h, toks := tk } s₃) E' { s with heap := h, toks := tk })
    (fin : ∀ D zs h tk, Fr h₀ L h m → News h₀ L h ((D, lst zs) :: news) → IntsAre zs (((List.range n).filter p).map f) → Q (.ref D) { s with heap := h, toks := tk })
    (hnames : ∀ y ∈ [(n0, NameKind.local), (x, .cell), (y0, .free)], y.2 = .local → List.lookup y.1 [(n0, NameKind.local), (x, .cell), (y0, .free)] = some .local)
    (hs : ∀ x, foldedSetIterable iter env x = pure x := by intro _; rfl) :
    wpAny (model prog w) A (eval (.ListComp elt [⟨.Name x px, iter, [c], 0⟩] ⟨.function, [(n0, .local), (x, .cell), (y0, .free)], false, false, more⟩ pos) env) Q E s := by
  rw [eval_ListComp]
  refine wpAny_comprehension_free (use := none) rfl hs hclos rfl hnames (hi _ fun r t0 u0 v0 hp tkp hr F N => ?_)
  refine wpAny_pyIter_range hr hsm ?_
  generalize hH1 : hp.push _ = H1
  have hit1 : IsRangeIter H1 hp.objs.size (0 + ((0 : Nat) : Int) * 1) ((n : Int) - ((0 : Nat) : Int)) 1 := by
    rw [← hH1]
    show IsRangeIter _ _ _ _ _
    rw [hrn]
    simpa using Heap.get?_push_size _ rfl
  have up1 : ∀ q o, hp.get? q = some o → H1.get? q = some o := fun q o e => hH1 ▸ Heap.get?_push_of_some _ e
  refine wpAny_newObj_type (newEnv_cells ?_)
  have eP : ∀ H : Heap, pushCells H [(n0, NameKind.local), (x, .cell), (y0, .free)] = H.push { cls := .type "cell", data := .cell none } := fun _ => rfl
  rw [eP]
  have ext : ∀ {h : Heap} {o : Obj} q o', h.get? q = some o' → (h.push o).get? q = some o' := fun q o' e => Heap.get?_push_of_some _ e
  have hNs := Heap.Ns.new (H1.push { cls := .type "list", dict := none, data := .seq ([] : List Value).toArray }) (.type "dict")
  refine (ns_obj hNs).elim fun oC hC => ?_
  have old : ∀ {o2 o3 o4 : Obj} q o, hp.get? q = some o → (((H1.push o2).push o3).push o4).get? q = some o := fun q o e => ext _ _ (ext _ _ (ext _ _ (up1 _ _ e)))
  have eC : ∀ {a b : Nat}, b = a + 1 → cellsFrom (a + 1) [(n0, NameKind.local), (x, .cell), (y0, .free)] cl = (x, b) :: cl := fun e => by rw [e]; rfl
  rw [eC (Heap.size_push ..)]
  exact cell_run (n0 := hp.objs.size) (tk1 := tkp) hh hn F.ns.lt (fun q hq => Heap.lt_size (N q hq).1) (Nat.le_refl _) (hH1 ▸ push_lt) push_lt push_lt rfl hxc (by simp [List.lookup]) turn eltT fin (F.keeps old) (Kp.nws (Kp.of_ext (n := hp.objs.size) old) (fun q hq => Heap.lt_size (N q hq).1) N)
    (ext _ _ (ext _ _ (ext _ _ hit1))) (ext _ _ (ext _ _ (Heap.get?_push_size _ (by rfl)))) (ext _ _ hC.1) hC.2 (Heap.get?_push_size _ (by rfl))
end
/-! law16 -/
theorem reg73 : True := by
  w_top off
  (k_with "call ref" => ((k_here; (with_reducible show wpAny _ _ (call (Value.ref 310) _) _ _ _); k_dflt (refine' side_ct _ _ _ _ ?k1_574 ?k2_574 ?k3_574 ?k4_574 ?k5_574 ?kK_574 ?kd_574 ?ku_574 ?p0_574 ?p1_574 ?p2_574 ?p3_574 ?p4_574 ?p5_574 ?p6_574 ?p7_574 ?p8_574 ?p9_574 ?p10_574 ?p11_574 ?p12_574 ?p13_574 ?p14_574 ?p15_574 ?p16_574 ?_; (case k1_574 => k_asm); (case k2_574 => k_asm); (case k3_574 => k_asm); (case k4_574 => k_asm); (case k5_574 => k_asm); (case kK_574 => first | exact rfl | assumption); (case kd_574 => ktr_room); (case ku_574 => ktr_units); (case p0_574 => first | with_reducible assumption | k_mem); (case p1_574 => first | with_reducible assumption | k_mem); (case p2_574 => first | exact sub_tl2 | walk_at "MINE sub"); (case p3_574 => assumption); (case p4_574 => assumption); (case p5_574 => assumption); (case p6_574 => first | with_reducible assumption | k_mem); (case p7_574 => assumption); (case p8_574 => first | with_reducible assumption | k_mem); (case p9_574 => assumption); (case p10_574 => assumption); (case p11_574 => assumption); (case p12_574 => assumption); (case p13_574 => assumption); (case p14_574 => assumption); (case p15_574 => omega); (case p16_574 => omega)); intro new' tup' x' op' f' kd' vx' v3' v' i' mx' c' ti' tm' tc' h' tk' F' N' abv' i1 i2 m1 m2 c1 c2 side'; (try dsimp only at N'); (try k_sweep); (try dsimp only); (try k_fold))))
  (k_with "MINE ev" => (((with_reducible show Ev _ _ _ _ _ (Expr.Name _ _) _ _); (fail_if_success (with_reducible show Ev _ _ (compEnvC _ _ _ _) _ _ _ _ _)); exact Ev.cell (by decide) rfl (by decide) (by k_asm) (by exact rfl) (by walk_at "MINE zmem"))))
  (k_with "MINE zmem" => (first | with_reducible assumption | (refine List.mem_cons_of_mem _ ?_; walk_at "MINE zmem") | (refine mem_app ?_; walk_at "MINE zmem")))
  (k_with "eval Name" => ((k_here; (fail_if_success (with_reducible show wpAny _ _ (eval _ (compEnvC _ _ _ _)) _ _ _)); k_dflt (refine' nameQC ?N_577 ?c_577 ?m_577 ?_ ?k_577 ?x_577 ?d_577; (case k_577 => rfl); (case x_577 => decide); (case d_577 => decide); (case N_577 => k_asm); (case c_577 => exact rfl); (case m_577 => walk_at "MINE zmem"); k_whole))))
  (k_with "compareOp Eq" => ((k_here; (with_reducible show wpAny _ _ (compareOp CmpOp.Eq _ (Value.int _ _)) _ _ _); k_dflt (refine' eq_opt ?k3_578 ?_ ?_; (case k3_578 => assumption); (intro e1 e2; subst e1 e2; (try dsimp only)); rotate_left; (intro x' t' e1 e2; subst e1 e2; (try dsimp only)); rotate_left))))
  (k_with "X k_all" => (with_reducible assumption))
  (k_with "X k_mem" => ((refine mem_app ?_; k_mem)))
  (k_with "MINE sub" => ((intro p hp; repeat (first | exact hp | apply List.mem_cons_of_mem | apply List.mem_append_right))))
  (k_with "MINE subl" => ((intro p hp; repeat (first | exact List.mem_append_left _ hp | exact hp | apply List.mem_cons_of_mem))))
  (k_with "MINE upd2" => (first | (refine' UpdF2.hb ?a_583 ?b_583; (case a_583 => k_all); (case b_583 => k_updF)) | (refine' UpdF2.ha ?a_583 ?b_583; (case a_583 => k_all); (case b_583 => k_updF)) | (refine' UpdF2.tail ?a_583 ?b_583 ?c_583; (case a_583 => k_ne); (case b_583 => k_ne); (case c_583 => walk_at "MINE upd2"))))
  (k_with "MINE err" => ((refine' errIn_of ?a_584 ?b_584 ?c_584 ?d_584 ?e_584; (case a_584 => k_mem); (case b_584 => k_mem); (case c_584 => rfl); (case d_584 => rfl); (case e_584 => rfl))))
  (k_with "subscriptTail" => ((k_here; (with_reducible show wpAny _ _ (subscriptTail _ _ (Value.ref _) (Value.int _ _)) _ _ _); k_dflt (refine' menu_str ?k1_585 ?k2_585 ?k3_585 ?k4_585 ?k5_585 ?k6_585 ?_ ?k7_585; (case k1_585 => k_asm); (case k2_585 => k_mem); (case k3_585 => repeat constructor); (case k4_585 => assumption); (case k5_585 => (simp only [List.length_cons, List.length_nil]; omega)); (case k6_585 => decide); (case k7_585 => with_unfolding_all rfl); k_whole); intro a' t' hmenu)))
  (k_with "call ref" => ((k_here; (with_reducible show wpAny _ _ (call (Value.ref 141) _) _ _ _); k_dflt (refine' bin_ct _ _ _ _ ?k1_586 ?k2_586 ?k3_586 ?k4_586 ?k5_586 ?kK_586 ?kd_586 ?ku_586 ?p0_586 ?p1_586 ?p2_586 ?p3_586 ?p4_586 ?p5_586 ?p6_586 ?p7_586 ?p8_586 ?p9_586 ?p10_586 ?p11_586 ?p12_586 ?p13_586 ?p14_586 ?_; (case k1_586 => k_asm); (case k2_586 => k_asm); (case k3_586 => k_asm); (case k4_586 => k_asm); (case k5_586 => k_asm); (case kK_586 => first | exact rfl | assumption); (case kd_586 => ktr_room); (case ku_586 => ktr_units); (case p0_586 => walk_at "MINE err"); (case p1_586 => walk_at "MINE upd2"); (case p2_586 => (intro x y; (try dsimp only); walk_at "MINE err")); (case p3_586 => assumption); (case p4_586 => exact isPl_nil (by assumption)); (case p5_586 => exact NodeF.mono (by assumption) (by walk_at "MINE sub")); (case p6_586 => exact NodeF.mono (by assumption) (by walk_at "MINE sub")); (case p7_586 => exact TyF.mono (by assumption) (by walk_at "MINE sub")); (case p8_586 => exact TyF.mono (by assumption) (by walk_at "MINE sub")); (case p9_586 => exact tyo_b (by k_mem) (by k_mem)); (case p10_586 => exact tyo_m (by k_mem) (by k_mem)); (case p11_586 => exact tyo_i (by k_mem) (by k_mem)); (case p12_586 => assumption); (case p13_586 => assumption); (case p14_586 => exact op_len (by assumption))); intro new' x' rows' nn' od' h' tk' F' N' ov' res'; (try dsimp only at N'); (try k_sweep); (try dsimp only); (try k_fold))))
  (k_with "call ref" => ((k_here; (with_reducible show wpAny _ _ (call (Value.ref 336) _) _ _ _); k_dflt (refine' fits_ct _ _ _ _ ?k1_587 ?k2_587 ?k3_587 ?k4_587 ?k5_587 ?kK_587 ?kd_587 ?ku_587 ?p0_587 ?p1_587 ?p2_587 ?p3_587 ?p4_587 ?p5_587 ?p6_587 ?p7_587 ?p8_587 ?p9_587 ?p10_587 ?_; (case k1_587 => k_asm); (case k2_587 => k_asm); (case k3_587 => k_asm); (case k4_587 => k_asm); (case k5_587 => k_asm); (case kK_587 => first | exact rfl | assumption); (case kd_587 => ktr_room); (case ku_587 => ktr_units); (case p0_587 => exact ErrIn.rows (by walk_at "MINE err")); (case p1_587 => k_mem); (case p2_587 => exact Res.mono (by assumption) (by walk_at "MINE subl")); (case p3_587 => first | exact tyF_sel (TyFs.mono (by assumption) (by walk_at "MINE sub")) | exact TyF.mono (by assumption) (by walk_at "MINE sub")); (case p4_587 => k_mem); (case p5_587 => assumption); (case p6_587 => assumption); (case p7_587 => first | exact KsP.two (NodeF.mono (by assumption) (by walk_at "MINE sub")) (NodeF.mono (by assumption) (by walk_at "MINE sub")) | exact KsP.one (NodeF.mono (by assumption) (by walk_at "MINE sub"))); (case p8_587 => k_mem); (case p9_587 => walk_at "MINE ints"); (case p10_587 => first | exact ok_due _ _ _ _ _ | assumption | decide +kernel)); intro h' tk' F' N'; (try k_sweep); (try dsimp only); (try k_fold))))
  (k_with "call ref" => ((k_here; (with_reducible show wpAny _ _ (call (Value.ref 331) _) _ _ _); k_dflt (refine' due_ct _ _ _ _ ?k1_588 ?k2_588 ?k3_588 ?k4_588 ?k5_588 ?kK_588 ?kd_588 ?ku_588 ?p0_588 ?p1_588 ?p2_588 ?p3_588 ?p4_588 ?p5_588 ?p6_588 ?p7_588 ?p8_588 ?_; (case k1_588 => k_asm); (case k2_588 => k_asm); (case k3_588 => k_asm); (case k4_588 => k_asm); (case k5_588 => k_asm); (case kK_588 => first | exact rfl | assumption); (case kd_588 => ktr_room); (case ku_588 => ktr_units); (case p0_588 => k_mem); (case p1_588 => k_mem); (case p2_588 => assumption); (case p3_588 => assumption); (case p4_588 => assumption); (case p5_588 => assumption); (case p6_588 => assumption); (case p7_588 => assumption); (case p8_588 => assumption)); intro d' form' code' op' v4' t1 t2 t3 h' tk' F' N' l1 due'; k_dflt (obtain ⟨e1, e2, v5, hv5, hv6⟩ := due'; subst e1 e2); (try k_sweep); (try dsimp only); (try k_fold))))
  trivial
theorem elems_at {Y : List (Addr × Obj)} {es : List Elem} (h : ∀ e ∈ es, ElemOk Y e) : ∃ ps, PlacesOf Y (erefs es) ps := by
  induction es with
  | nil => exact ⟨[], .nil⟩
  | cons e r ih =>
    obtain ⟨ps, hp⟩ := ih fun x hx => h x (.tail _ hx)
    obtain ⟨_, p, _, _, _, _, hn, _⟩ := (h e (.head _)).node
    obtain ⟨t, a⟩ := hn.place
    exact ⟨p :: ps, .cons a hp⟩
theorem in_t {a b : Int} {k : Nat} (h : a ≤ 0 + (k : Int)) : decide (0 + (k : Int) ≤ b) = (decide (a ≤ (k : Int)) && decide ((k : Int) ≤ b)) := by
  have h1 : a ≤ (k : Int) := by omega
  rw [decide_eq_true h1, Bool.true_and, decide_eq_decide]
  omega
theorem in_f {a b : Int} {k : Nat} (h : ¬ a ≤ 0 + (k : Int)) : false = (decide (a ≤ (k : Int)) && decide ((k : Int) ≤ b)) := by
  have h1 : ¬ a ≤ (k : Int) := by omega
  rw [decide_eq_false h1, Bool.false_and]
theorem pow_el (i : Nat) (t : Tok) : Value.int (2 ^ (0 + (i : Int)).toNat) t = Value.int ((2 : Int) ^ i) t := by
  have e : (0 + (i : Int)).toNat = i := by omega
  rw [e]
theorem allK_len {es : List Elem} (h : ∀ e ∈ es, e.2.length = 1 ∨ e.2.length = 2) : (allK es).length ≤ 2 * es.length := by
  induction es with
  | nil => exact Nat.le_refl _
  | cons e r ih =>
    have h1 := h e (.head _)
    have h2 := ih fun x hx => h x (.tail _ hx)
    have e3 : allK (e :: r) = e.2 ++ allK r := by simp [allK]
    rw [e3, List.length_append, List.length_cons]
    omega
section
variable {prog : Program} {w : World} {A : Around} {E : Value → Shared → Prop} {s : Shared} {h₀ : Heap} {L a b : Addr} {news : List (Addr × Obj)} {xs ys : List Value} {ds : List (Int × Str)} {ms : List Int} {n k : Nat} {Q : Value → Shared → Prop}
theorem ne_rows1 (hd : ds ≠ []) (N : News h₀ L s.heap news) (h1 : (a, listOf xs.toArray n) ∈ news) (h2 : (b, listOf (List.nil (α := Value)).toArray k) ∈ news) (r1 : RowsAre news xs ds) (hu : A.units + 64 < cLine) (h : Q (.bool true) s) :
    wpAny (model prog w) A (compareOp .NotEq (.ref a) (.ref b)) Q E s := ne_rows N h1 h2 r1 .nil hu (by rw [decide_eq_false hd]; exact h)
theorem ne_ints0 (N : News h₀ L s.heap news) (h1 : (a, listOf xs.toArray n) ∈ news) (h2 : (b, listOf (List.nil (α := Value)).toArray k) ∈ news) (r1 : IntsAre xs ms) (hu : A.units + 64 < cLine) (h : Q (.bool (!decide (ms = []))) s) :
    wpAny (model prog w) A (compareOp .NotEq (.ref a) (.ref b)) Q E s :=
  ne_intsK (PySem.IsL.isList (n := n) (N _ h1).1) r1 (PySem.IsL.isList (n := k) (N _ h2).1) .nil hu h
end
theorem ne_ints1 {prog : Program} {w : World} {A : Around} {E : Value → Shared → Prop} {s : Shared} {h₀ : Heap} {L a b : Addr} {news : List (Addr × Obj)} {xs : List Value} {ms : List Int} {n k : Nat} {Q : Value → Shared → Prop} (hd : ms ≠ []) (N : News h₀ L s.heap news) (h1 : (a, listOf xs.toArray n) ∈ news) (h2 : (b, listOf (List.nil (α := Value)).toArray k) ∈ news) (r1 : IntsAre xs ms) (hu : A.units + 64 < cLine) (h : Q (.bool true) s) :
    wpAny (model prog w) A (compareOp .NotEq (.ref a) (.ref b)) Q E s := ne_ints0 N h1 h2 r1 hu (by rw [decide_eq_false hd]; exact h)
theorem reg75 : True := by
  (k_with "MINE rows" => (exact RowsAre.mono (by with_reducible assumption) (by walk_at "MINE sub")))
  (k_with "compareOp NotEq ref ref" => (((fail_if_success (fail_if_success (have hz9 := gL16))); k_here; k_dflt (refine' ne_rows1 ?k0_590 ?k1_590 ?k2_590 ?k3_590 ?k4_590 ?k6_590 ?_; (case k0_590 => assumption); (case k1_590 => k_asm); (case k2_590 => k_mem); (case k3_590 => k_mem); (case k4_590 => walk_at "MINE rows"); (case k6_590 => ktr_units); k_whole))))
  (k_with "compareOp NotEq ref ref" => (((fail_if_success (fail_if_success (have hz9 := gL16))); k_here; k_dflt (first | (refine' ne_ints1 ?k0_591 ?k1_591 ?k2_591 ?k3_591 ?k4_591 ?k6_591 ?_; (case k0_591 => assumption); (case k1_591 => k_asm); (case k2_591 => k_mem); (case k3_591 => k_mem); (case k4_591 => assumption); (case k6_591 => ktr_units); k_whole) | (refine' ne_ints0 ?k1_591 ?k2_591 ?k3_591 ?k4_591 ?k6_591 ?_; (case k1_591 => k_asm); (case k2_591 => k_mem); (case k3_591 => k_mem); (case k4_591 => assumption); (case k6_591 => ktr_units); k_whole)))))
  (k_with "eval Name" => ((k_here; (with_reducible show wpAny _ _ (eval (Expr.Name _ _) (compEnvC _ _ _ _)) _ _ _); k_dflt (refine' lcf_cell ?N_592 ?c_592 ?m_592 ?d_592 ?_ ?a_592 ?b_592; (case a_592 => rfl); (case b_592 => rfl); (case N_592 => k_asm); (case c_592 => rfl); (case m_592 => k_mem); (case d_592 => exact rfl); k_whole))))
  trivial
set_option maxHeartbeats 8000000 in
theorem tail16 (w : World) (mean : ExcName → Option Value) (mg mb : Str → Option Value) {body : List Stmt} {qual : Str} {scope : Scope} {dp un : Nat} {gd : Option (List Code)} {a : Addr} {ccd : Value} {outer : List Env} {A₀ : Around} {base h₀ : Heap} {L : Addr} {m : Str → Option Value} {hp : Heap} {gns : Array GenState} {drw : Drawn} {tk0 : Nat} {sos : OsState} {Q : Flow → Shared → Prop} {E : Value → Shared → Prop}
    {Z : List (Addr × Obj)} {pl fl Ta Td : Addr} {k : TyK} {c : Int} {tc : Tok} {vs : List Value} {figs : List Int} {n0 n1 : Nat} {i mx : Int} {ti tm : Tok} {q3 : Obj} {el rl hl : Addr} {ne nr nh : Nat} {rv hv : List Value} {es : List Elem}
    (hb : LawB w body qual scope) (B : Below A₀ base outer h₀) (F : Fr h₀ L hp m) (X : (Mine.R.heap_1_1 w.params).In h₀) (N : News h₀ L hp ((pl, PoolO fl i ti mx tm n0) :: (Td, TyO w.params k c tc) :: Z)) (T : Top Mine.R.view_1_2 (looseW Mine.R.view_1_2 []) mean mg mb h₀) (hd : dp + 40 < recursionLimit) (hu : un + 300 < cLine)
    (hZp : ∀ p ∈ Z, p.1 ≠ pl) (hZt : ∀ p ∈ Z, p.1 ≠ Td) (hne : @Ne Nat pl Td) (hTa : (Ta, instObj 285 Td) ∈ Z) (hTy : TyFs Z k) (hfl : (fl, listOf vs.toArray n1) ∈ Z) (hI : IntsAre vs figs) (hi0 : 0 ≤ i) (hi1 : i ≤ figs.length) (hlen : figs.length ≤ 5000) (hm0 : 0 ≤ mx) (hm1 : mx < 1009) (hc0 : 0 ≤ c) (hc1 : c ≤ 900)
    {q1 q2 : Obj} (hcp : (L + 1, cellQ q1 (some (.ref pl))) ∈ Z) (hct : (L + 1 + 1, cellQ q2 (some (.ref Ta))) ∈ Z)  (hel : (el, listOf (erefs es).toArray ne) ∈ Z) (hrl : (rl, listOf rv.toArray nr) ∈ Z) (hhl : (hl, listOf hv.toArray nh) ∈ Z) (hrows : RowsAre Z rv (rowsOf (allK es))) (hheld : HeldAre Z hv es) (hes : ∀ e ∈ es, ElemOk Z e) (hup : Ups (allK es)) (hlen3 : es.length ≤ 3) (hme : m (Str.ofString "elements") = some (.ref el)) (hmr : m (Str.ofString "rows") = some (.ref rl)) (hch : (L + 1 + 1 + 1, cellQ q3 (some (.ref hl))) ∈ Z)
    (hret : ∀ h' tk' m', Fr h₀ L h' m' → Q (.ret (.bool true)) ⟨h', gns, drw, tk', sos⟩) : LawAtE w dp un gd L a ccd outer 16 Q E ⟨hp, gns, drw, tk0, sos⟩ body qual scope := by
  refine' law_lit (P := LawAtE w dp un gd L a ccd outer 16 Q E ⟨hp, gns, drw, tk0, sos⟩) hb ?ho ?_
  (case ho => k_dflt k_is)
  intro hb' hE
  clear hb
  dsimp only [LawAt, List.drop]
  have gL16 : True := trivial
  repeat' (first | ((fail_if_success (with_reducible show wpAny _ _ (call (.ref 169) _) _ _ _)); walk_at "MINE step"))
  k_here
  k_dflt (refine' setn_ct _ _ _ _ ?k1 ?k2 ?k3 ?k4 ?k5 ?kK ?kd ?ku ?p0 ?p1 ?p2 ?p3 ?p4 ?p5 ?p6 ?p7 ?p8 ?p9 ?p10 ?p11 hup ?p13 ?p14 ?_)
  (case k1 => k_asm); (case k2 => k_asm); (case k3 => k_asm); (case k4 => k_asm); (case k5 => k_asm); (case kK => exact rfl); (case kd => ktr_room); (case ku => ktr_units)
  (case p2 => exact sub_tl2)
  (case p6 => first | walk_at "MINE err" | fail "p6")
  (case p0 => first | k_mem | fail "p0")
  (case p1 => first | k_mem | fail "p1")
  (case p3 => first | k_all | fail "p3")
  (case p4 => first | k_all | fail "p4")
  (case p5 => (show @Ne Nat _ _; omega))
  (case p7 => assumption)
  (case p8 => exact isPl_nil (by assumption))
  (case p9 => first | exact tyo_m (by k_mem) (by k_mem) | fail "p9")
  (case p10 => first | k_mem | fail "p10")
  (case p11 => exact fun x hx => (hes x hx).mono (by walk_at "MINE sub"))
  (case p13 => omega)
  (case p14 => exact Nat.le_trans (allK_len fun e he => (hes e he).len) (by omega))
  intro x9 rvs nr9 od9 Y h9 tk9 F9 N9 sub9 hE9 rows9 res9
  have sZ : ∀ p ∈ Z, p ∈ Y := fun p hp => sub9 p (.tail _ (.tail _ (.tail _ (.tail _ hp))))
  have hrlY := sZ _ hrl
  have hhlY := sZ _ hhl
  have helY := sZ _ hel
  have hchY := sZ _ hch
  have hrowsY := hrows.mono sZ
  have hheldY := hheld.mono sZ
  have hesY : ∀ e ∈ es, ElemOk Y e := fun e he => (hes e he).mono sZ
  obtain ⟨tfm, hTm⟩ := hTy.m.mono sZ
  have hr9 := hE9.rows
  clear hrl hhl hel hch hrows hheld hes sub9 hE9
  cases res9
  case bad kl val hb hn =>
    obtain ⟨⟨to1, ho1⟩, ⟨tp1, hp1⟩, ht1, hk1, hv1⟩ := hn
    repeat' (first | walk_at "MINE step")
    try dsimp only
    rw [beq_self_eq_true]
    exact hret _ _ _ (by k_asm)
  case var val hb hx hn =>
    obtain ⟨⟨to1, ho1⟩, ⟨tp1, hp1⟩, ht1, hk1, hv1⟩ := hn
    obtain ⟨xs, ys, hfun⟩ := hheldY.funs
    have hhn := hheldY.length
    rw [hb] at rows9 hrowsY
    have gLaw16Row : True := trivial
    k_with "eval ListComp" => ((fail_if_success (fail_if_success (have hz9 := gLaw16Row))); k_here; (with_reducible show wpAny _ _ (eval (Expr.ListComp (Expr.Constant _ _ _) _ _ _) _) _ _ _); k_dflt ((refine' comp_pairs (xs := xs) (ys := ys) (p := noneP es) ?hh ?hi ?F ?N (mem_sub hhlY ?hl) ?hsz ?hv ?c1 ?c2 ?c3 ?c4 ?c5 ?c6 ?c7 ?_ ?_ ?c8; (case hh => rfl); (case N => assumption); (case hl => walk_at "MINE sub"); (case F => assumption); (case hsz => omega); (case hi => (intro Q9 hQ9; refine' nameQC ?N2 ?cc2 (mem_sub hchY ?m2) hQ9 ?kk2 ?xx2 ?dd2; (case N2 => assumption); (case cc2 => exact rfl); (case m2 => walk_at "MINE sub"); (case kk2 => rfl); (case xx2 => decide); (case dd2 => decide))); (case hv => (intro i9 v9 hi9; obtain ⟨T9, n9, e9, z1, z2, -⟩ := hfun i9 v9 hi9; exact ⟨T9, n9, z1, mem_sub z2 (by walk_at "MINE sub")⟩)); (case c1 => with_unfolding_all rfl); (case c2 => decide); (case c3 => rfl); (case c4 => decide); (case c5 => rfl); (case c6 => rfl); (case c7 => decide); (case c8 => (intro _; rfl))); (intro i9 I9 oI9 C9 oC9 D9 oD9 m9 h9 tk9 E9 hlt9 hC9 ha9 hb9 F9 N9; obtain ⟨T9, n9, e9, -, -, he9, hlo9, hhi9⟩ := hfun i9 _ (List.getElem?_eq_getElem hlt9); generalize hxa : xs i9 = xa at hlo9 ha9; generalize hxb : ys i9 = xb at hhi9 hb9; generalize hl9 : lowOf e9.2 = lo at hlo9; generalize hh9 : highOf e9.2 = hi at hhi9); rotate_left; (intro D9 zs9 ms9 h9 tk9 F9 N9 hI9 hms9; have hne9 := none_some hhn hms9 hx; clear hms9); rotate_left))
    repeat' (first | ((fail_if_success (with_reducible show wpAny _ _ (eval (Expr.ListComp (Expr.Attribute _ _ _) _ _ _) _) _ _ _)); walk_at "MINE step"))
    all_goals (try first | exact noneP_lo he9 hl9.symm | exact noneP_hi he9 hh9.symm | exact noneP_no he9 hl9.symm hh9.symm | exact CStill.mk (by assumption) (by assumption))
    obtain ⟨ps, hP⟩ := elems_at hesY
    have hP2 : (erefs es).length ≤ 1000 := by rw [erefs_len]; exact Nat.le_trans hlen3 (by decide)
    clear hesY hheldY hfun hx hup hhn hlen3 hrowsY rows9
    show wpAny _ _ _ _ _ _
    repeat' (first | walk_at "MINE step")
    all_goals exact hret _ _ _ (by k_asm)
  case val kl t hb hx hn =>
    obtain ⟨⟨to1, ho1⟩, ⟨tp1, hp1⟩, ht1, hk1, hv1⟩ := hn
    obtain ⟨xs, ys, hfun⟩ := hheldY.funs
    have hhn := hheldY.length
    have hms := mask_sum (all_good hb hx)
    rw [hb] at rows9 hrowsY
    have gLaw16Row : True := trivial
    k_with "eval ListComp" => ((fail_if_success (fail_if_success (have hz9 := gLaw16Row))); k_here; first
      | k_dflt ((with_reducible show wpAny _ _ (eval (Expr.ListComp _ [Comprehension.mk (Expr.Tuple _ _ _) _ _ _] _ _) (envX _ _ _ _ _ _)) _ _ _); (refine' comp_pairs (xs := xs) (ys := ys) (p := noneP es) ?hh ?hi ?F ?N (mem_sub hhlY ?hl) ?hsz ?hv ?c1 ?c2 ?c3 ?c4 ?c5 ?c6 ?c7 ?_ ?_ ?c8; (case hh => rfl); (case N => assumption); (case hl => walk_at "MINE sub"); (case F => assumption); (case hsz => omega); (case hi => (intro Q9 hQ9; refine' nameQC ?N2 ?cc2 (mem_sub hchY ?m2) hQ9 ?kk2 ?xx2 ?dd2; (case N2 => assumption); (case cc2 => exact rfl); (case m2 => walk_at "MINE sub"); (case kk2 => rfl); (case xx2 => decide); (case dd2 => decide))); (case hv => (intro i9 v9 hi9; obtain ⟨T9, n9, e9, z1, z2, -⟩ := hfun i9 v9 hi9; exact ⟨T9, n9, z1, mem_sub z2 (by walk_at "MINE sub")⟩)); (case c1 => with_unfolding_all rfl); (case c2 => decide); (case c3 => rfl); (case c4 => decide); (case c5 => rfl); (case c6 => rfl); (case c7 => decide); (case c8 => (intro _; rfl))); (intro i9 I9 oI9 C9 oC9 D9 oD9 m9 h9 tk9 E9 hlt9 hC9 ha9 hb9 F9 N9; obtain ⟨T9, n9, e9, -, -, he9, hlo9, hhi9⟩ := hfun i9 _ (List.getElem?_eq_getElem hlt9); generalize hxa : xs i9 = xa at hlo9 ha9; generalize hxb : ys i9 = xb at hhi9 hb9; generalize hl9 : lowOf e9.2 = lo at hlo9; generalize hh9 : highOf e9.2 = hi at hhi9); rotate_left; (intro D9 zs9 ms9 h9 tk9 F9 N9 hI9 hms9; have hne9 := none_none hms9 hx; subst hne9; clear hms9); rotate_left)
      | k_dflt ((with_reducible show wpAny _ _ (eval (Expr.ListComp _ [Comprehension.mk (Expr.Name _ _) _ _ _] _ _) (envX _ _ _ _ _ _)) _ _ _); (refine' comp_cell (n := 32) (p := anyIn es) (f := fun i => (2 : Int) ^ i) ?hhB ?hnB ?FB ?NB ?_ ?hsm ?hrn ?d1 ?d2 ?_ ?_ ?_ ?d3 ?d4; (case hhB => rfl); (case hnB => decide); (case FB => assumption); (case NB => assumption); (case hsm => decide); (case hrn => rfl); (case d1 => with_unfolding_all rfl); (case d2 => rfl); (case d3 => decide); (case d4 => (intro _; rfl))); (intro Q8 hQ8); rotate_left; (intro i8 t8 I8 oI8 C8 oC8 K8 D8 oD8 h8 tk8 E8 hlt8 F8 N8); rotate_left; (intro i8 t8 I8 oI8 C8 oC8 K8 D8 oD8 h8 tk8 E8 hlt8 F8 N8); rotate_left; (intro D8 zs8 h8 tk8 F8 N8 hI8); rotate_left)
      | k_dflt ((with_reducible show wpAny _ _ (eval (Expr.ListComp _ [Comprehension.mk (Expr.Tuple _ _ _) _ _ _] _ _) (compEnvC _ _ _ _)) _ _ _); (refine' comp_pairs (xs := xs) (ys := ys) (p := inP es i8) ?hhC ?hiC ?FC ?NC (mem_sub hhlY ?hlC) ?hszC ?hvC ?e1 ?e2 ?e3 ?e4 ?e5 ?e6 ?e7 ?_ ?_ ?e8; (case hhC => rfl); (case NC => assumption); (case hlC => walk_at "MINE sub"); (case FC => assumption); (case hszC => omega); (case hiC => (intro Q9 hQ9; refine' lcf_cell ?N3 ?cc3 (mem_sub hchY ?m3) ?d3 hQ9 ?kk3 ?xx3; (case N3 => assumption); (case cc3 => exact rfl); (case m3 => walk_at "MINE sub"); (case d3 => rfl); (case kk3 => rfl); (case xx3 => rfl))); (case hvC => (intro i9 v9 hi9; obtain ⟨T9, n9, e9, z1, z2, -⟩ := hfun i9 v9 hi9; exact ⟨T9, n9, z1, mem_sub z2 (by walk_at "MINE sub")⟩)); (case e1 => with_unfolding_all rfl); (case e2 => decide); (case e3 => rfl); (case e4 => decide); (case e5 => rfl); (case e6 => rfl); (case e7 => decide); (case e8 => (intro _; rfl))); (intro i9 I9 oI9 C9 oC9 D9 oD9 m9 h9 tk9 E9 hlt9 hC9 ha9 hb9 F9 N9; obtain ⟨T9, n9, e9, -, -, he9, hlo9, hhi9⟩ := hfun i9 _ (List.getElem?_eq_getElem hlt9); obtain ⟨la, lb, hla, hlb⟩ := cm_pos (hx e9 (List.mem_of_getElem? he9)); rw [hla] at hlo9; rw [hlb] at hhi9; generalize hxa : xs i9 = xa at hlo9 ha9; generalize hxb : ys i9 = xb at hhi9 hb9; cases hlo9; cases hhi9); rotate_left; (intro D9 zs9 ms9 h9 tk9 F9 N9 hI9 hms9); rotate_left))
    repeat' (first | ((fail_if_success (with_reducible show wpAny _ _ (execs (Stmt.Assign [Expr.Name (Str.ofString "due") _] _ _ :: _) _) _ _ _)); walk_at "MINE step"))
    all_goals (try first | exact noneP_lo he9 hl9.symm | exact noneP_hi he9 hh9.symm | exact noneP_no he9 hl9.symm hh9.symm | exact CStill.mk (by assumption) (by assumption))
    try dsimp only
    show wpAny _ _ _ _ _ _
    repeat' (first | walk_at "MINE step")
    · first | exact hQ8 _ _ _ _ _ _ (by assumption) (by assumption) (by assumption) | fail "end0"
    · rw [inP_at he9 hla.symm hlb.symm]; exact in_t (by assumption)
    · first | exact CStill.mk (by assumption) (cb_drop (by assumption) (by walk_at "MINE sub")) | fail "end2"
    · rw [inP_at he9 hla.symm hlb.symm]; exact in_f (by assumption)
    · first | exact CStill.mk (by assumption) (cb_drop (by assumption) (by walk_at "MINE sub")) | fail "end4"
    · exact any_in hhn hms9
    · first | exact CStill.mk (by assumption) (cb_drop (by assumption) (by walk_at "MINE sub")) | fail "end6"
    · exact pow_el _ _
    · first | exact CStill.mk (by assumption) (cb_drop (by assumption) (by walk_at "MINE sub")) | fail "end9"
    · try dsimp only
      rw [hms, beq_self_eq_true]
      exact hret _ _ _ (by k_asm)
/-! turnlaw -/
/-- what holds between two turns of the law's own loop, apart from the visible slots -/
structure LF (pl Td el rl hl : Addr) (Zb : List (Addr × Obj)) (i : Nat) (es : List Elem) (m : Str → Option Value) (rv hv : List Value) (Y : List (Addr × Obj)) : Prop where
  y1 : ∀ p ∈ Y, p.1 ≠ pl
  y2 : ∀ p ∈ Y, p.1 ≠ Td
  y3 : ∀ p ∈ Y, p.1 ≠ el
  y4 : ∀ p ∈ Y, p.1 ≠ rl
  y5 : ∀ p ∈ Y, p.1 ≠ hl
  sub : ∀ p ∈ Zb, p ∈ Y
  rows : RowsAre Y rv (rowsOf (allK es))
  held : HeldAre Y hv es
  ok : ∀ e ∈ es, ElemOk Y e
  ups : Ups (allK es)
  lo : ∀ k ∈ allK es, k.pl < 30 + 10 * (i : Int)
  len : es.length = i
  n1 : m (Str.ofString "elements") = some (.ref el)
  n2 : m (Str.ofString "rows") = some (.ref rl)
def LJ (P : Params) (pl Td fl el rl hl : Addr) (k : TyK) (figs : List Int) (n0 : Nat) (Zb : List (Addr × Obj)) (i : Nat) (m : Str → Option Value) (nx : List (Addr × Obj)) : Prop :=
  ∃ (i' mx c : Int) (ti tm tc : Tok) (es : List Elem) (rv hv : List Value) (ne nr nh : Nat) (Y : List (Addr × Obj)),
    nx = (pl, PoolO fl i' ti mx tm n0) :: (Td, TyO P k c tc) :: (el, listOf (erefs es).toArray ne) :: (rl, listOf rv.toArray nr) :: (hl, listOf hv.toArray nh) :: Y ∧
    0 ≤ i' ∧ i' ≤ figs.length ∧ 0 ≤ mx ∧ mx < 1009 ∧ 0 ≤ c ∧ c ≤ 800 + 2 * (i : Int) ∧ LF pl Td el rl hl Zb i es m rv hv Y
theorem small4 {r : Int} (h0 : 0 ≤ r) (h1 : r < 4) : Builtin.Range.small 0 r 1 = true := by
  have h : r = 0 ∨ r = 1 ∨ r = 2 ∨ r = 3 := by omega
  rcases h with e | e | e | e <;> subst e <;> decide
theorem size4 {r : Int} (h0 : 0 ≤ r) (h1 : r < 4) : Builtin.Range.rangeSize 0 r 1 = ((r.toNat : Nat) : Int) := by
  have h : r = 0 ∨ r = 1 ∨ r = 2 ∨ r = 3 := by omega
  rcases h with e | e | e | e <;> subst e <;> decide
theorem add01 {prog : Program} {w : World} {A : Around} {E : Value → Shared → Prop} {s : Shared} {Q : Value → Shared → Prop} {t u : Tok} {r : Int} (h0 : 0 ≤ r) (h1 : r < 2) (k0 : r = 0 → Q (.int 1 s.toks) { s with toks := s.toks + 1 }) (k1 : r = 1 → Q (.int 2 s.toks) { s with toks := s.toks + 1 }) :
    wpAny (model prog w) A (binaryOp .Add (.int 1 t) (.int r u)) Q E s := by
  have h : r = 0 ∨ r = 1 := by omega
  rcases h with e | e <;> subst e
  · exact PyProof.Rows.add_int (k0 rfl)
  · exact PyProof.Rows.add_int (k1 rfl)
theorem abv_off {new Y : List (Addr × Obj)} {pl Td x : Nat} {Z : List (Addr × Obj)} {o : Obj} (h : Abv new pl Td Z) (hx : (x, o) ∈ Z) (hY : ∀ p ∈ Y, p.1 ≠ x) : ∀ p ∈ new ++ Y, p.1 ≠ x := fun p hp => (List.mem_append.mp hp).elim (fun hp => Nat.ne_of_gt ((h p hp).2.2 _ hx)) (hY p)
theorem abv_offp {new Y : List (Addr × Obj)} {pl Td : Nat} {Z : List (Addr × Obj)} (h : Abv new pl Td Z) (hY : ∀ p ∈ Y, p.1 ≠ pl) : ∀ p ∈ new ++ Y, p.1 ≠ pl := fun p hp => (List.mem_append.mp hp).elim (fun hp => Nat.ne_of_gt (h p hp).1) (hY p)
theorem abv_offt {new Y : List (Addr × Obj)} {pl Td : Nat} {Z : List (Addr × Obj)} (h : Abv new pl Td Z) (hY : ∀ p ∈ Y, p.1 ≠ Td) : ∀ p ∈ new ++ Y, p.1 ≠ Td := fun p hp => (List.mem_append.mp hp).elim (fun hp => Nat.ne_of_gt (h p hp).2.1) (hY p)
theorem sub_appr {α : Type} {a b l : List α} (h : ∀ p ∈ l, p ∈ b) : ∀ p ∈ l, p ∈ a ++ b := fun p hp => List.mem_append.mpr (.inr (h p hp))
section
variable {α : Type} {i1 i2 i3 i4 i5 p1 p2 e1 e2 e3 : α} {new Y : List α}
/-- the ledger of a side's call within the block: all but the pool and the types -/
theorem sub_side : ∀ p ∈ i1 :: i2 :: i3 :: i4 :: i5 :: e1 :: e2 :: e3 :: Y, p ∈ i1 :: i2 :: i3 :: i4 :: i5 :: p1 :: p2 :: e1 :: e2 :: e3 :: Y := (pC (.head _) (pC (.tail _ (.head _)) (pC (.tail _ (.tail _ (.head _))) (pC (.tail _ (.tail _ (.tail _ (.head _)))) (pC (.tail _ (.tail _ (.tail _ (.tail _ (.head _))))) (pC (.tail _ (.tail _ (.tail _ (.tail _ (.tail _ (.tail _ (.tail _ (.head _)))))))) (pC (.tail _ (.tail _ (.tail _ (.tail _ (.tail _ (.tail _ (.tail _ (.tail _ (.head _))))))))) (pC (.tail _ (.tail _ (.tail _ (.tail _ (.tail _ (.tail _ (.tail _ (.tail _ (.tail _ (.head _)))))))))) (fun _ hp => (.tail _ (.tail _ (.tail _ (.tail _ (.tail _ (.tail _ (.tail _ (.tail _ (.tail _ (.tail _ hp)))))))))))))))))))
/-- and back into its own order -/
theorem sub_back : ∀ p ∈ i1 :: i2 :: i3 :: i4 :: i5 :: p1 :: p2 :: e1 :: e2 :: e3 :: (new ++ Y), p ∈ p1 :: p2 :: (new ++ i1 :: i2 :: i3 :: i4 :: i5 :: e1 :: e2 :: e3 :: Y) := (pC (.tail _ (.tail _ (List.mem_append_right _ (.head _)))) (pC (.tail _ (.tail _ (List.mem_append_right _ (.tail _ (.head _))))) (pC (.tail _ (.tail _ (List.mem_append_right _ (.tail _ (.tail _ (.head _)))))) (pC (.tail _ (.tail _ (List.mem_append_right _ (.tail _ (.tail _ (.tail _ (.head _))))))) (pC (.tail _ (.tail _ (List.mem_append_right _ (.tail _ (.tail _ (.tail _ (.tail _ (.head _)))))))) (pC (.head _) (pC (.tail _ (.head _)) (pC (.tail _ (.tail _ (List.mem_append_right _ (.tail _ (.tail _ (.tail _ (.tail _ (.tail _ (.head _))))))))) (pC (.tail _ (.tail _ (List.mem_append_right _ (.tail _ (.tail _ (.tail _ (.tail _ (.tail _ (.tail _ (.head _)))))))))) (pC (.tail _ (.tail _ (List.mem_append_right _ (.tail _ (.tail _ (.tail _ (.tail _ (.tail _ (.tail _ (.tail _ (.head _))))))))))) (pA (fun _ hp => (.tail _ (.tail _ (List.mem_append_left _ hp)))) (fun _ hp => (.tail _ (.tail _ (List.mem_append_right _ (.tail _ (.tail _ (.tail _ (.tail _ (.tail _ (.tail _ (.tail _ (.tail _ hp)))))))))))))))))))))))
end
theorem offc {I a : Nat} {o : Obj} {l : List (Addr × Obj)} (h : ∀ p ∈ (a, o) :: l, p.1 ≠ I) : @Ne Nat a I ∧ ∀ p ∈ l, p.1 ≠ I := ⟨h (a, o) (.head _), fun p hp => h p (.tail _ hp)⟩
theorem perm12 {α : Type} {c4 p1 p2 el rl hl c3 : α} {Z : List α} : ∀ p ∈ c4 :: p1 :: p2 :: el :: rl :: hl :: c3 :: Z, p ∈ hl :: rl :: el :: p1 :: p2 :: c3 :: c4 :: Z := (pC (.tail _ (.tail _ (.tail _ (.tail _ (.tail _ (.tail _ (.head _))))))) (pC (.tail _ (.tail _ (.tail _ (.head _)))) (pC (.tail _ (.tail _ (.tail _ (.tail _ (.head _))))) (pC (.tail _ (.tail _ (.head _))) (pC (.tail _ (.head _)) (pC (.head _) (pC (.tail _ (.tail _ (.tail _ (.tail _ (.tail _ (.head _)))))) (fun _ hp => (.tail _ (.tail _ (.tail _ (.tail _ (.tail _ (.tail _ (.tail _ hp)))))))))))))))
/-- pairwise apart: the seven slots of the law's own loop -/
structure Apart7 (pl Td el rl hl c4 : Nat) : Prop where
  (d1 : pl ≠ Td) (d2 : pl ≠ el) (d3 : pl ≠ rl) (d4 : pl ≠ hl) (d5 : Td ≠ el) (d6 : Td ≠ rl) (d7 : Td ≠ hl) (d8 : el ≠ rl) (d9 : el ≠ hl) (d10 : rl ≠ hl)
  (c1 : c4 ≠ pl) (c2 : c4 ≠ Td) (c3 : c4 ≠ el) (c5 : c4 ≠ rl) (c6 : c4 ≠ hl)
theorem loop12 {prog : Program} {w : World} {A : Around} {E : Value → Shared → Prop} {s : Shared} {env : Env} {h₀ : Heap} {x : Str} {px : Pos} {body : List Stmt} {Q : Flow → Shared → Prop} {m₀ : Str → Option Value} {c4 pl Td el rl hl fl : Nat} {P : Params} {k : TyK} {figs : List Int} {n0 a1 a2 a3 : Nat} {i0 mx0 c0 : Int} {ti0 tm0 tc0 : Tok} {r : Addr} {rr : Int} {t₀ u₀ w₀ : Tok} {Zb : List (Addr × Obj)} {v₀ : Option Value} {q4 : Obj}
    (N : News h₀ env.locals s.heap ((c4, cellQ q4 v₀) :: (pl, PoolO fl i0 ti0 mx0 tm0 n0) :: (Td, TyO P k c0 tc0) :: (el, listOf (List.nil (α := Value)).toArray a1) :: (rl, listOf (List.nil (α := Value)).toArray a2) :: (hl, listOf (List.nil (α := Value)).toArray a3) :: Zb))
    (hk : env.scope.kind = .function) (hx : env.kindOf x = some .cell) (hc : env.cells.lookup x = some c4) (hE : PassesOwn (model prog w) A env E) (hh : A.handled = none) (hr : IsRange s.heap r 0 rr 1 t₀ u₀ w₀) (h0 : 0 ≤ rr) (h4 : rr < 4) (F : Fr h₀ env.locals s.heap m₀)
    (D : Apart7 pl Td el rl hl c4) (hz4 : ∀ p ∈ Zb, p.1 ≠ c4) (b0 : 0 ≤ i0) (b1 : i0 ≤ figs.length) (b2 : 0 ≤ mx0) (b3 : mx0 < 1009) (b4 : 0 ≤ c0) (b5 : c0 ≤ 800) (hLF : LF pl Td el rl hl Zb 0 [] m₀ [] [] Zb)
    (turn : ∀ (i : Nat) t m₁ h tk (I : Nat) oI (i' mx c : Int) (ti tm tc : Tok) (es : List Elem) (rv hv : List Value) (ne nr nh : Nat) (Y : List (Addr × Obj)), Apart7 pl Td el rl hl c4 → i < 4 → 0 ≤ i' → i' ≤ figs.length → 0 ≤ mx → mx < 1009 → 0 ≤ c → c ≤ 800 + 2 * (i : Int) → LF pl Td el rl hl Zb i es m₁ rv hv Y →
      @Ne Nat pl I → @Ne Nat Td I → @Ne Nat el I → @Ne Nat rl I → @Ne Nat hl I → @Ne Nat c4 I → (∀ p ∈ Y, p.1 ≠ I) → (∀ p ∈ Y, p.1 ≠ c4) →
      Fr h₀ env.locals h m₁ → News h₀ env.locals h ((I, oI) :: (c4, cellQ q4 (some (.int (0 + (i : Int)) t))) :: (pl, PoolO fl i' ti mx tm n0) :: (Td, TyO P k c tc) :: (el, listOf (erefs es).toArray ne) :: (rl, listOf rv.toArray nr) :: (hl, listOf hv.toArray nh) :: Y) →
      wpAny (model prog w) A (execs body env) (MyPostC h₀ env.locals (LJ P pl Td fl el rl hl k figs n0 Zb (i + 1)) I oI c4 q4 { s with heap := h, toks := tk } Q) E { s with heap := h, toks := tk })
    (done : ∀ m₁ h tk (i' mx c : Int) (ti tm tc : Tok) (es : List Elem) (rv hv : List Value) (ne nr nh n : Nat) (Y : List (Addr × Obj)), n < 4 → 0 ≤ i' → i' ≤ figs.length → 0 ≤ mx → mx < 1009 → 0 ≤ c → c ≤ 806 → LF pl Td el rl hl Zb n es m₁ rv hv Y →
      Fr h₀ env.locals h m₁ → News h₀ env.locals h ((pl, PoolO fl i' ti mx tm n0) :: (Td, TyO P k c tc) :: (el, listOf (erefs es).toArray ne) :: (rl, listOf rv.toArray nr) :: (hl, listOf hv.toArray nh) :: Y) → Q .next { s with heap := h, toks := tk }) :
    wpAny (model prog w) A (pyIter (.ref r)) (fun it s₂ => LoopC prog w A env x px body Q E it s₂) E s := by
  refine my_rangeC (n := rr.toNat) (LJ P pl Td fl el rl hl k figs n0 Zb) hk hx hc hE hh hr (small4 h0 h4) (size4 h0 h4) F N ?_ ?_ ?_ ?_
  · simp only [List.forall_mem_cons]
    exact ⟨Ne.symm D.c1, Ne.symm D.c2, Ne.symm D.c3, Ne.symm D.c5, Ne.symm D.c6, hz4⟩
  · exact ⟨i0, mx0, c0, ti0, tm0, tc0, [], [], [], a1, a2, a3, Zb, rfl, b0, b1, b2, b3, b4, by omega, hLF⟩
  · rintro i t m₁ nx h tk I oI hin ⟨i', mx, c, ti, tm, tc, es, rv, hv, ne, nr, nh, Y, e, q1, q2, q3, q4, q5, q6, hF⟩ hoI hcI hoc F₁ N₁
    subst e
    simp only [List.forall_mem_cons] at hoI hoc
    obtain ⟨o1, o2, o3, o4, o5, o6⟩ := hoI
    obtain ⟨u1, u2, u3, u4, u5, u6⟩ := hoc
    exact turn i t m₁ h tk I oI i' mx c ti tm tc es rv hv ne nr nh Y D (by omega) q1 q2 q3 q4 q5 q6 hF o1 o2 o3 o4 o5 hcI o6 u6 F₁ N₁
  · rintro m₁ nx v h tk ⟨i', mx, c, ti, tm, tc, es, rv, hv, ne, nr, nh, Y, e, q1, q2, q3, q4, q5, q6, hF⟩ hoc F₁ N₁
    subst e
    exact done m₁ h tk i' mx c ti tm tc es rv hv ne nr nh _ Y (by omega) q1 q2 q3 q4 q5 (by omega) hF F₁ fun p hp => N₁ p (.tail _ hp)
theorem lf_zero {pl Td el rl hl : Addr} {Zb : List (Addr × Obj)} {m : Str → Option Value} (y1 : ∀ p ∈ Zb, p.1 ≠ pl) (y2 : ∀ p ∈ Zb, p.1 ≠ Td) (y3 : ∀ p ∈ Zb, p.1 ≠ el) (y4 : ∀ p ∈ Zb, p.1 ≠ rl) (y5 : ∀ p ∈ Zb, p.1 ≠ hl) (n1 : m (Str.ofString "elements") = some (.ref el)) (n2 : m (Str.ofString "rows") = some (.ref rl)) : LF pl Td el rl hl Zb 0 [] m [] [] Zb :=
  ⟨y1, y2, y3, y4, y5, fun _ h => h, .nil, .nil, (fun _ h => nomatch h), List.Pairwise.nil, (fun _ h => nomatch h), rfl, n1, n2⟩
theorem sub_tl3b {α : Type} {a b c : α} {Y : List α} : ∀ p ∈ Y, p ∈ a :: b :: c :: Y := fun _ hp => .tail _ (.tail _ (.tail _ hp))
theorem compEnd_side {h₀ : Heap} {L : Addr} {m : Str → Option Value} {s₁ : Shared} {pl Td I C D : Nat} {o1 o2 q1 q2 oI oC oD : Obj} {i4 i5 e1 e2 e3 : Addr × Obj} {new Y : List (Addr × Obj)} {S : List (Addr × Obj) → Prop} {rest : Value → List (Addr × Obj) → Prop} {y : Value} {h' : Heap} {tk : Nat}
    (F : Fr h₀ L h' m) (N : News h₀ L h' ((pl, o1) :: (Td, o2) :: (new ++ (I, oI) :: (C, oC) :: (D, oD) :: i4 :: i5 :: e1 :: e2 :: e3 :: Y))) (abv : Abv new pl Td ((I, oI) :: (C, oC) :: (D, oD) :: i4 :: i5 :: e1 :: e2 :: e3 :: Y))
    (off : LCg.Off3 I C D (i4 :: i5 :: (pl, q1) :: (Td, q2) :: e1 :: e2 :: e3 :: Y)) (hS : S (i4 :: i5 :: (pl, o1) :: (Td, o2) :: e1 :: e2 :: e3 :: (new ++ Y))) (r : rest y (i4 :: i5 :: (pl, o1) :: (Td, o2) :: e1 :: e2 :: e3 :: (new ++ Y))) :
    LCg.CompEnd h₀ L m s₁ I oI C oC D oD S rest y { s₁ with heap := h', toks := tk } := by
  refine LCg.CompEnd.intro F N _ sub_back (LCg.Off3.of ?_) hS r
  have ho := off.mem
  simp only [List.forall_mem_cons] at ho ⊢
  obtain ⟨a1, a2, a3, a4, a5, a6, a7, a8⟩ := ho
  refine ⟨a1, a2, a3, a4, a5, a6, a7, fun p hp => ?_⟩
  rcases List.mem_append.mp hp with hp | hp
  · have h1 := (abv p hp).2.2
    exact ⟨Nat.ne_of_gt (h1 _ (.head _)), Nat.ne_of_gt (h1 _ (.tail _ (.head _))), Nat.ne_of_gt (h1 _ (.tail _ (.tail _ (.head _))))⟩
  · exact a8 p hp
theorem side_offp {I C D pl Td : Nat} {oI oC oD q1 q2 : Obj} {i4 i5 e1 e2 e3 : Addr × Obj} {Y : List (Addr × Obj)} (off : LCg.Off3 I C D (i4 :: i5 :: (pl, q1) :: (Td, q2) :: e1 :: e2 :: e3 :: Y)) (h : ∀ p ∈ i4 :: i5 :: e1 :: e2 :: e3 :: Y, p.1 ≠ pl) : ∀ p ∈ (I, oI) :: (C, oC) :: (D, oD) :: i4 :: i5 :: e1 :: e2 :: e3 :: Y, p.1 ≠ pl := by
  have a := off.mem (pl, q1) (.tail _ (.tail _ (.head _)))
  exact List.forall_mem_cons.mpr ⟨Ne.symm a.1, List.forall_mem_cons.mpr ⟨Ne.symm a.2.1, List.forall_mem_cons.mpr ⟨Ne.symm a.2.2, h⟩⟩⟩
theorem side_offt {I C D pl Td : Nat} {oI oC oD q1 q2 : Obj} {i4 i5 e1 e2 e3 : Addr × Obj} {Y : List (Addr × Obj)} (off : LCg.Off3 I C D (i4 :: i5 :: (pl, q1) :: (Td, q2) :: e1 :: e2 :: e3 :: Y)) (h : ∀ p ∈ i4 :: i5 :: e1 :: e2 :: e3 :: Y, p.1 ≠ Td) : ∀ p ∈ (I, oI) :: (C, oC) :: (D, oD) :: i4 :: i5 :: e1 :: e2 :: e3 :: Y, p.1 ≠ Td := by
  have a := off.mem (Td, q2) (.tail _ (.tail _ (.tail _ (.head _))))
  exact List.forall_mem_cons.mpr ⟨Ne.symm a.1, List.forall_mem_cons.mpr ⟨Ne.symm a.2.1, List.forall_mem_cons.mpr ⟨Ne.symm a.2.2, h⟩⟩⟩
theorem abv5 {new Z : List (Addr × Obj)} {pl Td x : Nat} {i4 i5 e1 e2 e3 : Addr × Obj} {Y : List (Addr × Obj)} (ha : Abv new pl Td Z) (hx : x = pl ∨ x = Td) (h : ∀ p ∈ i4 :: i5 :: e1 :: e2 :: e3 :: Y, p.1 ≠ x) : ∀ p ∈ i4 :: i5 :: e1 :: e2 :: e3 :: (new ++ Y), p.1 ≠ x := by
  simp only [List.forall_mem_cons] at h ⊢
  obtain ⟨a1, a2, a3, a4, a5, a6⟩ := h
  refine ⟨a1, a2, a3, a4, a5, fun p hp => ?_⟩
  rcases List.mem_append.mp hp with hp | hp
  · rcases hx with e | e <;> subst e
    · exact Nat.ne_of_gt (ha p hp).1
    · exact Nat.ne_of_gt (ha p hp).2.1
  · exact a6 p hp
theorem all5 {h₀ h : Heap} {L I c4 pl Td el rl hl : Nat} {oI oc op ot oe orr oh : Obj} {Y : List (Addr × Obj)} (_N : News h₀ L h ((I, oI) :: (c4, oc) :: (pl, op) :: (Td, ot) :: (el, oe) :: (rl, orr) :: (hl, oh) :: Y)) (D : Apart7 pl Td el rl hl c4) (o1 : @Ne Nat pl I) (o2 : @Ne Nat Td I) (y1 : ∀ p ∈ Y, p.1 ≠ pl) (y2 : ∀ p ∈ Y, p.1 ≠ Td) :
    (∀ p ∈ (I, oI) :: (c4, oc) :: (el, oe) :: (rl, orr) :: (hl, oh) :: Y, p.1 ≠ pl) ∧ (∀ p ∈ (I, oI) :: (c4, oc) :: (el, oe) :: (rl, orr) :: (hl, oh) :: Y, p.1 ≠ Td) := by
  simp only [List.forall_mem_cons]
  exact ⟨⟨Ne.symm o1, D.c1, Ne.symm D.d2, Ne.symm D.d3, Ne.symm D.d4, y1⟩, ⟨Ne.symm o2, D.c2, Ne.symm D.d5, Ne.symm D.d6, Ne.symm D.d7, y2⟩⟩
def forBody : Stmt → List Stmt
  | .For _ _ body _ _ => body
  | _ => []
/-- the law's loop's body from its statement j on -/
abbrev TurnAtE (w : World) (dp un : Nat) (gd : Option (List Code)) (L a : Addr) (ccd : Value) (outer : List Env) (j : Nat) (Qp : Flow → Shared → Prop) (E : Value → Shared → Prop) (s : Shared) (b : List Stmt) (q : Str) (sc : Scope) : Prop :=
  PassesOwn (model PySem.Challenge.rw_nu0332_01.row.prog w) (ktrTop dp un gd q sc L a ccd (cellsFrom (L + 1) sc.names []) outer) (envX q sc L a ccd (cellsFrom (L + 1) sc.names [])) E →
  wpAny (model PySem.Challenge.rw_nu0332_01.row.prog w) (ktrTop dp un gd q sc L a ccd (cellsFrom (L + 1) sc.names []) outer) (execs ((match b.drop 15 with | st :: _ => forBody st | [] => []).drop j) (envX q sc L a ccd (cellsFrom (L + 1) sc.names []))) Qp E s
/-- the slots that the turn's end stores into stand apart from what lies before them -/
structure ApartT (D I c4 pl Td el rl hl : Nat) : Prop where
  (a1 : D ≠ el) (a2 : D ≠ rl) (a3 : D ≠ hl) (b1 : I ≠ el) (b2 : I ≠ rl) (b3 : I ≠ hl) (c1 : c4 ≠ el) (c2 : c4 ≠ rl) (c3 : c4 ≠ hl)
  (d1 : pl ≠ el) (d2 : pl ≠ rl) (d3 : pl ≠ hl) (e1 : Td ≠ el) (e2 : Td ≠ rl) (e3 : Td ≠ hl) (f1 : el ≠ rl) (f2 : el ≠ hl) (f3 : rl ≠ hl)
/-! turnlaw2 -/
theorem perm9 {α : Type} {a1 a2 a3 a4 a5 a6 a7 a8 a9 r h : α} {Y : List α} : ∀ p ∈ r :: ([] ++ a1 :: a2 :: a3 :: a4 :: a5 :: a6 :: a7 :: a8 :: a9 :: h :: Y), p ∈ a1 :: a2 :: a3 :: a4 :: a5 :: a6 :: a7 :: a8 :: a9 :: r :: h :: Y := (pC (.tail _ (.tail _ (.tail _ (.tail _ (.tail _ (.tail _ (.tail _ (.tail _ (.tail _ (.head _)))))))))) (pA pN (pC (.head _) (pC (.tail _ (.head _)) (pC (.tail _ (.tail _ (.head _))) (pC (.tail _ (.tail _ (.tail _ (.head _)))) (pC (.tail _ (.tail _ (.tail _ (.tail _ (.head _))))) (pC (.tail _ (.tail _ (.tail _ (.tail _ (.tail _ (.head _)))))) (pC (.tail _ (.tail _ (.tail _ (.tail _ (.tail _ (.tail _ (.head _))))))) (pC (.tail _ (.tail _ (.tail _ (.tail _ (.tail _ (.tail _ (.tail _ (.head _)))))))) (pC (.tail _ (.tail _ (.tail _ (.tail _ (.tail _ (.tail _ (.tail _ (.tail _ (.head _))))))))) (pC (.tail _ (.tail _ (.tail _ (.tail _ (.tail _ (.tail _ (.tail _ (.tail _ (.tail _ (.tail _ (.head _))))))))))) (fun _ hp => (.tail _ (.tail _ (.tail _ (.tail _ (.tail _ (.tail _ (.tail _ (.tail _ (.tail _ (.tail _ (.tail _ hp))))))))))))))))))))))))
/-- between two sides of a turn: the rows' list and its new tuples -/
def SJ (R Y : List (Addr × Obj)) (rl el D : Addr) (ds : List (Int × Str)) (ks : List Kid) (j : Nat) (m : Str → Option Value) (nx : List (Addr × Obj)) : Prop :=
  ∃ (rv : List Value) (nr : Nat) (new : List (Addr × Obj)), nx = (rl, listOf rv.toArray nr) :: (new ++ R) ∧ RowsAre (new ++ Y) rv (ds ++ rowsOf (ks.take j)) ∧ (∀ p ∈ new ++ R, p.1 ≠ rl) ∧ (∀ p ∈ new, ∀ q ∈ R, @LT.lt Nat _ q.1 p.1) ∧ m (Str.ofString "elements") = some (.ref el) ∧ m (Str.ofString "rows") = some (.ref rl) ∧ m (Str.ofString "sides") = some (.ref D) ∧ rv.length ≤ 100 + j
theorem SJ.src {R Y : List (Addr × Obj)} {rl el D : Addr} {ds : List (Int × Str)} {ks : List Kid} {q : Addr × Obj} (h : q ∈ R) (j : Nat) (m : Str → Option Value) (nx : List (Addr × Obj)) (i : SJ R Y rl el D ds ks j m nx) : q ∈ nx := by
  obtain ⟨_, _, _, e, _⟩ := i
  rw [e]
  exact .tail _ (List.mem_append.mpr (.inr h))
theorem all_1 {a : Value} {T : Nat → Value → Prop} (h : T 0 a) : ∀ i v, [a][i]? = some v → T i v := fun i v hi => by
  obtain ⟨e, f⟩ := item1 hi
  subst e f
  exact h
theorem all_2 {a b : Value} {T : Nat → Value → Prop} (h : T 0 a) (h2 : T 1 b) : ∀ i v, [a, b][i]? = some v → T i v := fun i v hi => by
  rcases item2 hi with ⟨e, f⟩ | ⟨e, f⟩ <;> subst e f
  · exact h
  · exact h2
/-- the loop over a turn's sides, its word opened -/
theorem sides_loop {prog : Program} {w : World} {A : Around} {E : Value → Shared → Prop} {env : Env} {h₀ hp : Heap} {x : Str} {body : List Stmt} {Q : Flow → Shared → Prop} {m₀ : Str → Option Value} {news : List (Addr × Obj)} {g : Array GenState} {d : Drawn} {t : Nat} {o : OsState}
    {R Y : List (Addr × Obj)} {rl el D : Nat} {ds : List (Int × Str)} {ks : List Kid} {vs : List Value} {nl : Nat} (hD : (D, listOf vs.toArray nl) ∈ R) (hh : A.handled = none) (F : Fr h₀ env.locals hp m₀) (N : News h₀ env.locals hp news) (hj : SJ R Y rl el D ds ks 0 m₀ news)
    (turn : ∀ (j : Nat) v, vs[j]? = some v → ∀ (m₁ : Str → Option Value) (h : Heap) (tk : Nat) (I : Addr) (oI : Obj) (rv : List Value) (nr : Nat) (new : List (Addr × Obj)), RowsAre (new ++ Y) rv (ds ++ rowsOf (ks.take j)) → (∀ p ∈ new ++ R, p.1 ≠ rl) → (∀ p ∈ new, ∀ q ∈ R, @LT.lt Nat _ q.1 p.1) → m₁ (Str.ofString "elements") = some (.ref el) → m₁ (Str.ofString "rows") = some (.ref rl) → m₁ (Str.ofString "sides") = some (.ref D) → rv.length ≤ 100 + j →
      (∀ p ∈ (rl, listOf rv.toArray nr) :: (new ++ R), p.1 ≠ I) → Fr h₀ env.locals h (fun y => if y = x then some v else m₁ y) → News h₀ env.locals h ((I, oI) :: (rl, listOf rv.toArray nr) :: (new ++ R)) →
      wpAny (model prog w) A (execs body env) (MyPost h₀ env.locals (SJ R Y rl el D ds ks (j + 1)) I oI ⟨h, g, d, tk, o⟩ Q) E ⟨h, g, d, tk, o⟩)
    (done : ∀ (m₁ : Str → Option Value) (h : Heap) (tk : Nat) (rv : List Value) (nr : Nat) (new : List (Addr × Obj)), RowsAre (new ++ Y) rv (ds ++ rowsOf (ks.take vs.length)) → (∀ p ∈ new ++ R, p.1 ≠ rl) → (∀ p ∈ new, ∀ q ∈ R, @LT.lt Nat _ q.1 p.1) → m₁ (Str.ofString "elements") = some (.ref el) → m₁ (Str.ofString "rows") = some (.ref rl) → m₁ (Str.ofString "sides") = some (.ref D) →
      Fr h₀ env.locals h m₁ → News h₀ env.locals h ((rl, listOf rv.toArray nr) :: (new ++ R)) → Q .next ⟨h, g, d, tk, o⟩) :
    wpAny (model prog w) A (pyIter (.ref D)) (fun it s₂ => LoopAtV prog w A h₀ env x body Q E it s₂) E ⟨hp, g, d, t, o⟩ := by
  refine my_list (s := ⟨hp, g, d, t, o⟩) (SJ R Y rl el D ds ks) (SJ.src hD) hh F N hj ?_ ?_
  · intro i v m₁ nx h tk I oI hin hJ hoff F' N'
    obtain ⟨rv, nr, new, e, h1, h2, h3, h4, h5, h6, h7⟩ := hJ
    subst e
    exact turn i v hin m₁ h tk I oI rv nr new h1 h2 h3 h4 h5 h6 h7 hoff F' N'
  · intro m₁ nx h tk hJ F' N'
    obtain ⟨rv, nr, new, e, h1, h2, h3, h4, h5, h6, _⟩ := hJ
    subst e
    exact done m₁ h tk rv nr new h1 h2 h3 h4 h5 h6 F' N'
theorem kc_notint {kd f : Str} {v : Option Int} (h : KindF kd f) (h1 : (kd != Str.ofString "int") = true) : kidCode f v = Str.ofString "not_an_integer" := ek_no (by rw [← h.i]; simpa using h1)
theorem kc_low {kd f : Str} {a : Int} (h : KindF kd f) (h1 : (kd != Str.ofString "int") = false) (h2 : ¬ 0 ≤ a) : kidCode f (some a) = Str.ofString "bad_element" := ek_lo (by rw [← h.i]; simpa using h1) (by omega)
theorem kc_high {kd f : Str} {a : Int} (h : KindF kd f) (h1 : (kd != Str.ofString "int") = false) (h2 : 0 ≤ a) (h3 : ¬ a < 32) : kidCode f (some a) = Str.ofString "bad_element" := ek_hi (by rw [← h.i]; simpa using h1) (by omega) (by omega)
theorem kc_ok {kd f : Str} {a : Int} (h : KindF kd f) (h1 : (kd != Str.ofString "int") = false) (h2 : 0 ≤ a) (h3 : a < 32) : kidCode f (some a) = Str.ofString "" := ek_ok (by rw [← h.i]; simpa using h1) (by omega) (by omega)
theorem kc_none {kd f : Str} (h : KindF kd f) (h1 : (kd != Str.ofString "int") = false) : kidCode f none = Str.ofString "" := ek_var (by rw [← h.i]; simpa using h1) rfl
section
variable {R Y : List (Addr × Obj)} {rl el D : Nat} {ds : List (Int × Str)} {ks : List Kid} {j : Nat} {m' : Str → Option Value} {g h' : Heap} {L I : Nat} {oI : Obj} {s1 : Shared} {tk' : Nat} {rv : List Value} {nr : Nat} {new : List (Addr × Obj)} {k : Kid}
theorem sj_ok (hk : ks[j]? = some k) (hc : kidCode k.f k.v = Str.ofString "") (hr : RowsAre (new ++ Y) rv (ds ++ rowsOf (ks.take j))) (ho : ∀ p ∈ new ++ R, p.1 ≠ rl) (hD : ∀ p ∈ new, ∀ q ∈ R, @LT.lt Nat _ q.1 p.1) (hl : rv.length ≤ 100 + j) (hoI : ∀ p ∈ (rl, listOf rv.toArray nr) :: (new ++ R), p.1 ≠ I)
    (F : Fr g L h' m') (N : News g L h' ((I, oI) :: (rl, listOf rv.toArray nr) :: (new ++ R))) (e1 : m' (Str.ofString "elements") = some (.ref el)) (e2 : m' (Str.ofString "rows") = some (.ref rl)) (e3 : m' (Str.ofString "sides") = some (.ref D)) : MyEnd g L (SJ R Y rl el D ds ks (j + 1)) I oI s1 { s1 with heap := h', toks := tk' } := by
  refine MyEnd.intro F N hoI ⟨rv, nr, new, rfl, ?_, ho, hD, e1, e2, e3, by omega⟩
  have e : rowOf k = [] := rowOf_ok (by show (kidCode k.f k.v == _) = true; rw [hc]; decide)
  rw [take_next hk, rowsOf_app, rowsOf_one, e, List.append_nil]
  exact hr
theorem sj_bad {r n : Nat} {code : Str} {tp tc : Tok} (hk : ks[j]? = some k) (hc : kidCode k.f k.v = code) (hne : (code == Str.ofString "") = false) (hok : PyData.strOk code = true) (hr : RowsAre (new ++ Y) rv (ds ++ rowsOf (ks.take j))) (ho : ∀ p ∈ new ++ R, p.1 ≠ rl) (hD : ∀ p ∈ new, ∀ q ∈ R, @LT.lt Nat _ q.1 p.1) (hl : rv.length ≤ 100 + j) (hoI : ∀ p ∈ (rl, listOf rv.toArray nr) :: (new ++ R), p.1 ≠ I)
    (l1 : @LT.lt Nat _ I r ∧ @LT.lt Nat _ rl r ∧ AllLt r (new ++ R))
    (F : Fr g L h' m') (N : News g L h' ((r, tupOf #[.int k.pl tp, .str code tc] n) :: (I, oI) :: (rl, listOf (rv.toArray.push (Value.ref r)) (nr + 1)) :: (new ++ R))) (e1 : m' (Str.ofString "elements") = some (.ref el)) (e2 : m' (Str.ofString "rows") = some (.ref rl)) (e3 : m' (Str.ofString "sides") = some (.ref D)) : MyEnd g L (SJ R Y rl el D ds ks (j + 1)) I oI s1 { s1 with heap := h', toks := tk' } := by
  rw [List.push_toArray] at N
  obtain ⟨lI, lr, lA⟩ := l1
  have lD : ∀ q ∈ R, @LT.lt Nat _ q.1 r := fun q h => kst_ltOf lA _ (List.mem_append.mpr (.inr h))
  have e : rowOf k = [(k.pl, code)] := by rw [rowOf_bad (by show (kidCode k.f k.v == _) = false; rw [hc]; exact hne)]; show [(k.pl, kidCode k.f k.v)] = _; rw [hc]
  refine MyEnd.intro (nx := (rl, listOf (rv ++ [Value.ref r]).toArray (nr + 1)) :: (((r, tupOf #[.int k.pl tp, .str code tc] n) :: new) ++ R)) F (fun p hp => N p ?_) ?_ ⟨rv ++ [Value.ref r], nr + 1, (r, tupOf #[.int k.pl tp, .str code tc] n) :: new, rfl, ?_, ?_, ?_, e1, e2, e3, by rw [List.length_append, List.length_singleton]; omega⟩
  · simp only [List.cons_append, List.mem_cons] at hp ⊢
    rcases hp with h | h | h | h <;> simp [h]
  · simp only [List.forall_mem_cons, List.cons_append] at hoI ⊢
    exact ⟨hoI.1, Nat.ne_of_gt lI, hoI.2⟩
  · rw [take_next hk, rowsOf_app, rowsOf_one, e, ← List.append_assoc]
    exact (hr.mono fun _ hp => .tail _ hp).snoc hok (.head _)
  · exact List.forall_mem_cons.mpr ⟨Nat.ne_of_gt lr, ho⟩
  · exact List.forall_mem_cons.mpr ⟨lD, hD⟩
end
theorem sj_start {R Y : List (Addr × Obj)} {rl el D : Addr} {ds : List (Int × Str)} {ks : List Kid} {rv : List Value} {nr : Nat} {m : Str → Option Value} (hr : RowsAre Y rv ds) (ho : ∀ p ∈ R, p.1 ≠ rl) (hl : rv.length ≤ 100) (e1 : m (Str.ofString "elements") = some (.ref el)) (e2 : m (Str.ofString "rows") = some (.ref rl)) (e3 : m (Str.ofString "sides") = some (.ref D)) : SJ R Y rl el D ds ks 0 m ((rl, listOf rv.toArray nr) :: ([] ++ R)) := by
  refine ⟨rv, nr, [], rfl, ?_, ho, (fun _ h => nomatch h), e1, e2, e3, hl⟩
  have e : ds ++ rowsOf (ks.take 0) = ds := by rw [List.take_zero]; exact List.append_nil ds
  rw [e]
  exact hr
theorem kc_noti {kd f : Str} {v : Option Int} (h : KindF kd f) (h1 : (kd == Str.ofString "int") = false) : kidCode f v = Str.ofString "not_an_integer" := kc_notint h (by show (!(kd == Str.ofString "int")) = true; rw [h1]; rfl)
/-- after the turn's sides: the rows' list, the lists of elements and of due tuples foremost -/
theorem permA {α : Type} {a1 a2 a3 a4 a5 a6 a7 a8 e r h : α} {W Y : List α} : ∀ p ∈ e :: h :: r :: a5 :: a6 :: a7 :: a8 :: a1 :: a2 :: a3 :: a4 :: (W ++ Y), p ∈ r :: (W ++ a1 :: a2 :: a3 :: a4 :: a5 :: a6 :: a7 :: a8 :: e :: h :: Y) := (pC (.tail _ (List.mem_append_right _ (.tail _ (.tail _ (.tail _ (.tail _ (.tail _ (.tail _ (.tail _ (.tail _ (.head _))))))))))) (pC (.tail _ (List.mem_append_right _ (.tail _ (.tail _ (.tail _ (.tail _ (.tail _ (.tail _ (.tail _ (.tail _ (.tail _ (.head _)))))))))))) (pC (.head _) (pC (.tail _ (List.mem_append_right _ (.tail _ (.tail _ (.tail _ (.tail _ (.head _))))))) (pC (.tail _ (List.mem_append_right _ (.tail _ (.tail _ (.tail _ (.tail _ (.tail _ (.head _)))))))) (pC (.tail _ (List.mem_append_right _ (.tail _ (.tail _ (.tail _ (.tail _ (.tail _ (.tail _ (.head _))))))))) (pC (.tail _ (List.mem_append_right _ (.tail _ (.tail _ (.tail _ (.tail _ (.tail _ (.tail _ (.tail _ (.head _)))))))))) (pC (.tail _ (List.mem_append_right _ (.head _))) (pC (.tail _ (List.mem_append_right _ (.tail _ (.head _)))) (pC (.tail _ (List.mem_append_right _ (.tail _ (.tail _ (.head _))))) (pC (.tail _ (List.mem_append_right _ (.tail _ (.tail _ (.tail _ (.head _)))))) (pA (fun _ hp => (.tail _ (List.mem_append_left _ hp))) (fun _ hp => (.tail _ (List.mem_append_right _ (.tail _ (.tail _ (.tail _ (.tail _ (.tail _ (.tail _ (.tail _ (.tail _ (.tail _ (.tail _ hp)))))))))))))))))))))))))
theorem permB {α : Type} {a1 a2 a3 a4 a5 a6 a7 a8 e r h t : α} {W Y : List α} : ∀ p ∈ e :: r :: h :: a5 :: a6 :: a7 :: a8 :: ((t :: a1 :: a2 :: a3 :: W) ++ Y), p ∈ t :: e :: h :: r :: a5 :: a6 :: a7 :: a8 :: a1 :: a2 :: a3 :: a4 :: (W ++ Y) := (pC (.tail _ (.head _)) (pC (.tail _ (.tail _ (.tail _ (.head _)))) (pC (.tail _ (.tail _ (.head _))) (pC (.tail _ (.tail _ (.tail _ (.tail _ (.head _))))) (pC (.tail _ (.tail _ (.tail _ (.tail _ (.tail _ (.head _)))))) (pC (.tail _ (.tail _ (.tail _ (.tail _ (.tail _ (.tail _ (.head _))))))) (pC (.tail _ (.tail _ (.tail _ (.tail _ (.tail _ (.tail _ (.tail _ (.head _)))))))) (pA (pC (.head _) (pC (.tail _ (.tail _ (.tail _ (.tail _ (.tail _ (.tail _ (.tail _ (.tail _ (.head _))))))))) (pC (.tail _ (.tail _ (.tail _ (.tail _ (.tail _ (.tail _ (.tail _ (.tail _ (.tail _ (.head _)))))))))) (pC (.tail _ (.tail _ (.tail _ (.tail _ (.tail _ (.tail _ (.tail _ (.tail _ (.tail _ (.tail _ (.head _))))))))))) (fun _ hp => (.tail _ (.tail _ (.tail _ (.tail _ (.tail _ (.tail _ (.tail _ (.tail _ (.tail _ (.tail _ (.tail _ (.tail _ (List.mem_append_left _ hp)))))))))))))))))) (fun _ hp => (.tail _ (.tail _ (.tail _ (.tail _ (.tail _ (.tail _ (.tail _ (.tail _ (.tail _ (.tail _ (.tail _ (.tail _ (List.mem_append_right _ hp))))))))))))))))))))))
theorem tu_N {g h : Heap} {L : Nat} {a1 a2 a3 a4 a5 a6 a7 a8 r t : Addr × Obj} {e hl n1 n2 : Nat} {a b : List Value} {v w : Value} {W Y : List (Addr × Obj)}
    (N : News g L h (t :: (e, listOf (a.toArray.push v) n1) :: (hl, listOf (b.toArray.push w) n2) :: r :: a5 :: a6 :: a7 :: a8 :: a1 :: a2 :: a3 :: a4 :: (W ++ Y))) :
    News g L h ((e, listOf (a ++ [v]).toArray n1) :: r :: (hl, listOf (b ++ [w]).toArray n2) :: a5 :: a6 :: a7 :: a8 :: ((t :: a1 :: a2 :: a3 :: W) ++ Y)) := by
  rw [List.push_toArray, List.push_toArray] at N
  exact cb_drop N permB
theorem sj_off {R W Y : List (Addr × Obj)} {a : Nat} {o : Obj} (hD : ∀ p ∈ W, ∀ q ∈ R, @LT.lt Nat _ q.1 p.1) (hm : (a, o) ∈ R) (hy : ∀ p ∈ Y, p.1 ≠ a) : ∀ p ∈ W ++ Y, p.1 ≠ a := by
  intro p hp
  rcases List.mem_append.mp hp with h | h
  · exact Nat.ne_of_gt (hD p h _ hm)
  · exact hy p h
/-- a new object lies off the turn's slots -/
def Off7 (el rl hl I c pl Td x : Nat) : Prop := x ≠ el ∧ x ≠ rl ∧ x ≠ hl ∧ x ≠ I ∧ x ≠ c ∧ x ≠ pl ∧ x ≠ Td
theorem Off7.new {R : List (Addr × Obj)} {el rl hl I c pl Td x : Nat} {o2 o3 o4 o5 o6 o7 : Obj} (h : ∀ q ∈ R, @LT.lt Nat _ q.1 x) (hr : x ≠ rl) (h3 : (hl, o2) ∈ R) (h1 : (el, o3) ∈ R) (h4 : (I, o4) ∈ R) (h5 : (c, o5) ∈ R) (h6 : (pl, o6) ∈ R) (h7 : (Td, o7) ∈ R) : Off7 el rl hl I c pl Td x :=
  ⟨Nat.ne_of_gt (h _ h1), hr, Nat.ne_of_gt (h _ h3), Nat.ne_of_gt (h _ h4), Nat.ne_of_gt (h _ h5), Nat.ne_of_gt (h _ h6), Nat.ne_of_gt (h _ h7)⟩
section
variable {D D' el rl hl I c pl Td x : Nat} {P : Prop}
theorem Off7.lt (h : @LT.lt Nat _ el x ∧ @LT.lt Nat _ hl x ∧ @LT.lt Nat _ rl x ∧ @LT.lt Nat _ I x ∧ @LT.lt Nat _ c x ∧ @LT.lt Nat _ pl x ∧ @LT.lt Nat _ Td x ∧ P) : Off7 el rl hl I c pl Td x := by
  obtain ⟨h1, h2, h3, h4, h5, h6, h7, -⟩ := h
  exact ⟨Nat.ne_of_gt h1, Nat.ne_of_gt h3, Nat.ne_of_gt h2, Nat.ne_of_gt h4, Nat.ne_of_gt h5, Nat.ne_of_gt h6, Nat.ne_of_gt h7⟩
theorem Off7.o (h : @Ne Nat D x ∧ @Ne Nat I x ∧ @Ne Nat c x ∧ @Ne Nat pl x ∧ @Ne Nat Td x ∧ @Ne Nat el x ∧ @Ne Nat rl x ∧ @Ne Nat hl x ∧ P) : Off7 el rl hl I c pl Td x := by
  obtain ⟨-, h2, h3, h4, h5, h6, h7, h8, -⟩ := h
  exact ⟨h6.symm, h7.symm, h8.symm, h2.symm, h3.symm, h4.symm, h5.symm⟩
theorem Off7.d (h : @LT.lt Nat _ D' x ∧ @LT.lt Nat _ D x ∧ @LT.lt Nat _ I x ∧ @LT.lt Nat _ c x ∧ @LT.lt Nat _ pl x ∧ @LT.lt Nat _ Td x ∧ @LT.lt Nat _ el x ∧ @LT.lt Nat _ rl x ∧ @LT.lt Nat _ hl x ∧ P) : Off7 el rl hl I c pl Td x := by
  obtain ⟨-, -, h1, h2, h3, h4, h5, h6, h7, -⟩ := h
  exact ⟨Nat.ne_of_gt h5, Nat.ne_of_gt h6, Nat.ne_of_gt h7, Nat.ne_of_gt h1, Nat.ne_of_gt h2, Nat.ne_of_gt h3, Nat.ne_of_gt h4⟩
theorem Off7.dx {d : Nat} (h : @LT.lt Nat _ D' d ∧ @LT.lt Nat _ D d ∧ @LT.lt Nat _ I d ∧ @LT.lt Nat _ c d ∧ @LT.lt Nat _ pl d ∧ @LT.lt Nat _ Td d ∧ @LT.lt Nat _ el d ∧ @LT.lt Nat _ rl d ∧ @LT.lt Nat _ hl d ∧ P) (g : @LT.lt Nat _ d x) : Off7 el rl hl I c pl Td x := by
  obtain ⟨-, -, h1, h2, h3, h4, h5, h6, h7, -⟩ := h
  exact ⟨Nat.ne_of_gt (Nat.lt_trans h5 g), Nat.ne_of_gt (Nat.lt_trans h6 g), Nat.ne_of_gt (Nat.lt_trans h7 g), Nat.ne_of_gt (Nat.lt_trans h1 g), Nat.ne_of_gt (Nat.lt_trans h2 g), Nat.ne_of_gt (Nat.lt_trans h3 g), Nat.ne_of_gt (Nat.lt_trans h4 g)⟩
end
/-! turnend -/
theorem tl5 {α : Type} {a b c d e : α} {Y : List α} {P : α → Prop} (h : ∀ p ∈ a :: b :: c :: d :: e :: Y, P p) : ∀ p ∈ Y, P p := fun p hp => h p (.tail _ (.tail _ (.tail _ (.tail _ (.tail _ hp)))))
theorem permE {α : Type} {e r h i c p t : α} {Y : List α} : ∀ x ∈ i :: c :: p :: t :: e :: r :: h :: Y, x ∈ e :: r :: h :: i :: c :: p :: t :: Y := (pC (.tail _ (.tail _ (.tail _ (.head _)))) (pC (.tail _ (.tail _ (.tail _ (.tail _ (.head _))))) (pC (.tail _ (.tail _ (.tail _ (.tail _ (.tail _ (.head _)))))) (pC (.tail _ (.tail _ (.tail _ (.tail _ (.tail _ (.tail _ (.head _))))))) (pC (.head _) (pC (.tail _ (.head _)) (pC (.tail _ (.tail _ (.head _))) (fun _ hp => (.tail _ (.tail _ (.tail _ (.tail _ (.tail _ (.tail _ (.tail _ hp)))))))))))))))
theorem all_app {α : Type} {P : α → Prop} {a b : List α} (h1 : ∀ p ∈ a, P p) (h2 : ∀ p ∈ b, P p) : ∀ p ∈ a ++ b, P p := fun p hp => (List.mem_append.mp hp).elim (h1 p) (h2 p)
theorem allK_len2 {es : List Elem} (h : ∀ e ∈ es, e.2.length = 1 ∨ e.2.length = 2) : (allK es).length ≤ 2 * es.length := by
  induction es with
  | nil => exact Nat.le_refl _
  | cons e r ih =>
    have h1 := h e (.head _)
    have h2 := ih fun x hx => h x (.tail _ hx)
    have e3 : allK (e :: r) = e.2 ++ allK r := by simp [allK]
    rw [e3, List.length_append, List.length_cons]
    omega
theorem LF.lens {pl Td el rl hl : Addr} {Zb Y : List (Addr × Obj)} {i : Nat} {es : List Elem} {m : Str → Option Value} {rv hv : List Value} (hF : LF pl Td el rl hl Zb i es m rv hv Y) (hi : i < 4) : es.length ≤ 100 ∧ rv.length ≤ 100 ∧ hv.length ≤ 100 := by
  have h1 := hF.len
  have h2 := hF.held.length
  have h3 := hF.rows.length
  have h4 := rowsOf_len (allK es)
  have h5 := allK_len2 fun e he => (hF.ok e he).len
  omega
theorem turn_end {h₀ h' : Heap} {L : Nat} {s1 : Shared} {tk' : Nat} {m m' : Str → Option Value} {pl Td el rl hl fl I : Nat} {oI q4 : Obj} {P : Params} {k : TyK} {figs : List Int} {n0 : Nat} {Zb Y YY new : List (Addr × Obj)} {i : Nat} {es : List Elem} {rv hv rv' : List Value} {ne nr' nh n9 : Nat} {i' mx c : Int} {ti tm tc : Tok} {st : Option Value} {xn T : Nat} {ks : List Kid} {lo hi : Value}
    (D : Apart7 pl Td el rl hl (L + 1 + 1 + 1 + 1)) (hF : LF pl Td el rl hl Zb i es m rv hv Y)
    (o1 : @Ne Nat pl I) (o2 : @Ne Nat Td I) (o3 : @Ne Nat el I) (o4 : @Ne Nat rl I) (o5 : @Ne Nat hl I) (b0 : 0 ≤ i') (b1 : i' ≤ figs.length) (b2 : 0 ≤ mx) (b3 : mx < 1009) (b4 : 0 ≤ c) (b5 : c ≤ 800 + 2 * ((i + 1 : Nat) : Int))
    (sub : ∀ p ∈ Y, p ∈ YY) (z1 : ∀ p ∈ YY, p.1 ≠ pl) (z2 : ∀ p ∈ YY, p.1 ≠ Td) (z3 : ∀ p ∈ YY, p.1 ≠ el) (z4 : ∀ p ∈ YY, p.1 ≠ rl) (z5 : ∀ p ∈ YY, p.1 ≠ hl) (z6 : ∀ p ∈ YY, p.1 ≠ I) (z7 : ∀ p ∈ YY, p.1 ≠ L + 1 + 1 + 1 + 1)
    (F : Fr h₀ L h' m') (e1 : m' (Str.ofString "elements") = some (.ref el)) (e2 : m' (Str.ofString "rows") = some (.ref rl))
    (N : News h₀ L h' ((el, listOf (erefs es ++ [Value.ref xn]).toArray ne) :: (rl, listOf rv'.toArray nr') :: (hl, listOf (hv ++ [Value.ref T]).toArray nh) :: (I, oI) :: (L + 1 + 1 + 1 + 1, cellQ q4 st) :: (pl, PoolO fl i' ti mx tm n0) :: (Td, TyO P k c tc) :: (new ++ YY)))
    (hoff : ∀ p ∈ new, Off7 el rl hl I (L + 1 + 1 + 1 + 1) pl Td p.1) (hr : RowsAre (new ++ YY) rv' (rowsOf (allK es) ++ rowsOf ks)) (hE : ElemOk (new ++ YY) (xn, ks)) (hT : (T, tupOf #[lo, hi] n9) ∈ new)
    (k1 : Ups ks) (k2 : ∀ k ∈ ks, 30 + 10 * (i : Int) ≤ k.pl ∧ k.pl < 40 + 10 * (i : Int)) (k3 : OptV (lowOf ks) lo) (k4 : OptV (highOf ks) hi) :
    MyEndC h₀ L (LJ P pl Td fl el rl hl k figs n0 Zb (i + 1)) I oI (L + 1 + 1 + 1 + 1) q4 s1 { s1 with heap := h', toks := tk' } := by
  have sub2 : ∀ p ∈ Y, p ∈ new ++ YY := fun p hp => List.mem_append_right _ (sub p hp)
  have ea : allK (es ++ [(xn, ks)]) = allK es ++ ks := by rw [allK_app]; simp [allK]
  have er : erefs (es ++ [(xn, ks)]) = erefs es ++ [Value.ref xn] := by simp
  refine MyEndC.intro (v := st) F (cb_drop N permE) ?_ ?_ ⟨i', mx, c, ti, tm, tc, es ++ [(xn, ks)], rv', hv ++ [Value.ref T], ne, nr', nh, new ++ YY, by rw [er], b0, b1, b2, b3, b4, b5, ?_⟩
  · simp only [List.forall_mem_cons]
    exact ⟨o1, o2, o3, o4, o5, all_app (fun p hp => (hoff p hp).2.2.2.1) z6⟩
  · simp only [List.forall_mem_cons]
    exact ⟨Ne.symm D.c1, Ne.symm D.c2, Ne.symm D.c3, Ne.symm D.c5, Ne.symm D.c6, all_app (fun p hp => (hoff p hp).2.2.2.2.1) z7⟩
  · refine ⟨all_app (fun p hp => (hoff p hp).2.2.2.2.2.1) z1, all_app (fun p hp => (hoff p hp).2.2.2.2.2.2) z2, all_app (fun p hp => (hoff p hp).1) z3, all_app (fun p hp => (hoff p hp).2.1) z4, all_app (fun p hp => (hoff p hp).2.2.1) z5, fun p hp => sub2 p (hF.sub p hp), ?_, ?_, ?_, ?_, ?_, ?_, e1, e2⟩
    · rw [ea, rowsOf_app]; exact hr
    · exact (hF.held.mono sub2).snoc (List.mem_append_left _ hT) k3 k4
    · intro e he
      rcases List.mem_append.mp he with he | he
      · exact (hF.ok e he).mono sub2
      · rw [List.mem_singleton.mp he]; exact hE
    · rw [ea]
      refine List.pairwise_append.mpr ⟨hF.ups, k1, fun a ha b hb => ?_⟩
      have h1 := hF.lo a ha
      have h2 := k2 b hb
      omega
    · rw [ea]
      intro a ha
      rcases List.mem_append.mp ha with ha | ha
      · have h1 := hF.lo a ha
        omega
      · have h2 := k2 a ha
        omega
    · rw [List.length_append, hF.len]; rfl
theorem turn_apart {pl Td el rl hl c4 I Dd : Nat} {R : Prop} (D : Apart7 pl Td el rl hl c4) (o3 : @Ne Nat el I) (o4 : @Ne Nat rl I) (o5 : @Ne Nat hl I)
    (h : @Ne Nat I Dd ∧ @Ne Nat c4 Dd ∧ @Ne Nat pl Dd ∧ @Ne Nat Td Dd ∧ @Ne Nat el Dd ∧ @Ne Nat rl Dd ∧ @Ne Nat hl Dd ∧ R) : ApartT Dd I c4 pl Td el rl hl :=
  let ⟨_, _, _, _, h5, h6, h7, _⟩ := h
  ⟨Ne.symm h5, Ne.symm h6, Ne.symm h7, Ne.symm o3, Ne.symm o4, Ne.symm o5, D.c3, D.c5, D.c6, D.d2, D.d3, D.d4, D.d5, D.d6, D.d7, D.d8, D.d9, D.d10⟩
section
variable {x1 x2 : Nat} {i : Nat} {op1 f1 op2 f2 : Str} {vx1 vx2 : Value} {v1 v2 : Option Int}
theorem ups1 {p1 : Int} : Ups [⟨x1, p1, op1, f1, vx1, v1⟩] := List.pairwise_singleton _ _
theorem ups2 : Ups [⟨x1, 30 + 10 * (0 + (i : Int)) + (0 + ((0 : Nat) : Int)), op1, f1, vx1, v1⟩, ⟨x2, 30 + 10 * (0 + (i : Int)) + (0 + ((1 : Nat) : Int)), op2, f2, vx2, v2⟩] := by
  refine List.pairwise_cons.mpr ⟨fun b hb => ?_, List.pairwise_singleton _ _⟩
  rw [List.mem_singleton.mp hb]
  show (30 + 10 * (0 + (i : Int)) + (0 + ((0 : Nat) : Int))) < 30 + 10 * (0 + (i : Int)) + (0 + ((1 : Nat) : Int))
  omega
theorem pls1 : ∀ k ∈ [(⟨x1, 30 + 10 * (0 + (i : Int)) + (0 + ((0 : Nat) : Int)), op1, f1, vx1, v1⟩ : Kid)], 30 + 10 * (i : Int) ≤ k.pl ∧ k.pl < 40 + 10 * (i : Int) := by
  intro k hk
  rw [List.mem_singleton.mp hk]
  show 30 + 10 * (i : Int) ≤ 30 + 10 * (0 + (i : Int)) + (0 + ((0 : Nat) : Int)) ∧ 30 + 10 * (0 + (i : Int)) + (0 + ((0 : Nat) : Int)) < 40 + 10 * (i : Int)
  omega
theorem pls2 : ∀ k ∈ [(⟨x1, 30 + 10 * (0 + (i : Int)) + (0 + ((0 : Nat) : Int)), op1, f1, vx1, v1⟩ : Kid), ⟨x2, 30 + 10 * (0 + (i : Int)) + (0 + ((1 : Nat) : Int)), op2, f2, vx2, v2⟩], 30 + 10 * (i : Int) ≤ k.pl ∧ k.pl < 40 + 10 * (i : Int) := by
  refine List.forall_mem_cons.mpr ⟨?_, fun k hk => ?_⟩
  · show 30 + 10 * (i : Int) ≤ 30 + 10 * (0 + (i : Int)) + (0 + ((0 : Nat) : Int)) ∧ 30 + 10 * (0 + (i : Int)) + (0 + ((0 : Nat) : Int)) < 40 + 10 * (i : Int)
    omega
  · rw [List.mem_singleton.mp hk]
    show 30 + 10 * (i : Int) ≤ 30 + 10 * (0 + (i : Int)) + (0 + ((1 : Nat) : Int)) ∧ 30 + 10 * (0 + (i : Int)) + (0 + ((1 : Nat) : Int)) < 40 + 10 * (i : Int)
    omega
end
/-! law12t1 -/
theorem reg76 : True := by
  w_top off
  (k_with "X k_ne" => (((try dsimp only); (show @Ne Nat _ _); first | with_reducible assumption | with_reducible exact Ne.symm (by with_reducible assumption))))
  trivial
theorem reg77 : True := by
  (k_with "getAttr ref" => ((k_here; k_dflt (refine' get_has ?k1_594 ?k2_594 ?k3_594 ?k4_594 ?k5_594 ?k6_594 ?k7_594 ?k8_594 ?k9_594 ?_; (case k1_594 => k_asm); (case k2_594 => k_asm); (case k3_594 => k_asm); (case k4_594 => with_reducible assumption); (case k5_594 => walk_at "MINE sub"); (case k6_594 => k_is); (case k7_594 => k_is); (case k8_594 => k_is); (case k9_594 => k_is); k_whole))))
  (k_with "subscriptTail Name Constant ref int" => ((k_here; k_dflt (first | (refine' itemT ?k1_595 ?k2_595 ?k3_595 ?k4_595 ?k5_595 ?_ ?k6_595; (case k1_595 => k_asm); (case k2_595 => walk_at "MINE zmem"); (case k3_595 => decide); (case k4_595 => decide); (case k5_595 => rfl); (case k6_595 => with_unfolding_all rfl); k_whole) | (refine' itemN ?k1_595 ?k2_595 ?k3_595 ?k4_595 ?k5_595 ?_ ?k6_595; (case k1_595 => k_asm); (case k2_595 => k_mem); (case k3_595 => decide); (case k4_595 => decide); (case k5_595 => rfl); (case k6_595 => with_unfolding_all rfl); k_whole)))))
  trivial
set_option maxHeartbeats 8000000 in
theorem turnT1 (w : World) (mean : ExcName → Option Value) (mg mb : Str → Option Value) {body : List Stmt} {qual : Str} {scope : Scope} {dp un : Nat} {gd : Option (List Code)} {a : Addr} {ccd : Value} {outer : List Env} {A₀ : Around} {base h₀ : Heap} {L : Addr} {m : Str → Option Value} {hp : Heap} {gns : Array GenState} {drw : Drawn} {tk0 : Nat} {sos : OsState} {Qp : Flow → Shared → Prop} {E : Value → Shared → Prop}
    {D I pl Td el rl hl Ta : Nat} {oI op q2 q3 q4 : Obj} {k : TyK} {c : Int} {tc tst : Tok} {i : Nat} {es : List Elem} {rv hv : List Value} {ds : List (Int × Str)} {ne nr nh : Nat} {Y : List (Addr × Obj)} {t1 x1 : Nat} {p1 : Int} {op1 f1 kd1 : Str} {vx1 v31 : Value} {v1 : Option Int}
    (hb : LawB w body qual scope) (B : Below A₀ base outer h₀) (F : Fr h₀ L hp m) (X : (Mine.R.heap_1_1 w.params).In h₀)
    (N : News h₀ L hp ((D, LCg.lst [Value.ref t1]) :: (I, oI) :: (L + 1 + 1 + 1 + 1, cellQ q4 (some (.int (0 + (i : Int)) tst))) :: (pl, op) :: (Td, TyO w.params k c tc) :: (el, listOf (erefs es).toArray ne) :: (rl, listOf rv.toArray nr) :: (hl, listOf hv.toArray nh) :: Y))
    (T : Top Mine.R.view_1_2 (looseW Mine.R.view_1_2 []) mean mg mb h₀) (hd : dp + 40 < recursionLimit) (hu : un + 300 < cLine) (hA : ApartT D I (L + 1 + 1 + 1 + 1) pl Td el rl hl) (y3 : ∀ p ∈ Y, p.1 ≠ el) (y4 : ∀ p ∈ Y, p.1 ≠ rl) (y5 : ∀ p ∈ Y, p.1 ≠ hl)
    (hTa : (Ta, instObj 285 Td) ∈ Y) (hct : (L + 1 + 1, cellQ q2 (some (.ref Ta))) ∈ Y) (hch : (L + 1 + 1 + 1, cellQ q3 (some (.ref hl))) ∈ Y) (hi4 : i < 4) (hle : es.length ≤ 100) (hlr : rv.length ≤ 100) (hlh : hv.length ≤ 100)
    (hsi : m (Str.ofString "sides") = some (.ref D)) (hme : m (Str.ofString "elements") = some (.ref el)) (hmr : m (Str.ofString "rows") = some (.ref rl)) (hrows : RowsAre Y rv ds) (sd1 : SideT Y t1 x1 p1 op1 f1 kd1 vx1 v31 v1)
    (hret : ∀ (h' : Heap) (tk' : Nat) (m' : Str → Option Value) (T xn : Nat) (rv' : List Value) (nr' : Nat) (new : List (Addr × Obj)), Fr h₀ L h' m' → m' (Str.ofString "elements") = some (.ref el) → m' (Str.ofString "rows") = some (.ref rl) →
      News h₀ L h' ((el, listOf (erefs es ++ [Value.ref xn]).toArray (ne + 1)) :: (rl, listOf rv'.toArray nr') :: (hl, listOf (hv ++ [Value.ref T]).toArray (nh + 1)) :: (I, oI) :: (L + 1 + 1 + 1 + 1, cellQ q4 (some (.int (0 + (i : Int)) tst))) :: (pl, op) :: (Td, TyO w.params k c tc) :: (new ++ Y)) → (∀ p ∈ new, Off7 el rl hl I (L + 1 + 1 + 1 + 1) pl Td p.1) →
      RowsAre (new ++ Y) rv' (ds ++ rowsOf [⟨x1, p1, op1, f1, vx1, v1⟩]) → ElemOk (new ++ Y) (xn, [⟨x1, p1, op1, f1, vx1, v1⟩]) → (T, tupOf #[v31, v31] 0) ∈ new → Qp .next ⟨h', gns, drw, tk', sos⟩) : TurnAtE w dp un gd L a ccd outer 1 Qp E ⟨hp, gns, drw, tk0, sos⟩ body qual scope := by
  refine' law_lit (P := TurnAtE w dp un gd L a ccd outer 1 Qp E ⟨hp, gns, drw, tk0, sos⟩) hb ?ho ?_
  (case ho => k_dflt k_is)
  intro hb' hE
  clear hb
  dsimp only [List.drop, forBody]
  have hst : ((L + 1 + 1 + 1 + 1, cellQ q4 (some (.int (0 + (i : Int)) tst))) : Addr × Obj) ∈ (L + 1 + 1 + 1 + 1, cellQ q4 (some (.int (0 + (i : Int)) tst))) :: (pl, op) :: (Td, TyO w.params k c tc) :: (el, listOf (erefs es).toArray ne) :: (rl, listOf rv.toArray nr) :: (hl, listOf hv.toArray nh) :: Y := .head _
  obtain ⟨a1, a2, a3, b1, b2, b3, c1, c2, c3, d1, d2, d3, e1, e2, e3, g1, g2, g3⟩ := hA
  obtain ⟨⟨tk1, nn1, ht1⟩, ⟨ty1, kl1, hn1, hy1⟩, hk1, hv1, hsv1, hd1⟩ := sd1
  have ok1 : Kid.Ok Y ⟨x1, p1, op1, f1, vx1, v1⟩ := ⟨⟨ty1, kl1, hn1, hy1⟩, hsv1⟩
  have hn1' := hn1
  obtain ⟨-, ⟨tp1, hp1⟩, -, -, -⟩ := hn1'
  have gLaw12t1Row : True := trivial
  k_with "pyIter ref" => ((fail_if_success (fail_if_success (have hz9 := gLaw12t1Row))); k_here; k_dflt ((refine' sides_loop (Y := Y) (ds := ds) (ks := [⟨x1, p1, op1, f1, vx1, v1⟩]) (vs := [Value.ref t1]) ?sC ?hhC ?FC ?NC ?hjC (all_1 ?_) ?_; (case hhC => rfl); (case FC => assumption); (case NC => exact cb_drop (by assumption) perm9); (case hjC => (refine' sj_start hrows ?s2 hlr ?s3 ?s4 ?s5; (case s2 => first | k_all | fail); (case s3 => walk_at "MINE look"); (case s4 => walk_at "MINE look"); (case s5 => walk_at "MINE look"))); (case sC => first | k_mem | fail)); (intro m₁ h9 tk9 I9 oI9 rv9 nr9 new9 hr9 ho9 hD9 hm1 hm2 hm3 hl9 hoff F9 N9; have hA9 := off1 hoff); rotate_left; (intro m₁ h9 tk9 rv9 nr9 new9 hr9 ho9 hD9 hm1 hm2 hm3 F9 N9; replace N9 := cb_drop N9 permA; have n1 := sj_off hD9 (a := hl) (by first | k_mem | fail) y5; have n3 := sj_off hD9 (a := el) (by first | k_mem | fail) y3); rotate_left))
  repeat' (first | ((fail_if_success (with_reducible show wpAny _ _ (call (.builtin "zzz") _) _ _ _)); (fail_if_success (with_reducible show MyEnd _ _ _ _ _ _ _)); (fail_if_success (with_reducible show Qp .next _)); walk_at "MINE step"))
  all_goals try (first | exact sj_ok rfl (kc_none hk1 (by decide)) hr9 ho9 hD9 hl9 hoff (by assumption) (by assumption) (by walk_at "MINE look") (by walk_at "MINE look") (by walk_at "MINE look") | exact sj_ok rfl (kc_ok hk1 (by decide) (by assumption) (by assumption)) hr9 ho9 hD9 hl9 hoff (by assumption) (by assumption) (by walk_at "MINE look") (by walk_at "MINE look") (by walk_at "MINE look") | exact sj_bad rfl (kc_low hk1 (by decide) (by assumption)) (by decide) (by decide +kernel) hr9 ho9 hD9 hl9 hoff (by assumption) (by assumption) (by assumption) (by walk_at "MINE look") (by walk_at "MINE look") (by walk_at "MINE look") | exact sj_bad rfl (kc_high hk1 (by decide) (by assumption) (by assumption)) (by decide) (by decide +kernel) hr9 ho9 hD9 hl9 hoff (by assumption) (by assumption) (by assumption) (by walk_at "MINE look") (by walk_at "MINE look") (by walk_at "MINE look") | exact sj_bad rfl (kc_noti hk1 (by assumption)) (by decide) (by decide +kernel) hr9 ho9 hD9 hl9 hoff (by assumption) (by assumption) (by assumption) (by walk_at "MINE look") (by walk_at "MINE look") (by walk_at "MINE look"))
  refine' hret _ _ _ _ _ _ _ (_ :: _ :: _ :: _ :: new9) ?hF ?he ?hr ?hN ?hl ?hR ?hE ?hT
  (case hN => exact tu_N (by assumption))
  (case hF => assumption)
  (case he => walk_at "MINE look")
  (case hr => walk_at "MINE look")
  (case hT => exact .head _)
  (case hR => exact hr9.mono fun _ h => .tail _ (.tail _ (.tail _ (.tail _ h))))
  (case hE => exact ⟨⟨_, _, _, _, _, _, nodeF_of (.tail _ (.head _)) (.tail _ (.tail _ (.head _))) rfl, .tail _ (.tail _ (.tail _ (.head _)))⟩, List.forall_mem_cons.mpr ⟨ok1.mono fun _ h => List.mem_append_right _ h, (fun _ h => nomatch h)⟩, .inl rfl⟩)
  (case hl => refine' List.forall_mem_cons.mpr ⟨?h1, List.forall_mem_cons.mpr ⟨?h2, List.forall_mem_cons.mpr ⟨?h3, List.forall_mem_cons.mpr ⟨?h4, ?h6⟩⟩⟩⟩
              (case h6 => exact fun p hp => Off7.new (hD9 p hp) (ho9 p (List.mem_append_left _ hp)) (by first | k_mem | fail) (by first | k_mem | fail) (by first | k_mem | fail) (by first | k_mem | fail) (by first | k_mem | fail) (by first | k_mem | fail))
              (case h1 => exact Off7.lt (by assumption))
              (case h2 => exact Off7.dx (by assumption) (by assumption))
              (case h3 => exact Off7.d (by assumption))
              (case h4 => exact Off7.o (by assumption)))
/-! law12t2 -/
theorem reg78 : True := by
  w_top off
  (k_with "MINE none" => (skip))
  trivial
theorem reg79 : True := by
  (k_with "getAttr ref" => ((k_here; k_dflt (refine' get_has ?k1_597 ?k2_597 ?k3_597 ?k4_597 ?k5_597 ?k6_597 ?k7_597 ?k8_597 ?k9_597 ?_; (case k1_597 => k_asm); (case k2_597 => k_asm); (case k3_597 => k_asm); (case k4_597 => with_reducible assumption); (case k5_597 => walk_at "MINE sub"); (case k6_597 => k_is); (case k7_597 => k_is); (case k8_597 => k_is); (case k9_597 => k_is); k_whole))))
  (k_with "subscriptTail Name Constant ref int" => ((k_here; k_dflt (first | (refine' itemT ?k1_598 ?k2_598 ?k3_598 ?k4_598 ?k5_598 ?_ ?k6_598; (case k1_598 => k_asm); (case k2_598 => walk_at "MINE zmem"); (case k3_598 => decide); (case k4_598 => decide); (case k5_598 => rfl); (case k6_598 => with_unfolding_all rfl); k_whole) | (refine' itemN ?k1_598 ?k2_598 ?k3_598 ?k4_598 ?k5_598 ?_ ?k6_598; (case k1_598 => k_asm); (case k2_598 => k_mem); (case k3_598 => decide); (case k4_598 => decide); (case k5_598 => rfl); (case k6_598 => with_unfolding_all rfl); k_whole)))))
  trivial
set_option maxHeartbeats 8000000 in
theorem turnT2 (w : World) (mean : ExcName → Option Value) (mg mb : Str → Option Value) {body : List Stmt} {qual : Str} {scope : Scope} {dp un : Nat} {gd : Option (List Code)} {a : Addr} {ccd : Value} {outer : List Env} {A₀ : Around} {base h₀ : Heap} {L : Addr} {m : Str → Option Value} {hp : Heap} {gns : Array GenState} {drw : Drawn} {tk0 : Nat} {sos : OsState} {Qp : Flow → Shared → Prop} {E : Value → Shared → Prop}
    {D I pl Td el rl hl Ta : Nat} {oI op q2 q3 q4 : Obj} {k : TyK} {c : Int} {tc tst : Tok} {i : Nat} {es : List Elem} {rv hv : List Value} {ds : List (Int × Str)} {ne nr nh : Nat} {Y : List (Addr × Obj)} {t1 x1 : Nat} {p1 : Int} {op1 f1 kd1 : Str} {vx1 v31 : Value} {v1 : Option Int} {t2 x2 : Nat} {p2 : Int} {op2 f2 kd2 : Str} {vx2 v32 : Value} {v2 : Option Int}
    (hb : LawB w body qual scope) (B : Below A₀ base outer h₀) (F : Fr h₀ L hp m) (X : (Mine.R.heap_1_1 w.params).In h₀)
    (N : News h₀ L hp ((D, LCg.lst [Value.ref t1, Value.ref t2]) :: (I, oI) :: (L + 1 + 1 + 1 + 1, cellQ q4 (some (.int (0 + (i : Int)) tst))) :: (pl, op) :: (Td, TyO w.params k c tc) :: (el, listOf (erefs es).toArray ne) :: (rl, listOf rv.toArray nr) :: (hl, listOf hv.toArray nh) :: Y))
    (T : Top Mine.R.view_1_2 (looseW Mine.R.view_1_2 []) mean mg mb h₀) (hd : dp + 40 < recursionLimit) (hu : un + 300 < cLine) (hA : ApartT D I (L + 1 + 1 + 1 + 1) pl Td el rl hl) (y3 : ∀ p ∈ Y, p.1 ≠ el) (y4 : ∀ p ∈ Y, p.1 ≠ rl) (y5 : ∀ p ∈ Y, p.1 ≠ hl)
    (hTa : (Ta, instObj 285 Td) ∈ Y) (hct : (L + 1 + 1, cellQ q2 (some (.ref Ta))) ∈ Y) (hch : (L + 1 + 1 + 1, cellQ q3 (some (.ref hl))) ∈ Y) (hi4 : i < 4) (hle : es.length ≤ 100) (hlr : rv.length ≤ 100) (hlh : hv.length ≤ 100)
    (hsi : m (Str.ofString "sides") = some (.ref D)) (hme : m (Str.ofString "elements") = some (.ref el)) (hmr : m (Str.ofString "rows") = some (.ref rl)) (hrows : RowsAre Y rv ds) (sd1 : SideT Y t1 x1 p1 op1 f1 kd1 vx1 v31 v1) (sd2 : SideT Y t2 x2 p2 op2 f2 kd2 vx2 v32 v2)
    (hret : ∀ (h' : Heap) (tk' : Nat) (m' : Str → Option Value) (T xn : Nat) (rv' : List Value) (nr' : Nat) (new : List (Addr × Obj)), Fr h₀ L h' m' → m' (Str.ofString "elements") = some (.ref el) → m' (Str.ofString "rows") = some (.ref rl) →
      News h₀ L h' ((el, listOf (erefs es ++ [Value.ref xn]).toArray (ne + 1)) :: (rl, listOf rv'.toArray nr') :: (hl, listOf (hv ++ [Value.ref T]).toArray (nh + 1)) :: (I, oI) :: (L + 1 + 1 + 1 + 1, cellQ q4 (some (.int (0 + (i : Int)) tst))) :: (pl, op) :: (Td, TyO w.params k c tc) :: (new ++ Y)) → (∀ p ∈ new, Off7 el rl hl I (L + 1 + 1 + 1 + 1) pl Td p.1) →
      RowsAre (new ++ Y) rv' (ds ++ rowsOf [⟨x1, p1, op1, f1, vx1, v1⟩, ⟨x2, p2, op2, f2, vx2, v2⟩]) → ElemOk (new ++ Y) (xn, [⟨x1, p1, op1, f1, vx1, v1⟩, ⟨x2, p2, op2, f2, vx2, v2⟩]) → (T, tupOf #[v31, v32] 0) ∈ new → Qp .next ⟨h', gns, drw, tk', sos⟩) : TurnAtE w dp un gd L a ccd outer 1 Qp E ⟨hp, gns, drw, tk0, sos⟩ body qual scope := by
  refine' law_lit (P := TurnAtE w dp un gd L a ccd outer 1 Qp E ⟨hp, gns, drw, tk0, sos⟩) hb ?ho ?_
  (case ho => k_dflt k_is)
  intro hb' hE
  clear hb
  dsimp only [List.drop, forBody]
  have hst : ((L + 1 + 1 + 1 + 1, cellQ q4 (some (.int (0 + (i : Int)) tst))) : Addr × Obj) ∈ (L + 1 + 1 + 1 + 1, cellQ q4 (some (.int (0 + (i : Int)) tst))) :: (pl, op) :: (Td, TyO w.params k c tc) :: (el, listOf (erefs es).toArray ne) :: (rl, listOf rv.toArray nr) :: (hl, listOf hv.toArray nh) :: Y := .head _
  obtain ⟨a1, a2, a3, b1, b2, b3, c1, c2, c3, d1, d2, d3, e1, e2, e3, g1, g2, g3⟩ := hA
  obtain ⟨⟨tk1, nn1, ht1⟩, ⟨ty1, kl1, hn1, hy1⟩, hk1, hv1, hsv1, hd1⟩ := sd1
  have ok1 : Kid.Ok Y ⟨x1, p1, op1, f1, vx1, v1⟩ := ⟨⟨ty1, kl1, hn1, hy1⟩, hsv1⟩
  have hn1' := hn1
  obtain ⟨-, ⟨tp1, hp1⟩, -, -, -⟩ := hn1'
  obtain ⟨⟨tk2, nn2, ht2⟩, ⟨ty2, kl2, hn2, hy2⟩, hk2, hv2, hsv2, hd2⟩ := sd2
  have ok2 : Kid.Ok Y ⟨x2, p2, op2, f2, vx2, v2⟩ := ⟨⟨ty2, kl2, hn2, hy2⟩, hsv2⟩
  have hn2' := hn2
  obtain ⟨-, ⟨tp2, hp2⟩, -, -, -⟩ := hn2'
  have gLaw12t2Row : True := trivial
  k_with "pyIter ref" => ((fail_if_success (fail_if_success (have hz9 := gLaw12t2Row))); k_here; k_dflt ((refine' sides_loop (Y := Y) (ds := ds) (ks := [⟨x1, p1, op1, f1, vx1, v1⟩, ⟨x2, p2, op2, f2, vx2, v2⟩]) (vs := [Value.ref t1, Value.ref t2]) ?sC ?hhC ?FC ?NC ?hjC (all_2 ?_ ?_) ?_; (case hhC => rfl); (case FC => assumption); (case NC => exact cb_drop (by assumption) perm9); (case hjC => (refine' sj_start hrows ?s2 hlr ?s3 ?s4 ?s5; (case s2 => first | k_all | fail); (case s3 => walk_at "MINE look"); (case s4 => walk_at "MINE look"); (case s5 => walk_at "MINE look"))); (case sC => first | k_mem | fail)); (intro m₁ h9 tk9 I9 oI9 rv9 nr9 new9 hr9 ho9 hD9 hm1 hm2 hm3 hl9 hoff F9 N9; have hA9 := off1 hoff); rotate_left; (intro m₁ h9 tk9 I9 oI9 rv9 nr9 new9 hr9 ho9 hD9 hm1 hm2 hm3 hl9 hoff F9 N9; have hA9 := off1 hoff); rotate_left; (intro m₁ h9 tk9 rv9 nr9 new9 hr9 ho9 hD9 hm1 hm2 hm3 F9 N9; replace N9 := cb_drop N9 permA; have n1 := sj_off hD9 (a := hl) (by first | k_mem | fail) y5; have n3 := sj_off hD9 (a := el) (by first | k_mem | fail) y3); rotate_left))
  repeat' (first | ((fail_if_success (with_reducible show wpAny _ _ (call (.builtin "zzz") _) _ _ _)); (fail_if_success (with_reducible show MyEnd _ _ _ _ _ _ _)); (fail_if_success (with_reducible show Qp .next _)); walk_at "MINE step"))
  all_goals try (first | exact sj_ok rfl (kc_none hk1 (by decide)) hr9 ho9 hD9 hl9 hoff (by assumption) (by assumption) (by walk_at "MINE look") (by walk_at "MINE look") (by walk_at "MINE look") | exact sj_ok rfl (kc_ok hk1 (by decide) (by assumption) (by assumption)) hr9 ho9 hD9 hl9 hoff (by assumption) (by assumption) (by walk_at "MINE look") (by walk_at "MINE look") (by walk_at "MINE look") | exact sj_bad rfl (kc_low hk1 (by decide) (by assumption)) (by decide) (by decide +kernel) hr9 ho9 hD9 hl9 hoff (by assumption) (by assumption) (by assumption) (by walk_at "MINE look") (by walk_at "MINE look") (by walk_at "MINE look") | exact sj_bad rfl (kc_high hk1 (by decide) (by assumption) (by assumption)) (by decide) (by decide +kernel) hr9 ho9 hD9 hl9 hoff (by assumption) (by assumption) (by assumption) (by walk_at "MINE look") (by walk_at "MINE look") (by walk_at "MINE look") | exact sj_bad rfl (kc_noti hk1 (by assumption)) (by decide) (by decide +kernel) hr9 ho9 hD9 hl9 hoff (by assumption) (by assumption) (by assumption) (by walk_at "MINE look") (by walk_at "MINE look") (by walk_at "MINE look") | exact sj_ok rfl (kc_none hk2 (by decide)) hr9 ho9 hD9 hl9 hoff (by assumption) (by assumption) (by walk_at "MINE look") (by walk_at "MINE look") (by walk_at "MINE look") | exact sj_ok rfl (kc_ok hk2 (by decide) (by assumption) (by assumption)) hr9 ho9 hD9 hl9 hoff (by assumption) (by assumption) (by walk_at "MINE look") (by walk_at "MINE look") (by walk_at "MINE look") | exact sj_bad rfl (kc_low hk2 (by decide) (by assumption)) (by decide) (by decide +kernel) hr9 ho9 hD9 hl9 hoff (by assumption) (by assumption) (by assumption) (by walk_at "MINE look") (by walk_at "MINE look") (by walk_at "MINE look") | exact sj_bad rfl (kc_high hk2 (by decide) (by assumption) (by assumption)) (by decide) (by decide +kernel) hr9 ho9 hD9 hl9 hoff (by assumption) (by assumption) (by assumption) (by walk_at "MINE look") (by walk_at "MINE look") (by walk_at "MINE look") | exact sj_bad rfl (kc_noti hk2 (by assumption)) (by decide) (by decide +kernel) hr9 ho9 hD9 hl9 hoff (by assumption) (by assumption) (by assumption) (by walk_at "MINE look") (by walk_at "MINE look") (by walk_at "MINE look"))
  refine' hret _ _ _ _ _ _ _ (_ :: _ :: _ :: _ :: new9) ?hF ?he ?hr ?hN ?hl ?hR ?hE ?hT
  (case hN => exact tu_N (by assumption))
  (case hF => assumption)
  (case he => walk_at "MINE look")
  (case hr => walk_at "MINE look")
  (case hT => exact .head _)
  (case hR => exact hr9.mono fun _ h => .tail _ (.tail _ (.tail _ (.tail _ h))))
  (case hE => exact ⟨⟨_, _, _, _, _, _, nodeF_of (.tail _ (.head _)) (.tail _ (.tail _ (.head _))) rfl, .tail _ (.tail _ (.tail _ (.head _)))⟩, List.forall_mem_cons.mpr ⟨ok1.mono fun _ h => List.mem_append_right _ h, List.forall_mem_cons.mpr ⟨ok2.mono fun _ h => List.mem_append_right _ h, (fun _ h => nomatch h)⟩⟩, .inr rfl⟩)
  (case hl => refine' List.forall_mem_cons.mpr ⟨?h1, List.forall_mem_cons.mpr ⟨?h2, List.forall_mem_cons.mpr ⟨?h3, List.forall_mem_cons.mpr ⟨?h4, ?h6⟩⟩⟩⟩
              (case h6 => exact fun p hp => Off7.new (hD9 p hp) (ho9 p (List.mem_append_left _ hp)) (by first | k_mem | fail) (by first | k_mem | fail) (by first | k_mem | fail) (by first | k_mem | fail) (by first | k_mem | fail) (by first | k_mem | fail))
              (case h1 => exact Off7.lt (by assumption))
              (case h2 => exact Off7.dx (by assumption) (by assumption))
              (case h3 => exact Off7.d (by assumption))
              (case h4 => exact Off7.o (by assumption)))
/-! law12 -/
theorem reg80 : True := by
  w_top off
  (k_with "MINE none" => (skip))
  trivial
theorem reg81 : True := by
  (k_with "storeName" => ((k_here; k_dflt (refine' storeQC ?F_600 ?N_600 ?c_600 ?U_600 ?_ ?a_600 ?b_600; (case a_600 => rfl); (case b_600 => rfl); (case F_600 => k_asm); (case N_600 => k_asm); (case c_600 => rfl); (case U_600 => k_updF); k_whole); intro h' F' N'; (try dsimp only at N'); (try k_sweep))))
  (k_with "exec For Name Call cons nil" => ((k_here; (with_reducible show wpAny _ _ (exec (Stmt.For (Expr.Name (Str.ofString "step") _) _ _ [] _) (envX _ _ _ _ _ _)) _ _ _); k_dflt (refine For_C ?_))))
  (k_with "MyPostC" => ((dsimp only [MyPostC])))
  (k_with "binaryOp Add int int" => ((k_here; (with_reducible show wpAny _ _ (binaryOp Operator.Add (Value.int 1 _) (Value.int _ _)) _ _ _); k_dflt (refine' add01 ?h0_603 ?h1_603 ?_ ?_; (case h0_603 => assumption); (case h1_603 => assumption)); k_dflt (intro e9; subst e9); rotate_left; k_dflt (intro e9; subst e9); rotate_left)))
  (k_with "exec Assign cons ListComp" => ((k_here; (with_reducible show wpAny _ _ (exec (Stmt.Assign [Expr.Name (Str.ofString "sides") _] _ _) _) _ _ _); k_dflt (refine LCg.Assign_ListComp_U (F₀ := by k_asm) (by rfl) (by with_unfolding_all rfl) (by with_unfolding_all rfl) (by decide) (by rfl) (by decide) (by rfl) (by rfl) (by rfl) ?_))))
  (k_with "CompSrc" => ((k_here; k_dflt (refine LCg.CompSrc.range (by rfl) (by k_asm) (by k_asm) (by assumption) (by first | decide | rfl) (by first | rfl | decide) (by first | size_fits | exact Nat.le_of_ble_eq_true rfl) ?_; intro g'; lcg_lit))))
  (k_with "CompRest" => ((k_dflt first
  | (refine LCg.CompRest.succ ?_; intro v' I' oI' C' oC' D' m' h' tk' E' hv' hC' hx' F' N' off' ne'; (obtain ⟨t9', hv9'⟩ := hv'; subst hv9'))
  | refine LCg.CompRest.zero ?_)))
  (k_with "CompEnd" => ((k_dflt (refine' compEnd_side ?F_607 ?N_607 ?a_607 ?o_607 ?s_607 ?_; (case F_607 => assumption); (case N_607 => assumption); (case a_607 => assumption); (case o_607 => assumption); (case s_607 => trivial)))))
  (k_with "call ref" => ((k_here; (with_reducible show wpAny _ _ (call (Value.ref 310) _) _ _ _); k_dflt (refine' side_ct _ _ _ _ ?k1_608 ?k2_608 ?k3_608 ?k4_608 ?k5_608 ?kK_608 ?kd_608 ?ku_608 ?p0_608 ?p1_608 ?p2_608 ?p3_608 ?p4_608 ?p5_608 ?p6_608 ?p7_608 ?p8_608 ?p9_608 ?p10_608 ?p11_608 ?p12_608 ?p13_608 ?p14_608 ?p15_608 ?p16_608 ?_; (case k1_608 => k_asm); (case k2_608 => k_asm); (case k3_608 => k_asm); (case k4_608 => k_asm); (case k5_608 => k_asm); (case kK_608 => first | exact rfl | assumption); (case kd_608 => ktr_room); (case ku_608 => ktr_units); (case p0_608 => k_mem); (case p1_608 => k_mem); (case p2_608 => exact sub_side); (case p3_608 => exact side_offp (by assumption) (by assumption)); (case p4_608 => exact side_offt (by assumption) (by assumption)); (case p5_608 => assumption); (case p6_608 => k_mem); (case p7_608 => assumption); (case p8_608 => k_mem); (case p9_608 => assumption); (case p10_608 => assumption); (case p11_608 => assumption); (case p12_608 => assumption); (case p13_608 => assumption); (case p14_608 => assumption); (case p15_608 => omega); (case p16_608 => omega)); intro new' tup' x' op' f' kd' vx' v3' v' i' mx' c' ti' tm' tc' h' tk' F' N' abv' i1 i2 m1 m2 c1 c2 side'; k_dflt ((try dsimp only at N'); have oy1 := abv_offp abv' (by assumption); have oy2 := abv_offt abv' (by assumption); have oy3 := abv_off abv' (.tail _ (.tail _ (.tail _ (.tail _ (.tail _ (.head _)))))) (by assumption); have oy4 := abv_off abv' (.tail _ (.tail _ (.tail _ (.tail _ (.tail _ (.tail _ (.head _))))))) (by assumption); have oy5 := abv_off abv' (.tail _ (.tail _ (.tail _ (.tail _ (.tail _ (.tail _ (.tail _ (.head _)))))))) (by assumption); have oy6 := abv_off abv' (.tail _ (.tail _ (.tail _ (.head _)))) (by assumption); have oy7 := abv_off abv' (.tail _ (.tail _ (.tail _ (.tail _ (.head _))))) (by assumption); have ty9 := tyFs_app (new := new') (by assumption); have hp8 := abv5 abv' (.inl rfl) (by assumption); have ht8 := abv5 abv' (.inr rfl) (by assumption)); (try k_sweep); (try dsimp only); (try k_fold))))
  trivial
-- <priv
set_option maxHeartbeats 8000000 in
theorem tail12 (w : World) (mean : ExcName → Option Value) (mg mb : Str → Option Value) {body : List Stmt} {qual : Str} {scope : Scope} {dp un : Nat} {gd : Option (List Code)} {a : Addr} {ccd : Value} {outer : List Env} {A₀ : Around} {base h₀ : Heap} {L : Addr} {m : Str → Option Value} {hp : Heap} {gns : Array GenState} {drw : Drawn} {tk0 : Nat} {sos : OsState} {Q : Flow → Shared → Prop} {E : Value → Shared → Prop}
    {Z : List (Addr × Obj)} {pl fl Ta Td : Addr} {k : TyK} {c : Int} {tc : Tok} {vs : List Value} {figs : List Int} {n0 n1 : Nat} {i mx : Int} {ti tm : Tok} 
    (hb : LawB w body qual scope) (B : Below A₀ base outer h₀) (F : Fr h₀ L hp m) (X : (Mine.R.heap_1_1 w.params).In h₀) (N : News h₀ L hp ((pl, PoolO fl i ti mx tm n0) :: (Td, TyO w.params k c tc) :: Z)) (T : Top Mine.R.view_1_2 (looseW Mine.R.view_1_2 []) mean mg mb h₀) (hd : dp + 40 < recursionLimit) (hu : un + 300 < cLine)
    (hZp : ∀ p ∈ Z, p.1 ≠ pl) (hZt : ∀ p ∈ Z, p.1 ≠ Td) (hne : @Ne Nat pl Td) (hTa : (Ta, instObj 285 Td) ∈ Z) (hTy : TyFs Z k) (hfl : (fl, listOf vs.toArray n1) ∈ Z) (hI : IntsAre vs figs) (hi0 : 0 ≤ i) (hi1 : i ≤ figs.length) (hlen : figs.length ≤ 5000) (hm0 : 0 ≤ mx) (hm1 : mx < 1009) (hc0 : 0 ≤ c) (hc1 : c ≤ 800)
    {q1 q2 : Obj} (hcp : (L + 1, cellQ q1 (some (.ref pl))) ∈ Z) (hct : (L + 1 + 1, cellQ q2 (some (.ref Ta))) ∈ Z) {q3 q4 : Obj} {Z0 : List (Addr × Obj)} (hc3 : Z = (L + 1 + 1 + 1, cellQ q3 none) :: (L + 1 + 1 + 1 + 1, cellQ q4 none) :: Z0) (hc4 : Base0 L pl fl Ta Td vs n1 k q1 q2 Z0) 
    (hret : ∀ h' tk' m', Fr h₀ L h' m' → Q (.ret (.bool true)) ⟨h', gns, drw, tk', sos⟩) : LawAtE w dp un gd L a ccd outer 12 Q E ⟨hp, gns, drw, tk0, sos⟩ body qual scope := by
  refine' law_lit (P := LawAtE w dp un gd L a ccd outer 12 Q E ⟨hp, gns, drw, tk0, sos⟩) hb ?ho ?_
  (case ho => k_dflt k_is)
  intro hb' hE
  clear hb
  dsimp only [LawAt, List.drop]
  subst hc3
  obtain ⟨hTa0, hTy0, hfl0, hcp0, hct0, ho3, ho4⟩ := hc4
  obtain ⟨qa, qb⟩ := offc hZp
  obtain ⟨qc, hpl0⟩ := offc qb
  obtain ⟨qd, qe⟩ := offc hZt
  obtain ⟨qf, htd0⟩ := offc qe
  clear qb qe hTa hTy hfl hcp hct hZp hZt
  repeat' (first | ((fail_if_success (with_reducible show wpAny _ _ (pyIter _) _ _ _)); walk_at "MINE step"))
  k_here
  k_dflt (refine' loop12 (cb_drop (by assumption) perm12) ?hk ?hx ?hc ?hE ?hh ?hr ?h0 ?h4 ?hF ?hD ?hz ?b0 ?b1 ?b2 ?b3 ?b4 ?b5 (lf_zero ?y1 ?y2 ?y3 ?y4 ?y5 ?n1 ?n2) ?_ ?_)
  (case hk => rfl)
  (case hx => rfl)
  (case hc => rfl)
  (case hE => exact hE)
  (case hh => rfl)
  (case hr => assumption)
  (case h0 => assumption)
  (case h4 => assumption)
  (case hF => assumption)
  (case hD => constructor <;> (show @Ne Nat _ _) <;> omega)
  (case hz => refine List.forall_mem_cons.mpr ⟨?_, ho4⟩; (show @Ne Nat _ _); omega)
  (case b0 => assumption)
  (case b1 => assumption)
  (case b2 => assumption)
  (case b3 => assumption)
  (case b4 => assumption)
  (case b5 => assumption)
  (case n1 => walk_at "MINE look")
  (case n2 => walk_at "MINE look")
  (case y1 => first | k_all | fail "y1")
  (case y2 => first | k_all | fail "y2")
  (case y3 => first | k_all | fail "y3")
  (case y4 => first | k_all | fail "y4")
  (case y5 => first | k_all | fail "y5")
  rotate_left
  · intro m9 h9 tk9 i9 mx9 c9 ti9 tm9 tc9 es rv hv ne nr nh n9 Y hn b0 b1 b2 b3 b4 b5 hF F9 N9
    have hs := hF.sub
    have hlen3 := hF.len
    have y1 := hF.y1
    have y2 := hF.y2
    try dsimp only
    first | exact tail16 w mean mg mb (m := m9) hb' B F9 X N9 T hd hu (by k_all) (by k_all) hne (sub_tl3b _ (hs _ (.tail _ hTa0))) (hTy0.mono fun p hp => sub_tl3b _ (hs _ (.tail _ hp))) (sub_tl3b _ (hs _ (.tail _ hfl0))) hI b0 b1 hlen b2 b3 b4 (by omega) (sub_tl3b _ (hs _ (.tail _ hcp0))) (sub_tl3b _ (hs _ (.tail _ hct0))) (.head _) (.tail _ (.head _)) (.tail _ (.tail _ (.head _))) (hF.rows.mono sub_tl3b) (hF.held.mono sub_tl3b) (fun e he => (hF.ok e he).mono sub_tl3b) hF.ups (by omega) hF.n1 hF.n2 (sub_tl3b _ (hs _ (.head _))) (fun h' tk' m' F' => hret h' tk' m' F') hE | fail "tail16"
  intro i8 t8 m₁ h8 tk8 I8 oI8 i9 mx9 c9 ti9 tm9 tc9 es rv hv ne nr nh Y D8 hi4 b0 b1 b2 b3 b4 b5 hF o1 o2 o3 o4 o5 o6 hYI hYc F9 N9
  have hs := hF.sub
  have hTaY := hs _ (.tail _ hTa0)
  have hTyY := hTy0.mono fun p hp => hs p (.tail _ hp)
  have hflY := hs _ (.tail _ hfl0)
  have hcpY := hs _ (.tail _ hcp0)
  have hctY := hs _ (.tail _ hct0)
  have hchY := hs _ (.head _)
  have y1 := hF.y1
  have y2 := hF.y2
  have y3 := hF.y3
  have y4 := hF.y4
  have y5 := hF.y5
  have z1 := hF.n1
  have z2 := hF.n2
  obtain ⟨hp8, ht8⟩ := all5 N9 D8 o1 o2 y1 y2
  clear hs hTa0 hfl0 hcp0 hct0 hTy0 hm0 hm1 hi0 hi1 hc0 hc1
  repeat' (first | ((fail_if_success (with_reducible show wpAny _ _ (execs (Stmt.Expr _ _ :: _) _) _ _ _)); walk_at "MINE step"))
  · first
    | refine turnT1 w mean mg mb (m := _) hb' B (by k_asm) X (by first | assumption | fail "N") T hd hu (turn_apart D8 o3 o4 o5 (by assumption)) (by assumption) (by assumption) (by assumption) (by walk_at "MINE zmem") (by walk_at "MINE zmem") (by walk_at "MINE zmem") hi4 (hF.lens hi4).1 (hF.lens hi4).2.1 (hF.lens hi4).2.2 (by walk_at "MINE look") (by walk_at "MINE look") (by walk_at "MINE look") (hF.rows.mono (fun p hp => by walk_at "MINE zmem")) (by assumption) ?_ hE
    | fail "one"
    intro h' tk' m' T xn rv' nr' new F e1 e2 N hoff hr hEl hT
    exact turn_end (s1 := ⟨h8, gns, drw, tk8, sos⟩) D8 hF o1 o2 o3 o4 o5 (by assumption) (by assumption) (by assumption) (by assumption) (by omega) (by omega) (fun p hp => by walk_at "MINE zmem") (tl5 (by assumption)) (tl5 (by assumption)) (by assumption) (by assumption) (by assumption) (by assumption) (by assumption) F e1 e2 N hoff hr hEl hT ups1 pls1 (SideT.ov (by assumption)) (SideT.ov (by assumption))
  · first
    | refine turnT2 w mean mg mb (m := _) hb' B (by k_asm) X (by first | assumption | fail "N") T hd hu (turn_apart D8 o3 o4 o5 (by assumption)) (by assumption) (by assumption) (by assumption) (by walk_at "MINE zmem") (by walk_at "MINE zmem") (by walk_at "MINE zmem") hi4 (hF.lens hi4).1 (hF.lens hi4).2.1 (hF.lens hi4).2.2 (by walk_at "MINE look") (by walk_at "MINE look") (by walk_at "MINE look") (hF.rows.mono (fun p hp => by walk_at "MINE zmem")) (SideT.mono (by assumption) (fun p hp => by walk_at "MINE zmem")) (by assumption) ?_ hE
    | fail "two"
    intro h' tk' m' T xn rv' nr' new F e1 e2 N hoff hr hEl hT
    exact turn_end (s1 := ⟨h8, gns, drw, tk8, sos⟩) D8 hF o1 o2 o3 o4 o5 (by assumption) (by assumption) (by assumption) (by assumption) (by omega) (by omega) (fun p hp => by walk_at "MINE zmem") (tl5 (by assumption)) (tl5 (by assumption)) (by assumption) (by assumption) (by assumption) (by assumption) (by assumption) F e1 e2 N hoff hr hEl hT ups2 pls2 (SideT.ov (by assumption)) (SideT.ov (by assumption))
/-! law9a -/
theorem reg82 : True := by
  w_top off
  k_with_none
  (k_with "subscriptTail" => ((k_here; (with_reducible show wpAny _ _ (subscriptTail _ _ (Value.ref _) (Value.int _ _)) _ _ _); k_dflt (refine' itemN ?k1_609 ?k2_609 ?k3_609 ?k4_609 ?k5_609 ?_ ?k6_609; (case k1_609 => k_asm); (case k2_609 => k_mem); (case k3_609 => decide); (case k4_609 => decide); (case k5_609 => rfl); (case k6_609 => with_unfolding_all rfl); k_whole))))
  (k_with "subscriptTail" => ((k_here; (with_reducible show wpAny _ _ (subscriptTail _ _ (Value.ref _) (Value.int _ _)) _ _ _); k_dflt (refine' itemT ?k1_610 ?k2_610 ?k3_610 ?k4_610 ?k5_610 ?_ ?k6_610; (case k1_610 => k_asm); (case k2_610 => k_mem); (case k3_610 => decide); (case k4_610 => decide); (case k5_610 => rfl); (case k6_610 => with_unfolding_all rfl); k_whole))))
  (k_with "subscriptTail Name Constant ref int" => ((k_here; k_dflt (first | (refine' itemT ?k1_611 ?k2_611 ?k3_611 ?k4_611 ?k5_611 ?_ ?k6_611; (case k1_611 => k_asm); (case k2_611 => k_mem); (case k3_611 => decide); (case k4_611 => decide); (case k5_611 => rfl); (case k6_611 => with_unfolding_all rfl); k_whole) | (refine' itemN ?k1_611 ?k2_611 ?k3_611 ?k4_611 ?k5_611 ?_ ?k6_611; (case k1_611 => k_asm); (case k2_611 => k_mem); (case k3_611 => decide); (case k4_611 => decide); (case k5_611 => rfl); (case k6_611 => with_unfolding_all rfl); k_whole)))))
  (k_with "getItem ref int" => ((k_here; k_dflt (refine' getN ?k1_612 ?k2_612 ?k3_612 ?k4_612 ?k5_612 ?_; (case k1_612 => k_asm); (case k2_612 => k_mem); (case k3_612 => decide); (case k4_612 => decide); (case k5_612 => rfl); k_whole))))
  (k_with "call builtin:len" => ((k_here; (with_reducible show wpAny _ _ (call (Value.builtin "len") [Value.ref _]) _ _ _); k_dflt (refine' kst_len ?k1_613 ?k2_613 ?k3_613 ?k4_613 ?_; (case k1_613 => k_asm); (case k2_613 => k_mem); (case k3_613 => first | exact IntsAre.length (by assumption) | assumption); (case k4_613 => omega); k_whole))))
  (k_with "X k_updF" => (with_reducible assumption))
  (k_with "X k_upd" => (exact UpdF.toUpd (by assumption) _))
  (k_with "X k_mem" => (exact UpdF.mem (by assumption)))
  (k_with "X k_mem" => (exact UpdF.mem' (by assumption) _))
  (k_with "X k_enter" => ((refine' code_def ?k1_618 ?k2_618 ?k3_618 ?k4_618 ?k5_618 ?kA_618 ?kF_618 ?kK_618 ?k6_618 ?k7_618 ?k8_618 ?k9_618 ?kB_618 ?_ ?c2_618 ?c3_618 ?c4_618 ?c5_618; (case kA_618 => exact rfl); (case kF_618 => exact rfl); (case kK_618 => first | exact rfl | assumption); (case k1_618 => k_asm); (case k2_618 => k_asm); (case k3_618 => k_asm); (case k4_618 => k_asm); (case k5_618 => k_asm); (case k6_618 => k_is); (case k7_618 => k_is); (case k8_618 => ktr_room); (case k9_618 => first | exact BindsTo.of_eq rfl | exact binds_K (by k_in) rfl (by k_is) rfl rfl rfl | fail "k_enter: no rule for these arguments"); (case c5_618 => decide); (case kB_618 => exact locs rfl); (case c2_618 => exact rfl); (case c3_618 => exact rfl); (case c4_618 => exact rfl); k_whole; intro g' L' h' FG' F' N' B' X' T'; (try dsimp only); (try k_lift B'); (try k_fold))))
  (k_with "X k_room" => (ktr_room))
  (k_with "X k_units" => (ktr_units))
  (k_with "getAttr ref" => ((k_here; k_dflt (first
  | refine' get_has ?k1_621 ?k2_621 ?k3_621 ?k4_621 ?k5_621 ?k6_621 ?k7_621 ?k8_621 ?k9_621 ?_; (case k1_621 => k_asm); (case k2_621 => k_asm); (case k3_621 => k_asm); (case k4_621 => with_reducible assumption); (case k5_621 => first | exact fun _ h => h | (intro p hp; repeat (first | exact hp | apply List.mem_cons_of_mem))); (case k6_621 => k_is); (case k7_621 => k_is); (case k8_621 => k_is); (case k9_621 => k_is); k_whole
  | refine' get_has2 ?k1_621 ?k2_621 ?k3_621 ?k4_621 ?k5_621 ?k6_621 ?k7_621 ?k8_621 ?k9_621 ?_; (case k1_621 => k_asm); (case k2_621 => k_asm); (case k3_621 => k_asm); (case k4_621 => with_reducible assumption); (case k5_621 => first | exact fun _ h => h | (intro p hp; repeat (first | exact hp | apply List.mem_cons_of_mem))); (case k6_621 => k_is); (case k7_621 => k_is); (case k8_621 => k_is); (case k9_621 => k_is); k_whole))))
  (k_with "X size_fits" => ((simp only [List.size_toArray, PySem.sizeLine_eq]; omega)))
  (k_with "binaryOp FloorDiv int int" => ((refine floordiv_int ?_ ?_ (Or.inl (noPy (by omega))); first | decide | omega)))
  (k_with "MINE sub" => (first | exact fun _ h => h | (intro p hp; repeat (first | exact hp | apply List.mem_cons_of_mem))))
  (k_with "MINE subxy" => ((intro x y p hp; repeat (first | exact hp | apply List.mem_cons_of_mem))))
  (k_with "X ktr_units" => (first | k_dflt (first | exact far2 (by with_reducible assumption) (by decide) | exact far1 (by with_reducible assumption) (by decide)) | (have hcL9 := cLine_is; ((try simp only [units_under_make, units_in1, units_deeper, Around.mark_units, units_caller]); (try dsimp only [ktrTop]); omega))))
  (k_with "X ktr_room" => (first | k_dflt (first | exact far2 (by with_reducible assumption) (by decide) | exact far1 (by with_reducible assumption) (by decide)) | ((with_reducible refine room_make ?_); k_dflt (first | exact far2 (by with_reducible assumption) (by decide) | exact far3 (by with_reducible assumption) (by decide) | exact far1 (by with_reducible assumption) (by decide)))))
  (k_with "X k_all" => (k_dflt exact ne_allLt (by assumption)))
  (k_with "MINE ar" => (with_reducible (first | assumption | exact aN1 (by assumption) | exact aN2 (by assumption) | exact aN3 (by assumption) | exact aN4 (by assumption) | exact aN5 (by assumption) | exact aN6 (by assumption) | exact aN7 (by assumption) | exact aN8 (by assumption) | exact aN9 (by assumption) | exact aN10 (by assumption) | exact aN11 (by assumption) | exact aN12 (by assumption))))
  (k_with "X omega" => (first | with_reducible assumption | (with_reducible refine Nat.ne_of_gt ?_; walk_at "MINE ar") | (with_reducible refine Nat.ne_of_lt ?_; walk_at "MINE ar") | ((with_reducible show @Ne Nat _ _); first | with_reducible exact Ne.symm (by assumption) | walk_at "MINE ar" | (with_reducible refine Ne.symm ?_; walk_at "MINE ar") | (with_reducible refine ne_tr (by assumption) ?_; walk_at "MINE ar")) | ((with_reducible show @LT.lt Nat _ _ _); with_reducible (first | exact far1 (by assumption) (by decide) | exact far2 (by assumption) (by decide) | exact far3 (by assumption) (by decide) | exact far0 (by assumption) | walk_at "MINE ar")) | ((with_reducible show @LE.le Nat _ _ _); with_reducible exact Nat.le_trans (by assumption) (by decide)) | ((with_reducible show @LT.lt Int _ _ _); with_reducible (first | exact Int.lt_of_lt_of_le (by assumption) (by decide) | exact int_ll (by assumption) (by decide))) | ((with_reducible show @LE.le Int _ _ _); with_reducible (first | exact Int.le_refl _ | exact i_le1 _ | exact Int.le_trans (by assumption) (by decide))) | decide))
  (k_with "MINE step" => ((first | (k_unfold; (try dsimp only)) | (k_end; wrow_close) | walk1 | (dsimp only; walk1) | (leave1; try dsimp only) | fail "no step")))
  (k_with "X k_mem" => (exact mem_of (by with_reducible assumption)))
  (k_with "ite" => (((with_reducible show (if (_ == Str.ofString _) = true then _ else _)); first | (refine ite_pos (by with_reducible assumption) ?_) | (refine ite_strF (by with_reducible assumption) ?_) | (refine ite_strF (str_ne (by with_reducible assumption) (by decide)) ?_))))
  (k_with "ite" => (((with_reducible show (if (_ != Str.ofString _) = true then _ else _)); first | (refine ite_pos (by with_reducible assumption) ?_) | (refine ite_strneF (by with_reducible assumption) ?_) | (refine ite_strneF (str_ne (by with_reducible assumption) (by decide)) ?_))))
  (k_with "MINE look" => ((repeat (first | with_reducible exact lk_hd | with_reducible exact if_hd | with_reducible refine lk_tl (by decide) ?_ | with_reducible refine if_tl (by decide) ?_))))
  (k_with "eval Name" => ((k_here; (fail_if_success (with_reducible show wpAny _ _ (eval _ (compEnvC _ _ _ _)) _ _ _)); k_dflt (first | (refine' nameQ ?F_636 ?v_636 ?_ ?k_636 ?a_636 ?b_636; (case k_636 => rfl); (case a_636 => decide); (case b_636 => decide); (case F_636 => k_asm); (case v_636 => walk_at "MINE look"); k_whole) | (refine' nameQK ?F_636 ?X_636 ?T_636 ?e_636 ?_ ?k_636 ?a_636 ?b_636; (case k_636 => rfl); (case a_636 => decide); (case b_636 => decide); (case F_636 => k_asm); (case X_636 => k_asm); (case T_636 => k_asm); (case e_636 => k_is); k_whole)))))
  (k_with "ite" => (first | with_reducible refine i_tt ?_ | with_reducible refine i_ff ?_ | with_reducible refine i_True ?_ | with_reducible refine i_False ?_ | with_reducible refine i_not ?_))
  (k_with "X k_enter" => ((refine' code_pos ?k1_638 ?k2_638 ?k3_638 ?k4_638 ?k5_638 ?kA_638 ?kF_638 ?kK_638 ?k6_638 ?k7_638 ?k8_638 ?k9_638 ?kB_638 ?_ ?c2_638 ?c3_638 ?c4_638 ?c5_638; (case kA_638 => exact rfl); (case kF_638 => exact rfl); (case kK_638 => first | exact rfl | assumption); (case k1_638 => k_asm); (case k2_638 => k_asm); (case k3_638 => k_asm); (case k4_638 => k_asm); (case k5_638 => k_asm); (case k6_638 => k_is); (case k7_638 => k_is); (case k8_638 => ktr_room); (case k9_638 => exact BindsTo.of_eq rfl); (case c5_638 => decide); (case kB_638 => exact locs rfl); (case c2_638 => exact rfl); (case c3_638 => exact rfl); (case c4_638 => exact rfl); k_whole; intro g' L' h' FG' F' N' B' X' T'; (try simp only [zipB, List.reverse_cons, List.reverse_nil, List.nil_append, List.cons_append] at F'); (try dsimp only); (try k_lift B'); (try k_fold))))
  (k_with "ite" => ((k_closed; first | with_reducible refine i_pos (by decide) ?_ | with_reducible refine i_neg (by decide) ?_)))
  (k_with "getItem ref str" => ((k_here; k_dflt (refine' getS ?k1_640 ?k2_640 ?_; (case k1_640 => k_tabat); (case k2_640 => (repeat (first | with_reducible exact lookD_hd | with_reducible refine lookD_tl (by decide) ?_ | with_reducible exact lookS_hd | with_reducible refine lookS_tl (by decide) ?_))); k_whole); intro _)))
  (k_with "MINE ga" => (first | exact Ga.has (by k_asm) (by k_asm) (by k_asm) (by with_reducible assumption) (by walk_at "MINE sub") (by k_is) (by k_is) (by k_is) (by k_is) | exact Ga.has2 (by k_asm) (by k_asm) (by k_asm) (by with_reducible assumption) (by walk_at "MINE sub") (by k_is) (by k_is) (by k_is) (by k_is) | exact Ga.own (by k_asm) (by k_asm) (by k_asm) (by k_mem) (by k_mem) (by k_is) (by k_is) (by k_is) (by k_is) (by k_get) (by k_handed)))
  (k_with "MINE tmem" => (first | with_reducible assumption | with_reducible exact List.mem_cons_self | (with_reducible refine List.mem_cons_of_mem _ ?_; walk_at "MINE tmem") | (with_reducible refine List.mem_append_right _ ?_; walk_at "MINE tmem")))
  (k_with "MINE ev" => (first | ((with_reducible show Ev _ _ _ _ _ (Expr.Name _ _) _ _); (fail_if_success (with_reducible show Ev _ _ (compEnvC _ _ _ _) _ _ _ _ _)); exact Ev.name (by k_asm) (by walk_at "MINE look") rfl (by decide) (by decide)) | ((with_reducible show Ev _ _ _ _ _ (Expr.Attribute _ _ _) _ _); exact Ev.attr (by walk_at "MINE ev") (by walk_at "MINE ga") (by with_unfolding_all rfl)) | with_reducible exact Ev.str | with_reducible exact Ev.int | with_reducible exact Ev.none | ((with_reducible show Ev _ _ _ _ _ (Expr.Subscript _ (Expr.Constant _ _ _) _) _ _); first | exact Ev.itemT (by walk_at "MINE ev") (by k_asm) (by walk_at "MINE tmem") (by decide) (by decide) (by first | with_reducible exact it0 | with_reducible exact it1 | with_reducible exact it2 | rfl) | exact Ev.itemL (by walk_at "MINE ev") (by k_asm) (by walk_at "MINE tmem") (by decide) (by decide) (by first | with_reducible exact it0 | with_reducible exact it1 | with_reducible exact it2 | rfl))))
  (k_with "MINE vs" => (first | ((with_reducible show Vs _ _ _ _ _ (_ :: _) _ _ _); exact Vs.cons (by walk_at "MINE ev") rfl (by walk_at "MINE vs")) | with_reducible exact Vs.nil))
  (k_with "MINE vp" => (first | ((with_reducible show Vs _ _ _ _ _ (_ :: _) _ _ _); exact Vs.cons (by walk_at "MINE ev") rfl (by walk_at "MINE vp")) | with_reducible exact Vs.nil))
  (k_with "spliced" => ((k_here; (with_reducible show wpAny _ _ (spliced (backTo _ (starEach (_ :: _) _))) _ _ _); k_dflt (first | ((with_reducible refine' args_all ?s_646 ?V_646 ?_); (case s_646 => exact rfl); (case V_646 => walk_at "MINE vs"); k_whole) | ((with_reducible refine' args_ev ?s_646 ?V_646 ?_); (case s_646 => exact rfl); (case V_646 => ((with_reducible show Vs _ _ _ _ _ (_ :: _) _ _ _); exact Vs.cons (by walk_at "MINE ev") rfl (by walk_at "MINE vp"))); k_whole)))))
  (k_with "eval Call" => ((k_here; (fail_if_success (with_reducible show wpAny _ _ (eval _ (compEnvC _ _ _ _)) _ _ _)); k_dflt (refine' call_ev ?F_647 ?X_647 ?T_647 ?e_647 ?k_647 ?a_647 ?b_647 ?f_647 ?c_647 ?s_647 ?V_647 ?_; (case s_647 => exact rfl); (case k_647 => rfl); (case a_647 => decide); (case b_647 => decide); (case F_647 => k_asm); (case X_647 => k_asm); (case T_647 => k_asm); (case e_647 => k_is); (case c_647 => exact rfl); (case f_647 => k_is); (case V_647 => walk_at "MINE vs"); k_whole))))
  (k_with "isTrue Compare" => ((k_here; first | ((with_reducible show wpAny _ _ (isTrue (Expr.Compare _ [CmpOp.Eq] [_] _) _ _) _ _ _); k_dflt (refine' ev_eqs ?s_648 ?x_648 ?y_648 ?m_648 ?_; (case s_648 => exact rfl); (case m_648 => with_unfolding_all rfl); (case x_648 => walk_at "MINE ev"); (case y_648 => walk_at "MINE ev"); k_whole)) | ((with_reducible show wpAny _ _ (isTrue (Expr.Compare _ [CmpOp.NotEq] [_] _) _ _) _ _ _); k_dflt (refine' ev_nes ?s_648 ?x_648 ?y_648 ?m_648 ?_; (case s_648 => exact rfl); (case m_648 => with_unfolding_all rfl); (case x_648 => walk_at "MINE ev"); (case y_648 => walk_at "MINE ev"); k_whole)) | ((with_reducible show wpAny _ _ (isTrue (Expr.Compare _ [CmpOp.In] [Expr.List _ _] _) _ _) _ _ _); k_dflt (refine' ev_inL ?s_648 ?e_648 ?z_648 ?m_648 ?F_648 ?N_648 ?x_648 ?_; (case s_648 => exact rfl); (case e_648 => exact rfl); (case z_648 => exact rfl); (case m_648 => with_unfolding_all rfl); (case F_648 => k_asm); (case N_648 => k_asm); (case x_648 => walk_at "MINE ev"); k_whole); intro h' tk' F' N'; (try k_sweep); (try dsimp only)) | ((with_reducible show wpAny _ _ (isTrue (Expr.Compare _ [CmpOp.In] [Expr.Tuple _ _ _] _) _ _) _ _ _); k_dflt (refine' ev_inT ?s_648 ?e_648 ?z_648 ?m_648 ?F_648 ?N_648 ?x_648 ?_; (case s_648 => exact rfl); (case e_648 => exact rfl); (case z_648 => exact rfl); (case m_648 => with_unfolding_all rfl); (case F_648 => k_asm); (case N_648 => k_asm); (case x_648 => walk_at "MINE ev"); k_whole); intro h' tk' F' N'; (try k_sweep); (try dsimp only)))))
  (k_with "eval BinOp" => ((k_here; k_dflt (refine' ev_bin ?s_649 ?x_649 ?y_649 ?_; (case s_649 => exact rfl); (case x_649 => walk_at "MINE ev"); (case y_649 => walk_at "MINE ev"); k_whole))))
  (k_with "eval Subscript" => ((k_here; k_dflt (refine' ev_sub ?s_650 ?x_650 ?y_650 ?_; (case s_650 => exact rfl); (case x_650 => walk_at "MINE ev"); (case y_650 => walk_at "MINE ev"); k_whole))))
  (k_with "eval Subscript" => ((k_here; (with_reducible show wpAny _ _ (eval (Expr.Subscript _ (Expr.Constant _ _ _) _) _) _ _ _); k_dflt (refine' ev_use ?s_651 ?x_651 ?_; (case s_651 => exact rfl); (case x_651 => walk_at "MINE ev"); k_whole))))
  (k_with "eval Attribute" => ((k_here; k_dflt (refine' ev_use ?s_652 ?x_652 ?_; (case s_652 => exact rfl); (case x_652 => walk_at "MINE ev"); k_whole))))
  (k_with "exec Return" => ((k_here; k_dflt (refine' ev_ret ?s_653 ?x_653 ?_; (case s_653 => exact rfl); (case x_653 => walk_at "MINE ev"); k_whole))))
  (k_with "storeName" => ((k_here; k_dflt (refine' storeE ?F_654 ?N_654 ?a_654 ?b_654 ?_; (case a_654 => rfl); (case b_654 => decide); (case F_654 => k_asm); (case N_654 => k_asm); k_whole); intro h' tk' F' N'; (try k_sweep))))
  (k_with "newList" => ((k_here; k_dflt (refine' newListE ?F_655 ?N_655 ?z_655 ?_; (case F_655 => k_asm); (case N_655 => k_asm); (case z_655 => size_fits); k_whole); intro l' h' F' N' l1; (try k_lt l1); (try k_sweep))))
  (k_with "newTuple" => ((k_here; kup_bare; k_dflt (refine' newTupleE ?F_656 ?N_656 ?z_656 ?_; (case F_656 => k_asm); (case N_656 => k_asm); (case z_656 => kmk_size); k_whole); intro D' h' F' N' l1; (try k_lt l1); (try k_sweep))))
  (k_with "call builtin:list.append" => ((k_here; (with_reducible show wpAny _ _ (call (Value.builtin _) [Value.ref _, _]) _ _ _); k_dflt (refine' appendE ?F_657 ?N_657 ?U_657 ?z_657 ?_; (case F_657 => k_asm); (case N_657 => k_asm); (case U_657 => k_upd); (case z_657 => size_fits); k_whole); intro h' F' N'; (try k_sweep))))
  (k_with "setAttr ref" => ((k_here; k_dflt (refine' setE ?F_658 ?X_658 ?N_658 ?i_658 ?j_658 ?k6_658 ?k7_658 ?k8_658 ?k9_658 ?k10_658 ?k11_658 ?k12_658 ?k13_658 ?_; (case F_658 => k_asm); (case X_658 => k_asm); (case N_658 => k_asm); (case i_658 => k_mem); (case j_658 => k_mem); (case k6_658 => k_is); (case k7_658 => k_is); (case k8_658 => k_is); (case k9_658 => k_is); (case k10_658 => k_get); (case k11_658 => k_put); (case k12_658 => k_upd); (case k13_658 => exact rfl); k_whole); intro h' tk' F' N'; (try k_sweep))))
  (k_with "LeaveK" => ((k_dflt (refine' leaveE ?F_659 ?N_659 ?_; (case F_659 => k_asm); (case N_659 => k_asm); k_whole); intro kF kN; (try dsimp only [InitBack]); (try refine ⟨rfl, ?_⟩))))
  (k_with "X k_enter" => ((refine' codeE ?k1_660 ?k2_660 ?k3_660 ?k4_660 ?k5_660 ?kA_660 ?kF_660 ?kK_660 ?k6_660 ?k7_660 ?k8_660 ?k9_660 ?kB_660 ?c2_660 ?c3_660 ?c4_660 ?c5_660 ?_; (case kA_660 => exact rfl); (case kF_660 => exact rfl); (case kK_660 => first | exact rfl | assumption); (case k1_660 => k_asm); (case k2_660 => k_asm); (case k3_660 => k_asm); (case k4_660 => k_asm); (case k5_660 => k_asm); (case k6_660 => k_is); (case k7_660 => k_is); (case k8_660 => ktr_room); (case k9_660 => exact BindsTo.of_eq rfl); (case c5_660 => decide); (case kB_660 => exact locs rfl); (case c2_660 => exact rfl); (case c3_660 => exact rfl); (case c4_660 => exact rfl); k_whole; intro g' L' h' tk' FG' F' N' B' X' T' nK aK; (try dsimp only [zipB, List.reverse, List.reverseAux] at F'); (try k_lift B'); (try k_fold))))
  (k_with "execs cons" => (first | with_reducible refine seq_if ?_ | with_reducible refine seq_cons ?_))
  (k_with "SeqK" => (first | with_reducible refine seq_end ?_ | with_reducible refine seq_next ?_ | with_reducible refine seq_ret ?_ | with_reducible refine seq_brk ?_ | with_reducible refine seq_cont ?_))
  (k_with "IfK" => (with_reducible refine ifK_open ?_))
  (k_with "AndK" => (with_reducible refine andK_open ?_))
  (k_with "OrK" => (with_reducible refine orK_open ?_))
  (k_with "exec If" => (with_reducible refine if_k ?_))
  (k_with "isTrue BoolOp" => (first | with_reducible refine and_k ?_ | with_reducible refine or_k ?_))
  (k_with "BackK" => ((k_dflt (first | (refine' backQ ?F_668 ?N_668 ?_; (case F_668 => k_asm); (case N_668 => k_asm); k_whole) | (refine' backN ?F_668 ?N_668 ?_; (case F_668 => k_asm); (case N_668 => k_asm); k_whole) | (refine' backR ?F_668 ?N_668 ?_; (case F_668 => k_asm); (case N_668 => k_asm); k_whole) | (refine' backRN ?F_668 ?N_668 ?_; (case F_668 => k_asm); (case N_668 => k_asm); k_whole)); intro kF kN; (try dsimp only [InitBack]); (try refine ⟨rfl, ?_⟩))))
  (k_with "compareOp In" => ((k_here; (with_reducible show wpAny _ _ (compareOp CmpOp.In Value.none (Value.ref _)) _ _ _); k_dflt (refine' in_none ?k1_669 ?k2_669 ?k3_669 ?k4_669 ?k5_669 ?_ ?_; (case k1_669 => k_asm); (case k2_669 => k_mem); (case k3_669 => assumption); (case k4_669 => assumption); (case k5_669 => ktr_units)); (intro hn; (try dsimp only)); rotate_left; (intro x' t' y' u' e1 e2 e3 e4; cases e1; (try cases e2); (try cases e3); (try cases e4); (try dsimp only)); rotate_left)))
  (k_with "compareOp IsNot" => ((k_here; (with_reducible show wpAny _ _ (compareOp CmpOp.IsNot _ Value.none) _ _ _); k_dflt (refine' isNot_none ?k3_670 ?_ ?_; (case k3_670 => assumption)); (intro e1 e2; subst e1 e2; (try dsimp only)); rotate_left; (intro x' t' e1 e2; subst e1 e2; (try dsimp only)); rotate_left)))
  (k_with "compareOp Is" => ((k_here; (with_reducible show wpAny _ _ (compareOp CmpOp.Is _ Value.none) _ _ _); k_dflt (refine' is_none ?k3_671 ?_ ?_; (case k3_671 => assumption)); (intro e1 e2; subst e1 e2; (try dsimp only)); rotate_left; (intro x' t' e1 e2; subst e1 e2; (try dsimp only)); rotate_left)))
  (k_with "MINE look" => ((repeat (first | with_reducible assumption | with_reducible exact lk_hd | with_reducible exact if_hd | with_reducible refine lk_tl (by decide) ?_ | with_reducible refine if_tl (by decide) ?_))))
  (k_with "MyPost" => ((dsimp only [MyPost])))
  (k_with "loadName" => ((k_here; k_dflt (refine' ldn ?F_674 ?v_674 ?_ ?k_674 ?a_674; (case k_674 => rfl); (case a_674 => rfl); (case F_674 => k_asm); (case v_674 => walk_at "MINE look"); k_whole))))
  (k_with "execs nil" => ((with_reducible refine wpAny_execs_nil ?_)))
  (k_with "CompEnd" => (((rename News _ _ _ _ => nE'); k_dflt (refine LCg.CompEnd.intro (by assumption) nE' _ (fun _ h => h) (by assumption) (by lcg_src) ?_))))
  (k_with "binaryOp Pow int int" => (((with_reducible refine pow_int_small ?_ ?_ ?_ ?_); (first | decide | omega); (first | decide | omega); (decide))))
  (k_with "MINE rows" => (first | with_reducible assumption | exact RowsAre.nil | exact RowsAre.cons (by first | assumption | decide +kernel) (by k_mem) .nil))
  (k_with "MINE ints" => (first | with_reducible assumption | exact IntsAre.nil | exact IntsAre.cons _ _ .nil | exact IntsAre.cons _ _ (.cons _ _ .nil) | exact IntsAre.cons _ _ (.cons _ _ (.cons _ _ .nil))))
  (k_with "compareOp NotEq ref ref" => ((k_here; k_dflt (refine' ne_rowsS ?k1_680 ?k2_680 ?k3_680 ?k4_680 ?k5_680 ?k6_680 ?_; (case k1_680 => k_asm); (case k2_680 => k_mem); (case k3_680 => k_mem); (case k4_680 => walk_at "MINE rows"); (case k5_680 => walk_at "MINE rows"); (case k6_680 => ktr_units); k_whole))))
  (k_with "compareOp Eq ref ref" => ((k_here; k_dflt (refine' eq_intsS ?k1_681 ?k2_681 ?k3_681 ?k4_681 ?k5_681 ?k6_681 ?_; (case k1_681 => k_asm); (case k2_681 => k_mem); (case k3_681 => k_mem); (case k4_681 => walk_at "MINE ints"); (case k5_681 => walk_at "MINE ints"); (case k6_681 => ktr_units); k_whole))))
  (k_with "call ref" => ((k_here; (with_reducible show wpAny _ _ (call (Value.ref 303) _) _ _ _); k_dflt (refine' pick_ct _ _ _ _ ?k1_682 ?k2_682 ?k3_682 ?k4_682 ?k5_682 ?kK_682 ?kd_682 ?ku_682 ?p0_682 ?p1_682 ?p2_682 ?p3_682 ?p4_682 ?p5_682 ?p6_682 ?p7_682 ?p8_682 ?p9_682 ?_; (case k1_682 => k_asm); (case k2_682 => k_asm); (case k3_682 => k_asm); (case k4_682 => k_asm); (case k5_682 => k_asm); (case kK_682 => first | exact rfl | assumption); (case kd_682 => ktr_room); (case ku_682 => ktr_units); (case p0_682 => k_updF); (case p1_682 => k_mem); (case p2_682 => assumption); (case p3_682 => omega); (case p4_682 => omega); (case p5_682 => omega); (case p6_682 => omega); (case p7_682 => omega); (case p8_682 => decide); (case p9_682 => decide)); intro r' t' i' ti' mx' tm' h' tk' F' N' r1 r2 i1 i2 m1 m2; (try dsimp only at N'); (try k_sweep); (try dsimp only); (try k_fold))))
  (k_with "call ref" => ((k_here; (with_reducible show wpAny _ _ (call (Value.ref 88) [_, _, _, _, _]) _ _ _); k_dflt (refine' node_ct _ _ _ _ ?k1_683 ?k2_683 ?k3_683 ?k4_683 ?k5_683 ?kK_683 ?kd_683 ?ku_683  ?_; (case k1_683 => k_asm); (case k2_683 => k_asm); (case k3_683 => k_asm); (case k4_683 => k_asm); (case k5_683 => k_asm); (case kK_683 => first | exact rfl | assumption); (case kd_683 => ktr_room); (case ku_683 => ktr_units)); intro x' d' t1 t2 t3 t4 t5 t6 h' tk' F' N' l1 l2; (try k_lt l1); (try k_lt2 l2); (try k_sweep); (try dsimp only); (try k_fold))))
  (k_with "call ref" => ((k_here; (with_reducible show wpAny _ _ (call (Value.ref 88) [_, _, _, _]) _ _ _); k_dflt (refine' node4_ct _ _ _ _ ?k1_684 ?k2_684 ?k3_684 ?k4_684 ?k5_684 ?kK_684 ?kd_684 ?ku_684  ?_; (case k1_684 => k_asm); (case k2_684 => k_asm); (case k3_684 => k_asm); (case k4_684 => k_asm); (case k5_684 => k_asm); (case kK_684 => first | exact rfl | assumption); (case kd_684 => ktr_room); (case ku_684 => ktr_units)); intro x' d' tq1 tq2 tq3 tq4 tq5 tq6 h' tk' F' N' l1 l2; (try k_lt l1); (try k_lt2 l2); (try k_sweep); (try dsimp only); (try k_fold))))
  (k_with "call ref" => ((k_here; (with_reducible show wpAny _ _ (call (Value.ref 99) _) _ _ _); k_dflt (refine' const_ct _ _ _ _ ?k1_685 ?k2_685 ?k3_685 ?k4_685 ?k5_685 ?kK_685 ?kd_685 ?ku_685  ?_; (case k1_685 => k_asm); (case k2_685 => k_asm); (case k3_685 => k_asm); (case k4_685 => k_asm); (case k5_685 => k_asm); (case kK_685 => first | exact rfl | assumption); (case kd_685 => ktr_room); (case ku_685 => ktr_units)); intro x' d' l' t0 t1 t2 t3 t4 t5 t6 h' tk' F' N' l1 l2 l3; (try k_lt l1); (try k_lt2 l2); (try k_lt2 l3); (try k_sweep); (try dsimp only); (try k_fold))))
  (k_with "X k_upd" => (exact upd_over (by assumption) _ (by assumption)))
  (k_with "X k_upd" => (exact Slots2.ua (by assumption) _))
  (k_with "X k_updF" => (exact Slots2.fb (by assumption)))
  (k_with "X k_mem" => (exact Slots2.mb (by assumption)))
  (k_with "X k_mem" => (exact Slots2.ma (by assumption)))
  (k_with "compareOp NotIn int ref" => ((k_here; k_dflt (refine' pl_notin ?k1_691 ?k2_691 ?k3_691 ?k4_691 ?k5_691 ?_; (case k1_691 => k_asm); (case k2_691 => k_mem); (case k3_691 => assumption); (case k4_691 => assumption); (case k5_691 => assumption)))))
  (k_with "setItem ref int" => ((k_here; k_dflt (refine' pl_set ?v_692 ?F_692 ?N_692 ?U_692 ?d_692 ?p_692 ?z_692 ?_; (case F_692 => k_asm); (case N_692 => k_asm); (case U_692 => k_updF); (case d_692 => assumption); (case p_692 => assumption); (case z_692 => assumption); (case v_692 => k_flat)); intro h' o' F' N' hd'; (try dsimp only at N'); (try k_sweep))))
  (k_with "call ref" => ((k_here; (with_reducible show wpAny _ _ (call (Value.ref 190) _) _ _ _); k_dflt (refine' mark_ct _ _ _ _ ?k1_693 ?k2_693 ?k3_693 ?k4_693 ?k5_693 ?kK_693 ?kd_693 ?ku_693 ?p0_693 ?p1_693 ?p2_693 ?p3_693 ?p4_693 ?p5_693 ?p6_693 ?_; (case k1_693 => k_asm); (case k2_693 => k_asm); (case k3_693 => k_asm); (case k4_693 => k_asm); (case k5_693 => k_asm); (case kK_693 => first | exact rfl | assumption); (case kd_693 => ktr_room); (case ku_693 => ktr_units); (case p0_693 => k_updF); (case p1_693 => assumption); (case p2_693 => assumption); (case p3_693 => assumption); (case p4_693 => assumption); (case p5_693 => first | assumption | omega); (case p6_693 => first | assumption | omega)); intro r' od' h' tk' F' N' hpl' l1; (try dsimp only at N'); (try k_lt l1); (try k_sweep); (try dsimp only); (try k_fold))))
  (k_with "getMethod ref" => ((k_here; (with_reducible show wpAny _ _ (getMethod _ (Str.ofString "mark") _) _ _ _); k_dflt (refine' err_mark ?k1_694 ?k2_694 ?k3_694 ?k4_694 ?k5_694 ?k6_694 ?k7_694 ?k8_694 ?_; (case k1_694 => k_asm); (case k2_694 => k_asm); (case k3_694 => k_asm); (case k4_694 => with_reducible assumption); (case k5_694 => first | exact fun _ h => h | (intro p hp; repeat (first | exact hp | apply List.mem_cons_of_mem))); (case k6_694 => k_is); (case k7_694 => k_is); (case k8_694 => k_is); k_whole))))
  (k_with "call ref" => ((k_here; (with_reducible show wpAny _ _ (call (Value.ref 120) _) _ _ _); k_dflt (refine' wrong_ct _ _ _ _ ?k1_695 ?k2_695 ?k3_695 ?k4_695 ?k5_695 ?kK_695 ?kd_695 ?ku_695 ?p0_695 ?p1_695 ?p2_695 ?p3_695 ?p4_695 ?p5_695 ?p6_695 ?_; (case k1_695 => k_asm); (case k2_695 => k_asm); (case k3_695 => k_asm); (case k4_695 => k_asm); (case k5_695 => k_asm); (case kK_695 => first | exact rfl | assumption); (case kd_695 => ktr_room); (case ku_695 => ktr_units); (case p0_695 => first | k_updF | exact UpdF2.over (by assumption) (by assumption) | exact UpdF2.over (UpdF2.over (by assumption) (by assumption)) (kst_ltOf (by assumption))); (case p1_695 => first | with_reducible assumption | exact errIn_over (by assumption) | exact errIn_over (errIn_over (by assumption))); (case p2_695 => assumption); (case p3_695 => assumption); (case p4_695 => first | assumption | exact List.not_mem_nil); (case p5_695 => first | assumption | exact Nat.zero_le _); (case p6_695 => first | assumption | exact Nat.zero_le _)); intro x' d' l' r' t0 t1 t2 t3 t4 t5 t6 t7 od' h' tk' F' N' hpl' l1 l2 l3 l4; (try dsimp only at N'); (try k_lt2 l2); (try k_lt2 l3); (try k_lt2 l4); (try k_sweep); (try dsimp only); (try k_fold))))
  (k_with "MINE ev" => (((with_reducible show Ev _ _ _ _ _ (Expr.Name _ _) _ _); (fail_if_success (with_reducible show Ev _ _ (compEnvC _ _ _ _) _ _ _ _ _)); exact Ev.cell (by decide) rfl (by decide) (by k_asm) (by exact rfl) (by walk_at "MINE zmem"))))
  (k_with "MINE zmem" => (first | with_reducible assumption | (refine List.mem_cons_of_mem _ ?_; walk_at "MINE zmem") | (refine mem_app ?_; walk_at "MINE zmem")))
  (k_with "eval Name" => ((k_here; (fail_if_success (with_reducible show wpAny _ _ (eval _ (compEnvC _ _ _ _)) _ _ _)); k_dflt (refine' nameQC ?N_698 ?c_698 ?m_698 ?_ ?k_698 ?x_698 ?d_698; (case k_698 => rfl); (case x_698 => decide); (case d_698 => decide); (case N_698 => k_asm); (case c_698 => exact rfl); (case m_698 => walk_at "MINE zmem"); k_whole))))
  (k_with "compareOp Eq" => ((k_here; (with_reducible show wpAny _ _ (compareOp CmpOp.Eq _ (Value.int _ _)) _ _ _); k_dflt (refine' eq_opt ?k3_699 ?_ ?_; (case k3_699 => assumption); (intro e1 e2; subst e1 e2; (try dsimp only)); rotate_left; (intro x' t' e1 e2; subst e1 e2; (try dsimp only)); rotate_left))))
  (k_with "X k_all" => (with_reducible assumption))
  (k_with "X k_mem" => ((refine mem_app ?_; k_mem)))
  (k_with "MINE sub" => ((intro p hp; repeat (first | exact hp | apply List.mem_cons_of_mem | apply List.mem_append_right))))
  (k_with "MINE subl" => ((intro p hp; repeat (first | exact List.mem_append_left _ hp | exact hp | apply List.mem_cons_of_mem))))
  (k_with "MINE upd2" => (first | (refine' UpdF2.hb ?a_704 ?b_704; (case a_704 => k_all); (case b_704 => k_updF)) | (refine' UpdF2.ha ?a_704 ?b_704; (case a_704 => k_all); (case b_704 => k_updF)) | (refine' UpdF2.tail ?a_704 ?b_704 ?c_704; (case a_704 => k_ne); (case b_704 => k_ne); (case c_704 => walk_at "MINE upd2"))))
  (k_with "MINE err" => ((refine' errIn_of ?a_705 ?b_705 ?c_705 ?d_705 ?e_705; (case a_705 => k_mem); (case b_705 => k_mem); (case c_705 => rfl); (case d_705 => rfl); (case e_705 => rfl))))
  (k_with "subscriptTail" => ((k_here; (with_reducible show wpAny _ _ (subscriptTail _ _ (Value.ref _) (Value.int _ _)) _ _ _); k_dflt (refine' menu_str ?k1_706 ?k2_706 ?k3_706 ?k4_706 ?k5_706 ?k6_706 ?_ ?k7_706; (case k1_706 => k_asm); (case k2_706 => k_mem); (case k3_706 => repeat constructor); (case k4_706 => assumption); (case k5_706 => (simp only [List.length_cons, List.length_nil]; omega)); (case k6_706 => decide); (case k7_706 => with_unfolding_all rfl); k_whole); intro a' t' hmenu)))
  (k_with "call ref" => ((k_here; (with_reducible show wpAny _ _ (call (Value.ref 141) _) _ _ _); k_dflt (refine' bin_ct _ _ _ _ ?k1_707 ?k2_707 ?k3_707 ?k4_707 ?k5_707 ?kK_707 ?kd_707 ?ku_707 ?p0_707 ?p1_707 ?p2_707 ?p3_707 ?p4_707 ?p5_707 ?p6_707 ?p7_707 ?p8_707 ?p9_707 ?p10_707 ?p11_707 ?p12_707 ?p13_707 ?p14_707 ?_; (case k1_707 => k_asm); (case k2_707 => k_asm); (case k3_707 => k_asm); (case k4_707 => k_asm); (case k5_707 => k_asm); (case kK_707 => first | exact rfl | assumption); (case kd_707 => ktr_room); (case ku_707 => ktr_units); (case p0_707 => walk_at "MINE err"); (case p1_707 => walk_at "MINE upd2"); (case p2_707 => (intro x y; (try dsimp only); walk_at "MINE err")); (case p3_707 => assumption); (case p4_707 => exact isPl_nil (by assumption)); (case p5_707 => exact NodeF.mono (by assumption) (by walk_at "MINE sub")); (case p6_707 => exact NodeF.mono (by assumption) (by walk_at "MINE sub")); (case p7_707 => exact TyF.mono (by assumption) (by walk_at "MINE sub")); (case p8_707 => exact TyF.mono (by assumption) (by walk_at "MINE sub")); (case p9_707 => exact tyo_b (by k_mem) (by k_mem)); (case p10_707 => exact tyo_m (by k_mem) (by k_mem)); (case p11_707 => exact tyo_i (by k_mem) (by k_mem)); (case p12_707 => assumption); (case p13_707 => assumption); (case p14_707 => exact op_len (by assumption))); intro new' x' rows' nn' od' h' tk' F' N' ov' res'; (try dsimp only at N'); (try k_sweep); (try dsimp only); (try k_fold))))
  (k_with "call ref" => ((k_here; (with_reducible show wpAny _ _ (call (Value.ref 336) _) _ _ _); k_dflt (refine' fits_ct _ _ _ _ ?k1_708 ?k2_708 ?k3_708 ?k4_708 ?k5_708 ?kK_708 ?kd_708 ?ku_708 ?p0_708 ?p1_708 ?p2_708 ?p3_708 ?p4_708 ?p5_708 ?p6_708 ?p7_708 ?p8_708 ?p9_708 ?p10_708 ?_; (case k1_708 => k_asm); (case k2_708 => k_asm); (case k3_708 => k_asm); (case k4_708 => k_asm); (case k5_708 => k_asm); (case kK_708 => first | exact rfl | assumption); (case kd_708 => ktr_room); (case ku_708 => ktr_units); (case p0_708 => exact ErrIn.rows (by walk_at "MINE err")); (case p1_708 => k_mem); (case p2_708 => exact Res.mono (by assumption) (by walk_at "MINE subl")); (case p3_708 => first | exact tyF_sel (TyFs.mono (by assumption) (by walk_at "MINE sub")) | exact TyF.mono (by assumption) (by walk_at "MINE sub")); (case p4_708 => k_mem); (case p5_708 => assumption); (case p6_708 => assumption); (case p7_708 => first | exact KsP.two (NodeF.mono (by assumption) (by walk_at "MINE sub")) (NodeF.mono (by assumption) (by walk_at "MINE sub")) | exact KsP.one (NodeF.mono (by assumption) (by walk_at "MINE sub"))); (case p8_708 => k_mem); (case p9_708 => walk_at "MINE ints"); (case p10_708 => first | exact ok_due _ _ _ _ _ | assumption | decide +kernel)); intro h' tk' F' N'; (try k_sweep); (try dsimp only); (try k_fold))))
  (k_with "call ref" => ((k_here; (with_reducible show wpAny _ _ (call (Value.ref 331) _) _ _ _); k_dflt (refine' due_ct _ _ _ _ ?k1_709 ?k2_709 ?k3_709 ?k4_709 ?k5_709 ?kK_709 ?kd_709 ?ku_709 ?p0_709 ?p1_709 ?p2_709 ?p3_709 ?p4_709 ?p5_709 ?p6_709 ?p7_709 ?p8_709 ?_; (case k1_709 => k_asm); (case k2_709 => k_asm); (case k3_709 => k_asm); (case k4_709 => k_asm); (case k5_709 => k_asm); (case kK_709 => first | exact rfl | assumption); (case kd_709 => ktr_room); (case ku_709 => ktr_units); (case p0_709 => k_mem); (case p1_709 => k_mem); (case p2_709 => assumption); (case p3_709 => assumption); (case p4_709 => assumption); (case p5_709 => assumption); (case p6_709 => assumption); (case p7_709 => assumption); (case p8_709 => assumption)); intro d' form' code' op' v4' t1 t2 t3 h' tk' F' N' l1 due'; k_dflt (obtain ⟨e1, e2, v5, hv5, hv6⟩ := due'; subst e1 e2); (try k_sweep); (try dsimp only); (try k_fold))))
  (k_with "MINE u" => ((simp only [uSel, uC, uOp, uCode, uVal, s_mt, s_mm, s_tt, s_pt, s_pm, s_nn, s_on, s_oo, s_sn, s_so, bne, *, reduceIte, Bool.not_true, Bool.not_false, Bool.and_true, Bool.true_and, Bool.and_false, Bool.false_and, Bool.false_eq_true])))
  (k_with "binaryOp Pow int int" => (first | with_reducible refine pow32_int ?_ | with_reducible refine pow31_int ?_))
  (k_with "MINE ueq" => (first | with_reducible rfl | omega | (simp only [pow32]; omega) | fail "ueq"))
  (k_with "MINE udueend" => (first | exact um_set_n (by assumption) (by assumption) | exact um_set_s (by assumption) (by assumption) (by assumption) (by walk_at "MINE ueq") | exact um_int_n (by assumption) (by assumption) | exact um_int_s (by assumption) (by assumption) (by assumption) (by assumption) (by walk_at "MINE ueq") | exact um_int_o (by assumption) (by assumption) (by assumption) | exact um_bad (by assumption) (by assumption) (by assumption) | exact ut_n (by assumption) (by assumption) | exact ut_s (by assumption) (by assumption) (by walk_at "MINE ueq") | exact ut_bad (by assumption) (by assumption) | exact up_bad (by assumption) (by assumption)))
  (k_with "execs cons" => ((k_here; (with_reducible show wpAny _ _ (execs (Stmt.Assign [Expr.Name (Str.ofString "due") _] _ _ :: _) _) _ _ _); (with_reducible refine wpAny_execs_cons ?_); try dsimp only)))
  trivial
theorem reg83 : True := by
  (k_with "call ref" => ((k_here; (with_reducible show wpAny _ _ (call (Value.ref 127) _) _ _ _); k_dflt (refine' un_ct _ _ _ _ ?k1_715 ?k2_715 ?k3_715 ?k4_715 ?k5_715 ?kK_715 ?kd_715 ?ku_715 ?p0_715 ?p1_715 ?p2_715 ?p3_715 ?p4_715 ?p5_715 ?p6_715 ?p7_715 ?p8_715 ?p9_715 ?pa_715 ?_ ?_; (case k1_715 => k_asm); (case k2_715 => k_asm); (case k3_715 => k_asm); (case k4_715 => k_asm); (case k5_715 => k_asm); (case kK_715 => first | exact rfl | assumption); (case kd_715 => ktr_room); (case ku_715 => ktr_units); (case p0_715 => walk_at "MINE err"); (case p1_715 => walk_at "MINE upd2"); (case p2_715 => (intro x y; (try dsimp only); walk_at "MINE err")); (case p3_715 => assumption); (case p4_715 => exact isPl_nil (by assumption)); (case p5_715 => exact NodeF.mono (by assumption) (by walk_at "MINE sub")); (case p6_715 => exact TyF.mono (by assumption) (by walk_at "MINE sub")); (case p7_715 => exact tyo_b (by k_mem) (by k_mem)); (case p8_715 => exact tyo_m (by k_mem) (by k_mem)); (case p9_715 => exact tyo_i (by k_mem) (by k_mem)); (case pa_715 => assumption); k_dflt (intro a9 b9 c9 h' tk' F' N'; first | exact absurd a9 (by decide) | exact absurd b9 (by decide) | ((have e9 := (KindF.i (by assumption)).trans c9); (try k_sweep); (try dsimp only); (try k_fold); rotate_left)); k_dflt (intro new' x' rows' nn' od' h' tk' hno F' N' ov' res'; (try have e8 := (KindF.i (by assumption)).trans (hno (by decide) (by decide))); (try dsimp only at N'); (try k_sweep); (try dsimp only); (try k_fold))))))
  (k_with "call ref" => ((k_here; (with_reducible show wpAny _ _ (call (Value.ref 336) _) _ _ _); k_dflt (refine' fitsu_ct _ _ _ _ ?k1_716 ?k2_716 ?k3_716 ?k4_716 ?k5_716 ?kK_716 ?kd_716 ?ku_716 ?p0_716 ?p1_716 ?p2_716 ?p3_716 ?p4_716 ?p5_716 ?p6_716 ?p7_716 ?p8_716 ?p9_716 ?p10_716 ?_; (case k1_716 => k_asm); (case k2_716 => k_asm); (case k3_716 => k_asm); (case k4_716 => k_asm); (case k5_716 => k_asm); (case kK_716 => first | exact rfl | assumption); (case kd_716 => ktr_room); (case ku_716 => ktr_units); (case p0_716 => exact ErrIn.rows (by walk_at "MINE err")); (case p1_716 => k_mem); (case p2_716 => k_mem); (case p3_716 => exact Res.mono (by assumption) (by walk_at "MINE subl")); (case p4_716 => exact TyF.mono (TyFs.b (by assumption)) (by walk_at "MINE sub")); (case p5_716 => exact TyF.mono (TyFs.m (by assumption)) (by walk_at "MINE sub")); (case p6_716 => exact TyF.mono (TyFs.i (by assumption)) (by walk_at "MINE sub")); (case p7_716 => walk_at "MINE udueend"); (case p8_716 => exact KsP.one (NodeF.mono (by assumption) (by walk_at "MINE sub"))); (case p9_716 => k_mem); (case p10_716 => walk_at "MINE ints")); intro h' tk' F' N'; (try k_sweep); (try dsimp only); (try k_fold))))
  trivial
set_option maxHeartbeats 8000000 in
theorem tail9a (w : World) (mean : ExcName → Option Value) (mg mb : Str → Option Value) {body : List Stmt} {qual : Str} {scope : Scope} {dp un : Nat} {gd : Option (List Code)} {a : Addr} {ccd : Value} {outer : List Env} {A₀ : Around} {base h₀ : Heap} {L : Addr} {m : Str → Option Value} {hp : Heap} {gns : Array GenState} {drw : Drawn} {tk0 : Nat} {sos : OsState} {Q : Flow → Shared → Prop} {E : Value → Shared → Prop}
    {Z : List (Addr × Obj)} {pl fl Ta Td : Addr} {k : TyK} {c : Int} {tc : Tok} {vs : List Value} {figs : List Int} {n0 n1 : Nat} {i mx : Int} {ti tm : Tok} {one x1 : Addr} {op1 f1 kd1 : Str} {vx1 v31 : Value} {v1 : Option Int} {tsg : Tok}
    (hb : LawB w body qual scope) (B : Below A₀ base outer h₀) (F : Fr h₀ L hp m) (X : (Mine.R.heap_1_1 w.params).In h₀) (N : News h₀ L hp ((pl, PoolO fl i ti mx tm n0) :: (Td, TyO w.params k c tc) :: Z)) (T : Top Mine.R.view_1_2 (looseW Mine.R.view_1_2 []) mean mg mb h₀) (hd : dp + 40 < recursionLimit) (hu : un + 300 < cLine)
    (hZp : ∀ p ∈ Z, p.1 ≠ pl) (hZt : ∀ p ∈ Z, p.1 ≠ Td) (hne : @Ne Nat pl Td) (hTa : (Ta, instObj 285 Td) ∈ Z) (hTy : TyFs Z k) (hfl : (fl, listOf vs.toArray n1) ∈ Z) (hI : IntsAre vs figs) (hi0 : 0 ≤ i) (hi1 : i ≤ figs.length) (hlen : figs.length ≤ 5000) (hm0 : 0 ≤ mx) (hm1 : mx < 1009) (hc0 : 0 ≤ c) (hc1 : c ≤ 800)
    {q1 q2 : Obj} (hcp : (L + 1, cellQ q1 (some (.ref pl))) ∈ Z) (hct : (L + 1 + 1, cellQ q2 (some (.ref Ta))) ∈ Z) {q3 q4 : Obj} {Z0 : List (Addr × Obj)} (hc3 : Z = (L + 1 + 1 + 1, cellQ q3 none) :: (L + 1 + 1 + 1 + 1, cellQ q4 none) :: Z0) (hc4 : Base0 L pl fl Ta Td vs n1 k q1 q2 Z0) (ho1 : m (Str.ofString "one") = some (.ref one)) (hs1 : SideT Z one x1 10 op1 f1 kd1 vx1 v31 v1) (hsg : m (Str.ofString "sign") = some (.str (Str.ofString "-") tsg))
    (hret : ∀ h' tk' m', Fr h₀ L h' m' → Q (.ret (.bool true)) ⟨h', gns, drw, tk', sos⟩) : LawAtE w dp un gd L a ccd outer 9 Q E ⟨hp, gns, drw, tk0, sos⟩ body qual scope := by
  refine' law_lit (P := LawAtE w dp un gd L a ccd outer 9 Q E ⟨hp, gns, drw, tk0, sos⟩) hb ?ho ?_
  (case ho => k_dflt k_is)
  intro hb' hE
  clear hb
  dsimp only [LawAt, List.drop]
  obtain ⟨⟨tk1, nn1, ht1⟩, ⟨ty1, kl1, hn1, hy1⟩, hk1, hv1, hsv1, hd1⟩ := hs1
  have hn1' := hn1
  obtain ⟨⟨to1, hno1⟩, ⟨tp1, hnp1⟩, hnt1, hnk1, hnv1⟩ := hn1'
  repeat' (first | ((fail_if_success (with_reducible show wpAny _ _ (execs (Stmt.Assign [Expr.Name (Str.ofString "elements") _] _ _ :: _) _) _ _ _)); (fail_if_success (with_reducible show wpAny _ _ (exec (Stmt.Assign [Expr.Name (Str.ofString "elements") _] _ _) _) _ _ _)); walk_at "MINE step"))
  all_goals ((try dsimp only); first | exact tail12 w mean mg mb (Z := Z) (m := _) hb' B (by k_asm) X (cb_drop (by assumption) (sub_can (by first | k_mem | fail) (by first | k_mem | fail) (by first | walk_at "MINE sub" | fail))) T hd hu hZp hZt hne hTa hTy hfl hI hi0 hi1 hlen hm0 hm1 hc0 hc1 hcp hct hc3 hc4 (fun h' tk' m' F' => hret h' tk' m' F') hE | fail "end")
/-! law9b -/
theorem reg84 : True := by
  w_top off
  (k_with "MINE none" => (skip))
  trivial
theorem reg85 : True := by
  (k_with "call ref" => ((k_here; (with_reducible show wpAny _ _ (call (Value.ref 127) _) _ _ _); k_dflt (refine' un_ct _ _ _ _ ?k1_718 ?k2_718 ?k3_718 ?k4_718 ?k5_718 ?kK_718 ?kd_718 ?ku_718 ?p0_718 ?p1_718 ?p2_718 ?p3_718 ?p4_718 ?p5_718 ?p6_718 ?p7_718 ?p8_718 ?p9_718 ?pa_718 ?_ ?_; (case k1_718 => k_asm); (case k2_718 => k_asm); (case k3_718 => k_asm); (case k4_718 => k_asm); (case k5_718 => k_asm); (case kK_718 => first | exact rfl | assumption); (case kd_718 => ktr_room); (case ku_718 => ktr_units); (case p0_718 => walk_at "MINE err"); (case p1_718 => walk_at "MINE upd2"); (case p2_718 => (intro x y; (try dsimp only); walk_at "MINE err")); (case p3_718 => assumption); (case p4_718 => exact isPl_nil (by assumption)); (case p5_718 => exact NodeF.mono (by assumption) (by walk_at "MINE sub")); (case p6_718 => exact TyF.mono (by assumption) (by walk_at "MINE sub")); (case p7_718 => exact tyo_b (by k_mem) (by k_mem)); (case p8_718 => exact tyo_m (by k_mem) (by k_mem)); (case p9_718 => exact tyo_i (by k_mem) (by k_mem)); (case pa_718 => assumption); k_dflt (intro a9 b9 c9 h' tk' F' N'; first | exact absurd a9 (by decide) | exact absurd b9 (by decide) | ((have e9 := (KindF.i (by assumption)).trans c9); (try k_sweep); (try dsimp only); (try k_fold); rotate_left)); k_dflt (intro new' x' rows' nn' od' h' tk' hno F' N' ov' res'; (try have e8 := (KindF.i (by assumption)).trans (hno (by decide) (by decide))); (try dsimp only at N'); (try k_sweep); (try dsimp only); (try k_fold))))))
  (k_with "call ref" => ((k_here; (with_reducible show wpAny _ _ (call (Value.ref 336) _) _ _ _); k_dflt (refine' fitsu_ct _ _ _ _ ?k1_719 ?k2_719 ?k3_719 ?k4_719 ?k5_719 ?kK_719 ?kd_719 ?ku_719 ?p0_719 ?p1_719 ?p2_719 ?p3_719 ?p4_719 ?p5_719 ?p6_719 ?p7_719 ?p8_719 ?p9_719 ?p10_719 ?_; (case k1_719 => k_asm); (case k2_719 => k_asm); (case k3_719 => k_asm); (case k4_719 => k_asm); (case k5_719 => k_asm); (case kK_719 => first | exact rfl | assumption); (case kd_719 => ktr_room); (case ku_719 => ktr_units); (case p0_719 => exact ErrIn.rows (by walk_at "MINE err")); (case p1_719 => k_mem); (case p2_719 => k_mem); (case p3_719 => exact Res.mono (by assumption) (by walk_at "MINE subl")); (case p4_719 => exact TyF.mono (TyFs.b (by assumption)) (by walk_at "MINE sub")); (case p5_719 => exact TyF.mono (TyFs.m (by assumption)) (by walk_at "MINE sub")); (case p6_719 => exact TyF.mono (TyFs.i (by assumption)) (by walk_at "MINE sub")); (case p7_719 => walk_at "MINE udueend"); (case p8_719 => exact KsP.one (NodeF.mono (by assumption) (by walk_at "MINE sub"))); (case p9_719 => k_mem); (case p10_719 => walk_at "MINE ints")); intro h' tk' F' N'; (try k_sweep); (try dsimp only); (try k_fold))))
  trivial
set_option maxHeartbeats 8000000 in
theorem tail9b (w : World) (mean : ExcName → Option Value) (mg mb : Str → Option Value) {body : List Stmt} {qual : Str} {scope : Scope} {dp un : Nat} {gd : Option (List Code)} {a : Addr} {ccd : Value} {outer : List Env} {A₀ : Around} {base h₀ : Heap} {L : Addr} {m : Str → Option Value} {hp : Heap} {gns : Array GenState} {drw : Drawn} {tk0 : Nat} {sos : OsState} {Q : Flow → Shared → Prop} {E : Value → Shared → Prop}
    {Z : List (Addr × Obj)} {pl fl Ta Td : Addr} {k : TyK} {c : Int} {tc : Tok} {vs : List Value} {figs : List Int} {n0 n1 : Nat} {i mx : Int} {ti tm : Tok} {one x1 : Addr} {op1 f1 kd1 : Str} {vx1 v31 : Value} {v1 : Option Int} {tsg : Tok}
    (hb : LawB w body qual scope) (B : Below A₀ base outer h₀) (F : Fr h₀ L hp m) (X : (Mine.R.heap_1_1 w.params).In h₀) (N : News h₀ L hp ((pl, PoolO fl i ti mx tm n0) :: (Td, TyO w.params k c tc) :: Z)) (T : Top Mine.R.view_1_2 (looseW Mine.R.view_1_2 []) mean mg mb h₀) (hd : dp + 40 < recursionLimit) (hu : un + 300 < cLine)
    (hZp : ∀ p ∈ Z, p.1 ≠ pl) (hZt : ∀ p ∈ Z, p.1 ≠ Td) (hne : @Ne Nat pl Td) (hTa : (Ta, instObj 285 Td) ∈ Z) (hTy : TyFs Z k) (hfl : (fl, listOf vs.toArray n1) ∈ Z) (hI : IntsAre vs figs) (hi0 : 0 ≤ i) (hi1 : i ≤ figs.length) (hlen : figs.length ≤ 5000) (hm0 : 0 ≤ mx) (hm1 : mx < 1009) (hc0 : 0 ≤ c) (hc1 : c ≤ 800)
    {q1 q2 : Obj} (hcp : (L + 1, cellQ q1 (some (.ref pl))) ∈ Z) (hct : (L + 1 + 1, cellQ q2 (some (.ref Ta))) ∈ Z) {q3 q4 : Obj} {Z0 : List (Addr × Obj)} (hc3 : Z = (L + 1 + 1 + 1, cellQ q3 none) :: (L + 1 + 1 + 1 + 1, cellQ q4 none) :: Z0) (hc4 : Base0 L pl fl Ta Td vs n1 k q1 q2 Z0) (ho1 : m (Str.ofString "one") = some (.ref one)) (hs1 : SideT Z one x1 10 op1 f1 kd1 vx1 v31 v1) (hsg : m (Str.ofString "sign") = some (.str (Str.ofString "~") tsg))
    (hret : ∀ h' tk' m', Fr h₀ L h' m' → Q (.ret (.bool true)) ⟨h', gns, drw, tk', sos⟩) : LawAtE w dp un gd L a ccd outer 9 Q E ⟨hp, gns, drw, tk0, sos⟩ body qual scope := by
  refine' law_lit (P := LawAtE w dp un gd L a ccd outer 9 Q E ⟨hp, gns, drw, tk0, sos⟩) hb ?ho ?_
  (case ho => k_dflt k_is)
  intro hb' hE
  clear hb
  dsimp only [LawAt, List.drop]
  obtain ⟨⟨tk1, nn1, ht1⟩, ⟨ty1, kl1, hn1, hy1⟩, hk1, hv1, hsv1, hd1⟩ := hs1
  have hn1' := hn1
  obtain ⟨⟨to1, hno1⟩, ⟨tp1, hnp1⟩, hnt1, hnk1, hnv1⟩ := hn1'
  repeat' (first | ((fail_if_success (with_reducible show wpAny _ _ (execs (Stmt.Assign [Expr.Name (Str.ofString "elements") _] _ _ :: _) _) _ _ _)); (fail_if_success (with_reducible show wpAny _ _ (exec (Stmt.Assign [Expr.Name (Str.ofString "elements") _] _ _) _) _ _ _)); walk_at "MINE step"))
  all_goals ((try dsimp only); first | exact tail12 w mean mg mb (Z := Z) (m := _) hb' B (by k_asm) X (cb_drop (by assumption) (sub_can (by first | k_mem | fail) (by first | k_mem | fail) (by first | walk_at "MINE sub" | fail))) T hd hu hZp hZt hne hTa hTy hfl hI hi0 hi1 hlen hm0 hm1 hc0 hc1 hcp hct hc3 hc4 (fun h' tk' m' F' => hret h' tk' m' F') hE | fail "end")
/-! law9c -/
theorem reg86 : True := by
  w_top off
  (k_with "MINE none" => (skip))
  trivial
theorem reg87 : True := by
  (k_with "call ref" => ((k_here; (with_reducible show wpAny _ _ (call (Value.ref 127) _) _ _ _); k_dflt (refine' un_ct _ _ _ _ ?k1_721 ?k2_721 ?k3_721 ?k4_721 ?k5_721 ?kK_721 ?kd_721 ?ku_721 ?p0_721 ?p1_721 ?p2_721 ?p3_721 ?p4_721 ?p5_721 ?p6_721 ?p7_721 ?p8_721 ?p9_721 ?pa_721 ?_ ?_; (case k1_721 => k_asm); (case k2_721 => k_asm); (case k3_721 => k_asm); (case k4_721 => k_asm); (case k5_721 => k_asm); (case kK_721 => first | exact rfl | assumption); (case kd_721 => ktr_room); (case ku_721 => ktr_units); (case p0_721 => walk_at "MINE err"); (case p1_721 => walk_at "MINE upd2"); (case p2_721 => (intro x y; (try dsimp only); walk_at "MINE err")); (case p3_721 => assumption); (case p4_721 => exact isPl_nil (by assumption)); (case p5_721 => exact NodeF.mono (by assumption) (by walk_at "MINE sub")); (case p6_721 => exact TyF.mono (by assumption) (by walk_at "MINE sub")); (case p7_721 => exact tyo_b (by k_mem) (by k_mem)); (case p8_721 => exact tyo_m (by k_mem) (by k_mem)); (case p9_721 => exact tyo_i (by k_mem) (by k_mem)); (case pa_721 => assumption); k_dflt (intro a9 b9 c9 h' tk' F' N'; first | exact absurd a9 (by decide) | exact absurd b9 (by decide) | ((have e9 := (KindF.i (by assumption)).trans c9); (try k_sweep); (try dsimp only); (try k_fold); rotate_left)); k_dflt (intro new' x' rows' nn' od' h' tk' hno F' N' ov' res'; (try have e8 := (KindF.i (by assumption)).trans (hno (by decide) (by decide))); (try dsimp only at N'); (try k_sweep); (try dsimp only); (try k_fold))))))
  (k_with "call ref" => ((k_here; (with_reducible show wpAny _ _ (call (Value.ref 336) _) _ _ _); k_dflt (refine' fitsu_ct _ _ _ _ ?k1_722 ?k2_722 ?k3_722 ?k4_722 ?k5_722 ?kK_722 ?kd_722 ?ku_722 ?p0_722 ?p1_722 ?p2_722 ?p3_722 ?p4_722 ?p5_722 ?p6_722 ?p7_722 ?p8_722 ?p9_722 ?p10_722 ?_; (case k1_722 => k_asm); (case k2_722 => k_asm); (case k3_722 => k_asm); (case k4_722 => k_asm); (case k5_722 => k_asm); (case kK_722 => first | exact rfl | assumption); (case kd_722 => ktr_room); (case ku_722 => ktr_units); (case p0_722 => exact ErrIn.rows (by walk_at "MINE err")); (case p1_722 => k_mem); (case p2_722 => k_mem); (case p3_722 => exact Res.mono (by assumption) (by walk_at "MINE subl")); (case p4_722 => exact TyF.mono (TyFs.b (by assumption)) (by walk_at "MINE sub")); (case p5_722 => exact TyF.mono (TyFs.m (by assumption)) (by walk_at "MINE sub")); (case p6_722 => exact TyF.mono (TyFs.i (by assumption)) (by walk_at "MINE sub")); (case p7_722 => walk_at "MINE udueend"); (case p8_722 => exact KsP.one (NodeF.mono (by assumption) (by walk_at "MINE sub"))); (case p9_722 => k_mem); (case p10_722 => walk_at "MINE ints")); intro h' tk' F' N'; (try k_sweep); (try dsimp only); (try k_fold))))
  trivial
set_option maxHeartbeats 8000000 in
theorem tail9c (w : World) (mean : ExcName → Option Value) (mg mb : Str → Option Value) {body : List Stmt} {qual : Str} {scope : Scope} {dp un : Nat} {gd : Option (List Code)} {a : Addr} {ccd : Value} {outer : List Env} {A₀ : Around} {base h₀ : Heap} {L : Addr} {m : Str → Option Value} {hp : Heap} {gns : Array GenState} {drw : Drawn} {tk0 : Nat} {sos : OsState} {Q : Flow → Shared → Prop} {E : Value → Shared → Prop}
    {Z : List (Addr × Obj)} {pl fl Ta Td : Addr} {k : TyK} {c : Int} {tc : Tok} {vs : List Value} {figs : List Int} {n0 n1 : Nat} {i mx : Int} {ti tm : Tok} {one x1 : Addr} {op1 f1 kd1 : Str} {vx1 v31 : Value} {v1 : Option Int} {tsg : Tok}
    (hb : LawB w body qual scope) (B : Below A₀ base outer h₀) (F : Fr h₀ L hp m) (X : (Mine.R.heap_1_1 w.params).In h₀) (N : News h₀ L hp ((pl, PoolO fl i ti mx tm n0) :: (Td, TyO w.params k c tc) :: Z)) (T : Top Mine.R.view_1_2 (looseW Mine.R.view_1_2 []) mean mg mb h₀) (hd : dp + 40 < recursionLimit) (hu : un + 300 < cLine)
    (hZp : ∀ p ∈ Z, p.1 ≠ pl) (hZt : ∀ p ∈ Z, p.1 ≠ Td) (hne : @Ne Nat pl Td) (hTa : (Ta, instObj 285 Td) ∈ Z) (hTy : TyFs Z k) (hfl : (fl, listOf vs.toArray n1) ∈ Z) (hI : IntsAre vs figs) (hi0 : 0 ≤ i) (hi1 : i ≤ figs.length) (hlen : figs.length ≤ 5000) (hm0 : 0 ≤ mx) (hm1 : mx < 1009) (hc0 : 0 ≤ c) (hc1 : c ≤ 800)
    {q1 q2 : Obj} (hcp : (L + 1, cellQ q1 (some (.ref pl))) ∈ Z) (hct : (L + 1 + 1, cellQ q2 (some (.ref Ta))) ∈ Z) {q3 q4 : Obj} {Z0 : List (Addr × Obj)} (hc3 : Z = (L + 1 + 1 + 1, cellQ q3 none) :: (L + 1 + 1 + 1 + 1, cellQ q4 none) :: Z0) (hc4 : Base0 L pl fl Ta Td vs n1 k q1 q2 Z0) (ho1 : m (Str.ofString "one") = some (.ref one)) (hs1 : SideT Z one x1 10 op1 f1 kd1 vx1 v31 v1) (hsg : m (Str.ofString "sign") = some (.str (Str.ofString "+") tsg))
    (hret : ∀ h' tk' m', Fr h₀ L h' m' → Q (.ret (.bool true)) ⟨h', gns, drw, tk', sos⟩) : LawAtE w dp un gd L a ccd outer 9 Q E ⟨hp, gns, drw, tk0, sos⟩ body qual scope := by
  refine' law_lit (P := LawAtE w dp un gd L a ccd outer 9 Q E ⟨hp, gns, drw, tk0, sos⟩) hb ?ho ?_
  (case ho => k_dflt k_is)
  intro hb' hE
  clear hb
  dsimp only [LawAt, List.drop]
  obtain ⟨⟨tk1, nn1, ht1⟩, ⟨ty1, kl1, hn1, hy1⟩, hk1, hv1, hsv1, hd1⟩ := hs1
  have hn1' := hn1
  obtain ⟨⟨to1, hno1⟩, ⟨tp1, hnp1⟩, hnt1, hnk1, hnv1⟩ := hn1'
  repeat' (first | ((fail_if_success (with_reducible show wpAny _ _ (execs (Stmt.Assign [Expr.Name (Str.ofString "elements") _] _ _ :: _) _) _ _ _)); (fail_if_success (with_reducible show wpAny _ _ (exec (Stmt.Assign [Expr.Name (Str.ofString "elements") _] _ _) _) _ _ _)); walk_at "MINE step"))
  all_goals ((try dsimp only); first | exact tail12 w mean mg mb (Z := Z) (m := _) hb' B (by k_asm) X (cb_drop (by assumption) (sub_can (by first | k_mem | fail) (by first | k_mem | fail) (by first | walk_at "MINE sub" | fail))) T hd hu hZp hZt hne hTa hTy hfl hI hi0 hi1 hlen hm0 hm1 hc0 hc1 hcp hct hc3 hc4 (fun h' tk' m' F' => hret h' tk' m' F') hE | fail "end")
/-! law8 -/
theorem reg88 : True := by
  w_top off
  k_with_none
  (k_with "subscriptTail" => ((k_here; (with_reducible show wpAny _ _ (subscriptTail _ _ (Value.ref _) (Value.int _ _)) _ _ _); k_dflt (refine' itemN ?k1_723 ?k2_723 ?k3_723 ?k4_723 ?k5_723 ?_ ?k6_723; (case k1_723 => k_asm); (case k2_723 => k_mem); (case k3_723 => decide); (case k4_723 => decide); (case k5_723 => rfl); (case k6_723 => with_unfolding_all rfl); k_whole))))
  (k_with "subscriptTail" => ((k_here; (with_reducible show wpAny _ _ (subscriptTail _ _ (Value.ref _) (Value.int _ _)) _ _ _); k_dflt (refine' itemT ?k1_724 ?k2_724 ?k3_724 ?k4_724 ?k5_724 ?_ ?k6_724; (case k1_724 => k_asm); (case k2_724 => k_mem); (case k3_724 => decide); (case k4_724 => decide); (case k5_724 => rfl); (case k6_724 => with_unfolding_all rfl); k_whole))))
  (k_with "subscriptTail Name Constant ref int" => ((k_here; k_dflt (first | (refine' itemT ?k1_725 ?k2_725 ?k3_725 ?k4_725 ?k5_725 ?_ ?k6_725; (case k1_725 => k_asm); (case k2_725 => k_mem); (case k3_725 => decide); (case k4_725 => decide); (case k5_725 => rfl); (case k6_725 => with_unfolding_all rfl); k_whole) | (refine' itemN ?k1_725 ?k2_725 ?k3_725 ?k4_725 ?k5_725 ?_ ?k6_725; (case k1_725 => k_asm); (case k2_725 => k_mem); (case k3_725 => decide); (case k4_725 => decide); (case k5_725 => rfl); (case k6_725 => with_unfolding_all rfl); k_whole)))))
  (k_with "getItem ref int" => ((k_here; k_dflt (refine' getN ?k1_726 ?k2_726 ?k3_726 ?k4_726 ?k5_726 ?_; (case k1_726 => k_asm); (case k2_726 => k_mem); (case k3_726 => decide); (case k4_726 => decide); (case k5_726 => rfl); k_whole))))
  (k_with "call builtin:len" => ((k_here; (with_reducible show wpAny _ _ (call (Value.builtin "len") [Value.ref _]) _ _ _); k_dflt (refine' kst_len ?k1_727 ?k2_727 ?k3_727 ?k4_727 ?_; (case k1_727 => k_asm); (case k2_727 => k_mem); (case k3_727 => first | exact IntsAre.length (by assumption) | assumption); (case k4_727 => omega); k_whole))))
  (k_with "X k_updF" => (with_reducible assumption))
  (k_with "X k_upd" => (exact UpdF.toUpd (by assumption) _))
  (k_with "X k_mem" => (exact UpdF.mem (by assumption)))
  (k_with "X k_mem" => (exact UpdF.mem' (by assumption) _))
  (k_with "X k_enter" => ((refine' code_def ?k1_732 ?k2_732 ?k3_732 ?k4_732 ?k5_732 ?kA_732 ?kF_732 ?kK_732 ?k6_732 ?k7_732 ?k8_732 ?k9_732 ?kB_732 ?_ ?c2_732 ?c3_732 ?c4_732 ?c5_732; (case kA_732 => exact rfl); (case kF_732 => exact rfl); (case kK_732 => first | exact rfl | assumption); (case k1_732 => k_asm); (case k2_732 => k_asm); (case k3_732 => k_asm); (case k4_732 => k_asm); (case k5_732 => k_asm); (case k6_732 => k_is); (case k7_732 => k_is); (case k8_732 => ktr_room); (case k9_732 => first | exact BindsTo.of_eq rfl | exact binds_K (by k_in) rfl (by k_is) rfl rfl rfl | fail "k_enter: no rule for these arguments"); (case c5_732 => decide); (case kB_732 => exact locs rfl); (case c2_732 => exact rfl); (case c3_732 => exact rfl); (case c4_732 => exact rfl); k_whole; intro g' L' h' FG' F' N' B' X' T'; (try dsimp only); (try k_lift B'); (try k_fold))))
  (k_with "X k_room" => (ktr_room))
  (k_with "X k_units" => (ktr_units))
  (k_with "getAttr ref" => ((k_here; k_dflt (first
  | refine' get_has ?k1_735 ?k2_735 ?k3_735 ?k4_735 ?k5_735 ?k6_735 ?k7_735 ?k8_735 ?k9_735 ?_; (case k1_735 => k_asm); (case k2_735 => k_asm); (case k3_735 => k_asm); (case k4_735 => with_reducible assumption); (case k5_735 => first | exact fun _ h => h | (intro p hp; repeat (first | exact hp | apply List.mem_cons_of_mem))); (case k6_735 => k_is); (case k7_735 => k_is); (case k8_735 => k_is); (case k9_735 => k_is); k_whole
  | refine' get_has2 ?k1_735 ?k2_735 ?k3_735 ?k4_735 ?k5_735 ?k6_735 ?k7_735 ?k8_735 ?k9_735 ?_; (case k1_735 => k_asm); (case k2_735 => k_asm); (case k3_735 => k_asm); (case k4_735 => with_reducible assumption); (case k5_735 => first | exact fun _ h => h | (intro p hp; repeat (first | exact hp | apply List.mem_cons_of_mem))); (case k6_735 => k_is); (case k7_735 => k_is); (case k8_735 => k_is); (case k9_735 => k_is); k_whole))))
  (k_with "X size_fits" => ((simp only [List.size_toArray, PySem.sizeLine_eq]; omega)))
  (k_with "binaryOp FloorDiv int int" => ((refine floordiv_int ?_ ?_ (Or.inl (noPy (by omega))); first | decide | omega)))
  (k_with "MINE sub" => (first | exact fun _ h => h | (intro p hp; repeat (first | exact hp | apply List.mem_cons_of_mem))))
  (k_with "MINE subxy" => ((intro x y p hp; repeat (first | exact hp | apply List.mem_cons_of_mem))))
  (k_with "X ktr_units" => (first | k_dflt (first | exact far2 (by with_reducible assumption) (by decide) | exact far1 (by with_reducible assumption) (by decide)) | (have hcL9 := cLine_is; ((try simp only [units_under_make, units_in1, units_deeper, Around.mark_units, units_caller]); (try dsimp only [ktrTop]); omega))))
  (k_with "X ktr_room" => (first | k_dflt (first | exact far2 (by with_reducible assumption) (by decide) | exact far1 (by with_reducible assumption) (by decide)) | ((with_reducible refine room_make ?_); k_dflt (first | exact far2 (by with_reducible assumption) (by decide) | exact far3 (by with_reducible assumption) (by decide) | exact far1 (by with_reducible assumption) (by decide)))))
  (k_with "X k_all" => (k_dflt exact ne_allLt (by assumption)))
  (k_with "MINE ar" => (with_reducible (first | assumption | exact aN1 (by assumption) | exact aN2 (by assumption) | exact aN3 (by assumption) | exact aN4 (by assumption) | exact aN5 (by assumption) | exact aN6 (by assumption) | exact aN7 (by assumption) | exact aN8 (by assumption) | exact aN9 (by assumption) | exact aN10 (by assumption) | exact aN11 (by assumption) | exact aN12 (by assumption))))
  (k_with "X omega" => (first | with_reducible assumption | (with_reducible refine Nat.ne_of_gt ?_; walk_at "MINE ar") | (with_reducible refine Nat.ne_of_lt ?_; walk_at "MINE ar") | ((with_reducible show @Ne Nat _ _); first | with_reducible exact Ne.symm (by assumption) | walk_at "MINE ar" | (with_reducible refine Ne.symm ?_; walk_at "MINE ar") | (with_reducible refine ne_tr (by assumption) ?_; walk_at "MINE ar")) | ((with_reducible show @LT.lt Nat _ _ _); with_reducible (first | exact far1 (by assumption) (by decide) | exact far2 (by assumption) (by decide) | exact far3 (by assumption) (by decide) | exact far0 (by assumption) | walk_at "MINE ar")) | ((with_reducible show @LE.le Nat _ _ _); with_reducible exact Nat.le_trans (by assumption) (by decide)) | ((with_reducible show @LT.lt Int _ _ _); with_reducible (first | exact Int.lt_of_lt_of_le (by assumption) (by decide) | exact int_ll (by assumption) (by decide))) | ((with_reducible show @LE.le Int _ _ _); with_reducible (first | exact Int.le_refl _ | exact i_le1 _ | exact Int.le_trans (by assumption) (by decide))) | decide))
  (k_with "MINE step" => ((first | (k_unfold; (try dsimp only)) | (k_end; wrow_close) | walk1 | (dsimp only; walk1) | (leave1; try dsimp only) | fail "no step")))
  (k_with "X k_mem" => (exact mem_of (by with_reducible assumption)))
  (k_with "ite" => (((with_reducible show (if (_ == Str.ofString _) = true then _ else _)); first | (refine ite_pos (by with_reducible assumption) ?_) | (refine ite_strF (by with_reducible assumption) ?_) | (refine ite_strF (str_ne (by with_reducible assumption) (by decide)) ?_))))
  (k_with "ite" => (((with_reducible show (if (_ != Str.ofString _) = true then _ else _)); first | (refine ite_pos (by with_reducible assumption) ?_) | (refine ite_strneF (by with_reducible assumption) ?_) | (refine ite_strneF (str_ne (by with_reducible assumption) (by decide)) ?_))))
  (k_with "MINE look" => ((repeat (first | with_reducible exact lk_hd | with_reducible exact if_hd | with_reducible refine lk_tl (by decide) ?_ | with_reducible refine if_tl (by decide) ?_))))
  (k_with "eval Name" => ((k_here; (fail_if_success (with_reducible show wpAny _ _ (eval _ (compEnvC _ _ _ _)) _ _ _)); k_dflt (first | (refine' nameQ ?F_750 ?v_750 ?_ ?k_750 ?a_750 ?b_750; (case k_750 => rfl); (case a_750 => decide); (case b_750 => decide); (case F_750 => k_asm); (case v_750 => walk_at "MINE look"); k_whole) | (refine' nameQK ?F_750 ?X_750 ?T_750 ?e_750 ?_ ?k_750 ?a_750 ?b_750; (case k_750 => rfl); (case a_750 => decide); (case b_750 => decide); (case F_750 => k_asm); (case X_750 => k_asm); (case T_750 => k_asm); (case e_750 => k_is); k_whole)))))
  (k_with "ite" => (first | with_reducible refine i_tt ?_ | with_reducible refine i_ff ?_ | with_reducible refine i_True ?_ | with_reducible refine i_False ?_ | with_reducible refine i_not ?_))
  (k_with "X k_enter" => ((refine' code_pos ?k1_752 ?k2_752 ?k3_752 ?k4_752 ?k5_752 ?kA_752 ?kF_752 ?kK_752 ?k6_752 ?k7_752 ?k8_752 ?k9_752 ?kB_752 ?_ ?c2_752 ?c3_752 ?c4_752 ?c5_752; (case kA_752 => exact rfl); (case kF_752 => exact rfl); (case kK_752 => first | exact rfl | assumption); (case k1_752 => k_asm); (case k2_752 => k_asm); (case k3_752 => k_asm); (case k4_752 => k_asm); (case k5_752 => k_asm); (case k6_752 => k_is); (case k7_752 => k_is); (case k8_752 => ktr_room); (case k9_752 => exact BindsTo.of_eq rfl); (case c5_752 => decide); (case kB_752 => exact locs rfl); (case c2_752 => exact rfl); (case c3_752 => exact rfl); (case c4_752 => exact rfl); k_whole; intro g' L' h' FG' F' N' B' X' T'; (try simp only [zipB, List.reverse_cons, List.reverse_nil, List.nil_append, List.cons_append] at F'); (try dsimp only); (try k_lift B'); (try k_fold))))
  (k_with "ite" => ((k_closed; first | with_reducible refine i_pos (by decide) ?_ | with_reducible refine i_neg (by decide) ?_)))
  (k_with "getItem ref str" => ((k_here; k_dflt (refine' getS ?k1_754 ?k2_754 ?_; (case k1_754 => k_tabat); (case k2_754 => (repeat (first | with_reducible exact lookD_hd | with_reducible refine lookD_tl (by decide) ?_ | with_reducible exact lookS_hd | with_reducible refine lookS_tl (by decide) ?_))); k_whole); intro _)))
  (k_with "MINE ga" => (first | exact Ga.has (by k_asm) (by k_asm) (by k_asm) (by with_reducible assumption) (by walk_at "MINE sub") (by k_is) (by k_is) (by k_is) (by k_is) | exact Ga.has2 (by k_asm) (by k_asm) (by k_asm) (by with_reducible assumption) (by walk_at "MINE sub") (by k_is) (by k_is) (by k_is) (by k_is) | exact Ga.own (by k_asm) (by k_asm) (by k_asm) (by k_mem) (by k_mem) (by k_is) (by k_is) (by k_is) (by k_is) (by k_get) (by k_handed)))
  (k_with "MINE tmem" => (first | with_reducible assumption | with_reducible exact List.mem_cons_self | (with_reducible refine List.mem_cons_of_mem _ ?_; walk_at "MINE tmem") | (with_reducible refine List.mem_append_right _ ?_; walk_at "MINE tmem")))
  (k_with "MINE ev" => (first | ((with_reducible show Ev _ _ _ _ _ (Expr.Name _ _) _ _); (fail_if_success (with_reducible show Ev _ _ (compEnvC _ _ _ _) _ _ _ _ _)); exact Ev.name (by k_asm) (by walk_at "MINE look") rfl (by decide) (by decide)) | ((with_reducible show Ev _ _ _ _ _ (Expr.Attribute _ _ _) _ _); exact Ev.attr (by walk_at "MINE ev") (by walk_at "MINE ga") (by with_unfolding_all rfl)) | with_reducible exact Ev.str | with_reducible exact Ev.int | with_reducible exact Ev.none | ((with_reducible show Ev _ _ _ _ _ (Expr.Subscript _ (Expr.Constant _ _ _) _) _ _); first | exact Ev.itemT (by walk_at "MINE ev") (by k_asm) (by walk_at "MINE tmem") (by decide) (by decide) (by first | with_reducible exact it0 | with_reducible exact it1 | with_reducible exact it2 | rfl) | exact Ev.itemL (by walk_at "MINE ev") (by k_asm) (by walk_at "MINE tmem") (by decide) (by decide) (by first | with_reducible exact it0 | with_reducible exact it1 | with_reducible exact it2 | rfl))))
  (k_with "MINE vs" => (first | ((with_reducible show Vs _ _ _ _ _ (_ :: _) _ _ _); exact Vs.cons (by walk_at "MINE ev") rfl (by walk_at "MINE vs")) | with_reducible exact Vs.nil))
  (k_with "MINE vp" => (first | ((with_reducible show Vs _ _ _ _ _ (_ :: _) _ _ _); exact Vs.cons (by walk_at "MINE ev") rfl (by walk_at "MINE vp")) | with_reducible exact Vs.nil))
  (k_with "spliced" => ((k_here; (with_reducible show wpAny _ _ (spliced (backTo _ (starEach (_ :: _) _))) _ _ _); k_dflt (first | ((with_reducible refine' args_all ?s_760 ?V_760 ?_); (case s_760 => exact rfl); (case V_760 => walk_at "MINE vs"); k_whole) | ((with_reducible refine' args_ev ?s_760 ?V_760 ?_); (case s_760 => exact rfl); (case V_760 => ((with_reducible show Vs _ _ _ _ _ (_ :: _) _ _ _); exact Vs.cons (by walk_at "MINE ev") rfl (by walk_at "MINE vp"))); k_whole)))))
  (k_with "eval Call" => ((k_here; (fail_if_success (with_reducible show wpAny _ _ (eval _ (compEnvC _ _ _ _)) _ _ _)); k_dflt (refine' call_ev ?F_761 ?X_761 ?T_761 ?e_761 ?k_761 ?a_761 ?b_761 ?f_761 ?c_761 ?s_761 ?V_761 ?_; (case s_761 => exact rfl); (case k_761 => rfl); (case a_761 => decide); (case b_761 => decide); (case F_761 => k_asm); (case X_761 => k_asm); (case T_761 => k_asm); (case e_761 => k_is); (case c_761 => exact rfl); (case f_761 => k_is); (case V_761 => walk_at "MINE vs"); k_whole))))
  (k_with "isTrue Compare" => ((k_here; first | ((with_reducible show wpAny _ _ (isTrue (Expr.Compare _ [CmpOp.Eq] [_] _) _ _) _ _ _); k_dflt (refine' ev_eqs ?s_762 ?x_762 ?y_762 ?m_762 ?_; (case s_762 => exact rfl); (case m_762 => with_unfolding_all rfl); (case x_762 => walk_at "MINE ev"); (case y_762 => walk_at "MINE ev"); k_whole)) | ((with_reducible show wpAny _ _ (isTrue (Expr.Compare _ [CmpOp.NotEq] [_] _) _ _) _ _ _); k_dflt (refine' ev_nes ?s_762 ?x_762 ?y_762 ?m_762 ?_; (case s_762 => exact rfl); (case m_762 => with_unfolding_all rfl); (case x_762 => walk_at "MINE ev"); (case y_762 => walk_at "MINE ev"); k_whole)) | ((with_reducible show wpAny _ _ (isTrue (Expr.Compare _ [CmpOp.In] [Expr.List _ _] _) _ _) _ _ _); k_dflt (refine' ev_inL ?s_762 ?e_762 ?z_762 ?m_762 ?F_762 ?N_762 ?x_762 ?_; (case s_762 => exact rfl); (case e_762 => exact rfl); (case z_762 => exact rfl); (case m_762 => with_unfolding_all rfl); (case F_762 => k_asm); (case N_762 => k_asm); (case x_762 => walk_at "MINE ev"); k_whole); intro h' tk' F' N'; (try k_sweep); (try dsimp only)) | ((with_reducible show wpAny _ _ (isTrue (Expr.Compare _ [CmpOp.In] [Expr.Tuple _ _ _] _) _ _) _ _ _); k_dflt (refine' ev_inT ?s_762 ?e_762 ?z_762 ?m_762 ?F_762 ?N_762 ?x_762 ?_; (case s_762 => exact rfl); (case e_762 => exact rfl); (case z_762 => exact rfl); (case m_762 => with_unfolding_all rfl); (case F_762 => k_asm); (case N_762 => k_asm); (case x_762 => walk_at "MINE ev"); k_whole); intro h' tk' F' N'; (try k_sweep); (try dsimp only)))))
  (k_with "eval BinOp" => ((k_here; k_dflt (refine' ev_bin ?s_763 ?x_763 ?y_763 ?_; (case s_763 => exact rfl); (case x_763 => walk_at "MINE ev"); (case y_763 => walk_at "MINE ev"); k_whole))))
  (k_with "eval Subscript" => ((k_here; k_dflt (refine' ev_sub ?s_764 ?x_764 ?y_764 ?_; (case s_764 => exact rfl); (case x_764 => walk_at "MINE ev"); (case y_764 => walk_at "MINE ev"); k_whole))))
  (k_with "eval Subscript" => ((k_here; (with_reducible show wpAny _ _ (eval (Expr.Subscript _ (Expr.Constant _ _ _) _) _) _ _ _); k_dflt (refine' ev_use ?s_765 ?x_765 ?_; (case s_765 => exact rfl); (case x_765 => walk_at "MINE ev"); k_whole))))
  (k_with "eval Attribute" => ((k_here; k_dflt (refine' ev_use ?s_766 ?x_766 ?_; (case s_766 => exact rfl); (case x_766 => walk_at "MINE ev"); k_whole))))
  (k_with "exec Return" => ((k_here; k_dflt (refine' ev_ret ?s_767 ?x_767 ?_; (case s_767 => exact rfl); (case x_767 => walk_at "MINE ev"); k_whole))))
  (k_with "storeName" => ((k_here; k_dflt (refine' storeE ?F_768 ?N_768 ?a_768 ?b_768 ?_; (case a_768 => rfl); (case b_768 => decide); (case F_768 => k_asm); (case N_768 => k_asm); k_whole); intro h' tk' F' N'; (try k_sweep))))
  (k_with "newList" => ((k_here; k_dflt (refine' newListE ?F_769 ?N_769 ?z_769 ?_; (case F_769 => k_asm); (case N_769 => k_asm); (case z_769 => size_fits); k_whole); intro l' h' F' N' l1; (try k_lt l1); (try k_sweep))))
  (k_with "newTuple" => ((k_here; kup_bare; k_dflt (refine' newTupleE ?F_770 ?N_770 ?z_770 ?_; (case F_770 => k_asm); (case N_770 => k_asm); (case z_770 => kmk_size); k_whole); intro D' h' F' N' l1; (try k_lt l1); (try k_sweep))))
  (k_with "call builtin:list.append" => ((k_here; (with_reducible show wpAny _ _ (call (Value.builtin _) [Value.ref _, _]) _ _ _); k_dflt (refine' appendE ?F_771 ?N_771 ?U_771 ?z_771 ?_; (case F_771 => k_asm); (case N_771 => k_asm); (case U_771 => k_upd); (case z_771 => size_fits); k_whole); intro h' F' N'; (try k_sweep))))
  (k_with "setAttr ref" => ((k_here; k_dflt (refine' setE ?F_772 ?X_772 ?N_772 ?i_772 ?j_772 ?k6_772 ?k7_772 ?k8_772 ?k9_772 ?k10_772 ?k11_772 ?k12_772 ?k13_772 ?_; (case F_772 => k_asm); (case X_772 => k_asm); (case N_772 => k_asm); (case i_772 => k_mem); (case j_772 => k_mem); (case k6_772 => k_is); (case k7_772 => k_is); (case k8_772 => k_is); (case k9_772 => k_is); (case k10_772 => k_get); (case k11_772 => k_put); (case k12_772 => k_upd); (case k13_772 => exact rfl); k_whole); intro h' tk' F' N'; (try k_sweep))))
  (k_with "LeaveK" => ((k_dflt (refine' leaveE ?F_773 ?N_773 ?_; (case F_773 => k_asm); (case N_773 => k_asm); k_whole); intro kF kN; (try dsimp only [InitBack]); (try refine ⟨rfl, ?_⟩))))
  (k_with "X k_enter" => ((refine' codeE ?k1_774 ?k2_774 ?k3_774 ?k4_774 ?k5_774 ?kA_774 ?kF_774 ?kK_774 ?k6_774 ?k7_774 ?k8_774 ?k9_774 ?kB_774 ?c2_774 ?c3_774 ?c4_774 ?c5_774 ?_; (case kA_774 => exact rfl); (case kF_774 => exact rfl); (case kK_774 => first | exact rfl | assumption); (case k1_774 => k_asm); (case k2_774 => k_asm); (case k3_774 => k_asm); (case k4_774 => k_asm); (case k5_774 => k_asm); (case k6_774 => k_is); (case k7_774 => k_is); (case k8_774 => ktr_room); (case k9_774 => exact BindsTo.of_eq rfl); (case c5_774 => decide); (case kB_774 => exact locs rfl); (case c2_774 => exact rfl); (case c3_774 => exact rfl); (case c4_774 => exact rfl); k_whole; intro g' L' h' tk' FG' F' N' B' X' T' nK aK; (try dsimp only [zipB, List.reverse, List.reverseAux] at F'); (try k_lift B'); (try k_fold))))
  (k_with "execs cons" => (first | with_reducible refine seq_if ?_ | with_reducible refine seq_cons ?_))
  (k_with "SeqK" => (first | with_reducible refine seq_end ?_ | with_reducible refine seq_next ?_ | with_reducible refine seq_ret ?_ | with_reducible refine seq_brk ?_ | with_reducible refine seq_cont ?_))
  (k_with "IfK" => (with_reducible refine ifK_open ?_))
  (k_with "AndK" => (with_reducible refine andK_open ?_))
  (k_with "OrK" => (with_reducible refine orK_open ?_))
  (k_with "exec If" => (with_reducible refine if_k ?_))
  (k_with "isTrue BoolOp" => (first | with_reducible refine and_k ?_ | with_reducible refine or_k ?_))
  (k_with "BackK" => ((k_dflt (first | (refine' backQ ?F_782 ?N_782 ?_; (case F_782 => k_asm); (case N_782 => k_asm); k_whole) | (refine' backN ?F_782 ?N_782 ?_; (case F_782 => k_asm); (case N_782 => k_asm); k_whole) | (refine' backR ?F_782 ?N_782 ?_; (case F_782 => k_asm); (case N_782 => k_asm); k_whole) | (refine' backRN ?F_782 ?N_782 ?_; (case F_782 => k_asm); (case N_782 => k_asm); k_whole)); intro kF kN; (try dsimp only [InitBack]); (try refine ⟨rfl, ?_⟩))))
  (k_with "compareOp In" => ((k_here; (with_reducible show wpAny _ _ (compareOp CmpOp.In Value.none (Value.ref _)) _ _ _); k_dflt (refine' in_none ?k1_783 ?k2_783 ?k3_783 ?k4_783 ?k5_783 ?_ ?_; (case k1_783 => k_asm); (case k2_783 => k_mem); (case k3_783 => assumption); (case k4_783 => assumption); (case k5_783 => ktr_units)); (intro hn; (try dsimp only)); rotate_left; (intro x' t' y' u' e1 e2 e3 e4; cases e1; (try cases e2); (try cases e3); (try cases e4); (try dsimp only)); rotate_left)))
  (k_with "compareOp IsNot" => ((k_here; (with_reducible show wpAny _ _ (compareOp CmpOp.IsNot _ Value.none) _ _ _); k_dflt (refine' isNot_none ?k3_784 ?_ ?_; (case k3_784 => assumption)); (intro e1 e2; subst e1 e2; (try dsimp only)); rotate_left; (intro x' t' e1 e2; subst e1 e2; (try dsimp only)); rotate_left)))
  (k_with "compareOp Is" => ((k_here; (with_reducible show wpAny _ _ (compareOp CmpOp.Is _ Value.none) _ _ _); k_dflt (refine' is_none ?k3_785 ?_ ?_; (case k3_785 => assumption)); (intro e1 e2; subst e1 e2; (try dsimp only)); rotate_left; (intro x' t' e1 e2; subst e1 e2; (try dsimp only)); rotate_left)))
  (k_with "MINE look" => ((repeat (first | with_reducible assumption | with_reducible exact lk_hd | with_reducible exact if_hd | with_reducible refine lk_tl (by decide) ?_ | with_reducible refine if_tl (by decide) ?_))))
  (k_with "MyPost" => ((dsimp only [MyPost])))
  (k_with "loadName" => ((k_here; k_dflt (refine' ldn ?F_788 ?v_788 ?_ ?k_788 ?a_788; (case k_788 => rfl); (case a_788 => rfl); (case F_788 => k_asm); (case v_788 => walk_at "MINE look"); k_whole))))
  (k_with "execs nil" => ((with_reducible refine wpAny_execs_nil ?_)))
  (k_with "CompEnd" => (((rename News _ _ _ _ => nE'); k_dflt (refine LCg.CompEnd.intro (by assumption) nE' _ (fun _ h => h) (by assumption) (by lcg_src) ?_))))
  (k_with "binaryOp Pow int int" => (((with_reducible refine pow_int_small ?_ ?_ ?_ ?_); (first | decide | omega); (first | decide | omega); (decide))))
  (k_with "exec For Name Subscript cons nil" => ((k_here; (with_reducible show wpAny _ _ (exec (Stmt.For (Expr.Name _ _) _ _ [] _) _) _ _ _); k_dflt ((rename Fr _ _ _ _ => lF'); refine' For_invVF lF' ?k1_792 ?k2_792 ?_; (case k1_792 => exact rfl); (case k2_792 => exact rfl); k_whole))))
  (k_with "exec For Name Name cons nil" => ((k_here; (with_reducible show wpAny _ _ (exec (Stmt.For (Expr.Name _ _) _ _ [] _) _) _ _ _); k_dflt ((rename Fr _ _ _ _ => lF'); refine' For_invVF lF' ?k1_793 ?k2_793 ?_; (case k1_793 => exact rfl); (case k2_793 => exact rfl); k_whole))))
  (k_with "exec For Name Attribute cons nil" => ((k_here; (with_reducible show wpAny _ _ (exec (Stmt.For (Expr.Name _ _) _ _ [] _) _) _ _ _); k_dflt ((rename Fr _ _ _ _ => lF'); refine' For_invVF lF' ?k1_794 ?k2_794 ?_; (case k1_794 => exact rfl); (case k2_794 => exact rfl); k_whole))))
  (k_with "exec For Name Call cons nil" => ((k_here; (with_reducible show wpAny _ _ (exec (Stmt.For (Expr.Name _ _) _ _ [] _) _) _ _ _); k_dflt ((rename Fr _ _ _ _ => lF'); refine' For_invVF lF' ?k1_795 ?k2_795 ?_; (case k1_795 => exact rfl); (case k2_795 => exact rfl); k_whole))))
  (k_with "call ref" => ((k_here; (with_reducible show wpAny _ _ (call (Value.ref 303) _) _ _ _); k_dflt (refine' pick_ct _ _ _ _ ?k1_796 ?k2_796 ?k3_796 ?k4_796 ?k5_796 ?kK_796 ?kd_796 ?ku_796 ?p0_796 ?p1_796 ?p2_796 ?p3_796 ?p4_796 ?p5_796 ?p6_796 ?p7_796 ?p8_796 ?p9_796 ?_; (case k1_796 => k_asm); (case k2_796 => k_asm); (case k3_796 => k_asm); (case k4_796 => k_asm); (case k5_796 => k_asm); (case kK_796 => first | exact rfl | assumption); (case kd_796 => ktr_room); (case ku_796 => ktr_units); (case p0_796 => k_updF); (case p1_796 => k_mem); (case p2_796 => assumption); (case p3_796 => omega); (case p4_796 => omega); (case p5_796 => omega); (case p6_796 => omega); (case p7_796 => omega); (case p8_796 => decide); (case p9_796 => decide)); intro r' t' i' ti' mx' tm' h' tk' F' N' r1 r2 i1 i2 m1 m2; (try dsimp only at N'); (try k_sweep); (try dsimp only); (try k_fold))))
  (k_with "call ref" => ((k_here; (with_reducible show wpAny _ _ (call (Value.ref 88) [_, _, _, _, _]) _ _ _); k_dflt (refine' node_ct _ _ _ _ ?k1_797 ?k2_797 ?k3_797 ?k4_797 ?k5_797 ?kK_797 ?kd_797 ?ku_797  ?_; (case k1_797 => k_asm); (case k2_797 => k_asm); (case k3_797 => k_asm); (case k4_797 => k_asm); (case k5_797 => k_asm); (case kK_797 => first | exact rfl | assumption); (case kd_797 => ktr_room); (case ku_797 => ktr_units)); intro x' d' t1 t2 t3 t4 t5 t6 h' tk' F' N' l1 l2; (try k_lt l1); (try k_lt2 l2); (try k_sweep); (try dsimp only); (try k_fold))))
  (k_with "call ref" => ((k_here; (with_reducible show wpAny _ _ (call (Value.ref 88) [_, _, _, _]) _ _ _); k_dflt (refine' node4_ct _ _ _ _ ?k1_798 ?k2_798 ?k3_798 ?k4_798 ?k5_798 ?kK_798 ?kd_798 ?ku_798  ?_; (case k1_798 => k_asm); (case k2_798 => k_asm); (case k3_798 => k_asm); (case k4_798 => k_asm); (case k5_798 => k_asm); (case kK_798 => first | exact rfl | assumption); (case kd_798 => ktr_room); (case ku_798 => ktr_units)); intro x' d' tq1 tq2 tq3 tq4 tq5 tq6 h' tk' F' N' l1 l2; (try k_lt l1); (try k_lt2 l2); (try k_sweep); (try dsimp only); (try k_fold))))
  (k_with "call ref" => ((k_here; (with_reducible show wpAny _ _ (call (Value.ref 99) _) _ _ _); k_dflt (refine' const_ct _ _ _ _ ?k1_799 ?k2_799 ?k3_799 ?k4_799 ?k5_799 ?kK_799 ?kd_799 ?ku_799  ?_; (case k1_799 => k_asm); (case k2_799 => k_asm); (case k3_799 => k_asm); (case k4_799 => k_asm); (case k5_799 => k_asm); (case kK_799 => first | exact rfl | assumption); (case kd_799 => ktr_room); (case ku_799 => ktr_units)); intro x' d' l' t0 t1 t2 t3 t4 t5 t6 h' tk' F' N' l1 l2 l3; (try k_lt l1); (try k_lt2 l2); (try k_lt2 l3); (try k_sweep); (try dsimp only); (try k_fold))))
  (k_with "X k_upd" => (exact upd_over (by assumption) _ (by assumption)))
  (k_with "X k_upd" => (exact Slots2.ua (by assumption) _))
  (k_with "X k_updF" => (exact Slots2.fb (by assumption)))
  (k_with "X k_mem" => (exact Slots2.mb (by assumption)))
  (k_with "X k_mem" => (exact Slots2.ma (by assumption)))
  (k_with "compareOp NotIn int ref" => ((k_here; k_dflt (refine' pl_notin ?k1_805 ?k2_805 ?k3_805 ?k4_805 ?k5_805 ?_; (case k1_805 => k_asm); (case k2_805 => k_mem); (case k3_805 => assumption); (case k4_805 => assumption); (case k5_805 => assumption)))))
  (k_with "setItem ref int" => ((k_here; k_dflt (refine' pl_set ?v_806 ?F_806 ?N_806 ?U_806 ?d_806 ?p_806 ?z_806 ?_; (case F_806 => k_asm); (case N_806 => k_asm); (case U_806 => k_updF); (case d_806 => assumption); (case p_806 => assumption); (case z_806 => assumption); (case v_806 => k_flat)); intro h' o' F' N' hd'; (try dsimp only at N'); (try k_sweep))))
  (k_with "call ref" => ((k_here; (with_reducible show wpAny _ _ (call (Value.ref 190) _) _ _ _); k_dflt (refine' mark_ct _ _ _ _ ?k1_807 ?k2_807 ?k3_807 ?k4_807 ?k5_807 ?kK_807 ?kd_807 ?ku_807 ?p0_807 ?p1_807 ?p2_807 ?p3_807 ?p4_807 ?p5_807 ?p6_807 ?_; (case k1_807 => k_asm); (case k2_807 => k_asm); (case k3_807 => k_asm); (case k4_807 => k_asm); (case k5_807 => k_asm); (case kK_807 => first | exact rfl | assumption); (case kd_807 => ktr_room); (case ku_807 => ktr_units); (case p0_807 => k_updF); (case p1_807 => assumption); (case p2_807 => assumption); (case p3_807 => assumption); (case p4_807 => assumption); (case p5_807 => first | assumption | omega); (case p6_807 => first | assumption | omega)); intro r' od' h' tk' F' N' hpl' l1; (try dsimp only at N'); (try k_lt l1); (try k_sweep); (try dsimp only); (try k_fold))))
  (k_with "getMethod ref" => ((k_here; (with_reducible show wpAny _ _ (getMethod _ (Str.ofString "mark") _) _ _ _); k_dflt (refine' err_mark ?k1_808 ?k2_808 ?k3_808 ?k4_808 ?k5_808 ?k6_808 ?k7_808 ?k8_808 ?_; (case k1_808 => k_asm); (case k2_808 => k_asm); (case k3_808 => k_asm); (case k4_808 => with_reducible assumption); (case k5_808 => first | exact fun _ h => h | (intro p hp; repeat (first | exact hp | apply List.mem_cons_of_mem))); (case k6_808 => k_is); (case k7_808 => k_is); (case k8_808 => k_is); k_whole))))
  (k_with "call ref" => ((k_here; (with_reducible show wpAny _ _ (call (Value.ref 120) _) _ _ _); k_dflt (refine' wrong_ct _ _ _ _ ?k1_809 ?k2_809 ?k3_809 ?k4_809 ?k5_809 ?kK_809 ?kd_809 ?ku_809 ?p0_809 ?p1_809 ?p2_809 ?p3_809 ?p4_809 ?p5_809 ?p6_809 ?_; (case k1_809 => k_asm); (case k2_809 => k_asm); (case k3_809 => k_asm); (case k4_809 => k_asm); (case k5_809 => k_asm); (case kK_809 => first | exact rfl | assumption); (case kd_809 => ktr_room); (case ku_809 => ktr_units); (case p0_809 => first | k_updF | exact UpdF2.over (by assumption) (by assumption) | exact UpdF2.over (UpdF2.over (by assumption) (by assumption)) (kst_ltOf (by assumption))); (case p1_809 => first | with_reducible assumption | exact errIn_over (by assumption) | exact errIn_over (errIn_over (by assumption))); (case p2_809 => assumption); (case p3_809 => assumption); (case p4_809 => first | assumption | exact List.not_mem_nil); (case p5_809 => first | assumption | exact Nat.zero_le _); (case p6_809 => first | assumption | exact Nat.zero_le _)); intro x' d' l' r' t0 t1 t2 t3 t4 t5 t6 t7 od' h' tk' F' N' hpl' l1 l2 l3 l4; (try dsimp only at N'); (try k_lt2 l2); (try k_lt2 l3); (try k_lt2 l4); (try k_sweep); (try dsimp only); (try k_fold))))
  (k_with "call ref" => ((k_here; (with_reducible show wpAny _ _ (call (Value.ref 42) _) _ _ _); k_dflt (refine' checked_ct _ _ _ _ ?k1_810 ?k2_810 ?k3_810 ?k4_810 ?k5_810 ?kK_810 ?kd_810 ?ku_810  ?_; (case k1_810 => k_asm); (case k2_810 => k_asm); (case k3_810 => k_asm); (case k4_810 => k_asm); (case k5_810 => k_asm); (case kK_810 => first | exact rfl | assumption); (case kd_810 => ktr_room); (case ku_810 => ktr_units)); intro r' t1 t2 tp' h' tk' F' N' l1 e1; (try k_lt l1); (try k_sweep); (try dsimp only); (try k_fold))))
  (k_with "call ref" => ((k_here; (with_reducible show wpAny _ _ (call (Value.ref 63) _) _ _ _); k_dflt (refine' fold_ct _ _ _ _ ?k1_811 ?k2_811 ?k3_811 ?k4_811 ?k5_811 ?kK_811 ?kd_811 ?ku_811 ?p0_811 ?p1_811 ?p2_811 ?p3_811 ?_; (case k1_811 => k_asm); (case k2_811 => k_asm); (case k3_811 => k_asm); (case k4_811 => k_asm); (case k5_811 => k_asm); (case kK_811 => first | exact rfl | assumption); (case kd_811 => ktr_room); (case ku_811 => ktr_units); (case p0_811 => omega); (case p1_811 => omega); (case p2_811 => omega); (case p3_811 => omega)); intro r' t1 t2 tp' h' tk' F' N' l1 e1; (try k_lt l1); (try k_sweep); (try dsimp only); (try k_fold))))
  (k_with "call ref" => ((k_here; (with_reducible show wpAny _ _ (call (Value.ref 106) _) _ _ _); k_dflt (refine' isint_ct _ _ _ _ ?k1_812 ?k2_812 ?k3_812 ?k4_812 ?k5_812 ?kK_812 ?kd_812 ?ku_812 ?p0_812 ?_; (case k1_812 => k_asm); (case k2_812 => k_asm); (case k3_812 => k_asm); (case k4_812 => k_asm); (case k5_812 => k_asm); (case kK_812 => first | exact rfl | assumption); (case kd_812 => ktr_room); (case ku_812 => ktr_units); (case p0_812 => first | with_reducible assumption | exact HasA.mono (by assumption) (by first | exact fun _ h => h | (intro p hp; repeat (first | exact hp | apply List.mem_cons_of_mem))))); intro h' tk' F' N'; (try k_sweep); (try dsimp only); (try k_fold))))
  (k_with "call ref" => ((k_here; (with_reducible show wpAny _ _ (call (Value.ref 106) _) _ _ _); k_dflt (refine' isintset_ct _ _ _ _ ?k1_813 ?k2_813 ?k3_813 ?k4_813 ?k5_813 ?kK_813 ?kd_813 ?ku_813 ?p0_813 ?p1_813 ?_; (case k1_813 => k_asm); (case k2_813 => k_asm); (case k3_813 => k_asm); (case k4_813 => k_asm); (case k5_813 => k_asm); (case kK_813 => first | exact rfl | assumption); (case kd_813 => ktr_room); (case ku_813 => ktr_units); (case p0_813 => exact HasA.mono (by assumption) (by walk_at "MINE sub")); (case p1_813 => with_reducible assumption)); intro h' tk' F' N'; (try k_sweep); (try dsimp only); (try k_fold))))
  (k_with "call ref" => ((k_here; (with_reducible show wpAny _ _ (call (Value.ref 113) _) _ _ _); k_dflt (refine' isconst_ct _ _ _ _ ?k1_814 ?k2_814 ?k3_814 ?k4_814 ?k5_814 ?kK_814 ?kd_814 ?ku_814 ?p0_814 ?_; (case k1_814 => k_asm); (case k2_814 => k_asm); (case k3_814 => k_asm); (case k4_814 => k_asm); (case k5_814 => k_asm); (case kK_814 => first | exact rfl | assumption); (case kd_814 => ktr_room); (case ku_814 => ktr_units); (case p0_814 => first | with_reducible assumption | exact HasA.mono (by assumption) (by first | exact fun _ h => h | (intro p hp; repeat (first | exact hp | apply List.mem_cons_of_mem))))); intro h' tk' F' N'; (try k_sweep); (try dsimp only); (try k_fold))))
  (k_with "call ref" => ((k_here; (with_reducible show wpAny _ _ (call (Value.ref 148) _) _ _ _); k_dflt (refine' bnode_ct _ _ _ _ ?k1_815 ?k2_815 ?k3_815 ?k4_815 ?k5_815 ?kK_815 ?kd_815 ?ku_815 ?p0_815 ?p1_815 ?p2_815 ?p3_815 ?p4_815 ?p5_815 ?p6_815 ?_; (case k1_815 => k_asm); (case k2_815 => k_asm); (case k3_815 => k_asm); (case k4_815 => k_asm); (case k5_815 => k_asm); (case kK_815 => first | exact rfl | assumption); (case kd_815 => ktr_room); (case ku_815 => ktr_units); (case p0_815 => first | k_updF | exact UpdF2.over (by assumption) (by assumption) | exact UpdF2.over (UpdF2.over (by assumption) (by assumption)) (kst_ltOf (by assumption))); (case p1_815 => first | with_reducible assumption | exact errIn_over (by assumption) | exact errIn_over (errIn_over (by assumption))); (case p2_815 => assumption); (case p3_815 => assumption); (case p4_815 => exact NodeF.mono (by assumption) (by first | exact fun _ h => h | (intro p hp; repeat (first | exact hp | apply List.mem_cons_of_mem)))); (case p5_815 => exact NodeF.mono (by assumption) (by first | exact fun _ h => h | (intro p hp; repeat (first | exact hp | apply List.mem_cons_of_mem)))); (case p6_815 => first | with_reducible assumption | exact binArgs_bool (by assumption) (by assumption) (by assumption) (by assumption) | exact binArgs_set (by assumption) (by assumption) (by assumption) (by assumption) | exact binArgs_int (by assumption) (by assumption) (by assumption) (by assumption))); intro new' x' rows' nn' od' h' tk' F' N' ov' res'; (try dsimp only at N'); (try k_sweep); (try dsimp only); (try k_fold))))
  (k_with "compareOp LtE" => ((k_here; k_dflt (refine' le_side ?h_816 ?h1_816 ?h2_816 ?_; (case h_816 => assumption); (case h1_816 => assumption); (case h2_816 => assumption)); intro b t ev eo; subst ev; subst eo; (try dsimp only))))
  (k_with "binaryOp Add str str" => ((refine PyProof.Rows.add_str ?_ (sadd (by assumption)); intro _ _)))
  (k_with "MINE due" => ((simp only [dueC, dueOp, dueSel, setOp, divOp, negO, badOps, isI_set, *, reduceIte, Bool.and_true, Bool.true_and, Bool.and_false, Bool.false_and, Bool.false_eq_true, decide_true, decide_false])))
  (k_with "call ref" => ((k_here; (with_reducible show wpAny _ _ (call (Value.ref 275) _) _ _ _); k_dflt (refine' new_ct _ _ _ _ ?k1_819 ?k2_819 ?k3_819 ?k4_819 ?k5_819 ?kK_819 ?kd_819 ?ku_819 ?p0_819 ?p1_819 ?p2_819 ?p3_819 ?p4_819 ?_; (case k1_819 => k_asm); (case k2_819 => k_asm); (case k3_819 => k_asm); (case k4_819 => k_asm); (case k5_819 => k_asm); (case kK_819 => first | exact rfl | assumption); (case kd_819 => ktr_room); (case ku_819 => ktr_units); (case p0_819 => k_updF); (case p1_819 => (intro o; (try dsimp only); k_mem)); (case p2_819 => (simp only [List.length_cons, List.length_nil]; omega)); (case p3_819 => first | decide | omega); (case p4_819 => first | decide | omega)); intro ty' new' tc' h' tk' F' N' ov' tf' tb'; (try dsimp only at N'); (try k_sweep); (try dsimp only); (try k_fold))))
  (k_with "call ref" => ((k_here; (with_reducible show wpAny _ _ (call (Value.ref 282) _) _ _ _); k_dflt (refine' string_ct _ _ _ _ ?k1_820 ?k2_820 ?k3_820 ?k4_820 ?k5_820 ?kK_820 ?kd_820 ?ku_820 ?p0_820 ?p1_820 ?p2_820 ?p3_820 ?p4_820 ?_; (case k1_820 => k_asm); (case k2_820 => k_asm); (case k3_820 => k_asm); (case k4_820 => k_asm); (case k5_820 => k_asm); (case kK_820 => first | exact rfl | assumption); (case kd_820 => ktr_room); (case ku_820 => ktr_units); (case p0_820 => k_mem); (case p1_820 => k_updF); (case p2_820 => (intro o; (try dsimp only); k_mem)); (case p3_820 => omega); (case p4_820 => omega)); intro ty' new' tc' h' tk' F' N' ov' tf'; (try dsimp only at N'); (try k_sweep); (try dsimp only); (try k_fold))))
  (k_with "X k_all" => (exact tyI_all (by assumption)))
  (k_with "call ref" => ((k_here; (with_reducible show wpAny _ _ (call (Value.ref 275) _) _ _ _); k_dflt (refine' new2_ct _ _ _ _ ?k1_822 ?k2_822 ?k3_822 ?k4_822 ?k5_822 ?kK_822 ?kd_822 ?ku_822 ?p0_822 ?p1_822 ?p2_822 ?p3_822 ?p4_822 ?p5_822 ?p6_822 ?p7_822 ?_; (case k1_822 => k_asm); (case k2_822 => k_asm); (case k3_822 => k_asm); (case k4_822 => k_asm); (case k5_822 => k_asm); (case kK_822 => first | exact rfl | assumption); (case kd_822 => ktr_room); (case ku_822 => ktr_units); (case p0_822 => first | exact sub_hereY | exact sub_one); (case p1_822 => first | exact sub_here | exact sub_tl3); (case p2_822 => first | with_reducible assumption | exact tyI_one (by assumption) (by assumption) (by assumption)); (case p3_822 => k_mem); (case p4_822 => k_mem); (case p5_822 => (simp only [List.length_cons, List.length_nil]; omega)); (case p6_822 => first | decide | omega); (case p7_822 => first | decide | omega)); intro ty' new' tc' h' tk' F' N' sub' ov' tf' tb'; (try dsimp only at N'); (try k_sweep); (try dsimp only); (try k_fold))))
  (k_with "call ref" => ((k_here; (with_reducible show wpAny _ _ (call (Value.ref 49) _) _ _ _); k_dflt (refine' foldu_ct _ _ _ _ ?k1_823 ?k2_823 ?k3_823 ?k4_823 ?k5_823 ?kK_823 ?kd_823 ?ku_823 ?p0_823 ?p1_823 ?_; (case k1_823 => k_asm); (case k2_823 => k_asm); (case k3_823 => k_asm); (case k4_823 => k_asm); (case k5_823 => k_asm); (case kK_823 => first | exact rfl | assumption); (case kd_823 => ktr_room); (case ku_823 => ktr_units); (case p0_823 => omega); (case p1_823 => omega)); intro r' t1 t2 tp' h' tk' F' N' l1 e1; (try k_lt l1); (try k_sweep); (try dsimp only); (try k_fold))))
  (k_with "call ref" => ((k_here; (with_reducible show wpAny _ _ (call (Value.ref 134) _) _ _ _); k_dflt (refine' unode_ct _ _ _ _ ?k1_824 ?k2_824 ?k3_824 ?k4_824 ?k5_824 ?kK_824 ?kd_824 ?ku_824 ?p0_824 ?p1_824 ?p2_824 ?p3_824 ?p4_824 ?p5_824 ?_; (case k1_824 => k_asm); (case k2_824 => k_asm); (case k3_824 => k_asm); (case k4_824 => k_asm); (case k5_824 => k_asm); (case kK_824 => first | exact rfl | assumption); (case kd_824 => ktr_room); (case ku_824 => ktr_units); (case p0_824 => first | k_updF | exact UpdF2.over (by assumption) (by assumption)); (case p1_824 => first | with_reducible assumption | exact errIn_over (by assumption)); (case p2_824 => assumption); (case p3_824 => assumption); (case p4_824 => exact NodeF.mono (by assumption) (by walk_at "MINE sub")); (case p5_824 => first | with_reducible assumption | exact uArgs_bool (by assumption) (by assumption) | exact uArgs_set (by assumption) (by assumption) | exact uArgs_int (by assumption) (by assumption))); intro new' x' rows' nn' od' h' tk' F' N' ov' res'; (try dsimp only at N'); (try k_sweep); (try dsimp only); (try k_fold))))
  (k_with "MINE udue" => ((simp only [uC, uOp, uSel, badOps, *, reduceIte, Bool.not_true, Bool.not_false, Bool.and_true, Bool.true_and, Bool.and_false, Bool.false_and, Bool.false_eq_true])))
  (k_with "getItem ref str" => ((k_here; k_dflt (refine' getMask ?k1_826 ?k2_826 ?_; (case k1_826 => assumption); (case k2_826 => k_tabat)); intro V9 t9 hV9 hV0 hV1; (try dsimp only))))
  (k_with "binaryOp Mult int int" => (with_reducible refine PyProof.Rows.mul_int ?_ (mulok01 (by assumption) (by assumption))))
  (k_with "binaryOp Pow int int" => (((with_reducible refine pow_int_small ?_ ?_ ?_ ?_); (omega); (omega); (decide))))
  (k_with "call ref" => ((k_here; (with_reducible show wpAny _ _ (call (Value.ref 324) _) _ _ _); k_dflt (refine' mask_ct _ _ _ _ ?k1_829 ?k2_829 ?k3_829 ?k4_829 ?k5_829 ?kK_829 ?kd_829 ?ku_829 ?p0_829 ?p1_829 ?p2_829 ?_; (case k1_829 => k_asm); (case k2_829 => k_asm); (case k3_829 => k_asm); (case k4_829 => k_asm); (case k5_829 => k_asm); (case kK_829 => first | exact rfl | assumption); (case kd_829 => ktr_room); (case ku_829 => ktr_units); (case p0_829 => exact dom_mk (by assumption) (by assumption) (by assumption)); (case p1_829 => exact dom_mk (by assumption) (by assumption) (by assumption)); (case p2_829 => exact op4_of (by assumption))); intro t' h' tk' F' N'; (try k_sweep); (try dsimp only); (try k_fold))))
  (k_with "call ref" => ((k_here; (with_reducible show wpAny _ _ (call (Value.ref 317) _) _ _ _); k_dflt (refine' exact_ct _ _ _ _ ?k1_830 ?k2_830 ?k3_830 ?k4_830 ?k5_830 ?kK_830 ?kd_830 ?ku_830 ?p0_830 ?p1_830 ?p2_830 ?p3_830 ?p4_830 ?_; (case k1_830 => k_asm); (case k2_830 => k_asm); (case k3_830 => k_asm); (case k4_830 => k_asm); (case k5_830 => k_asm); (case kK_830 => first | exact rfl | assumption); (case kd_830 => ktr_room); (case ku_830 => ktr_units); (case p0_830 => exact dom_lo (by assumption) (by assumption) (by assumption)); (case p1_830 => exact dom_hi (by assumption) (by assumption) (by assumption)); (case p2_830 => exact dom_lo (by assumption) (by assumption) (by assumption)); (case p3_830 => exact dom_hi (by assumption) (by assumption) (by assumption)); (case p4_830 => first | exact exop1 (by assumption) (by assumption) (by assumption) (by assumption) | exact exop2 (by assumption) (by assumption) (by assumption))); intro t' h' tk' F' N'; (try k_sweep); (try dsimp only); (try k_fold))))
  (k_with "MINE duek" => ((simp only [dueC, dueOp, dueSel, setOp, divOp, negO, badOps, bne, *, reduceIte, Bool.not_true, Bool.not_false, Bool.and_true, Bool.true_and, Bool.and_false, Bool.false_and, Bool.false_eq_true, decide_true, decide_false])))
  (k_with "MINE ltend" => (first | with_reducible assumption | exact kst_ltOf (by with_reducible assumption) | exact kst_ltOf (And.right (by assumption)) | exact kst_ltOf (And.right (And.right (by assumption))) | exact kst_ltOf (And.right (And.right (And.right (by assumption))))))
  (k_with "MINE a3" => (first | exact and3a (by assumption) | exact and3b (by assumption) | exact and3c (by assumption) | exact and3a (set_int (by assumption))))
  (k_with "MINE or2" => (first | exact Or.inl (by assumption) | exact Or.inr (by assumption) | exact Or.inr rfl | exact Or.inr (by simp only [negO, decide_eq_false_iff_not]; omega)))
  (k_with "MINE dueend" => (first | exact due_bad1 (by assumption) (by assumption) (by assumption) | exact due_bad2 (by assumption) (by assumption) (by assumption) (by assumption) (by assumption) | exact due_bnone (by assumption) (by assumption) (by assumption) (by assumption) (by assumption) (by assumption) | exact due_band (by assumption) (by assumption) (by assumption) (by assumption) (by assumption) (by assumption) (by assumption) | exact due_bor (by assumption) (by assumption) (by assumption) (by assumption) (by assumption) (by assumption) (by assumption) (by assumption) | exact due_snone (by assumption) (by assumption) (by assumption) (by assumption) (by assumption) (by assumption) (by assumption) rfl | exact due_sval (by assumption) (by assumption) (by assumption) (by assumption) (by assumption) (by assumption) (by assumption) (by assumption) rfl | exact due_wS (by assumption) (by assumption) (by assumption) (by walk_at "MINE a3") (by walk_at "MINE a3") (by assumption) | exact due_wI (by assumption) (by assumption) (by assumption) (by walk_at "MINE a3") (by walk_at "MINE a3") (by assumption) | exact due_idiv (by assumption) (by assumption) (by assumption) (by assumption) (by assumption) (by assumption) (by assumption) (by assumption) | exact due_inone (by assumption) (by assumption) (by assumption) (by assumption) (by assumption) (by assumption) (by walk_at "MINE or2") (by assumption) | exact due_ival (by assumption) (by assumption) (by assumption) (by assumption) (by assumption) (by assumption) (by assumption) (by assumption) (by assumption) (by walk_at "MINE or2") (by assumption) (by assumption) | exact due_iovf (by assumption) (by assumption) (by assumption) (by assumption) (by assumption) (by assumption) (by assumption) (by assumption) (by assumption) (by walk_at "MINE or2") (by walk_at "MINE or2")))
  (k_with "call ref" => ((k_here; (with_reducible show wpAny _ _ (call (Value.ref 331) _) _ _ _); k_dflt (refine' due_ct _ _ _ _ ?k1_836 ?k2_836 ?k3_836 ?k4_836 ?k5_836 ?kK_836 ?kd_836 ?ku_836 ?p0_836 ?p1_836 ?p2_836 ?p3_836 ?p4_836 ?p5_836 ?p6_836 ?p7_836 ?p8_836 ?_; (case k1_836 => k_asm); (case k2_836 => k_asm); (case k3_836 => k_asm); (case k4_836 => k_asm); (case k5_836 => k_asm); (case kK_836 => first | exact rfl | assumption); (case kd_836 => ktr_room); (case ku_836 => ktr_units); (case p0_836 => k_mem); (case p1_836 => k_mem); (case p2_836 => assumption); (case p3_836 => assumption); (case p4_836 => assumption); (case p5_836 => assumption); (case p6_836 => assumption); (case p7_836 => assumption); (case p8_836 => assumption)); intro d' form' code' op' v4' t1 t2 t3 h' tk' F' N' l1 due'; (try k_lt l1); (try k_sweep); (try dsimp only); (try k_fold))))
  (k_with "MINE rows" => (first | with_reducible assumption | exact RowsAre.nil | exact RowsAre.cons (by first | assumption | decide +kernel) (by k_mem) .nil))
  (k_with "MINE ints" => (first | with_reducible assumption | exact IntsAre.nil | exact IntsAre.cons _ _ .nil | exact IntsAre.cons _ _ (.cons _ _ .nil) | exact IntsAre.cons _ _ (.cons _ _ (.cons _ _ .nil))))
  (k_with "compareOp NotEq ref ref" => ((k_here; k_dflt (refine' ne_rowsS ?k1_839 ?k2_839 ?k3_839 ?k4_839 ?k5_839 ?k6_839 ?_; (case k1_839 => k_asm); (case k2_839 => k_mem); (case k3_839 => k_mem); (case k4_839 => walk_at "MINE rows"); (case k5_839 => walk_at "MINE rows"); (case k6_839 => ktr_units); k_whole))))
  (k_with "compareOp Eq ref ref" => ((k_here; k_dflt (refine' eq_intsS ?k1_840 ?k2_840 ?k3_840 ?k4_840 ?k5_840 ?k6_840 ?_; (case k1_840 => k_asm); (case k2_840 => k_mem); (case k3_840 => k_mem); (case k4_840 => walk_at "MINE ints"); (case k5_840 => walk_at "MINE ints"); (case k6_840 => ktr_units); k_whole))))
  (k_with "subscriptTail" => ((k_here; (with_reducible show wpAny _ _ (subscriptTail _ _ (Value.ref _) (Value.int (-1) _)) _ _ _); k_dflt (refine' itemL ?k1_841 ?k2_841 ?k5_841 ?kz_841 ?_ ?k6_841; (case k1_841 => k_asm); (case k2_841 => k_mem); (case k5_841 => rfl); (case kz_841 => exact Nat.le_of_ble_eq_true rfl); (case k6_841 => with_unfolding_all rfl); k_whole))))
  (k_with "call ref" => ((k_here; (with_reducible show wpAny _ _ (call (Value.ref 70) _) _ _ _); k_dflt (refine' range_ct _ _ _ _ ?k1_842 ?k2_842 ?k3_842 ?k4_842 ?k5_842 ?kK_842 ?kd_842 ?ku_842 ?p0_842 ?p1_842 ?p2_842 ?p3_842 ?_; (case k1_842 => k_asm); (case k2_842 => k_asm); (case k3_842 => k_asm); (case k4_842 => k_asm); (case k5_842 => k_asm); (case kK_842 => first | exact rfl | assumption); (case kd_842 => ktr_room); (case ku_842 => ktr_units); (case p0_842 => omega); (case p1_842 => omega); (case p2_842 => omega); (case p3_842 => omega)); intro t' h' tk' F' N'; (try k_sweep); (try dsimp only); (try k_fold))))
  (k_with "eval ListComp" => ((k_here; (with_reducible show wpAny _ _ (eval (Expr.ListComp (Expr.Attribute _ _ _) _ _ _) _) _ _ _); k_dflt (refine' comp_place ?F_843 ?N_843 ?X_843 ?i_843 ?hl_843 ?P_843 ?s_843 ?z_843 ?hh_843 ?g1_843 ?g2_843 ?g3_843 ?g4_843 ?c1_843 ?c2_843 ?c3_843 ?c4_843 ?c5_843 ?c6_843 ?c7_843 ?_; (case F_843 => k_asm); (case N_843 => k_asm); (case X_843 => k_asm); (case i_843 => walk_at "MINE ev"); (case hl_843 => k_mem); (case P_843 => assumption); (case s_843 => walk_at "MINE sub"); (case z_843 => assumption); (case hh_843 => rfl); (case g1_843 => k_is); (case g2_843 => k_is); (case g3_843 => k_is); (case g4_843 => k_is); (case c1_843 => with_unfolding_all rfl); (case c2_843 => decide); (case c3_843 => rfl); (case c4_843 => decide); (case c5_843 => rfl); (case c6_843 => decide); (case c7_843 => exact fun _ => rfl); k_whole); intro D' zs' h' tk' F' N' I')))
  (k_with "ite" => (first | with_reducible refine i_neself ?_ | with_reducible refine i_eqself ?_ | with_reducible refine i_neint ?_ | with_reducible refine i_eqint ?_ | with_reducible refine i_neint2 ?_ | with_reducible refine i_eqint2 ?_))
  (k_with "MINE u" => ((simp only [uSel, uC, uOp, uCode, uVal, s_mt, s_mm, s_tt, s_pt, s_pm, s_nn, s_on, s_oo, s_sn, s_so, bne, *, reduceIte, Bool.not_true, Bool.not_false, Bool.and_true, Bool.true_and, Bool.and_false, Bool.false_and, Bool.false_eq_true])))
  (k_with "binaryOp Pow int int" => (first | with_reducible refine pow32_int ?_ | with_reducible refine pow31_int ?_))
  (k_with "MINE ueq" => (first | with_reducible rfl | omega | (simp only [pow32]; omega) | fail "ueq"))
  (k_with "MINE udueend" => (first | exact um_set_n (by assumption) (by assumption) | exact um_set_s (by assumption) (by assumption) (by assumption) (by walk_at "MINE ueq") | exact um_int_n (by assumption) (by assumption) | exact um_int_s (by assumption) (by assumption) (by assumption) (by assumption) (by walk_at "MINE ueq") | exact um_int_o (by assumption) (by assumption) (by assumption) | exact um_bad (by assumption) (by assumption) (by assumption) | exact ut_n (by assumption) (by assumption) | exact ut_s (by assumption) (by assumption) (by walk_at "MINE ueq") | exact ut_bad (by assumption) (by assumption) | exact up_bad (by assumption) (by assumption)))
  (k_with "execs cons" => ((k_here; (with_reducible show wpAny _ _ (execs (Stmt.Assign [Expr.Name (Str.ofString "due") _] _ _ :: _) _) _ _ _); (with_reducible refine wpAny_execs_cons ?_); try dsimp only)))
  (k_with "X k_all" => (with_reducible assumption))
  (k_with "subscriptTail" => ((k_here; (with_reducible show wpAny _ _ (subscriptTail _ _ (Value.ref _) (Value.int _ _)) _ _ _); k_dflt (refine' menu_item ?k1_851 ?k2_851 ?k3_851 ?k4_851 ?k5_851 ?k6_851 ?_ ?k7_851; (case k1_851 => k_asm); (case k2_851 => k_mem); (case k3_851 => repeat constructor); (case k4_851 => assumption); (case k5_851 => (simp only [List.length_cons, List.length_nil]; omega)); (case k6_851 => decide); (case k7_851 => with_unfolding_all rfl); k_whole); intro a' t' hmenu)))
  (k_with "subscriptTail" => ((k_here; (with_reducible show wpAny _ _ (subscriptTail _ _ (Value.ref _) (Value.int _ _)) _ _ _); k_dflt (refine' kinds_item ?k1_852 ?k2_852 ?k3_852 ?k4_852 ?k5_852 ?k6_852 ?k7_852 ?k8_852 ?k9_852 ?k10_852 ?_ ?k11_852; (case k1_852 => k_asm); (case k2_852 => k_mem); (case k3_852 => k_mem); (case k4_852 => k_mem); (case k5_852 => k_mem); (case k6_852 => k_mem); (case k7_852 => k_mem); (case k8_852 => k_mem); (case k9_852 => walk_at "MINE menu"); (case k10_852 => walk_at "MINE menu"); (case k11_852 => with_unfolding_all rfl); k_whole); intro tup' ty' kd' f' tok' nn' htup' hkt')))
  (k_with "MINE menu" => (first | exact menu_lo (by assumption) | exact menu_hi (by assumption)))
  (k_with "ite" => (((with_reducible show (if (_ == Str.ofString _) = true then _ else _)); first | (refine ite_pos (by with_reducible assumption) ?_) | (refine ite_strF (by with_reducible assumption) ?_) | (refine i_strS ?_ ?_; (intro e9; subst e9); rotate_left; (intro _); rotate_left))))
  (k_with "ite" => (((with_reducible show (if (_ != Str.ofString _) = true then _ else _)); first | (refine ite_strneF (by with_reducible assumption) ?_) | (refine i_strN ?_ ?_; (intro _); rotate_left; (intro e9; subst e9); rotate_left))))
  (k_with "MINE allLt" => (first | assumption | exact And.right (by assumption) | exact And.right (And.right (by assumption)) | exact And.right (And.right (And.right (by assumption))) | exact (And.right <| And.right <| And.right <| And.right (by assumption)) | exact (And.right <| And.right <| And.right <| And.right <| And.right (by assumption)) | exact (And.right <| And.right <| And.right <| And.right <| And.right <| And.right (by assumption)) | exact (And.right <| And.right <| And.right <| And.right <| And.right <| And.right <| And.right (by assumption)) | exact (And.right <| And.right <| And.right <| And.right <| And.right <| And.right <| And.right <| And.right (by assumption)) | exact (And.right <| And.right <| And.right <| And.right <| And.right <| And.right <| And.right <| And.right <| And.right (by assumption)) | exact (And.right <| And.right <| And.right <| And.right <| And.right <| And.right <| And.right <| And.right <| And.right <| And.right (by assumption)) | exact (And.right <| And.right <| And.right <| And.right <| And.right <| And.right <| And.right <| And.right <| And.right <| And.right <| And.right (by assumption)) | exact (And.right <| And.right <| And.right <| And.right <| And.right <| And.right <| And.right <| And.right <| And.right <| And.right <| And.right <| And.right (by assumption))))
  (k_with "MINE lt" => (first | with_reducible assumption | with_reducible exact And.left (by with_reducible assumption) | with_reducible exact And.left (And.right (by with_reducible assumption)) | with_reducible exact And.left (And.right (And.right (by with_reducible assumption))) | with_reducible exact And.left (And.right <| And.right <| And.right (by with_reducible assumption)) | with_reducible exact And.left (And.right <| And.right <| And.right <| And.right (by with_reducible assumption)) | with_reducible exact And.left (And.right <| And.right <| And.right <| And.right <| And.right (by with_reducible assumption)) | omega))
  (k_with "MINE abv4" => (exact abv_cons (abv_cons (abv_cons (abv_one (by walk_at "MINE lt") (by walk_at "MINE lt") (kst_ltOf (by walk_at "MINE allLt"))) (by walk_at "MINE lt")) (by walk_at "MINE lt")) (by walk_at "MINE lt")))
  (k_with "MINE abv6" => (exact abv_cons (abv_cons (abv_cons (abv_cons (abv_cons (abv_one (by walk_at "MINE lt") (by walk_at "MINE lt") (kst_ltOf (by walk_at "MINE allLt"))) (by walk_at "MINE lt")) (by walk_at "MINE lt")) (by walk_at "MINE lt")) (by walk_at "MINE lt")) (by walk_at "MINE lt")))
  (k_with "call ref" => ((k_here; (with_reducible show wpAny _ _ (call (Value.ref 310) _) _ _ _); k_dflt (refine' side_ct _ _ _ _ ?k1_860 ?k2_860 ?k3_860 ?k4_860 ?k5_860 ?kK_860 ?kd_860 ?ku_860 ?p0_860 ?p1_860 ?p2_860 ?p3_860 ?p4_860 ?p5_860 ?p6_860 ?p7_860 ?p8_860 ?p9_860 ?p10_860 ?p11_860 ?p12_860 ?p13_860 ?p14_860 ?p15_860 ?p16_860 ?_; (case k1_860 => k_asm); (case k2_860 => k_asm); (case k3_860 => k_asm); (case k4_860 => k_asm); (case k5_860 => k_asm); (case kK_860 => first | exact rfl | assumption); (case kd_860 => ktr_room); (case ku_860 => ktr_units); (case p0_860 => first | with_reducible assumption | k_mem); (case p1_860 => first | with_reducible assumption | k_mem); (case p2_860 => first | exact sub_tl2 | walk_at "MINE sub"); (case p3_860 => assumption); (case p4_860 => assumption); (case p5_860 => assumption); (case p6_860 => first | with_reducible assumption | k_mem); (case p7_860 => assumption); (case p8_860 => first | with_reducible assumption | k_mem); (case p9_860 => assumption); (case p10_860 => assumption); (case p11_860 => assumption); (case p12_860 => assumption); (case p13_860 => assumption); (case p14_860 => assumption); (case p15_860 => omega); (case p16_860 => omega)); intro new' tup' x' op' f' kd' vx' v3' v' i' mx' c' ti' tm' tc' h' tk' F' N' abv' i1 i2 m1 m2 c1 c2 side'; (try dsimp only at N'); (try k_sweep); (try dsimp only); (try k_fold))))
  (k_with "MINE ev" => (((with_reducible show Ev _ _ _ _ _ (Expr.Name _ _) _ _); (fail_if_success (with_reducible show Ev _ _ (compEnvC _ _ _ _) _ _ _ _ _)); exact Ev.cell (by decide) rfl (by decide) (by k_asm) (by exact rfl) (by walk_at "MINE zmem"))))
  (k_with "MINE zmem" => (first | with_reducible assumption | (refine List.mem_cons_of_mem _ ?_; walk_at "MINE zmem") | (refine mem_app ?_; walk_at "MINE zmem")))
  (k_with "eval Name" => ((k_here; (fail_if_success (with_reducible show wpAny _ _ (eval _ (compEnvC _ _ _ _)) _ _ _)); k_dflt (refine' nameQC ?N_863 ?c_863 ?m_863 ?_ ?k_863 ?x_863 ?d_863; (case k_863 => rfl); (case x_863 => decide); (case d_863 => decide); (case N_863 => k_asm); (case c_863 => exact rfl); (case m_863 => walk_at "MINE zmem"); k_whole))))
  (k_with "compareOp Eq" => ((k_here; (with_reducible show wpAny _ _ (compareOp CmpOp.Eq _ (Value.int _ _)) _ _ _); k_dflt (refine' eq_opt ?k3_864 ?_ ?_; (case k3_864 => assumption); (intro e1 e2; subst e1 e2; (try dsimp only)); rotate_left; (intro x' t' e1 e2; subst e1 e2; (try dsimp only)); rotate_left))))
  (k_with "X k_all" => (with_reducible assumption))
  (k_with "X k_mem" => ((refine mem_app ?_; k_mem)))
  (k_with "MINE sub" => ((intro p hp; repeat (first | exact hp | apply List.mem_cons_of_mem | apply List.mem_append_right))))
  (k_with "MINE subl" => ((intro p hp; repeat (first | exact List.mem_append_left _ hp | exact hp | apply List.mem_cons_of_mem))))
  (k_with "MINE upd2" => (first | (refine' UpdF2.hb ?a_869 ?b_869; (case a_869 => k_all); (case b_869 => k_updF)) | (refine' UpdF2.ha ?a_869 ?b_869; (case a_869 => k_all); (case b_869 => k_updF)) | (refine' UpdF2.tail ?a_869 ?b_869 ?c_869; (case a_869 => k_ne); (case b_869 => k_ne); (case c_869 => walk_at "MINE upd2"))))
  (k_with "MINE err" => ((refine' errIn_of ?a_870 ?b_870 ?c_870 ?d_870 ?e_870; (case a_870 => k_mem); (case b_870 => k_mem); (case c_870 => rfl); (case d_870 => rfl); (case e_870 => rfl))))
  (k_with "subscriptTail" => ((k_here; (with_reducible show wpAny _ _ (subscriptTail _ _ (Value.ref _) (Value.int _ _)) _ _ _); k_dflt (refine' menu_str ?k1_871 ?k2_871 ?k3_871 ?k4_871 ?k5_871 ?k6_871 ?_ ?k7_871; (case k1_871 => k_asm); (case k2_871 => k_mem); (case k3_871 => repeat constructor); (case k4_871 => assumption); (case k5_871 => (simp only [List.length_cons, List.length_nil]; omega)); (case k6_871 => decide); (case k7_871 => with_unfolding_all rfl); k_whole); intro a' t' hmenu)))
  (k_with "call ref" => ((k_here; (with_reducible show wpAny _ _ (call (Value.ref 141) _) _ _ _); k_dflt (refine' bin_ct _ _ _ _ ?k1_872 ?k2_872 ?k3_872 ?k4_872 ?k5_872 ?kK_872 ?kd_872 ?ku_872 ?p0_872 ?p1_872 ?p2_872 ?p3_872 ?p4_872 ?p5_872 ?p6_872 ?p7_872 ?p8_872 ?p9_872 ?p10_872 ?p11_872 ?p12_872 ?p13_872 ?p14_872 ?_; (case k1_872 => k_asm); (case k2_872 => k_asm); (case k3_872 => k_asm); (case k4_872 => k_asm); (case k5_872 => k_asm); (case kK_872 => first | exact rfl | assumption); (case kd_872 => ktr_room); (case ku_872 => ktr_units); (case p0_872 => walk_at "MINE err"); (case p1_872 => walk_at "MINE upd2"); (case p2_872 => (intro x y; (try dsimp only); walk_at "MINE err")); (case p3_872 => assumption); (case p4_872 => exact isPl_nil (by assumption)); (case p5_872 => exact NodeF.mono (by assumption) (by walk_at "MINE sub")); (case p6_872 => exact NodeF.mono (by assumption) (by walk_at "MINE sub")); (case p7_872 => exact TyF.mono (by assumption) (by walk_at "MINE sub")); (case p8_872 => exact TyF.mono (by assumption) (by walk_at "MINE sub")); (case p9_872 => exact tyo_b (by k_mem) (by k_mem)); (case p10_872 => exact tyo_m (by k_mem) (by k_mem)); (case p11_872 => exact tyo_i (by k_mem) (by k_mem)); (case p12_872 => assumption); (case p13_872 => assumption); (case p14_872 => exact op_len (by assumption))); intro new' x' rows' nn' od' h' tk' F' N' ov' res'; (try dsimp only at N'); (try k_sweep); (try dsimp only); (try k_fold))))
  (k_with "call ref" => ((k_here; (with_reducible show wpAny _ _ (call (Value.ref 336) _) _ _ _); k_dflt (refine' fits_ct _ _ _ _ ?k1_873 ?k2_873 ?k3_873 ?k4_873 ?k5_873 ?kK_873 ?kd_873 ?ku_873 ?p0_873 ?p1_873 ?p2_873 ?p3_873 ?p4_873 ?p5_873 ?p6_873 ?p7_873 ?p8_873 ?p9_873 ?p10_873 ?_; (case k1_873 => k_asm); (case k2_873 => k_asm); (case k3_873 => k_asm); (case k4_873 => k_asm); (case k5_873 => k_asm); (case kK_873 => first | exact rfl | assumption); (case kd_873 => ktr_room); (case ku_873 => ktr_units); (case p0_873 => exact ErrIn.rows (by walk_at "MINE err")); (case p1_873 => k_mem); (case p2_873 => exact Res.mono (by assumption) (by walk_at "MINE subl")); (case p3_873 => first | exact tyF_sel (TyFs.mono (by assumption) (by walk_at "MINE sub")) | exact TyF.mono (by assumption) (by walk_at "MINE sub")); (case p4_873 => k_mem); (case p5_873 => assumption); (case p6_873 => assumption); (case p7_873 => first | exact KsP.two (NodeF.mono (by assumption) (by walk_at "MINE sub")) (NodeF.mono (by assumption) (by walk_at "MINE sub")) | exact KsP.one (NodeF.mono (by assumption) (by walk_at "MINE sub"))); (case p8_873 => k_mem); (case p9_873 => walk_at "MINE ints"); (case p10_873 => first | exact ok_due _ _ _ _ _ | assumption | decide +kernel)); intro h' tk' F' N'; (try k_sweep); (try dsimp only); (try k_fold))))
  (k_with "call ref" => ((k_here; (with_reducible show wpAny _ _ (call (Value.ref 331) _) _ _ _); k_dflt (refine' due_ct _ _ _ _ ?k1_874 ?k2_874 ?k3_874 ?k4_874 ?k5_874 ?kK_874 ?kd_874 ?ku_874 ?p0_874 ?p1_874 ?p2_874 ?p3_874 ?p4_874 ?p5_874 ?p6_874 ?p7_874 ?p8_874 ?_; (case k1_874 => k_asm); (case k2_874 => k_asm); (case k3_874 => k_asm); (case k4_874 => k_asm); (case k5_874 => k_asm); (case kK_874 => first | exact rfl | assumption); (case kd_874 => ktr_room); (case ku_874 => ktr_units); (case p0_874 => k_mem); (case p1_874 => k_mem); (case p2_874 => assumption); (case p3_874 => assumption); (case p4_874 => assumption); (case p5_874 => assumption); (case p6_874 => assumption); (case p7_874 => assumption); (case p8_874 => assumption)); intro d' form' code' op' v4' t1 t2 t3 h' tk' F' N' l1 due'; k_dflt (obtain ⟨e1, e2, v5, hv5, hv6⟩ := due'; subst e1 e2); (try k_sweep); (try dsimp only); (try k_fold))))
  (k_with "MINE rows" => (exact RowsAre.mono (by with_reducible assumption) (by walk_at "MINE sub")))
  (k_with "compareOp NotEq ref ref" => (((fail_if_success (fail_if_success (have hz9 := gL16))); k_here; k_dflt (refine' ne_rows1 ?k0_876 ?k1_876 ?k2_876 ?k3_876 ?k4_876 ?k6_876 ?_; (case k0_876 => assumption); (case k1_876 => k_asm); (case k2_876 => k_mem); (case k3_876 => k_mem); (case k4_876 => walk_at "MINE rows"); (case k6_876 => ktr_units); k_whole))))
  (k_with "compareOp NotEq ref ref" => (((fail_if_success (fail_if_success (have hz9 := gL16))); k_here; k_dflt (first | (refine' ne_ints1 ?k0_877 ?k1_877 ?k2_877 ?k3_877 ?k4_877 ?k6_877 ?_; (case k0_877 => assumption); (case k1_877 => k_asm); (case k2_877 => k_mem); (case k3_877 => k_mem); (case k4_877 => assumption); (case k6_877 => ktr_units); k_whole) | (refine' ne_ints0 ?k1_877 ?k2_877 ?k3_877 ?k4_877 ?k6_877 ?_; (case k1_877 => k_asm); (case k2_877 => k_mem); (case k3_877 => k_mem); (case k4_877 => assumption); (case k6_877 => ktr_units); k_whole)))))
  (k_with "eval Name" => ((k_here; (with_reducible show wpAny _ _ (eval (Expr.Name _ _) (compEnvC _ _ _ _)) _ _ _); k_dflt (refine' lcf_cell ?N_878 ?c_878 ?m_878 ?d_878 ?_ ?a_878 ?b_878; (case a_878 => rfl); (case b_878 => rfl); (case N_878 => k_asm); (case c_878 => rfl); (case m_878 => k_mem); (case d_878 => exact rfl); k_whole))))
  (k_with "X k_ne" => (((try dsimp only); (show @Ne Nat _ _); first | with_reducible assumption | with_reducible exact Ne.symm (by with_reducible assumption))))
  (k_with "getAttr ref" => ((k_here; k_dflt (refine' get_has ?k1_880 ?k2_880 ?k3_880 ?k4_880 ?k5_880 ?k6_880 ?k7_880 ?k8_880 ?k9_880 ?_; (case k1_880 => k_asm); (case k2_880 => k_asm); (case k3_880 => k_asm); (case k4_880 => with_reducible assumption); (case k5_880 => walk_at "MINE sub"); (case k6_880 => k_is); (case k7_880 => k_is); (case k8_880 => k_is); (case k9_880 => k_is); k_whole))))
  (k_with "subscriptTail Name Constant ref int" => ((k_here; k_dflt (first | (refine' itemT ?k1_881 ?k2_881 ?k3_881 ?k4_881 ?k5_881 ?_ ?k6_881; (case k1_881 => k_asm); (case k2_881 => walk_at "MINE zmem"); (case k3_881 => decide); (case k4_881 => decide); (case k5_881 => rfl); (case k6_881 => with_unfolding_all rfl); k_whole) | (refine' itemN ?k1_881 ?k2_881 ?k3_881 ?k4_881 ?k5_881 ?_ ?k6_881; (case k1_881 => k_asm); (case k2_881 => k_mem); (case k3_881 => decide); (case k4_881 => decide); (case k5_881 => rfl); (case k6_881 => with_unfolding_all rfl); k_whole)))))
  (k_with "getAttr ref" => ((k_here; k_dflt (refine' get_has ?k1_882 ?k2_882 ?k3_882 ?k4_882 ?k5_882 ?k6_882 ?k7_882 ?k8_882 ?k9_882 ?_; (case k1_882 => k_asm); (case k2_882 => k_asm); (case k3_882 => k_asm); (case k4_882 => with_reducible assumption); (case k5_882 => walk_at "MINE sub"); (case k6_882 => k_is); (case k7_882 => k_is); (case k8_882 => k_is); (case k9_882 => k_is); k_whole))))
  (k_with "subscriptTail Name Constant ref int" => ((k_here; k_dflt (first | (refine' itemT ?k1_883 ?k2_883 ?k3_883 ?k4_883 ?k5_883 ?_ ?k6_883; (case k1_883 => k_asm); (case k2_883 => walk_at "MINE zmem"); (case k3_883 => decide); (case k4_883 => decide); (case k5_883 => rfl); (case k6_883 => with_unfolding_all rfl); k_whole) | (refine' itemN ?k1_883 ?k2_883 ?k3_883 ?k4_883 ?k5_883 ?_ ?k6_883; (case k1_883 => k_asm); (case k2_883 => k_mem); (case k3_883 => decide); (case k4_883 => decide); (case k5_883 => rfl); (case k6_883 => with_unfolding_all rfl); k_whole)))))
  (k_with "call ref" => ((k_here; (with_reducible show wpAny _ _ (call (Value.ref 127) _) _ _ _); k_dflt (refine' un_ct _ _ _ _ ?k1_884 ?k2_884 ?k3_884 ?k4_884 ?k5_884 ?kK_884 ?kd_884 ?ku_884 ?p0_884 ?p1_884 ?p2_884 ?p3_884 ?p4_884 ?p5_884 ?p6_884 ?p7_884 ?p8_884 ?p9_884 ?pa_884 ?_ ?_; (case k1_884 => k_asm); (case k2_884 => k_asm); (case k3_884 => k_asm); (case k4_884 => k_asm); (case k5_884 => k_asm); (case kK_884 => first | exact rfl | assumption); (case kd_884 => ktr_room); (case ku_884 => ktr_units); (case p0_884 => walk_at "MINE err"); (case p1_884 => walk_at "MINE upd2"); (case p2_884 => (intro x y; (try dsimp only); walk_at "MINE err")); (case p3_884 => assumption); (case p4_884 => exact isPl_nil (by assumption)); (case p5_884 => exact NodeF.mono (by assumption) (by walk_at "MINE sub")); (case p6_884 => exact TyF.mono (by assumption) (by walk_at "MINE sub")); (case p7_884 => exact tyo_b (by k_mem) (by k_mem)); (case p8_884 => exact tyo_m (by k_mem) (by k_mem)); (case p9_884 => exact tyo_i (by k_mem) (by k_mem)); (case pa_884 => assumption); k_dflt (intro a9 b9 c9 h' tk' F' N'; first | exact absurd a9 (by decide) | exact absurd b9 (by decide) | ((have e9 := (KindF.i (by assumption)).trans c9); (try k_sweep); (try dsimp only); (try k_fold); rotate_left)); k_dflt (intro new' x' rows' nn' od' h' tk' hno F' N' ov' res'; (try have e8 := (KindF.i (by assumption)).trans (hno (by decide) (by decide))); (try dsimp only at N'); (try k_sweep); (try dsimp only); (try k_fold))))))
  (k_with "call ref" => ((k_here; (with_reducible show wpAny _ _ (call (Value.ref 336) _) _ _ _); k_dflt (refine' fitsu_ct _ _ _ _ ?k1_885 ?k2_885 ?k3_885 ?k4_885 ?k5_885 ?kK_885 ?kd_885 ?ku_885 ?p0_885 ?p1_885 ?p2_885 ?p3_885 ?p4_885 ?p5_885 ?p6_885 ?p7_885 ?p8_885 ?p9_885 ?p10_885 ?_; (case k1_885 => k_asm); (case k2_885 => k_asm); (case k3_885 => k_asm); (case k4_885 => k_asm); (case k5_885 => k_asm); (case kK_885 => first | exact rfl | assumption); (case kd_885 => ktr_room); (case ku_885 => ktr_units); (case p0_885 => exact ErrIn.rows (by walk_at "MINE err")); (case p1_885 => k_mem); (case p2_885 => k_mem); (case p3_885 => exact Res.mono (by assumption) (by walk_at "MINE subl")); (case p4_885 => exact TyF.mono (TyFs.b (by assumption)) (by walk_at "MINE sub")); (case p5_885 => exact TyF.mono (TyFs.m (by assumption)) (by walk_at "MINE sub")); (case p6_885 => exact TyF.mono (TyFs.i (by assumption)) (by walk_at "MINE sub")); (case p7_885 => walk_at "MINE udueend"); (case p8_885 => exact KsP.one (NodeF.mono (by assumption) (by walk_at "MINE sub"))); (case p9_885 => k_mem); (case p10_885 => walk_at "MINE ints")); intro h' tk' F' N'; (try k_sweep); (try dsimp only); (try k_fold))))
  (k_with "call ref" => ((k_here; (with_reducible show wpAny _ _ (call (Value.ref 127) _) _ _ _); k_dflt (refine' un_ct _ _ _ _ ?k1_886 ?k2_886 ?k3_886 ?k4_886 ?k5_886 ?kK_886 ?kd_886 ?ku_886 ?p0_886 ?p1_886 ?p2_886 ?p3_886 ?p4_886 ?p5_886 ?p6_886 ?p7_886 ?p8_886 ?p9_886 ?pa_886 ?_ ?_; (case k1_886 => k_asm); (case k2_886 => k_asm); (case k3_886 => k_asm); (case k4_886 => k_asm); (case k5_886 => k_asm); (case kK_886 => first | exact rfl | assumption); (case kd_886 => ktr_room); (case ku_886 => ktr_units); (case p0_886 => walk_at "MINE err"); (case p1_886 => walk_at "MINE upd2"); (case p2_886 => (intro x y; (try dsimp only); walk_at "MINE err")); (case p3_886 => assumption); (case p4_886 => exact isPl_nil (by assumption)); (case p5_886 => exact NodeF.mono (by assumption) (by walk_at "MINE sub")); (case p6_886 => exact TyF.mono (by assumption) (by walk_at "MINE sub")); (case p7_886 => exact tyo_b (by k_mem) (by k_mem)); (case p8_886 => exact tyo_m (by k_mem) (by k_mem)); (case p9_886 => exact tyo_i (by k_mem) (by k_mem)); (case pa_886 => assumption); k_dflt (intro a9 b9 c9 h' tk' F' N'; first | exact absurd a9 (by decide) | exact absurd b9 (by decide) | ((have e9 := (KindF.i (by assumption)).trans c9); (try k_sweep); (try dsimp only); (try k_fold); rotate_left)); k_dflt (intro new' x' rows' nn' od' h' tk' hno F' N' ov' res'; (try have e8 := (KindF.i (by assumption)).trans (hno (by decide) (by decide))); (try dsimp only at N'); (try k_sweep); (try dsimp only); (try k_fold))))))
  (k_with "call ref" => ((k_here; (with_reducible show wpAny _ _ (call (Value.ref 336) _) _ _ _); k_dflt (refine' fitsu_ct _ _ _ _ ?k1_887 ?k2_887 ?k3_887 ?k4_887 ?k5_887 ?kK_887 ?kd_887 ?ku_887 ?p0_887 ?p1_887 ?p2_887 ?p3_887 ?p4_887 ?p5_887 ?p6_887 ?p7_887 ?p8_887 ?p9_887 ?p10_887 ?_; (case k1_887 => k_asm); (case k2_887 => k_asm); (case k3_887 => k_asm); (case k4_887 => k_asm); (case k5_887 => k_asm); (case kK_887 => first | exact rfl | assumption); (case kd_887 => ktr_room); (case ku_887 => ktr_units); (case p0_887 => exact ErrIn.rows (by walk_at "MINE err")); (case p1_887 => k_mem); (case p2_887 => k_mem); (case p3_887 => exact Res.mono (by assumption) (by walk_at "MINE subl")); (case p4_887 => exact TyF.mono (TyFs.b (by assumption)) (by walk_at "MINE sub")); (case p5_887 => exact TyF.mono (TyFs.m (by assumption)) (by walk_at "MINE sub")); (case p6_887 => exact TyF.mono (TyFs.i (by assumption)) (by walk_at "MINE sub")); (case p7_887 => walk_at "MINE udueend"); (case p8_887 => exact KsP.one (NodeF.mono (by assumption) (by walk_at "MINE sub"))); (case p9_887 => k_mem); (case p10_887 => walk_at "MINE ints")); intro h' tk' F' N'; (try k_sweep); (try dsimp only); (try k_fold))))
  (k_with "call ref" => ((k_here; (with_reducible show wpAny _ _ (call (Value.ref 127) _) _ _ _); k_dflt (refine' un_ct _ _ _ _ ?k1_888 ?k2_888 ?k3_888 ?k4_888 ?k5_888 ?kK_888 ?kd_888 ?ku_888 ?p0_888 ?p1_888 ?p2_888 ?p3_888 ?p4_888 ?p5_888 ?p6_888 ?p7_888 ?p8_888 ?p9_888 ?pa_888 ?_ ?_; (case k1_888 => k_asm); (case k2_888 => k_asm); (case k3_888 => k_asm); (case k4_888 => k_asm); (case k5_888 => k_asm); (case kK_888 => first | exact rfl | assumption); (case kd_888 => ktr_room); (case ku_888 => ktr_units); (case p0_888 => walk_at "MINE err"); (case p1_888 => walk_at "MINE upd2"); (case p2_888 => (intro x y; (try dsimp only); walk_at "MINE err")); (case p3_888 => assumption); (case p4_888 => exact isPl_nil (by assumption)); (case p5_888 => exact NodeF.mono (by assumption) (by walk_at "MINE sub")); (case p6_888 => exact TyF.mono (by assumption) (by walk_at "MINE sub")); (case p7_888 => exact tyo_b (by k_mem) (by k_mem)); (case p8_888 => exact tyo_m (by k_mem) (by k_mem)); (case p9_888 => exact tyo_i (by k_mem) (by k_mem)); (case pa_888 => assumption); k_dflt (intro a9 b9 c9 h' tk' F' N'; first | exact absurd a9 (by decide) | exact absurd b9 (by decide) | ((have e9 := (KindF.i (by assumption)).trans c9); (try k_sweep); (try dsimp only); (try k_fold); rotate_left)); k_dflt (intro new' x' rows' nn' od' h' tk' hno F' N' ov' res'; (try have e8 := (KindF.i (by assumption)).trans (hno (by decide) (by decide))); (try dsimp only at N'); (try k_sweep); (try dsimp only); (try k_fold))))))
  (k_with "call ref" => ((k_here; (with_reducible show wpAny _ _ (call (Value.ref 336) _) _ _ _); k_dflt (refine' fitsu_ct _ _ _ _ ?k1_889 ?k2_889 ?k3_889 ?k4_889 ?k5_889 ?kK_889 ?kd_889 ?ku_889 ?p0_889 ?p1_889 ?p2_889 ?p3_889 ?p4_889 ?p5_889 ?p6_889 ?p7_889 ?p8_889 ?p9_889 ?p10_889 ?_; (case k1_889 => k_asm); (case k2_889 => k_asm); (case k3_889 => k_asm); (case k4_889 => k_asm); (case k5_889 => k_asm); (case kK_889 => first | exact rfl | assumption); (case kd_889 => ktr_room); (case ku_889 => ktr_units); (case p0_889 => exact ErrIn.rows (by walk_at "MINE err")); (case p1_889 => k_mem); (case p2_889 => k_mem); (case p3_889 => exact Res.mono (by assumption) (by walk_at "MINE subl")); (case p4_889 => exact TyF.mono (TyFs.b (by assumption)) (by walk_at "MINE sub")); (case p5_889 => exact TyF.mono (TyFs.m (by assumption)) (by walk_at "MINE sub")); (case p6_889 => exact TyF.mono (TyFs.i (by assumption)) (by walk_at "MINE sub")); (case p7_889 => walk_at "MINE udueend"); (case p8_889 => exact KsP.one (NodeF.mono (by assumption) (by walk_at "MINE sub"))); (case p9_889 => k_mem); (case p10_889 => walk_at "MINE ints")); intro h' tk' F' N'; (try k_sweep); (try dsimp only); (try k_fold))))
  trivial
theorem reg89 : True := by
  (k_with "MINE signs" => (skip))
  (k_with "subscriptTail" => ((k_here; (with_reducible show wpAny _ _ (subscriptTail (Expr.List _ _) _ (Value.ref _) (Value.int _ _)) _ _ _); k_dflt (refine' menu_str ?k1_891 ?k2_891 ?k3_891 ?k4_891 ?k5_891 ?k6_891 ?_ ?k7_891; (case k1_891 => k_asm); (case k2_891 => k_mem); (case k3_891 => repeat constructor); (case k4_891 => assumption); (case k5_891 => (simp only [List.length_cons, List.length_nil]; omega)); (case k6_891 => decide); (case k7_891 => with_unfolding_all rfl); k_whole); intro a' t' hmenu; (simp only [List.mem_cons, List.not_mem_nil, or_false] at hmenu); (rcases hmenu with e9 | e9 | e9 <;> subst e9))))
  trivial
set_option maxHeartbeats 8000000 in
theorem tail8 (w : World) (mean : ExcName → Option Value) (mg mb : Str → Option Value) {body : List Stmt} {qual : Str} {scope : Scope} {dp un : Nat} {gd : Option (List Code)} {a : Addr} {ccd : Value} {outer : List Env} {A₀ : Around} {base h₀ : Heap} {L : Addr} {m : Str → Option Value} {hp : Heap} {gns : Array GenState} {drw : Drawn} {tk0 : Nat} {sos : OsState} {Q : Flow → Shared → Prop} {E : Value → Shared → Prop}
    {Z : List (Addr × Obj)} {pl fl Ta Td : Addr} {k : TyK} {c : Int} {tc : Tok} {vs : List Value} {figs : List Int} {n0 n1 : Nat} {i mx : Int} {ti tm : Tok} {one x1 : Addr} {op1 f1 kd1 : Str} {vx1 v31 : Value} {v1 : Option Int}
    (hb : LawB w body qual scope) (B : Below A₀ base outer h₀) (F : Fr h₀ L hp m) (X : (Mine.R.heap_1_1 w.params).In h₀) (N : News h₀ L hp ((pl, PoolO fl i ti mx tm n0) :: (Td, TyO w.params k c tc) :: Z)) (T : Top Mine.R.view_1_2 (looseW Mine.R.view_1_2 []) mean mg mb h₀) (hd : dp + 40 < recursionLimit) (hu : un + 300 < cLine)
    (hZp : ∀ p ∈ Z, p.1 ≠ pl) (hZt : ∀ p ∈ Z, p.1 ≠ Td) (hne : @Ne Nat pl Td) (hTa : (Ta, instObj 285 Td) ∈ Z) (hTy : TyFs Z k) (hfl : (fl, listOf vs.toArray n1) ∈ Z) (hI : IntsAre vs figs) (hi0 : 0 ≤ i) (hi1 : i ≤ figs.length) (hlen : figs.length ≤ 5000) (hm0 : 0 ≤ mx) (hm1 : mx < 1009) (hc0 : 0 ≤ c) (hc1 : c ≤ 800)
    {q1 q2 : Obj} (hcp : (L + 1, cellQ q1 (some (.ref pl))) ∈ Z) (hct : (L + 1 + 1, cellQ q2 (some (.ref Ta))) ∈ Z) {q3 q4 : Obj} {Z0 : List (Addr × Obj)} (hc3 : Z = (L + 1 + 1 + 1, cellQ q3 none) :: (L + 1 + 1 + 1 + 1, cellQ q4 none) :: Z0) (hc4 : Base0 L pl fl Ta Td vs n1 k q1 q2 Z0) (ho1 : m (Str.ofString "one") = some (.ref one)) (hs1 : SideT Z one x1 10 op1 f1 kd1 vx1 v31 v1)
    (hret : ∀ h' tk' m', Fr h₀ L h' m' → Q (.ret (.bool true)) ⟨h', gns, drw, tk', sos⟩) : LawAtE w dp un gd L a ccd outer 8 Q E ⟨hp, gns, drw, tk0, sos⟩ body qual scope := by
  refine' law_lit (P := LawAtE w dp un gd L a ccd outer 8 Q E ⟨hp, gns, drw, tk0, sos⟩) hb ?ho ?_
  (case ho => k_dflt k_is)
  intro hb' hE
  clear hb
  dsimp only [LawAt, List.drop]
  have hs1' := hs1
  obtain ⟨⟨tk1, nn1, ht1⟩, ⟨ty1, kl1, hn1, hy1⟩, hk1, hv1, hsv1, hd1⟩ := hs1
  repeat' (first | ((fail_if_success (with_reducible show wpAny _ _ (execs (Stmt.Assign [Expr.Name (Str.ofString "errors") _] _ _ :: _) _) _ _ _)); walk_at "MINE step"))
  · try dsimp only
    first | exact tail9a w mean mg mb (Z := Z) (m := _) hb' B (by k_asm) X (cb_drop (by assumption) (sub_can (by first | k_mem | fail) (by first | k_mem | fail) (by first | walk_at "MINE sub" | fail))) T hd hu hZp hZt hne hTa hTy hfl hI (by assumption) (by assumption) hlen (by assumption) (by assumption) hc0 hc1 hcp hct hc3 hc4 (by walk_at "MINE look") hs1' (by walk_at "MINE look") (fun h' tk' m' F' => hret h' tk' m' F') hE | fail "end"
  · try dsimp only
    first | exact tail9b w mean mg mb (Z := Z) (m := _) hb' B (by k_asm) X (cb_drop (by assumption) (sub_can (by first | k_mem | fail) (by first | k_mem | fail) (by first | walk_at "MINE sub" | fail))) T hd hu hZp hZt hne hTa hTy hfl hI (by assumption) (by assumption) hlen (by assumption) (by assumption) hc0 hc1 hcp hct hc3 hc4 (by walk_at "MINE look") hs1' (by walk_at "MINE look") (fun h' tk' m' F' => hret h' tk' m' F') hE | fail "end"
  · try dsimp only
    first | exact tail9c w mean mg mb (Z := Z) (m := _) hb' B (by k_asm) X (cb_drop (by assumption) (sub_can (by first | k_mem | fail) (by first | k_mem | fail) (by first | walk_at "MINE sub" | fail))) T hd hu hZp hZt hne hTa hTy hfl hI (by assumption) (by assumption) hlen (by assumption) (by assumption) hc0 hc1 hcp hct hc3 hc4 (by walk_at "MINE look") hs1' (by walk_at "MINE look") (fun h' tk' m' F' => hret h' tk' m' F') hE | fail "end"
/-! law5 -/
theorem reg90 : True := by
  w_top off
  (k_with "MINE none" => (skip))
  trivial
set_option maxHeartbeats 8000000 in
theorem tail5 (w : World) (mean : ExcName → Option Value) (mg mb : Str → Option Value) {body : List Stmt} {qual : Str} {scope : Scope} {dp un : Nat} {gd : Option (List Code)} {a : Addr} {ccd : Value} {outer : List Env} {A₀ : Around} {base h₀ : Heap} {L : Addr} {m : Str → Option Value} {hp : Heap} {gns : Array GenState} {drw : Drawn} {tk0 : Nat} {sos : OsState} {Q : Flow → Shared → Prop} {E : Value → Shared → Prop}
    {Z : List (Addr × Obj)} {pl fl Ta Td : Addr} {k : TyK} {c : Int} {tc : Tok} {vs : List Value} {figs : List Int} {n0 n1 : Nat} {i mx : Int} {ti tm : Tok} {one x1 two x2 : Addr} {op1 f1 kd1 op2 f2 kd2 op : Str} {to : Tok} {vx1 v31 vx2 v32 : Value} {v1 v2 : Option Int}
    (hb : LawB w body qual scope) (B : Below A₀ base outer h₀) (F : Fr h₀ L hp m) (X : (Mine.R.heap_1_1 w.params).In h₀) (N : News h₀ L hp ((pl, PoolO fl i ti mx tm n0) :: (Td, TyO w.params k c tc) :: Z)) (T : Top Mine.R.view_1_2 (looseW Mine.R.view_1_2 []) mean mg mb h₀) (hd : dp + 40 < recursionLimit) (hu : un + 300 < cLine)
    (hZp : ∀ p ∈ Z, p.1 ≠ pl) (hZt : ∀ p ∈ Z, p.1 ≠ Td) (hne : @Ne Nat pl Td) (hTa : (Ta, instObj 285 Td) ∈ Z) (hTy : TyFs Z k) (hfl : (fl, listOf vs.toArray n1) ∈ Z) (hI : IntsAre vs figs) (hi0 : 0 ≤ i) (hi1 : i ≤ figs.length) (hlen : figs.length ≤ 5000) (hm0 : 0 ≤ mx) (hm1 : mx < 1009) (hc0 : 0 ≤ c) (hc1 : c ≤ 800)
    {q1 q2 : Obj} (hcp : (L + 1, cellQ q1 (some (.ref pl))) ∈ Z) (hct : (L + 1 + 1, cellQ q2 (some (.ref Ta))) ∈ Z) {q3 q4 : Obj} {Z0 : List (Addr × Obj)} (hc3 : Z = (L + 1 + 1 + 1, cellQ q3 none) :: (L + 1 + 1 + 1 + 1, cellQ q4 none) :: Z0) (hc4 : Base0 L pl fl Ta Td vs n1 k q1 q2 Z0) (ho1 : m (Str.ofString "one") = some (.ref one)) (hs1 : SideT Z one x1 10 op1 f1 kd1 vx1 v31 v1) (ho2 : m (Str.ofString "two") = some (.ref two)) (hs2 : SideT Z two x2 20 op2 f2 kd2 vx2 v32 v2) (hop : m (Str.ofString "op") = some (.str op to)) (hopf : OpOf op)
    (hret : ∀ h' tk' m', Fr h₀ L h' m' → Q (.ret (.bool true)) ⟨h', gns, drw, tk', sos⟩) : LawAtE w dp un gd L a ccd outer 5 Q E ⟨hp, gns, drw, tk0, sos⟩ body qual scope := by
  refine' law_lit (P := LawAtE w dp un gd L a ccd outer 5 Q E ⟨hp, gns, drw, tk0, sos⟩) hb ?ho ?_
  (case ho => k_dflt k_is)
  intro hb' hE
  clear hb
  dsimp only [LawAt, List.drop]
  have hs1' := hs1
  obtain ⟨⟨tk1, nn1, ht1⟩, ⟨ty1, kl1, hn1, hy1⟩, hk1, hv1, hsv1, hd1⟩ := hs1
  obtain ⟨⟨tk2, nn2, ht2⟩, ⟨ty2, kl2, hn2, hy2⟩, hk2, hv2, hsv2, hd2⟩ := hs2
  repeat' (first | ((fail_if_success (with_reducible show wpAny _ _ (execs (Stmt.Assign [Expr.Name (Str.ofString "sign") _] _ _ :: _) _) _ _ _)); walk_at "MINE step"))
  try dsimp only
  exact tail8 w mean mg mb (Z := Z) (m := _) hb' B (by k_asm) X (cb_drop (by assumption) (sub_can (by first | k_mem | fail) (by first | k_mem | fail) (by first | walk_at "MINE sub" | fail))) T hd hu hZp hZt hne hTa hTy hfl hI hi0 hi1 hlen hm0 hm1 hc0 hc1 hcp hct hc3 hc4 (by first | walk_at "MINE look" | fail) hs1' (fun h' tk' m' F' => hret h' tk' m' F') hE
/-! law2 -/
theorem reg92 : True := by
  w_top off
  (k_with "MINE none" => (skip))
  trivial
theorem perm_s2 {α : Type} {p1 p2 c3 c4 : α} {new Z : List α} : ∀ p ∈ p1 :: p2 :: c3 :: c4 :: (new ++ Z), p ∈ p1 :: p2 :: (new ++ c3 :: c4 :: Z) := (pC (.head _) (pC (.tail _ (.head _)) (pC (.tail _ (.tail _ (List.mem_append_right _ (.head _)))) (pC (.tail _ (.tail _ (List.mem_append_right _ (.tail _ (.head _))))) (pA (fun _ hp => (.tail _ (.tail _ (List.mem_append_left _ hp)))) (fun _ hp => (.tail _ (.tail _ (List.mem_append_right _ (.tail _ (.tail _ hp)))))))))))
theorem perm_s3 {α : Type} {l p1 p2 c3 c4 : α} {new Z : List α} : ∀ p ∈ p1 :: p2 :: c3 :: c4 :: (new ++ Z), p ∈ l :: p1 :: p2 :: (new ++ c3 :: c4 :: Z) := fun p hp => .tail _ (perm_s2 p hp)
theorem sub_s2 {α : Type} {c3 c4 : α} {new Z : List α} : ∀ p ∈ c3 :: c4 :: Z, p ∈ c3 :: c4 :: (new ++ Z) := (pC (.head _) (pC (.tail _ (.head _)) (fun _ hp => (.tail _ (.tail _ (List.mem_append_right _ hp))))))
theorem sub_s2' {α : Type} {c3 c4 : α} {new Z : List α} : ∀ p ∈ new ++ c3 :: c4 :: Z, p ∈ c3 :: c4 :: (new ++ Z) := (pA (fun _ hp => (.tail _ (.tail _ (List.mem_append_left _ hp)))) (pC (.head _) (pC (.tail _ (.head _)) (fun _ hp => (.tail _ (.tail _ (List.mem_append_right _ hp)))))))
theorem mem_s2 {α : Type} {c3 c4 p : α} {new Z : List α} (h : p ∈ c3 :: c4 :: Z) : p ∈ c3 :: c4 :: (new ++ Z) := sub_s2 p h
theorem abv_off2 {new Z : List (Addr × Obj)} {pl Td x : Nat} {c3 c4 : Addr × Obj} (ha : Abv new pl Td (c3 :: c4 :: Z)) (hx : x = pl ∨ x = Td) (h : ∀ p ∈ c3 :: c4 :: Z, p.1 ≠ x) : ∀ p ∈ c3 :: c4 :: (new ++ Z), p.1 ≠ x := by
  simp only [List.forall_mem_cons] at h ⊢
  obtain ⟨a1, a2, a6⟩ := h
  refine ⟨a1, a2, fun p hp => ?_⟩
  rcases List.mem_append.mp hp with hp | hp
  · rcases hx with e | e <;> subst e
    · exact Nat.ne_of_gt (ha p hp).1
    · exact Nat.ne_of_gt (ha p hp).2.1
  · exact a6 p hp
theorem Base0.app {L pl fl Ta Td : Nat} {vs : List Value} {n1 : Nat} {k : TyK} {Z0 new : List (Addr × Obj)} {q1 q2 o3 o4 : Obj} (h : Base0 L pl fl Ta Td vs n1 k q1 q2 Z0) (ha : Abv new pl Td ((L + 1 + 1 + 1, o3) :: (L + 1 + 1 + 1 + 1, o4) :: Z0)) : Base0 L pl fl Ta Td vs n1 k q1 q2 (new ++ Z0) where
  ta := List.mem_append_right _ h.ta
  ty := h.ty.mono fun _ hp => List.mem_append_right _ hp
  fl := List.mem_append_right _ h.fl
  cp := List.mem_append_right _ h.cp
  ct := List.mem_append_right _ h.ct
  o3 := fun p hp => (List.mem_append.mp hp).elim (fun hp => Nat.ne_of_gt ((ha p hp).2.2 _ (.head _))) (h.o3 p)
  o4 := fun p hp => (List.mem_append.mp hp).elim (fun hp => Nat.ne_of_gt ((ha p hp).2.2 _ (.tail _ (.head _)))) (h.o4 p)
theorem reg94 : True := by
  (k_with "call ref" => ((k_here; (with_reducible show wpAny _ _ (call (Value.ref 310) _) _ _ _); k_dflt (refine' side_ct _ _ _ _ ?k1_894 ?k2_894 ?k3_894 ?k4_894 ?k5_894 ?kK_894 ?kd_894 ?ku_894 ?p0_894 ?p1_894 ?p2_894 ?p3_894 ?p4_894 ?p5_894 ?p6_894 ?p7_894 ?p8_894 ?p9_894 ?p10_894 ?p11_894 ?p12_894 ?p13_894 ?p14_894 ?p15_894 ?p16_894 ?_; (case k1_894 => k_asm); (case k2_894 => k_asm); (case k3_894 => k_asm); (case k4_894 => k_asm); (case k5_894 => k_asm); (case kK_894 => first | exact rfl | assumption); (case kd_894 => ktr_room); (case ku_894 => ktr_units); (case p0_894 => k_mem); (case p1_894 => k_mem); (case p2_894 => exact sub_tl2); (case p3_894 => assumption); (case p4_894 => assumption); (case p5_894 => assumption); (case p6_894 => assumption); (case p7_894 => assumption); (case p8_894 => assumption); (case p9_894 => assumption); (case p10_894 => assumption); (case p11_894 => assumption); (case p12_894 => assumption); (case p13_894 => assumption); (case p14_894 => assumption); (case p15_894 => omega); (case p16_894 => omega)); intro new' tup' x' op' f' kd' vx' v3' v' i' mx' c' ti' tm' tc' h' tk' F' N' abv' i1 i2 m1 m2 c1 c2 side'; k_dflt ((try dsimp only at N'); have oy1 := abv_offp abv' (by assumption); have oy2 := abv_offt abv' (by assumption)); (try k_sweep); (try dsimp only); (try k_fold))))
  trivial
set_option maxHeartbeats 8000000 in
theorem tail3 (w : World) (mean : ExcName → Option Value) (mg mb : Str → Option Value) {body : List Stmt} {qual : Str} {scope : Scope} {dp un : Nat} {gd : Option (List Code)} {a : Addr} {ccd : Value} {outer : List Env} {A₀ : Around} {base h₀ : Heap} {L : Addr} {m : Str → Option Value} {hp : Heap} {gns : Array GenState} {drw : Drawn} {tk0 : Nat} {sos : OsState} {Q : Flow → Shared → Prop} {E : Value → Shared → Prop}
    {Z : List (Addr × Obj)} {pl fl Ta Td : Addr} {k : TyK} {c : Int} {tc : Tok} {vs : List Value} {figs : List Int} {n0 n1 : Nat} {i mx : Int} {ti tm : Tok} {one x1 : Addr} {op1 f1 kd1 : Str} {vx1 v31 : Value} {v1 : Option Int}
    (hb : LawB w body qual scope) (B : Below A₀ base outer h₀) (F : Fr h₀ L hp m) (X : (Mine.R.heap_1_1 w.params).In h₀) (N : News h₀ L hp ((pl, PoolO fl i ti mx tm n0) :: (Td, TyO w.params k c tc) :: Z)) (T : Top Mine.R.view_1_2 (looseW Mine.R.view_1_2 []) mean mg mb h₀) (hd : dp + 40 < recursionLimit) (hu : un + 300 < cLine)
    (hZp : ∀ p ∈ Z, p.1 ≠ pl) (hZt : ∀ p ∈ Z, p.1 ≠ Td) (hne : @Ne Nat pl Td) (hTa : (Ta, instObj 285 Td) ∈ Z) (hTy : TyFs Z k) (hfl : (fl, listOf vs.toArray n1) ∈ Z) (hI : IntsAre vs figs) (hi0 : 0 ≤ i) (hi1 : i ≤ figs.length) (hlen : figs.length ≤ 5000) (hm0 : 0 ≤ mx) (hm1 : mx < 1009) (hc0 : 0 ≤ c) (hc1 : c ≤ 800)
    {q1 q2 : Obj} (hcp : (L + 1, cellQ q1 (some (.ref pl))) ∈ Z) (hct : (L + 1 + 1, cellQ q2 (some (.ref Ta))) ∈ Z) {q3 q4 : Obj} {Z0 : List (Addr × Obj)} (hc3 : Z = (L + 1 + 1 + 1, cellQ q3 none) :: (L + 1 + 1 + 1 + 1, cellQ q4 none) :: Z0) (hc4 : Base0 L pl fl Ta Td vs n1 k q1 q2 Z0) (hc7 : c ≤ 750) (ho1 : m (Str.ofString "one") = some (.ref one)) (hs1 : SideT Z one x1 10 op1 f1 kd1 vx1 v31 v1)
    (hret : ∀ h' tk' m', Fr h₀ L h' m' → Q (.ret (.bool true)) ⟨h', gns, drw, tk', sos⟩) : LawAtE w dp un gd L a ccd outer 3 Q E ⟨hp, gns, drw, tk0, sos⟩ body qual scope := by
  refine' law_lit (P := LawAtE w dp un gd L a ccd outer 3 Q E ⟨hp, gns, drw, tk0, sos⟩) hb ?ho ?_
  (case ho => k_dflt k_is)
  intro hb' hE
  clear hb
  dsimp only [LawAt, List.drop]
  subst hc3
  repeat' (first | ((fail_if_success (with_reducible show wpAny _ _ (execs (Stmt.Assign [Expr.Name (Str.ofString "errors") _] _ _ :: _) _) _ _ _)); walk_at "MINE step"))
  try dsimp only
  exact tail5 w mean mg mb (Z := (L + 1 + 1 + 1, cellQ q3 none) :: (L + 1 + 1 + 1 + 1, cellQ q4 none) :: (_ ++ Z0)) (m := _) hb' B (by k_asm) X (by first | exact cb_drop (by assumption) perm_s3 | fail "N") T hd hu (abv_off2 (by assumption) (.inl rfl) hZp) (abv_off2 (by assumption) (.inr rfl) hZt) hne (mem_s2 hTa) (hTy.mono sub_s2) (mem_s2 hfl) hI (by assumption) (by assumption) hlen (by assumption) (by assumption) (by omega) (by omega) (mem_s2 hcp) (mem_s2 hct) rfl (hc4.app (by assumption)) (by first | walk_at "MINE look" | fail "o1") (hs1.mono sub_s2) (by first | walk_at "MINE look" | fail "o2") (SideT.mono (by assumption) sub_s2') (by first | walk_at "MINE look" | fail "op") (opOf_mem (by assumption)) (fun h' tk' m' F' => hret h' tk' m' F') hE
set_option maxHeartbeats 8000000 in
theorem tail2 (w : World) (mean : ExcName → Option Value) (mg mb : Str → Option Value) {body : List Stmt} {qual : Str} {scope : Scope} {dp un : Nat} {gd : Option (List Code)} {a : Addr} {ccd : Value} {outer : List Env} {A₀ : Around} {base h₀ : Heap} {L : Addr} {m : Str → Option Value} {hp : Heap} {gns : Array GenState} {drw : Drawn} {tk0 : Nat} {sos : OsState} {Q : Flow → Shared → Prop} {E : Value → Shared → Prop}
    {Z : List (Addr × Obj)} {pl fl Ta Td : Addr} {k : TyK} {c : Int} {tc : Tok} {vs : List Value} {figs : List Int} {n0 n1 : Nat} {i mx : Int} {ti tm : Tok} 
    (hb : LawB w body qual scope) (B : Below A₀ base outer h₀) (F : Fr h₀ L hp m) (X : (Mine.R.heap_1_1 w.params).In h₀) (N : News h₀ L hp ((pl, PoolO fl i ti mx tm n0) :: (Td, TyO w.params k c tc) :: Z)) (T : Top Mine.R.view_1_2 (looseW Mine.R.view_1_2 []) mean mg mb h₀) (hd : dp + 40 < recursionLimit) (hu : un + 300 < cLine)
    (hZp : ∀ p ∈ Z, p.1 ≠ pl) (hZt : ∀ p ∈ Z, p.1 ≠ Td) (hne : @Ne Nat pl Td) (hTa : (Ta, instObj 285 Td) ∈ Z) (hTy : TyFs Z k) (hfl : (fl, listOf vs.toArray n1) ∈ Z) (hI : IntsAre vs figs) (hi0 : 0 ≤ i) (hi1 : i ≤ figs.length) (hlen : figs.length ≤ 5000) (hm0 : 0 ≤ mx) (hm1 : mx < 1009) (hc0 : 0 ≤ c) (hc1 : c ≤ 800)
    {q1 q2 : Obj} (hcp : (L + 1, cellQ q1 (some (.ref pl))) ∈ Z) (hct : (L + 1 + 1, cellQ q2 (some (.ref Ta))) ∈ Z) {q3 q4 : Obj} {Z0 : List (Addr × Obj)} (hc3 : Z = (L + 1 + 1 + 1, cellQ q3 none) :: (L + 1 + 1 + 1 + 1, cellQ q4 none) :: Z0) (hc4 : Base0 L pl fl Ta Td vs n1 k q1 q2 Z0) (hc7 : c ≤ 700)
    (hret : ∀ h' tk' m', Fr h₀ L h' m' → Q (.ret (.bool true)) ⟨h', gns, drw, tk', sos⟩) : LawAtE w dp un gd L a ccd outer 2 Q E ⟨hp, gns, drw, tk0, sos⟩ body qual scope := by
  refine' law_lit (P := LawAtE w dp un gd L a ccd outer 2 Q E ⟨hp, gns, drw, tk0, sos⟩) hb ?ho ?_
  (case ho => k_dflt k_is)
  intro hb' hE
  clear hb
  dsimp only [LawAt, List.drop]
  subst hc3
  repeat' (first | ((fail_if_success (with_reducible show wpAny _ _ (execs (Stmt.Assign [Expr.Name (Str.ofString "two") _] _ _ :: _) _) _ _ _)); walk_at "MINE step"))
  try dsimp only
  exact tail3 w mean mg mb (Z := (L + 1 + 1 + 1, cellQ q3 none) :: (L + 1 + 1 + 1 + 1, cellQ q4 none) :: (_ ++ Z0)) (m := _) hb' B (by k_asm) X (by first | exact cb_drop (by assumption) perm_s2 | fail "N") T hd hu (abv_off2 (by assumption) (.inl rfl) hZp) (abv_off2 (by assumption) (.inr rfl) hZt) hne (mem_s2 hTa) (hTy.mono sub_s2) (mem_s2 hfl) hI (by assumption) (by assumption) hlen (by assumption) (by assumption) (by omega) (by omega) (mem_s2 hcp) (mem_s2 hct) rfl (hc4.app (by assumption)) (by omega) (by first | walk_at "MINE look" | fail "o1") (SideT.mono (by assumption) sub_s2') (fun h' tk' m' F' => hret h' tk' m' F') hE
/-! law1 -/
theorem reg95 : True := by
  w_top off
  (k_with "MINE none" => (skip))
  trivial
theorem reg96 : True := by
  (k_with "storeName" => ((k_here; k_dflt (refine' storeQC ?F_896 ?N_896 ?c_896 ?U_896 ?_ ?a_896 ?b_896; (case a_896 => rfl); (case b_896 => rfl); (case F_896 => k_asm); (case N_896 => k_asm); (case c_896 => rfl); (case U_896 => k_updF); k_whole); intro h' F' N'; (try dsimp only at N'); (try k_sweep))))
  trivial
theorem perm_t0 {α : Type} {ta td pl fl c4 c3 c2 c1 : α} {Y : List α} : ∀ p ∈ c2 :: pl :: td :: c3 :: c4 :: ta :: fl :: c1 :: Y, p ∈ ta :: td :: (Y ++ [pl, fl, c4, c3, c2, c1]) := (pC (.tail _ (.tail _ (List.mem_append_right _ (.tail _ (.tail _ (.tail _ (.tail _ (.head _)))))))) (pC (.tail _ (.tail _ (List.mem_append_right _ (.head _)))) (pC (.tail _ (.head _)) (pC (.tail _ (.tail _ (List.mem_append_right _ (.tail _ (.tail _ (.tail _ (.head _))))))) (pC (.tail _ (.tail _ (List.mem_append_right _ (.tail _ (.tail _ (.head _)))))) (pC (.head _) (pC (.tail _ (.tail _ (List.mem_append_right _ (.tail _ (.head _))))) (pC (.tail _ (.tail _ (List.mem_append_right _ (.tail _ (.tail _ (.tail _ (.tail _ (.tail _ (.head _))))))))) (fun _ hp => (.tail _ (.tail _ (List.mem_append_left _ hp))))))))))))
theorem perm_t1 {α : Type} {ta td pl fl c4 c3 c2 c1 : α} {Y : List α} : ∀ p ∈ pl :: td :: c3 :: c4 :: ta :: fl :: c1 :: c2 :: Y, p ∈ c2 :: pl :: td :: c3 :: c4 :: ta :: fl :: c1 :: Y := (pC (.tail _ (.head _)) (pC (.tail _ (.tail _ (.head _))) (pC (.tail _ (.tail _ (.tail _ (.head _)))) (pC (.tail _ (.tail _ (.tail _ (.tail _ (.head _))))) (pC (.tail _ (.tail _ (.tail _ (.tail _ (.tail _ (.head _)))))) (pC (.tail _ (.tail _ (.tail _ (.tail _ (.tail _ (.tail _ (.head _))))))) (pC (.tail _ (.tail _ (.tail _ (.tail _ (.tail _ (.tail _ (.tail _ (.head _)))))))) (pC (.head _) (fun _ hp => (.tail _ (.tail _ (.tail _ (.tail _ (.tail _ (.tail _ (.tail _ (.tail _ hp)))))))))))))))))
section
variable {L pl fl Ta Td : Nat} {op of' o1 o2 o3 o4 : Obj} {Y : List (Addr × Obj)}
/-- what the start knows of the slots -/
structure StartF (L pl fl Ta Td : Nat) (Y : List (Addr × Obj)) : Prop where
  (f1 : L + 1 + 1 + 1 + 1 < fl) (f2 : fl < pl) (a1 : pl < Ta) (d1 : pl < Td) (ad : Ta ≠ Td)
  y1 : ∀ p ∈ Y, p.1 ≠ L + 1
  y2 : ∀ p ∈ Y, p.1 ≠ L + 1 + 1
  y3 : ∀ p ∈ Y, p.1 ≠ L + 1 + 1 + 1
  y4 : ∀ p ∈ Y, p.1 ≠ L + 1 + 1 + 1 + 1
  yp : ∀ p ∈ Y, p.1 ≠ pl
  yd : ∀ p ∈ Y, p.1 ≠ Td
theorem StartF.of (h1 : @LT.lt Nat _ (L + 1 + 1 + 1 + 1) fl) (h2 : @LT.lt Nat _ fl pl) (I : TyI Ta Td Y [(pl, op), (fl, of'), (L + 1 + 1 + 1 + 1, o4), (L + 1 + 1 + 1, o3), (L + 1 + 1, o2), (L + 1, o1)]) : StartF L pl fl Ta Td Y where
  f1 := h1
  f2 := h2
  a1 := I.ty _ (.head _)
  d1 := I.tx _ (.head _)
  ad := I.tt
  y4 := fun p hp => Nat.ne_of_gt (I.lt p hp _ (.tail _ (.tail _ (.head _))))
  y3 := fun p hp => Nat.ne_of_gt (I.lt p hp _ (.tail _ (.tail _ (.tail _ (.head _)))))
  y2 := fun p hp => Nat.ne_of_gt (I.lt p hp _ (.tail _ (.tail _ (.tail _ (.tail _ (.head _))))))
  y1 := fun p hp => Nat.ne_of_gt (I.lt p hp _ (.tail _ (.tail _ (.tail _ (.tail _ (.tail _ (.head _)))))))
  yp := fun p hp => Nat.ne_of_gt (I.lt p hp _ (.head _))
  yd := I.ne
theorem StartF.c2 {h₀ h' : Heap} {oo o5 : Obj} (h : StartF L pl fl Ta Td Y) (_N : News h₀ L h' ((L + 1 + 1, oo) :: (pl, op) :: (Td, of') :: (L + 1 + 1 + 1, o3) :: (L + 1 + 1 + 1 + 1, o4) :: (Ta, o1) :: (fl, o2) :: (L + 1, o5) :: Y)) : ∀ p ∈ (pl, op) :: (Td, of') :: (L + 1 + 1 + 1, o3) :: (L + 1 + 1 + 1 + 1, o4) :: (Ta, o1) :: (fl, o2) :: (L + 1, o5) :: Y, p.1 ≠ L + 1 + 1 := by
  obtain ⟨f1, f2, a1, d1, -, -, y2, -, -, -, -⟩ := h
  simp only [List.forall_mem_cons]
  refine ⟨?_, ?_, ?_, ?_, ?_, ?_, ?_, y2⟩ <;> (show @Ne Nat _ _) <;> omega
theorem StartF.base {q1 q2 : Obj} {fvs : List Value} {n1 : Nat} {k : TyK} (h : StartF L pl fl Ta Td Y) (t : TyFs Y k) : Base0 L pl fl Ta Td fvs n1 k q1 q2 ((Ta, instObj 285 Td) :: (fl, listOf fvs.toArray n1) :: (L + 1, cellQ q1 (some (.ref pl))) :: (L + 1 + 1, cellQ q2 (some (.ref Ta))) :: Y) where
  ta := .head _
  ty := t.mono fun _ hp => .tail _ (.tail _ (.tail _ (.tail _ hp)))
  fl := .tail _ (.head _)
  cp := .tail _ (.tail _ (.head _))
  ct := .tail _ (.tail _ (.tail _ (.head _)))
  o3 := by
    obtain ⟨f1, f2, a1, d1, -, -, -, y3, -, -, -⟩ := h
    simp only [List.forall_mem_cons]
    refine ⟨?_, ?_, ?_, ?_, y3⟩ <;> (show @Ne Nat _ _) <;> omega
  o4 := by
    obtain ⟨f1, f2, a1, d1, -, -, -, -, y4, -, -⟩ := h
    simp only [List.forall_mem_cons]
    refine ⟨?_, ?_, ?_, ?_, y4⟩ <;> (show @Ne Nat _ _) <;> omega
theorem StartF.zp (h : StartF L pl fl Ta Td Y) : ∀ p ∈ (L + 1 + 1 + 1, o3) :: (L + 1 + 1 + 1 + 1, o4) :: (Ta, op) :: (fl, of') :: (L + 1, o1) :: (L + 1 + 1, o2) :: Y, p.1 ≠ pl := by
  obtain ⟨f1, f2, a1, d1, -, -, -, -, -, yp, -⟩ := h
  simp only [List.forall_mem_cons]
  refine ⟨?_, ?_, ?_, ?_, ?_, ?_, yp⟩ <;> (show @Ne Nat _ _) <;> omega
theorem StartF.zt (h : StartF L pl fl Ta Td Y) : ∀ p ∈ (L + 1 + 1 + 1, o3) :: (L + 1 + 1 + 1 + 1, o4) :: (Ta, op) :: (fl, of') :: (L + 1, o1) :: (L + 1 + 1, o2) :: Y, p.1 ≠ Td := by
  obtain ⟨f1, f2, a1, d1, ad, -, -, -, -, -, yd⟩ := h
  simp only [List.forall_mem_cons]
  refine ⟨?_, ?_, ?_, ?_, ?_, ?_, yd⟩ <;> (show @Ne Nat _ _) <;> omega
end
theorem reg97 : True := by
  (k_with "call ref" => ((k_here; (with_reducible show wpAny _ _ (call (Value.ref 296) _) _ _ _); k_dflt (refine' pool_ct _ _ _ _ ?k1_897 ?k2_897 ?k3_897 ?k4_897 ?k5_897 ?kK_897 ?kd_897 ?ku_897 ?p0_897 ?p1_897 ?p2_897 ?_; (case k1_897 => k_asm); (case k2_897 => k_asm); (case k3_897 => k_asm); (case k4_897 => k_asm); (case k5_897 => k_asm); (case kK_897 => first | exact rfl | assumption); (case kd_897 => ktr_room); (case ku_897 => ktr_units); (case p0_897 => assumption); (case p1_897 => assumption); (case p2_897 => assumption)); intro pl' fl' fvs' figs' n0' n1' mx' ti' tm' h' tk' F' N' fi' fl9' m0' m1' hlt' hfp'; k_dflt ((have hc9 : @LT.lt Nat _ _ _ := hlt' _ (.head _)); (have hp9 : @LT.lt Nat _ _ _ := hfp'); (try dsimp only at N' hc9)); (try k_sweep); (try dsimp only); (try k_fold))))
  (k_with "call ref" => ((k_here; (with_reducible show wpAny _ _ (call (Value.ref 285) _) _ _ _); k_dflt (refine' types_ct _ _ _ _ ?k1_898 ?k2_898 ?k3_898 ?k4_898 ?k5_898 ?kK_898 ?kd_898 ?ku_898  ?_; (case k1_898 => k_asm); (case k2_898 => k_asm); (case k3_898 => k_asm); (case k4_898 => k_asm); (case k5_898 => k_asm); (case kK_898 => first | exact rfl | assumption); (case kd_898 => ktr_room); (case ku_898 => ktr_units)); intro Ta' Td' Y' k' tc' h' tk' F' N' tyi' tys'; k_dflt ((have st' := StartF.of (by assumption) (by assumption) tyi'); replace N' := cb_drop N' perm_t0; have hc2' := StartF.c2 st' N'); (try k_sweep); (try dsimp only); (try k_fold))))
  trivial
set_option maxHeartbeats 8000000 in
theorem tail0 (w : World) (mean : ExcName → Option Value) (mg mb : Str → Option Value) {body : List Stmt} {qual : Str} {scope : Scope} {dp un : Nat} {gd : Option (List Code)} {a : Addr} {ccd : Value} {outer : List Env} {A₀ : Around} {base h₀ : Heap} {L : Addr} {m : Str → Option Value} {hp : Heap} {gns : Array GenState} {drw : Drawn} {tk0 : Nat} {sos : OsState} {Q : Flow → Shared → Prop} {E : Value → Shared → Prop}
    {sc : Addr} {svs : List Value} {ns : List Int} {q1 q2 q3 q4 : Obj}
    (hb : LawB w body qual scope) (B : Below A₀ base outer h₀) (F : Fr h₀ L hp m) (X : (Mine.R.heap_1_1 w.params).In h₀) (N : News h₀ L hp [(L + 1 + 1 + 1 + 1, cellQ q4 none), (L + 1 + 1 + 1, cellQ q3 none), (L + 1 + 1, cellQ q2 none), (L + 1, cellQ q1 none)]) (T : Top Mine.R.view_1_2 (looseW Mine.R.view_1_2 []) mean mg mb h₀) (hd : dp + 40 < recursionLimit) (hu : un + 300 < cLine)
    (hms : m (Str.ofString "script") = some (.ref sc)) (hls : h₀.IsList sc svs.toArray) (hIs : IntsAre svs ns) (hns : ns.length ≤ 63)
    (hret : ∀ h' tk' m', Fr h₀ L h' m' → Q (.ret (.bool true)) ⟨h', gns, drw, tk', sos⟩) : LawAtE w dp un gd L a ccd outer 0 Q E ⟨hp, gns, drw, tk0, sos⟩ body qual scope := by
  refine' law_lit (P := LawAtE w dp un gd L a ccd outer 0 Q E ⟨hp, gns, drw, tk0, sos⟩) hb ?ho ?_
  (case ho => k_dflt k_is)
  intro hb' hE
  clear hb
  dsimp only [LawAt, List.drop]
  repeat' (first | ((fail_if_success (with_reducible show wpAny _ _ (execs (Stmt.Assign [Expr.Name (Str.ofString "one") _] _ _ :: _) _) _ _ _)); walk_at "MINE step"))
  try dsimp only
  exact tail2 w mean mg mb (m := _) hb' B (by k_asm) X (by first | exact cb_drop (by assumption) perm_t1 | fail "N") T hd hu (StartF.zp (by assumption)) (StartF.zt (by assumption)) (Nat.ne_of_lt (StartF.d1 (by assumption))) (.tail _ (.tail _ (.head _))) ((StartF.base (by assumption) (by assumption)).ty.mono sub_tl2) (.tail _ (.tail _ (.tail _ (.head _)))) (by assumption) (by decide) (by omega) (by omega) (by assumption) (by assumption) (by decide) (by decide) (.tail _ (.tail _ (.tail _ (.tail _ (.head _))))) (.tail _ (.tail _ (.tail _ (.tail _ (.tail _ (.head _)))))) rfl (StartF.base (by assumption) (by assumption)) (by decide) (fun h' tk' m' F' => hret h' tk' m' F') hE
/-! top -/
theorem reg98 : True := by
  w_top off
  (k_with "MINE none" => (skip))
  trivial
theorem cellQ_of {o : Obj} (h : o.data = .cell none) : o = cellQ o none := by
  cases o
  cases h
  rfl
theorem tail00 (w : World) (mean : ExcName → Option Value) (mg mb : Str → Option Value) {body : List Stmt} {qual : Str} {scope : Scope} (dp un : Nat) (gd : Option (List Code)) {a : Addr} {ccd : Value} (outer : List Env) {A₀ : Around} {base h₀ : Heap} {L : Addr} {m : Str → Option Value} {s : Shared} {Q : Flow → Shared → Prop} {E : Value → Shared → Prop}
    {sc : Addr} {svs : List Value} {ns : List Int} {o1 o2 o3 o4 : Obj}
    (hb : LawB w body qual scope) (B : Below A₀ base outer h₀) (F : Fr h₀ L s.heap m) (X : (Mine.R.heap_1_1 w.params).In h₀) (N : News h₀ L s.heap [(L + 1 + 1 + 1 + 1, o4), (L + 1 + 1 + 1, o3), (L + 1 + 1, o2), (L + 1, o1)]) (d1 : o1.data = .cell none) (d2 : o2.data = .cell none) (d3 : o3.data = .cell none) (d4 : o4.data = .cell none)
    (T : Top Mine.R.view_1_2 (looseW Mine.R.view_1_2 []) mean mg mb h₀) (hd : dp + 40 < recursionLimit) (hu : un + 300 < cLine)
    (hms : m (Str.ofString "script") = some (.ref sc)) (hls : h₀.IsList sc svs.toArray) (hIs : IntsAre svs ns) (hns : ns.length ≤ 63)
    (hE : PassesOwn (model PySem.Challenge.rw_nu0332_01.row.prog w) (ktrTop dp un gd qual scope L a ccd (cellsFrom (L + 1) scope.names []) outer) (envX qual scope L a ccd (cellsFrom (L + 1) scope.names [])) E)
    (hret : ∀ h' tk' m', Fr h₀ L h' m' → Q (.ret (.bool true)) { s with heap := h', toks := tk' }) :
    wpAny (model PySem.Challenge.rw_nu0332_01.row.prog w) (ktrTop dp un gd qual scope L a ccd (cellsFrom (L + 1) scope.names []) outer) (execs body (envX qual scope L a ccd (cellsFrom (L + 1) scope.names []))) Q E s := by
  rw [cellQ_of d1, cellQ_of d2, cellQ_of d3, cellQ_of d4] at N
  exact tail0 w mean mg mb hb B F X N T hd hu hms hls hIs hns hret hE
theorem F.tw10008432317864217056 : True := trivial
theorem F.tw10056993077222967418 : True := trivial
theorem F.tw10183955874293763163 : True := trivial
theorem F.tw10444204412008850156 : True := trivial
theorem F.tw10467562787074259164 : True := trivial
theorem F.tw1052704647142591911 : True := trivial
theorem F.tw10685277290485609416 : True := trivial
theorem F.tw10793928315945686910 : True := trivial
theorem F.tw10838649763852493032 : True := trivial
theorem F.tw10891790812144818759 : True := trivial
theorem F.tw10911518162150413526 : True := trivial
theorem F.tw10983006148187474119 : True := trivial
theorem F.tw11009738375613093327 : True := trivial
theorem F.tw11023919318548984488 : True := trivial
theorem F.tw11029893469734704106 : True := trivial
theorem F.tw11052774847302430416 : True := trivial
theorem F.tw11152255793291544351 : True := trivial
theorem F.tw11306600596979565393 : True := trivial
theorem F.tw11359676390198619982 : True := trivial
theorem F.tw11381575660781809442 : True := trivial
theorem F.tw11404992218543874167 : True := trivial
theorem F.tw11434313276824398346 : True := trivial
theorem F.tw11490912791181941208 : True := trivial
theorem F.tw11506658997950247045 : True := trivial
theorem F.tw11506761060699122241 : True := trivial
theorem F.tw1152321585990353823 : True := trivial
theorem F.tw11524234623499043554 : True := trivial
theorem F.tw11554617052001728470 : True := trivial
theorem F.tw11595097411822095846 : True := trivial
theorem F.tw11605173793353166500 : True := trivial
theorem F.tw11661751976997546713 : True := trivial
theorem F.tw11662052731127488753 : True := trivial
theorem F.tw11663552971202792481 : True := trivial
theorem F.tw1171068323069503447 : True := trivial
theorem F.tw11748273283422690275 : True := trivial
theorem F.tw11758158045733933396 : True := trivial
theorem F.tw11821778306248130233 : True := trivial
theorem F.tw11827082925632942208 : True := trivial
theorem F.tw11860446991169436092 : True := trivial
theorem F.tw12001785615461477945 : True := trivial
theorem F.tw12017201689094863377 : True := trivial
theorem F.tw12083078325541418846 : True := trivial
theorem F.tw12142030593367392625 : True := trivial
theorem F.tw12155318297832567902 : True := trivial
theorem F.tw12191278807153765581 : True := trivial
theorem F.tw12290872371088865521 : True := trivial
theorem F.tw12376684099697560036 : True := trivial
theorem F.tw12391538903650863339 : True := trivial
theorem F.tw12392174057851368547 : True := trivial
theorem F.tw12397064275287743635 : True := trivial
theorem F.tw12404575881504948264 : True := trivial
theorem F.tw1247951188508295254 : True := trivial
theorem F.tw12578038902897587346 : True := trivial
theorem F.tw12775595774206943639 : True := trivial
theorem F.tw12853040414660021972 : True := trivial
theorem F.tw12901504728076734886 : True := trivial
theorem F.tw12951572875725091325 : True := trivial
theorem F.tw12984207843831335754 : True := trivial
theorem F.tw12992356129472016789 : True := trivial
theorem F.tw13002745544446720453 : True := trivial
theorem F.tw13056449025096045961 : True := trivial
theorem F.tw13081221053536713831 : True := trivial
theorem F.tw13122321473761604847 : True := trivial
theorem F.tw13131048285047177564 : True := trivial
theorem F.tw13174632749927631784 : True := trivial
theorem F.tw13336886166688855132 : True := trivial
theorem F.tw13357070933210348557 : True := trivial
theorem F.tw13433081715728448552 : True := trivial
theorem F.tw1346467006971810951 : True := trivial
theorem F.tw13481288886517340742 : True := trivial
theorem F.tw13486433320922436392 : True := trivial
theorem F.tw13575964274518809306 : True := trivial
theorem F.tw13589690779357414207 : True := trivial
theorem F.tw13601102745003772083 : True := trivial
theorem F.tw13602233616823433874 : True := trivial
theorem F.tw13650645094077453001 : True := trivial
theorem F.tw13668968694786960344 : True := trivial
theorem F.tw13713797633570477104 : True := trivial
theorem F.tw13760980375180245692 : True := trivial
theorem F.tw13816414882232885436 : True := trivial
theorem F.tw13881173911882088885 : True := trivial
theorem F.tw13905356836782496149 : True := trivial
theorem F.tw13985105181197936398 : True := trivial
theorem F.tw14104790730387909062 : True := trivial
theorem F.tw14163894040913303773 : True := trivial
theorem F.tw14198601478777050257 : True := trivial
theorem F.tw14226656487053084445 : True := trivial
theorem F.tw14261593186696564021 : True := trivial
theorem F.tw14371297600257850326 : True := trivial
theorem F.tw14473116849872921873 : True := trivial
theorem F.tw14496947442546973977 : True := trivial
theorem F.tw1450902338298125625 : True := trivial
theorem F.tw1453863013848481949 : True := trivial
theorem F.tw1455295468120337362 : True := trivial
theorem F.tw14596209842159421745 : True := trivial
theorem F.tw14598766145824292704 : True := trivial
theorem F.tw1466357225197547859 : True := trivial
theorem F.tw1469858108755625299 : True := trivial
theorem F.tw14825186419914458603 : True := trivial
theorem F.tw14963775397194989679 : True := trivial
theorem F.tw14986751458449950099 : True := trivial
theorem F.tw15097571204949867081 : True := trivial
theorem F.tw15170663856848690467 : True := trivial
theorem F.tw15265287310404503974 : True := trivial
theorem F.tw15402896802189887154 : True := trivial
theorem F.tw15436279642021586048 : True := trivial
theorem F.tw15533021276279312113 : True := trivial
theorem F.tw15600927862548953830 : True := trivial
theorem F.tw15712591486831903094 : True := trivial
theorem F.tw15713042740169990462 : True := trivial
theorem F.tw15713941709330845910 : True := trivial
theorem F.tw15755076679836699032 : True := trivial
theorem F.tw15774332250246594522 : True := trivial
theorem F.tw15928758320922672638 : True := trivial
theorem F.tw15973082628609655893 : True := trivial
theorem F.tw15985917067599681213 : True := trivial
theorem F.tw1612035144032272313 : True := trivial
theorem F.tw16141935937797940701 : True := trivial
theorem F.tw16187508467242308339 : True := trivial
theorem F.tw16248374850661816618 : True := trivial
theorem F.tw16251878621198252923 : True := trivial
theorem F.tw16340727540871594489 : True := trivial
theorem F.tw16400825057584675272 : True := trivial
theorem F.tw16437809869099706933 : True := trivial
theorem F.tw16532563227148630456 : True := trivial
theorem F.tw16537411325375785010 : True := trivial
theorem F.tw16547579397986121427 : True := trivial
theorem F.tw16572254026690065661 : True := trivial
theorem F.tw16610879933177403638 : True := trivial
theorem F.tw16697142808686576460 : True := trivial
theorem F.tw16714114148600944318 : True := trivial
theorem F.tw16767968257315566987 : True := trivial
theorem F.tw16768059701318703203 : True := trivial
theorem F.tw16806199318583348475 : True := trivial
theorem F.tw16850353563958463780 : True := trivial
theorem F.tw17016806613693500625 : True := trivial
theorem F.tw17113517779064287258 : True := trivial
theorem F.tw1711892505483694798 : True := trivial
theorem F.tw17148316565519034948 : True := trivial
theorem F.tw17176476436167983003 : True := trivial
theorem F.tw17316308097785053311 : True := trivial
theorem F.tw17332143820421996804 : True := trivial
theorem F.tw17353495913480532833 : True := trivial
theorem F.tw17411874608435160272 : True := trivial
theorem F.tw17430031742090962841 : True := trivial
theorem F.tw1743351300437181527 : True := trivial
theorem F.tw17473874785200360114 : True := trivial
theorem F.tw17597520297008589298 : True := trivial
theorem F.tw17620693788362588014 : True := trivial
theorem F.tw17624438783660823219 : True := trivial
theorem F.tw17747259514256267586 : True := trivial
theorem F.tw17765858222751993521 : True := trivial
theorem F.tw17780215671413697393 : True := trivial
theorem F.tw17798212354516465116 : True := trivial
theorem F.tw17853481103629609612 : True := trivial
theorem F.tw17884991699728929245 : True := trivial
theorem F.tw17936309130647494052 : True := trivial
theorem F.tw17989080632781203281 : True := trivial
theorem F.tw18054038718005620179 : True := trivial
theorem F.tw18074297512113816271 : True := trivial
theorem F.tw18076221758840583583 : True := trivial
theorem F.tw18089002828488841357 : True := trivial
theorem F.tw18138000271972460598 : True := trivial
theorem F.tw18298750292553562625 : True := trivial
theorem F.tw1876127830002371855 : True := trivial
theorem F.tw1932119734420225216 : True := trivial
theorem F.tw1956422586531525377 : True := trivial
theorem F.tw2041812049703366891 : True := trivial
theorem F.tw2058256904272689111 : True := trivial
theorem F.tw2325235097137428058 : True := trivial
theorem F.tw234614608206003196 : True := trivial
theorem F.tw2357197265024788909 : True := trivial
theorem F.tw2378595666832869176 : True := trivial
theorem F.tw2409884469816291143 : True := trivial
theorem F.tw2410892593102509683 : True := trivial
theorem F.tw2445142412301206603 : True := trivial
theorem F.tw251112414773603101 : True := trivial
theorem F.tw2526688107794545690 : True := trivial
theorem F.tw2605036221492734407 : True := trivial
theorem F.tw2706877014450608857 : True := trivial
theorem F.tw276306345927846089 : True := trivial
theorem F.tw2773989835584325260 : True := trivial
theorem F.tw2806244256317625857 : True := trivial
theorem F.tw292143950384254520 : True := trivial
theorem F.tw3083433981356724400 : True := trivial
theorem F.tw3117372011151931058 : True := trivial
theorem F.tw3206657520193944813 : True := trivial
theorem F.tw3232344290564696124 : True := trivial
theorem F.tw332087461107023942 : True := trivial
theorem F.tw3330195722232243655 : True := trivial
theorem F.tw3357983598308966799 : True := trivial
theorem F.tw3362805927947791442 : True := trivial
theorem F.tw336906941089054832 : True := trivial
theorem F.tw3389817423943365101 : True := trivial
theorem F.tw340110910402920180 : True := trivial
theorem F.tw3454884712523015039 : True := trivial
theorem F.tw3473315591158076693 : True := trivial
theorem F.tw3613624970103052550 : True := trivial
theorem F.tw3783947145021868154 : True := trivial
theorem F.tw4005884260685369698 : True := trivial
theorem F.tw4017565087355984713 : True := trivial
theorem F.tw4021029164443697286 : True := trivial
theorem F.tw4115426784844905847 : True := trivial
theorem F.tw4117757504169299195 : True := trivial
theorem F.tw4125696373251765597 : True := trivial
theorem F.tw4194625053003591594 : True := trivial
theorem F.tw4293568105435044239 : True := trivial
theorem F.tw4340899758024887129 : True := trivial
theorem F.tw4400781806649434676 : True := trivial
theorem F.tw4409241597752712350 : True := trivial
theorem F.tw4456099546852169737 : True := trivial
theorem F.tw447539632109790389 : True := trivial
theorem F.tw4513298056903584473 : True := trivial
theorem F.tw461451833382864444 : True := trivial
theorem F.tw4681205957144582437 : True := trivial
theorem F.tw4738398797733000176 : True := trivial
theorem F.tw4750925916384392673 : True := trivial
theorem F.tw4794626506267509785 : True := trivial
theorem F.tw4796012835715113781 : True := trivial
theorem F.tw4864289936922016543 : True := trivial
theorem F.tw4867159227908666973 : True := trivial
theorem F.tw4886791140947381900 : True := trivial
theorem F.tw4896689501448288378 : True := trivial
theorem F.tw5137162708459886689 : True := trivial
theorem F.tw5188979931424798075 : True := trivial
theorem F.tw5210964756852519558 : True := trivial
theorem F.tw5260191940082963818 : True := trivial
theorem F.tw5300244387144042863 : True := trivial
theorem F.tw542528421379173526 : True := trivial
theorem F.tw5432467062556546173 : True := trivial
theorem F.tw5488325270578093810 : True := trivial
theorem F.tw5622690193536882685 : True := trivial
theorem F.tw5692437790853201056 : True := trivial
theorem F.tw5746199509909457409 : True := trivial
theorem F.tw5748634585710555741 : True := trivial
theorem F.tw5809965003265797316 : True := trivial
theorem F.tw5884002454265469769 : True := trivial
theorem F.tw6079433354051999870 : True := trivial
theorem F.tw612293960590550035 : True := trivial
theorem F.tw6170080392858489854 : True := trivial
theorem F.tw6181640839159960944 : True := trivial
theorem F.tw6193855511339065152 : True := trivial
theorem F.tw6213400509737544926 : True := trivial
theorem F.tw6373010122554938749 : True := trivial
theorem F.tw6378229631097448337 : True := trivial
theorem F.tw6409658863926109920 : True := trivial
theorem F.tw6486630800551224926 : True := trivial
theorem F.tw6500838654227095427 : True := trivial
theorem F.tw6571140807716793874 : True := trivial
theorem F.tw6620149423829755051 : True := trivial
theorem F.tw6628563662926021755 : True := trivial
theorem F.tw6637819310330371451 : True := trivial
theorem F.tw6671999402679734835 : True := trivial
theorem F.tw6731746994195163183 : True := trivial
theorem F.tw6752609228967201187 : True := trivial
theorem F.tw6760079367874141101 : True := trivial
theorem F.tw6792960227380261642 : True := trivial
theorem F.tw6793174049783082744 : True := trivial
theorem F.tw7145729786631847883 : True := trivial
theorem F.tw7151796818394765736 : True := trivial
theorem F.tw7171189886636041377 : True := trivial
theorem F.tw7226827675305258042 : True := trivial
theorem F.tw7237249656344996703 : True := trivial
theorem F.tw734288944659451733 : True := trivial
theorem F.tw7388506570487134762 : True := trivial
theorem F.tw739699790056597063 : True := trivial
theorem F.tw7582970042823630322 : True := trivial
theorem F.tw7583978904073840536 : True := trivial
theorem F.tw7650721108014449277 : True := trivial
theorem F.tw7742358425680174351 : True := trivial
theorem F.tw7744582168971264885 : True := trivial
theorem F.tw779362776556875415 : True := trivial
theorem F.tw7905307203953461150 : True := trivial
theorem F.tw7947742187716041952 : True := trivial
theorem F.tw8002035917192967569 : True := trivial
theorem F.tw805304052426062229 : True := trivial
theorem F.tw8121726030187663479 : True := trivial
theorem F.tw8194029817250744703 : True := trivial
theorem F.tw8213599157043062065 : True := trivial
theorem F.tw823807695714508790 : True := trivial
theorem F.tw8266325502809575951 : True := trivial
theorem F.tw8277250116053538336 : True := trivial
theorem F.tw8282133030813633465 : True := trivial
theorem F.tw8307321301097819497 : True := trivial
theorem F.tw8403777657591977900 : True := trivial
theorem F.tw8440519226308435484 : True := trivial
theorem F.tw853367834176150767 : True := trivial
theorem F.tw8610058539346329277 : True := trivial
theorem F.tw8617419742626466592 : True := trivial
theorem F.tw8623819779657357372 : True := trivial
theorem F.tw863233004521425901 : True := trivial
theorem F.tw86465111207560136 : True := trivial
theorem F.tw8661653481149299089 : True := trivial
theorem F.tw8724602557947193783 : True := trivial
theorem F.tw8767895335458875708 : True := trivial
theorem F.tw877331324855852211 : True := trivial
theorem F.tw8781049310221681690 : True := trivial
theorem F.tw8869245993196279851 : True := trivial
theorem F.tw8870560178613600476 : True := trivial
theorem F.tw8874886640552962450 : True := trivial
theorem F.tw9059927489907491538 : True := trivial
theorem F.tw9170401877394507077 : True := trivial
theorem F.tw931757424620613909 : True := trivial
theorem F.tw9340034437106206327 : True := trivial
theorem F.tw9381388764996117512 : True := trivial
theorem F.tw941804775589073322 : True := trivial
theorem F.tw9438965245107958242 : True := trivial
theorem F.tw9450861452166959758 : True := trivial
theorem F.tw9573276085599225744 : True := trivial
theorem F.tw9577442124990446688 : True := trivial
theorem F.tw9681813793262518852 : True := trivial
theorem F.tw970796689677429700 : True := trivial
theorem F.tw9734990069372443659 : True := trivial
theorem F.tw9790843096751805739 : True := trivial
theorem F.tw9901097625457420352 : True := trivial
theorem F.tw9918082979723978252 : True := trivial
theorem F.tw9968307154862515842 : True := trivial
theorem F.tw9987129754893620124 : True := trivial
theorem F.tw12267401023263779425 : True := trivial
set_option Elab.async true in
set_option maxRecDepth 100000 in
set_option maxHeartbeats 8000000 in
theorem F : PySem.Challenge.rw_nu0332_01.Holds := by
  w_on
  o_law
  k_head
  (case hw => w_witness2)
  w_strict (
  k_go0
  refine' tail00 _ _ _ _ 302 7 (some []) [] ?hb ?hB ?hF ?hX ?hN ?d1 ?d2 ?d3 ?d4 ?hT ?hd ?hu ?hms ?hls ?hIs ?hns ?hE ?hret
  (case hB => assumption)
  (case hF => assumption)
  (case hX => assumption)
  (case hN => assumption)
  (case hT => assumption)
  (case hls => assumption)
  (case hIs => assumption)
  (case hns => omega)
  (case hd => decide)
  (case hu => decide)
  (case hE => passes_own)
  (case d1 => assumption)
  (case d2 => assumption)
  (case d3 => assumption)
  (case d4 => assumption)
  (case hms => rfl)
  (case hb => exact ⟨_, _, _, _, _, _, _, _, _, _, _, _, by k_is⟩)
  (case hret => (intro h' tk' m' F'; (try dsimp only); k_end; wrow_close))
  )
end Mine
theorem PySem.Challenge.cw_nu0332_01_holds : PySem.Challenge.rw_nu0332_01.Holds :=
  Mine.F
