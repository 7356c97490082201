import PyProof.Rows.All
import Wide.All
import OpenK.AllK
import Wide.FinOn
import PySem.Challenge.RW_sj0190_01
set_option linter.all false
open PySem PySem.W PyProof.Rows
set_option Elab.async false
set_option maxRecDepth 100000
set_option maxHeartbeats 8000000
namespace PySem.W.Fast
def tw8075568018651887793 : Unit := ()
def tw14979626087600564940 : Unit := ()
def tw209114239712036880 : Unit := ()
def tw14638366451347569053 : Unit := ()
def tw12268644228514654432 : Unit := ()
def tw14224011070414065920 : Unit := ()
def tw9979284746773624096 : Unit := ()
def tw17069979004554194336 : Unit := ()
def tw16817318245366136608 : Unit := ()
def tw5721027456603625697 : Unit := ()
def tw16741492637210864865 : Unit := ()
def tw14821650378409806113 : Unit := ()
def tw11543547407058413889 : Unit := ()
def tw2334299552400917057 : Unit := ()
def tw8603108125212654177 : Unit := ()
def tw16916688483869632129 : Unit := ()
def tw11317593695737139937 : Unit := ()
def tw13236226663087606529 : Unit := ()
def tw6792406925840432001 : Unit := ()
def tw1414301608579184545 : Unit := ()
def tw13615603153576403970 : Unit := ()
def tw3856783459128436802 : Unit := ()
def tw12850107946570832962 : Unit := ()
def tw9529234661008812162 : Unit := ()
def tw9594665118957945026 : Unit := ()
def tw13559156169165276386 : Unit := ()
def tw17000458434675057986 : Unit := ()
def tw3093977132361051618 : Unit := ()
def tw13640514254501968386 : Unit := ()
def tw387338674003428930 : Unit := ()
def tw4558998842232669794 : Unit := ()
def tw14714103240675001986 : Unit := ()
def tw6679490504615227074 : Unit := ()
def tw8860024209350480642 : Unit := ()
def tw8595292554425487202 : Unit := ()
def tw4302124980754421698 : Unit := ()
def tw11788150170368784547 : Unit := ()
def tw13789449189825218787 : Unit := ()
def tw11310463157757771331 : Unit := ()
def tw136631920214876835 : Unit := ()
def tw4978915544186085027 : Unit := ()
def tw151948405760981731 : Unit := ()
def tw7401281599722004195 : Unit := ()
def tw10887116778572429059 : Unit := ()
def tw505943868828395459 : Unit := ()
def tw7232422423428716515 : Unit := ()
def tw1258299570235058372 : Unit := ()
def tw4039474712603431140 : Unit := ()
def tw17532718790514356516 : Unit := ()
def tw17274371674624000324 : Unit := ()
def tw10007627690174824804 : Unit := ()
def tw12233582284571471492 : Unit := ()
def tw17975652961387846372 : Unit := ()
def tw15168306246750427876 : Unit := ()
def tw7269565832213808900 : Unit := ()
def tw10317580896714288900 : Unit := ()
def tw16752143609539240740 : Unit := ()
def tw16350708796919097252 : Unit := ()
def tw10424941004445345732 : Unit := ()
def tw4224760802259116069 : Unit := ()
def tw9136488742655976645 : Unit := ()
def tw17672482021469178181 : Unit := ()
def tw15278061642289888581 : Unit := ()
def tw3442601649717412197 : Unit := ()
def tw2039238271031011813 : Unit := ()
def tw1402947280878808549 : Unit := ()
def tw15323854079317868165 : Unit := ()
def tw13141144453892091621 : Unit := ()
def tw18416463498863911781 : Unit := ()
def tw16049961110935095269 : Unit := ()
def tw2660918139993853925 : Unit := ()
def tw4933834842325187142 : Unit := ()
def tw16145008321745377990 : Unit := ()
def tw183835017167291270 : Unit := ()
def tw13512673800721320934 : Unit := ()
def tw7250012664060256230 : Unit := ()
def tw18220123701641295943 : Unit := ()
def tw16979880578912567463 : Unit := ()
def tw16643706677886111943 : Unit := ()
def tw11588390666370768167 : Unit := ()
def tw6550987210724342151 : Unit := ()
def tw1355338860687761863 : Unit := ()
def tw9862997608875712007 : Unit := ()
def tw4319705520415482375 : Unit := ()
def tw15490439104401381959 : Unit := ()
def tw1537898542681612871 : Unit := ()
def tw4090926877573551719 : Unit := ()
def tw8376441433122354887 : Unit := ()
def tw15900120412870309639 : Unit := ()
def tw14326252917377295143 : Unit := ()
def tw15894407043143930727 : Unit := ()
def tw11270796479367742343 : Unit := ()
def tw10073347824450446311 : Unit := ()
def tw2611137233208623240 : Unit := ()
def tw14073706353221006472 : Unit := ()
def tw10314498396905981064 : Unit := ()
def tw2422670821966735624 : Unit := ()
def tw5268983451555188008 : Unit := ()
def tw13900631225919944168 : Unit := ()
def tw9285146279643344392 : Unit := ()
def tw4658958612460137192 : Unit := ()
def tw6434138532213402376 : Unit := ()
def tw3131671291697673992 : Unit := ()
def tw5882768191206486792 : Unit := ()
def tw5200128776193632040 : Unit := ()
def tw16697116713213952808 : Unit := ()
def tw18101931140130867144 : Unit := ()
def tw14386061602966655976 : Unit := ()
def tw10938465397075749097 : Unit := ()
def tw1333364371103165705 : Unit := ()
def tw17000155066101142889 : Unit := ()
def tw8424611434330503625 : Unit := ()
def tw3039592710220408265 : Unit := ()
def tw14834023430324568649 : Unit := ()
def tw12172078356533094185 : Unit := ()
def tw12866136484021002089 : Unit := ()
def tw43969757491396457 : Unit := ()
def tw3976722010076183465 : Unit := ()
def tw14311459727803291754 : Unit := ()
def tw3094477031063562474 : Unit := ()
def tw13981391230805400906 : Unit := ()
def tw1377046205977697930 : Unit := ()
def tw14333388528381170442 : Unit := ()
def tw9800571698397750058 : Unit := ()
def tw9501820088010722379 : Unit := ()
def tw18260038339965228139 : Unit := ()
def tw15263041282635125899 : Unit := ()
def tw8727135674562949291 : Unit := ()
def tw16966814322356759819 : Unit := ()
def tw17532440430192770315 : Unit := ()
def tw12813236842856870187 : Unit := ()
def tw932993149863042379 : Unit := ()
def tw11013792430000457035 : Unit := ()
def tw8032284361305108907 : Unit := ()
def tw5902227825499142635 : Unit := ()
def tw3362959441861295915 : Unit := ()
def tw4980102563643897964 : Unit := ()
def tw4071324889030633612 : Unit := ()
def tw9951705424602377420 : Unit := ()
def tw11161088081135249708 : Unit := ()
def tw667198328695590252 : Unit := ()
def tw4636218855388986860 : Unit := ()
def tw13678640442995254988 : Unit := ()
def tw4775785305629353868 : Unit := ()
def tw8642067239939848140 : Unit := ()
def tw10833955939284561965 : Unit := ()
def tw11306939235166856333 : Unit := ()
def tw1617757218408452269 : Unit := ()
def tw5076957145309523181 : Unit := ()
def tw16374537267813192141 : Unit := ()
def tw4679858250743294509 : Unit := ()
def tw17846936440860909165 : Unit := ()
def tw13036272033356848781 : Unit := ()
def tw3282434896037501709 : Unit := ()
def tw117213463901210413 : Unit := ()
def tw15766043655864335149 : Unit := ()
def tw16439824349840649037 : Unit := ()
def tw17828083071136270317 : Unit := ()
def tw8708707556590381134 : Unit := ()
def tw13180171748994924942 : Unit := ()
def tw11566699232636054958 : Unit := ()
def tw8579058602437062094 : Unit := ()
def tw7276740287692124622 : Unit := ()
def tw15919542637913265678 : Unit := ()
def tw7650934615059315214 : Unit := ()
def tw9458956999447867950 : Unit := ()
def tw8693227569615203950 : Unit := ()
def tw900395245841561262 : Unit := ()
def tw5706481520468235054 : Unit := ()
def tw17730448691065144110 : Unit := ()
def tw11985326045990495214 : Unit := ()
def tw912392155897948271 : Unit := ()
def tw1620339239838986703 : Unit := ()
def tw11853533878840232495 : Unit := ()
def tw6589095468515690095 : Unit := ()
def tw17164873540382356111 : Unit := ()
def tw15560500314895047343 : Unit := ()
def tw11462045893675790159 : Unit := ()
def tw9759809726879904816 : Unit := ()
def tw10010936943081839664 : Unit := ()
def tw1574873078441994576 : Unit := ()
def tw2478078296215019888 : Unit := ()
def tw3698559305507148144 : Unit := ()
def tw347637069881736656 : Unit := ()
def tw2719445374943340272 : Unit := ()
def tw5135500740108067664 : Unit := ()
def tw10948738476641704880 : Unit := ()
def tw15112985482279097393 : Unit := ()
def tw7323676302269181137 : Unit := ()
def tw7275051467321613617 : Unit := ()
def tw13254397897704925713 : Unit := ()
def tw11625766737575182897 : Unit := ()
def tw6380047634161181297 : Unit := ()
def tw17018628822417861297 : Unit := ()
def tw7496433998918960881 : Unit := ()
def tw1092655722715705105 : Unit := ()
def tw8017206721242287953 : Unit := ()
def tw17057272898397164401 : Unit := ()
def tw17517737089405305841 : Unit := ()
def tw9151444980202551346 : Unit := ()
def tw6929956602132211858 : Unit := ()
def tw9564595351457756722 : Unit := ()
def tw951843321253372498 : Unit := ()
def tw14884601019740666482 : Unit := ()
def tw16593013826814733010 : Unit := ()
def tw9931943479562821362 : Unit := ()
def tw4552823106982906706 : Unit := ()
def tw4011157648589011858 : Unit := ()
def tw4407734736301137906 : Unit := ()
def tw6662432510661729299 : Unit := ()
def tw3152983702415266003 : Unit := ()
def tw15066959818950650227 : Unit := ()
def tw10942035263794033107 : Unit := ()
def tw3766158894648301139 : Unit := ()
def tw1503297043503765363 : Unit := ()
def tw15450981722951097364 : Unit := ()
def tw2862820112641550484 : Unit := ()
def tw4075660801711882420 : Unit := ()
def tw18211773271919218964 : Unit := ()
def tw11636919720809706868 : Unit := ()
def tw15480198773659482676 : Unit := ()
def tw8537084889766193716 : Unit := ()
def tw2283851925072248500 : Unit := ()
def tw11420187438672877268 : Unit := ()
def tw9315938663221665524 : Unit := ()
def tw17730428716208468724 : Unit := ()
def tw15742981410569661332 : Unit := ()
def tw8206430501311747189 : Unit := ()
def tw12290603225136948437 : Unit := ()
def tw4527066259768149269 : Unit := ()
def tw8753696776887207221 : Unit := ()
def tw10528696920762540405 : Unit := ()
def tw14553827428707814869 : Unit := ()
def tw12237943961548833269 : Unit := ()
def tw392140993173905013 : Unit := ()
def tw11964429278604863157 : Unit := ()
def tw2354135333415324597 : Unit := ()
def tw14126943448341045398 : Unit := ()
def tw17954471519018878134 : Unit := ()
def tw3619232141914619222 : Unit := ()
def tw10996506086634736982 : Unit := ()
def tw2627984346626558326 : Unit := ()
def tw14023627001141898710 : Unit := ()
def tw11939915149646268982 : Unit := ()
def tw12635813782599140982 : Unit := ()
def tw3264259588550801142 : Unit := ()
def tw9467589175468403638 : Unit := ()
def tw2670528217467546775 : Unit := ()
def tw1829445100760108279 : Unit := ()
def tw15663404670287596823 : Unit := ()
def tw17888162413812561239 : Unit := ()
def tw12945451867199242903 : Unit := ()
def tw14433975572909055671 : Unit := ()
def tw1702518465993881591 : Unit := ()
def tw3891137856419664920 : Unit := ()
def tw6004533443673955352 : Unit := ()
def tw662354867322794072 : Unit := ()
def tw14168537005229113720 : Unit := ()
def tw7198390536060210744 : Unit := ()
def tw13016732220969518872 : Unit := ()
def tw8400853705098224536 : Unit := ()
def tw6683783046931543321 : Unit := ()
def tw9407582987413476825 : Unit := ()
def tw15007238320947547705 : Unit := ()
def tw8719427161674164953 : Unit := ()
def tw6245536207120538393 : Unit := ()
def tw3424931102881643321 : Unit := ()
def tw721709456127091705 : Unit := ()
def tw2460228577881660442 : Unit := ()
def tw470574548607681690 : Unit := ()
def tw682011567655089306 : Unit := ()
def tw9908251947323293946 : Unit := ()
def tw5978237884098788730 : Unit := ()
def tw8098380416015320538 : Unit := ()
def tw3820604794100220378 : Unit := ()
def tw10706342367453228570 : Unit := ()
def tw8119918657739134586 : Unit := ()
def tw3105397867545767578 : Unit := ()
def tw14896874001708588922 : Unit := ()
def tw219737044198020058 : Unit := ()
def tw3577408171920636059 : Unit := ()
def tw17497748084772794779 : Unit := ()
def tw16548257151911338427 : Unit := ()
def tw2664551874359636763 : Unit := ()
def tw5357591511691535388 : Unit := ()
def tw6654550962395885724 : Unit := ()
def tw16846860572762119324 : Unit := ()
def tw5345256250457102556 : Unit := ()
def tw6817277305950994716 : Unit := ()
def tw17100903815162463580 : Unit := ()
def tw10205541121877940668 : Unit := ()
def tw5396446701170858492 : Unit := ()
def tw11333186260410459676 : Unit := ()
def tw5111356299099525756 : Unit := ()
def tw13317431791736044220 : Unit := ()
def tw1291980286583624508 : Unit := ()
def tw16241802466949684156 : Unit := ()
def tw2905824091091238844 : Unit := ()
def tw1258717718454355964 : Unit := ()
def tw13912434898499826684 : Unit := ()
def tw17476080006546285661 : Unit := ()
def tw5032809538720368765 : Unit := ()
def tw3778451253796500701 : Unit := ()
def tw5529568453561195837 : Unit := ()
def tw14537914154153760125 : Unit := ()
def tw12329403913580668285 : Unit := ()
def tw10323183001455561277 : Unit := ()
def tw11186114360453789277 : Unit := ()
def tw17804436615005485693 : Unit := ()
def tw7892128664451923741 : Unit := ()
def tw13759679279233594173 : Unit := ()
def tw16296994325663420285 : Unit := ()
def tw17552769576498331613 : Unit := ()
def tw6019396324639902685 : Unit := ()
def tw11277716924127702174 : Unit := ()
def tw4748654258956052638 : Unit := ()
def tw6711915476519705758 : Unit := ()
def tw3636048126100218174 : Unit := ()
def tw17964007177503468958 : Unit := ()
def tw460243522976405022 : Unit := ()
def tw11130039905162102590 : Unit := ()
def tw1962928258387122110 : Unit := ()
def tw9787463984185863102 : Unit := ()
def tw4292500188555128830 : Unit := ()
def tw17279654841073493023 : Unit := ()
def tw6122645084068987007 : Unit := ()
def tw4549333791460862111 : Unit := ()
def tw16349804527192203551 : Unit := ()
def tw5189142188285759775 : Unit := ()
def tw9011979029575296479 : Unit := ()
def tw11729385059970357855 : Unit := ()
def tw11452132507678324671 : Unit := ()
def tw11994158751524154303 : Unit := ()
def tw14223099787259518943 : Unit := ()
def tw13335737130258781183 : Unit := ()
def tw282004115355043989 : Unit := ()
def tw4829060927144295115 : Unit := ()
def tw8147914164515108645 : Unit := ()
def tw704327219915372674 : Unit := ()
def tw18350330562280901221 : Unit := ()
def tw9976188549184207836 : Unit := ()
def tw13607416678640721797 : Unit := ()
def tw16643379632663270332 : Unit := ()
def tw14108194823987119177 : Unit := ()
def tw13191295725559111208 : Unit := ()
def tw16804044748790271530 : Unit := ()
def tw17111948838632640456 : Unit := ()
def tw16531745337717519161 : Unit := ()
def tw12659028871203227004 : Unit := ()
def tw9594443614562783311 : Unit := ()
def tw5654455671596441808 : Unit := ()
def tw161092056333428459 : Unit := ()
def tw5349121933718820234 : Unit := ()
def tw15980859228951719591 : Unit := ()
def tw3972328310683599613 : Unit := ()
def tw9763268239775435451 : Unit := ()
def tw7392212959928792091 : Unit := ()
def tw15639390237038912859 : Unit := ()
def tw1339427327865710234 : Unit := ()
def tw12925405047365184681 : Unit := ()
def tw1641718772566732887 : Unit := ()
def tw16018607276475445134 : Unit := ()
def tw6147171307777338356 : Unit := ()
def tw11445135464325071761 : Unit := ()
def tw5770868932273138760 : Unit := ()
def tw1218959903707654005 : Unit := ()
def tw7299303143086499733 : Unit := ()
def tw8703263022893421829 : Unit := ()
def tw7581352650102555174 : Unit := ()
def tw9948023125614773506 : Unit := ()
def tw15475462885187679331 : Unit := ()
def tw11304879220846320617 : Unit := ()
def tw18056578402003937789 : Unit := ()
def tw10029231156530900338 : Unit := ()
def tw11587687937092438486 : Unit := ()
def tw12635297910168745909 : Unit := ()
def tw18340240734955500558 : Unit := ()
def tw3629573141021229968 : Unit := ()
def tw14204384831589138817 : Unit := ()
def tw9380709410254546024 : Unit := ()
def tw6448080314894763839 : Unit := ()
def tw13145125596335152023 : Unit := ()
def tw18345786424863182364 : Unit := ()
def tw7745614565497352828 : Unit := ()
def tw4797165386629745026 : Unit := ()
def tw2408619945344806742 : Unit := ()
def tw3560238982266916124 : Unit := ()
def tw6537927635206691674 : Unit := ()
def tw6623780062484046687 : Unit := ()
def tw10227693086864044499 : Unit := ()
def tw16414604833108395602 : Unit := ()
def tw3880421473898291048 : Unit := ()
def tw14530364306720264245 : Unit := ()
def tw3764465048917985505 : Unit := ()
end PySem.W.Fast
namespace Mine
set_option compiler.extract_closed false
open_top hd for PySem.Challenge.rw_sj0190_01
section -- SK
open PySem PySem.W PySem.Calls PyProof.Rows PyProof.V
set_option Elab.async false
theorem six {n : Nat} (h1 : 1 ≤ n) (h2 : n ≤ 6) : n = 1 ∨ n = 2 ∨ n = 3 ∨ n = 4 ∨ n = 5 ∨ n = 6 := by omega
theorem sixI {r : Int} (h0 : 0 ≤ r) (h1 : r < 6) : r = 0 ∨ r = 1 ∨ r = 2 ∨ r = 3 ∨ r = 4 ∨ r = 5 := by omega
/-- parts set side by side in two orders -/
theorem permF {α : Type} (s : List (List α)) (R : List α) {a b : List Nat} (h : a.Perm b) : (a.foldr (fun i r => s.getD i [] ++ r) R).Perm (b.foldr (fun i r => s.getD i [] ++ r) R) := by
  induction h with
  | nil => exact .refl _
  | cons _ _ ih => exact List.Perm.append_left _ ih
  | swap x y l =>
    show (s.getD y [] ++ (s.getD x [] ++ _)).Perm (s.getD x [] ++ (s.getD y [] ++ _))
    rw [← List.append_assoc, ← List.append_assoc]
    exact List.Perm.append_right _ List.perm_append_comm
  | trans _ _ i1 i2 => exact i1.trans i2
/-- a key: an int or a text -/
inductive KV where
  | i (n : Int)
  | s (x : Str)
  deriving DecidableEq
def KV.d : KV → PyData
  | .i n => .int n
  | .s x => .str x
def KV.is : KV → Value → Bool
  | .i n, v => Value.isInt n v
  | .s x, v => Value.isStrOf x v
theorem KV.is_i {n : Int} {v : Value} (h : KV.is (.i n) v = true) : ∃ t, v = .int n t := Value.isInt_shape h
theorem KV.is_s {x : Str} {v : Value} (h : KV.is (.s x) v = true) : ∃ t, v = .str x t := Value.isStrOf_shape h
theorem KV.flat {k : KV} {v : Value} (h : KV.is k v = true) : Flat v k.d := by
  cases k with
  | i n => obtain ⟨t, rfl⟩ := KV.is_i h; exact Flat.int _ _
  | s x => obtain ⟨t, rfl⟩ := KV.is_s h; exact Flat.str _ _
theorem KV.is_int (n : Int) (t : Tok) : KV.is (.i n) (.int n t) = true := by simp [KV.is, Value.isInt]
theorem KV.is_str (x : Str) (t : Tok) : KV.is (.s x) (.str x t) = true := by simp [KV.is, Value.isStrOf]
theorem KV.of_flat {k : KV} {v : Value} (h : Flat v k.d) : KV.is k v = true := by
  cases k with
  | i n => obtain ⟨t, rfl⟩ := Flat.int_inv h; exact KV.is_int _ _
  | s x => obtain ⟨t, rfl⟩ := Flat.str_inv h; exact KV.is_str _ _
theorem KV.d_inj {a b : KV} (h : a.d = b.d) : a = b := by
  cases a <;> cases b <;> simp_all [KV.d]
section
variable {prog : Program} {w : World} {A : Around} {E : Value → Shared → Prop} {s : Shared}
theorem eqBool_is {a : Int} {t : Tok} {x : Str} {u : Tok} {Q : Bool → Shared → Prop} (h : Q false s) : wpAny (model prog w) A (eqBool (.int a t) (.str x u)) Q E s := by
  unfold eqBool
  refine wpAny_holding ?_
  rw [if_neg (by simp)]
  exact wpAny_bind (EqMixed.eq_int_str (wpAny_truthy_bool h))
theorem eqBool_si {a : Int} {t : Tok} {x : Str} {u : Tok} {Q : Bool → Shared → Prop} (h : Q false s) : wpAny (model prog w) A (eqBool (.str x u) (.int a t)) Q E s := by
  unfold eqBool
  refine wpAny_holding ?_
  rw [if_neg (by simp)]
  exact wpAny_bind (EqMixed.eq_str_int (wpAny_truthy_bool h))
end
def mk (prog : Program) (w : World) : KeyKind prog w KV where
  is := KV.is
  hash := fun k => match k with | .i n => hashInt n | .s x => hashStr w x
  inj := fun v a b ha hb => by
    cases a <;> cases b
    · exact congrArg KV.i (Value.isInt_inj v _ _ ha hb)
    · obtain ⟨t, rfl⟩ := KV.is_i ha; obtain ⟨u, h⟩ := KV.is_s hb; cases h
    · obtain ⟨t, rfl⟩ := KV.is_s ha; obtain ⟨u, h⟩ := KV.is_i hb; cases h
    · exact congrArg KV.s (Value.isStrOf_inj v _ _ ha hb)
  byValue := fun k v h => by
    cases k
    · obtain ⟨t, rfl⟩ := KV.is_i h; rfl
    · obtain ⟨t, rfl⟩ := KV.is_s h; rfl
  pyHash := fun {A E s k v Q} hv h => by
    cases k
    · obtain ⟨t, rfl⟩ := KV.is_i hv; exact wpAny_pyHash_int h
    · obtain ⟨t, rfl⟩ := KV.is_s hv; exact wpAny_pyHash_str h
  eqBool := fun {A E s a b u v Q} hu hv h => by
    cases a <;> cases b
    · obtain ⟨t, rfl⟩ := KV.is_i hu; obtain ⟨t', rfl⟩ := KV.is_i hv
      refine wpAny_eqBool_int ?_
      rename_i x y
      have : (x == y) = decide (KV.i x = KV.i y) := by
        by_cases hxy : x = y <;> simp [hxy]
      rw [this]; exact h
    · obtain ⟨t, rfl⟩ := KV.is_i hu; obtain ⟨t', rfl⟩ := KV.is_s hv
      exact eqBool_is (by simpa using h)
    · obtain ⟨t, rfl⟩ := KV.is_s hu; obtain ⟨t', rfl⟩ := KV.is_i hv
      exact eqBool_si (by simpa using h)
    · obtain ⟨t, rfl⟩ := KV.is_s hu; obtain ⟨t', rfl⟩ := KV.is_s hv
      refine wpAny_eqBool_str ?_
      simpa using h
  «strs» := fun k x t v h => by
    cases k
    · obtain ⟨u, hu⟩ := KV.is_i h; cases hu
    · obtain ⟨u, hu⟩ := KV.is_s h; cases hu; cases v <;> rfl
theorem mk_int {prog : Program} {w : World} (n : Int) (t : Tok) : (mk prog w).is (.i n) (.int n t) = true := KV.is_int n t
theorem mk_str {prog : Program} {w : World} (x : Str) (t : Tok) : (mk prog w).is (.s x) (.str x t) = true := KV.is_str x t
theorem mk_is {prog : Program} {w : World} {k : KV} {v : Value} (h : KV.is k v = true) : (mk prog w).is k v = true := h
end -- SK
section -- SB
open PySem PySem.W PySem.Calls PyProof.Rows PyProof.V
set_option Elab.async false
def Nd (l : List (Addr × Obj)) : Prop := (l.map (·.1)).Nodup
theorem Nd.cons {x : Addr} {o : Obj} {l : List (Addr × Obj)} (h : AllLt x l) (n : Nd l) : Nd ((x, o) :: l) := by
  have key : ∀ l : List (Addr × Obj), AllLt x l → x ∉ l.map (·.1) := by
    intro l
    induction l with
    | nil => intro _ h; cases h
    | cons p r ih =>
      intro h hm
      rcases List.mem_cons.mp hm with e | e
      · exact absurd h.1 (by rw [e]; exact Nat.lt_irrefl _)
      · exact ih h.2 e
  exact List.nodup_cons.mpr ⟨key l h, n⟩
theorem ltAll {x : Addr} {l : List (Addr × Obj)} (h : AllLt x l) : ∀ q ∈ l, q.1 < x := by
  induction l with
  | nil => intro _ h; cases h
  | cons p r ih =>
    intro q hq
    rcases List.mem_cons.mp hq with rfl | hq
    · exact h.1
    · exact ih h.2 q hq
theorem Nd.consA {x : Addr} {o : Obj} {l : List (Addr × Obj)} (h : ∀ p ∈ l, p.1 < x) (n : Nd l) : Nd ((x, o) :: l) := Nd.cons (allLt_of h) n
theorem Nd.consS {x : Addr} {o : Obj} {l : List (Addr × Obj)} (h : AllLt x l) (n : Nd l) : Nd ((x + 1, o) :: l) := Nd.consA (fun q hq => Nat.lt_succ_of_lt (ltAll h q hq)) n
theorem Nd.tail {p : Addr × Obj} {l : List (Addr × Obj)} (n : Nd (p :: l)) : Nd l := (List.nodup_cons.mp n).2
theorem Nd.perm {l l' : List (Addr × Obj)} (h : l.Perm l') (n : Nd l) : Nd l' := (h.map _).nodup_iff.mp n
theorem Nd.right {l l' : List (Addr × Obj)} (n : Nd (l ++ l')) : Nd l' := by unfold Nd at *; rw [List.map_append] at n; exact (List.nodup_append.mp n).2.1
theorem Nd.left {l l' : List (Addr × Obj)} (n : Nd (l ++ l')) : Nd l := by unfold Nd at *; rw [List.map_append] at n; exact (List.nodup_append.mp n).1
theorem Nd.off {p q : Addr × Obj} {l l' : List (Addr × Obj)} (n : Nd (l ++ l')) (hp : p ∈ l) (hq : q ∈ l') : p.1 ≠ q.1 := by
  unfold Nd at n; rw [List.map_append] at n
  exact (List.nodup_append.mp n).2.2 _ (List.mem_map_of_mem hp) _ (List.mem_map_of_mem hq)
theorem Nd.head {p : Addr × Obj} {l : List (Addr × Obj)} (n : Nd (p :: l)) : ∀ q ∈ l, q.1 ≠ p.1 := fun q hq e => (List.nodup_cons.mp n).1 (List.mem_map.mpr ⟨q, hq, e⟩)
theorem Nd.addr {l l' : List (Addr × Obj)} (h : l.map (·.1) = l'.map (·.1)) (n : Nd l) : Nd l' := by unfold Nd at *; rw [← h]; exact n
theorem Nd.sub {l l' : List (Addr × Obj)} (h : l'.Sublist l) (n : Nd l) : Nd l' := List.Nodup.sublist (h.map _) n
theorem News.perm {h₀ h : Heap} {L : Addr} {l l' : List (Addr × Obj)} (p : l.Perm l') (N : News h₀ L h l) : News h₀ L h l' := fun q hq => N q (p.mem_iff.mpr hq)
theorem News.sub {h₀ h : Heap} {L : Addr} {l l' : List (Addr × Obj)} (p : ∀ q ∈ l', q ∈ l) (N : News h₀ L h l) : News h₀ L h l' := fun q hq => N q (p q hq)
/-- what a call of f does: from the ledger news to a value and a ledger that Post tells -/
def Calls (w : World) (f : Value) (args : List Value) (d u : Nat) (news : List (Addr × Obj)) (Post : Value → List (Addr × Obj) → Prop) : Prop :=
  ∀ (dp un : Nat) (gd : Option (List Code)) (cn : Str) (cs : Scope) (a : Addr) (ccd : Value) (cl : List (Str × Addr)) (outer : List Env) (A₀ : Around) (base h₀ : Heap) (L : Addr) (m : Str → Option Value) (s : Shared)
    (p : Program) (loose : List Str) (mean : ExcName → Option Value) (mg mb : Str → Option Value) (Q E : Value → Shared → Prop),
    Below A₀ base outer h₀ → Fr h₀ L s.heap m → (Mine.hd.heap_39 w.params).In h₀ → News h₀ L s.heap news → Top p loose mean mg mb h₀ → cs.kind = .function → dp + d < recursionLimit → un + u < cLine → Nd news →
    (∀ r news' h' tk', Fr h₀ L h' m → News h₀ L h' news' → Nd news' → Post r news' → Q r { s with heap := h', toks := tk' }) →
    wpAny (model PySem.Challenge.rw_sj0190_01.row.prog w) (ktrTop dp un gd cn cs L a ccd cl outer) (call f args) Q E s
theorem Calls.use {w : World} {f : Value} {args : List Value} {d u : Nat} {news : List (Addr × Obj)} {Post : Value → List (Addr × Obj) → Prop} (C : Calls w f args d u news Post)
    {dp un : Nat} {gd : Option (List Code)} {cn : Str} {cs : Scope} {a : Addr} {ccd : Value} {cl : List (Str × Addr)} {outer : List Env} {A₀ : Around} {base h₀ : Heap} {L : Addr} {m : Str → Option Value} {hp gs dr tk0 os}
    {p : Program} {loose : List Str} {mean : ExcName → Option Value} {mg mb : Str → Option Value} {Q E : Value → Shared → Prop}
    (B : Below A₀ base outer h₀) (F : Fr h₀ L hp m) (X : (Mine.hd.heap_39 w.params).In h₀) (N : News h₀ L hp news) (T : Top p loose mean mg mb h₀) (hk : cs.kind = .function) (hd : dp + d < recursionLimit) (hu : un + u < cLine) (n : Nd news)
    (ret : ∀ r news' h' tk', Fr h₀ L h' m → News h₀ L h' news' → Nd news' → Post r news' → Q r (Shared.mk h' gs dr tk' os)) :
    wpAny (model PySem.Challenge.rw_sj0190_01.row.prog w) (ktrTop dp un gd cn cs L a ccd cl outer) (call f args) Q E (Shared.mk hp gs dr tk0 os) :=
  C _ _ _ _ _ _ _ _ _ _ _ _ _ _ _ _ _ _ _ _ _ _ B F X N T hk hd hu n ret
theorem Calls.mono {w : World} {f : Value} {args : List Value} {d u : Nat} {news : List (Addr × Obj)} {Post Post' : Value → List (Addr × Obj) → Prop} (C : Calls w f args d u news Post)
    (h : ∀ r l, Post r l → Post' r l) : Calls w f args d u news Post' :=
  fun dp un gd cn cs a ccd cl outer A₀ base h₀ L m s p loose mean mg mb Q E B F X N T hk hd hu n ret => C dp un gd cn cs a ccd cl outer A₀ base h₀ L m s p loose mean mg mb Q E B F X N T hk hd hu n fun r l h' tk F' N' n' hp => ret r l h' tk F' N' n' (h r l hp)
theorem Calls.perm {w : World} {f : Value} {args : List Value} {d u : Nat} {news news2 : List (Addr × Obj)} {Post : Value → List (Addr × Obj) → Prop} (h : news.Perm news2) (C : Calls w f args d u news Post) : Calls w f args d u news2 Post :=
  fun dp un gd cn cs a ccd cl outer A₀ base h₀ L m s p loose mean mg mb Q E B F X N T hk hd hu n ret => C dp un gd cn cs a ccd cl outer A₀ base h₀ L m s p loose mean mg mb Q E B F X (News.perm h.symm N) T hk hd hu (Nd.perm h.symm n) ret
/-- the walk stops here -/
def Held (P : Prop) : Prop := P
theorem held {P : Prop} (h : Held P) : P := h
def KV.kind : KV → Str
  | .i _ => "INTEGER"
  | .s _ => "STRING"
def KV.mark (k : KV) : List KV := [.s k.kind, k]
theorem KV.mark_inj {a b : KV} (h : a.mark = b.mark) : a = b := by
  unfold KV.mark at h
  injection h with _ h; injection h
theorem fill : ∀ w : World, (PySem.Challenge.rw_sj0190_01.row.prog, Mine.hd.heap_39 w.params) = (PySem.Challenge.rw_sj0190_01.row.prog, Mine.hd.heap_39 w.params) := by
  k_fill
  intro _; rfl
theorem topoff : True := by
  w_top off
  trivial
end -- SB
section -- ST
open PySem PySem.W PySem.Calls PyProof.Rows PyProof.V
set_option Elab.async false
/-- the tokens of a table's own dict -/
structure TX where
  (k1 k2 k3 k4 k5 k6 t1 t3 : Tok)
  num : Value
def tabDict (w : World) (x : TX) (e p r : Addr) : Obj := dictOf
  [⟨PyData.keyHash w.params (Str.ofString "word"), .str (Str.ofString "word") x.k1, .str (Str.ofString "TABLE") x.t1⟩,
   ⟨PyData.keyHash w.params (Str.ofString "number"), .str (Str.ofString "number") x.k2, x.num⟩,
   ⟨PyData.keyHash w.params (Str.ofString "mark"), .str (Str.ofString "mark") x.k3, .int 0 x.t3⟩,
   ⟨PyData.keyHash w.params (Str.ofString "entries"), .str (Str.ofString "entries") x.k4, .ref e⟩,
   ⟨PyData.keyHash w.params (Str.ofString "places"), .str (Str.ofString "places") x.k5, .ref p⟩,
   ⟨PyData.keyHash w.params (Str.ofString "rows"), .str (Str.ofString "rows") x.k6, .ref r⟩] 6
/-- a row of a table: the tuple that is its key in the dicts, its pair -/
structure TR where
  mark : Addr
  mo : Obj
  pair : Addr
  kv : Value
  vv : Value
  ep : Nat
  pt : Tok
  key : KV
  val : PyData
def TR.po (r : TR) : Obj := listOf #[r.kv, r.vv] r.ep
abbrev MK (w : World) := mk PySem.Challenge.rw_sj0190_01.row.prog w
structure TR.Ok (w : World) (r : TR) : Prop where
  mark : TupKeyObj (MK w) r.key.mark r.mo
  kv : KV.is r.key r.kv = true
  vv : Flat r.vv r.val
def xsE (rows : List TR) : List (List KV × Addr × Value) := rows.map fun r => (r.key.mark, r.mark, .ref r.pair)
def xsP (rows : List TR) : List (List KV × Addr × Value) := rows.zipIdx.map fun r => (r.1.key.mark, r.1.mark, .int r.2 r.1.pt)
/-- the object is a dict with these entries, keyed by tuples -/
def DH (w : World) (o : Obj) (xs : List (List KV × Addr × Value)) : Prop := o.ExactDict ∧ ∃ es ep, o.data = .dict es ep ∧ es.toList = xs.map (entryOfKey (tupleKind (MK w)))
structure TB where
  (t dt e p r : Addr)
  x : TX
  (oe op : Obj)
  re : Nat
  rows : List TR
def TB.refs (T : TB) : List Value := T.rows.map fun r => .ref r.pair
def TB.pairs (T : TB) : List (Addr × Obj) := T.rows.map fun r => (r.pair, r.po)
def TB.marks (T : TB) : List (Addr × Obj) := T.rows.map fun r => (r.mark, r.mo)
def TB.mut (T : TB) : List (Addr × Obj) := (T.e, T.oe) :: (T.p, T.op) :: (T.r, listOf T.refs.toArray T.re) :: T.pairs
def TB.imm (w : World) (T : TB) : List (Addr × Obj) := (T.t, instObj 241 T.dt) :: (T.dt, tabDict w T.x T.e T.p T.r) :: T.marks
theorem TB.mut_app (T : TB) (R : List (Addr × Obj)) : T.mut ++ R = (T.e, T.oe) :: (T.p, T.op) :: (T.r, listOf T.refs.toArray T.re) :: (T.pairs ++ R) := rfl
def TB.tab (T : TB) : List (KV × PyData) := T.rows.map fun r => (r.key, r.val)
structure TB.Ok (w : World) (T : TB) : Prop where
  le : (T.e == sysModules) = false
  lp : (T.p == sysModules) = false
  de : DH w T.oe (xsE T.rows)
  dp : DH w T.op (xsP T.rows)
  nd : (T.rows.map (·.key)).Nodup
  rows : ∀ r ∈ T.rows, r.Ok w
theorem nodup_map_of {α β γ : Type} {f : α → β} {g : β → γ} (hg : ∀ a b, g a = g b → a = b) {l : List α} (h : (l.map f).Nodup) : (l.map fun x => g (f x)).Nodup := by
  induction l with
  | nil => exact .nil
  | cons a r ih =>
    rw [List.map_cons, List.nodup_cons] at *
    refine ⟨fun hm => ?_, ih h.2⟩
    obtain ⟨b, hb, e⟩ := List.mem_map.mp hm
    exact h.1 (List.mem_map.mpr ⟨b, hb, hg _ _ e⟩)
theorem xsE_nodup {rows : List TR} (h : (rows.map (·.key)).Nodup) : ((xsE rows).map (·.1)).Nodup := by
  unfold xsE; rw [List.map_map]
  exact nodup_map_of (f := fun r : TR => r.key) (fun _ _ => KV.mark_inj) h
theorem xsP_keys (rows : List TR) : (xsP rows).map (·.1) = rows.map fun r => r.key.mark := by
  unfold xsP; rw [List.map_map]
  have : ∀ (n : Nat), (rows.zipIdx n).map ((fun x : List KV × Addr × Value => x.1) ∘ fun r : TR × Nat => (r.1.key.mark, r.1.mark, Value.int r.2 r.1.pt)) = rows.map fun r => r.key.mark := by
    induction rows with
    | nil => intro n; rfl
    | cons a r ih => intro n; rw [List.zipIdx_cons, List.map_cons, List.map_cons, ih]; rfl
  exact this 0
theorem xsP_nodup {rows : List TR} (h : (rows.map (·.key)).Nodup) : ((xsP rows).map (·.1)).Nodup := by
  rw [xsP_keys]
  exact nodup_map_of (f := fun r : TR => r.key) (fun _ _ => KV.mark_inj) h
theorem xsE_get {rows : List TR} {i : Nat} {r : TR} (h : rows[i]? = some r) : (xsE rows)[i]? = some (r.key.mark, r.mark, .ref r.pair) := by
  unfold xsE; rw [List.getElem?_map, h]; rfl
theorem xsP_get {rows : List TR} {i : Nat} {r : TR} (h : rows[i]? = some r) : (xsP rows)[i]? = some (r.key.mark, r.mark, .int i r.pt) := by
  unfold xsP; rw [List.getElem?_map, List.getElem?_zipIdx, h]; simp
theorem xsE_at {rows : List TR} (n : (rows.map (·.key)).Nodup) {i : Nat} {r : TR} (h : rows[i]? = some r) : atKey (xsE rows) r.key.mark = some (r.mark, .ref r.pair) := atKey_of_get (xsE_nodup n) (xsE_get h)
theorem xsP_at {rows : List TR} (n : (rows.map (·.key)).Nodup) {i : Nat} {r : TR} (h : rows[i]? = some r) : atKey (xsP rows) r.key.mark = some (r.mark, .int i r.pt) := atKey_of_get (xsP_nodup n) (xsP_get h)
theorem xsE_none {rows : List TR} {k : KV} (h : k ∉ rows.map (·.key)) : atKey (xsE rows) k.mark = none := atKey_none_of_get fun j p hp => by
  unfold xsE at hp; rw [List.getElem?_map] at hp
  obtain ⟨r, hr, e⟩ := Option.map_eq_some_iff.mp hp
  exact h (List.mem_map.mpr ⟨r, List.mem_of_getElem? hr, KV.mark_inj (congrArg (·.1) e)⟩)
theorem xsP_none {rows : List TR} {k : KV} (h : k ∉ rows.map (·.key)) : atKey (xsP rows) k.mark = none := atKey_none_of_get fun j p hp => by
  have : k.mark ∈ (xsP rows).map (·.1) := List.mem_map.mpr ⟨_, List.mem_of_getElem? hp, rfl⟩
  rw [xsP_keys] at this
  obtain ⟨r, hr, e⟩ := List.mem_map.mp this
  exact h (List.mem_map.mpr ⟨r, hr, KV.mark_inj e⟩)
theorem xsE_snoc (rows : List TR) (r : TR) : xsE (rows ++ [r]) = xsE rows ++ [(r.key.mark, r.mark, .ref r.pair)] := by simp [xsE]
theorem xsP_snoc (rows : List TR) (r : TR) : xsP (rows ++ [r]) = xsP rows ++ [(r.key.mark, r.mark, .int rows.length r.pt)] := by simp [xsP, List.zipIdx_append]
section
variable {w : World} {A : Around} {E : Value → Shared → Prop} {s : Shared} {h₀ : Heap} {L : Addr} {m : Str → Option Value} {news W : List (Addr × Obj)} {d a : Addr} {o ob : Obj} {xs : List (List KV × Addr × Value)} {ks : List KV}
/-- the keys of the entries stand in the ledger -/
def KeysIn (w : World) (W : List (Addr × Obj)) (xs : List (List KV × Addr × Value)) : Prop := ∀ x ∈ xs, ∃ ok, (x.2.1, ok) ∈ W ∧ TupKeyObj (MK w) x.1 ok
theorem KeysIn.mono {W W' : List (Addr × Obj)} (k : KeysIn w W xs) (h : ∀ q ∈ W, q ∈ W') : KeysIn w W' xs := fun x hx => let ⟨ok, a, b⟩ := k x hx; ⟨ok, h _ a, b⟩
theorem KeysIn.snoc {v : Value} (K : KeysIn w W xs) (hW : ∀ q ∈ W, q ∈ news) (ha : (a, ob) ∈ news) (tk : TupKeyObj (MK w) ks ob) : KeysIn w news (xs ++ [(ks, a, v)]) := fun x hx => by
  rcases List.mem_append.mp hx with h | h
  · exact K.mono hW x h
  · obtain rfl := List.mem_singleton.mp h
    exact ⟨ob, ha, tk⟩
theorem atKey_snoc {v : Value} (h : atKey xs ks = none) : atKey (xs ++ [(ks, a, v)]) ks = some (a, v) := by
  unfold atKey at *
  rw [List.find?_append]
  cases hq : xs.find? (fun x => decide (x.1 = ks)) with
  | some x => rw [hq] at h; cases h
  | none => simp
theorem nodup_snoc {v : Value} (h : atKey xs ks = none) (n : (xs.map (·.1)).Nodup) : ((xs ++ [(ks, a, v)]).map (·.1)).Nodup := by
  rw [List.map_append, List.nodup_append]
  refine ⟨n, by simp, fun x hx y hy => ?_⟩
  rintro rfl
  have hy' : x = ks := by simpa using hy
  obtain ⟨z, hz, e⟩ := List.mem_map.mp hx
  unfold atKey at h
  have := List.find?_eq_none.mp (Option.map_eq_none_iff.mp h) z hz
  simp [e, hy'] at this
theorem DH.nil {prog : Program} {K' : Type} [DecidableEq K'] {knd' : KeyKind prog w K'} (hd : o.IsDictOf knd' []) : DH w o [] := by
  obtain ⟨es, ep, hc, hdat, _, hp, _⟩ := hd
  have he : es.toList = [] := List.length_eq_zero_iff.mp hp.length
  exact ⟨hc, es, ep, hdat, he⟩
theorem DH.at (N : News h₀ L s.heap news) (hd : (d, o) ∈ news) (D : DH w o xs) (K : KeysIn w W xs) (hW : ∀ q ∈ W, q ∈ news) (nd : (xs.map (·.1)).Nodup) : s.heap.DictOfH (tupleKind (MK w)) d xs := by
  obtain ⟨hc, es, ep, h1, h2⟩ := D
  exact ⟨o, es, ep, N.get hd, hc, h1, h2, fun x hx => let ⟨ok, a, b⟩ := K x hx; b.key (N.get (hW _ a)), nd⟩
theorem notin_H {Q : Value → Shared → Prop} {b : Bool} (hu : A.units + 1 < cLine) (N : News h₀ L s.heap news) (hd : (d, o) ∈ news) (D : DH w o xs) (K : KeysIn w W xs) (hW : ∀ q ∈ W, q ∈ news) (nd : (xs.map (·.1)).Nodup)
    (lo : (d == sysModules) = false) (ha : (a, ob) ∈ news) (tk : TupKeyObj (MK w) ks ob) (hb : (atKey xs ks).isSome = b) (h : ∀ tk', Q (.bool (!b)) { s with toks := tk' }) :
    wpAny (model PySem.Challenge.rw_sj0190_01.row.prog w) A (compareOp .NotIn (.ref a) (.ref d)) Q E s :=
  wpAny_notIn_heap (knd := tupleKind (MK w)) (tupleKind_room_in1 hu) (tk.key (N.get ha)) lo (DH.at N hd D K hW nd) (by rw [hb]; exact h _)
theorem item_H {Q : Value → Shared → Prop} {pr : Addr × Value} {value slice : Expr} (hu : A.units + 1 < cLine) (N : News h₀ L s.heap news) (hd : (d, o) ∈ news) (D : DH w o xs) (K : KeysIn w W xs) (hW : ∀ q ∈ W, q ∈ news) (nd : (xs.map (·.1)).Nodup)
    (ha : (a, ob) ∈ news) (tk : TupKeyObj (MK w) ks ob) (hb : atKey xs ks = some pr) (h : ∀ tk', Q pr.2 { s with toks := tk' })
    (hs : subscripted slice false (.ref d) (.ref a) = operate [.ref d, .ref a] (getItem (.ref d) (.ref a)) := by with_unfolding_all rfl) (hg : ∀ r, letTemporaryGo value (.ref d) r = pure () := by intro _; with_unfolding_all rfl) :
    wpAny (model PySem.Challenge.rw_sj0190_01.row.prog w) A (subscriptTail value slice (.ref d) (.ref a)) Q E s :=
  have hD := DH.at N hd D K hW nd
  subscriptTail_builtin hD.typeIs slot_dict_getitem.lookup (wpAny_getItem_heap (knd := tupleKind (MK w)) (tupleKind_room_in1 hu) (tk.key (N.get ha)) hD hb (h _)) hs hg
theorem set_H {Q : Unit → Shared → Prop} {v : Value} {g : Obj → List (Addr × Obj)} (hu : A.units + 1 < cLine) (F : Fr h₀ L s.heap m) (N : News h₀ L s.heap news) (U : UpdF d o news g) (D : DH w o xs) (K : KeysIn w W xs) (hW : ∀ q ∈ W, q ∈ news) (nd : (xs.map (·.1)).Nodup)
    (ha : (a, ob) ∈ news) (tk : TupKeyObj (MK w) ks ob) (hb : atKey xs ks = none) (hsz : xs.length ≤ 1000)
    (h : ∀ h' o' tk', Fr h₀ L h' m → News h₀ L h' (g o') → DH w o' (xs ++ [(ks, a, v)]) → Q () { s with heap := h', toks := tk' }) :
    wpAny (model PySem.Challenge.rw_sj0190_01.row.prog w) A (setItem (.ref d) (.ref a) v) Q E s := by
  obtain ⟨pre, post, rfl, hg, p1, p2⟩ := U.split
  have hd : (d, o) ∈ pre ++ (d, o) :: post := List.mem_append.mpr (.inr (.head _))
  have z := N _ hd
  refine wpAny_setItem_heap (hsz := by rw [sizeLine_eq]; omega) (knd := tupleKind (MK w)) (tupleKind_room_in1 hu) (tk.key (N.get ha)) (DH.at N hd D K hW nd) fun h' hm' hs => ?_
  rw [storedH_new hb] at hm'
  obtain ⟨o', es', ep', ho', hc', hd', he', _, _⟩ := hm'
  exact h h' o' _ (F.change hs z.2.1 z.2.2) (hg o' ▸ news_set N p1 p2 hs ho') ⟨hc', es', ep', hd', he'⟩
theorem len_L {prog : Program} {its : Array Value} {n : Nat} {Q : Value → Shared → Prop} (N : News h₀ L s.heap news) (hm : (d, listOf its n) ∈ news) (hz : its.size ≤ 1000) (h : ∀ t tk', Q (.int its.size t) { s with toks := tk' }) :
    wpAny (model prog w) A (call (.builtin "len") [.ref d]) Q E s := len_list ⟨_, N.get hm, rfl, _, rfl⟩ (by omega) (h _ _)
theorem item_L {prog : Program} {its : Array Value} {n i : Nat} {u : Tok} {x : Value} {value slice : Expr} {Q : Value → Shared → Prop} (N : News h₀ L s.heap news) (hm : (d, listOf its n) ∈ news) (hx : its[i]? = some x) (hz : i < 1000) (h : Q x s)
    (hs : subscripted slice false (.ref d) (.int (i : Nat) u) = operate [.ref d, .int (i : Nat) u] (getItem (.ref d) (.int (i : Nat) u)) := by with_unfolding_all rfl) (hg : ∀ r, letTemporaryGo value (.ref d) r = pure () := by intro _; with_unfolding_all rfl) :
    wpAny (model prog w) A (subscriptTail value slice (.ref d) (.int (i : Nat) u)) Q E s := item_list ⟨_, N.get hm, rfl, _, rfl⟩ (by omega) (by omega) (by simpa using hx) h hs hg
theorem item_C {prog : Program} {its : Array Value} {n : Nat} {k : Int} {u : Tok} {x : Value} {value slice : Expr} {Q : Value → Shared → Prop} (N : News h₀ L s.heap news) (hm : (d, listOf its n) ∈ news) (h0 : 0 ≤ k) (h1 : k < 2 ^ 63) (hx : its.toList[k.toNat]? = some x) (h : Q x s)
    (hs : subscripted slice false (.ref d) (.int k u) = operate [.ref d, .int k u] (getItem (.ref d) (.int k u)) := by with_unfolding_all rfl) (hg : ∀ r, letTemporaryGo value (.ref d) r = pure () := by intro _; with_unfolding_all rfl) :
    wpAny (model prog w) A (subscriptTail value slice (.ref d) (.int k u)) Q E s := item_list ⟨_, N.get hm, rfl, _, rfl⟩ h0 h1 (by rw [← Array.getElem?_toList]; exact hx) h hs hg
end
end -- ST
open PySem PySem.W PySem.Calls PyProof.Rows PyProof.V PyProof.Rows.LCg PyProof.Rows.LCt PySem.SeqAt
local macro_rules | `(tactic| k_room) => `(tactic| ((try simp only [depth_under_make, depth_under_kw, depth_in1, depth_deeper, depth_caller]); (try dsimp only [ktrTop]); omega))
local macro_rules | `(tactic| k_units) => `(tactic| ((try simp only [units_in1, units_deeper, Around.mark_units, units_caller, units_under_make]); (try dsimp only [ktrTop]); omega))
local macro_rules | `(tactic| k_enter) => `(tactic| (refine' code_defC ?k1 ?k2 ?k3 ?k4 ?k5 ?kA ?kF ?kK ?k6 ?k7 ?k8 ?k9 ?kB ?kD ?_ ?c2 ?c3 ?c4; (case kA | kF => exact rfl); (case kK => assumption); (case k1 | k2 | k3 | k4 | k5 => k_asm); (case k6 | k7 => k_is); (case k8 => k_room); (case k9 => first | exact BindsTo.of_eq rfl); (case kB => exact rfl); (case kD => decide +kernel); (case c2 | c3 | c4 => exact rfl); k_whole; intro g' L' h' tk' cells' FG' F' N' Y' B' X' T' l1; (try k_lt l1); k_cells Y'; (try simp only [List.cons_append, List.nil_append] at N'); (try dsimp only); (try k_lift B'); (try k_fold)))
local macro_rules | `(tactic| k_enter) => `(tactic| ktr_enter)
section -- C1
open PySem PySem.W PySem.Calls PyProof.Rows PyProof.V
set_option Elab.async false
set_option maxRecDepth 100000
set_option maxHeartbeats 8000000
set_option pp.deepTerms false
set_option pp.deepTerms.threshold 6
set_option pp.maxSteps 6000
theorem key_spec (w : World) (k : KV) (kv : Value) (hkv : KV.is k kv = true) (news : List (Addr × Obj)) :
    Calls w (.ref 205) [kv] 4 60 news (fun r news' => ∃ a ob, r = .ref a ∧ news' = (a, ob) :: news ∧ (∀ q ∈ news, q.1 < a) ∧ TupKeyObj (mk PySem.Challenge.rw_sj0190_01.row.prog w) k.mark ob) := by
  intro dp un gd cn cs a ccd cl outer A₀ base h₀ L m s p loose mean mg mb Q E B F X N T hk hd hu hn hret
  cases k with
  | i n =>
    obtain ⟨t, rfl⟩ := KV.is_i hkv
    refine wpAny_call ?_
    k_dflt ktr_enter
    k_steps
    (rename _ ∧ AllLt _ _ => l1)
    (rename News _ _ _ _ => NN)
    exact hret _ ((_, _) :: news) _ _ (by assumption) (News.sub (fun q hq => by rcases List.mem_cons.mp hq with rfl | hq; exact .head _; exact .tail _ (.tail _ hq)) NN) (Nd.cons l1.2 hn) ⟨_, _, rfl, rfl, ltAll l1.2, TupKeyObj.made (.cons (mk_str _ _) (.cons (mk_int _ _) .nil))⟩
  | s x =>
    obtain ⟨t, rfl⟩ := KV.is_s hkv
    refine wpAny_call ?_
    k_dflt ktr_enter
    k_steps
    (rename _ ∧ AllLt _ _ => l1)
    (rename News _ _ _ _ => NN)
    exact hret _ ((_, _) :: news) _ _ (by assumption) (News.sub (fun q hq => by rcases List.mem_cons.mp hq with rfl | hq; exact .head _; exact .tail _ (.tail _ hq)) NN) (Nd.cons l1.2 hn) ⟨_, _, rfl, rfl, ltAll l1.2, TupKeyObj.made (.cons (mk_str _ _) (.cons (mk_str _ _) .nil))⟩
end -- C1
section -- C2
open PySem PySem.W PySem.Calls PyProof.Rows PyProof.V
set_option Elab.async false
set_option maxRecDepth 100000
set_option maxHeartbeats 8000000
set_option pp.deepTerms false
set_option pp.deepTerms.threshold 14
set_option pp.maxSteps 60000
theorem table_end {w : World} {h₀ h' : Heap} {L : Addr} {news : List (Addr × Obj)} {e p r t dt : Addr} {oe op : Obj} {k1 k2 k3 k4 k5 k6 t1 t3 : Tok} {num : Value} {K' : Type} [DecidableEq K'] {prog : Program} {kd kd' : KeyKind prog w K'} (hn : Nd news)
    (N : News h₀ L h' ((r, listOf #[] 0) :: (p, op) :: (e, oe) :: (t, instObj 241 dt) :: (dt, dictOf
      [⟨PyData.keyHash w.params (Str.ofString "word"), .str (Str.ofString "word") k1, .str (Str.ofString "TABLE") t1⟩,
       ⟨PyData.keyHash w.params (Str.ofString "number"), .str (Str.ofString "number") k2, num⟩,
       ⟨PyData.keyHash w.params (Str.ofString "mark"), .str (Str.ofString "mark") k3, .int 0 t3⟩,
       ⟨PyData.keyHash w.params (Str.ofString "entries"), .str (Str.ofString "entries") k4, .ref e⟩,
       ⟨PyData.keyHash w.params (Str.ofString "places"), .str (Str.ofString "places") k5, .ref p⟩,
       ⟨PyData.keyHash w.params (Str.ofString "rows"), .str (Str.ofString "rows") k6, .ref r⟩] 6) :: news))
    (le : (e == sysModules) = false) (lp : (p == sysModules) = false) (de : oe.IsDictOf kd []) (dp : op.IsDictOf kd' [])
    (l1 : ∀ q ∈ news, q.1 < dt) (l2 : dt < t) (l3 : t < e ∧ dt < e ∧ AllLt e news) (l4 : e < p ∧ t < p ∧ dt < p ∧ AllLt p news) (l5 : p < r ∧ e < r ∧ t < r ∧ dt < r ∧ AllLt r news) :
    ∃ T : TB, T.Ok w ∧ T.rows = [] ∧ T.t = t ∧ News h₀ L h' (T.mut ++ (T.imm w ++ news)) ∧ Nd (T.mut ++ (T.imm w ++ news)) := by
  have ltN : ∀ {a b : Addr}, a < b → a < b := fun h => h
  have n1 : Nd ((dt, tabDict w ⟨k1, k2, k3, k4, k5, k6, t1, t3, num⟩ e p r) :: news) := Nd.consA l1 hn
  have n2 : Nd ((t, instObj 241 dt) :: (dt, tabDict w ⟨k1, k2, k3, k4, k5, k6, t1, t3, num⟩ e p r) :: news) := Nd.cons ⟨l2, allLt_of fun q hq => Nat.lt_trans (l1 q hq) l2⟩ n1
  have n3 : Nd ((e, oe) :: (t, instObj 241 dt) :: (dt, tabDict w ⟨k1, k2, k3, k4, k5, k6, t1, t3, num⟩ e p r) :: news) := Nd.cons l3 n2
  have n4 : Nd ((p, op) :: (e, oe) :: (t, instObj 241 dt) :: (dt, tabDict w ⟨k1, k2, k3, k4, k5, k6, t1, t3, num⟩ e p r) :: news) := Nd.cons l4 n3
  have n5 : Nd ((r, listOf #[] 0) :: (p, op) :: (e, oe) :: (t, instObj 241 dt) :: (dt, tabDict w ⟨k1, k2, k3, k4, k5, k6, t1, t3, num⟩ e p r) :: news) := Nd.cons l5 n4
  have pm : ((r, listOf #[] 0) :: (p, op) :: (e, oe) :: (t, instObj 241 dt) :: (dt, tabDict w ⟨k1, k2, k3, k4, k5, k6, t1, t3, num⟩ e p r) :: news).Perm
      ((e, oe) :: (p, op) :: (r, listOf #[] 0) :: (t, instObj 241 dt) :: (dt, tabDict w ⟨k1, k2, k3, k4, k5, k6, t1, t3, num⟩ e p r) :: news) :=
    ((List.Perm.cons _ (List.Perm.swap ..)).trans (List.Perm.swap ..)).trans (List.Perm.cons _ (List.Perm.swap ..))
  exact ⟨⟨t, dt, e, p, r, ⟨k1, k2, k3, k4, k5, k6, t1, t3, num⟩, oe, op, 0, []⟩, ⟨le, lp, DH.nil de, DH.nil dp, .nil, fun _ h => nomatch h⟩, rfl, rfl, News.perm pm N, Nd.perm pm n5⟩
theorem table_spec (w : World) (n : Int) (tk : Tok) (news : List (Addr × Obj)) :
    Calls w (.ref 241) [.int n tk] 10 100 news (fun r news' => ∃ T : TB, T.Ok w ∧ T.rows = [] ∧ r = .ref T.t ∧ news' = T.mut ++ (T.imm w ++ news)) := by
  intro dp un gd cn cs a ccd cl outer A₀ base h₀ L m s p loose mean mg mb Q E B F X N T hk hd hu hn hret
  k_steps
  obtain ⟨T, a1, a2, a3, a4, a5⟩ := table_end hn (by assumption) (by assumption) (by assumption) (by assumption) (by assumption) (by assumption) (by assumption) (by assumption) (by assumption) (by assumption)
  rw [← a3]
  exact hret _ _ _ _ (by assumption) a4 a5 ⟨T, a1, a2, rfl, rfl⟩
end -- C2
local macro_rules | `(tactic| k_mem) => `(tactic| assumption)
local macro_rules | `(tactic| k_all) => `(tactic| assumption)
local macro_rules | `(tactic| walk_at "call ref") => `(tactic| (k_here; (with_reducible show wpAny _ _ (call (Value.ref 205) [_]) _ _ _); k_dflt ( refine' Calls.use (key_spec _ ?k _ ?hkv _) ?B ?F ?X ?N ?T ?hk ?hd ?hu ?hn ?_; (case hkv | B | F | X | N | T => k_asm); (case hk => first | rfl | k_asm); (case hd => k_room); (case hu => k_units); (case hn => k_asm); k_whole; intro r' news' h' tk' F' N' hn' hp'; obtain ⟨a', ob', e1', e2', l1, t1'⟩ := hp'; subst e1' e2'; (try k_lt l1))))
local macro_rules | `(tactic| walk_at "subscriptTail") => `(tactic| (k_here; (with_reducible show wpAny _ _ (subscriptTail _ _ (Value.ref _) (Value.ref _)) _ _ _); k_dflt ( refine' item_H ?hu ?N ?hd ?D ?K ?hW ?nd ?ha ?tk ?hb ?_; (case hu => k_units); (case N => k_asm); (case hd => k_mem); (case D => k_asm); (case ha => k_mem); (case tk => k_asm); (first | ((case K => k_asm); (case hW => (intro q hq; k_ownIn))) | ((case hW => exact fun _ hq => hq); (case K => exact KeysIn.snoc (by k_asm) (by (intro q hq; k_ownIn)) (by k_mem) (by k_asm)))); (case nd => first | k_asm | exact nodup_snoc (by k_asm) (by k_asm)); (case hb => first | k_asm | exact atKey_snoc (by k_asm)); k_whole; intro tk'; dsimp only)))
section -- C3
open PySem PySem.W PySem.Calls PyProof.Rows PyProof.V
set_option Elab.async false
set_option maxRecDepth 100000
set_option maxHeartbeats 8000000
set_option pp.deepTerms false
set_option pp.deepTerms.threshold 14
set_option pp.maxSteps 60000
local macro_rules | `(tactic| walk_at "compareOp NotIn") => `(tactic| (k_here; (with_reducible show wpAny _ _ (compareOp CmpOp.NotIn (Value.ref _) (Value.ref _)) _ _ _); k_dflt ( refine' notin_H ?hu ?N ?hd ?D ?K ?hW ?nd ?lo ?ha ?tk ?hb ?_; (case hu => k_units); (case N => k_asm); (case hd => k_mem); (case D | K => k_asm); (case hW => (intro q hq; k_ownIn)); (case nd | lo => k_asm); (case ha => k_mem); (case tk | hb => k_asm); k_whole; intro tk'; dsimp only [Bool.not_true, Bool.not_false])))
local macro_rules | `(tactic| walk_at "setItem ref ref") => `(tactic| (k_here; k_dflt ( refine' set_H ?hu ?F ?N ?U ?D ?K ?hW ?nd ?ha ?tk ?hb ?hz ?_; (case hu => k_units); (case F | N => k_asm); (case U => k_updF); (case D | K => k_asm); (case hW => (intro q hq; k_ownIn)); (case nd => k_asm); (case ha => k_mem); (case tk | hb | hz => k_asm); k_whole; intro h' o' tk' F' N' D'; (try dsimp only at N'); (try k_sweep))))
local macro_rules | `(tactic| walk_at "call builtin:len") => `(tactic| (k_here; (with_reducible show wpAny _ _ (call (Value.builtin "len") [Value.ref _]) _ _ _); k_dflt ( refine' len_L ?N ?hm ?hz ?_; (case N => k_asm); (case hm => k_mem); (case hz => k_asm); k_whole; intro t' tk')))
theorem perm1 {α : Type} (A B C D E : α) (P R : List α) : (A :: B :: C :: D :: E :: (P ++ R)).Perm (C :: D :: E :: ((P ++ [A]) ++ (B :: R))) := by
  simp only [List.append_assoc, List.cons_append, List.nil_append]
  exact permF [[A], [B], [C], [D], [E], P] R (a := [0, 1, 2, 3, 4, 5]) (b := [2, 3, 4, 5, 0, 1]) (by decide)
def touch (t : List (KV × PyData)) (k : KV) : List (KV × PyData) := if k ∈ t.map (·.1) then t else t ++ [(k, .str (Str.ofString ""))]
/-- what a call of table_entry leaves -/
def EntryPost (w : World) (T : TB) (k : KV) (R : List (Addr × Obj)) (r : Value) (news' : List (Addr × Obj)) : Prop :=
  ∃ (T' : TB) (X : List (Addr × Obj)) (row : TR) (i : Nat), T'.Ok w ∧ T'.t = T.t ∧ news' = T'.mut ++ (X ++ R) ∧ (∀ q ∈ T'.imm w, q ∈ X ++ T.imm w) ∧ T'.rows[i]? = some row ∧ row.key = k ∧ r = .ref row.pair ∧ T'.tab = touch T.tab k
theorem entry_end {w : World} {h₀ h' : Heap} {L : Addr} {T : TB} {R : List (Addr × Obj)} {k : KV} {kv : Value} {l a : Addr} {ob oe op : Obj} {t0 t1 : Tok} (hT : T.Ok w) (hR : ∀ q ∈ T.imm w, q ∈ R) (hnew : k ∉ T.rows.map (·.key)) (hkv : KV.is k kv = true)
    (hn : Nd ((T.e, T.oe) :: (T.p, T.op) :: (T.r, listOf T.refs.toArray T.re) :: (T.pairs ++ R)))
    (N : News h₀ L h' ((l, listOf #[kv, .str (Str.ofString "") t0] 0) :: (a, ob) :: (T.e, oe) :: (T.p, op) :: (T.r, listOf (T.refs ++ [Value.ref l]).toArray (T.re + 1)) :: (T.pairs ++ R)))
    (la : T.e < a ∧ T.p < a ∧ T.r < a ∧ AllLt a (T.pairs ++ R)) (ll : a < l ∧ T.e < l ∧ T.p < l ∧ T.r < l ∧ AllLt l (T.pairs ++ R)) (tk : TupKeyObj (MK w) k.mark ob)
    (dE : DH w oe (xsE T.rows ++ [(k.mark, a, .ref l)])) (dP : DH w op (xsP T.rows ++ [(k.mark, a, .int (T.refs.toArray.size : Nat) t1)])) :
    ∃ news', News h₀ L h' news' ∧ Nd news' ∧ EntryPost w T k R (.ref l) news' := by
  have hn' : Nd ((T.e, oe) :: (T.p, op) :: (T.r, listOf (T.refs ++ [Value.ref l]).toArray (T.re + 1)) :: (T.pairs ++ R)) := hn.addr rfl
  have hn1 : Nd ((a, ob) :: (T.e, oe) :: (T.p, op) :: (T.r, listOf (T.refs ++ [Value.ref l]).toArray (T.re + 1)) :: (T.pairs ++ R)) := Nd.cons la hn'
  have hn2 : Nd ((l, listOf #[kv, .str (Str.ofString "") t0] 0) :: (a, ob) :: (T.e, oe) :: (T.p, op) :: (T.r, listOf (T.refs ++ [Value.ref l]).toArray (T.re + 1)) :: (T.pairs ++ R)) := Nd.cons ll hn1
  let row : TR := ⟨a, ob, l, kv, .str (Str.ofString "") t0, 0, t1, k, .str (Str.ofString "")⟩
  let T' : TB := { T with oe := oe, op := op, re := T.re + 1, rows := T.rows ++ [row] }
  have e1 : T'.refs = T.refs ++ [.ref l] := by simp [TB.refs, T', row]
  have e2 : T'.pairs = T.pairs ++ [(l, listOf #[kv, .str (Str.ofString "") t0] 0)] := by simp [TB.pairs, T', row, TR.po]
  have e3 : T'.marks = T.marks ++ [(a, ob)] := by simp [TB.marks, T', row]
  have e4 : T.refs.toArray.size = T.rows.length := by simp [TB.refs]
  have em : T'.mut ++ ((a, ob) :: R) = (T.e, oe) :: (T.p, op) :: (T.r, listOf (T.refs ++ [Value.ref l]).toArray (T.re + 1)) :: ((T.pairs ++ [(l, listOf #[kv, .str (Str.ofString "") t0] 0)]) ++ ((a, ob) :: R)) := by
    rw [TB.mut_app, e1, e2]
  have pm : ((l, listOf #[kv, .str (Str.ofString "") t0] 0) :: (a, ob) :: (T.e, oe) :: (T.p, op) :: (T.r, listOf (T.refs ++ [Value.ref l]).toArray (T.re + 1)) :: (T.pairs ++ R)).Perm (T'.mut ++ ((a, ob) :: R)) := by
    rw [em]; exact perm1 _ _ _ _ _ _ _
  refine ⟨T'.mut ++ ((a, ob) :: R), News.perm pm N, Nd.perm pm hn2, T', [(a, ob)], row, T.rows.length, ⟨hT.le, hT.lp, ?_, ?_, ?_, ?_⟩, rfl, rfl, ?_, ?_, rfl, rfl, ?_⟩
  · show DH w oe (xsE (T.rows ++ [row])); rw [xsE_snoc]; exact dE
  · show DH w op (xsP (T.rows ++ [row])); rw [xsP_snoc, ← e4]; exact dP
  · show ((T.rows ++ [row]).map (·.key)).Nodup
    rw [List.map_append, List.nodup_append]
    refine ⟨hT.nd, by simp, fun x hx y hy => ?_⟩
    have : y = k := by simpa [row] using hy
    rintro rfl; exact hnew (this ▸ hx)
  · intro r hr
    rcases List.mem_append.mp hr with hr | hr
    · exact hT.rows r hr
    · obtain rfl := List.mem_singleton.mp hr
      exact ⟨tk, hkv, Flat.str _ _⟩
  · intro q hq
    unfold TB.imm at hq
    rw [e3] at hq
    rcases List.mem_cons.mp hq with rfl | hq
    · exact .tail _ (.head _)
    rcases List.mem_cons.mp hq with rfl | hq
    · exact .tail _ (.tail _ (.head _))
    rcases List.mem_append.mp hq with hq | hq
    · exact .tail _ (.tail _ (.tail _ hq))
    · obtain rfl := List.mem_singleton.mp hq; exact .head _
  · show (T.rows ++ [row])[T.rows.length]? = some row
    simp
  · have h1 : T.tab.map (·.1) = T.rows.map (·.key) := by simp [TB.tab]
    unfold touch
    rw [h1, if_neg hnew]
    simp [TB.tab, T', row]
theorem entry_there (w : World) (k : KV) (kv : Value) (hkv : KV.is k kv = true) (T : TB) (hT : T.Ok w) (R : List (Addr × Obj)) (hR : ∀ q ∈ T.imm w, q ∈ R) (i : Nat) (row : TR) (hi : T.rows[i]? = some row) (hkr : row.key = k) :
    Calls w (.ref 264) [.ref T.t, kv] 10 100 (T.mut ++ R) (EntryPost w T k R) := by
  intro dp un gd cn cs a ccd cl outer A₀ base h₀ L m s p loose mean mg mb Q E B F X N T' hk hd hu hn hret
  have KE : KeysIn w (T.pairs ++ R) (xsE T.rows) := fun x hx => by
    obtain ⟨r, hr, rfl⟩ := List.mem_map.mp hx
    exact ⟨r.mo, List.mem_append_right _ (hR _ (.tail _ (.tail _ (List.mem_map.mpr ⟨r, hr, rfl⟩)))), (hT.rows r hr).mark⟩
  have nE := xsE_nodup hT.nd
  have aE : atKey (xsE T.rows) k.mark = some (row.mark, .ref row.pair) := hkr ▸ xsE_at hT.nd hi
  have aEs : (atKey (xsE T.rows) k.mark).isSome = true := by rw [aE]; rfl
  have ht : (T.t, instObj 241 T.dt) ∈ T.pairs ++ R := List.mem_append_right _ (hR _ (.head _))
  have hdt : (T.dt, tabDict w T.x T.e T.p T.r) ∈ T.pairs ++ R := List.mem_append_right _ (hR _ (.tail _ (.head _)))
  have dE := hT.de
  have le := hT.le
  have hret' : ∀ h' tk' l, Fr h₀ L h' m → News h₀ L h' l → (∀ q ∈ T.mut ++ R, q ∈ l) → Q (.ref row.pair) { s with heap := h', toks := tk' } := fun h' tk' l F' N' hl =>
    hret _ _ _ _ F' (News.sub hl N') hn ⟨T, [], row, i, hT, rfl, rfl, fun q hq => hq, hi, hkr, rfl, by
      unfold touch
      rw [if_pos]
      have h1 : T.tab.map (·.1) = T.rows.map (·.key) := by simp [TB.tab]
      rw [h1]; exact List.mem_map.mpr ⟨row, List.mem_of_getElem? hi, hkr⟩⟩
  clear hret hR
  rw [TB.mut_app] at N hn hret'
  generalize T.pairs ++ R = W at *
  simp only [tabDict] at hdt
  k_steps
  exact hret' _ _ _ (by assumption) (by assumption) (fun q hq => .tail _ hq)
theorem entry_new (w : World) (k : KV) (kv : Value) (hkv : KV.is k kv = true) (T : TB) (hT : T.Ok w) (R : List (Addr × Obj)) (hR : ∀ q ∈ T.imm w, q ∈ R) (hnew : k ∉ T.rows.map (·.key)) (hlen : T.rows.length ≤ 900) :
    Calls w (.ref 264) [.ref T.t, kv] 10 100 (T.mut ++ R) (EntryPost w T k R) := by
  intro dp un gd cn cs a ccd cl outer A₀ base h₀ L m s p loose mean mg mb Q E B F X N T' hk hd hu hn hret
  have KE : KeysIn w (T.pairs ++ R) (xsE T.rows) := fun x hx => by
    obtain ⟨r, hr, rfl⟩ := List.mem_map.mp hx
    exact ⟨r.mo, List.mem_append_right _ (hR _ (.tail _ (.tail _ (List.mem_map.mpr ⟨r, hr, rfl⟩)))), (hT.rows r hr).mark⟩
  have KP : KeysIn w (T.pairs ++ R) (xsP T.rows) := fun x hx => by
    obtain ⟨⟨r, i⟩, hr, rfl⟩ := List.mem_map.mp hx
    have hr' := List.mem_zipIdx hr
    have hr : r ∈ T.rows := by rw [hr'.2.2]; exact List.getElem_mem _
    exact ⟨r.mo, List.mem_append_right _ (hR _ (.tail _ (.tail _ (List.mem_map.mpr ⟨r, hr, rfl⟩)))), (hT.rows r hr).mark⟩
  have nE := xsE_nodup hT.nd
  have nP := xsP_nodup hT.nd
  have aE : atKey (xsE T.rows) k.mark = none := xsE_none hnew
  have aP : atKey (xsP T.rows) k.mark = none := xsP_none hnew
  have aEs : (atKey (xsE T.rows) k.mark).isSome = false := by rw [aE]; rfl
  have lE : (xsE T.rows).length ≤ 1000 := by unfold xsE; rw [List.length_map]; omega
  have lP : (xsP T.rows).length ≤ 1000 := by unfold xsP; rw [List.length_map, List.length_zipIdx]; omega
  have lR : T.refs.toArray.size ≤ 1000 := by unfold TB.refs; simp; omega
  have ht : (T.t, instObj 241 T.dt) ∈ T.pairs ++ R := List.mem_append_right _ (hR _ (.head _))
  have hdt : (T.dt, tabDict w T.x T.e T.p T.r) ∈ T.pairs ++ R := List.mem_append_right _ (hR _ (.tail _ (.head _)))
  have dE := hT.de
  have dP := hT.dp
  have le := hT.le
  rw [TB.mut_app] at N hn
  have he : ∀ q ∈ T.pairs ++ R, q.1 ≠ T.e := fun q hq => hn.head q (.tail _ (.tail _ hq))
  have hp : ∀ q ∈ T.pairs ++ R, q.1 ≠ T.p := fun q hq => hn.tail.head q (.tail _ hq)
  have hr : ∀ q ∈ T.pairs ++ R, q.1 ≠ T.r := hn.tail.tail.head
  have n1 : T.p ≠ T.e := hn.head _ (.head _)
  have n2 : T.r ≠ T.e := hn.head _ (.tail _ (.head _))
  have n3 : T.r ≠ T.p := hn.tail.head _ (.head _)
  have n4 := n1.symm
  have n5 := n2.symm
  have n6 := n3.symm
  have ends := fun h' l a ob oe op t0 t1 => @entry_end w h₀ h' L T R k kv l a ob oe op t0 t1 hT hR hnew hkv hn
  generalize hW : T.pairs ++ R = W at *
  simp only [tabDict] at hdt
  k_steps
  (rename News h₀ L _ _ => NN)
  obtain ⟨l, a1, a2, a3⟩ := ends _ _ _ _ _ _ _ _ NN (by assumption) (by assumption) (by assumption) (by assumption) (by assumption)
  exact hret _ _ _ _ (by assumption) a1 a2 a3
theorem entry_spec (w : World) (k : KV) (kv : Value) (hkv : KV.is k kv = true) (T : TB) (hT : T.Ok w) (R : List (Addr × Obj)) (hR : ∀ q ∈ T.imm w, q ∈ R) (hlen : T.rows.length ≤ 900) :
    Calls w (.ref 264) [.ref T.t, kv] 10 100 (T.mut ++ R) (EntryPost w T k R) := by
  by_cases h : k ∈ T.rows.map (·.key)
  · obtain ⟨row, hr, e⟩ := List.mem_map.mp h
    obtain ⟨i, hi⟩ := List.getElem?_of_mem hr
    exact entry_there w k kv hkv T hT R hR i row hi e
  · exact entry_new w k kv hkv T hT R hR h hlen
end -- C3
section -- SA
open PySem PySem.W PySem.Calls PyProof.Rows PyProof.V
set_option Elab.async false
def tget (t : List (KV × PyData)) (k : KV) : PyData := (t.lookup k).getD (.str (Str.ofString ""))
/-- one deed: asked (none) or given -/
def tdo (t : List (KV × PyData)) (k : KV) (v : PyData) : List (KV × PyData) := match v with
  | .none => touch t k
  | v => (touch t k).map fun e => if e.1 = k then (k, v) else e
theorem perm2 {α : Type} (A C D E : α) (P Q R : List α) : (C :: D :: E :: ((P ++ A :: Q) ++ R)).Perm (A :: C :: D :: E :: (P ++ Q ++ R)) := by
  simp only [List.append_assoc, List.cons_append, List.nil_append]
  exact permF [[C], [D], [E], P, [A], Q] R (a := [0, 1, 2, 3, 4, 5]) (b := [4, 0, 1, 2, 3, 5]) (by decide)
/-- the state behind table_entry, opened at the row of the key -/
structure After (w : World) (T : TB) (k : KV) (R : List (Addr × Obj)) (T1 : TB) (row : TR) (i : Nat) (W : List (Addr × Obj)) : Prop where
  ht : T1.t = T.t
  rok : row.Ok w
  hkey : row.key = k
  hval : row.val = tget (touch T.tab k) k
  inst : (T.t, instObj 241 T1.dt) ∈ W
  dict : (T1.dt, tabDict w T1.x T1.e T1.p T1.r) ∈ W
  keysP : KeysIn w W (xsP T1.rows)
  dhP : DH w T1.op (xsP T1.rows)
  ndP : ((xsP T1.rows).map (·.1)).Nodup
  atP : atKey (xsP T1.rows) k.mark = some (row.mark, .int (i : Nat) row.pt)
  ref : T1.refs.toArray[i]? = some (.ref row.pair)
  small : i < 1000
  sub : ∀ q ∈ R, q ∈ W
  close : ∀ (h₀ h' : Heap) (L : Addr) (vv : Value) (v : PyData), Flat vv v → News h₀ L h' ((row.pair, listOf #[row.kv, vv] row.ep) :: (T1.e, T1.oe) :: (T1.p, T1.op) :: (T1.r, listOf T1.refs.toArray T1.re) :: W) →
    Nd ((row.pair, listOf #[row.kv, vv] row.ep) :: (T1.e, T1.oe) :: (T1.p, T1.op) :: (T1.r, listOf T1.refs.toArray T1.re) :: W) →
    ∃ (T' : TB) (X : List (Addr × Obj)), T'.Ok w ∧ T'.t = T.t ∧ News h₀ L h' (T'.mut ++ (X ++ R)) ∧ Nd (T'.mut ++ (X ++ R)) ∧ (∀ q ∈ T'.imm w, q ∈ X ++ T.imm w) ∧ T'.tab = (touch T.tab k).map (fun e => if e.1 = k then (k, v) else e)

  stay : ∀ (h₀ h' : Heap) (L : Addr), News h₀ L h' ((row.pair, listOf #[row.kv, row.vv] row.ep) :: (T1.e, T1.oe) :: (T1.p, T1.op) :: (T1.r, listOf T1.refs.toArray T1.re) :: W) →
    Nd ((row.pair, listOf #[row.kv, row.vv] row.ep) :: (T1.e, T1.oe) :: (T1.p, T1.op) :: (T1.r, listOf T1.refs.toArray T1.re) :: W) →
    ∃ (T' : TB) (X : List (Addr × Obj)), T'.Ok w ∧ T'.t = T.t ∧ News h₀ L h' (T'.mut ++ (X ++ R)) ∧ Nd (T'.mut ++ (X ++ R)) ∧ (∀ q ∈ T'.imm w, q ∈ X ++ T.imm w) ∧ T'.tab = touch T.tab k
theorem lookup_none {t : List (KV × PyData)} {k : KV} (h : k ∉ t.map (·.1)) : t.lookup k = none := by
  induction t with
  | nil => rfl
  | cons p r ih =>
    have hne : (k == p.1) = false := by
      refine beq_eq_false_iff_ne.mpr fun e => h ?_
      exact List.mem_map.mpr ⟨p, .head _, e.symm⟩
    rw [List.lookup_cons, hne]
    exact ih fun hm => h (by rw [List.map_cons]; exact .tail _ hm)
theorem lookup_snoc {t : List (KV × PyData)} {k : KV} {v : PyData} (h : k ∉ t.map (·.1)) : (t ++ [(k, v)]).lookup k = some v := by
  induction t with
  | nil => simp [List.lookup]
  | cons p r ih =>
    have hne : (k == p.1) = false := by
      refine beq_eq_false_iff_ne.mpr fun e => h ?_
      exact List.mem_map.mpr ⟨p, .head _, e.symm⟩
    rw [List.cons_append, List.lookup_cons, hne]
    exact ih fun hm => h (by rw [List.map_cons]; exact .tail _ hm)
theorem tget_touch (t : List (KV × PyData)) (k : KV) : tget (touch t k) k = tget t k := by
  unfold touch
  split
  · rfl
  · rename_i h
    unfold tget
    rw [lookup_snoc h, lookup_none h]; rfl
theorem lookup_of_nodup {t : List (KV × PyData)} (n : (t.map (·.1)).Nodup) {k : KV} {v : PyData} (h : (k, v) ∈ t) : t.lookup k = some v := by
  induction t with
  | nil => cases h
  | cons p r ih =>
    rw [List.map_cons, List.nodup_cons] at n
    rcases List.mem_cons.mp h with rfl | h
    · simp [List.lookup]
    · have hne : (k == p.1) = false := by
        refine beq_eq_false_iff_ne.mpr fun e => n.1 ?_
        exact List.mem_map.mpr ⟨(k, v), h, e⟩
      rw [List.lookup_cons, hne]
      exact ih n.2 h
theorem after_entry {w : World} {T : TB} {k : KV} {R : List (Addr × Obj)} {r : Value} {news' : List (Addr × Obj)} (h : EntryPost w T k R r news') (hR : ∀ q ∈ T.imm w, q ∈ R) (hl : T.rows.length ≤ 900) (n : Nd news') :
    ∃ (T1 : TB) (row : TR) (i : Nat) (W : List (Addr × Obj)), r = .ref row.pair ∧ After w T k R T1 row i W ∧ news'.Perm ((row.pair, listOf #[row.kv, row.vv] row.ep) :: (T1.e, T1.oe) :: (T1.p, T1.op) :: (T1.r, listOf T1.refs.toArray T1.re) :: W) := by
  obtain ⟨T1, X, row, i, ok, et, en, im0, hi, hk, er, tb⟩ := h
  have im : ∀ q ∈ T1.imm w, q ∈ X ++ R := fun q hq => by
    rcases List.mem_append.mp (im0 q hq) with h | h
    · exact List.mem_append_left _ h
    · exact List.mem_append_right _ (hR q h)
  obtain ⟨pre, post, hrows, hlen⟩ : ∃ pre post, T1.rows = pre ++ row :: post ∧ pre.length = i := by
    obtain ⟨hlt, e⟩ := List.getElem?_eq_some_iff.mp hi
    refine ⟨T1.rows.take i, T1.rows.drop (i + 1), ?_, by rw [List.length_take]; omega⟩
    rw [← e, List.getElem_cons_drop, List.take_append_drop]
  have hmem : row ∈ T1.rows := by rw [hrows]; exact List.mem_append_right _ (.head _)
  have rok := ok.rows row hmem
  have hp : T1.pairs = pre.map (fun r => (r.pair, r.po)) ++ (row.pair, row.po) :: post.map (fun r => (r.pair, r.po)) := by unfold TB.pairs; rw [hrows]; simp
  have h1 : T1.tab.map (·.1) = T1.rows.map (·.key) := by simp [TB.tab]
  have ndt : (T1.tab.map (·.1)).Nodup := h1 ▸ ok.nd
  have pm : news'.Perm ((row.pair, row.po) :: (T1.e, T1.oe) :: (T1.p, T1.op) :: (T1.r, listOf T1.refs.toArray T1.re) :: (pre.map (fun r => (r.pair, r.po)) ++ post.map (fun r => (r.pair, r.po)) ++ (X ++ R))) := by
    rw [en, TB.mut_app, hp]; exact perm2 _ _ _ _ _ _ _
  have hsub : ∀ q ∈ X ++ R, q ∈ pre.map (fun r => (r.pair, r.po)) ++ post.map (fun r => (r.pair, r.po)) ++ (X ++ R) := fun q hq => List.mem_append_right _ hq
  have hlen1 : T1.rows.length ≤ 901 := by
    have e1 : T1.rows.length = T1.tab.length := by simp [TB.tab]
    have e2 : T.rows.length = T.tab.length := by simp [TB.tab]
    rw [e1, tb]; unfold touch
    split
    · omega
    · rw [List.length_append, List.length_singleton]; omega
  refine ⟨T1, row, i, _, er, ⟨et, rok, hk, ?_, ?_, ?_, ?_, ok.dp, xsP_nodup ok.nd, hk ▸ xsP_at ok.nd hi, ?_, ?_, fun q hq => hsub q (List.mem_append_right _ hq), ?_, ?_⟩, pm⟩
  · unfold tget
    rw [← tb, lookup_of_nodup ndt (v := row.val) (by unfold TB.tab; exact List.mem_map.mpr ⟨row, hmem, by rw [hk]⟩)]; rfl
  · rw [← et]; exact hsub _ (im _ (.head _))
  · exact hsub _ (im _ (.tail _ (.head _)))
  · intro x hx
    obtain ⟨⟨r, j⟩, hr, rfl⟩ := List.mem_map.mp hx
    have hr' := List.mem_zipIdx hr
    have hr : r ∈ T1.rows := by rw [hr'.2.2]; exact List.getElem_mem _
    exact ⟨r.mo, hsub _ (im _ (.tail _ (.tail _ (List.mem_map.mpr ⟨r, hr, rfl⟩)))), (ok.rows r hr).mark⟩
  · unfold TB.refs; simp [hi]
  · have := (List.getElem?_eq_some_iff.mp hi).1; omega
  · intro h₀ h' L vv v hv N nd
    let row' : TR := { row with vv := vv, val := v }
    let T' : TB := { T1 with rows := pre ++ row' :: post }
    have e1 : T'.refs = T1.refs := by show (pre ++ row' :: post).map _ = T1.rows.map _; rw [hrows]; simp [row']
    have e2 : T'.pairs = pre.map (fun r => (r.pair, r.po)) ++ (row.pair, listOf #[row.kv, vv] row.ep) :: post.map (fun r => (r.pair, r.po)) := by show (pre ++ row' :: post).map _ = _; simp [row', TR.po]
    have e3 : T'.marks = T1.marks := by show (pre ++ row' :: post).map _ = T1.rows.map _; rw [hrows]; simp [row']
    have e5 : xsE (pre ++ row' :: post) = xsE T1.rows := by rw [hrows]; simp [xsE, row']
    have e6 : xsP (pre ++ row' :: post) = xsP T1.rows := by rw [hrows]; simp [xsP, row', List.zipIdx_append]
    have e7 : (pre ++ row' :: post).map (·.key) = T1.rows.map (·.key) := by rw [hrows]; simp [row']
    have pm' : ((row.pair, listOf #[row.kv, vv] row.ep) :: (T1.e, T1.oe) :: (T1.p, T1.op) :: (T1.r, listOf T1.refs.toArray T1.re) :: (pre.map (fun r => (r.pair, r.po)) ++ post.map (fun r => (r.pair, r.po)) ++ (X ++ R))).Perm (T'.mut ++ (X ++ R)) := by
      rw [TB.mut_app, e2, e1]; exact (perm2 _ _ _ _ _ _ _).symm
    refine ⟨T', X, ⟨ok.le, ok.lp, ?_, ?_, ?_, ?_⟩, et, News.perm pm' N, Nd.perm pm' nd, ?_, ?_⟩
    · show DH w T1.oe (xsE (pre ++ row' :: post)); rw [e5]; exact ok.de
    · show DH w T1.op (xsP (pre ++ row' :: post)); rw [e6]; exact ok.dp
    · show ((pre ++ row' :: post).map (·.key)).Nodup; rw [e7]; exact ok.nd
    · intro r hr
      rcases List.mem_append.mp hr with hr | hr
      · exact ok.rows r (by rw [hrows]; exact List.mem_append_left _ hr)
      rcases List.mem_cons.mp hr with rfl | hr
      · exact ⟨rok.mark, rok.kv, hv⟩
      · exact ok.rows r (by rw [hrows]; exact List.mem_append_right _ (.tail _ hr))
    · intro q hq
      unfold TB.imm at hq
      rw [e3] at hq
      exact im0 q hq
    · rw [← tb]
      have nk := ok.nd
      rw [hrows, List.map_append, List.map_cons, List.nodup_append, List.nodup_cons] at nk
      show (pre ++ row' :: post).map (fun r => (r.key, r.val)) = (T1.rows.map fun r => (r.key, r.val)).map _
      rw [hrows, List.map_map, List.map_append, List.map_cons, List.map_append, List.map_cons]
      have side : ∀ l : List TR, (∀ r ∈ l, r.key ≠ k) → l.map (fun r => (r.key, r.val)) = l.map ((fun e : KV × PyData => if e.1 = k then (k, v) else e) ∘ fun r => (r.key, r.val)) := fun l hl => List.map_congr_left fun r hr => by simp [hl r hr]
      rw [side pre fun r hr e => nk.2.2 _ (List.mem_map_of_mem hr) _ (.head _) (e.trans hk.symm), side post fun r hr e => nk.2.1.1 (List.mem_map.mpr ⟨r, hr, e.trans hk.symm⟩)]
      simp [row', hk]
  · intro h₀ h' L N nd
    have pm' := pm.symm
    rw [en] at pm'
    exact ⟨T1, X, ok, et, News.perm pm' N, Nd.perm pm' nd, im0, tb⟩
theorem perm3 {α : Type} (S M R : List α) : (M ++ (S ++ R)).Perm (S ++ (M ++ R)) :=
  permF [M, S] R (a := [0, 1]) (b := [1, 0]) (by decide)
theorem entry_S (w : World) (k : KV) (kv : Value) (hkv : KV.is k kv = true) (T : TB) (hT : T.Ok w) (S R : List (Addr × Obj)) (hR : ∀ q ∈ T.imm w, q ∈ R) (hlen : T.rows.length ≤ 900) :
    Calls w (.ref 264) [.ref T.t, kv] 10 100 (S ++ (T.mut ++ R)) (EntryPost w T k (S ++ R)) :=
  Calls.perm (perm3 S T.mut R) (entry_spec w k kv hkv T hT (S ++ R) (fun q hq => List.mem_append_right _ (hR q hq)) hlen)
end -- SA
local macro_rules | `(tactic| walk_at "subscriptTail") => `(tactic| (k_here; (with_reducible show wpAny _ _ (subscriptTail _ _ (Value.ref _) (Value.int (Nat.cast _) _)) _ _ _); k_dflt ( refine' item_L ?N ?hm ?hx ?hz ?_; (case N => k_asm); (case hm => k_mem); (case hx | hz => k_asm); k_whole)))
local macro_rules | `(tactic| walk_at "subscriptTail") => `(tactic| (k_here; (with_reducible show wpAny _ _ (subscriptTail _ _ (Value.ref _) (Value.int _ _)) _ _ _); k_dflt ( refine' item_C ?N ?hm ?h0 ?h1 ?hx ?_; (case N => k_asm); (case hm => k_mem); (case h0 | h1 => decide); (case hx => exact rfl); k_whole)))
local macro_rules | `(tactic| walk_at "call ref") => `(tactic| (k_here; (with_reducible show wpAny _ _ (call (Value.ref 264) _) _ _ _); refine held ?_))
section -- C4
open PySem PySem.W PySem.Calls PyProof.Rows PyProof.V
set_option Elab.async false
set_option maxRecDepth 100000
set_option maxHeartbeats 8000000
set_option pp.deepTerms false
set_option pp.deepTerms.threshold 10
set_option pp.maxSteps 60000
local macro_rules | `(tactic| walk_at "pad") => `(tactic| skip)
theorem imX {α : Type} {A X Y I : List α} (h : ∀ q ∈ A, q ∈ X ++ I) : ∀ q ∈ A, q ∈ (X ++ Y) ++ I := fun q hq => by
  rcases List.mem_append.mp (h q hq) with h | h
  · exact List.mem_append_left _ (List.mem_append_left _ h)
  · exact List.mem_append_right _ h
/-- what a call of _law_do leaves -/
def DoPost (w : World) (T : TB) (k : KV) (v : PyData) (R : List (Addr × Obj)) (r : Value) (news' : List (Addr × Obj)) : Prop :=
  ∃ (T' : TB) (X : List (Addr × Obj)), T'.Ok w ∧ T'.t = T.t ∧ news' = T'.mut ++ (X ++ R) ∧ (∀ q ∈ T'.imm w, q ∈ X ++ T.imm w) ∧ Flat r (tget T.tab k) ∧ T'.tab = tdo T.tab k v
theorem isnot_split {M : Model} {A : Around} {E : Value → Shared → Prop} {s : Shared} {vv : Value} {Q : Value → Shared → Prop} (h1 : vv = .none → Q (.bool false) s) (h2 : vv ≠ .none → Q (.bool true) s) : wpAny M A (compareOp .IsNot vv .none) Q E s := by
  by_cases h : vv = .none
  · subst h; exact wpAny_isNot_self rfl (h1 rfl)
  · exact isnot_none_ne h (h2 h)
local macro_rules | `(tactic| walk_at "compareOp IsNot") => `(tactic| ((with_reducible show wpAny _ _ (compareOp CmpOp.IsNot _ Value.none) _ _ _); refine isnot_split (fun hz => ?_) (fun hz => ?_)))
theorem do_spec (w : World) (k : KV) (kv : Value) (hkv : KV.is k kv = true) (vv : Value) (v : PyData) (hvv : Flat vv v) (T : TB) (hT : T.Ok w) (R : List (Addr × Obj)) (hR : ∀ q ∈ T.imm w, q ∈ R) (hlen : T.rows.length ≤ 900) (dd : Addr) (nt : Nat) (hdd : (dd, ({ cls := .type "tuple", data := .seq #[kv, vv] nt } : Obj)) ∈ R) :
    Calls w (.ref 338) [.ref T.t, .ref dd] 20 200 (T.mut ++ R) (DoPost w T k v R) := by
  intro dp un gd cn cs a ccd cl outer A₀ base h₀ L m s p loose mean mg mb Q E B F X N T' hk hd hu hn hret
  have ht : (T.t, instObj 241 T.dt) ∈ T.mut ++ R := List.mem_append_right _ (hR _ (.head _))
  have hdt : (T.dt, tabDict w T.x T.e T.p T.r) ∈ T.mut ++ R := List.mem_append_right _ (hR _ (.tail _ (.head _)))
  have hdd' : (dd, ({ cls := .type "tuple", data := .seq #[kv, vv] nt } : Obj)) ∈ T.mut ++ R := List.mem_append_right _ hdd
  generalize hW0 : T.mut ++ R = W0 at N hn ht hdt hdd'
  k_steps
  show wpAny _ _ _ _ _ _
  subst hW0
  refine Calls.use (entry_S w k kv hkv T hT [(_, _), (_, _)] R hR hlen) (by k_asm) (by k_asm) (by k_asm) (by k_asm) (by k_asm) rfl (by k_room) (by k_units) (Nd.consS (by assumption) (Nd.consA (by assumption) hn)) ?_
  intro r news' h' tk' F1 N1 n1 hp
  obtain ⟨T1, row, i, W, rfl, af, pm⟩ := after_entry hp (fun q hq => List.mem_append_right _ (hR q hq)) hlen n1
  replace N1 := News.perm pm N1
  replace n1 := Nd.perm pm n1
  clear pm hp
  have i1 := af.inst
  have i2 := af.dict
  simp only [tabDict] at i2
  have i3 := af.keysP
  have i4 := af.dhP
  have i5 := af.ndP
  have i6 := af.atP
  have i7 := af.ref
  have i8 := af.small
  have i9 := af.sub _ (.tail _ (.tail _ hdd))
  have i10 := af.sub _ (.tail _ (.head _))
  have i11 := af.sub _ (.head _)
  have d1 : T1.e ≠ row.pair := n1.head _ (.head _)
  have d2 : T1.p ≠ row.pair := n1.head _ (.tail _ (.head _))
  have d3 : T1.r ≠ row.pair := n1.head _ (.tail _ (.tail _ (.head _)))
  have d4 : ∀ q ∈ W, q.1 ≠ row.pair := fun q hq => n1.head q (.tail _ (.tail _ (.tail _ hq)))
  clear ht hdt hdd'
  k_steps
  · (rename News h₀ L _ _ => NN)
    (rename vv = Value.none => hz)
    have hv : v = .none := by subst hz; cases hvv {}; rfl
    subst hv
    obtain ⟨T2, X2, ok2, t2, N2, n2, im2, tb2⟩ := af.stay _ _ _ (News.sub (fun q hq => .tail _ (.tail _ (.tail _ hq))) NN) n1
    exact hret _ _ _ _ (by assumption) N2 n2 ⟨T2, X2 ++ [_, _], ok2, t2, by rw [List.append_assoc], imX im2, by rw [← tget_touch, ← af.hval]; exact af.rok.vv, tb2⟩
  · (rename News h₀ L _ _ => NN)
    (rename vv ≠ Value.none => hz)
    have hv : v ≠ .none := fun e => hz (by subst e; exact Flat.none_inv hvv)
    obtain ⟨T2, X2, ok2, t2, N2, n2, im2, tb2⟩ := af.close _ _ _ vv v hvv (News.sub (fun q hq => .tail _ (.tail _ (.tail _ hq))) NN) (n1.addr rfl)
    refine hret _ _ _ _ (by assumption) N2 n2 ⟨T2, X2 ++ [_, _], ok2, t2, by rw [List.append_assoc], imX im2, by rw [← tget_touch, ← af.hval]; exact af.rok.vv, ?_⟩
    rw [tb2]
    unfold tdo
    cases v <;> first | exact absurd rfl hv | rfl
end -- C4
section -- SV
open PySem PySem.W PySem.Calls PyProof.Rows PyProof.V
set_option Elab.async false
/-- a dict, its values in order, whatever its keys -/
def DV (h : Heap) (d : Addr) (vals : List Value) (ep : Nat) : Prop := ∃ o es, h.get? d = some o ∧ o.ExactDict ∧ o.data = .dict es ep ∧ es.toList.map (·.val) = vals
theorem DV.at {h h' : Heap} {d : Addr} {vals : List Value} {ep : Nat} (x : DV h d vals ep) (e : ∀ o, h.get? d = some o → h'.get? d = some o) : DV h' d vals ep := let ⟨o, es, ho, r⟩ := x; ⟨o, es, e _ ho, r⟩
theorem DV.typeIs {s : Shared} {d : Addr} {vals : List Value} {ep : Nat} (x : DV s.heap d vals ep) : s.TypeIs (.ref d) "dict" := let ⟨o, _, ho, hc, _⟩ := x; ⟨o, ho, hc.1⟩
theorem DV.noDict {h : Heap} {d : Addr} {vals : List Value} {ep : Nat} (x : DV h d vals ep) : ∀ b, Value.ref d = .ref b → ∃ ob, h.get? b = some ob ∧ ob.dict = none :=
  fun b e => by injection e with e; subst e; obtain ⟨o, _, ho, hc, _⟩ := x; exact ⟨o, ho, hc.2.1⟩
section
variable {prog : Program} {w : World} {A : Around} {E : Value → Shared → Prop} {s : Shared}
theorem dv_method {d : Addr} {vals : List Value} {ep : Nat} {pl : Sem Bool} {Q : Value × List Value → Shared → Prop} (hm : DV s.heap d vals ep) (h : Q (.builtin "dict.values", [.ref d]) s) : wpAny (model prog w) A (getMethod (.ref d) "values" pl) Q E s :=
  getMethod_builtin hm.typeIs PySem.F.plainAttrs_dict PySem.F.slot_dict_values PySem.F.type_dict_values hm.noDict h
theorem dv_call {d : Addr} {vals : List Value} {ep : Nat} {Q : Value → Shared → Prop} (lo : (d == sysModules) = false) (hm : DV s.heap d vals ep)
    (h : Q (.ref s.heap.objs.size) { s with heap := s.heap.push { cls := .type "dict_values", data := .fields #[.ref d] } }) : wpAny (model prog w) A (call (.builtin "dict.values") [.ref d]) Q E s := by
  refine wpAny_call_entry PySem.F.slot_dict_values hm.typeIs PySem.F.entry_dict_values ?_ (PySem.F.args_dict_values_1 _)
  refine wpAny_bind ?_
  unfold Builtin.Dict.noArgs
  refine wpAny_bind (wpAny_notOrdered_dict hm.typeIs ?_)
  show wpAny _ _ (pure d) _ _ s
  refine wpAny_pure ?_
  show wpAny _ _ (Builtin.Dict.showsAll d >>= _) _ _ s
  unfold Builtin.Dict.showsAll
  rw [if_neg (by rw [lo]; exact Bool.false_ne_true)]
  refine wpAny_bind (wpAny_pure ?_)
  exact wpAny_bind (wpAny_newObj_type (wpAny_pure ⟨_, rfl, h⟩))
theorem dv_iter {v d : Addr} {vals : List Value} {ep : Nat} {Q : Value → Shared → Prop} (hv : s.heap.IsValuesView v d) (hm : DV s.heap d vals ep)
    (hQ : Q (.ref s.heap.objs.size) { s with heap := s.heap.push { cls := .type "dict_valueiterator", data := .fields #[.ref d, .int 0 0, .int vals.length 0, .int ep 0] } }) :
    wpAny (model prog w) A (pyIter (.ref v)) Q E s := by
  obtain ⟨ov, hov, hcv, hdv⟩ := id hv
  obtain ⟨o, es, ho, hc, hdat, hvals⟩ := id hm
  refine wpAny_pyIter_slot hv.typeIs F.slot_dict_values_iter (wpAny_call_entry F.slot_dict_values_iter hv.typeIs F.entry_dict_values_iter ?_ (F.args_dict_values_iter_1 _))
  unfold Builtin.«dict_values.__iter__»
  refine wpAny_bind (wpAny_pure (wpAny_bind ?_))
  unfold Builtin.Dict_items.dictOf
  refine wpAny_bind (wpAny_field hov hdv (x := .ref d) rfl (wpAny_pure (wpAny_bind ?_)))
  unfold Builtin.Dict_items.newIterator
  refine wpAny_bind (wpAny_dictEntries ho hdat (wpAny_bind (wpAny_dictEpoch ho hdat ?_)))
  have hsz : es.size = vals.length := by rw [← hvals, List.length_map, Array.length_toList]
  have hown : Builtin.Dict_items.ownsTuple "dict_valueiterator" = false := by decide
  simp only [hown, Bool.false_eq_true, if_false]
  refine wpAny_newObj_type (wpAny_pure ⟨_, rfl, "dict_valueiterator", _, ⟨_, Heap.get?_push_size _ rfl, rfl⟩, F.slot_dict_valueiterator_next.lookup, ?_⟩)
  simpa [rawInt, hsz] using hQ
theorem dv_item {it d : Addr} {i ep : Nat} {vals : List Value} {v : Value} {Q : Option Value → Shared → Prop} (hit : s.heap.IsValIter it d i vals.length ep)
    (hm : DV s.heap d vals ep) (hx : vals[i]? = some v) (hQ : ∀ h', h'.IsValIter it d (i + 1) vals.length ep → Heap.SameBut it s.heap h' → Q (some v) { s with heap := h' }) :
    wpAny (model prog w) A (pyNext (.ref it)) Q E s := by
  obtain ⟨o, ho, hc, hd⟩ := id hit
  obtain ⟨od, es, hod, hcd, hdd, hvals⟩ := id hm
  have hsz : es.size = vals.length := by rw [← hvals, List.length_map, Array.length_toList]
  have hlt : i < vals.length := (List.getElem?_eq_some_iff.mp hx).1
  have hlt' : i < es.size := hsz ▸ hlt
  have hval : es[i].val = v := by
    rw [← hvals, List.getElem?_map, Array.getElem?_toList, Array.getElem?_eq_getElem hlt'] at hx
    simpa using hx
  unfold pyNext
  refine wpAny_bind (wpAny_attempt (wpAny_callSpecial?_slot (name := Str.ofString "__next__") hit.typeIs F.slot_dict_valueiterator_next
    (wpAny_call_entry F.slot_dict_valueiterator_next hit.typeIs F.entry_dict_valueiterator_next ?_ (F.args_dict_valueiterator_next_1 _))))
  refine wpAny_bind (wpAny_pure (wpAny_bind (wpAny_bind ?_)))
  first | refine wpAny_bind (wpAny_typeNameOfWhole_valiter hit.typeIs (wpAny_pure ?_)) | refine wpAny_bind (wpAny_typeNameOf_valiter hit.typeIs (wpAny_pure ?_))
  refine wpAny_bind (wpAny_fieldsOf ho hd ?_)
  have hown : Builtin.Dict_items.ownsTuple "dict_valueiterator" = false := by decide
  simp only [hown, Bool.false_eq_true, if_false]
  show wpAny _ _ (if (Value.ref d == Value.none) = true then _ else _) _ _ s
  rw [if_neg (show ¬ ((Value.ref d == Value.none) = true) from Bool.false_ne_true)]
  refine wpAny_bind (wpAny_pure (wpAny_bind (wpAny_dictEntries hod hdd ?_)))
  rw [if_neg (by rw [hsz]; simp)]
  refine wpAny_bind (wpAny_pure (wpAny_bind (wpAny_dictEpoch hod hdd ?_)))
  rw [if_neg (by simp)]
  refine wpAny_pure ?_
  simp only [show ¬ ((i : Int) < 0) from by omega, if_false, Int.toNat_natCast, Array.getElem?_eq_getElem hlt']
  refine wpAny_bind ?_
  first | refine wpAny_bind (wpAny_typeNameOfWhole_valiter hit.typeIs (wpAny_pure ?_)) | refine wpAny_bind (wpAny_typeNameOf_valiter hit.typeIs (wpAny_pure ?_))
  refine wpAny_bind (wpAny_isOneOf_valiter hit.typeIs ?_)
  show wpAny _ _ (setField (.ref it) 1 (rawInt ((i : Int) + 1)) >>= _) _ _ s
  refine wpAny_bind (wpAny_setField ho hd (by simp) ?_)
  have hit' : (s.heap.update it (Obj.mapFields (·.setIfInBounds 1 (rawInt ((i : Int) + 1))))).IsValIter it d (i + 1) vals.length ep :=
    ⟨_, Heap.get?_update_self _ ho (Obj.isFreed_of_fields (Obj.data_mapFields hd _)), (Obj.cls_mapFields ..).trans hc, by rw [Obj.data_mapFields hd]; simp [rawInt]⟩
  refine wpAny_bind (wpAny_holding (wpAny_bind (wpAny_isOneOf_valiter (s := { s with heap := s.heap.update it (Obj.mapFields (·.setIfInBounds 1 (rawInt ((i : Int) + 1)))) }) hit'.typeIs ?_)))
  refine wpAny_bind (wpAny_isOneOf_valiter (s := { s with heap := s.heap.update it (Obj.mapFields (·.setIfInBounds 1 (rawInt ((i : Int) + 1)))) }) hit'.typeIs ?_)
  show wpAny _ _ (pure es[i].val) _ _ _
  exact wpAny_pure (wpAny_pure ⟨_, rfl, wpAny_pure (hval ▸ hQ _ hit' (Heap.SameBut.update ..))⟩)
theorem dv_end {it d : Addr} {i ep : Nat} {vals : List Value} {Q : Option Value → Shared → Prop} (hh : A.handled = none) (hit : s.heap.IsValIter it d i vals.length ep)
    (hm : DV s.heap d vals ep) (hx : vals.length ≤ i) (hQ : ∀ h', Heap.ExtBut it s.heap h' → Q none { s with heap := h' }) : wpAny (model prog w) A (pyNext (.ref it)) Q E s := by
  obtain ⟨o, ho, hc, hd⟩ := id hit
  obtain ⟨od, es, hod, hcd, hdd, hvals⟩ := id hm
  have hsz : es.size = vals.length := by rw [← hvals, List.length_map, Array.length_toList]
  have hge : es.size ≤ i := hsz ▸ hx
  unfold pyNext
  refine wpAny_bind (wpAny_attempt (wpAny_callSpecial?_slot (name := Str.ofString "__next__") hit.typeIs F.slot_dict_valueiterator_next
    (wpAny_call_entry F.slot_dict_valueiterator_next hit.typeIs F.entry_dict_valueiterator_next ?_ (F.args_dict_valueiterator_next_1 _))))
  refine wpAny_bind (wpAny_pure (wpAny_bind (wpAny_bind ?_)))
  first | refine wpAny_bind (wpAny_typeNameOfWhole_valiter hit.typeIs (wpAny_pure ?_)) | refine wpAny_bind (wpAny_typeNameOf_valiter hit.typeIs (wpAny_pure ?_))
  refine wpAny_bind (wpAny_fieldsOf ho hd ?_)
  have hown : Builtin.Dict_items.ownsTuple "dict_valueiterator" = false := by decide
  simp only [hown, Bool.false_eq_true, if_false]
  show wpAny _ _ (if (Value.ref d == Value.none) = true then _ else _) _ _ s
  rw [if_neg (show ¬ ((Value.ref d == Value.none) = true) from Bool.false_ne_true)]
  refine wpAny_bind (wpAny_pure (wpAny_bind (wpAny_dictEntries hod hdd ?_)))
  rw [if_neg (by rw [hsz]; simp)]
  refine wpAny_bind (wpAny_pure (wpAny_bind (wpAny_dictEpoch hod hdd ?_)))
  rw [if_neg (by simp)]
  refine wpAny_pure ?_
  simp only [show ¬ ((i : Int) < 0) from by omega, if_false, Int.toNat_natCast, Array.getElem?_eq_none hge]
  refine wpAny_bind ?_
  first | refine wpAny_bind (wpAny_typeNameOfWhole_valiter hit.typeIs (wpAny_pure ?_)) | refine wpAny_bind (wpAny_typeNameOf_valiter hit.typeIs (wpAny_pure ?_))
  show wpAny _ _ (setField (.ref it) 0 .none >>= _) _ _ s
  refine wpAny_bind (wpAny_setField ho hd (by simp) ?_)
  show wpAny _ _ (newExc (.type "StopIteration") [] >>= _) _ _ _
  refine wpAny_bind ?_
  simp only [newExc, newTuple]
  refine wpAny_bind (wpAny_newObj_type ?_ (by size_fits))
  refine wpAny_bind (m := firstArgMember _ _) (wpAny_of_eq (a := Value.none) (by first | rfl | (simp only [firstArgMember]; rfl)) ?_)
  refine wpAny_newObj_type ?_ (by size_fits)
  simp only [raiseNew]
  refine wpAny_bind (wpAny_handled ?_)
  rw [show A.in1.handled = none from hh]
  refine wpAny_bind (wpAny_pure (wpAny_throw ?_))
  refine wpAny_bind (wpAny_isInstance (T := "StopIteration") (b := true) ⟨_, Heap.get?_push_size _ rfl, rfl⟩ isSubtype_stop ?_)
  exact wpAny_pure (hQ _ (((Heap.SameBut.update ..).extBut.push _).push _))
theorem dv_walks (hh : A.handled = none) (I d : Addr) (hne : d ≠ I) (vals : List Value) (ep : Nat) :
    Walks prog w A I [I, d] [I] vals.length (fun i v => vals[i]? = some v) (fun i h => h.IsValIter I d i vals.length ep ∧ DV h d vals ep) where
  sub := fun b hb => by simp at hb; simp [hb]
  frame := fun _ _ _ st hk => ⟨st.1.at fun o e => hk I (by simp) o e, st.2.at fun o e => hk d (by simp) o e⟩
  item := fun i s Q E hi st hQ => by
    refine dv_item st.1 st.2 (v := vals[i]) (by simp [hi]) fun h' hit' hs' => ?_
    exact hQ _ h' s.toks (by simp [hi]) ⟨hit', st.2.at fun o e => hs'.extBut d o hne e⟩ fun b o hb e => hs'.extBut b o (fun h => hb (by simp [h])) e
  done := fun s Q E st hQ => dv_end hh st.1 st.2 (Nat.le_refl _) fun h' he' => hQ h' s.toks fun b o hb e => he' b o (fun h => hb (by simp [h])) e
  self := fun _ _ _ _ st hQ => wpAny_pyIter_valiter st.1 hQ
end
end -- SV
section -- SC
open PySem PySem.W PySem.Calls PyProof.Rows PyProof.V PyProof.Rows.LCg PyProof.Rows.LCt
set_option Elab.async false
theorem compEnd_mono {h₀ : Heap} {L : Addr} {m : Str → Option Value} {s₁ : Shared} {I : Addr} {oI : Obj} {C : Addr} {oC : Obj} {D : Addr} {oD : Obj} {S : List (Addr × Obj) → Prop} {rest rest' : Value → List (Addr × Obj) → Prop} {y : Value} {s₂ : Shared}
    (h : CompEnd h₀ L m s₁ I oI C oC D oD S rest y s₂) (k : ∀ nw, rest y nw → rest' y nw) : CompEnd h₀ L m s₁ I oI C oC D oD S rest' y s₂ :=
  let ⟨h', tk, nw, e, F, N, o, hS, r⟩ := h; ⟨h', tk, nw, e, F, N, o, hS, k _ r⟩
theorem nd3_of {I C D : Addr} {oI oC oD : Obj} {nw : List (Addr × Obj)} (off : Off3 I C D nw) (ne : (@Ne Nat I C) ∧ (@Ne Nat I D) ∧ (@Ne Nat C D)) (nd : Nd nw) : Nd ((I, oI) :: (C, oC) :: (D, oD) :: nw) := by
  have key : ∀ q ∈ nw, q.1 ≠ I ∧ q.1 ≠ C ∧ q.1 ≠ D := fun q hq => off.mem q hq
  refine List.nodup_cons.mpr ⟨fun hm => ?_, List.nodup_cons.mpr ⟨fun hm => ?_, List.nodup_cons.mpr ⟨fun hm => ?_, nd⟩⟩⟩
  · rcases List.mem_cons.mp hm with e | hm
    · exact ne.1 e
    rcases List.mem_cons.mp hm with e | hm
    · exact ne.2.1 e
    obtain ⟨q, hq, e⟩ := List.mem_map.mp hm
    exact (key q hq).1 e
  · rcases List.mem_cons.mp hm with e | hm
    · exact ne.2.2 e
    obtain ⟨q, hq, e⟩ := List.mem_map.mp hm
    exact (key q hq).2.1 e
  · obtain ⟨q, hq, e⟩ := List.mem_map.mp hm
    exact (key q hq).2.2 e
theorem nd1_of {D : Addr} {oD : Obj} {nw : List (Addr × Obj)} (off : Off1 D nw) (nd : Nd nw) : Nd ((D, oD) :: nw) := by
  have key : ∀ l : List (Addr × Obj), Off1 D l → ∀ q ∈ l, q.1 ≠ D := by
    intro l
    induction l with
    | nil => intro _ q h; cases h
    | cons p r ih =>
      intro h q hq
      rcases List.mem_cons.mp hq with rfl | hq
      · exact h.1
      · exact ih h.2 q hq
  refine List.nodup_cons.mpr ⟨fun hm => ?_, nd⟩
  obtain ⟨q, hq, e⟩ := List.mem_map.mp hm
  exact key nw off q hq e
section
variable {prog : Program} {w : World} {A : Around} {E : Value → Shared → Prop} {s : Shared} {h₀ : Heap} {L : Addr} {m : Str → Option Value} {env : Env} {ct elt : Expr} {x : Str} {scope : Scope} {cl : List (Str × Addr)}
theorem restT_of_inv {S : List (Addr × Obj) → Prop} {P : Nat → Value → Prop} {Fin : List Value → List (Addr × Obj) → Prop} (n : Nat) (Inv : Nat → List Value → List (Addr × Obj) → Prop)
    (turn : ∀ i ys nw v I oI C oC D m₂ h tk (E' : Value → Shared → Prop), i < n → Inv i ys nw → P i v → NsObj oC m₂ → m₂ x = some v → Fr h₀ L h m → News h₀ L h ((I, oI) :: (C, oC) :: (D, lst ys) :: nw) → Off3 I C D nw → ((@Ne Nat I C) ∧ (@Ne Nat I D) ∧ (@Ne Nat C D)) →
      wpAny (model prog w) A (isTrue ct (compEnvC scope cl C env) (eval ct (compEnvC scope cl C env))) (fun ok s' => if ok = true then
        wpAny (model prog w) A (eval elt (compEnvC scope cl C env)) (CompEnd h₀ L m { s with heap := h, toks := tk } I oI C oC D (lst ys) S (fun y nw' => Inv (i + 1) (ys ++ [y]) nw')) E' s'
        else CompEnd h₀ L m { s with heap := h, toks := tk } I oI C oC D (lst ys) S (fun _ nw' => Inv (i + 1) ys nw') Value.none s') E' { s with heap := h, toks := tk })
    (done : ∀ ys nw, Inv n ys nw → Fin ys nw) : ∀ k i ys nw, i + k = n → Inv i ys nw → CompRestT prog w A h₀ L m env ct elt x scope cl s S P Fin k i ys nw
  | 0, i, ys, nw, e, hi => done ys nw (by simpa [← e] using hi)
  | k + 1, i, ys, nw, e, hi => by
    intro v I oI C oC D m₂ h tk E' hv hC hx F N off ne
    refine wpAny_mono (turn i ys nw v I oI C oC D m₂ h tk E' (by omega) hi hv hC hx F N off ne) (fun ok s' hs => ?_) fun _ _ z => z
    have rec' := restT_of_inv n Inv turn done k (i + 1)
    cases ok with
    | false =>
      rw [if_neg Bool.false_ne_true] at hs ⊢
      exact compEnd_mono hs fun nw' r => rec' _ nw' (by omega) r
    | true =>
      rw [if_pos rfl] at hs ⊢
      exact wpAny_mono hs (fun y s'' z => compEnd_mono z fun nw' r => rec' _ nw' (by omega) r) fun _ _ z => z
theorem restU_of_inv {S : List (Addr × Obj) → Prop} {P : Nat → Value → Prop} {Fin : List Value → List (Addr × Obj) → Prop} (n : Nat) (Inv : Nat → List Value → List (Addr × Obj) → Prop)
    (turn : ∀ i ys nw v I oI C oC D m₂ h tk (E' : Value → Shared → Prop), i < n → Inv i ys nw → P i v → NsObj oC m₂ → m₂ x = some v → Fr h₀ L h m → News h₀ L h ((I, oI) :: (C, oC) :: (D, lst ys) :: nw) → Off3 I C D nw → ((@Ne Nat I C) ∧ (@Ne Nat I D) ∧ (@Ne Nat C D)) →
      wpAny (model prog w) A (eval elt (compEnvC scope cl C env)) (CompEnd h₀ L m { s with heap := h, toks := tk } I oI C oC D (lst ys) S (fun y nw' => Inv (i + 1) (ys ++ [y]) nw')) E' { s with heap := h, toks := tk })
    (done : ∀ ys nw, Inv n ys nw → Fin ys nw) : ∀ k i ys nw, i + k = n → Inv i ys nw → CompRest prog w A h₀ L m env elt x scope cl s S P Fin k i ys nw
  | 0, i, ys, nw, e, hi => done ys nw (by simpa [← e] using hi)
  | k + 1, i, ys, nw, e, hi => by
    intro v I oI C oC D m₂ h tk E' hv hC hx F N off ne
    have rec' := restU_of_inv n Inv turn done k (i + 1)
    exact wpAny_mono (turn i ys nw v I oI C oC D m₂ h tk E' (by omega) hi hv hC hx F N off ne) (fun y s'' z => compEnd_mono z fun nw' r => rec' _ nw' (by omega) r) fun _ _ z => z
/-- an object that is a dict with these values -/
def ODV (o : Obj) (vals : List Value) (ep : Nat) : Prop := o.ExactDict ∧ ∃ es, o.data = .dict es ep ∧ es.toList.map (·.val) = vals
theorem ODV.dv {o : Obj} {vals : List Value} {ep : Nat} {h : Heap} {d : Addr} (x : ODV o vals ep) (e : h.get? d = some o) : DV h d vals ep := let ⟨hc, es, a, b⟩ := x; ⟨o, es, e, hc, a, b⟩
/-- the source: a view of a dict's values -/
def SrcDV (prog : Program) (w : World) (A : Around) (h₀ : Heap) (L : Addr) (m : Str → Option Value) (env : Env) (ct elt : Expr) (x : Str) (scope : Scope) (cl : List (Str × Addr)) (Fin : Shared → List Value → List (Addr × Obj) → Prop) (xv : Value) (s₁ : Shared) : Prop :=
  ∃ v d o vals ep news, xv = .ref v ∧ A.handled = none ∧ Fr h₀ L s₁.heap m ∧ News h₀ L s₁.heap news ∧ s₁.heap.IsValuesView v d ∧ (d, o) ∈ news ∧ ODV o vals ep ∧ vals.length ≤ sizeLine ∧
    ∀ s₂ : Shared, (∃ h, s₂ = { s₁ with heap := h }) → CompRestT prog w A h₀ L m env ct elt x scope cl s₂ (fun nw => (d, o) ∈ nw) (fun i v => vals[i]? = some v) (Fin s₂) vals.length 0 [] news
theorem ListComp_DV {iter : Expr} {px : Pos} {pos : Pos} {Q : Value → Shared → Prop} (_F₀ : Fr h₀ L s.heap m)
    (hclos : closureFor scope env = pure cl) (hcell : ∀ y ∈ scope.names, y.2 ≠ .cell) (hkind : scope.kind = .function)
    (hnames : ∀ y ∈ scope.names, y.2 = .local → scope.names.lookup y.1 = some .local) (hx : scope.names.lookup x = some .local)
    (h : wpAny (model prog w) A (eval iter env) (SrcDV prog w A h₀ L m env ct elt x scope cl (fun s₂ => FinE h₀ L m s₂ Q)) E s)
    (hs : ∀ x, foldedSetIterable iter env x = pure x := by intro _; rfl) :
    wpAny (model prog w) A (eval (.ListComp elt [⟨.Name x px, iter, [ct], 0⟩] scope pos) env) Q E s := by
  rw [eval_ListComp]
  refine wpAny_comprehension_free (use := none) rfl hs hclos hkind hnames (wpAny_mono h (fun xv s₁ h₁ => ?_) fun _ _ e => e)
  obtain ⟨v, d, o, vals, ep, news, rfl, hh, F, N, hv, hd, od, hsz, R⟩ := h₁
  have hlt : d < s₁.heap.objs.size := Heap.lt_size (N.get hd)
  refine dv_iter hv (od.dv (N.get hd)) ?_
  have up : ∀ b o', s₁.heap.get? b = some o' → (s₁.heap.push { cls := .type "dict_valueiterator", data := .fields #[.ref d, .int 0 0, .int vals.length 0, .int ep 0] }).get? b = some o' := fun b o' e => Heap.get?_push_of_some _ e
  refine block_T (dv_walks hh s₁.heap.objs.size d (Nat.ne_of_lt hlt) vals ep) hsz (fun i h st => by obtain ⟨o, e, _⟩ := st.1; exact ⟨o, e⟩)
    (fun i h h' oi nw st e e' _ N' hS => ⟨by obtain ⟨o', q, r⟩ := st.1; rw [e] at q; cases q; exact ⟨oi, e', r⟩, od.dv (N'.get hS)⟩)
    hcell hkind hx ⟨⟨_, Heap.get?_push_size _ rfl, rfl, rfl⟩, od.dv (up _ _ (N.get hd))⟩ (fun b hb => ?_)
    (F.keeps up) (N.grown up) (Nat.ne_of_lt F.ns.lt) (next_is_new F) (fun p hp => Nat.ne_of_lt (Heap.lt_size (N p hp).1)) hd (R _ ⟨_, rfl⟩) ?_
  · show b < (s₁.heap.push _).objs.size
    rw [Heap.size_push]
    rcases List.mem_cons.mp hb with rfl | hb
    · exact Nat.lt_succ_self _
    · rw [List.mem_singleton.mp hb]; exact Nat.lt_succ_of_lt hlt
  · intro D C h tk m' ys news' F' N' o1 hn hC₀ hD₀ hCL hDL hCD offC fin
    refine ⟨m', hn, fun h'' hs'' => fin D h'' tk (F'.change hs'' hCL hC₀) (fun p hp => ?_) o1⟩
    refine ⟨hs''.extBut _ _ ?_ (N' p hp).1, (N' p hp).2⟩
    rcases List.mem_cons.mp hp with rfl | hp
    · exact Ne.symm hCD
    · exact offC p hp
theorem odv_method {d : Addr} {o : Obj} {vals : List Value} {ep : Nat} {news : List (Addr × Obj)} {pl : Sem Bool} {Q : Value × List Value → Shared → Prop} (N : News h₀ L s.heap news) (hd : (d, o) ∈ news) (od : ODV o vals ep) (h : Q (.builtin "dict.values", [.ref d]) s) :
    wpAny (model prog w) A (getMethod (.ref d) "values" pl) Q E s := dv_method (od.dv (N.get hd)) h
theorem odv_call {d : Addr} {o : Obj} {vals : List Value} {ep : Nat} {news : List (Addr × Obj)} {Q : Value → Shared → Prop} (F : Fr h₀ L s.heap m) (N : News h₀ L s.heap news) (lo : (d == sysModules) = false) (hd : (d, o) ∈ news) (od : ODV o vals ep)
    (h : ∀ v h', Fr h₀ L h' m → News h₀ L h' ((v, ({ cls := .type "dict_values", data := .fields #[.ref d] } : Obj)) :: news) → (∀ p ∈ news, p.1 < v) → Q (.ref v) { s with heap := h' }) :
    wpAny (model prog w) A (call (.builtin "dict.values") [.ref d]) Q E s :=
  dv_call lo (od.dv (N.get hd)) (h _ _ (F.push _) (N.push F _) fun p hp => Heap.lt_size (N p hp).1)
theorem view_is {d v : Addr} {h : Heap} {news : List (Addr × Obj)} (N : News h₀ L h news) (hv : (v, ({ cls := .type "dict_values", data := .fields #[.ref d] } : Obj)) ∈ news) : h.IsValuesView v d := ⟨_, N.get hv, rfl, rfl⟩
end
end -- SC
section -- SD
open PySem PySem.W PySem.Calls PyProof.Rows PyProof.V
set_option Elab.async false
abbrev nul : Str := Str.ofString ""
def nullB : PyData → Bool
  | .str x => x == nul
  | _ => false
/-- a value that a table holds -/
def IsVal (d : PyData) : Prop := (∃ n, d = .int n) ∨ ∃ x, (PyData.str x).canLay0 = true ∧ d = .str x
def ents (t : List (KV × PyData)) : List (KV × PyData) := t.filter fun e => !nullB e.2
abbrev tup2 (a b : Value) (n : Nat) : Obj := { cls := .type "tuple", data := .seq #[a, b] n }
/-- the values are pairs that stand in the ledger -/
inductive Prs (W : List (Addr × Obj)) : List Value → List (KV × PyData) → Prop
  | nil : Prs W [] []
  | cons {a : Addr} {kv vv : Value} {n : Nat} {k : KV} {v : PyData} {vs : List Value} {es : List (KV × PyData)} : (a, tup2 kv vv n) ∈ W → KV.is k kv = true → Flat vv v → Prs W vs es → Prs W (.ref a :: vs) ((k, v) :: es)
theorem Prs.mono {W W' : List (Addr × Obj)} {vs : List Value} {es : List (KV × PyData)} (h : Prs W vs es) (s : ∀ q ∈ W, q ∈ W') : Prs W' vs es := by
  induction h with
  | nil => exact .nil
  | cons a b c _ ih => exact .cons (s _ a) b c ih
theorem Prs.snoc {W : List (Addr × Obj)} {vs : List Value} {es : List (KV × PyData)} {a : Addr} {kv vv : Value} {n : Nat} {k : KV} {v : PyData} (h : Prs W vs es) (ha : (a, tup2 kv vv n) ∈ W) (hk : KV.is k kv = true) (hv : Flat vv v) : Prs W (vs ++ [.ref a]) (es ++ [(k, v)]) := by
  induction h with
  | nil => exact .cons ha hk hv .nil
  | cons a b c _ ih => exact .cons a b c ih
theorem Prs.length {W : List (Addr × Obj)} {vs : List Value} {es : List (KV × PyData)} (h : Prs W vs es) : vs.length = es.length := by
  induction h with
  | nil => rfl
  | cons _ _ _ _ ih => simp [ih]
theorem Prs.get {W : List (Addr × Obj)} {vs : List Value} {es : List (KV × PyData)} (h : Prs W vs es) : ∀ {i : Nat} {v : Value}, vs[i]? = some v → ∃ a kv vv n k d, v = .ref a ∧ (a, tup2 kv vv n) ∈ W ∧ KV.is k kv = true ∧ Flat vv d ∧ es[i]? = some (k, d) := by
  induction h with
  | nil => intro i v h; simp at h
  | @cons a kv vv n k d vs es h1 h2 h3 _ ih =>
    intro i v hv
    cases i with
    | zero => simp at hv; subst hv; exact ⟨a, kv, vv, n, k, d, rfl, h1, h2, h3, rfl⟩
    | succ j => simp at hv; obtain ⟨a', kv', vv', n', k', d', e1, e2, e3, e4, e5⟩ := ih hv; exact ⟨a', kv', vv', n', k', d', e1, e2, e3, e4, by simpa using e5⟩
theorem Prs.get' {W : List (Addr × Obj)} {vs : List Value} {es : List (KV × PyData)} (h : Prs W vs es) : ∀ {i : Nat} {e : KV × PyData}, es[i]? = some e → ∃ a kv vv n, vs[i]? = some (.ref a) ∧ (a, tup2 kv vv n) ∈ W ∧ KV.is e.1 kv = true ∧ Flat vv e.2 := by
  induction h with
  | nil => intro i v h; simp at h
  | @cons a kv vv n k d vs es h1 h2 h3 _ ih =>
    intro i e he
    cases i with
    | zero => simp at he; subst he; exact ⟨a, kv, vv, n, rfl, h1, h2, h3⟩
    | succ j => simp at he; obtain ⟨a', kv', vv', n', e1, e2, e3, e4⟩ := ih he; exact ⟨a', kv', vv', n', by simpa using e1, e2, e3, e4⟩
theorem Prs.drop {W : List (Addr × Obj)} {vs : List Value} {es : List (KV × PyData)} (h : Prs W vs es) : ∀ n, Prs W (vs.drop n) (es.drop n) := by
  induction h with
  | nil => intro n; simpa using Prs.nil
  | cons a b c t ih =>
    intro n
    cases n with
    | zero => exact .cons a b c t
    | succ m => simpa using ih m
theorem Prs.take {W : List (Addr × Obj)} {vs : List Value} {es : List (KV × PyData)} (h : Prs W vs es) : ∀ n, Prs W (vs.take n) (es.take n) := by
  induction h with
  | nil => intro n; simpa using Prs.nil
  | cons a b c t ih =>
    intro n
    cases n with
    | zero => simpa using Prs.nil
    | succ m => exact .cons a b c (ih m)
def pairD (e : KV × PyData) : PyData := .tuple [e.1.d, e.2]
theorem Prs.reads {W : List (Addr × Obj)} {vs : List Value} {es : List (KV × PyData)} (h : Prs W vs es) {h' : Heap} (hW : ∀ q ∈ W, h'.get? q.1 = some q.2) : ∃ as, ReadsAll h' vs (es.map pairD) as := by
  induction h with
  | nil => exact ⟨_, .nil⟩
  | @cons a kv vv n k d vs es h1 h2 h3 _ ih =>
    obtain ⟨as, ih⟩ := ih
    have r : Reads h' (.ref a) (pairD (k, d)) _ := Reads.tuple (hW _ h1) rfl rfl (.cons (KV.flat h2 h') (.cons (h3 h') .nil))
    exact ⟨_, .cons r ih⟩
end -- SD
section -- C5
open PySem PySem.W PySem.Calls PyProof.Rows PyProof.V PyProof.Rows.LCg PyProof.Rows.LCt
set_option Elab.async false
set_option maxRecDepth 100000
set_option maxHeartbeats 8000000
set_option pp.deepTerms false
set_option pp.deepTerms.threshold 10
set_option pp.maxSteps 60000
local macro_rules | `(tactic| walk_at "pad") => `(tactic| skip)
local macro_rules | `(tactic| walk_at "pad") => `(tactic| skip)
local macro_rules | `(tactic| walk_at "pad") => `(tactic| skip)
theorem isnull_spec (w : World) (v : Value) (d : PyData) (hv : Flat v d) (hd : IsVal d) (news : List (Addr × Obj)) :
    Calls w (.ref 156) [v] 4 60 news (fun r news' => news' = news ∧ r = .bool (nullB d)) := by
  intro dp un gd cn cs a ccd cl outer A₀ base h₀ L m s p loose mean mg mb Q E B F X N T' hk hd' hu hn hret
  rcases hd with ⟨n, rfl⟩ | ⟨x, _, rfl⟩
  · obtain ⟨t, rfl⟩ := Flat.int_inv hv
    k_steps
    exact hret _ _ _ _ (by assumption) (by assumption) hn ⟨rfl, rfl⟩
  · obtain ⟨t, rfl⟩ := Flat.str_inv hv
    k_steps
    exact hret _ _ _ _ (by assumption) (by assumption) hn ⟨rfl, rfl⟩
local macro_rules | `(tactic| walk_at "eval ListComp") => `(tactic| (k_here; refine held ?_))
local macro_rules | `(tactic| walk_at "getMethod ref") => `(tactic| (k_here; (with_reducible show wpAny _ _ (getMethod (Value.ref _) (Str.ofString "values") _) _ _ _); k_dflt (refine' odv_method ?N ?hd ?od ?_; (case N => k_asm); (case hd => k_mem); (case od => k_asm); k_whole)))
local macro_rules | `(tactic| walk_at "call builtin:dict.values") => `(tactic| (k_here; k_dflt (refine' odv_call ?F ?N ?lo ?hd ?od ?_; (case F | N => k_asm); (case hd => k_mem); (case od | lo => k_asm); k_whole; intro v' h' F' N' l1; (try k_lt l1))))
local macro_rules | `(tactic| walk_at "call ref") => `(tactic| (k_here; (with_reducible show wpAny _ _ (call (Value.ref 156) [_]) _ _ _); k_dflt ( refine' Calls.use ?C ?B ?F ?X ?N ?T ?hk ?hd ?hu ?hn ?_; (case C | B | F | X | N | T => k_asm); (case hk => first | rfl | k_asm); (case hd => k_room); (case hu => k_units); (case hn => k_asm); k_whole; intro r' news' h' tk' F' N' hn' hp'; obtain ⟨e1', e2'⟩ := hp'; subst e1' e2')))
theorem ents_turn {w : World} {T : TB} {i : Nat} {row : TR} (hi : T.rows[i]? = some row) : ents (T.tab.take (i + 1)) = ents (T.tab.take i) ++ (if nullB row.val then [] else [(row.key, row.val)]) := by
  have h1 : T.tab[i]? = some (row.key, row.val) := by unfold TB.tab; rw [List.getElem?_map, hi]; rfl
  unfold ents
  rw [List.take_add_one, h1, List.filter_append]
  cases h : nullB row.val <;> simp [h]
theorem ents_spec (w : World) (T : TB) (hT : T.Ok w) (R : List (Addr × Obj)) (hR : ∀ q ∈ T.imm w, q ∈ R) (hlen : T.rows.length ≤ 900) (hval : ∀ e ∈ T.tab, IsVal e.2) :
    Calls w (.ref 302) [.ref T.t] 20 200 (T.mut ++ R) (fun r news' => ∃ X l vs n, r = .ref l ∧ news' = T.mut ++ (X ++ R) ∧ (l, listOf vs n) ∈ X ∧ Prs X vs.toList (ents T.tab)) := by
  intro dp un gd cn cs a ccd cl outer A₀ base h₀ L m s p loose mean mg mb Q E B F X N T' hk hd hu hn hret
  have ht : (T.t, instObj 241 T.dt) ∈ T.mut ++ R := List.mem_append_right _ (hR _ (.head _))
  have hdt : (T.dt, tabDict w T.x T.e T.p T.r) ∈ T.mut ++ R := List.mem_append_right _ (hR _ (.tail _ (.head _)))
  simp only [tabDict] at hdt
  have he : (T.e, T.oe) ∈ T.mut ++ R := .head _
  have le := hT.le
  have hvals : ∃ ep, ODV T.oe T.refs ep := by
    obtain ⟨hc, es, ep, h1, h2⟩ := hT.de
    exact ⟨ep, hc, es, h1, by rw [h2, List.map_map]; unfold xsE TB.refs; rw [List.map_map]; rfl⟩
  obtain ⟨ep, od⟩ := hvals
  k_steps
  show wpAny _ _ _ _ _ _
  refine ListComp_DV (cl := []) (_F₀ := by k_asm) (by rfl) (by decide) (by rfl) (by decide) (by rfl) ?_
  k_steps
  have hlr : T.refs.length = T.rows.length := by simp [TB.refs]
  refine ⟨_, T.e, T.oe, T.refs, ep, _, rfl, rfl, by k_asm, by k_asm, view_is (by k_asm) (.head _), .tail _ he, od, by rw [sizeLine_eq]; omega, ?_⟩
  rintro s₂ ⟨h2, rfl⟩
  refine restT_of_inv T.refs.length (fun i ys nw => ∃ X, nw = X ++ (T.mut ++ R) ∧ Nd nw ∧ Prs X ys (ents (T.tab.take i))) ?_ ?_ _ 0 [] _ (by simp) ⟨[_], rfl, Nd.consA (by assumption) hn, .nil⟩
  · rintro i ys nw v I oI C oC D m₂ h tk E' hi ⟨Y, rfl, nd, pr⟩ hv hC hx Fh Nh off ne
    obtain ⟨row, hrow, rfl⟩ : ∃ row, T.rows[i]? = some row ∧ v = .ref row.pair := by
      unfold TB.refs at hv; rw [List.getElem?_map] at hv
      obtain ⟨row, a, b⟩ := Option.map_eq_some_iff.mp hv
      exact ⟨row, a, b.symm⟩
    have hmem : row ∈ T.rows := List.mem_of_getElem? hrow
    have rok := hT.rows row hmem
    have hp : (row.pair, listOf #[row.kv, row.vv] row.ep) ∈ Y ++ (T.mut ++ R) := List.mem_append_right _ (List.mem_append_left _ (.tail _ (.tail _ (.tail _ (List.mem_map.mpr ⟨row, hmem, rfl⟩)))))
    have hval' : IsVal row.val := hval (row.key, row.val) (List.mem_map.mpr ⟨row, hmem, rfl⟩)
    have nd3 : Nd ((I, oI) :: (C, oC) :: (D, lst ys) :: (Y ++ (T.mut ++ R))) := nd3_of off ne nd
    have isn := isnull_spec w row.vv row.val rok.vv hval' ((I, oI) :: (C, oC) :: (D, lst ys) :: (Y ++ (T.mut ++ R)))
    have et := ents_turn (w := w) hrow
    generalize hnw : Y ++ (T.mut ++ R) = nw at Nh off hp nd nd3 isn
    cases hb : nullB row.val
    · rw [hb] at isn
      k_steps
      (rename News _ _ _ _ => NN)
      (rename _ ∧ _ ∧ _ ∧ AllLt _ nw => l1)
      subst hnw
      exact CompEnd.intro (by k_asm) NN (_ :: (Y ++ (T.mut ++ R))) (fun q hq => by
        rcases List.mem_cons.mp hq with rfl | hq
        · exact .tail _ (.head _)
        rcases List.mem_cons.mp hq with rfl | hq
        · exact .tail _ (.tail _ (.head _))
        rcases List.mem_cons.mp hq with rfl | hq
        · exact .tail _ (.tail _ (.tail _ (.head _)))
        rcases List.mem_cons.mp hq with rfl | hq
        · exact .head _
        · exact .tail _ (.tail _ (.tail _ (.tail _ hq)))) ⟨⟨Nat.ne_of_gt l1.1, Nat.ne_of_gt l1.2.1, Nat.ne_of_gt l1.2.2.1⟩, off⟩ (.tail _ (List.mem_append_right _ he))
        ⟨_ :: Y, rfl, Nd.cons l1.2.2.2 nd, by rw [et, hb]; exact (pr.mono fun q hq => .tail _ hq).snoc (.head _) rok.kv rok.vv⟩
    · rw [hb] at isn
      k_steps
      (rename News _ _ _ _ => NN)
      subst hnw
      exact CompEnd.intro (by k_asm) NN (Y ++ (T.mut ++ R)) (fun q hq => hq) off (List.mem_append_right _ he) ⟨Y, rfl, nd, by rw [et, hb]; simpa using pr⟩
  · rintro ys nw ⟨Y, rfl, nd, pr⟩
    intro D h tk Fh Nh o1
    k_steps
    (rename News h₀ L _ _ => NN)
    have pm : ((D, lst ys) :: (Y ++ (T.mut ++ R))).Perm (T.mut ++ (((D, lst ys) :: Y) ++ R)) := (perm3 ((D, lst ys) :: Y) T.mut R).symm
    have e1 : T.refs.length = T.tab.length := by simp [TB.refs, TB.tab]
    rw [e1, List.take_length] at pr
    exact hret _ _ _ _ (by k_asm) (News.perm pm NN) (Nd.perm pm (nd1_of o1 nd)) ⟨(D, lst ys) :: Y, D, ys.toArray, ys.length, rfl, rfl, .head _, by simpa using pr.mono fun q hq => .tail _ hq⟩
end -- C5
section -- SE
open PySem PySem.W PySem.Calls PyProof.Rows PyProof.V PySem.SeqAt
set_option Elab.async false
/-- these values read as these data wherever the ledger W stands -/
def LR (W : List (Addr × Obj)) (vs : List Value) (ds : List PyData) : Prop := ∀ h : Heap, (∀ q ∈ W, h.get? q.1 = some q.2) → ∃ as, ReadsAll h vs ds as
theorem LR.mono {W W' : List (Addr × Obj)} {vs : List Value} {ds : List PyData} (h : LR W vs ds) (s : ∀ q ∈ W, q ∈ W') : LR W' vs ds := fun g k => h g fun q hq => k q (s q hq)
theorem LR.nil {W : List (Addr × Obj)} : LR W [] [] := fun _ _ => ⟨_, .nil⟩
theorem LR.cons {W : List (Addr × Obj)} {v : Value} {d : PyData} {vs : List Value} {ds : List PyData} (f : Flat v d) (h : LR W vs ds) : LR W (v :: vs) (d :: ds) := fun g k => let ⟨_, r⟩ := h g k; ⟨_, .cons (f g) r⟩
theorem LR.ints {W : List (Addr × Obj)} {vs : List Value} {ns : List Int} (h : IntsAre vs ns) : LR W vs (ns.map .int) := by
  induction h with
  | nil => exact LR.nil
  | cons i t _ ih => exact LR.cons (Flat.int _ _) ih
theorem Prs.LR {W : List (Addr × Obj)} {vs : List Value} {es : List (KV × PyData)} (h : Prs W vs es) : LR W vs (es.map pairD) := fun _ k => h.reads k
def okL (ds : List PyData) : Prop := PyData.canLayAll0 ds = true ∧ PyData.depthAll ds ≤ 60
theorem okL.shaped {ds : List PyData} (h : okL ds) : shaped (.list ds) = true := by
  unfold PySem.SeqAt.shaped
  rw [Bool.and_eq_true, decide_eq_true_eq]
  exact ⟨h.1, by have := h.2; simp only [PyData.depth]; omega⟩
theorem okL.nil : okL [] := ⟨rfl, by simp [PyData.depthAll]⟩
theorem okL.ints (ns : List Int) : okL (ns.map .int) := by
  constructor
  · induction ns with
    | nil => rfl
    | cons n r ih => simp only [List.map_cons, PyData.canLayAll0, PyData.canLay0, Bool.true_and]; exact ih
  · have : PyData.depthAll (ns.map .int) ≤ 1 := by
      induction ns with
      | nil => simp [PyData.depthAll]
      | cons n r ih => simp only [List.map_cons, PyData.depthAll, PyData.depth]; omega
    omega
/-- entries whose keys and values are plain -/
def okE (e : KV × PyData) : Prop := e.1.d.canLay0 = true ∧ IsVal e.2
theorem okE.can {e : KV × PyData} (h : okE e) : (pairD e).canLay0 = true := by
  unfold pairD
  simp only [PyData.canLay0, PyData.canLayAll0, Bool.and_true, Bool.and_eq_true]
  refine ⟨h.1, ?_⟩
  rcases h.2 with ⟨n, e2⟩ | ⟨x, hx, e2⟩
  · rw [e2]; rfl
  · rw [e2]; exact hx
theorem depth_pairD {e : KV × PyData} (h : IsVal e.2) : (pairD e).depth ≤ 5 := by
  unfold pairD
  have h1 : e.1.d.depth ≤ 1 := by cases e.1 <;> simp [KV.d, PyData.depth]
  have h2 : e.2.depth ≤ 1 := by rcases h with ⟨n, e2⟩ | ⟨x, hx, e2⟩ <;> rw [e2] <;> simp [PyData.depth]
  simp only [PyData.depth, PyData.depthAll]; omega
theorem okL.pairs {es : List (KV × PyData)} (h : ∀ e ∈ es, okE e) : okL (es.map pairD) := by
  constructor
  · induction es with
    | nil => rfl
    | cons e r ih =>
      simp only [List.map_cons, PyData.canLayAll0, Bool.and_eq_true]
      exact ⟨(h e (.head _)).can, ih fun x hx => h x (.tail _ hx)⟩
  · have : PyData.depthAll (es.map pairD) ≤ 10 := by
      induction es with
      | nil => simp [PyData.depthAll]
      | cons e r ih =>
        have h1 := depth_pairD (h e (.head _)).2
        have h2 := ih fun x hx => h x (.tail _ hx)
        simp only [List.map_cons, PyData.depthAll]; omega
    omega
section
variable {prog : Program} {w : World} {A : Around} {E : Value → Shared → Prop} {s : Shared} {h₀ : Heap} {L : Addr} {m : Str → Option Value} {news W W2 : List (Addr × Obj)}
theorem ne_LR {l l2 : Addr} {its its2 : Array Value} {n n2 : Nat} {ds ds2 : List PyData} {b : Bool} {Q : Value → Shared → Prop} (hu : A.units + 64 < cLine) (N : News h₀ L s.heap news) (h1 : (l, listOf its n) ∈ news) (h2 : (l2, listOf its2 n2) ∈ news)
    (r1 : LR W its.toList ds) (s1 : ∀ q ∈ W, q ∈ news) (r2 : LR W2 its2.toList ds2) (s2 : ∀ q ∈ W2, q ∈ news) (c1 : okL ds) (c2 : okL ds2) (hb : PyData.eqvAll ds ds2 = b) (h : Q (.bool (!b)) s) :
    wpAny (model prog w) A (compareOp .NotEq (.ref l) (.ref l2)) Q E s := by
  obtain ⟨as, ra⟩ := r1 s.heap fun q hq => (N q (s1 q hq)).1
  obtain ⟨bs, rb⟩ := r2 s.heap fun q hq => (N q (s2 q hq)).1
  exact ne_dataH (.list (N.get h1) rfl rfl ra) (.list (N.get h2) rfl rfl rb) c1.shaped c2.shaped hu (by show Q (.bool (!PyData.eqvAll ds ds2)) s; rw [hb]; exact h)
theorem eq_LR {l l2 : Addr} {its its2 : Array Value} {n n2 : Nat} {ds ds2 : List PyData} {b : Bool} {Q : Value → Shared → Prop} (hu : A.units + 64 < cLine) (N : News h₀ L s.heap news) (h1 : (l, listOf its n) ∈ news) (h2 : (l2, listOf its2 n2) ∈ news)
    (r1 : LR W its.toList ds) (s1 : ∀ q ∈ W, q ∈ news) (r2 : LR W2 its2.toList ds2) (s2 : ∀ q ∈ W2, q ∈ news) (c1 : okL ds) (c2 : okL ds2) (hb : PyData.eqvAll ds ds2 = b) (h : Q (.bool b) s) :
    wpAny (model prog w) A (compareOp .Eq (.ref l) (.ref l2)) Q E s := by
  obtain ⟨as, ra⟩ := r1 s.heap fun q hq => (N q (s1 q hq)).1
  obtain ⟨bs, rb⟩ := r2 s.heap fun q hq => (N q (s2 q hq)).1
  exact eq_dataH (.list (N.get h1) rfl rfl ra) (.list (N.get h2) rfl rfl rb) c1.shaped c2.shaped hu (by show Q (.bool (PyData.eqvAll ds ds2)) s; rw [hb]; exact h)
end
theorem eqvAll_refl {ds : List PyData} (h : okL ds) : PyData.eqvAll ds ds = true := eqv_refl (.list ds) h.1
end -- SE
section -- SL
open PySem PySem.W PySem.Calls PyProof.Rows PyProof.V
set_option Elab.async false
/-- the names know at least what they knew -/
def Ext (m₀ m : Str → Option Value) : Prop := ∃ vl : Str → Option Value, m = fun z => (m₀ z).orElse fun _ => vl z
theorem Ext.of {m₀ m : Str → Option Value} (h : ∀ z v, m₀ z = some v → m z = some v) : Ext m₀ m := ⟨m, funext fun z => by
  cases e : m₀ z with
  | none => rfl
  | some v => exact h z v e⟩
theorem Ext.refl (m : Str → Option Value) : Ext m m := Ext.of fun _ _ h => h
theorem Ext.le {m₀ m : Str → Option Value} (h : Ext m₀ m) : ∀ z v, m₀ z = some v → m z = some v := by
  obtain ⟨vl, rfl⟩ := h
  intro z v e
  simp [e]
theorem Ext.set {m₀ m : Str → Option Value} {x : Str} {v : Value} (h : Ext m₀ m) (hx : m₀ x = none) : Ext m₀ (fun y => if y = x then some v else m y) := Ext.of fun z u e => by
  by_cases hz : z = x
  · subst hz; rw [hx] at e; cases e
  · simp only [hz, if_false]; exact h.le z u e
theorem allObj_mono {ws : List (Addr × String)} : ∀ {k k' : List (Addr × Obj) → Prop}, AllObj ws k → (∀ its, its.map (·.1) = ws.map (·.1) → k its → k' its) → AllObj ws k' := by
  induction ws with
  | nil => intro k k' h f; exact f [] rfl h
  | cons p r ih =>
    intro k k' h f o ho
    exact ih (h o ho) fun its e x => f ((p.1, o) :: its) (by rw [List.map_cons, List.map_cons, e]) x
section
variable {prog : Program} {w : World} {A : Around} {E : Value → Shared → Prop} {s : Shared} {env : Env} {h₀ : Heap} {target : Expr} {body : List Stmt} {Q : Flow → Shared → Prop}
theorem unrPostW_mono {L : Addr} {s₁ : Shared} {its : List (Addr × Obj)} {rest rest' : (Str → Option Value) → List (Addr × Obj) → Prop} {f : Flow} {s₂ : Shared} (h : UnrPostW h₀ L s₁ its rest Q f s₂)
    (k : ∀ m n, (∀ p ∈ n, ∀ q ∈ its, p.1 ≠ q.1) → rest m n → rest' m n) : UnrPostW h₀ L s₁ its rest' Q f s₂ := by
  have e : UnrEndW h₀ L s₁ its rest s₂ → UnrEndW h₀ L s₁ its rest' s₂ := fun ⟨h', tk, m', n', e, F, N, o, r⟩ => ⟨h', tk, m', n', e, F, N, o, k _ _ o r⟩
  cases f with
  | ret v => exact h
  | brk => exact h
  | next => exact e h
  | cont => exact e h
theorem items_of_inv {ws : List (Addr × String)} {keep : List (Addr × Obj)} {xs : List Itm} (Inv : Nat → (Str → Option Value) → List (Addr × Obj) → Prop) (hk : ∀ i m n, Inv i m n → SubL keep n)
    (turn : ∀ i a m news v h tk, xs[i]? = some a → Inv i m news → a.Is v h → Fr h₀ env.locals h m → AllObj ws (fun its => News h₀ env.locals h (its ++ news) → (∀ p ∈ news, ∀ q ∈ its, p.1 ≠ q.1) →
      wpAny (model prog w) A (assign target env v) (fun _ s₂ => wpAny (model prog w) A (execs body env) (UnrPostW h₀ env.locals { s with heap := h, toks := tk } its (Inv (i + 1)) Q) E s₂) E { s with heap := h, toks := tk }))
    (done : ∀ m news h tk, Inv xs.length m news → Fr h₀ env.locals h m → News h₀ env.locals h news → Q .next { s with heap := h, toks := tk }) :
    ∀ k i m news, i + k = xs.length → (∀ p ∈ news, ∀ q ∈ ws, p.1 ≠ q.1) → Inv i m news → ItemsRest prog w A E h₀ env target body Q s ws keep (xs.drop i) m news
  | 0, i, m, news, e, ho, hi => by
    have e' : i = xs.length := e
    subst e'
    rw [List.drop_length]
    exact fun h tk F N => done m news h tk hi F N
  | k + 1, i, m, news, e, ho, hi => by
    have hlt : i < xs.length := by omega
    rw [List.drop_eq_getElem_cons hlt]
    intro v h tk ha F
    refine allObj_mono (turn i _ m news v h tk (List.getElem?_eq_getElem hlt) hi ha F) fun its em t N => ?_
    have off : ∀ p ∈ news, ∀ q ∈ its, p.1 ≠ q.1 := fun p hp q hq => by
      have hq1 : q.1 ∈ ws.map (·.1) := em ▸ List.mem_map_of_mem hq
      obtain ⟨q', hq', e'⟩ := List.mem_map.mp hq1
      rw [← e']; exact ho p hp q' hq'
    refine wpAny_mono (t N off) (fun _ s₂ h₂ => wpAny_mono h₂ (fun f s₃ p => unrPostW_mono p fun m' n' o r => ⟨hk _ _ _ r, ?_⟩) fun _ _ z => z) fun _ _ z => z
    refine items_of_inv Inv hk turn done k (i + 1) m' n' (by omega) (fun p hp q hq => ?_) r
    have hq1 : q.1 ∈ its.map (·.1) := em ▸ List.mem_map_of_mem hq
    obtain ⟨q', hq', e'⟩ := List.mem_map.mp hq1
    rw [← e']; exact o p hp q' hq'
theorem list_loop {ax : Addr} {vs : List Value} {n : Nat} {m₀ : Str → Option Value} {news : List (Addr × Obj)} (F : Fr h₀ env.locals s.heap m₀) (hh : A.handled = none) (N : News h₀ env.locals s.heap news) (hm : (ax, listOf vs.toArray n) ∈ news)
    (Inv : Nat → (Str → Option Value) → List (Addr × Obj) → Prop) (hk : ∀ i m n', Inv i m n' → (ax, listOf vs.toArray n) ∈ n') (h0 : Inv 0 m₀ news)
    (turn : ∀ i v m news h tk I oI, vs[i]? = some v → Inv i m news → Fr h₀ env.locals h m → News h₀ env.locals h ((I, oI) :: news) → (∀ p ∈ news, p.1 ≠ I) →
      wpAny (model prog w) A (assign target env v) (fun _ s₂ => wpAny (model prog w) A (execs body env) (UnrPostW h₀ env.locals { s with heap := h, toks := tk } [(I, oI)] (Inv (i + 1)) Q) E s₂) E { s with heap := h, toks := tk })
    (done : ∀ m news h tk, Inv vs.length m news → Fr h₀ env.locals h m → News h₀ env.locals h news → Q .next { s with heap := h, toks := tk }) :
    wpAny (model prog w) A (pyIter (.ref ax)) (fun it s₂ => TurnsAt prog w A h₀ env target body Q E it s₂) E s := by
  refine iter_listTurns hh F N hm rfl rfl fun I hI => ?_
  have := items_of_inv (prog := prog) (w := w) (A := A) (E := E) (s := s) (env := env) (h₀ := h₀) (target := target) (body := body) (Q := Q) (ws := [(I, "list_iterator")]) (keep := [(ax, listOf vs.toArray n)]) (xs := vs.map .val) Inv
    (fun i m n' hi => ⟨hk i m n' hi, trivial⟩) (fun i a m news v h tk ha hi hv Fh => ?_) (fun m news h tk hi => done m news h tk (by simpa using hi)) (vs.map Itm.val).length 0 m₀ news (by simp) (fun p hp q hq => by rw [List.mem_singleton.mp hq]; exact Nat.ne_of_lt (hI p hp)) h0
  · simpa using this
  · rw [List.getElem?_map] at ha
    obtain ⟨v', hv', rfl⟩ := Option.map_eq_some_iff.mp ha
    have e : v = v' := hv
    subst e
    refine AllObj.cons fun o _ => AllObj.nil fun Nh off => ?_
    exact turn i v m news h tk I o hv' hi Fh Nh fun p hp => off p hp _ (.head _)
theorem enum_loop {elts : List Expr} {k : Nat} {pos : Pos} {ax : Addr} {vs : List Value} {n : Nat} {m₀ : Str → Option Value} {news : List (Addr × Obj)} (F : Fr h₀ env.locals s.heap m₀) (hh : A.handled = none) (N : News h₀ env.locals s.heap news) (hm : (ax, listOf vs.toArray n) ∈ news)
    (Inv : Nat → (Str → Option Value) → List (Addr × Obj) → Prop) (hk : ∀ i m n', Inv i m n' → (ax, listOf vs.toArray n) ∈ n') (h0 : Inv 0 m₀ news)
    (turn : ∀ i v m news h tk I oI oJ T t, vs[i]? = some v → Inv i m news → Fr h₀ env.locals h m → News h₀ env.locals h ((I + 1, oJ) :: (I, oI) :: news) → (∀ p ∈ news, p.1 ≠ I ∧ p.1 ≠ I + 1) → IsTup h T #[.int (i : Nat) t, v] →
      wpAny (model prog w) A (assign (.Tuple elts k pos) env (.ref T)) (fun _ s₂ => wpAny (model prog w) A (execs body env) (UnrPostW h₀ env.locals { s with heap := h, toks := tk } [(I + 1, oJ), (I, oI)] (Inv (i + 1)) Q) E s₂) E { s with heap := h, toks := tk })
    (done : ∀ m news h tk, Inv vs.length m news → Fr h₀ env.locals h m → News h₀ env.locals h news → Q .next { s with heap := h, toks := tk }) :
    wpAny (model prog w) A (call (.type "enumerate") [.ref ax]) (fun xv s₁ => wpAny (model prog w) A (pyIter xv) (fun it s₂ => TurnsAt prog w A h₀ env (.Tuple elts k pos) body Q E it s₂) E s₁) E s := by
  refine ktu_enum hh F N hm rfl rfl rfl fun I hI => ?_
  have := items_of_inv (prog := prog) (w := w) (A := A) (E := E) (s := s) (env := env) (h₀ := h₀) (target := .Tuple elts k pos) (body := body) (Q := Q) (ws := [(I + 1, "enumerate"), (I, "list_iterator")]) (keep := [(ax, listOf vs.toArray n)]) (xs := enumItems 0 vs) Inv
    (fun i m n' hi => ⟨hk i m n' hi, trivial⟩) (fun i a m news v h tk ha hi hv Fh => ?_) (fun m news h tk hi => done m news h tk (by rw [enumItems_length] at hi; exact hi)) (enumItems 0 vs).length 0 m₀ news (by simp) (fun p hp q hq => by
      rcases List.mem_cons.mp hq with rfl | hq
      · exact Nat.ne_of_lt (Nat.lt_succ_of_lt (hI p hp))
      · rw [List.mem_singleton.mp hq]; exact Nat.ne_of_lt (hI p hp)) h0
  · simpa using this
  · have hlt : i < vs.length := by
      have := (List.getElem?_eq_some_iff.mp ha).1
      rw [enumItems_length] at this; exact this
    have hg := enumItems_get vs 0 i (List.getElem?_eq_getElem hlt)
    rw [hg] at ha
    obtain rfl := Option.some.inj ha
    obtain ⟨T, t, rfl, hT⟩ := hv
    rw [Nat.zero_add] at hT
    refine AllObj.cons fun o _ => AllObj.cons fun o2 _ => AllObj.nil fun Nh off => ?_
    exact turn i _ m news h tk I o2 o T t (List.getElem?_eq_getElem hlt) hi Fh Nh (fun p hp => ⟨off p hp _ (.tail _ (.head _)), off p hp _ (.head _)⟩) hT
theorem range_loop {x : Str} {px : Pos} {r : Addr} {a b c : Int} {t₀ u₀ v₀ : Tok} {n : Nat} {m₀ : Str → Option Value} {news : List (Addr × Obj)} (F : Fr h₀ env.locals s.heap m₀) (hh : A.handled = none) (hr : IsRange s.heap r a b c t₀ u₀ v₀)
    (hsmall : Builtin.Range.small a b c = true) (hn : Builtin.Range.rangeSize a b c = (n : Int)) (N : News h₀ env.locals s.heap news)
    (Inv : Nat → (Str → Option Value) → List (Addr × Obj) → Prop) (h0 : Inv 0 m₀ news)
    (turn : ∀ i t m news h tk I oI, i < n → Inv i m news → Fr h₀ env.locals h m → News h₀ env.locals h ((I, oI) :: news) → (∀ p ∈ news, p.1 ≠ I) →
      wpAny (model prog w) A (assign (.Name x px) env (.int (a + (i : Nat) * c) t)) (fun _ s₂ => wpAny (model prog w) A (execs body env) (UnrPostW h₀ env.locals { s with heap := h, toks := tk } [(I, oI)] (Inv (i + 1)) Q) E s₂) E { s with heap := h, toks := tk })
    (done : ∀ m news h tk, Inv n m news → Fr h₀ env.locals h m → News h₀ env.locals h news → Q .next { s with heap := h, toks := tk }) :
    wpAny (model prog w) A (pyIter (.ref r)) (fun it s₂ => TurnsAt prog w A h₀ env (.Name x px) body Q E it s₂) E s := by
  refine wpAny_pyIter_range hr hsmall ?_
  have hI : ∀ p ∈ news, p.1 < s.heap.objs.size := fun p hp => Heap.lt_size (N p hp).1
  have := items_of_inv (prog := prog) (w := w) (A := A) (E := E) (s := s) (env := env) (h₀ := h₀) (target := .Name x px) (body := body) (Q := Q) (ws := [(s.heap.objs.size, "range_iterator")]) (keep := []) (xs := (List.range n).map fun (i : Nat) => .tok fun t => .int (a + (i : Int) * c) t) Inv
    (fun i m n' hi => trivial) (fun i a' m news v h tk ha hi hv Fh => ?_) (fun m news h tk hi => done m news h tk (by simpa using hi)) _ 0 m₀ news (Nat.zero_add _) (fun p hp q hq => by rw [List.mem_singleton.mp hq]; exact Nat.ne_of_lt (hI p hp)) h0
  · rw [List.drop_zero] at this
    refine ktu_core (ws := [(s.heap.objs.size, "range_iterator")]) (tk0 := s.toks) (keep := []) (KTurns.ofWalks ((Walks.range hh s.heap.objs.size a c n).bound) fun i v s Q E st q => ?_) (xs := (List.range n).map fun (i : Nat) => .tok fun t => .int (a + (i : Int) * c) t) (by simp) (fun i v h hp => ?_) (fun i h st => ?_) (fun b hb => ?_) (fun b hb => hb) (fun b hb => .inl hb) ?_ (fun p hp hI' => ?_) ?_ (F.push _) (fun p hp => ⟨Heap.get?_push_of_some _ (N p hp).1, (N p hp).2⟩) trivial this
    · exact wpAny_pure q
    · obtain ⟨hlt, t, rfl⟩ := hp
      exact ⟨.tok fun t => .int (a + (i : Int) * c) t, by rw [List.getElem?_map, List.getElem?_range hlt]; rfl, t, rfl⟩
    · exact ⟨[(s.heap.objs.size, _)], ⟨⟨rfl, rfl⟩, trivial⟩, fun p hp => by rw [List.mem_singleton.mp hp]; exact st⟩
    · have hb' : b = s.heap.objs.size := List.mem_singleton.mp hb
      rw [hb']
      exact ⟨List.mem_cons_self .., next_is_new F⟩
    · intro hI
      exact absurd F.ns.lt ((List.mem_singleton.mp hI) ▸ Nat.lt_irrefl _)
    · exact absurd (Heap.lt_size (N p hp).1) ((List.mem_singleton.mp hI') ▸ Nat.lt_irrefl _)
    · show IsRangeIter _ _ _ _ _
      rw [hn]
      simpa using Heap.get?_push_size _ rfl
  · obtain ⟨hlt, ha⟩ := List.getElem?_eq_some_iff.mp ha
    rw [List.getElem_map, List.getElem_range] at ha
    subst ha
    obtain ⟨t, rfl⟩ := hv
    refine AllObj.cons fun o _ => AllObj.nil fun Nh off => ?_
    exact turn i t m news h tk _ o (by simpa using hlt) hi Fh Nh fun p hp => off p hp _ (.head _)
end
end -- SL
section -- SP
open PySem PySem.W PySem.Calls PyProof.Rows PyProof.V PyProof.Rows.LCg PyProof.Rows.LCt
set_option Elab.async false
set_option maxRecDepth 100000
section
variable {prog : Program} {w : World} {A : Around} {E : Value → Shared → Prop} {s : Shared} {h₀ : Heap} {L : Addr} {m : Str → Option Value} {env : Env} {ct elt : Expr} {x x₂ : Str} {scope : Scope} {cl : List (Str × Addr)}
/-- one turn of a comprehension over pairs with a test, told by an invariant -/
def Turn2 (prog : Program) (w : World) (A : Around) (h₀ : Heap) (L : Addr) (m : Str → Option Value) (env : Env) (ct elt : Expr) (x x₂ : Str) (scope : Scope) (cl : List (Str × Addr)) (s : Shared) (S : List (Addr × Obj) → Prop) (vs : List Value) (Inv : Nat → List Value → List (Addr × Obj) → Prop) : Prop :=
  ∀ i v ys nw, vs[i]? = some v → Inv i ys nw → ∃ T va vb nt, v = .ref T ∧ (T, ({ cls := .type "tuple", data := .seq #[va, vb] nt } : Obj)) ∈ nw ∧
    ∀ I oI C oC D m₂ h tk (E' : Value → Shared → Prop), NsObj oC m₂ → m₂ x = some va → m₂ x₂ = some vb → Fr h₀ L h m → News h₀ L h ((I, oI) :: (C, oC) :: (D, lst ys) :: nw) → Off3 I C D nw → ((@Ne Nat I C) ∧ (@Ne Nat I D) ∧ (@Ne Nat C D)) →
      wpAny (model prog w) A (isTrue ct (compEnvC scope cl C env) (eval ct (compEnvC scope cl C env))) (fun ok s' => if ok = true then
        wpAny (model prog w) A (eval elt (compEnvC scope cl C env)) (CompEnd h₀ L m { s with heap := h, toks := tk } I oI C oC D (lst ys) S (fun y nw' => Inv (i + 1) (ys ++ [y]) nw')) E' s'
        else CompEnd h₀ L m { s with heap := h, toks := tk } I oI C oC D (lst ys) S (fun _ nw' => Inv (i + 1) ys nw') Value.none s') E' { s with heap := h, toks := tk }
def Src2 (prog : Program) (w : World) (A : Around) (h₀ : Heap) (L : Addr) (m : Str → Option Value) (env : Env) (ct elt : Expr) (x x₂ : Str) (scope : Scope) (cl : List (Str × Addr)) (Fin : Shared → List Value → List (Addr × Obj) → Prop) (xv : Value) (s₁ : Shared) : Prop :=
  ∃ ax vs k news Inv, xv = .ref ax ∧ A.handled = none ∧ Fr h₀ L s₁.heap m ∧ News h₀ L s₁.heap news ∧ (ax, listOf vs.toArray k) ∈ news ∧ vs.length ≤ sizeLine ∧ Inv 0 [] news ∧
    ∀ s₂ : Shared, (∃ h, s₂ = { s₁ with heap := h }) → Turn2 prog w A h₀ L m env ct elt x x₂ scope cl s₂ (fun nw => (ax, listOf vs.toArray k) ∈ nw) vs Inv ∧ ∀ ys nw, Inv vs.length ys nw → Fin s₂ ys nw
theorem comp2_block {iter : Expr} {px px₂ tp : Pos} {kk : Nat} {pos : Pos} {s₂ : Shared} {I ax : Addr} {vs : List Value} {k : Nat} {news : List (Addr × Obj)} {Inv : Nat → List Value → List (Addr × Obj) → Prop} {RR : Value → Addr → Result → Shared → Prop}
    (hh : A.handled = none) (hne : ax ≠ I) (hsz : vs.length ≤ sizeLine) (hit : s₂.heap.IsListIter I ax 0)
    (hcell : ∀ y ∈ scope.names, y.2 ≠ .cell) (hkind : scope.kind = .function) (hx : scope.names.lookup x = some .local) (hx₂ : scope.names.lookup x₂ = some .local) (hxx : ¬ x = x₂)
    (F : Fr h₀ L s₂.heap m) (N : News h₀ L s₂.heap news) (hIL : L ≠ I) (hI₀ : h₀.get? I = none) (off : ∀ p ∈ news, p.1 ≠ I) (hS : (ax, listOf vs.toArray k) ∈ news) (h0 : Inv 0 [] news)
    (turn : Turn2 prog w A h₀ L m env ct elt x x₂ scope cl s₂ (fun nw => (ax, listOf vs.toArray k) ∈ nw) vs Inv)
    (hRR : ∀ D C h tk m' ys news', Fr h₀ L h m → News h₀ L h ((D, lst ys) :: news') → Off1 D news' → h.Ns C m' → h₀.get? C = none → h₀.get? D = none → C ≠ L → D ≠ L → C ≠ D → (∀ p ∈ news', p.1 ≠ C) → Inv vs.length ys news' → RR (.ref D) C (.ok .next) { s₂ with heap := h, toks := tk }) :
    wpAny (model prog w) A (newList []) (fun acc s₃ => wpAny (model prog w) A (newFunctionEnv scope env.globals cl [] env.qual none .none (some env)) (fun cenv s₄ =>
      codeAny (model prog w) A (.compStart (.ListComp elt [⟨.Tuple [.Name x px, .Name x₂ px₂] kk tp, iter, [ct], 0⟩] scope pos) 0 (.ref I) acc { cenv with scope := relabel scope env }) (RR acc cenv.locals) s₄) E s₃) E s₂ := by
  refine wpAny_newObj_type (wpAny_newFunctionEnv hcell (by intro y hy; simp at hy) (fun h₁ hns₁ hsb₁ => ?_) hkind)
  dsimp only at hns₁ hsb₁ ⊢
  generalize hg : s₂.heap.push { cls := .type "list", dict := none, data := .seq ([] : List Value).toArray } = g at hns₁ hsb₁ ⊢
  generalize hDd : s₂.heap.objs.size = D at *
  have hC : g.objs.size = D + 1 := by rw [← hg, Heap.size_push, hDd]
  generalize hCc : g.objs.size = C at *
  have lt : ∀ b o, s₂.heap.get? b = some o → @LT.lt Nat _ b D := fun b o e => hDd ▸ Heap.lt_size e
  have new : ∀ b, @LE.le Nat _ D b → h₀.get? b = none := fun b hb => by
    cases e : h₀.get? b with
    | none => rfl
    | some o => exact absurd (lt b o (F.keep b o e)) (Nat.not_lt.mpr hb)
  have neC : ∀ b, @LT.lt Nat _ b D → b ≠ C ∧ b ≠ D := fun b hb => ⟨fun e => by rw [e, hC] at hb; exact Nat.lt_irrefl _ (Nat.lt_of_succ_lt hb), Nat.ne_of_lt hb⟩
  have hDC : D ≠ C := by rw [hC]; exact Nat.ne_of_lt (Nat.lt_succ_self _)
  have hI := neC I (by obtain ⟨_, e, _⟩ := hit; exact lt _ _ e)
  have hL := neC L (hDd ▸ F.ns.lt)
  have hax := neC ax (lt _ _ (N _ hS).1)
  have old : ∀ b o, s₂.heap.get? b = some o → h₁.get? b = some o := fun b o e => hsb₁.extBut b o (neC b (lt b o e)).1 (by rw [← hg]; exact Heap.get?_push_of_some _ (Heap.get?_push_of_some _ e))
  have hacc : h₁.get? D = some (lst []) := hsb₁.extBut _ _ hDC (by rw [← hg, ← hDd]; exact Heap.get?_push_of_some _ (Heap.get?_push_size _ rfl))
  have hD₀ := new D (Nat.le_refl _)
  have hC₀ := new C (by rw [hC]; exact Nat.le_succ _)
  have loop : ∀ s₃ : Shared, s₃ = { s₂ with heap := h₁, toks := s₂.toks + ([] : List (Str × Value)).length } →
      codeAny (model prog w) A (.compLoop (.ListComp elt [⟨.Tuple [.Name x px, .Name x₂ px₂] kk tp, iter, [ct], 0⟩] scope pos) 0 (.ref I) (.ref D) (compEnvC scope cl C env)) (RR (.ref D) C) s₃ := by
    rintro s₃ rfl
    have W := Walks.list (prog := prog) (w := w) hh I ax hne vs.toArray
    have isl : ∀ {h' : Heap} {nw : List (Addr × Obj)}, News h₀ L h' nw → (ax, listOf vs.toArray k) ∈ nw → h'.IsList ax vs.toArray := fun N hm => ⟨_, N.get hm, rfl, _, rfl⟩
    refine kct_loop (fun j s' => ∃ h' tk i ys m' nw, s' = { s₂ with heap := h', toks := tk } ∧ i ≤ vs.length ∧ j = vs.length + 1 - i ∧ ys.length ≤ i ∧ h'.IsListIter I ax i ∧ Fr h₀ L h' m ∧ h'.Ns C m' ∧ News h₀ L h' ((D, lst ys) :: nw) ∧ Off3 I C D nw ∧ (ax, listOf vs.toArray k) ∈ nw ∧ Inv i ys nw) ?_ (vs.length + 1)
      ⟨h₁, _, 0, [], _, news, rfl, Nat.zero_le _, rfl, Nat.le_refl _, hit.at fun o e => old _ o e, F.keeps old, hns₁, fun p hp => ?_, Off3.of fun p hp => ⟨off p hp, neC _ (lt _ _ (N p hp).1)⟩, hS, h0⟩
    · rintro j s' ⟨h', tk, i, ys, m', nw, rfl, hi, rfl, hyl, hit', F', hn', N', off', hS', hv⟩
      have off3 := off'.mem
      have Nw : News h₀ L h' nw := fun p hp => N' p (.tail _ hp)
      have keepN : ∀ {h₂ : Heap}, (∀ b o, b ∉ [I] → h'.get? b = some o → h₂.get? b = some o) → News h₀ L h₂ ((D, lst ys) :: nw) := fun hk => news_but N' hk fun p hp => by
        rcases List.mem_cons.mp hp with rfl | hp
        · exact hI.2.symm
        · exact (off3 p hp).1
      by_cases hlt : i < vs.length
      · refine W.item i _ _ _ (by simpa using hlt) ⟨hit', isl Nw hS'⟩ fun v h₂ tk₂ hPv hst₂ hk₂ => ?_
        obtain ⟨T, va, vb, nt, rfl, hT, step⟩ := turn i v ys nw (by simpa using hPv) hv
        have N₂ := keepN hk₂
        refine letGo_listiter hst₂.1 ?_
        refine kcp_assign hh ⟨_, N₂.get (.tail _ hT), rfl, _, rfl⟩ (lookup_relabel_local hx) (lookup_relabel_local hx₂) (by simp [compEnvC, relabel, hkind]) (hn'.at' fun o e => hk₂ _ o (by simpa using hI.1.symm) e) fun h₃ tk₃ hn₃ hs₃ => ?_
        have hs₃' : ∀ c o, c ≠ C → h₂.get? c = some o → h₃.get? c = some o := hs₃
        obtain ⟨oC, heC, hoC⟩ := ns_obj hn₃
        have hit₃ : h₃.IsListIter I ax (i + 1) := hst₂.1.at fun o e => hs₃' _ o hI.1 e
        obtain ⟨oI, heI, hdI⟩ := id hit₃
        have keep3 : ∀ b o, h₂.get? b = some o → b ≠ C → h₃.get? b = some o := fun b o e hb => hs₃' b o hb e
        have F₂ : Fr h₀ L h₂ m := fr_but F' hk₂ hIL hI₀
        have F₃ : Fr h₀ L h₃ m := ⟨F₂.ns.at' fun o e => keep3 _ o e hL.1, fun b o e => keep3 b o (F₂.keep b o e) (fun q => by rw [q, hC₀] at e; cases e), F₂.above⟩
        have N₃ : News h₀ L h₃ ((I, oI) :: (C, oC) :: (D, lst ys) :: nw) := fun p hp => by
          rcases List.mem_cons.mp hp with rfl | hp
          · exact ⟨heI, hIL.symm, hI₀⟩
          rcases List.mem_cons.mp hp with rfl | hp
          · exact ⟨heC, hL.1.symm, hC₀⟩
          refine ⟨keep3 _ _ (N₂ p hp).1 ?_, (N₂ p hp).2⟩
          rcases List.mem_cons.mp hp with rfl | hp
          · exact hDC
          · exact (off3 p hp).2.1
        have fin : ∀ h₄ (ys' : List Value) nw₄ tk₄, i + 1 ≤ vs.length → ys'.length ≤ i + 1 → Fr h₀ L h₄ m → News h₀ L h₄ ((I, oI) :: (C, oC) :: (D, lst ys') :: nw₄) → Off3 I C D nw₄ → (ax, listOf vs.toArray k) ∈ nw₄ → Inv (i + 1) ys' nw₄ →
            ∃ j', j' < vs.length + 1 - i ∧ ∃ h' tk i ys m' nw, ({ s₂ with heap := h₄, toks := tk₄ } : Shared) = { s₂ with heap := h', toks := tk } ∧ i ≤ vs.length ∧ j' = vs.length + 1 - i ∧ ys.length ≤ i ∧ h'.IsListIter I ax i ∧ Fr h₀ L h' m ∧ h'.Ns C m' ∧ News h₀ L h' ((D, lst ys) :: nw) ∧ Off3 I C D nw ∧ (ax, listOf vs.toArray k) ∈ nw ∧ Inv i ys nw :=
          fun h₄ ys' nw₄ tk₄ h1 h2 F₄ N₄ o₄ hS₄ hv₄ => ⟨vs.length + 1 - (i + 1), Nat.sub_lt_sub_left (by omega) (by omega), h₄, tk₄, i + 1, ys', _, nw₄, rfl, h1, rfl, h2, ⟨oI, (N₄ _ (.head _)).1, hdI⟩, F₄, hoC.ns (N₄ _ (.tail _ (.head _))).1, fun p hp => N₄ p (.tail _ (.tail _ hp)), o₄, hS₄, hv₄⟩
        refine wpAny_mono (step I oI C oC D _ h₃ tk₃ _ hoC (by simp [hxx]) (by simp) F₃ N₃ off' ⟨hI.1, hI.2, hDC.symm⟩) (fun ok s₄ h₄ => ?_) fun _ _ e => e
        cases ok with
        | false =>
          simp only [Bool.false_eq_true, if_false] at h₄ ⊢
          obtain ⟨h₅, tk₄, nw₄, rfl, F₄, N₄, o₄, hS₄, hv₄⟩ := h₄
          exact fin h₅ ys nw₄ tk₄ hlt (Nat.le_succ_of_le hyl) F₄ N₄ o₄ hS₄ hv₄
        | true =>
          simp only [if_true] at h₄ ⊢
          refine wpAny_mono h₄ (fun y s₅ h₅ => ?_) fun _ _ e => e
          obtain ⟨h₄, tk₄, nw₄, rfl, F₄, N₄, o₄, hS₄, hv₄⟩ := h₅
          have zD := (N₄ (D, lst ys) (.tail _ (.tail _ (.head _)))).1
          refine append_at (hsz := by show ys.toArray.size ≤ sizeLine; rw [List.size_toArray]; exact Nat.le_trans (Nat.le_trans hyl hi) hsz) zD fun h₅ hs₅ hD₅ => ?_
          have off4 := o₄.mem
          refine fin h₅ (ys ++ [y]) nw₄ tk₄ hlt (by rw [List.length_append, List.length_singleton]; exact Nat.succ_le_succ hyl) (F₄.change hs₅ hL.2.symm hD₀) (fun p hp => ?_) o₄ hS₄ hv₄
          rcases List.mem_cons.mp hp with rfl | hp
          · exact ⟨hs₅.extBut _ _ hI.2 (N₄ _ (.head _)).1, hIL.symm, hI₀⟩
          rcases List.mem_cons.mp hp with rfl | hp
          · exact ⟨hs₅.extBut _ _ hDC.symm (N₄ _ (.tail _ (.head _))).1, hL.1.symm, hC₀⟩
          rcases List.mem_cons.mp hp with rfl | hp
          · exact ⟨hD₅.trans (congrArg some (lst_snoc ys y)), hL.2.symm, hD₀⟩
          · have z := N₄ p (.tail _ (.tail _ (.tail _ hp)))
            exact ⟨hs₅.extBut _ _ (off4 p hp).2.2 z.1, z.2⟩
      · obtain rfl : i = vs.length := Nat.le_antisymm hi (Nat.not_lt.mp hlt)
        refine W.done _ _ _ ⟨by simpa using hit', isl Nw hS'⟩ fun h₂ tk₂ hk₂ => ?_
        exact hRR _ _ h₂ tk₂ _ ys nw (fr_but F' hk₂ hIL hI₀) (keepN hk₂) off'.one (hn'.at' fun o e => hk₂ _ o (by simpa using hI.1.symm) e) hC₀ hD₀ hL.1.symm hL.2.symm hDC.symm (fun p hp => (off3 p hp).2.1) hv
    · rcases List.mem_cons.mp hp with rfl | hp
      · exact ⟨hacc, hL.2.symm, hD₀⟩
      · exact ⟨old _ _ (N p hp).1, (N p hp).2⟩
  exact codeAny_compStart_list (loop _ rfl) ((Walks.list hh I ax hne vs.toArray).self 0 _ _ _ ⟨hit.at (fun o e => old _ o e), ⟨_, (N.grown old).get hS, rfl, _, rfl⟩⟩ (loop _ rfl))
theorem ListComp_2 {iter : Expr} {px px₂ tp : Pos} {kk : Nat} {pos : Pos} {Q : Value → Shared → Prop} (_F₀ : Fr h₀ L s.heap m)
    (hclos : closureFor scope env = pure cl) (hcell : ∀ y ∈ scope.names, y.2 ≠ .cell) (hkind : scope.kind = .function)
    (hnames : ∀ y ∈ scope.names, y.2 = .local → scope.names.lookup y.1 = some .local) (hx : scope.names.lookup x = some .local) (hx₂ : scope.names.lookup x₂ = some .local) (hxx : ¬ x = x₂)
    (h : wpAny (model prog w) A (eval iter env) (Src2 prog w A h₀ L m env ct elt x x₂ scope cl (fun s₂ => FinE h₀ L m s₂ Q)) E s)
    (hs : ∀ x, foldedSetIterable iter env x = pure x := by intro _; rfl) :
    wpAny (model prog w) A (eval (.ListComp elt [⟨.Tuple [.Name x px, .Name x₂ px₂] kk tp, iter, [ct], 0⟩] scope pos) env) Q E s := by
  rw [eval_ListComp]
  refine wpAny_comprehension_free (use := none) rfl hs hclos hkind hnames (wpAny_mono h (fun xv s₁ h₁ => ?_) fun _ _ e => e)
  obtain ⟨ax, vs, k, news, Inv, rfl, hh, F, N, hm, hsz, h0, R⟩ := h₁
  have hl : s₁.heap.IsList ax vs.toArray := ⟨_, N.get hm, rfl, _, rfl⟩
  have hlt : ax < s₁.heap.objs.size := Heap.lt_size (N.get hm)
  refine wpAny_pyIter_list hl ?_
  have up : ∀ b o, s₁.heap.get? b = some o → (s₁.heap.push { cls := .type "list_iterator", data := .fields #[.ref ax, .int 0 0] }).get? b = some o := fun b o e => Heap.get?_push_of_some _ e
  obtain ⟨turn, fin⟩ := R { s₁ with heap := s₁.heap.push { cls := .type "list_iterator", data := .fields #[.ref ax, .int 0 0] } } ⟨_, rfl⟩
  refine comp2_block hh (Nat.ne_of_lt hlt) hsz ⟨_, Heap.get?_push_size _ rfl, rfl, rfl⟩ hcell hkind hx hx₂ hxx (F.keeps up) (N.grown up) (Nat.ne_of_lt F.ns.lt) (next_is_new F) (fun p hp => Nat.ne_of_lt (Heap.lt_size (N p hp).1)) hm h0 turn ?_
  intro D C h tk m' ys news' F' N' o1 hn hC₀ hD₀ hCL hDL hCD offC hi
  refine ⟨m', hn, fun h'' hs'' => fin ys news' hi D h'' tk (F'.change hs'' hCL hC₀) (fun p hp => ?_) o1⟩
  refine ⟨hs''.extBut _ _ ?_ (N' p hp).1, (N' p hp).2⟩
  rcases List.mem_cons.mp hp with rfl | hp
  · exact Ne.symm hCD
  · exact offC p hp
end
end -- SP
section -- SF
open PySem PySem.W PySem.Calls PyProof.Rows PyProof.V PySem.SeqAt
set_option Elab.async false
/-- the pairs of a plain dict and what they are -/
inductive FK : List (KV × Value) → List (KV × PyData) → Prop
  | nil : FK [] []
  | cons {k : KV} {v : Value} {d : PyData} {kvs : List (KV × Value)} {t : List (KV × PyData)} : Flat v d → FK kvs t → FK ((k, v) :: kvs) ((k, d) :: t)
def pput (t : List (KV × PyData)) (k : KV) (d : PyData) : List (KV × PyData) := if k ∈ t.map (·.1) then t.map (fun e => if e.1 = k then (e.1, d) else e) else t ++ [(k, d)]
theorem FK.keys {kvs : List (KV × Value)} {t : List (KV × PyData)} (h : FK kvs t) : kvs.map (·.1) = t.map (·.1) := by
  induction h with
  | nil => rfl
  | cons _ _ ih => rw [List.map_cons, List.map_cons, ih]
theorem FK.length {kvs : List (KV × Value)} {t : List (KV × PyData)} (h : FK kvs t) : kvs.length = t.length := by
  induction h with
  | nil => rfl
  | cons _ _ ih => rw [List.length_cons, List.length_cons, ih]
theorem FK.at {kvs : List (KV × Value)} {t : List (KV × PyData)} (h : FK kvs t) (k : KV) : (valueAt kvs k = none ∧ t.lookup k = none) ∨ ∃ v d, valueAt kvs k = some v ∧ t.lookup k = some d ∧ Flat v d := by
  induction h with
  | nil => exact .inl ⟨rfl, rfl⟩
  | @cons k' v d kvs t f h ih =>
    by_cases e : k' = k
    · subst e
      exact .inr ⟨v, d, by simp [valueAt], by simp [List.lookup], f⟩
    · have e' : (k == k') = false := beq_eq_false_iff_ne.mpr fun q => e q.symm
      rcases ih with ⟨a, b⟩ | ⟨v', d', a, b, c⟩
      · exact .inl ⟨by unfold valueAt at *; rw [List.find?_cons]; simpa [e] using a, by rw [List.lookup_cons, e']; exact b⟩
      · exact .inr ⟨v', d', by unfold valueAt at *; rw [List.find?_cons]; simpa [e] using a, by rw [List.lookup_cons, e']; exact b, c⟩
theorem FK.map {kvs : List (KV × Value)} {t : List (KV × PyData)} (h : FK kvs t) (k : KV) {v : Value} {d : PyData} (f : Flat v d) : FK (kvs.map fun kv => if kv.1 = k then (kv.1, v) else kv) (t.map fun e => if e.1 = k then (e.1, d) else e) := by
  induction h with
  | nil => exact .nil
  | @cons k' v' d' kvs t f' h ih =>
    rw [List.map_cons, List.map_cons]
    by_cases e : k' = k
    · simp only [e, if_true]; exact .cons f (by simpa [e] using ih)
    · simp only [e, if_false]; exact .cons f' ih
theorem FK.snoc {kvs : List (KV × Value)} {t : List (KV × PyData)} (h : FK kvs t) (k : KV) {v : Value} {d : PyData} (f : Flat v d) : FK (kvs ++ [(k, v)]) (t ++ [(k, d)]) := by
  induction h with
  | nil => exact .cons f .nil
  | cons a _ ih => exact .cons a ih
theorem FK.put {kvs : List (KV × Value)} {t : List (KV × PyData)} (h : FK kvs t) (k : KV) {v : Value} {d : PyData} (f : Flat v d) : FK (stored kvs k v) (pput t k d) := by
  unfold stored pput
  have e : (kvs.any fun kv => decide (kv.1 = k)) = decide (k ∈ t.map (·.1)) := by
    rw [← h.keys]
    rw [Bool.eq_iff_iff]
    simp [List.any_eq_true]
  rw [e]
  by_cases hk : k ∈ t.map (·.1)
  · simp only [hk, decide_true, if_true]; exact h.map k f
  · simp only [hk, decide_false, Bool.false_eq_true, if_false]; exact h.snoc k f
/-- a plain dict -/
def PD (w : World) (o : Obj) (t : List (KV × PyData)) : Prop := ∃ kvs, o.IsDictOf (MK w) kvs ∧ FK kvs t
theorem PD.nil {w : World} {o : Obj} {K' : Type} [DecidableEq K'] {knd' : KeyKind PySem.Challenge.rw_sj0190_01.row.prog w K'} (hd : o.IsDictOf knd' []) : PD w o [] := by
  obtain ⟨es, ep, hc, hdat, hk, hp, _⟩ := hd
  have he : es.toList = [] := List.length_eq_zero_iff.mp hp.length
  have he' : es = #[] := by rw [← Array.toArray_toList (xs := es), he]
  subst he'
  exact ⟨[], ⟨#[], ep, hc, hdat, fun e h => by simp at h, .nil, .nil⟩, .nil⟩
section
variable {w : World} {A : Around} {E : Value → Shared → Prop} {s : Shared} {h₀ : Heap} {L : Addr} {m : Str → Option Value} {news : List (Addr × Obj)} {d : Addr} {o : Obj} {t : List (KV × PyData)} {k : KV} {key v : Value}
theorem pd_method {pl : Sem Bool} {Q : Value × List Value → Shared → Prop} (N : News h₀ L s.heap news) (hp : (d, o) ∈ news) (hd : PD w o t) (h : Q (.builtin "dict.get", [.ref d]) s) : wpAny (model PySem.Challenge.rw_sj0190_01.row.prog w) A (getMethod (.ref d) "get" pl) Q E s :=
  let ⟨_, hd, _⟩ := hd; kdg_method N hp hd h
theorem pd_get {dflt : Value} {dd : PyData} {Q : Value → Shared → Prop} (N : News h₀ L s.heap news) (hp : (d, o) ∈ news) (hd : PD w o t) (lo : (d == sysModules) = false) (hkey : KV.is k key = true) (hdd : Flat dflt dd)
    (h : ∀ r tk, Flat r ((t.lookup k).getD dd) → Q r { s with toks := tk }) : wpAny (model PySem.Challenge.rw_sj0190_01.row.prog w) A (call (.builtin "dict.get") [.ref d, key, dflt]) Q E s := by
  obtain ⟨kvs, hd, fk⟩ := hd
  rcases fk.at k with ⟨a, b⟩ | ⟨v, dv, a, b, c⟩
  · exact kdg_get2 (knd := MK w) N hp hd lo hkey none a (h _ _ (by rw [b]; exact hdd))
  · exact kdg_get2 (knd := MK w) N hp hd lo hkey (some v) a (h _ _ (by rw [b]; exact c))
theorem pd_item {dv : PyData} {value slice : PySem.Expr} {Q : Value → Shared → Prop} (N : News h₀ L s.heap news) (hp : (d, o) ∈ news) (hd : PD w o t) (hkey : KV.is k key = true) (hl : t.lookup k = some dv) (h : ∀ r tk, Flat r dv → Q r { s with toks := tk })
    (hs : subscripted slice false (.ref d) key = operate [.ref d, key] (getItem (.ref d) key) := by with_unfolding_all rfl) (hg : ∀ r, letTemporaryGo value (.ref d) r = pure () := by intro _; with_unfolding_all rfl) :
    wpAny (model PySem.Challenge.rw_sj0190_01.row.prog w) A (subscriptTail value slice (.ref d) key) Q E s := by
  obtain ⟨kvs, hd, fk⟩ := hd
  rcases fk.at k with ⟨a, b⟩ | ⟨v, dv', a, b, c⟩
  · rw [b] at hl; cases hl
  · rw [b] at hl; obtain rfl := Option.some.inj hl
    exact kda_item (knd := MK w) N hp hd hkey a (h _ _ c) hs hg
theorem pd_set {dv : PyData} {g : Obj → List (Addr × Obj)} {Q : Unit → Shared → Prop} (F : Fr h₀ L s.heap m) (N : News h₀ L s.heap news) (U : UpdF d o news g) (hd : PD w o t) (hkey : KV.is k key = true) (hsz : t.length ≤ 1000) (hv : Flat v dv)
    (h : ∀ h' o' tk, Fr h₀ L h' m → News h₀ L h' (g o') → PD w o' (pput t k dv) → Q () { s with heap := h', toks := tk }) : wpAny (model PySem.Challenge.rw_sj0190_01.row.prog w) A (setItem (.ref d) key v) Q E s := by
  obtain ⟨kvs, hd, fk⟩ := hd
  exact kda_set (knd := MK w) F N U hd hkey (by rw [sizeLine_eq, fk.length]; omega) fun h' o' F' N' hd' => h h' o' _ F' N' ⟨_, hd', fk.put k hv⟩
theorem IsVal.shaped {x : PyData} (h : IsVal x) : shaped x = true := by
  rcases h with ⟨n, rfl⟩ | ⟨y, hy, rfl⟩
  · rfl
  · unfold PySem.SeqAt.shaped
    rw [Bool.and_eq_true, decide_eq_true_eq]
    exact ⟨hy, by simp [PyData.depth]⟩
theorem ne_flat {a b : Value} {x y : PyData} {c : Bool} {Q : Value → Shared → Prop} (hu : A.units + 64 < cLine) (ha : Flat a x) (hb : Flat b y) (vx : IsVal x) (vy : IsVal y) (hc : PyData.eqv x y = c) (h : Q (.bool (!c)) s) :
    wpAny (model PySem.Challenge.rw_sj0190_01.row.prog w) A (compareOp .NotEq a b) Q E s := ne_dataH (ha s.heap) (hb s.heap) vx.shaped vy.shaped hu (by rw [hc]; exact h)
theorem eq_flat {a b : Value} {x y : PyData} {c : Bool} {Q : Value → Shared → Prop} (hu : A.units + 64 < cLine) (ha : Flat a x) (hb : Flat b y) (vx : IsVal x) (vy : IsVal y) (hc : PyData.eqv x y = c) (h : Q (.bool c) s) :
    wpAny (model PySem.Challenge.rw_sj0190_01.row.prog w) A (compareOp .Eq a b) Q E s := eq_dataH (ha s.heap) (hb s.heap) vx.shaped vy.shaped hu (by rw [hc]; exact h)
end
end -- SF
section -- SG
open PySem PySem.W PySem.Calls PyProof.Rows PyProof.V
set_option Elab.async false
theorem min_nat {x : Int} {n : Nat} (h : 0 ≤ x) : max 0 (min x (n : Int)) = ((min x.toNat n : Nat) : Int) := by omega
theorem pick_from {vs : List Value} {x : Int} (h : 0 ≤ x) : slicePick vs.toArray (some x) none none = (vs.drop x.toNat).toArray := by
  have e : sliceBounds (some x) none none vs.toArray.size = (((min x.toNat vs.toArray.size : Nat) : Int), ((vs.toArray.size : Nat) : Int), 1) := by
    simp only [sliceBounds, Option.getD_none, show (1 : Int) > 0 by decide, if_true, if_neg (Int.not_lt.mpr h)]
    rw [min_nat h]
  rw [kmk_pick_nat _ e]
  congr 1
  simp only [List.size_toArray]
  rw [kmk_drop_min, List.take_of_length_le]
  rw [List.length_drop]; exact Nat.sub_le_sub_left (Nat.min_le_left _ _) _
theorem pick_upto {vs : List Value} {y : Int} (h : 0 ≤ y) : slicePick vs.toArray none (some y) none = (vs.take y.toNat).toArray := by
  have e : sliceBounds none (some y) none vs.toArray.size = (((0 : Nat) : Int), ((min y.toNat vs.toArray.size : Nat) : Int), 1) := by
    simp only [sliceBounds, Option.getD_none, show (1 : Int) > 0 by decide, if_true, if_neg (Int.not_lt.mpr h)]
    rw [min_nat h]; rfl
  rw [kmk_pick_nat _ e]
  congr 1
  simp only [List.size_toArray, Nat.sub_zero, List.drop_zero]
  rw [kmk_take_min]
theorem pick_run {vs : List Value} {x y : Int} (h : 0 ≤ x) (h2 : x ≤ y) : slicePick vs.toArray (some x) (some y) none = ((vs.drop x.toNat).take (y.toNat - x.toNat)).toArray := by
  have e : sliceBounds (some x) (some y) none vs.toArray.size = (((min x.toNat vs.toArray.size : Nat) : Int), ((min y.toNat vs.toArray.size : Nat) : Int), 1) := by
    simp only [sliceBounds, Option.getD_none, show (1 : Int) > 0 by decide, if_true, if_neg (Int.not_lt.mpr h), if_neg (Int.not_lt.mpr (Int.le_trans h h2))]
    rw [min_nat h, min_nat (Int.le_trans h h2)]
  rw [kmk_pick_nat _ e]
  congr 1
  simp only [List.size_toArray]
  rw [kmk_drop_min]
  by_cases hl : x.toNat ≤ vs.length
  · rw [Nat.min_eq_left hl, ← kmk_take_min (vs.drop x.toNat) (y.toNat - x.toNat), List.length_drop]
    congr 1
    exact (Nat.sub_min_sub_right ..).symm
  · rw [List.drop_of_length_le (Nat.le_of_lt (Nat.not_le.mp hl))]; simp
section
variable {prog : Program} {w : World} {A : Around} {E : Value → Shared → Prop} {s : Shared} {h₀ : Heap} {L l : Addr} {m : Str → Option Value} {news : List (Addr × Obj)} {vs : List Value} {n : Nat} {vl vu : Value} {x y : Int} {value slice : Expr} {Q : Value → Shared → Prop}
theorem slice_from (F : Fr h₀ L s.heap m) (N : News h₀ L s.heap news) (hm : (l, listOf vs.toArray n) ∈ news) (pl : IsPart vl (some x)) (hx : 0 ≤ x) (hz : vs.length ≤ 1000)
    (h : ∀ D h', Fr h₀ L h' m → News h₀ L h' ((D, listOf (vs.drop x.toNat).toArray 0) :: news) → (∀ p ∈ news, p.1 < D) → Q (.ref D) { s with heap := h' })
    (hs : subscripted slice false (.ref l) (.ref s.heap.objs.size) = operate [.ref s.heap.objs.size, .ref l] (getItem (.ref l) (.ref s.heap.objs.size))) (ht : ∀ r, letTemporaryGo value (.ref l) r = pure ()) :
    wpAny (model prog w) A (subscriptTail value slice (.ref l) (.ref s.heap.objs.size)) Q E { s with heap := s.heap.push { cls := .type "slice", data := .fields #[vl, .none, .none] } } :=
  kmk_slice F N ⟨_, N.get hm, rfl, _, rfl⟩ pl .none (by rw [pick_from hx]; exact h) hs ht (by rw [List.size_toArray, sizeLine_eq]; omega)
theorem slice_upto (F : Fr h₀ L s.heap m) (N : News h₀ L s.heap news) (hm : (l, listOf vs.toArray n) ∈ news) (pu : IsPart vu (some y)) (hy : 0 ≤ y) (hz : vs.length ≤ 1000)
    (h : ∀ D h', Fr h₀ L h' m → News h₀ L h' ((D, listOf (vs.take y.toNat).toArray 0) :: news) → (∀ p ∈ news, p.1 < D) → Q (.ref D) { s with heap := h' })
    (hs : subscripted slice false (.ref l) (.ref s.heap.objs.size) = operate [.ref s.heap.objs.size, .ref l] (getItem (.ref l) (.ref s.heap.objs.size))) (ht : ∀ r, letTemporaryGo value (.ref l) r = pure ()) :
    wpAny (model prog w) A (subscriptTail value slice (.ref l) (.ref s.heap.objs.size)) Q E { s with heap := s.heap.push { cls := .type "slice", data := .fields #[.none, vu, .none] } } :=
  kmk_slice F N ⟨_, N.get hm, rfl, _, rfl⟩ .none pu (by rw [pick_upto hy]; exact h) hs ht (by rw [List.size_toArray, sizeLine_eq]; omega)
theorem slice_run (F : Fr h₀ L s.heap m) (N : News h₀ L s.heap news) (hm : (l, listOf vs.toArray n) ∈ news) (pl : IsPart vl (some x)) (pu : IsPart vu (some y)) (hx : 0 ≤ x) (hy : x ≤ y) (hz : vs.length ≤ 1000)
    (h : ∀ D h', Fr h₀ L h' m → News h₀ L h' ((D, listOf ((vs.drop x.toNat).take (y.toNat - x.toNat)).toArray 0) :: news) → (∀ p ∈ news, p.1 < D) → Q (.ref D) { s with heap := h' })
    (hs : subscripted slice false (.ref l) (.ref s.heap.objs.size) = operate [.ref s.heap.objs.size, .ref l] (getItem (.ref l) (.ref s.heap.objs.size))) (ht : ∀ r, letTemporaryGo value (.ref l) r = pure ()) :
    wpAny (model prog w) A (subscriptTail value slice (.ref l) (.ref s.heap.objs.size)) Q E { s with heap := s.heap.push { cls := .type "slice", data := .fields #[vl, vu, .none] } } :=
  kmk_slice F N ⟨_, N.get hm, rfl, _, rfl⟩ pl pu (by rw [pick_run hx hy]; exact h) hs ht (by rw [List.size_toArray, sizeLine_eq]; omega)
end
end -- SG
section -- SN
open PySem PySem.W PySem.Calls PyProof.Rows PyProof.V PyProof.Rows.LCg PySem.W.LCgL
set_option Elab.async false
set_option maxRecDepth 100000
/-- the rows: references to lists that stand in the ledger -/
inductive Rws (W : List (Addr × Obj)) : List Value → List (List Value) → Prop
  | nil : Rws W [] []
  | cons {r : Addr} {ws : List Value} {k : Nat} {vs : List Value} {rs : List (List Value)} : (r, listOf ws.toArray k) ∈ W → Rws W vs rs → Rws W (.ref r :: vs) (ws :: rs)
theorem Rws.mono {W W' : List (Addr × Obj)} {vs : List Value} {rs : List (List Value)} (h : Rws W vs rs) (k : ∀ q ∈ W, q ∈ W') : Rws W' vs rs := by
  induction h with
  | nil => exact .nil
  | cons a _ ih => exact .cons (k _ a) ih
theorem Rws.snoc {W : List (Addr × Obj)} {vs : List Value} {rs : List (List Value)} {r : Addr} {ws : List Value} {k : Nat} (h : Rws W vs rs) (a : (r, listOf ws.toArray k) ∈ W) : Rws W (vs ++ [.ref r]) (rs ++ [ws]) := by
  induction h with
  | nil => exact .cons a .nil
  | cons b _ ih => exact .cons b ih
theorem Rws.length {W : List (Addr × Obj)} {vs : List Value} {rs : List (List Value)} (h : Rws W vs rs) : vs.length = rs.length := by
  induction h with
  | nil => rfl
  | cons _ _ ih => simp [ih]
theorem Rws.get {W : List (Addr × Obj)} {vs : List Value} {rs : List (List Value)} (h : Rws W vs rs) : ∀ {i : Nat} {v : Value}, vs[i]? = some v → ∃ r ws k, v = .ref r ∧ (r, listOf ws.toArray k) ∈ W ∧ rs[i]? = some ws := by
  induction h with
  | nil => intro i v h; simp at h
  | @cons r ws k vs rs a _ ih =>
    intro i v hv
    cases i with
    | zero => simp at hv; subst hv; exact ⟨r, ws, k, rfl, a, rfl⟩
    | succ j => simp at hv; obtain ⟨r', ws', k', e1, e2, e3⟩ := ih hv; exact ⟨r', ws', k', e1, e2, by simpa using e3⟩
abbrev nestE (x y : Str) (px py qx qy pos : Pos) (i0 : Expr) (scope : Scope) : Expr := .ListComp (.Name y py) [⟨.Name x px, i0, [], 0⟩, ⟨.Name y qy, .Name x qx, [], 0⟩] scope pos
section
variable {prog : Program} {w : World} {A : Around} {E : Value → Shared → Prop} {s : Shared} {h₀ : Heap} {L : Addr} {m : Str → Option Value} {env : Env} {scope : Scope} {cl : List (Str × Addr)} {x y : Str} {px py qx qy pos : Pos} {i0 : Expr} {R : Result → Shared → Prop}
theorem nest_turn0 (it acc : Value) (env : Env) : compTurn (nestE x y px py qx qy pos i0 scope) 0 it acc env = (standAt i0.pos >>= fun _ => pyNext it >>= fun r => match r with
  | none => pure (.done .next)
  | some v => letOwnedTupleGo (.Name x px) it v >>= fun _ => assign (.Name x px) env v >>= fun _ =>
    eval (.Name x qx) env >>= fun u => standAt (Expr.Name x qx).pos >>= fun _ => foldedSetIterable (.Name x qx) env u >>= fun u => holding [u] (pyIter u) >>= fun j => runOwn (.compStart (nestE x y px py qx qy pos i0 scope) 1 j acc env) env >>= fun _ =>
      again (.compLoop (nestE x y px py qx qy pos i0 scope) 0 it acc env)) := by rfl
theorem nest_turn1 (it acc : Value) (env : Env) : compTurn (nestE x y px py qx qy pos i0 scope) 1 it acc env = (standAt (Expr.Name x qx).pos >>= fun _ => pyNext it >>= fun r => match r with
  | none => pure (.done .next)
  | some v => letOwnedTupleGo (.Name y qy) it v >>= fun _ => assign (.Name y qy) env v >>= fun _ =>
    (eval (.Name y py) env >>= fun u => call (.builtin "list.append") [acc, u] >>= fun _ => pure ()) >>= fun _ =>
      again (.compLoop (nestE x y px py qx qy pos i0 scope) 1 it acc env)) := by rfl
theorem nest_start1 {it acc : Value} {env : Env} (h0 : codeAny (model prog w) A (.compLoop (nestE x y px py qx qy pos i0 scope) 1 it acc env) R s)
    (h : wpAny (model prog w) A (pyIter it) (fun it' s' => codeAny (model prog w) A (.compLoop (nestE x y px py qx qy pos i0 scope) 1 it' acc env) R s') (notedBy (model prog w) A env fun x s' => R (.error x) s') s) :
    codeAny (model prog w) A (.compStart (nestE x y px py qx qy pos i0 scope) 1 it acc env) R s := by
  refine codeAny_of_tree ?_
  show wpAny _ _ ((compStart (nestE x y px py qx qy pos i0 scope) 1 it acc env).onRaise (fun x => do noteFrame x env; standAt theWindowsPlace)) _ _ s
  refine wpAny_notedAt ?_
  unfold compStart
  show wpAny _ _ (ask >>= _) _ _ s
  refine wpAny_bind (wpAny_askSetting (wpAny_ite ?_))
  split
  · first
      | exact wpAny_bind (wpAny_pure (wpAny_pure (And.intro rfl h0)))
      | exact wpAny_pure (And.intro rfl h0)
  · first
      | exact wpAny_bind (wpAny_rule (wpAny_bind (wpAny_standAt (wpAny_bind (wpAny_mono h (fun it' s' h' => wpAny_pure (And.intro rfl h')) fun _ _ x => x)))))
      | (refine wpAny_bind (wpAny_rule ?_); show wpAny _ _ (standAt (Expr.Name x qx).pos >>= _) _ _ s; exact wpAny_bind (wpAny_standAt (wpAny_bind (wpAny_mono h (fun it' s' h' => wpAny_pure (And.intro rfl h')) fun _ _ x => x))))
theorem nest_loop1 {it acc : Value} {env : Env} (I : Nat → Shared → Prop)
    (turn : ∀ n s, I n s → ∀ (E' : Value → Shared → Prop), wpAny (model prog w) A (pyNext it) (fun r s₁ => match r with
      | none => R (.ok .next) s₁
      | some v => wpAny (model prog w) A (assign (.Name y qy) env v) (fun _ s₂ => wpAny (model prog w) A (eval (.Name y py) env) (fun u s₃ =>
          wpAny (model prog w) A (call (.builtin "list.append") [acc, u]) (fun _ s₄ => ∃ m, m < n ∧ I m s₄) E' s₃) E' s₂) E' s₁) E' s)
    (n : Nat) (h : I n s) : codeAny (model prog w) A (.compLoop (nestE x y px py qx qy pos i0 scope) 1 it acc env) R s := by
  refine codeAny_loop rfl I (fun n s hI => ?_) n h
  show wpAny _ _ ((compTurn (nestE x y px py qx qy pos i0 scope) 1 it acc env).onRaise (fun x => do noteFrame x env; theTreesLotGoes x)) _ _ s
  refine wpAny_noted ?_
  rw [nest_turn1]
  refine wpAny_bind (wpAny_standAt (wpAny_bind (wpAny_mono (turn n s hI _) (fun r s₁ h₁ => ?_) fun _ _ h' => h')))
  cases r with
  | none => exact wpAny_pure h₁
  | some v =>
    refine wpAny_bind (wpAny_pure ?_)
    exact wpAny_bind (wpAny_mono h₁ (fun _ s₂ h₂ => wpAny_bind (wpAny_bind (wpAny_mono h₂ (fun x s₃ h₃ => wpAny_bind (wpAny_mono h₃
      (fun _ s₄ h₄ => wpAny_pure (wpAny_pure ⟨rfl, h₄⟩)) fun _ _ h' => h')) fun _ _ h' => h'))) fun _ _ h' => h')
theorem nest_loop0 {it acc : Value} {env : Env} (I : Nat → Shared → Prop)
    (turn : ∀ n s, I n s → ∀ (E' : Value → Shared → Prop) (R' : Value → Shared → Prop), wpAny (model prog w) A (pyNext it) (fun r s₁ => match r with
      | none => R (.ok .next) s₁
      | some v => wpAny (model prog w) A (assign (.Name x px) env v) (fun _ s₂ => wpAny (model prog w) A (eval (.Name x qx) env) (fun u s₃ => wpAny (model prog w) A (pyIter u) (fun j s₄ =>
          codeAny (model prog w) (A.mark none) (.compStart (nestE x y px py qx qy pos i0 scope) 1 j acc env) (fun r s₅ => match r with | .ok _ => ∃ m, m < n ∧ I m s₅ | .error e => R' e s₅) s₄) E' s₃) E' s₂) E' s₁) E' s)
    (n : Nat) (h : I n s) : codeAny (model prog w) A (.compLoop (nestE x y px py qx qy pos i0 scope) 0 it acc env) R s := by
  refine codeAny_loop rfl I (fun n s hI => ?_) n h
  show wpAny _ _ ((compTurn (nestE x y px py qx qy pos i0 scope) 0 it acc env).onRaise (fun x => do noteFrame x env; theTreesLotGoes x)) _ _ s
  refine wpAny_noted ?_
  rw [nest_turn0]
  refine wpAny_bind (wpAny_standAt (wpAny_bind (wpAny_mono (turn n s hI _ (cameBackBy (model prog w) A env (notedBy (model prog w) A env fun e s' => R (.error e) s'))) (fun r s₁ h₁ => ?_) fun _ _ h' => h')))
  cases r with
  | none => exact wpAny_pure h₁
  | some v =>
    refine wpAny_bind (wpAny_pure ?_)
    refine wpAny_bind (wpAny_mono h₁ (fun _ s₂ h₂ => ?_) fun _ _ h' => h')
    refine wpAny_bind (wpAny_mono h₂ (fun u s₃ h₃ => ?_) fun _ _ h' => h')
    refine wpAny_bind (wpAny_standAt (wpAny_bind (wpAny_of_eq (show foldedSetIterable (.Name x qx) env u = pure u by rfl) ?_)))
    refine wpAny_bind (wpAny_holding (wpAny_mono h₃ (fun j s₄ h₄ => ?_) fun _ _ h' => h'))
    refine wpAny_bind (wpAny_runOwn (codeAny_mono h₄ fun r s₅ h₅ => ?_))
    cases r with
    | ok f => exact wpAny_pure ⟨rfl, h₅⟩
    | error e => exact h₅
theorem nest_inner (hh : A.handled = none) {I ax J C D r : Addr} {i : Nat} {ws acc : List Value} {k : Nat} {m₁ : Str → Option Value} {news : List (Addr × Obj)} (hkind : scope.kind = .function) (hy : scope.names.lookup y = some .local) (hdb : (y == ("__debug__" : Str)) = false)
    (F : Fr h₀ L s.heap m) (hn : s.heap.Ns C m₁) (N : News h₀ L s.heap ((D, lst acc) :: news)) (hr : (r, listOf ws.toArray k) ∈ news) (hit : s.heap.IsListIter J r 0) (hout : s.heap.IsListIter I ax i)
    (hJ₀ : h₀.get? J = none) (hC₀ : h₀.get? C = none) (hD₀ : h₀.get? D = none) (hL : J ≠ L ∧ C ≠ L ∧ D ≠ L) (hJ : J ≠ C ∧ J ≠ D ∧ J ≠ I) (hCD : C ≠ D) (hI : I ≠ C ∧ I ≠ D) (off : ∀ p ∈ news, p.1 ≠ J ∧ p.1 ≠ C ∧ p.1 ≠ D) (hsz : acc.length + ws.length ≤ 1000)
    (hR : ∀ h tk m₂, Fr h₀ L h m → h.Ns C m₂ → News h₀ L h ((D, lst (acc ++ ws)) :: news) → h.IsListIter I ax i → R (.ok .next) { s with heap := h, toks := tk }) :
    codeAny (model prog w) A (.compLoop (nestE x y px py qx qy pos i0 scope) 1 (.ref J) (.ref D) (compEnvC scope cl C env)) R s := by
  have hrJ : r ≠ J := (off _ hr).1
  have isl : ∀ {h' : Heap} {a : List Value}, News h₀ L h' ((D, lst a) :: news) → h'.IsList r ws.toArray := fun N => ⟨_, N.get (.tail _ hr), rfl, _, rfl⟩
  refine nest_loop1 (fun n s' => ∃ h' tk j m', s' = { s with heap := h', toks := tk } ∧ j ≤ ws.length ∧ n = ws.length + 1 - j ∧ h'.IsListIter J r j ∧ h'.IsListIter I ax i ∧ Fr h₀ L h' m ∧ h'.Ns C m' ∧ News h₀ L h' ((D, lst (acc ++ ws.take j)) :: news)) ?_ (ws.length + 1)
    ⟨s.heap, s.toks, 0, m₁, rfl, Nat.zero_le _, rfl, hit, hout, F, hn, by simpa using N⟩
  rintro n s' ⟨h', tk, j, m', rfl, hj, rfl, hit', hout', F', hn', N'⟩ E'
  by_cases hlt : j < ws.length
  · refine wpAny_pyNext_list_item hit' (isl N') (x := ws[j]) (by simp [hlt]) fun h₂ hit₂ hs₂ => ?_
    have k2 : ∀ b o, b ≠ J → h'.get? b = some o → h₂.get? b = some o := fun b o hb e => hs₂.extBut b o hb e
    refine wpAny_assign_Name (wpAny_storeName_local (lookup_relabel_local hy) (hn'.at' fun o e => k2 _ o hJ.1.symm e) (fun h₃ hn₃ hs₃ => ?_) (by simp [compEnvC, relabel, hkind]))
    have k3 : ∀ b o, b ≠ C → h₂.get? b = some o → h₃.get? b = some o := fun b o hb e => hs₃.extBut b o hb e
    have k23 : ∀ b o, b ≠ J → b ≠ C → h'.get? b = some o → h₃.get? b = some o := fun b o h1 h2 e => k3 b o h2 (k2 b o h1 e)
    refine ldVarK hn₃ (v := ws[j]) (by simp) ?_ hkind (lookup_relabel_local hy) hdb
    have ne : ∀ {b : Addr} {o : Obj}, h₀.get? b = some o → b ≠ J ∧ b ≠ C ∧ b ≠ D := fun e => ⟨fun q => (by rw [q, hJ₀] at e; cases e), fun q => (by rw [q, hC₀] at e; cases e), fun q => (by rw [q, hD₀] at e; cases e)⟩
    have zD : h₃.get? D = some (lst (acc ++ ws.take j)) := k23 _ _ hJ.2.1.symm hCD.symm (N'.get (.head _))
    refine append_at (hsz := by show (acc ++ ws.take j).toArray.size ≤ sizeLine; rw [List.size_toArray, sizeLine_eq, List.length_append, List.length_take]; omega) zD fun h₅ hs₅ hD₅ => ?_
    have k5 : ∀ b o, b ≠ D → h₃.get? b = some o → h₅.get? b = some o := fun b o hb e => hs₅.extBut b o hb e
    have all : ∀ b o, b ≠ J → b ≠ C → b ≠ D → h'.get? b = some o → h₅.get? b = some o := fun b o h1 h2 h3 e => k5 b o h3 (k23 b o h1 h2 e)
    refine ⟨ws.length + 1 - (j + 1), Nat.sub_lt_sub_left (by omega) (by omega), h₅, _, j + 1, (fun z => if z = y then some ws[j] else m' z), rfl, hlt, rfl, ?a1, ?a2, ?a3, ?a4, ?a5⟩
    case a1 => exact hit₂.at fun o e => k5 _ o hJ.2.1 (k3 _ o hJ.1 e)
    case a2 => exact hout'.at fun o e => all _ o hJ.2.2.symm hI.1 hI.2 e
    case a3 => exact ⟨F'.ns.at' fun o e => all _ o hL.1.symm hL.2.1.symm hL.2.2.symm e, fun b o e => all b o (ne e).1 (ne e).2.1 (ne e).2.2 (F'.keep b o e), F'.above⟩
    case a4 => exact hn₃.sameBut hs₅ hCD
    case a5 =>
      intro p hp
      rcases List.mem_cons.mp hp with rfl | hp
      · refine ⟨hD₅.trans (congrArg some ?_), hL.2.2, hD₀⟩
        have e : acc ++ ws.take (j + 1) = acc ++ ws.take j ++ [ws[j]] := by rw [List.take_add_one, List.getElem?_eq_getElem hlt, List.append_assoc]; rfl
        show _ = lst (acc ++ ws.take (j + 1))
        rw [e]; exact lst_snoc _ _
      · have z := N' p (.tail _ hp)
        exact ⟨all _ _ (off p hp).1 (off p hp).2.1 (off p hp).2.2 z.1, z.2⟩
  · obtain rfl : j = ws.length := Nat.le_antisymm hj (Nat.not_lt.mp hlt)
    refine wpAny_pyNext_list_end hh hit' (isl N') (by simp) fun h₂ hk₂ => ?_
    have ne : ∀ {b : Addr} {o : Obj}, h₀.get? b = some o → b ≠ J := fun e q => by rw [q, hJ₀] at e; cases e
    rw [List.take_length] at N'
    refine hR h₂ _ m' ⟨F'.ns.at' fun o e => hk₂ _ o hL.1.symm e, fun b o e => hk₂ b o (ne e) (F'.keep b o e), F'.above⟩ (hn'.at' fun o e => hk₂ _ o hJ.1.symm e) (fun p hp => ?_) (hout'.at fun o e => hk₂ _ o hJ.2.2.symm e)
    have z := N' p hp
    refine ⟨hk₂ _ _ ?_ z.1, z.2⟩
    rcases List.mem_cons.mp hp with rfl | hp
    · exact hJ.2.1.symm
    · exact (off p hp).1
theorem nest_block (hh : A.handled = none) {I ax : Addr} {vs : List Value} {rs : List (List Value)} {k : Nat} {news : List (Addr × Obj)} {RR : Value → Addr → Result → Shared → Prop}
    (hne : ax ≠ I) (hit : s.heap.IsListIter I ax 0) (hcell : ∀ z ∈ scope.names, z.2 ≠ .cell) (hkind : scope.kind = .function) (hx : scope.names.lookup x = some .local) (hy : scope.names.lookup y = some .local)
    (hdx : (x == ("__debug__" : Str)) = false) (hdy : (y == ("__debug__" : Str)) = false)
    (F : Fr h₀ L s.heap m) (N : News h₀ L s.heap news) (hIL : L ≠ I) (hI₀ : h₀.get? I = none) (off : ∀ p ∈ news, p.1 ≠ I) (hm : (ax, listOf vs.toArray k) ∈ news) (hrs : Rws news vs rs) (hsz : rs.flatten.length ≤ 1000)
    (hRR : ∀ D C h tk m', Fr h₀ L h m → News h₀ L h ((D, lst rs.flatten) :: news) → Off1 D news → h.Ns C m' → h₀.get? C = none → h₀.get? D = none → C ≠ L → D ≠ L → C ≠ D → (∀ p ∈ news, p.1 ≠ C) → RR (.ref D) C (.ok .next) { s with heap := h, toks := tk }) :
    wpAny (model prog w) A (newList []) (fun acc s₃ => wpAny (model prog w) A (newFunctionEnv scope env.globals cl [] env.qual none .none (some env)) (fun cenv s₄ =>
      codeAny (model prog w) A (.compStart (nestE x y px py qx qy pos i0 scope) 0 (.ref I) acc { cenv with scope := relabel scope env }) (RR acc cenv.locals) s₄) E s₃) E s := by
  refine wpAny_newObj_type (wpAny_newFunctionEnv hcell (by intro y hy; simp at hy) (fun h₁ hns₁ hsb₁ => ?_) hkind)
  dsimp only at hns₁ hsb₁ ⊢
  generalize hg : s.heap.push { cls := .type "list", dict := none, data := .seq ([] : List Value).toArray } = g at hns₁ hsb₁ ⊢
  generalize hDd : s.heap.objs.size = D at *
  have hC : g.objs.size = D + 1 := by rw [← hg, Heap.size_push, hDd]
  generalize hCc : g.objs.size = C at *
  have lt : ∀ b o, s.heap.get? b = some o → @LT.lt Nat _ b D := fun b o e => hDd ▸ Heap.lt_size e
  have new : ∀ b, @LE.le Nat _ D b → h₀.get? b = none := fun b hb => by
    cases e : h₀.get? b with
    | none => rfl
    | some o => exact absurd (lt b o (F.keep b o e)) (Nat.not_lt.mpr hb)
  have neC : ∀ b, @LT.lt Nat _ b D → b ≠ C ∧ b ≠ D := fun b hb => ⟨fun e => by rw [e, hC] at hb; exact Nat.lt_irrefl _ (Nat.lt_of_succ_lt hb), Nat.ne_of_lt hb⟩
  have hDC : D ≠ C := by rw [hC]; exact Nat.ne_of_lt (Nat.lt_succ_self _)
  have hI := neC I (by obtain ⟨_, e, _⟩ := hit; exact lt _ _ e)
  have hL := neC L (hDd ▸ F.ns.lt)
  have old : ∀ b o, s.heap.get? b = some o → h₁.get? b = some o := fun b o e => hsb₁.extBut b o (neC b (lt b o e)).1 (by rw [← hg]; exact Heap.get?_push_of_some _ (Heap.get?_push_of_some _ e))
  have hacc : h₁.get? D = some (lst []) := hsb₁.extBut _ _ hDC (by rw [← hg, ← hDd]; exact Heap.get?_push_of_some _ (Heap.get?_push_size _ rfl))
  have hD₀ := new D (Nat.le_refl _)
  have hC₀ := new C (by rw [hC]; exact Nat.le_succ _)
  have offN : ∀ p ∈ news, p.1 ≠ C ∧ p.1 ≠ D := fun p hp => neC _ (lt _ _ (N p hp).1)
  have o1 : Off1 D news := (Off3.of fun p hp => ⟨off p hp, offN p hp⟩ : Off3 I C D news).one
  have isl : ∀ {h' : Heap} {a : Obj}, News h₀ L h' ((D, a) :: news) → h'.IsList ax vs.toArray := fun N => ⟨_, N.get (.tail _ hm), rfl, _, rfl⟩
  have loop : ∀ s₃ : Shared, s₃ = { s with heap := h₁, toks := s.toks + ([] : List (Str × Value)).length } →
      codeAny (model prog w) A (.compLoop (nestE x y px py qx qy pos i0 scope) 0 (.ref I) (.ref D) (compEnvC scope cl C env)) (RR (.ref D) C) s₃ := by
    rintro s₃ rfl
    refine nest_loop0 (fun n s' => ∃ h' tk i m', s' = { s with heap := h', toks := tk } ∧ i ≤ vs.length ∧ n = vs.length + 1 - i ∧ h'.IsListIter I ax i ∧ Fr h₀ L h' m ∧ h'.Ns C m' ∧ News h₀ L h' ((D, lst (rs.take i).flatten) :: news)) ?_ (vs.length + 1)
      ⟨h₁, _, 0, _, rfl, Nat.zero_le _, rfl, hit.at fun o e => old _ o e, F.keeps old, hns₁, fun p hp => ?_⟩
    · rintro n s' ⟨h', tk, i, m', rfl, hi, rfl, hit', F', hn', N'⟩ E' R'
      by_cases hlt : i < vs.length
      · obtain ⟨r, ws, kr, hv, hr, hws⟩ := hrs.get (List.getElem?_eq_getElem hlt)
        refine wpAny_pyNext_list_item hit' (isl N') (x := vs[i]) (by simp [hlt]) fun h₂ hit₂ hs₂ => ?_
        have k2 : ∀ b o, b ≠ I → h'.get? b = some o → h₂.get? b = some o := fun b o hb e => hs₂.extBut b o hb e
        refine wpAny_assign_Name (wpAny_storeName_local (lookup_relabel_local hx) (hn'.at' fun o e => k2 _ o hI.1.symm e) (fun h₃ hn₃ hs₃ => ?_) (by simp [compEnvC, relabel, hkind]))
        have k23 : ∀ b o, b ≠ I → b ≠ C → h'.get? b = some o → h₃.get? b = some o := fun b o h1 h2 e => hs₃.extBut b o h2 (k2 b o h1 e)
        have ne : ∀ {b : Addr} {o : Obj}, h₀.get? b = some o → b ≠ I ∧ b ≠ C := fun e => ⟨fun q => (by rw [q, hI₀] at e; cases e), fun q => (by rw [q, hC₀] at e; cases e)⟩
        have F₃ : Fr h₀ L h₃ m := ⟨F'.ns.at' fun o e => k23 _ o hIL hL.1 e, fun b o e => k23 b o (ne e).1 (ne e).2 (F'.keep b o e), F'.above⟩
        have N₃ : News h₀ L h₃ ((D, lst (rs.take i).flatten) :: news) := fun p hp => by
          refine ⟨k23 _ _ ?_ ?_ (N' p hp).1, (N' p hp).2⟩
          · rcases List.mem_cons.mp hp with rfl | hp
            · exact hI.2.symm
            · exact off p hp
          · rcases List.mem_cons.mp hp with rfl | hp
            · exact hDC
            · exact (offN p hp).1
        have hit₃ : h₃.IsListIter I ax (i + 1) := hit₂.at fun o e => hs₃.extBut _ o hI.1 e
        refine ldVarK hn₃ (v := .ref r) (by simp [hv]) ?_ hkind (lookup_relabel_local hx) hdx
        refine wpAny_pyIter_list (l := r) ⟨_, N₃.get (.tail _ hr), rfl, _, rfl⟩ ?_
        have up : ∀ b o, h₃.get? b = some o → (h₃.push { cls := .type "list_iterator", data := .fields #[.ref r, .int 0 0] }).get? b = some o := fun b o e => Heap.get?_push_of_some _ e
        have ltJ : ∀ {b : Addr} {o : Obj}, h₃.get? b = some o → b ≠ h₃.objs.size := fun e => Nat.ne_of_lt (Heap.lt_size e)
        have jC : C ≠ h₃.objs.size := by obtain ⟨_, e, _⟩ := ns_obj hn₃; exact ltJ e
        have jI : I ≠ h₃.objs.size := by obtain ⟨_, e, _⟩ := hit₃; exact ltJ e
        have htake : (rs.take (i + 1)).flatten = (rs.take i).flatten ++ ws := by rw [List.take_add_one, hws, List.flatten_append]; simp
        have hlen : ((rs.take i).flatten).length + ws.length ≤ 1000 := by
          have h1 : ((rs.take (i + 1)).flatten).length ≤ rs.flatten.length := by
            conv => rhs; rw [← List.take_append_drop (i + 1) rs, List.flatten_append, List.length_append]
            exact Nat.le_add_right _ _
          rw [htake, List.length_append] at h1
          omega
        have inner := fun tk' => nest_inner (prog := prog) (w := w) (A := A.mark none) (s := { s with heap := h₃.push { cls := .type "list_iterator", data := .fields #[.ref r, .int 0 0] }, toks := tk' }) (h₀ := h₀) (L := L) (m := m) (env := env) (scope := scope) (cl := cl) (x := x) (y := y) (px := px) (py := py) (qx := qx) (qy := qy) (pos := pos) (i0 := i0)
          (R := fun r s₅ => match r with | .ok _ => ∃ j, j < vs.length + 1 - i ∧ ∃ h' tk i m', s₅ = { s with heap := h', toks := tk } ∧ i ≤ vs.length ∧ j = vs.length + 1 - i ∧ h'.IsListIter I ax i ∧ Fr h₀ L h' m ∧ h'.Ns C m' ∧ News h₀ L h' ((D, lst (rs.take i).flatten) :: news) | .error e => R' e s₅)
          (by simp [Around.mark, hh]) (J := h₃.objs.size) hkind hy hdy (F₃.keeps up) (hn₃.at' fun o e => up _ o e) (N₃.grown up) hr ⟨_, Heap.get?_push_size _ rfl, rfl, rfl⟩ (hit₃.at fun o e => up _ o e) (next_is_new F₃) hC₀ hD₀
          ⟨(Nat.ne_of_lt F₃.ns.lt).symm, hL.1.symm, hL.2.symm⟩ ⟨jC.symm, (ltJ (N₃.get (.head _))).symm, jI.symm⟩ hDC.symm hI (fun p hp => ⟨ltJ (N₃.get (.tail _ hp)), offN p hp⟩) hlen
          (fun h tk m₂ Fh hn Nh hit => ⟨vs.length + 1 - (i + 1), Nat.sub_lt_sub_left (by omega) (by omega), h, tk, i + 1, m₂, rfl, hlt, rfl, hit, Fh, hn, by rw [htake]; exact Nh⟩)
        exact nest_start1 (inner _) (wpAny_pyIter_listiter (l := r) (i := 0) ⟨_, Heap.get?_push_size _ rfl, rfl, rfl⟩ (inner _))
      · obtain rfl : i = vs.length := Nat.le_antisymm hi (Nat.not_lt.mp hlt)
        refine wpAny_pyNext_list_end hh hit' (isl N') (by simp) fun h₂ hk₂ => ?_
        have ne : ∀ {b : Addr} {o : Obj}, h₀.get? b = some o → b ≠ I := fun e q => by rw [q, hI₀] at e; cases e
        rw [hrs.length, List.take_length] at N'
        refine hRR D C h₂ _ m' ⟨F'.ns.at' fun o e => hk₂ _ o hIL e, fun b o e => hk₂ b o (ne e) (F'.keep b o e), F'.above⟩ (fun p hp => ?_) o1 (hn'.at' fun o e => hk₂ _ o hI.1.symm e) hC₀ hD₀ hL.1.symm hL.2.symm hDC.symm fun p hp => (offN p hp).1
        have z := N' p hp
        refine ⟨hk₂ _ _ ?_ z.1, z.2⟩
        rcases List.mem_cons.mp hp with rfl | hp
        · exact hI.2.symm
        · exact off p hp
    · rcases List.mem_cons.mp hp with rfl | hp
      · exact ⟨by simpa using hacc, hL.2.symm, hD₀⟩
      · exact ⟨old _ _ (N p hp).1, (N p hp).2⟩
  exact codeAny_compStart_list (loop _ rfl) (wpAny_pyIter_listiter (hit.at fun o e => old _ o e) (loop _ rfl))
def SrcN (prog : Program) (w : World) (A : Around) (h₀ : Heap) (L : Addr) (m : Str → Option Value) (Q : Value → Shared → Prop) (xv : Value) (s₁ : Shared) : Prop :=
  ∃ ax vs k rs news, xv = .ref ax ∧ A.handled = none ∧ Fr h₀ L s₁.heap m ∧ News h₀ L s₁.heap news ∧ (ax, listOf vs.toArray k) ∈ news ∧ Rws news vs rs ∧ rs.flatten.length ≤ 1000 ∧ ∀ D h tk, Fr h₀ L h m → News h₀ L h ((D, lst rs.flatten) :: news) → Off1 D news → Q (.ref D) { s₁ with heap := h, toks := tk }
theorem ListComp_N {Q : Value → Shared → Prop} (_F₀ : Fr h₀ L s.heap m)
    (hclos : closureFor scope env = pure cl) (hcell : ∀ z ∈ scope.names, z.2 ≠ .cell) (hkind : scope.kind = .function)
    (hnames : ∀ z ∈ scope.names, z.2 = .local → scope.names.lookup z.1 = some .local) (hx : scope.names.lookup x = some .local) (hy : scope.names.lookup y = some .local)
    (hdx : (x == ("__debug__" : Str)) = false) (hdy : (y == ("__debug__" : Str)) = false)
    (h : wpAny (model prog w) A (eval i0 env) (SrcN prog w A h₀ L m Q) E s)
    (hs : ∀ x, foldedSetIterable i0 env x = pure x := by intro _; rfl) :
    wpAny (model prog w) A (eval (nestE x y px py qx qy pos i0 scope) env) Q E s := by
  rw [eval_ListComp]
  refine wpAny_comprehension_free (use := none) rfl hs hclos hkind hnames (wpAny_mono h (fun xv s₁ h₁ => ?_) fun _ _ e => e)
  obtain ⟨ax, vs, k, rs, news, rfl, hh, F, N, hm, hrs, hsz, fin⟩ := h₁
  have hl : s₁.heap.IsList ax vs.toArray := ⟨_, N.get hm, rfl, _, rfl⟩
  have hlt : ax < s₁.heap.objs.size := Heap.lt_size (N.get hm)
  refine wpAny_pyIter_list hl ?_
  have up : ∀ b o, s₁.heap.get? b = some o → (s₁.heap.push { cls := .type "list_iterator", data := .fields #[.ref ax, .int 0 0] }).get? b = some o := fun b o e => Heap.get?_push_of_some _ e
  refine nest_block hh (Nat.ne_of_lt hlt) ⟨_, Heap.get?_push_size _ rfl, rfl, rfl⟩ hcell hkind hx hy hdx hdy (F.keeps up) (N.grown up) (Nat.ne_of_lt F.ns.lt) (next_is_new F) (fun p hp => Nat.ne_of_lt (Heap.lt_size (N p hp).1)) hm hrs hsz ?_
  intro D C h tk m' F' N' o1 hn hC₀ hD₀ hCL hDL hCD offC
  refine ⟨m', hn, fun h'' hs'' => fin D h'' tk (F'.change hs'' hCL hC₀) (fun p hp => ?_) o1⟩
  refine ⟨hs''.extBut _ _ ?_ (N' p hp).1, (N' p hp).2⟩
  rcases List.mem_cons.mp hp with rfl | hp
  · exact Ne.symm hCD
  · exact offC p hp
end
end -- SN
section -- C6
open PySem PySem.W PySem.Calls PyProof.Rows PyProof.V PyProof.Rows.LCg PyProof.Rows.LCt
set_option Elab.async false
set_option maxRecDepth 100000
set_option maxHeartbeats 8000000
set_option pp.deepTerms false
set_option pp.deepTerms.threshold 10
set_option pp.maxSteps 60000
local macro_rules | `(tactic| walk_at "compareOp NotEq") => `(tactic| (k_here; (with_reducible show wpAny _ _ (compareOp CmpOp.NotEq (Value.ref _) (Value.ref _)) _ _ _); k_dflt ( refine' ne_LR ?hu ?N ?h1 ?h2 ?r1 ?s1 ?r2 ?s2 ?c1 ?c2 ?hb ?_; (case hu => k_units); (case N => k_asm); (case h1 | h2 => k_mem); (case r1 | r2 => first | exact LR.nil (W := []) | k_asm); (case s1 | s2 => first | (intro q hq; nomatch hq) | k_asm); (case c1 | c2 => first | exact okL.nil | k_asm); (case hb => first | assumption | rfl); k_whole)))
local macro_rules | `(tactic| walk_at "pad") => `(tactic| skip)
local macro_rules | `(tactic| walk_at "pad") => `(tactic| skip)
local macro_rules | `(tactic| walk_at "pad") => `(tactic| skip)
theorem pop0_L {prog : Program} {w : World} {A : Around} {E : Value → Shared → Prop} {s : Shared} {h₀ : Heap} {L D : Addr} {m : Str → Option Value} {news news' : List (Addr × Obj)} {n : Nat} {u : Tok} {x : Value} {vs : List Value} {Q : Value → Shared → Prop}
    (F : Fr h₀ L s.heap m) (N : News h₀ L s.heap news) (U : Upd D (listOf (x :: vs).toArray n) (listOf vs.toArray (n + 1)) news news') (hz : vs.length ≤ 99) (h : ∀ h', Fr h₀ L h' m → News h₀ L h' news' → Q x { s with heap := h' }) :
    wpAny (model prog w) A (call (.builtin "list.pop") [.ref D, .int 0 u]) Q E s :=
  kl_popAt (k := 0) (p := []) F N rfl (by unfold seqIndex?; simp) rfl U (by rw [sizeLine_eq]; simp; omega) h
theorem take_rng {wd : Int} (hw : 0 < wd) (x : Int) : 0 ≤ x.fmod wd ∧ x.fmod wd < wd := ⟨Int.fmod_nonneg_of_pos _ hw, Int.fmod_lt_of_pos _ hw⟩
local macro_rules | `(tactic| walk_at "call builtin:list.pop") => `(tactic| (k_here; k_dflt (refine' pop0_L ?F ?N ?U ?z ?_; (case F | N => k_asm); (case U => k_upd); (case z => k_asm); k_whole; intro h' F' N'; (try dsimp only [List.nil_append, List.cons_append] at N'))))
/-- the box of _law_take: a list of ints, a count -/
def BoxAt (b c : Addr) (k k2 : Nat) (n : Int) (t : Tok) (vs : List Value) : List (Addr × Obj) := [(b, listOf #[.ref c, .int n t] k), (c, listOf vs.toArray k2)]
def TakePost (b c : Addr) (n wd : Int) (R : List (Addr × Obj)) (r : Value) (news' : List (Addr × Obj)) : Prop :=
  ∃ r0 t0, r = .int r0 t0 ∧ 0 ≤ r0 ∧ r0 < wd ∧ ∃ k' k2' t' vs' ns' X, IntsAre vs' ns' ∧ vs'.length ≤ 100 ∧ news' = BoxAt b c k' k2' (n + 1) t' vs' ++ (X ++ R)
theorem perm4 {α : Type} (A B C : α) (R : List α) : (A :: B :: C :: R).Perm (B :: C :: A :: R) :=
  permF [[A], [B], [C]] R (a := [0, 1, 2]) (b := [1, 2, 0]) (by decide)
theorem take_nil (w : World) (b c : Addr) (k k2 : Nat) (n : Int) (t : Tok) (wd : Int) (tw : Tok) (hw : 0 < wd) (hw2 : wd ≤ 20) (hn0 : 0 ≤ n) (hn1 : n ≤ 100) (R : List (Addr × Obj)) :
    Calls w (.ref 331) [.ref b, .int wd tw] 4 120 (BoxAt b c k k2 n t [] ++ R) (TakePost b c n wd R) := by
  intro dp un gd cn cs a ccd cl outer A₀ base h₀ L m s p loose mean mg mb Q E B F X N T' hk hd' hu hn hret
  have d1 : c ≠ b := hn.head _ (.head _)
  have d2 : ∀ q ∈ R, q.1 ≠ b := fun q hq => hn.head q (.tail _ hq)
  have d3 : ∀ q ∈ R, q.1 ≠ c := hn.tail.head
  simp only [BoxAt, List.cons_append, List.nil_append] at N hn
  k_steps
  (rename News h₀ L _ _ => NN)
  (rename b < _ ∧ c < _ ∧ AllLt _ R => l1)
  refine hret _ _ _ _ (by assumption) (News.perm (perm4 _ _ _ _) NN) (Nd.perm (perm4 _ _ _ _) (Nd.cons l1 (hn.addr rfl))) ⟨_, _, rfl, (take_rng hw _).1, (take_rng hw _).2, _, _, _, [], [], [_], .nil, by simp, rfl⟩
theorem take_cons (w : World) (b c : Addr) (k k2 : Nat) (n : Int) (t : Tok) (i : Int) (ti : Tok) (vs : List Value) (ns : List Int) (hvs : IntsAre vs ns) (hl : vs.length ≤ 99) (wd : Int) (tw : Tok) (hw : 0 < wd) (hw2 : wd ≤ 20) (hn0 : 0 ≤ n) (hn1 : n ≤ 100) (R : List (Addr × Obj)) :
    Calls w (.ref 331) [.ref b, .int wd tw] 4 120 (BoxAt b c k k2 n t (.int i ti :: vs) ++ R) (TakePost b c n wd R) := by
  intro dp un gd cn cs a ccd cl outer A₀ base h₀ L m s p loose mean mg mb Q E B F X N T' hk hd' hu hn hret
  have d1 : c ≠ b := hn.head _ (.head _)
  have d0 : b ≠ c := d1.symm
  have d2 : ∀ q ∈ R, q.1 ≠ b := fun q hq => hn.head q (.tail _ hq)
  have d3 : ∀ q ∈ R, q.1 ≠ c := hn.tail.head
  have lr : LR [] (Value.int i ti :: vs) (.int i :: ns.map .int) := LR.cons (Flat.int _ _) (LR.ints hvs)
  have ok := okL.ints (i :: ns)
  have hb0 : PyData.eqvAll (.int i :: ns.map .int) [] = false := rfl
  simp only [List.map_cons] at ok
  simp only [BoxAt, List.cons_append, List.nil_append] at N hn
  k_steps
  · (rename decide _ = true => z)
    simp at z
  · (rename News h₀ L _ _ => NN)
    (rename b < _ ∧ c < _ ∧ AllLt _ R => l1)
    exact hret _ _ _ _ (by assumption) (News.perm (perm4 _ _ _ _) NN) (Nd.perm (perm4 _ _ _ _) (Nd.cons l1 (hn.addr rfl))) ⟨_, _, rfl, (take_rng hw _).1, (take_rng hw _).2, _, _, _, vs, ns, [_], hvs, by omega, rfl⟩
theorem take_spec (w : World) (b c : Addr) (k k2 : Nat) (n : Int) (t : Tok) (vs : List Value) (ns : List Int) (hvs : IntsAre vs ns) (hl : vs.length ≤ 100) (wd : Int) (tw : Tok) (hw : 0 < wd) (hw2 : wd ≤ 20) (hn0 : 0 ≤ n) (hn1 : n ≤ 100) (R : List (Addr × Obj)) :
    Calls w (.ref 331) [.ref b, .int wd tw] 4 120 (BoxAt b c k k2 n t vs ++ R) (TakePost b c n wd R) := by
  cases hvs with
  | nil => exact take_nil w b c k k2 n t wd tw hw hw2 hn0 hn1 R
  | cons i ti r => exact take_cons w b c k k2 n t i ti _ _ r (by simpa using hl) wd tw hw hw2 hn0 hn1 R
end -- C6
local macro_rules | `(tactic| walk_at "subscriptTail Name Slice ref ref") => `(tactic| (k_here; (with_reducible show wpAny _ _ (subscriptTail _ (PySem.Expr.Slice (some _) none none _) (Value.ref _) (Value.ref _)) _ _ _); k_dflt (refine' slice_from ?F ?N ?l ?p ?x ?z ?_ ?s ?t; (case F | N => k_asm); (case l => k_mem); (case p => exact IsPart.int _ _); (case x => omega); (case z => k_asm); (case s => with_unfolding_all rfl); (case t => kmk_pure)); intro D' h' F' N' l1; (try k_lt l1); (try k_sweep)))
local macro_rules | `(tactic| walk_at "subscriptTail Name Slice ref ref") => `(tactic| (k_here; (with_reducible show wpAny _ _ (subscriptTail _ (PySem.Expr.Slice none (some _) none _) (Value.ref _) (Value.ref _)) _ _ _); k_dflt (refine' slice_upto ?F ?N ?l ?p ?x ?z ?_ ?s ?t; (case F | N => k_asm); (case l => k_mem); (case p => exact IsPart.int _ _); (case x => omega); (case z => k_asm); (case s => with_unfolding_all rfl); (case t => kmk_pure)); intro D' h' F' N' l1; (try k_lt l1); (try k_sweep)))
local macro_rules | `(tactic| walk_at "compareOp IsNot") => `(tactic| ((with_reducible show wpAny _ _ (compareOp CmpOp.IsNot _ Value.none) _ _ _); refine isnot_split (fun hz => ?_) (fun hz => ?_)))
local macro_rules | `(tactic| walk_at "compareOp Eq") => `(tactic| (k_here; (with_reducible show wpAny _ _ (compareOp CmpOp.Eq _ _) _ _ _); k_dflt ( refine' eq_flat ?hu ?ha ?hb ?vx ?vy ?hc ?_; (case ha | hb => with_reducible assumption); (case vx | vy | hc => k_asm); (case hu => k_units); k_whole)))
local macro_rules | `(tactic| walk_at "compareOp NotEq ref ref") => `(tactic| (k_here; (with_reducible show wpAny _ _ (compareOp CmpOp.NotEq (Value.ref _) (Value.ref _)) _ _ _); k_dflt ( refine' ne_LR ?hu ?N ?h1 ?h2 ?r1 ?s1 ?r2 ?s2 ?c1 ?c2 ?hb ?_; (case hu => k_units); (case N => k_asm); (case h1 | h2 => k_mem); (case r1 | r2 => first | exact LR.nil (W := []) | k_asm); (case s1 | s2 => first | (intro q hq; cases hq; done) | with_reducible assumption | (intro q hq; refine List.mem_cons_of_mem _ ?_; revert q hq; with_reducible assumption) | (intro q hq; refine List.mem_cons_of_mem _ (List.mem_cons_of_mem _ ?_); revert q hq; with_reducible assumption)); (case c1 | c2 => first | exact okL.nil | k_asm); (case hb => first | assumption | rfl); k_whole)))
local macro_rules | `(tactic| walk_at "UnrEndW") => `(tactic| (refine held ?_))
local macro_rules | `(tactic| walk_at "eval ListComp") => `(tactic| (k_here; refine held ?_))
local macro_rules | `(tactic| walk_at "call type:enumerate") => `(tactic| (k_here; refine held ?_))
local macro_rules | `(tactic| walk_at "exec For Tuple Call cons nil") => `(tactic| (k_here; refine held ?_))
section -- C7
open PySem PySem.W PySem.Calls PyProof.Rows PyProof.V PyProof.Rows.LCg PyProof.Rows.LCt PySem.SeqAt
set_option Elab.async false
set_option maxRecDepth 100000
set_option maxHeartbeats 8000000
set_option pp.deepTerms false
set_option pp.deepTerms.threshold 10
set_option pp.maxSteps 60000
def OptVal (d : PyData) : Prop := d = .none ∨ IsVal d
def given : PyData → Bool
  | .none => false
  | _ => true
/-- the key is given anew later -/
def hid (k : KV) (r : List (KV × PyData)) : Bool := r.any fun e => decide (e.1 = k) && given e.2
def briefL : List (KV × PyData) → List (KV × PyData)
  | [] => []
  | e :: r => (e.1, if hid e.1 r then .none else e.2) :: briefL r
theorem briefL_length : ∀ es, (briefL es).length = es.length
  | [] => rfl
  | _ :: r => congrArg (· + 1) (briefL_length r)
theorem briefL_get : ∀ {es : List (KV × PyData)} {i : Nat} {e : KV × PyData}, es[i]? = some e → (briefL es)[i]? = some (e.1, if hid e.1 (es.drop (i + 1)) then .none else e.2)
  | [], _, _, h => by simp at h
  | a :: r, 0, e, h => by simp at h; subst h; rfl
  | a :: r, i + 1, e, h => by
    have := briefL_get (es := r) (i := i) (e := e) (by simpa using h)
    simp only [briefL, List.getElem?_cons_succ, List.drop_succ_cons]
    exact this
theorem hid_turn {k : KV} {l : List (KV × PyData)} {j : Nat} {e : KV × PyData} (h : l[j]? = some e) : hid k (l.take (j + 1)) = (hid k (l.take j) || (decide (e.1 = k) && given e.2)) := by
  unfold hid
  rw [List.take_add_one, h]
  simp
theorem given_none {v : Value} {d : PyData} (f : Flat v d) (h : v = .none) : given d = false := by
  subst h; cases f {}; rfl
theorem given_some {v : Value} {d : PyData} (f : Flat v d) (h : v ≠ .none) : given d = true := by
  cases d with
  | none => exact absurd (Flat.none_inv f) h
  | _ => rfl
theorem eqv_KV (a b : KV) : PyData.eqv a.d b.d = decide (a = b) := by
  cases a <;> cases b <;> simp [KV.d, PyData.eqv] <;> rfl
theorem brief_end {h₀ h' : Heap} {L I T l c a1 a2 a3 : Addr} {oI oJ o1 o2 o3 oc oc' : Obj} {ys : List Value} {X₁ R W : List (Addr × Obj)} {kv v' : Value} {es' : List (KV × PyData)} {k : KV} {d' : PyData}
    (NN : News h₀ L h' ((T, tup2 kv v' 0) :: (a1, o1) :: (a2, o2) :: (a3, o3) :: (I + 1, oJ) :: (I, oI) :: (l, listOf (ys.toArray.push (.ref T)) (ys.length + 1)) :: (c, oc) :: W)) (hW : X₁ ++ R = W) (nd : Nd ((l, lst ys) :: (c, oc') :: W))
    (off : ∀ p ∈ (l, lst ys) :: (c, oc') :: W, p.1 ≠ I ∧ p.1 ≠ I + 1) (lT : a1 < T ∧ a2 < T ∧ a3 < T ∧ I + 1 < T ∧ I < T ∧ l < T ∧ c < T ∧ AllLt T W) (pr : Prs X₁ ys es') (hkv : KV.is k kv = true) (hv : Flat v' d') :
    ∃ nw', News h₀ L h' ([(I + 1, oJ), (I, oI)] ++ nw') ∧ (∀ p ∈ nw', ∀ q ∈ [(I + 1, oJ), (I, oI)], p.1 ≠ q.1) ∧ ∃ X ys', nw' = (l, lst ys') :: (c, oc) :: (X ++ R) ∧ Nd nw' ∧ Prs X ys' (es' ++ [(k, d')]) := by
  subst hW
  refine ⟨(l, lst (ys ++ [.ref T])) :: (c, oc) :: (((T, tup2 kv v' 0) :: X₁) ++ R), ?_, ?_, (T, tup2 kv v' 0) :: X₁, ys ++ [.ref T], rfl, ?_, ?_⟩
  · rw [← lst_snoc]
    refine News.sub (fun q hq => ?_) NN
    simp only [List.cons_append, List.nil_append, List.mem_cons] at hq ⊢
    rcases hq with h | h | h | h | h | h <;> simp [h]
  · have key : ∀ p ∈ (l, lst (ys ++ [.ref T])) :: (c, oc) :: (((T, tup2 kv v' 0) :: X₁) ++ R), p.1 ≠ I ∧ p.1 ≠ I + 1 := by
      intro p hp
      rcases List.mem_cons.mp hp with rfl | hp
      · exact off (l, lst ys) (.head _)
      rcases List.mem_cons.mp hp with rfl | hp
      · exact off (c, oc') (.tail _ (.head _))
      rcases List.mem_cons.mp hp with rfl | hp
      · exact ⟨Nat.ne_of_gt lT.2.2.2.2.1, Nat.ne_of_gt lT.2.2.2.1⟩
      · exact off _ (.tail _ (.tail _ hp))
    intro p hp q hq
    rcases List.mem_cons.mp hq with rfl | hq
    · exact (key p hp).2
    · rw [List.mem_singleton.mp hq]; exact (key p hp).1
  · have nd1 : Nd ((T, tup2 kv v' 0) :: (l, lst (ys ++ [.ref T])) :: (c, oc) :: (X₁ ++ R)) := Nd.cons ⟨lT.2.2.2.2.2.1, lT.2.2.2.2.2.2.1, lT.2.2.2.2.2.2.2⟩ (nd.addr rfl)
    exact Nd.perm (perm4 _ _ _ _) nd1
  · exact (pr.mono fun q hq => .tail _ hq).snoc (.head _) hkv hv
theorem brief_spec (w : World) (dl : Addr) (vs : List Value) (n : Nat) (es : List (KV × PyData)) (R : List (Addr × Obj)) (hdl : (dl, listOf vs.toArray n) ∈ R) (hp : Prs R vs es) (hkey : ∀ e ∈ es, IsVal e.1.d) (hval : ∀ e ∈ es, OptVal e.2) (hlen : es.length ≤ 20) :
    Calls w (.ref 343) [.ref dl] 20 200 R (fun r news' => ∃ X l vs' n', r = .ref l ∧ news' = X ++ R ∧ (l, listOf vs'.toArray n') ∈ X ∧ Prs X vs' (briefL es)) := by
  intro dp un gd cn cs a ccd cl outer A₀ base h₀ L m s p loose mean mg mb Q E B F X N T' hk hd' hu hn hret
  have hvl : vs.length ≤ 1000 := by rw [hp.length]; omega
  k_steps
  show wpAny _ _ _ _ _ _
  (rename Fr _ _ _ _ => FF)
  (rename News _ _ _ _ => NN)
  refine For_turns FF ?_
  k_steps
  show wpAny _ _ _ _ _ _
  refine enum_loop (by assumption) rfl (by assumption) (.tail _ (.tail _ hdl)) (fun i m' nw => Ext _ m' ∧ ∃ X ys oc ov, nw = (_, lst ys) :: (_, oc) :: (X ++ R) ∧ Nd nw ∧ oc.data = .cell ov ∧ Prs X ys ((briefL es).take i)) (fun i m' nw h => ?_) ⟨Ext.refl _, [], [], _, _, rfl, ?_, by assumption, .nil⟩ ?_ ?_
  · obtain ⟨_, X, ys, oc, ov, rfl, _⟩ := h
    exact .tail _ (.tail _ (List.mem_append_right _ hdl))
  · exact Nd.cons (by assumption) (Nd.consS (allLt_of (by assumption)) hn)
  · rintro i v m₁ nw h tk I oI oJ T t hv ⟨⟨vl, rfl⟩, X₁, ys, oc, ov, rfl, nd, hoc, pr⟩ F1 N1 off hT
    obtain ⟨da, kv, vv, nt, k, d, rfl, hda, hkv, hvv, he⟩ := hp.get hv
    have hda' : (da, tup2 kv vv nt) ∈ X₁ ++ R := List.mem_append_right _ hda
    have hdl' : (dl, listOf vs.toArray n) ∈ X₁ ++ R := List.mem_append_right _ hdl
    have off1 : ∀ q ∈ X₁ ++ R, q.1 ≠ I := fun q hq => (off q (.tail _ (.tail _ hq))).1
    have off2 : ∀ q ∈ X₁ ++ R, q.1 ≠ I + 1 := fun q hq => (off q (.tail _ (.tail _ hq))).2
    generalize hW : X₁ ++ R = W at *
    have n1 := nd.tail.head
    have n2 := nd.head _ (.head _)
    have n3 := n2.symm
    have n4 := (off _ (.head _)).1
    have n5 := (off _ (.head _)).2
    have n6 := (off _ (.tail _ (.head _))).1
    have n7 := (off _ (.tail _ (.head _))).2
    have n8 := n4.symm
    have n9 := n5.symm
    have n10 := n6.symm
    have n11 := n7.symm
    have n12 : ∀ q ∈ W, q.1 ≠ _ := fun q hq => nd.head q (.tail _ hq)
    dsimp only at n1 n2 n3 n4 n5 n6 n7 n8 n9 n10 n11 n12
    k_steps
    show wpAny _ _ _ _ _ _
    refine ListComp_2 (_F₀ := by k_asm) (by rfl) (by decide) (by rfl) (by decide) (by rfl) (by rfl) (by decide) ?_
    k_steps
    have hi1 : ((i : Int) + 1).toNat = i + 1 := by omega
    refine ⟨_, _, _, _, fun j ys' nw => nw = _ ∧ ∃ ns, IntsAre ys' ns ∧ (ns.isEmpty = !hid k ((es.drop (i + 1)).take j)), rfl, rfl, by k_asm, by k_asm, .head _, by rw [List.length_drop, sizeLine_eq]; omega, ⟨rfl, [], .nil, by simp [hid]⟩, ?_⟩
    rintro s₂ ⟨h2, rfl⟩
    refine ⟨?_, ?_⟩
    · rintro j v ys' nw' hv' ⟨rfl, ns, hns, hz⟩
      obtain ⟨da2, kv2, vv2, nt2, k2, d2, rfl, hda2, hkv2, hvv2, he2⟩ := (hp.drop _).get hv'
      rw [hi1] at he2
      have hda2' : (da2, tup2 kv2 vv2 nt2) ∈ W := by rw [← hW]; exact List.mem_append_right _ hda2
      refine ⟨da2, kv2, vv2, nt2, rfl, .tail _ (.tail _ (.tail _ (.tail _ (.tail _ hda2')))), ?_⟩
      intro I2 oI2 C oC D2 m₂ h tk E' hC hx hx2 Fh Nh off' ne
      have f1 := KV.flat hkv
      have f2 := KV.flat hkv2
      have v1 := hkey (k, d) (List.mem_of_getElem? he)
      have v2 := hkey (k2, d2) (List.mem_of_mem_drop (List.mem_of_getElem? he2))
      have ek := eqv_KV k2 k
      have ht := hid_turn (k := k) he2
      clear ek v1 v2 f1 f2
      have f1 := KV.flat hkv
      have f2 := KV.flat hkv2
      have v1 := hkey (k, d) (List.mem_of_getElem? he)
      have v2 := hkey (k2, d2) (List.mem_of_mem_drop (List.mem_of_getElem? he2))
      have ek := eqv_KV k2 k
      k_steps
      · (rename k2 = k => e1)
        (rename vv2 = Value.none => e2)
        exact CompEnd.intro (by k_asm) Nh _ (fun q hq => hq) off' (.head _) ⟨rfl, ns, hns, by rw [hz, ht, given_none hvv2 e2]; simp⟩
      · (rename k2 = k => e1)
        (rename vv2 ≠ Value.none => e2)
        exact CompEnd.intro (by k_asm) Nh _ (fun q hq => hq) off' (.head _) ⟨rfl, ns ++ [1], hns.append (.cons 1 _ .nil), by rw [ht, given_some hvv2 e2]; simp [e1]⟩
      · (rename ¬ k2 = k => e1)
        exact CompEnd.intro (by k_asm) Nh _ (fun q hq => hq) off' (.head _) ⟨rfl, ns, hns, by rw [hz, ht]; simp [e1]⟩
    · rintro ys' nw' ⟨rfl, ns, hns, hz⟩
      intro D h tk Fh Nh o1
      have hz' : PyData.eqvAll (ns.map .int) [] = !hid k (es.drop (i + 1)) := by
        have : (vs.drop ((i : Int) + 1).toNat).length = (es.drop (i + 1)).length := by rw [hi1, List.length_drop, List.length_drop, hp.length]
        rw [this, List.take_length] at hz
        rw [← hz]
        cases ns <;> rfl
      have lr : LR [] ys' (ns.map .int) := LR.ints hns
      have ok := okL.ints ns
      clear hns hz
      simp only [Off1] at o1
      have hys : ys.toArray.size ≤ 1000 := by
        rw [List.size_toArray, pr.length, List.length_take, briefL_length]; omega
      have s0 : ys.toArray.size ≤ sizeLine := by rw [sizeLine_eq]; omega
      k_steps
      all_goals show UnrEndW _ _ _ _ _ _
      all_goals (rename News _ _ _ _ => NN)
      all_goals (rename hid k (List.drop (i + 1) es) = _ => hh)
      · obtain ⟨nw', Nw, ofw, X, ys2, rfl, ndw, prw⟩ := brief_end (d' := .none) NN hW nd off (by assumption) pr hkv Flat.none
        refine ⟨_, _, _, _, rfl, by assumption, Nw, ofw, Ext.set (Ext.set (Ext.set ⟨vl, rfl⟩ (by rfl)) (by rfl)) (by rfl), X, ys2, _, _, rfl, ndw, by assumption, ?_⟩
        rw [List.take_add_one, briefL_get he, hh]; exact prw
      · obtain ⟨nw', Nw, ofw, X, ys2, rfl, ndw, prw⟩ := brief_end NN hW nd off (by assumption) pr hkv hvv
        refine ⟨_, _, _, _, rfl, by assumption, Nw, ofw, Ext.set (Ext.set (Ext.set ⟨vl, rfl⟩ (by rfl)) (by rfl)) (by rfl), X, ys2, _, _, rfl, ndw, by assumption, ?_⟩
        rw [List.take_add_one, briefL_get he, hh]; exact prw
  · rintro m₁ nw h tk ⟨⟨vl, rfl⟩, X₁, ys, oc, ov, rfl, nd, hoc, pr⟩ F1 N1
    k_steps
    (rename News h₀ L _ _ => NN)
    refine hret _ _ _ _ (by assumption) NN nd ⟨(_, lst ys) :: (_, oc) :: X₁, _, ys, ys.length, rfl, rfl, .head _, ?_⟩
    have : vs.length = (briefL es).length := by rw [briefL_length, hp.length]
    rw [this, List.take_length] at pr
    exact pr.mono fun q hq => .tail _ (.tail _ hq)
end -- C7
section -- SR
open PySem PySem.W PySem.Calls PyProof.Rows PyProof.V
set_option Elab.async false
/-- rows of two: fresh lists, each a key and a value -/
inductive PrL (W : List (Addr × Obj)) : List Value → List (KV × PyData) → Prop
  | nil : PrL W [] []
  | cons {a : Addr} {kv vv : Value} {n : Nat} {k : KV} {v : PyData} {vs : List Value} {es : List (KV × PyData)} : (a, listOf #[kv, vv] n) ∈ W → KV.is k kv = true → Flat vv v → PrL W vs es → PrL W (.ref a :: vs) ((k, v) :: es)
theorem PrL.mono {W W' : List (Addr × Obj)} {vs : List Value} {es : List (KV × PyData)} (h : PrL W vs es) (s : ∀ q ∈ W, q ∈ W') : PrL W' vs es := by
  induction h with
  | nil => exact .nil
  | cons a b c _ ih => exact .cons (s _ a) b c ih
theorem PrL.snoc {W : List (Addr × Obj)} {vs : List Value} {es : List (KV × PyData)} {a : Addr} {kv vv : Value} {n : Nat} {k : KV} {v : PyData} (h : PrL W vs es) (ha : (a, listOf #[kv, vv] n) ∈ W) (hk : KV.is k kv = true) (hv : Flat vv v) : PrL W (vs ++ [.ref a]) (es ++ [(k, v)]) := by
  induction h with
  | nil => exact .cons ha hk hv .nil
  | cons a b c _ ih => exact .cons a b c ih
theorem PrL.length {W : List (Addr × Obj)} {vs : List Value} {es : List (KV × PyData)} (h : PrL W vs es) : vs.length = es.length := by
  induction h with
  | nil => rfl
  | cons _ _ _ _ ih => simp [ih]
theorem PrL.get {W : List (Addr × Obj)} {vs : List Value} {es : List (KV × PyData)} (h : PrL W vs es) : ∀ {i : Nat} {v : Value}, vs[i]? = some v → ∃ a kv vv n k d, v = .ref a ∧ (a, listOf #[kv, vv] n) ∈ W ∧ KV.is k kv = true ∧ Flat vv d ∧ es[i]? = some (k, d) := by
  induction h with
  | nil => intro i v h; simp at h
  | @cons a kv vv n k d vs es h1 h2 h3 _ ih =>
    intro i v hv
    cases i with
    | zero => simp at hv; subst hv; exact ⟨a, kv, vv, n, k, d, rfl, h1, h2, h3, rfl⟩
    | succ j => simp at hv; obtain ⟨a', kv', vv', n', k', d', e1, e2, e3, e4, e5⟩ := ih hv; exact ⟨a', kv', vv', n', k', d', e1, e2, e3, e4, by simpa using e5⟩
/-- values two by two -/
inductive Fl2 : List Value → List (KV × PyData) → Prop
  | nil : Fl2 [] []
  | cons {kv vv : Value} {k : KV} {v : PyData} {vs : List Value} {es : List (KV × PyData)} : KV.is k kv = true → Flat vv v → Fl2 vs es → Fl2 (kv :: vv :: vs) ((k, v) :: es)
theorem Fl2.length {vs : List Value} {es : List (KV × PyData)} (h : Fl2 vs es) : vs.length = 2 * es.length := by
  induction h with
  | nil => rfl
  | cons _ _ _ ih => simp only [List.length_cons, ih]; omega
theorem Fl2.get {vs : List Value} {es : List (KV × PyData)} (h : Fl2 vs es) : ∀ {i : Nat} {e : KV × PyData}, es[i]? = some e → ∃ kv vv, (vs.drop (2 * i)).take 2 = [kv, vv] ∧ KV.is e.1 kv = true ∧ Flat vv e.2 := by
  induction h with
  | nil => intro i v h; simp at h
  | @cons kv vv k d vs es h1 h2 _ ih =>
    intro i e he
    cases i with
    | zero => simp at he; subst he; exact ⟨kv, vv, rfl, h1, h2⟩
    | succ j => simp at he; obtain ⟨a, b, c, d, e⟩ := ih he; exact ⟨a, b, by rw [show 2 * (j + 1) = 2 * j + 1 + 1 by omega]; exact c, d, e⟩
/-- the rows as lists of values -/
theorem PrL.rows {W : List (Addr × Obj)} {vs : List Value} {es : List (KV × PyData)} (h : PrL W vs es) : ∃ rs, Rws W vs rs ∧ Fl2 rs.flatten es := by
  induction h with
  | nil => exact ⟨[], .nil, .nil⟩
  | @cons a kv vv n k d vs es h1 h2 h3 _ ih =>
    obtain ⟨rs, r1, r2⟩ := ih
    exact ⟨[kv, vv] :: rs, .cons h1 r1, .cons h2 h3 r2⟩
end -- SR
section -- C8
open PySem PySem.W PySem.Calls PyProof.Rows PyProof.V PyProof.Rows.LCg PyProof.Rows.LCt PySem.SeqAt
set_option Elab.async false
set_option maxRecDepth 100000
set_option maxHeartbeats 8000000
set_option pp.deepTerms false
set_option pp.deepTerms.threshold 10
set_option pp.maxSteps 60000
/-- the text of a small whole number -/
def decT (n : Nat) : Str := Str.ofString (toString n)
theorem decT_can {n : Nat} (h1 : 1 ≤ n) (h2 : n ≤ 6) : IsVal (.str (decT n)) ∧ PyData.eqv (.str (decT n)) (.str (Str.ofString "")) = false ∧ decT n ++ Str.ofString "" = decT n ∧ (decT n).length + (Str.ofString "").length ≤ sizeLine ∧ (48 + (n : Int).fmod 10).toNat = 48 + n ∧ decT n = ⟨#[48 + n]⟩ ∧ (n : Int).fdiv 10 = 0 := by
  obtain rfl | rfl | rfl | rfl | rfl | rfl : n = 1 ∨ n = 2 ∨ n = 3 ∨ n = 4 ∨ n = 5 ∨ n = 6 := six h1 h2
  all_goals exact ⟨.inr ⟨_, by decide +kernel, rfl⟩, by decide +kernel, by decide +kernel, Nat.le_of_ble_eq_true rfl, by decide, by decide +kernel, by decide⟩
theorem chr_dig {prog : Program} {w : World} {A : Around} {E : Value → Shared → Prop} {s : Shared} {n : Nat} {u : Tok} {Q : Value → Shared → Prop} (h1 : 1 ≤ n) (h2 : n ≤ 6) (h : Q (.str (decT n) s.toks) { s with toks := s.toks + 1 }) :
    wpAny (model prog w) A (call (.builtin "chr") [.int (48 + (n : Int).fmod 10) u]) Q E s := by
  have d := decT_can h1 h2
  refine chr_of_range (by omega) (by omega) ?_
  rw [d.2.2.2.2.1, ← d.2.2.2.2.2.1]; exact h
theorem add_dig {prog : Program} {w : World} {A : Around} {E : Value → Shared → Prop} {s : Shared} {n : Nat} {u v : Tok} {Q : Value → Shared → Prop} (h1 : 1 ≤ n) (h2 : n ≤ 6) (h : ∀ a b, Q (.str (decT n) a) { s with toks := b }) :
    wpAny (model prog w) A (binaryOp .Add (.str (decT n) u) (.str (Str.ofString "") v)) Q E s := by
  have d := decT_can h1 h2
  refine SBL.add (hsz := d.2.2.2.1) ?_
  intro a b _
  rw [d.2.2.1]; exact h _ _
section
local macro_rules | `(tactic| walk_at "exec While BoolOp") => `(tactic| (k_here; refine held ?_))
local macro_rules | `(tactic| walk_at "call builtin:chr") => `(tactic| (k_here; refine chr_dig (by assumption) (by assumption) ?_))
local macro_rules | `(tactic| walk_at "binaryOp Add str str") => `(tactic| (k_here; refine add_dig (by assumption) (by assumption) ?_; intro _ _))
local macro_rules | `(tactic| walk_at "compareOp Eq str str") => `(tactic| (k_here; refine held ?_))
theorem text_spec (w : World) (n : Nat) (h1 : 1 ≤ n) (h2 : n ≤ 6) (t : Tok) (R : List (Addr × Obj)) :
    Calls w (.ref 184) [.int (n : Int) t] 4 120 R (fun r news' => news' = R ∧ ∃ t', r = .str (decT n) t') := by
  intro dp un gd cn cs a ccd cl outer A₀ base h₀ L m s p loose mean mg mb Q E B F X N T' hk hd' hu hn hret
  have e1 : (if (n : Int) < 0 then -(n : Int) else n) = n := if_neg (by omega)
  obtain ⟨v1, v2, -, -, -, -, e2⟩ := decT_can h1 h2
  k_steps
  show wpAny _ _ _ _ _ _
  rw [e1] at *
  refine whl_start 100 ?_
  iterate 35 walk1
  simp only [e2]
  k_steps
  show wpAny _ _ _ _ _ _
  refine eq_flat (by k_units) (Flat.str _ _) (Flat.str _ _) v1 (.inr ⟨Str.ofString "", by decide +kernel, rfl⟩) v2 ?_
  k_steps
  all_goals (rename News h₀ L _ _ => NN)
  all_goals exact hret _ _ _ _ (by assumption) (News.sub (fun q hq => .tail _ hq) NN) hn ⟨rfl, _, rfl⟩
end
local macro_rules | `(tactic| walk_at "exec For Tuple Name cons nil") => `(tactic| (k_here; refine held ?_))
local macro_rules | `(tactic| walk_at "ItemsRest") => `(tactic| (refine held ?_))
theorem size_spec (w : World) (n : Nat) (h1 : 1 ≤ n) (h2 : n ≤ 6) (b1 b2 bl : Addr) (u1 u2 u3 u4 : Tok) (n1 n2 eb : Nat) (R : List (Addr × Obj))
    (m1 : (b1, tup2 (.int 1 u1) (.int (n : Int) u2) n1) ∈ R) (m2 : (b2, tup2 (.int 1 u3) (.int 2 u4) n2) ∈ R) (m3 : (bl, listOf #[.ref b1, .ref b2] eb) ∈ R) :
    Calls w (.ref 250) [.ref bl] 2 50 R (fun r news' => news' = R ∧ ∃ t, r = .int (2 * (n : Int)) t) := by
  intro dp un gd cn cs a ccd cl outer A₀ base h₀ L m s p loose mean mg mb Q E B F X N T' hk hd' hu hn hret
  k_steps
  show wpAny _ _ _ _ _ _
  (rename Fr _ _ _ _ => FF)
  refine For_turns FF ?_
  k_steps
  show wpAny _ _ _ _ _ _
  refine iter_listTurns (vs := [.ref b1, .ref b2]) rfl (by assumption) (by assumption) m3 rfl rfl fun I hI => ?_
  refine ItemsRest.val fun h tk F1 => AllObj.cons fun o ho => AllObj.nil fun N1 => ?_
  simp only [List.cons_append, List.nil_append] at N1
  k_steps
  show UnrEndW _ _ _ _ _ _
  (rename News _ _ _ _ => NN)
  refine ⟨_, _, _, R, rfl, by assumption, NN, fun p hp q hq => (by rw [List.mem_singleton.mp hq]; exact Nat.ne_of_lt (hI p hp)), ⟨m3, trivial⟩, ?_⟩
  refine ItemsRest.val fun h tk F2 => AllObj.cons fun o ho => AllObj.nil fun N2 => ?_
  simp only [List.cons_append, List.nil_append] at N2
  k_steps
  show UnrEndW _ _ _ _ _ _
  (rename News _ _ _ _ => NN)
  refine ⟨_, _, _, R, rfl, by assumption, NN, fun p hp q hq => (by rw [List.mem_singleton.mp hq]; exact Nat.ne_of_lt (hI p hp)), ⟨m3, trivial⟩, ?_⟩
  refine ItemsRest.zero fun h tk F3 N3 => ?_
  k_steps
  (rename News h₀ L _ _ => NN)
  exact hret _ _ _ _ (by assumption) NN hn ⟨rfl, _, by congr 1; omega⟩
local macro_rules | `(tactic| walk_at "call ref") => `(tactic| (k_here; (with_reducible show wpAny _ _ (call (Value.ref 250) _) _ _ _); refine held ?_))
theorem nd3_new {R : List (Addr × Obj)} {d x l : Addr} {o1 o2 o3 : Obj} (hn : Nd R) (l1 : ∀ q ∈ R, q.1 < d) (l2 : d < x) (l3 : x < l ∧ d < l ∧ AllLt l R) : Nd ((l, o3) :: (x, o2) :: (d, o1) :: R) :=
  Nd.cons l3 (Nd.cons ⟨l2, allLt_of fun q hq => Nat.lt_trans (l1 q hq) l2⟩ (Nd.consA l1 hn))
/-- the tokens of an array's own dict -/
structure AX where
  (k1 k2 k3 k4 k5 k6 t1 t3 : Tok)
  (num items : Value)
def arrDict (w : World) (x : AX) (told : Str) (tt : Tok) (bl : Addr) : Obj := dictOf
  [⟨PyData.keyHash w.params (Str.ofString "word"), .str (Str.ofString "word") x.k1, .str (Str.ofString "ARRAY") x.t1⟩,
   ⟨PyData.keyHash w.params (Str.ofString "number"), .str (Str.ofString "number") x.k2, x.num⟩,
   ⟨PyData.keyHash w.params (Str.ofString "mark"), .str (Str.ofString "mark") x.k3, .int 0 x.t3⟩,
   ⟨PyData.keyHash w.params (Str.ofString "told"), .str (Str.ofString "told") x.k4, .str told tt⟩,
   ⟨PyData.keyHash w.params (Str.ofString "bounds"), .str (Str.ofString "bounds") x.k5, .ref bl⟩,
   ⟨PyData.keyHash w.params (Str.ofString "items"), .str (Str.ofString "items") x.k6, x.items⟩] 6
theorem array_end {w : World} {h₀ h' : Heap} {L l x d bl : Addr} {lo : Obj} {R : List (Addr × Obj)} {k1 k2 k3 k4 k5 k6 t1 t3 tt : Tok} {num items : Value} {tx : Str}
    (NN : News h₀ L h' ((l, lo) :: (x, instObj 222 d) :: (d, arrDict w ⟨k1, k2, k3, k4, k5, k6, t1, t3, num, items⟩ tx tt bl) :: R)) : News h₀ L h' ((x, instObj 222 d) :: (d, arrDict w ⟨k1, k2, k3, k4, k5, k6, t1, t3, num, items⟩ tx tt bl) :: R) := News.sub (fun q hq => .tail _ hq) NN
theorem array_spec (w : World) (k : Int) (tk : Tok) (tx : Str) (tt : Tok) (n : Nat) (h1 : 1 ≤ n) (h2 : n ≤ 6) (b1 b2 bl : Addr) (u1 u2 u3 u4 ue : Tok) (n1 n2 eb : Nat) (R : List (Addr × Obj))
    (m1 : (b1, tup2 (.int 1 u1) (.int (n : Int) u2) n1) ∈ R) (m2 : (b2, tup2 (.int 1 u3) (.int 2 u4) n2) ∈ R) (m3 : (bl, listOf #[.ref b1, .ref b2] eb) ∈ R) :
    Calls w (.ref 222) [.int k tk, .str tx tt, .ref bl, .str (Str.ofString "") ue] 6 150 R (fun r news' => ∃ a da x, r = .ref a ∧ news' = (a, instObj 222 da) :: (da, arrDict w x tx tt bl) :: R) := by
  intro dp un gd cn cs a ccd cl outer A₀ base h₀ L m s p loose mean mg mb Q E B F X N T' hk hd' hu hn hret
  k_steps
  show wpAny _ _ _ _ _ _
  (rename News _ _ _ _ => N0)
  have nd3 := nd3_new (o1 := .mk default default default default) (o2 := .mk default default default default) (o3 := .mk default default default default) hn (by assumption) (by assumption) (by assumption)
  refine Calls.use (size_spec w n h1 h2 b1 b2 bl u1 u2 u3 u4 n1 n2 eb _ (.tail _ (.tail _ (.tail _ m1))) (.tail _ (.tail _ (.tail _ m2))) (.tail _ (.tail _ (.tail _ m3)))) (by k_asm) (by k_asm) (by k_asm) N0 (by k_asm) rfl (by k_room) (by k_units) (nd3.addr rfl) ?_
  intro r news' h' tk' F1 N1 nd1 hp
  obtain ⟨rfl, t', rfl⟩ := hp
  k_steps
  refine hret _ _ _ _ (by assumption) (array_end (by assumption)) ?_ ⟨_, _, _, rfl, rfl⟩
  exact nd3.tail.addr rfl
end -- C8
section -- C9
open PySem PySem.W PySem.Calls PyProof.Rows PyProof.V PyProof.Rows.LCg PyProof.Rows.LCt PySem.SeqAt
set_option Elab.async false
set_option maxRecDepth 100000
set_option maxHeartbeats 8000000
set_option pp.deepTerms false
set_option pp.deepTerms.threshold 10
set_option pp.maxSteps 60000
theorem len_N {prog : Program} {w : World} {A : Around} {E : Value → Shared → Prop} {s : Shared} {h₀ : Heap} {L d : Addr} {news : List (Addr × Obj)} {its : Array Value} {n k : Nat} {Q : Value → Shared → Prop} (N : News h₀ L s.heap news) (hm : (d, listOf its k) ∈ news) (hn : its.size = n) (hz : n ≤ 1000)
    (h : ∀ t tk', Q (.int (n : Int) t) { s with toks := tk' }) : wpAny (model prog w) A (call (.builtin "len") [.ref d]) Q E s := by
  subst hn; exact len_L N hm hz h
local macro_rules | `(tactic| walk_at "call builtin:len") => `(tactic| (k_here; (with_reducible show wpAny _ _ (call (Value.builtin "len") [Value.ref _]) _ _ _); k_dflt (refine' len_N ?N ?hm ?hn ?hz ?_; (case N => k_asm); (case hm => k_mem); (case hn => k_asm); (case hz => omega); k_whole; intro t' tk')))
local macro_rules | `(tactic| walk_at "call ref") => `(tactic| (k_here; (with_reducible show wpAny _ _ (call (Value.ref 184) _) _ _ _); refine held ?_))
local macro_rules | `(tactic| walk_at "call ref") => `(tactic| (k_here; (with_reducible show wpAny _ _ (call (Value.ref 222) _) _ _ _); refine held ?_))
local macro_rules | `(tactic| walk_at "subscriptTail") => `(tactic| (k_here; (with_reducible show wpAny _ _ (subscriptTail _ _ (Value.ref _) (Value.int 0 _)) _ _ _); k_dflt ( refine' item_C ?N ?hm ?h0 ?h1 ?hx ?_; (case N => k_asm); (case hm => k_mem); (case h0 | h1 => decide); (case hx => k_asm); k_whole)))
def ArrPost (w : World) (es : List (KV × PyData)) (R : List (Addr × Obj)) (r : Value) (news' : List (Addr × Obj)) : Prop :=
  ∃ (X : List (Addr × Obj)) (a da : Addr) (x : AX) (tt : Tok) (bl b1 b2 il : Addr) (eb n1 n2 ni : Nat) (u1 u2 u3 u4 : Tok) (its : List Value), r = .ref a ∧ news' = X ++ R ∧ (a, instObj 222 da) ∈ X ∧ (da, arrDict w x (decT es.length ++ Str.ofString "," ++ decT 2) tt bl) ∈ X ∧
    x.items = .ref il ∧ (il, listOf its.toArray ni) ∈ X ∧ Fl2 its es ∧ (bl, listOf #[.ref b1, .ref b2] eb) ∈ X ∧ (b1, tup2 (.int 1 u1) (.int (es.length : Nat) u2) n1) ∈ X ∧ (b2, tup2 (.int 1 u3) (.int 2 u4) n2) ∈ X
local macro_rules | `(tactic| walk_at "pad") => `(tactic| skip)
theorem dec_fits {n : Nat} (h1 : 1 ≤ n) (h2 : n ≤ 6) : (decT n).length + (Str.ofString ",").length ≤ sizeLine ∧ (decT n ++ Str.ofString ",").length + (decT 2).length ≤ sizeLine := by
  obtain rfl | rfl | rfl | rfl | rfl | rfl : n = 1 ∨ n = 2 ∨ n = 3 ∨ n = 4 ∨ n = 5 ∨ n = 6 := six h1 h2
  all_goals exact ⟨Nat.le_of_ble_eq_true rfl, Nat.le_of_ble_eq_true rfl⟩
local macro_rules | `(tactic| walk_at "binaryOp Add str str") => `(tactic| (k_here; (with_reducible show wpAny _ _ (binaryOp Operator.Add (Value.str _ _) (Value.str _ _)) _ _ _); (refine SBL.add (hsz := ?z) ?_; (case z => assumption)); intro _ _))
theorem rows_spec (w : World) (k : Int) (tk : Tok) (rl : Addr) (vs : List Value) (nr : Nat) (es : List (KV × PyData)) (R : List (Addr × Obj)) (hrl : (rl, listOf vs.toArray nr) ∈ R) (hp : PrL R vs es) (h1 : 1 ≤ es.length) (h2 : es.length ≤ 6) :
    Calls w (.ref 312) [.ref rl, .int k tk] 14 250 R (ArrPost w es R) := by
  intro dp un gd cn cs a ccd cl outer A₀ base h₀ L m s p loose mean mg mb Q E B F X N T' hk hd' hu hn hret
  obtain ⟨v0, hv0⟩ : ∃ v0, vs.toArray.toList[(0 : Int).toNat]? = some v0 := by
    have : 0 < vs.length := by rw [hp.length]; omega
    exact ⟨vs[0], by simp [this]⟩
  have hv0' : vs[0]? = some v0 := by simpa using hv0
  obtain ⟨r0, kv0, vv0, n0, k0, d0, rfl, hr0, _, _, _⟩ := hp.get hv0'
  have z1 := (dec_fits h1 h2).1
  have z2 := (dec_fits h1 h2).2
  have hlen : vs.toArray.size = es.length := by rw [List.size_toArray, hp.length]
  k_steps
  show wpAny _ _ _ _ _ _
  refine Calls.use (text_spec w es.length h1 h2 _ _) (by k_asm) (by k_asm) (by k_asm) (by k_asm) (by k_asm) rfl (by k_room) (by k_units) (Nd.consA (by assumption) hn) ?_
  intro r news' h' tk' F1 N1 nd1 hp1
  obtain ⟨rfl, t1, rfl⟩ := hp1
  k_steps
  show wpAny _ _ _ _ _ _
  refine Calls.use (text_spec w 2 (by omega) (by omega) _ _) (by k_asm) (by k_asm) (by k_asm) (by k_asm) (by k_asm) rfl (by k_room) (by k_units) nd1 ?_
  intro r news' h' tk' F1 N1 nd2 hp1
  obtain ⟨rfl, t2, rfl⟩ := hp1
  clear nd1
  k_steps
  show wpAny _ _ _ _ _ _
  refine Calls.use (array_spec w k _ _ _ es.length h1 h2 _ _ _ _ _ _ _ _ _ _ _ _ (.tail _ (.tail _ (.head _))) (.tail _ (.head _)) (.head _)) (by k_asm) (by k_asm) (by k_asm) (by k_asm) (by k_asm) rfl (by k_room) (by k_units) (Nd.cons (by assumption) (Nd.cons (by assumption) (Nd.cons (by assumption) nd2))) ?_
  intro r news' h' tk' F1 N1 nd3 hp1
  obtain ⟨a, da, x, rfl, rfl⟩ := hp1
  clear nd2
  k_steps
  show wpAny _ _ _ _ _ _
  refine ListComp_N (_F₀ := by k_asm) (by rfl) (by decide) (by rfl) (by decide) (by rfl) (by rfl) (by rfl) (by rfl) ?_
  k_steps
  obtain ⟨rs, hrs, hfl⟩ := hp.rows
  refine ⟨rl, vs, nr, rs, _, rfl, rfl, by k_asm, by k_asm, .tail _ (.tail _ (.tail _ (.tail _ (.tail _ (.tail _ hrl))))), hrs.mono fun q hq => .tail _ (.tail _ (.tail _ (.tail _ (.tail _ (.tail _ hq))))), by rw [hfl.length]; omega, fun D h tk Fh Nh o1 => ?_⟩
  have nd4 := nd1_of (oD := lst rs.flatten) o1 nd3
  simp only [Off1] at o1
  simp only [arrDict] at Nh
  have q1 := nd3.tail.head
  have q2 := q1 _ (.head _)
  have q3 := q1 _ (.tail _ (.head _))
  have q4 := q1 _ (.tail _ (.tail _ (.head _)))
  have q5 := q1 _ (.tail _ (.tail _ (.tail _ (.head _))))
  have q6 : ∀ q ∈ R, q.1 ≠ da := fun q hq => q1 q (.tail _ (.tail _ (.tail _ (.tail _ hq))))
  have q7 := nd3.head _ (.head _)
  have q8 := q7.symm
  dsimp only at q2 q3 q4 q5 q7 q8
  k_steps
  (rename News h₀ L _ _ => NN)
  exact hret _ _ _ _ (by assumption) NN (nd4.addr rfl) ⟨[_, _, _, _, _, _, _], a, da, ⟨x.k1, x.k2, x.k3, x.k4, x.k5, x.k6, x.t1, x.t3, x.num, .ref D⟩, _, _, _, _, D, _, _, _, _, _, _, _, _, rs.flatten, rfl, rfl, .tail _ (.head _), .tail _ (.tail _ (.head _)), rfl, .head _, hfl, .tail _ (.tail _ (.tail _ (.head _))), .tail _ (.tail _ (.tail _ (.tail _ (.tail _ (.head _))))), .tail _ (.tail _ (.tail _ (.tail _ (.head _))))⟩
end -- C9
section -- SQ
open PySem PySem.W PySem.Calls PyProof.Rows PyProof.V PyProof.Rows.LCg
set_option Elab.async false
section
variable {prog : Program} {w : World} {A : Around} {E : Value → Shared → Prop} {s : Shared} {h₀ : Heap} {L : Addr} {m : Str → Option Value} {env : Env} {elt : Expr} {x : Str} {scope : Scope} {cl : List (Str × Addr)}
/-- the source: a range with a step -/
def SrcS (prog : Program) (w : World) (A : Around) (h₀ : Heap) (L : Addr) (m : Str → Option Value) (env : Env) (elt : Expr) (x : Str) (scope : Scope) (cl : List (Str × Addr)) (Fin : Shared → List Value → List (Addr × Obj) → Prop) (xv : Value) (s₁ : Shared) : Prop :=
  ∃ r a b c t u v n news, xv = .ref r ∧ A.handled = none ∧ Fr h₀ L s₁.heap m ∧ News h₀ L s₁.heap news ∧ IsRange s₁.heap r a b c t u v ∧ Builtin.Range.small a b c = true ∧ Builtin.Range.rangeSize a b c = ((n : Nat) : Int) ∧ n ≤ sizeLine ∧
    ∀ s₂ : Shared, (∃ h, s₂ = { s₁ with heap := h }) → CompRest prog w A h₀ L m env elt x scope cl s₂ (fun _ => True) (fun i v => ∃ t, v = .int (a + (i : Nat) * c) t) (Fin s₂) n 0 [] news
theorem ListComp_S {iter : Expr} {px : Pos} {pos : Pos} {Q : Value → Shared → Prop} (_F₀ : Fr h₀ L s.heap m)
    (hclos : closureFor scope env = pure cl) (hcell : ∀ y ∈ scope.names, y.2 ≠ .cell) (hkind : scope.kind = .function)
    (hnames : ∀ y ∈ scope.names, y.2 = .local → scope.names.lookup y.1 = some .local) (hx : scope.names.lookup x = some .local)
    (h : wpAny (model prog w) A (eval iter env) (SrcS prog w A h₀ L m env elt x scope cl (fun s₂ => FinE h₀ L m s₂ Q)) E s)
    (hs : ∀ x, foldedSetIterable iter env x = pure x := by intro _; rfl) :
    wpAny (model prog w) A (eval (.ListComp elt [⟨.Name x px, iter, [], 0⟩] scope pos) env) Q E s := by
  rw [eval_ListComp]
  refine wpAny_comprehension_free (use := none) rfl hs hclos hkind hnames (wpAny_mono h (fun xv s₁ h₁ => ?_) fun _ _ e => e)
  obtain ⟨r, a, b, c, t, u, v, n, news, rfl, hh, F, N, hr, hsmall, hn, hsz, R⟩ := h₁
  refine wpAny_pyIter_range hr hsmall ?_
  have hI : ∀ p ∈ news, p.1 < s₁.heap.objs.size := fun p hp => Heap.lt_size (N p hp).1
  refine block_U (Walks.range hh s₁.heap.objs.size a c n) hsz (fun i h st => ⟨_, st⟩) (fun i h h' o nw st e e' _ _ _ => by
      have st' : h.get? s₁.heap.objs.size = some _ := st
      rw [e] at st'
      exact e'.trans st') hcell hkind hx ?_ (fun b hb => ?_)
    (F.push _) (fun p hp => ⟨Heap.get?_push_of_some _ (N p hp).1, (N p hp).2⟩) (Nat.ne_of_lt F.ns.lt) (next_is_new F) (fun p hp => Nat.ne_of_lt (hI p hp)) trivial (R _ ⟨_, rfl⟩) ?_
  · show IsRangeIter _ _ _ _ _
    rw [hn]
    simpa using Heap.get?_push_size _ rfl
  · rw [List.mem_singleton.mp hb]
    show _ < (s₁.heap.push _).objs.size
    rw [Heap.size_push]
    exact Nat.lt_succ_self _
  · intro D C h tk m' ys news' F' N' o1 hn hC₀ hD₀ hCL hDL hCD offC fin
    refine ⟨m', hn, fun h'' hs'' => fin D h'' tk (F'.change hs'' hCL hC₀) (fun p hp => ?_) o1⟩
    refine ⟨hs''.extBut _ _ ?_ (N' p hp).1, (N' p hp).2⟩
    rcases List.mem_cons.mp hp with rfl | hp
    · exact Ne.symm hCD
    · exact offC p hp
end
end -- SQ
local macro_rules | `(tactic| walk_at "call builtin:len") => `(tactic| (k_here; (with_reducible show wpAny _ _ (call (Value.builtin "len") [Value.ref _]) _ _ _); k_dflt (refine' len_N ?N ?hm ?hn ?hz ?_; (case N => k_asm); (case hm => k_mem); (case hn => k_asm); (case hz => omega); k_whole; intro t' tk')))
local macro_rules | `(tactic| walk_at "binaryOp Add str str") => `(tactic| (k_here; (with_reducible show wpAny _ _ (binaryOp Operator.Add (Value.str _ _) (Value.str _ _)) _ _ _); (refine SBL.add (hsz := ?z) ?_; (case z => assumption)); intro _ _))
local macro_rules | `(tactic| walk_at "call ref") => `(tactic| (k_here; (with_reducible show wpAny _ _ (call (Value.ref 302) _) _ _ _); refine held ?_))
section -- C10
open PySem PySem.W PySem.Calls PyProof.Rows PyProof.V PyProof.Rows.LCg PyProof.Rows.LCt PySem.SeqAt
set_option Elab.async false
set_option maxRecDepth 100000
set_option maxHeartbeats 8000000
set_option pp.deepTerms false
set_option pp.deepTerms.threshold 10
set_option pp.maxSteps 60000
local macro_rules | `(tactic| walk_at "call ref") => `(tactic| (k_here; (with_reducible show wpAny _ _ (call (Value.ref 312) _) _ _ _); refine held ?_))
local macro_rules | `(tactic| walk_at "pad") => `(tactic| skip)
local macro_rules | `(tactic| walk_at "pad") => `(tactic| skip)
local macro_rules | `(tactic| walk_at "pad") => `(tactic| skip)
theorem t2a_nil (w : World) (k : Int) (tk : Tok) (T : TB) (hT : T.Ok w) (R : List (Addr × Obj)) (hR : ∀ q ∈ T.imm w, q ∈ R) (hlen : T.rows.length ≤ 900) (hval : ∀ e ∈ T.tab, IsVal e.2) (he : ents T.tab = []) :
    Calls w (.ref 307) [.ref T.t, .int k tk] 40 500 (T.mut ++ R) (fun r news' => r = .none ∧ ∃ X, news' = T.mut ++ (X ++ R)) := by
  intro dp un gd cn cs a ccd cl outer A₀ base h₀ L m s p loose mean mg mb Q E B F X N T' hk hd' hu hn hret
  k_steps
  show wpAny _ _ _ _ _ _
  refine Calls.use (ents_spec w T hT R hR hlen hval) (by k_asm) (by k_asm) (by k_asm) (by k_asm) (by k_asm) rfl (by k_room) (by k_units) hn ?_
  intro r news' h' tk' F1 N1 nd1 hp1
  obtain ⟨Y, l, vs, nl, rfl, rfl, hl, hprs⟩ := hp1
  have hsz : vs.size = 0 := by have := hprs.length; rw [he] at this; simpa using this
  have hl' : (l, listOf vs nl) ∈ T.mut ++ (Y ++ R) := List.mem_append_right _ (List.mem_append_left _ hl)
  generalize hW : T.mut ++ (Y ++ R) = W at *
  k_steps
  (rename News h₀ L _ _ => NN)
  exact hret _ _ _ _ (by assumption) NN nd1 ⟨rfl, Y, hW.symm⟩
theorem t2a_some (w : World) (k : Int) (tk : Tok) (T : TB) (hT : T.Ok w) (R : List (Addr × Obj)) (hR : ∀ q ∈ T.imm w, q ∈ R) (hlen : T.rows.length ≤ 900) (hval : ∀ e ∈ T.tab, IsVal e.2) (h1 : 1 ≤ (ents T.tab).length) (h2 : (ents T.tab).length ≤ 6) :
    Calls w (.ref 307) [.ref T.t, .int k tk] 40 500 (T.mut ++ R) (fun r news' => ∃ Y, ArrPost w (ents T.tab) (Y ++ (T.mut ++ R)) r news') := by
  intro dp un gd cn cs a ccd cl outer A₀ base h₀ L m s p loose mean mg mb Q E B F X N T' hk hd' hu hn hret
  k_steps
  show wpAny _ _ _ _ _ _
  refine Calls.use (ents_spec w T hT R hR hlen hval) (by k_asm) (by k_asm) (by k_asm) (by k_asm) (by k_asm) rfl (by k_room) (by k_units) hn ?_
  intro r news' h' tk' F1 N1 nd1 hp1
  obtain ⟨Y, l, vs, nl, rfl, rfl, hl, hprs⟩ := hp1
  have hsz : vs.size = (ents T.tab).length := by rw [← hprs.length]; simp
  have pm := perm3 Y T.mut R
  replace N1 := News.perm pm N1
  replace nd1 := Nd.perm pm nd1
  have hl' : (l, listOf vs nl) ∈ Y ++ (T.mut ++ R) := List.mem_append_left _ hl
  generalize hW : Y ++ (T.mut ++ R) = W at *
  have hp : Prs W vs.toList (ents T.tab) := hprs.mono fun q hq => by rw [← hW]; exact List.mem_append_left _ hq
  k_steps
  · exfalso; omega
  show wpAny _ _ _ _ _ _
  refine ListComp_U (cl := []) (F₀ := by k_asm) (by rfl) (by decide) (by rfl) (by decide) (by rfl) ?_
  k_steps
  refine CompSrc.ledger rfl (by k_asm) (by k_asm) hl' (by rw [sizeLine_eq]; omega) (fun g => ?_)
  refine restU_of_inv vs.size (fun i ys nw => ∃ Z, nw = Z ++ W ∧ Nd nw ∧ PrL nw ys ((ents T.tab).take i)) ?_ ?_ _ 0 [] _ (by simp) ⟨[], rfl, nd1, .nil⟩
  · rintro i ys nw v I oI C oC D m₂ h tk E' hi ⟨Z, rfl, nd, pr⟩ hv hC hx Fh Nh off ne
    have hv' : vs.toList[i]? = some v := by rw [← hv]; simp
    obtain ⟨da, kv, vv, nt, kk, d, rfl, hda, hkv, hvv, he⟩ := hp.get hv'
    have hda' : (da, tup2 kv vv nt) ∈ Z ++ W := List.mem_append_right _ hda
    have hl2 : (l, listOf vs nl) ∈ Z ++ W := List.mem_append_right _ hl'
    generalize hV : Z ++ W = V at *
    k_steps
    (rename News _ _ _ _ => NN)
    (rename _ ∧ _ ∧ _ ∧ AllLt _ V => l1)
    refine CompEnd.intro (by k_asm) NN (_ :: V) (fun q hq => by
      rcases List.mem_cons.mp hq with rfl | hq
      · exact .tail _ (.head _)
      rcases List.mem_cons.mp hq with rfl | hq
      · exact .tail _ (.tail _ (.head _))
      rcases List.mem_cons.mp hq with rfl | hq
      · exact .tail _ (.tail _ (.tail _ (.head _)))
      rcases List.mem_cons.mp hq with rfl | hq
      · exact .head _
      · exact .tail _ (.tail _ (.tail _ (.tail _ hq)))) ⟨⟨Nat.ne_of_gt l1.1, Nat.ne_of_gt l1.2.1, Nat.ne_of_gt l1.2.2.1⟩, off⟩ (.inr ⟨_, .tail _ hl2, rfl, _, rfl⟩)
      ⟨_ :: Z, by rw [← hV]; rfl, Nd.cons l1.2.2.2 nd, ?_⟩
    rw [List.take_add_one, he]
    exact (pr.mono fun q hq => .tail _ hq).snoc (.head _) hkv hvv
  · rintro ys nw ⟨Z, rfl, nd, pr⟩
    intro D h tk Fh Nh o1
    have nd2 := nd1_of (oD := lst ys) o1 nd
    rw [hsz, List.take_length] at pr
    have rsp := rows_spec w k
    k_steps
    show wpAny _ _ _ _ _ _
    refine Calls.use (rows_spec w k _ D ys ys.length (ents T.tab) ((D, lst ys) :: (Z ++ W)) (.head _) (pr.mono fun q hq => .tail _ hq) h1 h2) (by k_asm) (by k_asm) (by k_asm) (by k_asm) (by k_asm) rfl (by k_room) (by k_units) nd2 ?_
    intro r news' h' tk' F1 N2 nd3 hp2
    have eW : (D, lst ys) :: (Z ++ W) = ((D, lst ys) :: (Z ++ Y)) ++ (T.mut ++ R) := by rw [← hW]; simp
    rw [eW] at hp2
    k_steps
    (rename News h₀ L _ _ => NN)
    exact hret _ _ _ _ (by assumption) NN nd3 ⟨_, hp2⟩
end -- C10
section -- C11
open PySem PySem.W PySem.Calls PyProof.Rows PyProof.V PyProof.Rows.LCg PyProof.Rows.LCt PySem.SeqAt
set_option Elab.async false
set_option maxRecDepth 100000
set_option maxHeartbeats 8000000
set_option pp.deepTerms false
set_option pp.deepTerms.threshold 10
set_option pp.maxSteps 60000
local macro_rules | `(tactic| walk_at "call ref") => `(tactic| (k_here; (with_reducible show wpAny _ _ (call (Value.ref 312) _) _ _ _); refine held ?_))
/-- the array stands in the ledger -/
def ArrIn (w : World) (es : List (KV × PyData)) (W : List (Addr × Obj)) (a : Addr) : Prop :=
  ∃ (da : Addr) (x : AX) (tt : Tok) (bl b1 b2 il : Addr) (eb n1 n2 ni : Nat) (u1 u2 u3 u4 : Tok) (its : List Value), (a, instObj 222 da) ∈ W ∧ (da, arrDict w x (decT es.length ++ Str.ofString "," ++ decT 2) tt bl) ∈ W ∧
    x.items = .ref il ∧ (il, listOf its.toArray ni) ∈ W ∧ Fl2 its es ∧ (bl, listOf #[.ref b1, .ref b2] eb) ∈ W ∧ (b1, tup2 (.int 1 u1) (.int (es.length : Nat) u2) n1) ∈ W ∧ (b2, tup2 (.int 1 u3) (.int 2 u4) n2) ∈ W
local macro_rules | `(tactic| walk_at "pad") => `(tactic| skip)
local macro_rules | `(tactic| walk_at "pad") => `(tactic| skip)
local macro_rules | `(tactic| walk_at "pad") => `(tactic| skip)
local macro_rules | `(tactic| walk_at "pad") => `(tactic| skip)
theorem ArrPost.arr {w : World} {es : List (KV × PyData)} {R : List (Addr × Obj)} {r : Value} {news' : List (Addr × Obj)} (h : ArrPost w es R r news') : ∃ X a, r = .ref a ∧ news' = X ++ R ∧ ArrIn w es X a := by
  obtain ⟨X, a, da, x, tt, bl, b1, b2, il, eb, n1, n2, ni, u1, u2, u3, u4, its, e1, e2, r⟩ := h
  exact ⟨X, a, e1, e2, da, x, tt, bl, b1, b2, il, eb, n1, n2, ni, u1, u2, u3, u4, its, r⟩
theorem ArrIn.mono {w : World} {es : List (KV × PyData)} {W W' : List (Addr × Obj)} {a : Addr} (h : ArrIn w es W a) (s : ∀ q ∈ W, q ∈ W') : ArrIn w es W' a := by
  obtain ⟨da, x, tt, bl, b1, b2, il, eb, n1, n2, ni, u1, u2, u3, u4, its, m1, m2, m3, m4, m5, m6, m7, m8⟩ := h
  exact ⟨da, x, tt, bl, b1, b2, il, eb, n1, n2, ni, u1, u2, u3, u4, its, s _ m1, s _ m2, m3, s _ m4, m5, s _ m6, s _ m7, s _ m8⟩
local macro_rules | `(tactic| walk_at "execs cons Return nil") => `(tactic| (k_here; (with_reducible refine wpAny_execs_cons ?_); (try dsimp only)))
local macro_rules | `(tactic| walk_at "exec Return some") => `(tactic| (k_here; refine held ?_))
local macro_rules | `(tactic| walk_at "subscriptTail Name Slice ref ref") => `(tactic| (k_here; (with_reducible show wpAny _ _ (subscriptTail _ (PySem.Expr.Slice (some _) (some _) none _) (Value.ref _) (Value.ref _)) _ _ _); k_dflt (refine' slice_run ?F ?N ?l ?p ?q ?x ?y ?z ?_ ?s ?t; (case F | N => k_asm); (case l => k_mem); (case p | q => exact IsPart.int _ _); (case x | y => omega); (case z => (first | assumption | omega)); (case s => with_unfolding_all rfl); (case t => kmk_pure)); intro D' h' F' N' l1; (try k_lt l1); (try k_sweep)))
theorem in0 {α : Type} {a : α} {l W : List α} (h : a :: l = W) : a ∈ W := h ▸ .head _
theorem in1 {α : Type} {a b : α} {l W : List α} (h : a :: b :: l = W) : b ∈ W := h ▸ .tail _ (.head _)
theorem in2 {α : Type} {a b q : α} {l W : List α} (h : a :: b :: l = W) (hq : q ∈ l) : q ∈ W := h ▸ .tail _ (.tail _ hq)
theorem app2 {α : Type} {a b : α} {Z R W : List α} (h : a :: b :: R = W) : Z ++ W = (Z ++ [a, b]) ++ R := by subst h; simp
theorem rng2 {n : Nat} (h1 : 1 ≤ n) (h2 : n ≤ 6) : Builtin.Range.small 0 ((2 * n : Nat) : Int) (2 - 1 + 1) = true ∧ Builtin.Range.rangeSize 0 ((2 * n : Nat) : Int) (2 - 1 + 1) = (n : Int) := by
  obtain rfl | rfl | rfl | rfl | rfl | rfl : n = 1 ∨ n = 2 ∨ n = 3 ∨ n = 4 ∨ n = 5 ∨ n = 6 := six h1 h2
  all_goals exact ⟨by decide, by decide⟩
theorem rowsof_spec (w : World) (es : List (KV × PyData)) (a : Addr) (R : List (Addr × Obj)) (ha : ArrIn w es R a) (h1 : 1 ≤ es.length) (h2 : es.length ≤ 6) :
    Calls w (.ref 317) [.ref a] 10 200 R (fun r news' => ∃ X l vs n, r = .ref l ∧ news' = X ++ R ∧ (l, listOf vs.toArray n) ∈ X ∧ PrL X vs es) := by
  intro dp un gd cn cs a' ccd cl outer A₀ base h₀ L m s p loose mean mg mb Q E B F X N T' hk hd' hu hn hret
  obtain ⟨da, x, tt, bl, b1, b2, il, eb, n1, n2, ni, u1, u2, u3, u4, its, m1, m2, m3, m4, m5, m6, m7, m8⟩ := ha
  obtain ⟨k1, k2, k3, k4, k5, k6, t1, t3, num, items⟩ := x
  simp only [arrDict] at m2 m3
  subst m3
  have hz : its.toArray.size = 2 * es.length := by rw [List.size_toArray, m5.length]
  have hzl : its.length ≤ 1000 := by rw [m5.length]; omega
  k_steps
  (rename ∀ (p : Addr × Obj), p ∈ R → p.1 < _ => lR)
  have c1 := fun q hq => Nat.ne_of_lt (Nat.lt_succ_of_lt (Nat.lt_succ_of_lt (lR q hq)))
  have c2 := fun q hq => Nat.ne_of_lt (Nat.lt_succ_of_lt (lR q hq))
  simp only [Nat.succ_eq_add_one] at c1 c2
  k_steps
  show wpAny _ _ _ _ _ _
  refine wpAny_Return_some ?_
  refine ListComp_S (_F₀ := by k_asm) (by rfl) (by decide) (by rfl) (by decide) (by rfl) ?_
  k_steps
  refine ⟨_, _, _, _, _, _, _, es.length, _, rfl, rfl, by k_asm, by k_asm, by k_asm, (rng2 h1 h2).1, (rng2 h1 h2).2, by rw [sizeLine_eq]; omega, ?_⟩
  rintro s₂ ⟨hh2, rfl⟩
  have nd0 : Nd R := hn
  generalize hW : (_ :: _ :: R : List (Addr × Obj)) = W
  refine restU_of_inv es.length (fun i ys nw => ∃ Z, nw = Z ++ W ∧ Nd nw ∧ PrL Z ys (es.take i)) ?_ ?_ _ 0 [] _ (by simp) ⟨[], rfl, ?_, .nil⟩
  · rintro i ys nw v I oI C oC D m₂ h tk E' hi ⟨Z, rfl, nd, pr⟩ ⟨t, rfl⟩ hC hx Fh Nh off ne
    obtain ⟨e, he⟩ : ∃ e, es[i]? = some e := ⟨_, List.getElem?_eq_getElem hi⟩
    obtain ⟨kv, vv, hs, hkv, hvv⟩ := m5.get he
    have cw := List.mem_append_right Z (in0 hW)
    have cw1 := List.mem_append_right Z (in1 hW)
    replace m1 := List.mem_append_right Z (in2 hW m1)
    replace m2 := List.mem_append_right Z (in2 hW m2)
    replace m4 := List.mem_append_right Z (in2 hW m4)
    have hx1 : (0 : Int) ≤ 0 + (i : Nat) * (2 - 1 + 1) := by omega
    generalize hV : Z ++ W = V at *
    k_steps
    (rename News _ _ _ _ => NN)
    (rename _ ∧ _ ∧ _ ∧ AllLt _ V => l1)
    have ex : (0 + (i : Nat) * (2 - 1 + 1) : Int).toNat = 2 * i := by omega
    have ey : (0 + (i : Nat) * (2 - 1 + 1) + (2 - 1 + 1) : Int).toNat - (0 + (i : Nat) * (2 - 1 + 1) : Int).toNat = 2 := by omega
    rw [ey, ex, hs] at NN
    refine CompEnd.intro (by k_asm) NN (_ :: V) (fun q hq => by
      rcases List.mem_cons.mp hq with rfl | hq
      · exact .tail _ (.head _)
      rcases List.mem_cons.mp hq with rfl | hq
      · exact .tail _ (.tail _ (.head _))
      rcases List.mem_cons.mp hq with rfl | hq
      · exact .tail _ (.tail _ (.tail _ (.head _)))
      rcases List.mem_cons.mp hq with rfl | hq
      · exact .head _
      · exact .tail _ (.tail _ (.tail _ (.tail _ hq)))) ⟨⟨Nat.ne_of_gt l1.1, Nat.ne_of_gt l1.2.1, Nat.ne_of_gt l1.2.2.1⟩, off⟩ trivial
      ⟨_ :: Z, by rw [← hV]; rfl, Nd.cons l1.2.2.2 nd, ?_⟩
    rw [List.take_add_one, he]
    exact (pr.mono fun q hq => .tail _ hq).snoc (.head _) hkv hvv
  · rintro ys nw ⟨Z, rfl, nd, pr⟩
    intro D h tk Fh Nh o1
    have nd2 := nd1_of (oD := lst ys) o1 nd
    rw [List.take_length] at pr
    k_steps
    (rename News h₀ L _ _ => NN)
    have eW := app2 (Z := (D, lst ys) :: Z) hW
    exact hret _ _ _ _ (by assumption) NN nd2 ⟨_, D, ys, ys.length, rfl, eW, List.mem_append_left _ (.head _), pr.mono fun q hq => List.mem_append_left _ (.tail _ hq)⟩
  · rw [← hW]
    exact Nd.consA (fun q hq => by
      rcases List.mem_cons.mp hq with rfl | hq
      · exact Nat.lt_succ_self _
      · exact Nat.lt_succ_of_lt (Nat.lt_succ_of_lt (lR q hq))) (Nd.consS (allLt_of lR) nd0)
end -- C11
local macro_rules | `(tactic| walk_at "call ref") => `(tactic| (k_here; (with_reducible show wpAny _ _ (call (Value.ref 241) _) _ _ _); refine held ?_))
section -- C12
open PySem PySem.W PySem.Calls PyProof.Rows PyProof.V PyProof.Rows.LCg PyProof.Rows.LCt PySem.SeqAt
set_option Elab.async false
set_option maxRecDepth 100000
set_option maxHeartbeats 8000000
set_option pp.deepTerms false
set_option pp.deepTerms.threshold 10
set_option pp.maxSteps 60000
local macro_rules | `(tactic| walk_at "call ref") => `(tactic| (k_here; (with_reducible show wpAny _ _ (call (Value.ref 317) _) _ _ _); refine held ?_))
local macro_rules | `(tactic| walk_at "subscriptTail") => `(tactic| (k_here; (with_reducible show wpAny _ _ (subscriptTail _ _ (Value.ref _) (Value.int 0 _)) _ _ _); k_dflt ( refine' item_C ?N ?hm ?h0 ?h1 ?hx ?_; (case N => k_asm); (case hm => k_mem); (case h0 | h1 => decide); (case hx => k_asm); k_whole)))
local macro_rules | `(tactic| walk_at "pad") => `(tactic| skip)
local macro_rules | `(tactic| walk_at "pad") => `(tactic| skip)
local macro_rules | `(tactic| walk_at "pad") => `(tactic| skip)
theorem tab_len (T : TB) : T.tab.length = T.rows.length := by simp [TB.tab]
theorem Nd.new {p : Addr × Obj} {l : List (Addr × Obj)} (h : ∀ q ∈ l, q.1 ≠ p.1) (n : Nd l) : Nd (p :: l) :=
  List.nodup_cons.mpr ⟨fun hm => by
    obtain ⟨q, hq, e⟩ := List.mem_map.mp hm
    exact h q hq e, n⟩
theorem perm5 {α : Type} (M X R : List α) (I : α) : (M ++ (X ++ ([I] ++ R))).Perm ([I] ++ (M ++ (X ++ R))) :=
  permF [M, X, [I]] R (a := [0, 1, 2]) (b := [2, 0, 1]) (by decide)
theorem fill_step {es : List (KV × PyData)} (hnd : (es.map (·.1)).Nodup) {i : Nat} {k : KV} {d : PyData} (he : es[i]? = some (k, d)) :
    (touch (es.take i) k).map (fun e => if e.1 = k then (k, d) else e) = es.take (i + 1) := by
  have hk : k ∉ (es.take i).map (·.1) := by
    intro hm
    have h1 : es.map (·.1) = (es.take i).map (·.1) ++ (es.drop i).map (·.1) := by rw [← List.map_append, List.take_append_drop]
    rw [h1, List.nodup_append] at hnd
    have h2 : k ∈ (es.drop i).map (·.1) := by
      have : (es.drop i)[0]? = some (k, d) := by simpa using he
      exact List.mem_map.mpr ⟨_, List.mem_of_getElem? this, rfl⟩
    exact hnd.2.2 _ hm _ h2 rfl
  unfold touch
  rw [if_neg hk, List.map_append, List.take_add_one, he]
  have : (es.take i).map (fun e => if e.1 = k then (k, d) else e) = (es.take i).map id := List.map_congr_left fun e h => if_neg fun q => hk (List.mem_map.mpr ⟨e, h, q⟩)
  rw [this]; simp
theorem a2t_spec (w : World) (es : List (KV × PyData)) (hnd : (es.map (·.1)).Nodup) (hval : ∀ e ∈ es, IsVal e.2) (a : Addr) (k : Int) (tk : Tok) (R : List (Addr × Obj)) (ha : ArrIn w es R a) (h1 : 1 ≤ es.length) (h2 : es.length ≤ 6) :
    Calls w (.ref 324) [.ref a, .int k tk] 30 400 R (fun r news' => ∃ (T : TB) (X : List (Addr × Obj)), T.Ok w ∧ r = .ref T.t ∧ news' = T.mut ++ (X ++ R) ∧ (∀ q ∈ T.imm w, q ∈ X ++ R) ∧ T.tab = es) := by
  intro dp un gd cn cs a' ccd cl outer A₀ base h₀ L m s p loose mean mg mb Q E B F X N T' hk hd' hu hn hret
  k_steps
  show wpAny _ _ _ _ _ _
  refine Calls.use (rowsof_spec w es a R ha h1 h2) (by k_asm) (by k_asm) (by k_asm) (by k_asm) (by k_asm) rfl (by k_room) (by k_units) hn ?_
  intro r news' h' tk' F1 N1 nd1 hp1
  obtain ⟨Y, l, vs, nl, rfl, rfl, hl, hpr⟩ := hp1
  obtain ⟨da, x, tt, bl, b1, b2, il, eb, n1, n2, ni, u1, u2, u3, u4, its, m1, m2, m3, m4, m5, m6, m7, m8⟩ := ha
  obtain ⟨k1, k2, k3, k4, k5, k6, t1, t3, num, items⟩ := x
  simp only [arrDict] at m2 m3
  subst m3
  replace m1 := List.mem_append_right Y m1
  replace m2 := List.mem_append_right Y m2
  replace m6 := List.mem_append_right Y m6
  have hl' := List.mem_append_left R hl
  replace hpr := hpr.mono fun q hq => List.mem_append_left R hq
  obtain ⟨v0, hv0⟩ : ∃ v0, vs.toArray.toList[(0 : Int).toNat]? = some v0 := by
    have : 0 < vs.length := by rw [hpr.length]; omega
    exact ⟨vs[0], by simp [this]⟩
  have hv0' : vs[0]? = some v0 := by simpa using hv0
  obtain ⟨r0, kv0, vv0, n0, k0, d0, rfl, hr0, _, _, _⟩ := hpr.get hv0'
  have eW : ∃ W, Y ++ R = W := ⟨_, rfl⟩
  obtain ⟨W, hW⟩ := eW
  rw [hW] at N1 nd1 m1 m2 m6 hl' hpr hr0
  k_steps
  show wpAny _ _ _ _ _ _
  refine Calls.use (table_spec w _ _ W) (by k_asm) (by k_asm) (by k_asm) (by k_asm) (by k_asm) rfl (by k_room) (by k_units) nd1 ?_
  intro r news' h' tk' F2 N2 nd2 hp2
  obtain ⟨T0, ok0, hr0', rfl, rfl⟩ := hp2
  k_steps
  show wpAny _ _ _ _ _ _
  (rename Fr _ _ _ _ => FF)
  refine For_turns FF ?_
  k_steps
  show wpAny _ _ _ _ _ _
  have eR : T0.mut ++ (T0.imm w ++ W) = T0.mut ++ (T0.imm w ++ W) := rfl
  refine list_loop (vs := vs) (n := nl) (by assumption) rfl (by assumption) (List.mem_append_right _ (List.mem_append_right _ hl')) (fun i m' nw => Ext _ m' ∧ ∃ (T : TB) (X1 : List (Addr × Obj)), T.Ok w ∧ T.t = T0.t ∧ nw = T.mut ++ (X1 ++ W) ∧ Nd nw ∧ (∀ q ∈ T.imm w, q ∈ X1 ++ W) ∧ T.tab = es.take i) (fun i m' nw h => ?_)
    ⟨Ext.refl _, T0, T0.imm w, ok0, rfl, rfl, nd2, fun q hq => List.mem_append_left _ hq, by simp [TB.tab, hr0']⟩ ?_ ?_
  · obtain ⟨_, T, X1, _, _, rfl, _⟩ := h
    exact List.mem_append_right _ (List.mem_append_right _ hl')
  · rintro i v m₁ nw h tk I oI hv ⟨⟨vl, rfl⟩, T, X1, okT, tT, rfl, nd, im, tab⟩ F1 N1 off
    obtain ⟨ra, kv, vv, nr, kk, d, rfl, hra, hkv, hvv, he⟩ := hpr.get hv
    have hra' : (ra, listOf #[kv, vv] nr) ∈ T.mut ++ (X1 ++ W) := List.mem_append_right _ (List.mem_append_right _ hra)
    have ndI : Nd ([(I, oI)] ++ (T.mut ++ (X1 ++ W))) := Nd.new off nd
    have hi : i < es.length := (List.getElem?_eq_some_iff.mp he).1
    have hlen : T.rows.length ≤ 900 := by rw [← tab_len, tab, List.length_take]; omega
    have spec := entry_S w kk kv hkv T okT [(I, oI)] (X1 ++ W) im hlen
    rw [tT] at spec
    have hV : ∃ V, T.mut ++ (X1 ++ W) = V := ⟨_, rfl⟩
    obtain ⟨V, hV⟩ := hV
    rw [hV] at N1 hra' spec ndI
    k_steps
    show wpAny _ _ _ _ _ _
    refine Calls.use spec (by k_asm) (by k_asm) (by k_asm) (by k_asm) (by k_asm) rfl (by k_room) (by k_units) ndI ?_
    intro r news' h' tk' F2 N2 nd3 hp
    obtain ⟨T1, row, j, W1, rfl, af, pm⟩ := after_entry hp (fun q hq => List.mem_append_right _ (im q hq)) hlen nd3
    replace N2 := News.perm pm N2
    replace nd3 := Nd.perm pm nd3
    clear pm hp
    have d1 : T1.e ≠ row.pair := nd3.head _ (.head _)
    have d2 : T1.p ≠ row.pair := nd3.head _ (.tail _ (.head _))
    have d3 : T1.r ≠ row.pair := nd3.head _ (.tail _ (.tail _ (.head _)))
    have d4 : ∀ q ∈ W1, q.1 ≠ row.pair := fun q hq => nd3.head q (.tail _ (.tail _ (.tail _ hq)))
    k_steps
    show UnrEndW _ _ _ _ _ _
    (rename News _ _ _ _ => NN)
    obtain ⟨T2, X2, ok2, t2, N3, n3, im2, tb2⟩ := af.close _ _ _ vv d hvv NN (nd3.addr rfl)
    have pm := perm5 T2.mut X2 (X1 ++ W) (I, oI)
    refine ⟨_, _, _, T2.mut ++ ((X2 ++ X1) ++ W), rfl, by assumption, ?_, ?_, Ext.set (Ext.set ⟨vl, rfl⟩ (by rfl)) (by rfl), T2, X2 ++ X1, ok2, t2.trans tT, rfl, ?_, ?_, ?_⟩
    · rw [List.append_assoc]; exact News.perm pm N3
    · intro p hp q hq
      rw [List.mem_singleton.mp hq]
      have := (Nd.perm pm n3).head p (by rw [← List.append_assoc X2]; exact hp)
      exact this
    · rw [List.append_assoc]; exact (Nd.perm pm n3).tail
    · intro q hq
      rw [List.append_assoc]
      rcases List.mem_append.mp (im2 q hq) with h | h
      · exact List.mem_append_left _ h
      · exact List.mem_append_right _ (im q h)
    · rw [tb2, tab]; exact fill_step hnd he
  · rintro m₁ nw h tk ⟨⟨vl, rfl⟩, T, X1, okT, tT, rfl, nd, im, tab⟩ F1 N1
    k_steps
    (rename News h₀ L _ _ => NN)
    have eW : T.mut ++ (X1 ++ W) = T.mut ++ ((X1 ++ Y) ++ R) := by rw [← hW, List.append_assoc]
    rw [← tT]
    have hl2 : vs.length = es.length := hpr.length
    rw [hl2, List.take_length] at tab
    exact hret _ _ _ _ (by assumption) NN nd ⟨T, X1 ++ Y, okT, rfl, eW, fun q hq => by rw [List.append_assoc, hW]; exact im q hq, tab⟩
end -- C12
section -- PL
open PySem PySem.W PySem.Calls PyProof.Rows PyProof.V
set_option Elab.async false
abbrev Tab := List (KV × PyData)
abbrev nulD : PyData := .str (Str.ofString "")
def keysT (t : Tab) : List KV := t.map (·.1)
def addK (ks : List KV) (k : KV) : List KV := if k ∈ ks then ks else ks ++ [k]
def run (t : Tab) (ds : Tab) : Tab := ds.foldl (fun t e => tdo t e.1 e.2) t
def stepG (k : KV) (a : PyData) (e : KV × PyData) : PyData := if e.1 = k ∧ given e.2 = true then e.2 else a
def lastG (k : KV) (a : PyData) (ds : Tab) : PyData := ds.foldl (stepG k) a
theorem IsVal.nul : IsVal nulD := .inr ⟨Str.ofString "", by decide +kernel, rfl⟩
theorem keys_touch (t : Tab) (k : KV) : keysT (touch t k) = addK (keysT t) k := by
  unfold touch addK keysT
  split <;> simp
theorem tdo_none (t : Tab) (k : KV) : tdo t k .none = touch t k := rfl
theorem tdo_given {v : PyData} (h : given v = true) (t : Tab) (k : KV) : tdo t k v = (touch t k).map fun e => if e.1 = k then (k, v) else e := by
  cases v <;> first | rfl | (simp [given] at h)
theorem given_false {v : PyData} (h : given v = false) : v = .none := by
  cases v <;> first | rfl | (simp [given] at h)
theorem keys_set (t : Tab) (k : KV) (v : PyData) : keysT (t.map fun e => if e.1 = k then (k, v) else e) = keysT t := by
  unfold keysT
  rw [List.map_map]
  refine List.map_congr_left fun e _ => ?_
  show (if e.1 = k then (k, v) else e).1 = e.1
  split
  · rename_i h; exact h.symm
  · rfl
theorem keys_tdo (t : Tab) (k : KV) (v : PyData) : keysT (tdo t k v) = addK (keysT t) k := by
  by_cases h : given v = true
  · rw [tdo_given h, keys_set, keys_touch]
  · have e := given_false (v := v) (by simpa using h)
    subst e; rw [tdo_none, keys_touch]
theorem mem_addK {ks : List KV} {k x : KV} : x ∈ addK ks k ↔ x ∈ ks ∨ x = k := by
  unfold addK
  split
  · rename_i h
    constructor
    · exact .inl
    · rintro (h' | rfl)
      · exact h'
      · exact h
  · simp
theorem nodup_addK {ks : List KV} (n : ks.Nodup) (k : KV) : (addK ks k).Nodup := by
  unfold addK
  split
  · exact n
  · rename_i h
    rw [List.nodup_append]
    refine ⟨n, by simp, fun a ha b hb => ?_⟩
    rw [List.mem_singleton.mp hb]
    rintro rfl; exact h ha
theorem pre_addK (ks : List KV) (k : KV) : ks <+: addK ks k := by
  unfold addK
  split
  · exact List.prefix_refl _
  · exact List.prefix_append _ _
theorem addK_in {ks : List KV} {k : KV} (h : k ∈ ks) : addK ks k = ks := if_pos h
theorem nodup_tdo {t : Tab} (n : (keysT t).Nodup) (k : KV) (v : PyData) : (keysT (tdo t k v)).Nodup := by rw [keys_tdo]; exact nodup_addK n k
theorem lookup_set (t : Tab) (k : KV) (v : PyData) (x : KV) : (t.map fun e => if e.1 = k then (k, v) else e).lookup x = if x = k ∧ k ∈ keysT t then some v else t.lookup x := by
  induction t with
  | nil => simp [keysT, List.lookup]
  | cons e r ih =>
    obtain ⟨a, d⟩ := e
    rw [List.map_cons]
    by_cases hk : a = k
    · subst hk
      simp only [if_true]
      rw [List.lookup_cons, List.lookup_cons]
      by_cases hx : x = a
      · subst hx; simp [keysT]
      · have : (x == a) = false := beq_eq_false_iff_ne.mpr hx
        rw [this, ih]
        simp [hx]
    · simp only [hk, if_false]
      rw [List.lookup_cons, List.lookup_cons]
      by_cases hx : x = a
      · subst hx
        have : ¬ (x = k ∧ k ∈ keysT ((x, d) :: r)) := fun h => hk h.1
        rw [if_neg this]; simp
      · have : (x == a) = false := beq_eq_false_iff_ne.mpr hx
        rw [this, ih]
        have e : (k ∈ keysT ((a, d) :: r)) ↔ k ∈ keysT r := by
          simp [keysT, Ne.symm hk]
        simp only [e]
theorem lookup_app {k x : KV} (hx : ¬ x = k) (d : PyData) : ∀ t : Tab, (t ++ [(k, d)]).lookup x = t.lookup x
  | [] => by simp [List.lookup, beq_eq_false_iff_ne.mpr hx]
  | e :: r => by rw [List.cons_append, List.lookup_cons, List.lookup_cons, lookup_app hx d r]
theorem lookup_touch (t : Tab) (k x : KV) : (touch t k).lookup x = if x = k ∧ k ∉ keysT t then some nulD else t.lookup x := by
  unfold touch
  by_cases h : k ∈ t.map (·.1)
  · rw [if_pos h, if_neg]
    rintro ⟨_, h2⟩; exact h2 h
  · rw [if_neg h]
    by_cases hx : x = k
    · subst hx
      rw [if_pos ⟨rfl, h⟩, lookup_snoc h]
    · rw [if_neg fun q => hx q.1]
      clear h
      induction t with
      | nil => simp [List.lookup, beq_eq_false_iff_ne.mpr hx]
      | cons e r ih => rw [List.cons_append, List.lookup_cons, List.lookup_cons, ih]
theorem tget_touch' (t : Tab) (k x : KV) : tget (touch t k) x = tget t x := by
  unfold tget
  rw [lookup_touch]
  split
  · rename_i h
    obtain ⟨rfl, h⟩ := h
    rw [lookup_none h]; rfl
  · rfl
theorem tget_tdo (t : Tab) (k : KV) (v : PyData) (x : KV) : tget (tdo t k v) x = stepG x (tget t x) (k, v) := by
  unfold stepG
  by_cases h : given v = true
  · rw [tdo_given h]
    by_cases hx : k = x
    · subst hx
      simp only [h, and_self, if_true]
      unfold tget
      rw [lookup_set, if_pos ⟨rfl, by rw [keys_touch, mem_addK]; exact .inr rfl⟩]; rfl
    · simp only [hx, false_and, if_false]
      rw [← tget_touch' t k x]
      unfold tget
      rw [lookup_set, if_neg fun q => hx q.1.symm]
  · have e := given_false (by simpa using h)
    subst e
    rw [tdo_none, tget_touch']
    simp [given]
theorem tget_run (ds : Tab) : ∀ (t : Tab) (x : KV), tget (run t ds) x = lastG x (tget t x) ds := by
  induction ds with
  | nil => intro t x; rfl
  | cons e r ih =>
    intro t x
    show tget (run (tdo t e.1 e.2) r) x = lastG x (stepG x (tget t x) e) r
    rw [ih, tget_tdo]
theorem keys_run (ds : Tab) : ∀ t : Tab, keysT (run t ds) = (ds.map (·.1)).foldl addK (keysT t) := by
  induction ds with
  | nil => intro t; rfl
  | cons e r ih =>
    intro t
    show keysT (run (tdo t e.1 e.2) r) = _
    rw [ih, keys_tdo]; rfl
theorem nodup_run (ds : Tab) : ∀ {t : Tab}, (keysT t).Nodup → (keysT (run t ds)).Nodup := by
  induction ds with
  | nil => intro t h; exact h
  | cons e r ih => intro t h; exact ih (t := tdo t e.1 e.2) (nodup_tdo h _ _)
theorem run_append (t a b : Tab) : run t (a ++ b) = run (run t a) b := by unfold run; rw [List.foldl_append]
theorem run_snoc {es : Tab} {i : Nat} {e : KV × PyData} (h : es[i]? = some e) (t : Tab) : run t (es.take (i + 1)) = tdo (run t (es.take i)) e.1 e.2 := by
  rw [List.take_add_one, h, run_append]; rfl
theorem tab_ext : ∀ {t u : Tab}, keysT t = keysT u → (keysT t).Nodup → (∀ k ∈ keysT t, tget t k = tget u k) → t = u
  | [], [], _, _, _ => rfl
  | [], e :: r, h, _, _ => by simp [keysT] at h
  | e :: r, [], h, _, _ => by simp [keysT] at h
  | (a, d) :: r, (b, c) :: q, h, n, g => by
    have hk : a = b ∧ keysT r = keysT q := by simpa [keysT] using h
    obtain ⟨rfl, hk⟩ := hk
    have n' : a ∉ keysT r ∧ (keysT r).Nodup := by simpa [keysT] using n
    have e1 : d = c := by
      have := g a (by simp [keysT])
      simpa [tget, List.lookup] using this
    subst e1
    have : r = q := tab_ext hk n'.2 fun k hk' => by
      have := g k (by simp only [keysT, List.map_cons]; exact .tail _ hk')
      have hne : (k == a) = false := beq_eq_false_iff_ne.mpr fun e => n'.1 (e ▸ hk')
      simpa [tget, List.lookup_cons, hne] using this
    rw [this]
theorem tget_mem {t : Tab} (n : (keysT t).Nodup) {e : KV × PyData} (h : e ∈ t) : tget t e.1 = e.2 := by
  unfold tget
  rw [lookup_of_nodup n (k := e.1) (v := e.2) h]; rfl
theorem tget_out {t : Tab} {k : KV} (h : k ∉ keysT t) : tget t k = nulD := by
  unfold tget
  rw [lookup_none h]; rfl
theorem nullB_nul {d : PyData} : nullB d = true ↔ d = nulD := by
  cases d <;> simp [nullB, nulD, nul]
theorem mem_ents {t : Tab} (n : (keysT t).Nodup) {e : KV × PyData} : e ∈ ents t ↔ nullB e.2 = false ∧ tget t e.1 = e.2 := by
  unfold ents
  rw [List.mem_filter]
  constructor
  · rintro ⟨h1, h2⟩
    exact ⟨by simpa using h2, tget_mem n h1⟩
  · rintro ⟨h1, h2⟩
    refine ⟨?_, by simp [h1]⟩
    by_cases hk : e.1 ∈ keysT t
    · obtain ⟨e', he, ee⟩ := List.mem_map.mp hk
      have := tget_mem n he
      rw [ee, h2] at this
      have e2 : e' = e := Prod.ext ee this.symm
      exact e2 ▸ he
    · rw [tget_out hk] at h2
      rw [← h2] at h1
      have : nullB nulD = true := nullB_nul.mpr rfl
      rw [this] at h1; cases h1
theorem nodup_ents {t : Tab} (n : (keysT t).Nodup) : (keysT (ents t)).Nodup := List.Nodup.sublist (List.Sublist.map _ List.filter_sublist) n
theorem nodup_of_keys {t : Tab} (n : (keysT t).Nodup) : t.Nodup := by
  induction t with
  | nil => exact .nil
  | cons e r ih =>
    have n' : e.1 ∉ keysT r ∧ (keysT r).Nodup := by simpa [keysT] using n
    rw [List.nodup_cons]
    exact ⟨fun h => n'.1 (List.mem_map.mpr ⟨e, h, rfl⟩), ih n'.2⟩
theorem tget_ents {t : Tab} (n : (keysT t).Nodup) (k : KV) : tget (ents t) k = tget t k := by
  by_cases h : nullB (tget t k) = true
  · rw [nullB_nul.mp h]
    by_cases hk : k ∈ keysT (ents t)
    · obtain ⟨e, he, rfl⟩ := List.mem_map.mp hk
      have := ((mem_ents n).mp he)
      rw [this.2] at h; rw [h] at this; cases this.1
    · exact tget_out hk
  · have h' : nullB (tget t k) = false := by simpa using h
    have : (k, tget t k) ∈ ents t := (mem_ents n).mpr ⟨h', rfl⟩
    exact tget_mem (nodup_ents n) this
/-- what the undoing holds -/
def Und (U T : Tab) : Prop := keysT T <+: keysT U ∧ (keysT U).Nodup ∧ ∀ k, tget U k = tget T k
theorem Und.refl {T : Tab} (n : (keysT T).Nodup) : Und T T := ⟨List.prefix_refl _, n, fun _ => rfl⟩
theorem IsVal.given {d : PyData} (h : IsVal d) : given d = true := by
  rcases h with ⟨n, rfl⟩ | ⟨x, _, rfl⟩ <;> rfl
theorem Und.step {U T : Tab} {k : KV} {v : PyData} (h : Und U (tdo T k v)) (hv : given (tget T k) = true) : Und (tdo U k (tget T k)) T := by
  obtain ⟨p, n, g⟩ := h
  rw [keys_tdo] at p
  refine ⟨?_, nodup_tdo n _ _, fun x => ?_⟩
  · rw [keys_tdo]
    exact ((pre_addK _ _).trans p).trans (pre_addK _ _)
  · rw [tget_tdo]
    unfold stepG
    by_cases hx : k = x
    · subst hx; simp [hv]
    · simp only [hx, false_and, if_false]
      rw [g, tget_tdo]
      unfold stepG
      simp [hx]
theorem Und.ents {U T : Tab} (h : Und U T) : ents U = ents T := by
  obtain ⟨⟨ks, p⟩, n, g⟩ := h
  have hl : (keysT T).length = T.length := by simp [keysT]
  have e1 : U.take T.length = T := by
    have hk : keysT (U.take T.length) = keysT T := by
      have : (keysT U).take T.length = keysT T := by rw [← p, ← hl, List.take_left']; rfl
      rw [← this]; simp [keysT]
    have nt : (keysT (U.take T.length)).Nodup := List.Nodup.sublist (List.Sublist.map _ (List.take_sublist _ _)) n
    refine tab_ext hk nt fun k hk' => ?_
    obtain ⟨e, he, rfl⟩ := List.mem_map.mp hk'
    rw [tget_mem nt he, ← g, tget_mem n (List.mem_of_mem_take he)]
  have e2 : ∀ e ∈ U.drop T.length, nullB e.2 = true := by
    intro e he
    have hk : e.1 ∉ keysT T := by
      intro hm
      have : (keysT U).drop T.length = ks := by rw [← p, ← hl, List.drop_left']; rfl
      have hd : e.1 ∈ ks := by rw [← this]; unfold keysT; rw [← List.map_drop]; exact List.mem_map_of_mem he
      rw [← p, List.nodup_append] at n
      exact n.2.2 _ hm _ hd rfl
    rw [nullB_nul, ← tget_mem n (List.mem_of_mem_drop he), g, tget_out hk]
  show U.filter _ = T.filter _
  rw [← List.take_append_drop T.length U, List.filter_append, e1]
  have : (U.drop T.length).filter (fun e => !nullB e.2) = [] := List.filter_eq_nil_iff.mpr fun e he => by simp [e2 e he]
  rw [this, List.append_nil]
/-- brief -/
theorem lastG_hid {k : KV} : ∀ {ds : Tab}, hid k ds = true → ∀ a b, lastG k a ds = lastG k b ds
  | [], h, _, _ => by simp [hid] at h
  | e :: r, h, a, b => by
    show lastG k (stepG k a e) r = lastG k (stepG k b e) r
    by_cases he : e.1 = k ∧ given e.2 = true
    · unfold stepG; rw [if_pos he, if_pos he]
    · have hr : hid k r = true := by
        unfold hid at h ⊢
        rw [List.any_cons, Bool.or_eq_true] at h
        rcases h with h | h
        · exact absurd (by simpa using h) he
        · exact h
      exact lastG_hid hr _ _
theorem lastG_brief (k : KV) : ∀ (ds : Tab) (a : PyData), lastG k a (briefL ds) = lastG k a ds
  | [], _ => rfl
  | e :: r, a => by
    show lastG k (stepG k a (e.1, if hid e.1 r then .none else e.2)) (briefL r) = lastG k (stepG k a e) r
    rw [lastG_brief]
    by_cases hh : hid e.1 r = true
    · by_cases hk : e.1 = k
      · exact lastG_hid (hk ▸ hh) _ _
      · unfold stepG; simp [hk]
    · simp [hh]
theorem brief_keys : ∀ ds : Tab, (briefL ds).map (·.1) = ds.map (·.1)
  | [] => rfl
  | _ :: r => congrArg (_ :: ·) (brief_keys r)
theorem run_brief {ds : Tab} : run [] (briefL ds) = run [] ds := by
  refine tab_ext (by rw [keys_run, keys_run, brief_keys]) (nodup_run _ .nil) fun k _ => ?_
  rw [tget_run, tget_run, lastG_brief]
/-- remade -/
theorem ents_perm {t u : Tab} (n : (keysT t).Nodup) (n' : (keysT u).Nodup) (g : ∀ k, tget t k = tget u k) : (ents t).Perm (ents u) :=
  (List.perm_ext_iff_of_nodup (nodup_of_keys (nodup_ents n)) (nodup_of_keys (nodup_ents n'))).mpr fun e => by rw [mem_ents n, mem_ents n', g]
theorem remade_perm (a b : Tab) : (ents (run (ents (run [] a)) b)).Perm (ents (run [] (a ++ b))) := by
  have n1 := nodup_run a (t := []) .nil
  refine ents_perm (nodup_run b (nodup_ents n1)) (nodup_run _ .nil) fun k => ?_
  rw [run_append, tget_run, tget_run, tget_ents n1]
theorem ents_full {t : Tab} (h : t.any (fun e => nullB e.2) = false) : ents t = t := List.filter_eq_self.mpr fun e he => by
  rw [List.any_eq_false] at h
  simpa using h e he
/-- the known values -/
theorem known_step {t : Tab} (n : (keysT t).Nodup) (k : KV) (v : PyData) : pput t k (if given v then v else tget t k) = tdo t k v := by
  have hn : (keysT (pput t k (if given v then v else tget t k))) = addK (keysT t) k := by
    unfold pput addK keysT
    split
    · rw [List.map_map]
      refine List.map_congr_left fun e _ => ?_
      show (if e.1 = k then (e.1, _) else e).1 = e.1
      split <;> rfl
    · simp
  refine tab_ext (by rw [hn, keys_tdo]) (by rw [hn]; exact nodup_addK n k) fun x _ => ?_
  rw [tget_tdo]
  have hl : ∀ d, (pput t k d).lookup x = if x = k then some d else t.lookup x := by
    intro d
    unfold pput
    split
    · rename_i hk
      have e : (t.map fun e => if e.1 = k then (e.1, d) else e) = t.map fun e => if e.1 = k then (k, d) else e := List.map_congr_left fun e _ => by
        split
        · rename_i h; rw [h]
        · rfl
      rw [e, lookup_set]
      by_cases hx : x = k
      · rw [if_pos ⟨hx, hk⟩, if_pos hx]
      · rw [if_neg fun q => hx q.1, if_neg hx]
    · rename_i hk
      by_cases hx : x = k
      · subst hx; rw [if_pos rfl, lookup_snoc hk]
      · rw [if_neg hx]
        exact lookup_app hx d t
  unfold tget
  rw [hl]
  unfold stepG
  by_cases hx : x = k
  · subst hx
    by_cases hg : given v = true
    · simp [hg]
    · simp [hg]
  · have : ¬ k = x := fun e => hx e.symm
    simp [hx, this]
theorem lookup_pput (t : Tab) (k : KV) (d : PyData) (x : KV) : (pput t k d).lookup x = if x = k then some d else t.lookup x := by
  unfold pput
  split
  · rename_i hk
    have e : (t.map fun e => if e.1 = k then (e.1, d) else e) = t.map fun e => if e.1 = k then (k, d) else e := List.map_congr_left fun e _ => by
      split
      · rename_i h; rw [h]
      · rfl
    rw [e, lookup_set]
    by_cases hx : x = k
    · rw [if_pos ⟨hx, hk⟩, if_pos hx]
    · rw [if_neg fun q => hx q.1, if_neg hx]
  · rename_i hk
    by_cases hx : x = k
    · subst hx; rw [if_pos rfl, lookup_snoc hk]
    · rw [if_neg hx]
      exact lookup_app hx d t
/-- the plain dict agrees with the table -/
def Agr (P T : Tab) : Prop := ∀ k, tget T k = tget P k
theorem Agr.step {P T : Tab} (h : Agr P T) (k : KV) (v : PyData) : Agr (if given v then pput P k v else P) (tdo T k v) := fun x => by
  rw [tget_tdo]
  unfold stepG
  by_cases hg : given v = true
  · simp only [hg, and_true, if_true]
    unfold tget
    rw [lookup_pput]
    by_cases hx : k = x
    · subst hx; simp
    · have : ¬ x = k := fun e => hx e.symm
      simp only [hx, this, if_false]; exact h x
  · simp only [hg, and_false, if_false]
    simpa [hg] using h x
theorem Agr.last {P T : Tab} (h : Agr P T) (n : (keysT T).Nodup) {e : KV × PyData} (he : e ∈ ents T) : P.lookup e.1 = some e.2 := by
  obtain ⟨h1, h2⟩ := (mem_ents n).mp he
  rw [h] at h2
  unfold tget at h2
  cases hp : P.lookup e.1 with
  | some v => rw [hp] at h2; exact congrArg some h2
  | none =>
    rw [hp] at h2
    rw [← h2] at h1
    have : nullB nulD = true := nullB_nul.mpr rfl
    exact absurd (this.symm.trans h1) (by simp)
theorem len_sub : ∀ {l m : List KV}, l.Nodup → (∀ x ∈ l, x ∈ m) → l.length ≤ m.length
  | [], m, _, _ => Nat.zero_le _
  | a :: r, m, n, h => by
    rw [List.nodup_cons] at n
    have := len_sub (l := r) (m := m.erase a) n.2 fun x hx => (List.mem_erase_of_ne (show x ≠ a from fun e => n.1 (e ▸ hx))).mpr (h x (.tail _ hx))
    have h2 := List.length_erase_of_mem (h a (.head _))
    have h3 : 0 < m.length := List.length_pos_of_mem (h a (.head _))
    simp only [List.length_cons]; omega
theorem sub_foldl_addK {m : List KV} : ∀ (ds : List KV) (ks : List KV), (∀ x ∈ ks, x ∈ m) → (∀ x ∈ ds, x ∈ m) → ∀ x ∈ ds.foldl addK ks, x ∈ m
  | [], _, h, _ => h
  | d :: r, ks, h, h2 => sub_foldl_addK r (addK ks d) (fun x hx => (mem_addK.mp hx).elim (h x) fun e => e ▸ h2 d (.head _)) fun x hx => h2 x (.tail _ hx)
theorem run_len {m : List KV} {t ds : Tab} (n : (keysT t).Nodup) (h1 : ∀ x ∈ keysT t, x ∈ m) (h2 : ∀ e ∈ ds, e.1 ∈ m) : (run t ds).length ≤ m.length := by
  have := len_sub (l := keysT (run t ds)) (m := m) (nodup_run ds n) (by
    rw [keys_run]
    exact sub_foldl_addK _ _ h1 fun x hx => by obtain ⟨e, he, rfl⟩ := List.mem_map.mp hx; exact h2 e he)
  simpa [keysT] using this
theorem vals_touch {t : Tab} (h : ∀ e ∈ t, IsVal e.2) (k : KV) : ∀ e ∈ touch t k, IsVal e.2 := by
  unfold touch
  split
  · exact h
  · intro e he
    rcases List.mem_append.mp he with he | he
    · exact h e he
    · rw [List.mem_singleton.mp he]; exact IsVal.nul
theorem vals_tdo {t : Tab} (h : ∀ e ∈ t, IsVal e.2) (k : KV) {v : PyData} (hv : OptVal v) : ∀ e ∈ tdo t k v, IsVal e.2 := by
  rcases hv with rfl | hv
  · exact vals_touch h k
  · rw [tdo_given hv.given]
    intro e he
    obtain ⟨e', he', rfl⟩ := List.mem_map.mp he
    split
    · exact hv
    · exact vals_touch h k _ he'
theorem vals_run : ∀ (ds : Tab) {t : Tab}, (∀ e ∈ t, IsVal e.2) → (∀ e ∈ ds, OptVal e.2) → ∀ e ∈ run t ds, IsVal e.2
  | [], _, h, _ => h
  | d :: r, t, h, h2 => vals_run r (t := tdo t d.1 d.2) (vals_tdo h _ (h2 d (.head _))) fun e he => h2 e (.tail _ he)
theorem tget_val {t : Tab} (h : ∀ e ∈ t, IsVal e.2) (k : KV) : IsVal (tget t k) := by
  unfold tget
  cases hl : t.lookup k with
  | none => exact IsVal.nul
  | some v =>
    have : ∀ {t : Tab}, t.lookup k = some v → ∃ e ∈ t, e.2 = v := by
      intro t
      induction t with
      | nil => intro h; simp [List.lookup] at h
      | cons e r ih =>
        intro hq
        rw [List.lookup_cons] at hq
        split at hq
        · exact ⟨e, .head _, by simpa using hq⟩
        · obtain ⟨e', he, q⟩ := ih hq; exact ⟨e', .tail _ he, q⟩
    obtain ⟨e, he, rfl⟩ := this hl
    exact h e he
end -- PL
section -- SW
open PySem PySem.W PySem.Calls PyProof.Rows PyProof.V PySem.SeqAt
set_option Elab.async false
section
variable {prog : Program} {w : World} {A : Around} {E : Value → Shared → Prop} {s : Shared}
theorem no_dv_contains : typeLookup (.type "dict_values") (Str.ofString "__contains__") = pure none := by rw [typeLookup_type, builtinLookup_eq_fast]; kernel_rfl
theorem entry_ci : entryFor table "proto.contains_iter" = some Builtin.«proto.contains_iter» := entryFor_of_fast (by kernel_rfl)
theorem plain_ci : plainId "proto.contains_iter" = true := by decide +kernel
theorem ci_loop {I d : Addr} {vals : List Value} {ep : Nat} {x : Value} {e : Value → Bool} {R : Result → Shared → Prop} (hne : d ≠ I) (hh : A.handled = none) (he : ∀ y ∈ vals, ∀ s' : Shared, EqAt A.in1 s' y x (e y)) (k : Nat) :
    ∀ (i : Nat) (s : Shared), vals.length - i = k → s.heap.IsValIter I d i vals.length ep → DV s.heap d vals ep → (∀ h', Heap.ExtBut I s.heap h' → R (.ok (.ret (.bool ((vals.drop i).any e)))) { s with heap := h' }) →
      wpAny (model prog w) A.in1 (Builtin.«proto.contains_iter» ⟨[.ref I, x], []⟩) (fun fin s' => match fin with | .done f => R (.ok f) s' | .again c' => c'.quiet = true ∧ codeAny (model prog w) A c' R s') (fun e s' => R (.error e) s') s := by
  induction k with
  | zero =>
    intro i s hk hit hm h
    have hd : vals.drop i = [] := List.drop_of_length_le (by omega)
    rw [hd] at h
    unfold Builtin.«proto.contains_iter»
    refine wpAny_bind (dv_end (A := A.in1) hh hit hm (by omega) fun h' he' => ?_)
    refine wpAny_bind ?_
    refine wpAny_rule ?_
    refine wpAny_pure ?_
    exact h h' he'
  | succ k ih =>
    intro i s hk hit hm h
    have hlt : i < vals.length := by omega
    have hx : vals[i]? = some vals[i] := List.getElem?_eq_getElem hlt
    rw [List.drop_eq_getElem_cons hlt, List.any_cons] at h
    unfold Builtin.«proto.contains_iter»
    refine wpAny_bind (dv_item (A := A.in1) hit hm hx fun h' hit' hs' => ?_)
    refine wpAny_bind (he _ (List.getElem_mem hlt) _ prog w _ _ ?_)
    cases hb : e vals[i] with
    | true =>
      rw [hb] at h
      refine wpAny_bind ?_
      refine wpAny_rule ?_
      refine wpAny_pure ?_
      exact h h' hs'.extBut
    | false =>
      rw [hb] at h
      refine wpAny_pure ⟨plainId_quiet plain_ci _, codeAny_builtin entry_ci ?_⟩
      rw [Around.under_plainId plain_ci _]
      refine ih (i + 1) { s with heap := h' } (by omega) hit' (hm.at fun o q => hs'.extBut d o hne q) fun h'' hs'' => ?_
      exact h h'' fun b o hb q => hs'' b o hb (hs'.extBut b o hb q)
theorem ci_code {I d : Addr} {vals : List Value} {ep : Nat} {x : Value} {e : Value → Bool} {R : Result → Shared → Prop} (hne : d ≠ I) (hh : A.handled = none) (he : ∀ y ∈ vals, ∀ s' : Shared, EqAt A.in1 s' y x (e y))
    (hit : s.heap.IsValIter I d 0 vals.length ep) (hm : DV s.heap d vals ep) (h : ∀ h', Heap.ExtBut I s.heap h' → R (.ok (.ret (.bool (vals.any e)))) { s with heap := h' }) : codeAny (model prog w) A (.builtin "proto.contains_iter" ⟨[.ref I, x], []⟩) R s :=
  codeAny_builtin entry_ci (by
    rw [Around.under_plainId plain_ci _]
    exact ci_loop hne hh he _ 0 _ rfl hit hm h)
theorem notin_dv {v d : Addr} {vals : List Value} {ep : Nat} {x : Value} {e : Value → Bool} {Q : Value → Shared → Prop} (hh : A.handled = none) (hv : s.heap.IsValuesView v d) (hm : DV s.heap d vals ep) (he : ∀ y ∈ vals, ∀ s' : Shared, EqAt A.in1 s' y x (e y))
    (h : ∀ h', Heap.ExtBut s.heap.objs.size (s.heap.push { cls := .type "dict_valueiterator", data := .fields #[.ref d, .int 0 0, .int vals.length 0, .int ep 0] }) h' → Q (.bool (!vals.any e)) { s with heap := h' }) :
    wpAny (model prog w) A (compareOp .NotIn x (.ref v)) Q E s := by
  show wpAny _ _ (do return .bool (!(← contains (.ref v) x))) Q E s
  refine wpAny_bind ?_
  unfold contains
  refine wpAny_holding ?_
  show wpAny _ _ (specialOf (.ref v) (Str.ofString "__contains__") >>= _) _ _ s
  refine wpAny_bind (wpAny_specialOf hv.typeIs no_dv_contains ?_)
  rw [if_neg (by decide)]
  refine wpAny_bind (wpAny_callSpecialUnlessNone?_none (name := Str.ofString "__contains__") hv.typeIs no_dv_contains ?_)
  refine wpAny_bind ?_
  refine wpAny_rule ?_
  refine wpAny_bind (wpAny_tryCatch (dv_iter hv hm ?_))
  obtain ⟨o, es, ho, hc, hdat, hvals⟩ := id hm
  have hne : d ≠ s.heap.objs.size := Nat.ne_of_lt (Heap.lt_size ho)
  refine wpAny_bind (wpAny_runValue (ci_code (ep := ep) (e := e) hne hh he ?_ ?_ fun h' hs' => ?_))
  · exact ⟨_, Heap.get?_push_size _ rfl, rfl, rfl⟩
  · exact hm.at fun o q => Heap.get?_push_of_some _ q
  · exact wpAny_pure (wpAny_pure (h h' hs'))
end
end -- SW
section -- SX
open PySem PySem.W PySem.Calls PyProof.Rows PyProof.V PySem.SeqAt
set_option Elab.async false
theorem pairs_vals {K : Type} [DecidableEq K] {prog : Program} {w : World} {knd : PySem.KeyKind prog w K} {es : List DictEntry} {kvs : List (K × Value)} (h : PySem.Pairs knd es kvs) : es.map (·.val) = kvs.map (·.2) := by
  induction h with
  | nil => rfl
  | cons _ e _ ih => rw [List.map_cons, List.map_cons, e, ih]
theorem PD.odv {w : World} {o : Obj} {t : Tab} (h : PD w o t) : ∃ (vals : List Value) (ep : Nat), ODV o vals ep ∧ vals.length = t.length ∧ ∀ (i : Nat) (v : Value), vals[i]? = some v → ∃ e : KV × PyData, t[i]? = some e ∧ Flat v e.2 := by
  obtain ⟨kvs, ⟨es, ep, hc, hdat, _, hp, hnd⟩, fk⟩ := h
  refine ⟨kvs.map (·.2), ep, ⟨hc, es, hdat, pairs_vals hp⟩, by rw [List.length_map, fk.length], ?_⟩
  clear hp hdat hnd
  induction fk with
  | nil => intro i v h; simp at h
  | @cons k v d kvs t f _ ih =>
    intro i u hu
    cases i with
    | zero => simp at hu; subst hu; exact ⟨(k, d), rfl, f⟩
    | succ j => simpa using ih j u (by simpa using hu)
section
variable {w : World} {A : Around} {E : Value → Shared → Prop} {s : Shared} {h₀ : Heap} {L : Addr} {m : Str → Option Value} {news : List (Addr × Obj)} {d v : Addr} {o : Obj} {t : Tab}
theorem pd_values {pl : Sem Bool} {Q : Value × List Value → Shared → Prop} (N : News h₀ L s.heap news) (hp : (d, o) ∈ news) (hd : PD w o t) (h : Q (.builtin "dict.values", [.ref d]) s) : wpAny (model PySem.Challenge.rw_sj0190_01.row.prog w) A (getMethod (.ref d) "values" pl) Q E s :=
  let ⟨_, _, od, _⟩ := hd.odv; odv_method N hp od h
theorem pd_vcall {Q : Value → Shared → Prop} (F : Fr h₀ L s.heap m) (N : News h₀ L s.heap news) (lo : (d == sysModules) = false) (hp : (d, o) ∈ news) (hd : PD w o t)
    (h : ∀ v h', Fr h₀ L h' m → News h₀ L h' ((v, ({ cls := .type "dict_values", data := .fields #[.ref d] } : Obj)) :: news) → (∀ p ∈ news, p.1 < v) → Q (.ref v) { s with heap := h' }) :
    wpAny (model PySem.Challenge.rw_sj0190_01.row.prog w) A (call (.builtin "dict.values") [.ref d]) Q E s :=
  let ⟨_, _, od, _⟩ := hd.odv; odv_call F N lo hp od h
noncomputable def isNul (y : Value) : Bool := PyData.eqv (readOf ({} : Heap) y) nulD
theorem isNul_eq {y : Value} {d : PyData} (f : Flat y d) (hv : IsVal d) : isNul y = nullB d := by
  have hc : d.canLay0 = true := by
    rcases hv with ⟨n, rfl⟩ | ⟨x, hx, rfl⟩
    · rfl
    · exact hx
  unfold isNul
  rw [readOf_eq hc (f _)]
  rcases hv with ⟨n, rfl⟩ | ⟨x, hx, rfl⟩
  · rfl
  · simp [PyData.eqv, nullB, nulD, nul]
theorem pd_notin {tk : Tok} {b : Bool} {Q : Value → Shared → Prop} (hu : A.units + 64 < cLine) (hh : A.handled = none) (F : Fr h₀ L s.heap m) (N : News h₀ L s.heap news) (hp : (d, o) ∈ news) (hd : PD w o t) (hvl : ∀ e ∈ t, IsVal e.2)
    (hv : (v, ({ cls := .type "dict_values", data := .fields #[.ref d] } : Obj)) ∈ news) (hb : t.any (fun e => nullB e.2) = b)
    (h : ∀ h', Fr h₀ L h' m → News h₀ L h' news → Q (.bool (!b)) { s with heap := h' }) :
    wpAny (model PySem.Challenge.rw_sj0190_01.row.prog w) A (compareOp .NotIn (.str (Str.ofString "") tk) (.ref v)) Q E s := by
  obtain ⟨vals, ep, od, hlen, hg⟩ := hd.odv
  have hI : ∀ p ∈ news, p.1 ≠ s.heap.objs.size := fun p hp => Nat.ne_of_lt (Heap.lt_size (N p hp).1)
  refine notin_dv (e := isNul) hh ⟨_, N.get hv, rfl, rfl⟩ (od.dv (N.get hp)) (fun y hy s' => ?_) fun h' hs => ?_
  · obtain ⟨i, hi⟩ := List.getElem?_of_mem hy
    obtain ⟨e, he, f⟩ := hg i y hi
    have hval := hvl e (List.mem_of_getElem? he)
    have hc : e.2.canLay0 = true := by
      rcases hval with ⟨n, q⟩ | ⟨x, hx, q⟩
      · rw [q]; rfl
      · rw [q]; exact hx
    have hdp : e.2.depth ≤ 1 := by rcases hval with ⟨n, q⟩ | ⟨x, hx, q⟩ <;> rw [q] <;> simp [PyData.depth]
    have := eqAt_reads e.2 nulD A.in1 s' y (.str (Str.ofString "") tk) _ _ (f _) (Flat.str _ _ _) hc (by decide +kernel) (by
      have : A.in1.units = A.units + 1 := rfl
      omega)
    unfold isNul
    rw [readOf_eq hc (f _)]
    exact this
  · have e1 : vals.any isNul = b := by
      rw [← hb]
      have key : ∀ (vals : List Value) (t : Tab), vals.length = t.length → (∀ e ∈ t, IsVal e.2) → (∀ (i : Nat) (v : Value), vals[i]? = some v → ∃ e : KV × PyData, t[i]? = some e ∧ Flat v e.2) → vals.any isNul = t.any (fun e => nullB e.2) := by
        intro vals
        induction vals with
        | nil => intro t hl _ _; cases t with
          | nil => rfl
          | cons _ _ => simp at hl
        | cons v r ih =>
          intro t hl hv hg
          cases t with
          | nil => simp at hl
          | cons e q =>
            obtain ⟨e', he', f⟩ := hg 0 v rfl
            have : e = e' := by simpa using he'
            subst this
            rw [List.any_cons, List.any_cons, isNul_eq f (hv e (.head _)), ih q (by simpa using hl) (fun x hx => hv x (.tail _ hx)) fun i u hu => by simpa using hg (i + 1) u (by simpa using hu)]
      exact key vals t hlen hvl hg
    rw [e1]
    refine h h' (F.after fun b o q => ?_) fun p hp => ?_
    · exact hs b _ (Nat.ne_of_lt (Heap.lt_size q)) (Heap.get?_push_of_some _ q)
    · exact ⟨hs p.1 _ (hI p hp) (Heap.get?_push_of_some _ (N p hp).1), (N p hp).2⟩
end
end -- SX
section -- SY
open PySem PySem.W PySem.Calls PyProof.Rows PyProof.V PySem.SeqAt
set_option Elab.async false
theorem do_S (w : World) (k : KV) (kv : Value) (hkv : KV.is k kv = true) (vv : Value) (v : PyData) (hvv : Flat vv v) (T : TB) (hT : T.Ok w) (S R : List (Addr × Obj)) (hR : ∀ q ∈ T.imm w, q ∈ R) (hlen : T.rows.length ≤ 900) (dd : Addr) (nt : Nat) (hdd : (dd, tup2 kv vv nt) ∈ S ++ R) :
    Calls w (.ref 338) [.ref T.t, .ref dd] 20 200 (S ++ (T.mut ++ R)) (DoPost w T k v (S ++ R)) :=
  Calls.perm (perm3 S T.mut R) (do_spec w k kv hkv vv v hvv T hT (S ++ R) (fun q hq => List.mem_append_right _ (hR q hq)) hlen dd nt hdd)
theorem is_split {M : Model} {A : Around} {E : Value → Shared → Prop} {s : Shared} {vv : Value} {Q : Value → Shared → Prop} (h1 : vv = .none → Q (.bool true) s) (h2 : vv ≠ .none → Q (.bool false) s) : wpAny M A (compareOp .Is vv .none) Q E s := by
  by_cases h : vv = .none
  · subst h; exact wpAny_is_self rfl (h1 rfl)
  · exact is_none_ne h (h2 h)
theorem TB.Ok.ndt {w : World} {T : TB} (h : T.Ok w) : (keysT T.tab).Nodup := by
  have : keysT T.tab = T.rows.map (·.key) := by simp [keysT, TB.tab]
  rw [this]; exact h.nd
theorem perm6 {α : Type} (A B C : α) (M I R : List α) : (A :: B :: C :: (M ++ (I ++ R))).Perm (M ++ (C :: ((I ++ [B]) ++ (A :: R)))) := by
  simp only [List.append_assoc, List.cons_append, List.nil_append]
  exact permF [[A], [B], [C], M, I] R (a := [0, 1, 2, 3, 4]) (b := [3, 2, 4, 1, 0]) (by decide)
theorem perm7 {α : Type} (T I K : α) (M X Y : List α) : (M ++ (X ++ ([T, I] ++ (K :: Y)))).Perm (K :: I :: (M ++ ((X ++ [T]) ++ Y))) := by
  simp only [List.append_assoc, List.cons_append, List.nil_append]
  exact permF [M, X, [T], [I], [K]] Y (a := [0, 1, 2, 3, 4]) (b := [4, 3, 0, 1, 2]) (by decide)
theorem perm8 {α : Type} (K I : α) (M Z : List α) : (K :: I :: (M ++ Z)).Perm ([I] ++ (M ++ (K :: Z))) :=
  permF [[K], [I], M] Z (a := [0, 1, 2]) (b := [1, 2, 0]) (by decide)
end -- SY
section -- SZ
open PySem PySem.W PySem.Calls PyProof.Rows PyProof.V
set_option Elab.async false
theorem Calls.law {w : World} {f : Value} {args : List Value} {d u : Nat} {news : List (Addr × Obj)} {Post : Value → List (Addr × Obj) → Prop} (C : Calls w f args d u news Post)
    {nm : Str} {sc : Scope} {fa : Addr} {cd : Value} {h₀ : Heap} {L : Addr} {m : Str → Option Value} {hp gs dr tk0 os}
    {p : Program} {loose : List Str} {mean : ExcName → Option Value} {mg mb : Str → Option Value} {Q E : Value → Shared → Prop}
    (F : Fr h₀ L hp m) (X : (Mine.hd.heap_39 w.params).In h₀) (N : News h₀ L hp news) (T : Top p loose mean mg mb h₀) (hk : sc.kind = .function) (hd : d ≤ 600) (hu : u ≤ 9000) (n : Nd news)
    (ret : ∀ r news' h' tk', Fr h₀ L h' m → News h₀ L h' news' → Nd news' → Post r news' → Q r (Shared.mk h' gs dr tk' os)) :
    wpAny (model PySem.Challenge.rw_sj0190_01.row.prog w) (callerA.deeper (envOfC nm sc L fa cd)) (call f args) Q E (Shared.mk hp gs dr tk0 os) :=
  C (callerA.depth + 1) (callerA.units + 3) (some []) nm sc fa cd (cellsFrom (L + 1) sc.names []) [] callerA h₀ h₀ L m (Shared.mk hp gs dr tk0 os) p loose mean mg mb Q E (below_caller h₀) F X N T hk (by show 1 + 300 + 1 + d < 1000; omega) (by show 4 + 3 + u < 9900; omega) n ret
end -- SZ
section -- C13
open PySem PySem.W PySem.Calls PyProof.Rows PyProof.V PyProof.Rows.LCg PyProof.Rows.LCt PySem.SeqAt
set_option Elab.async false
set_option maxRecDepth 100000
set_option maxHeartbeats 8000000
set_option pp.deepTerms false
set_option pp.deepTerms.threshold 10
set_option pp.maxSteps 60000
local macro_rules | `(tactic| walk_at "pad") => `(tactic| skip)
local macro_rules | `(tactic| walk_at "pad") => `(tactic| skip)
local macro_rules | `(tactic| walk_at "pad") => `(tactic| skip)
local macro_rules | `(tactic| walk_at "pad") => `(tactic| skip)
local macro_rules | `(tactic| walk_at "pad") => `(tactic| skip)
local macro_rules | `(tactic| walk_at "pad") => `(tactic| skip)
theorem proto_spec (w : World) (es : List (KV × PyData)) (a : Addr) (R : List (Addr × Obj)) (ha : ArrIn w es R a) :
    Calls w (.ref 297) [.ref a] 8 100 R (fun r news' => news' = R ∧ ∃ t, r = .str (decT es.length ++ Str.ofString "," ++ decT 2) t) := by
  intro dp un gd cn cs a' ccd cl outer A₀ base h₀ L m s p loose mean mg mb Q E B F X N T' hk hd' hu hn hret
  obtain ⟨da, x, tt, bl, b1, b2, il, eb, n1, n2, ni, u1, u2, u3, u4, its, m1, m2, m3, m4, m5, m6, m7, m8⟩ := ha
  obtain ⟨k1, k2, k3, k4, k5, k6, t1, t3, num, items⟩ := x
  simp only [arrDict] at m2 m3
  subst m3
  k_steps
  (rename News h₀ L _ _ => NN)
  exact hret _ _ _ _ (by assumption) NN hn ⟨rfl, _, rfl⟩
end -- C13
open PySem PySem.W PySem.Calls PyProof.Rows PyProof.V PyProof.Rows.LCg PyProof.Rows.LCt PySem.SeqAt
set_option Elab.async false
set_option maxRecDepth 100000
set_option maxHeartbeats 8000000
set_option pp.deepTerms false
set_option pp.deepTerms.threshold 10
set_option pp.maxSteps 60000
local macro_rules | `(tactic| walk_at "call ref") => `(tactic| (k_here; (with_reducible show wpAny _ _ (call (Value.ref 338) _) _ _ _); refine held ?_))
local macro_rules | `(tactic| walk_at "call ref") => `(tactic| (k_here; (with_reducible show wpAny _ _ (call (Value.ref 307) _) _ _ _); refine held ?_))
local macro_rules | `(tactic| walk_at "call ref") => `(tactic| (k_here; (with_reducible show wpAny _ _ (call (Value.ref 324) _) _ _ _); refine held ?_))
local macro_rules | `(tactic| walk_at "call ref") => `(tactic| (k_here; (with_reducible show wpAny _ _ (call (Value.ref 297) _) _ _ _); refine held ?_))
local macro_rules | `(tactic| walk_at "compareOp Is") => `(tactic| ((with_reducible show wpAny _ _ (compareOp CmpOp.Is _ Value.none) _ _ _); (first | refine is_none_none ?_ | refine is_none_ne (by intro h; cases h) ?_ | refine is_split (fun hz => ?_) (fun hz => ?_))))
local macro_rules | `(tactic| walk_at "getMethod ref") => `(tactic| (k_here; (with_reducible show wpAny _ _ (getMethod (Value.ref _) (Str.ofString "get") _) _ _ _); k_dflt (refine' pd_method ?N ?hd ?od ?_; (case N => k_asm); (case hd => k_mem); (case od => k_asm); k_whole)))
local macro_rules | `(tactic| walk_at "call builtin:dict.get") => `(tactic| (k_here; k_dflt (refine' pd_get ?N ?hp ?hd ?lo ?hk ?hdd ?_; (case N => k_asm); (case hp => k_mem); (case hd | lo | hk => k_asm); (case hdd => exact Flat.str _ _); k_whole; intro r' tk' fl')))
local macro_rules | `(tactic| walk_at "setItem ref") => `(tactic| (k_here; k_dflt (refine' pd_set ?F ?N ?U ?hd ?hk ?hz ?hv ?_; (case F | N => k_asm); (case U => k_updF); (case hd | hk | hz | hv => k_asm); k_whole; intro h' o' tk' F' N' D'; (try dsimp only at N'); (try k_sweep))))
local macro_rules | `(tactic| walk_at "exec For Tuple Subscript cons nil") => `(tactic| (k_here; refine held ?_))
local macro_rules | `(tactic| walk_at "compareOp IsNot") => `(tactic| ((with_reducible show wpAny _ _ (compareOp CmpOp.IsNot _ Value.none) _ _ _); (first | refine wpAny_isNot_self rfl ?_ | refine isnot_none_ne (by intro h; cases h) ?_ | refine isnot_split (fun hz => ?_) (fun hz => ?_))))
local macro_rules | `(tactic| walk_at "compareOp Eq ref ref") => `(tactic| (k_here; (with_reducible show wpAny _ _ (compareOp CmpOp.Eq (Value.ref _) (Value.ref _)) _ _ _); k_dflt ( refine' eq_LR ?hu ?N ?h1 ?h2 ?r1 ?s1 ?r2 ?s2 ?c1 ?c2 ?hb ?_; (case hu => k_units); (case N => k_asm); (case h1 | h2 => k_mem); (case r1 | r2 => first | exact LR.nil (W := []) | k_asm); (case s1 | s2 => first | (intro q hq; cases hq; done) | with_reducible assumption | (intro q hq; refine List.mem_cons_of_mem _ ?_; revert q hq; with_reducible assumption) | (intro q hq; refine List.mem_cons_of_mem _ (List.mem_cons_of_mem _ ?_); revert q hq; with_reducible assumption)); (case c1 | c2 => first | exact okL.nil | k_asm); (case hb => first | assumption | rfl); k_whole)))
theorem str_nat {prog : Program} {w : World} {A : Around} {E : Value → Shared → Prop} {s : Shared} {n : Nat} {t : Tok} {Q : Value → Shared → Prop} (h2 : n ≤ 6) (h : Q (.str (decT n) s.toks) { s with toks := s.toks + 1 }) : wpAny (model prog w) A (call (.type "str") [.int (n : Int) t]) Q E s := by
  obtain rfl | rfl | rfl | rfl | rfl | rfl | rfl : n = 0 ∨ n = 1 ∨ n = 2 ∨ n = 3 ∨ n = 4 ∨ n = 5 ∨ n = 6 := (Nat.eq_zero_or_pos n).imp_right fun h1 => six h1 h2
  all_goals exact P.str_of_int (by decide) h
local macro_rules | `(tactic| walk_at "call type:str") => `(tactic| (k_here; (with_reducible show wpAny _ _ (call (Value.type "str") [Value.int (Nat.cast _) _]) _ _ _); k_dflt (refine' str_nat ?h2 ?_; (case h2 => assumption); k_whole)))
local macro_rules | `(tactic| walk_at "compareOp NotEq str str") => `(tactic| (k_here; (with_reducible show wpAny _ _ (compareOp CmpOp.NotEq (Value.str _ _) (Value.str _ _)) _ _ _); k_dflt ( refine' ne_flat ?hu ?ha ?hb ?vx ?vy ?hc ?_; (case ha | hb => exact Flat.str _ _); (case vx | vy | hc => k_asm); (case hu => k_units); k_whole)))
theorem dim_str {n : Nat} (h1 : 1 ≤ n) (h2 : n ≤ 6) : PyData.eqv (.str (decT n ++ Str.ofString "," ++ decT 2)) (.str (decT n ++ Str.ofString ",2")) = true ∧ IsVal (.str (decT n ++ Str.ofString "," ++ decT 2)) ∧ IsVal (.str (decT n ++ Str.ofString ",2")) ∧ (decT n).length + (Str.ofString ",2").length ≤ sizeLine := by
  obtain rfl | rfl | rfl | rfl | rfl | rfl : n = 1 ∨ n = 2 ∨ n = 3 ∨ n = 4 ∨ n = 5 ∨ n = 6 := six h1 h2
  all_goals exact ⟨by decide +kernel, .inr ⟨_, by decide +kernel, rfl⟩, .inr ⟨_, by decide +kernel, rfl⟩, Nat.le_of_ble_eq_true rfl⟩
theorem eqv_nil_cons {es : Tab} (h : es ≠ []) : PyData.eqvAll (es.map pairD) [] = false := by
  cases es with
  | nil => exact absurd rfl h
  | cons a b => rw [List.map_cons]; rfl
local macro_rules | `(tactic| walk_at "exec For Name Subscript cons nil") => `(tactic| (k_here; refine held ?_))
local macro_rules | `(tactic| walk_at "call builtin:dict.values") => `(tactic| (k_here; k_dflt (refine' pd_vcall ?F ?N ?lo ?hd ?od ?_; (case F | N => k_asm); (case hd => k_mem); (case od | lo => k_asm); k_whole; intro v' h' F' N' l1; (try k_lt l1))))
local macro_rules | `(tactic| walk_at "getMethod ref") => `(tactic| (k_here; (with_reducible show wpAny _ _ (getMethod (Value.ref _) (Str.ofString "values") _) _ _ _); k_dflt (refine' pd_values ?N ?hd ?od ?_; (case N => k_asm); (case hd => k_mem); (case od => k_asm); k_whole)))
local macro_rules | `(tactic| walk_at "compareOp NotIn str ref") => `(tactic| (k_here; (with_reducible show wpAny _ _ (compareOp CmpOp.NotIn (Value.str _ _) (Value.ref _)) _ _ _); k_dflt ( refine' pd_notin ?hu ?hh ?F ?N ?hp ?hd ?hvl ?hv ?hb ?_; (case hu => k_units); (case hh => rfl); (case F | N => k_asm); (case hv => first | with_reducible exact List.Mem.head _ | k_mem); (case hp => first | k_mem | (refine List.mem_cons_of_mem _ ?_; k_mem)); (case hd => k_asm); (case hvl | hb => with_reducible assumption); k_whole; intro h' F' N')))
theorem ext2 {m : Str → Option Value} {a b : Str} {x y : Value} (ha : m a = some x) (hb : m b = some y) : Ext (fun z => if z = a then some x else if z = b then some y else none) m := Ext.of fun z v h => by
  by_cases h1 : z = a
  · subst h1; rw [if_pos rfl] at h; rw [ha]; exact h
  · rw [if_neg h1] at h
    by_cases h2 : z = b
    · subst h2; rw [if_pos rfl] at h; rw [hb]; exact h
    · rw [if_neg h2] at h; cases h
theorem perm10 {α : Type} (A B : α) (M X : List α) (D : α) (R : List α) : (A :: B :: (M ++ (X ++ (D :: R)))).Perm (M ++ ((A :: B :: (X ++ [D])) ++ R)) := by
  simp only [List.append_assoc, List.cons_append, List.nil_append]
  exact permF [[A], [B], M, X, [D]] R (a := [0, 1, 2, 3, 4]) (b := [2, 0, 1, 3, 4]) (by decide)
theorem perm9 {α : Type} (D : α) (M Z R : List α) : (D :: (M ++ (Z ++ R))).Perm (M ++ (Z ++ (D :: R))) :=
  permF [[D], M, Z] R (a := [0, 1, 2]) (b := [1, 2, 0]) (by decide)
theorem mid_assoc {α : Type} (I : List α) (q : α) {E Z R : List α} (h : E = Z ++ R) : I ++ (q :: E) = (I ++ (q :: Z)) ++ R := by subst h; simp
theorem mid_E {h₀ h : Heap} {L : Addr} {M I : List (Addr × Obj)} {q k : Addr × Obj} {E Z R : List (Addr × Obj)} (_ : News h₀ L h (M ++ (I ++ (q :: E)))) (h : E = Z ++ R) (hk : k ∈ Z) : ∃ Z2, M ++ (I ++ (q :: E)) = Z2 ++ R ∧ k ∈ Z2 ∧ ∀ x ∈ E, x ∈ Z2 ++ R := by
  subst h
  refine ⟨M ++ (I ++ (q :: Z)), by simp, List.mem_append_right _ (List.mem_append_right _ (.tail _ hk)), fun x hx => ?_⟩
  have : M ++ (I ++ q :: Z) ++ R = M ++ (I ++ [q] ++ (Z ++ R)) := by simp
  rw [this]
  exact List.mem_append_right _ (List.mem_append_right _ hx)
def tup3 (a b c : Value) (n : Nat) : Obj := { cls := .type "tuple", data := .seq #[a, b, c] n }
theorem rem_end {w : World} {h₀ h' h1 : Heap} {L kd I tp d2 : Addr} {o o' oI ot od2 : Obj} {T T0 T2 : TB} {X1 X2 R U2 W : List (Addr × Obj)} {m₀ m' : Str → Option Value} {t : Tab} {s : Shared} {tk tk' : Nat}
    (hU2 : T2.mut ++ ((X2 ++ [(tp, ot)]) ++ (X1 ++ W)) = U2) (hW : ((d2, od2) :: R) = W) (NN : News h₀ L h' ((kd, o') :: (I, oI) :: U2)) (nd3 : Nd ((kd, o) :: (I, oI) :: (T2.mut ++ ((X2 ++ [(tp, ot)]) ++ (X1 ++ W)))))
    (FF : Fr h₀ L h' m') (ex : Ext m₀ m') (ok2 : T2.Ok w) (tT : T2.t = T0.t) (im2 : ∀ q ∈ T2.imm w, q ∈ X2 ++ T.imm w) (im : ∀ q ∈ T.imm w, q ∈ X1 ++ W) (tb : T2.tab = t) (pd : PD w o' T2.tab) :
    UnrEndW h₀ L { s with heap := h1, toks := tk } [(I, oI)] (fun m' nw => Ext m₀ m' ∧ ∃ (T : TB) (o : Obj) (X1 : List (Addr × Obj)), T.Ok w ∧ T.t = T0.t ∧ nw = T.mut ++ ((kd, o) :: (X1 ++ ((d2, od2) :: R))) ∧ Nd nw ∧ (∀ q ∈ T.imm w, q ∈ X1 ++ ((d2, od2) :: R)) ∧ T.tab = t ∧ PD w o T.tab) { s with heap := h', toks := tk' } := by
  subst hW
  subst hU2
  have pm := perm8 (kd, o') (I, oI) T2.mut ((X2 ++ [(tp, ot)]) ++ (X1 ++ (d2, od2) :: R))
  have N2 := News.perm pm NN
  have n2 : Nd _ := Nd.perm pm (nd3.addr rfl)
  refine ⟨h', tk', m', T2.mut ++ ((kd, o') :: (((X2 ++ [(tp, ot)]) ++ X1) ++ ((d2, od2) :: R))), rfl, FF, ?_, ?_, ex, T2, o', (X2 ++ [(tp, ot)]) ++ X1, ok2, tT, rfl, ?_, ?_, tb, pd⟩
  · rw [List.append_assoc]; exact N2
  · intro p hp q hq
    rw [List.mem_singleton.mp hq]
    exact n2.head p (by rw [← List.append_assoc (X2 ++ [(tp, ot)])]; exact hp)
  · rw [List.append_assoc]; exact n2.tail
  · intro q hq
    rcases List.mem_append.mp (im2 q hq) with h | h
    · exact List.mem_append_left _ (List.mem_append_left _ (List.mem_append_left _ h))
    · rw [List.append_assoc]; exact List.mem_append_right _ (im q h)
theorem remade_spec (w : World) (dl : Addr) (vs : List Value) (n : Nat) (es : Tab) (M : List KV) (mk : Nat) (tm : Tok) (R : List (Addr × Obj)) (hdl : (dl, listOf vs.toArray n) ∈ R) (hp : Prs R vs es) (hval : ∀ e ∈ es, OptVal e.2) (hM : M.length ≤ 6) (hkm : ∀ e ∈ es, e.1 ∈ M)
    (hkv : ∀ k ∈ M, IsVal k.d) (hlen : es.length ≤ 20) (hmk : mk ≤ es.length) :
    Calls w (.ref 350) [.ref dl, .int (mk : Nat) tm] 60 1000 R (fun r news' => ∃ (T : TB) (X : List (Addr × Obj)) (rt : Addr) (nt : Nat), T.Ok w ∧ r = .ref rt ∧ news' = T.mut ++ (X ++ R) ∧ (∀ q ∈ T.imm w, q ∈ X ++ R) ∧
      (rt, tup3 (.ref T.t) (.bool true) (.bool (!(run [] (es.take mk)).any (fun e => nullB e.2))) nt) ∈ X ++ R ∧ T.tab = run (ents (run [] (es.take mk))) (es.drop mk)) := by
  intro dp un gd cn cs a ccd cl outer A₀ base h₀ L m s p loose mean mg mb Q E B F X N T' hk hd' hu hn hret
  have hvl : vs.length ≤ 1000 := by rw [hp.length]; omega
  have len2 : ∀ i, (run (ents (run [] (es.take mk))) ((es.drop mk).take i)).length ≤ 6 := fun i => Nat.le_trans (run_len (m := M) (nodup_ents (nodup_run _ .nil)) (fun x hx => by
    obtain ⟨e, he, rfl⟩ := List.mem_map.mp hx
    have h2 : e.1 ∈ keysT (run [] (es.take mk)) := List.mem_map.mpr ⟨e, (List.mem_filter.mp he).1, rfl⟩
    rw [keys_run] at h2
    exact sub_foldl_addK _ _ (fun x h => by cases h) (fun x hx => by obtain ⟨e', he', rfl⟩ := List.mem_map.mp hx; exact hkm e' (List.mem_of_mem_take he')) _ h2) fun e he => hkm e (List.mem_of_mem_drop (List.mem_of_mem_take he))) hM
  k_steps
  show wpAny _ _ _ _ _ _
  refine Calls.use (table_spec w _ _ R) (by k_asm) (by k_asm) (by k_asm) (by k_asm) (by k_asm) rfl (by k_room) (by k_units) hn ?_
  intro r news' h' tk' F1 N1 nd1 hp1
  obtain ⟨T0, ok0, hr0, rfl, rfl⟩ := hp1
  have hdl' : (dl, listOf vs.toArray n) ∈ T0.mut ++ (T0.imm w ++ R) := List.mem_append_right _ (List.mem_append_right _ hdl)
  obtain ⟨V, hV⟩ : ∃ V, T0.mut ++ (T0.imm w ++ R) = V := ⟨_, rfl⟩
  rw [hV] at N1 nd1 hdl'
  have hmk0 : (0 : Int) ≤ (mk : Nat) := by omega
  have hmkN : ((mk : Nat) : Int).toNat = mk := Int.toNat_natCast mk
  have len1 : ∀ i, (run [] ((es.take mk).take i)).length ≤ 6 := fun i => Nat.le_trans (run_len (m := M) .nil (fun x h => nomatch h) fun e he => hkm e (List.mem_of_mem_take (List.mem_of_mem_take he))) hM
  k_steps
  show wpAny _ _ _ _ _ _
  rename_i kd _ od lkd lo _ _ isd _ D1 _ lD _ _ _ FF _
  have pd0 : PD w od [] := PD.nil isd
  refine For_turns FF ?_
  k_steps
  show wpAny _ _ _ _ _ _
  rename_i D2 _ FF2 NN lD2
  rw [hmkN] at NN
  have ndS : Nd ((D2, listOf (vs.take mk).toArray 0) :: (D1, tup2 (.ref T0.t) (.ref kd) 0) :: (kd, od) :: V) := Nd.cons lD2 (Nd.cons lD (Nd.consA lkd nd1))
  rw [← hV] at NN ndS
  have pm0 := perm6 (D2, listOf (vs.take mk).toArray 0) (D1, tup2 (.ref T0.t) (.ref kd) 0) (kd, od) T0.mut (T0.imm w) R
  refine list_loop (vs := vs.take mk) (n := 0) (by assumption) rfl (News.perm pm0 NN) (pm0.mem_iff.mp (.head _)) (fun i m' nw => Ext _ m' ∧ ∃ (T : TB) (o : Obj) (X1 : List (Addr × Obj)), T.Ok w ∧ T.t = T0.t ∧ nw = T.mut ++ ((kd, o) :: (X1 ++ ((D2, listOf (vs.take mk).toArray 0) :: R))) ∧ Nd nw ∧
    (∀ q ∈ T.imm w, q ∈ X1 ++ ((D2, listOf (vs.take mk).toArray 0) :: R)) ∧ T.tab = run [] ((es.take mk).take i) ∧ PD w o T.tab) (fun i m' nw h => ?_)
    ⟨Ext.refl _, T0, od, _, ok0, rfl, rfl, Nd.perm pm0 ndS, fun q hq => List.mem_append_left _ (List.mem_append_left _ hq), by simp [TB.tab, hr0, run], by simpa [TB.tab, hr0] using pd0⟩ ?_ ?_
  · obtain ⟨_, T, o, X1, _, _, rfl, _⟩ := h
    exact List.mem_append_right _ (.tail _ (List.mem_append_right _ (.head _)))
  · rintro i v m₁ nw h tk I oI hv ⟨⟨vl, rfl⟩, T, o, X1, okT, tT, rfl, nd, im, tab, pd⟩ F1 N1 off
    obtain ⟨da, kv, vv, nt, k, d, rfl, hda, hkv', hvv, he⟩ := (hp.take mk).get hv
    have hmem : (k, d) ∈ es := List.mem_of_mem_take (List.mem_of_getElem? he)
    have hlT : T.rows.length ≤ 900 := by rw [← tab_len, tab]; have := len1 i; omega
    have hlT2 : T.tab.length ≤ 1000 := by rw [tab]; have := len1 i; omega
    obtain ⟨W, hW⟩ : ∃ W, ((D2, listOf (vs.take mk).toArray 0) :: R) = W := ⟨_, rfl⟩
    rw [hW] at N1 off nd im
    have hda' : (da, tup2 kv vv nt) ∈ T.mut ++ ((kd, o) :: (X1 ++ W)) := List.mem_append_right _ (.tail _ (List.mem_append_right _ (by rw [← hW]; exact .tail _ hda)))
    have ndI : Nd ([(I, oI)] ++ (T.mut ++ ((kd, o) :: (X1 ++ W)))) := Nd.new off nd
    have spec := fun D => do_S w k kv hkv' vv d hvv T okT [(D, tup2 kv vv 0), (I, oI)] ((kd, o) :: (X1 ++ W)) (fun q hq => .tail _ (im q hq)) hlT D 0 (.head _)
    rw [tT] at spec
    obtain ⟨U, hU⟩ : ∃ U, T.mut ++ ((kd, o) :: (X1 ++ W)) = U := ⟨_, rfl⟩
    rw [hU] at N1 hda' spec ndI
    k_steps
    show wpAny _ _ _ _ _ _
    rename_i hb FB NB hT FT NT _ _
    have ltp := fun q hq => Heap.lt_size (NB q hq).1
    obtain ⟨tp, htp⟩ : ∃ tp, hb.objs.size = tp := ⟨_, rfl⟩
    dsimp only at NT ⊢
    rw [htp] at NT ltp ⊢
    refine Calls.use (spec tp) (by k_asm) (by k_asm) (by k_asm) (by k_asm) (by k_asm) rfl (by k_room) (by k_units) (Nd.consA ltp ndI) ?_
    intro r news' h' tk' F2 N2 nd3 hp2
    obtain ⟨T2, X2, ok2, t2, rfl, im2, _, tb2⟩ := hp2
    have pm := perm7 (tp, tup2 kv vv 0) (I, oI) (kd, o) T2.mut X2 (X1 ++ W)
    replace N2 := News.perm pm N2
    replace nd3 := Nd.perm pm nd3
    have e1 : I ≠ kd := nd3.head _ (.head _)
    have e1' : kd ≠ I := e1.symm
    have e2 := fun q hq => nd3.head q (.tail _ hq)
    obtain ⟨U2, hU2⟩ : ∃ U2, T2.mut ++ ((X2 ++ [(tp, tup2 kv vv 0)]) ++ (X1 ++ W)) = U2 := ⟨_, rfl⟩
    rw [hU2] at N2 e2
    dsimp only at e2
    k_steps
    all_goals show UnrEndW _ _ _ _ _ _
    all_goals (rename News _ _ _ ((kd, _) :: _ :: U2) => NN)
    all_goals (rename PD w _ (pput _ _ _) => pd2)
    · (rename vv = Value.none => hz)
      have pdd := pd2
      change PD w _ (pput T.tab k (tget T.tab k)) at pdd
      have ks := known_step okT.ndt k d
      rw [if_neg (by rw [given_none hvv hz]; exact Bool.false_ne_true)] at ks
      rw [ks] at pdd
      exact rem_end hU2 hW NN nd3 (by assumption) ((Ext.set (Ext.set ⟨vl, rfl⟩ (by rfl)) (by rfl))) ok2 (t2.trans tT) im2 im (by rw [tb2, tab, ← run_snoc (e := (k, d)) he]) (by rw [tb2]; exact pdd)
    · (rename vv ≠ Value.none => hz)
      have pdd := pd2
      have ks := known_step okT.ndt k d
      rw [if_pos (given_some hvv hz)] at ks
      rw [ks] at pdd
      exact rem_end hU2 hW NN nd3 (by assumption) ((Ext.set (Ext.set ⟨vl, rfl⟩ (by rfl)) (by rfl))) ok2 (t2.trans tT) im2 im (by rw [tb2, tab, ← run_snoc (e := (k, d)) he]) (by rw [tb2]; exact pdd)
  · rintro m₁ nw h tk ⟨⟨vl, rfl⟩, T, o, X1, okT, tT, rfl, nd, im, tab, pd⟩ F1 N1
    have hlT : T.rows.length ≤ 900 := by rw [← tab_len, tab]; have := len1 (vs.take mk).length; omega
    have hl2 : (vs.take mk).length = (es.take mk).length := (hp.take mk).length
    rw [hl2, List.take_length] at tab
    rw [← tab] at len2
    have valT : ∀ e ∈ T.tab, IsVal e.2 := by rw [tab]; exact vals_run _ (fun e h => nomatch h) fun e he => hval e (List.mem_of_mem_take he)
    have ndT := okT.ndt
    have hlE : (ents T.tab).length ≤ 6 := by
      refine Nat.le_trans (List.length_filter_le _ _) ?_
      rw [tab]; have := len1 es.length; rwa [List.take_of_length_le (by rw [List.length_take]; omega)] at this
    have okE' : ∀ e ∈ ents T.tab, okE e := fun e he => ⟨by
      have hk : e.1 ∈ keysT T.tab := List.mem_map.mpr ⟨e, (List.mem_filter.mp he).1, rfl⟩
      have hk2 : e.1 ∈ M := by
        rw [tab, keys_run] at hk
        exact sub_foldl_addK _ _ (fun x h => by cases h) (fun x hx => by obtain ⟨e', he', rfl⟩ := List.mem_map.mp hx; exact hkm e' (List.mem_of_mem_take he')) _ hk
      rcases hkv _ hk2 with ⟨i, q⟩ | ⟨x, hx, q⟩
      · rw [q]; rfl
      · rw [q]; exact hx, valT e ((List.mem_filter.mp he).1)⟩
    have okr := okL.pairs okE'
    obtain ⟨W, hW⟩ : ∃ W, ((D2, listOf (vs.take mk).toArray 0) :: R) = W := ⟨_, rfl⟩
    rw [hW] at N1 nd im
    obtain ⟨R1, hR1⟩ : ∃ R1, (kd, o) :: (X1 ++ W) = R1 := ⟨_, rfl⟩
    have im1 : ∀ q ∈ T.imm w, q ∈ R1 := fun q hq => hR1 ▸ .tail _ (im q hq)
    have mkd : (kd, o) ∈ R1 := hR1 ▸ .head _
    have mdl : (dl, listOf vs.toArray n) ∈ R1 := hR1 ▸ .tail _ (List.mem_append_right _ (hW ▸ .tail _ hdl))
    obtain ⟨Z0, hZ0, mkd0⟩ : ∃ Z0, R1 = Z0 ++ R ∧ (kd, o) ∈ Z0 := ⟨(kd, o) :: (X1 ++ [(D2, listOf (vs.take mk).toArray 0)]), by rw [← hR1, ← hW]; simp, .head _⟩
    rw [hR1] at N1 nd
    have spec := ents_spec w T okT R1 im1 hlT valT
    rw [tT] at spec
    k_steps
    show wpAny _ _ _ _ _ _
    refine Calls.use spec (by k_asm) (by k_asm) (by k_asm) (by k_asm) (by k_asm) rfl (by k_room) (by k_units) nd ?_
    intro r news' h' tk' F2 N2 nd2 hp2
    obtain ⟨Y, l, vs2, nl, rfl, rfl, hl, hprs⟩ := hp2
    have hsz : vs2.size = (ents T.tab).length := by rw [← hprs.length]; simp
    k_steps
    show wpAny _ _ _ _ _ _
    by_cases he0 : ents T.tab = []
    · have spec2 := fun tk => t2a_nil w 4 tk T okT (Y ++ R1) (fun q hq => List.mem_append_right _ (im1 q hq)) hlT valT he0
      simp only [tT] at spec2
      refine Calls.use (spec2 _) (by k_asm) (by k_asm) (by k_asm) (by k_asm) (by k_asm) rfl (by k_room) (by k_units) nd2 ?_
      intro r news' h' tk' F3 N3 nd3 hp3
      obtain ⟨rfl, X3, rfl⟩ := hp3
      have lr : LR (Y ++ R1) vs2.toList ((ents T.tab).map pairD) := hprs.LR.mono fun q hq => List.mem_append_left _ hq
      have sub1 : ∀ q ∈ Y ++ R1, q ∈ T.mut ++ (X3 ++ (Y ++ R1)) := fun q hq => List.mem_append_right _ (List.mem_append_right _ hq)
      have hl3 := sub1 _ (List.mem_append_left _ hl)
      have hb0 : PyData.eqvAll ((ents T.tab).map pairD) [] = true := by rw [he0]; rfl
      obtain ⟨E1, hE1⟩ : ∃ E1, T.mut ++ (X3 ++ (Y ++ R1)) = E1 := ⟨_, rfl⟩
      have hE1Z : E1 = (T.mut ++ (X3 ++ (Y ++ Z0))) ++ R := by rw [← hE1, hZ0]; simp
      rw [hE1] at N3 nd3 sub1 hl3
      k_steps
      show wpAny _ _ _ _ _ _
      rename_i l9 h9 F9 N9 l19
      refine Calls.use (table_spec w _ _ _) (by k_asm) (by k_asm) (by k_asm) (by k_asm) (by k_asm) rfl (by k_room) (by k_units) (Nd.consA l19 nd3) ?_
      intro r news' h' tk' F4 N4 nd4 hp4
      obtain ⟨T3, ok3, hr3, rfl, rfl⟩ := hp4
      have tab3 : T3.tab = ents T.tab := by rw [he0]; simp [TB.tab, hr3]
      obtain ⟨Z1, hZ1, mkdZ⟩ : ∃ Z1, T3.imm w ++ ((l9, listOf #[] 0) :: E1) = Z1 ++ R ∧ (kd, o) ∈ Z1 := ⟨_, mid_assoc (T3.imm w) (l9, listOf #[] 0) hE1Z, List.mem_append_right _ (.tail _ (List.mem_append_right _ (List.mem_append_right _ (List.mem_append_right _ mkd0))))⟩
      rw [hZ1] at N4 nd4
      have im3 : ∀ q ∈ T3.imm w, q ∈ Z1 ++ R := fun q hq => hZ1 ▸ List.mem_append_left _ hq
      have mdl5 : (dl, listOf vs.toArray n) ∈ T3.mut ++ (Z1 ++ R) := List.mem_append_right _ (List.mem_append_right _ hdl)
      have nd5 := nd4
      obtain ⟨U5, hU5⟩ : ∃ U5, T3.mut ++ (Z1 ++ R) = U5 := ⟨_, rfl⟩
      rw [hU5] at N4 nd5 mdl5
      k_steps
      show wpAny _ _ _ _ _ _
      (rename Fr _ _ _ _ => F9)
      refine For_turns F9 ?_
      k_steps
      show wpAny _ _ _ _ _ _
      rename_i D3 _ FF3 NN3 lD3
      rw [hmkN] at NN3
      have ndS3 : Nd ((D3, listOf (vs.drop mk).toArray 0) :: U5) := Nd.consA lD3 nd5
      rw [← hU5] at NN3 ndS3
      have pm5 := perm9 (D3, listOf (vs.drop mk).toArray 0) T3.mut Z1 R
      refine list_loop (vs := vs.drop mk) (n := 0) (by assumption) rfl (News.perm pm5 NN3) (pm5.mem_iff.mp (.head _)) (fun i m' nw => Ext (fun z => if z = Str.ofString "again" then some (.ref T3.t) else if z = Str.ofString "known" then some (.ref kd) else none) m' ∧ ∃ (T9 : TB) (X1 : List (Addr × Obj)), T9.Ok w ∧ T9.t = T3.t ∧ nw = T9.mut ++ (X1 ++ ((D3, listOf (vs.drop mk).toArray 0) :: R)) ∧ Nd nw ∧
        (∀ q ∈ T9.imm w, q ∈ X1 ++ ((D3, listOf (vs.drop mk).toArray 0) :: R)) ∧ T9.tab = run (ents T.tab) ((es.drop mk).take i) ∧ (kd, o) ∈ X1) (fun i m' nw h => ?_)
        ⟨ext2 (by rfl) (by rfl), T3, Z1, ok3, rfl, rfl, Nd.perm pm5 ndS3, fun q hq => by
          rcases List.mem_append.mp (im3 q hq) with h | h
          · exact List.mem_append_left _ h
          · exact List.mem_append_right _ (.tail _ h), tab3, mkdZ⟩ ?_ ?_
      · obtain ⟨_, T9, X1, _, _, rfl, _⟩ := h
        exact List.mem_append_right _ (List.mem_append_right _ (.head _))
      · rintro i v m₁ nw h tk I oI hv ⟨⟨vl, rfl⟩, T9, X1, okT9, tT9, rfl, nd, im, tab9, mkd9⟩ F1 N1 off
        obtain ⟨da, kv, vv, nt, k, d, rfl, hda, hkv', hvv, he⟩ := (hp.drop mk).get hv
        have hlT9 : T9.rows.length ≤ 900 := by rw [← tab_len, tab9]; have := len2 i; omega
        obtain ⟨W3, hW3⟩ : ∃ W3, ((D3, listOf (vs.drop mk).toArray 0) :: R) = W3 := ⟨_, rfl⟩
        rw [hW3] at N1 off nd im
        have hdaW : (da, tup2 kv vv nt) ∈ X1 ++ W3 := List.mem_append_right _ (by rw [← hW3]; exact .tail _ hda)
        have ndI : Nd ([(I, oI)] ++ (T9.mut ++ (X1 ++ W3))) := Nd.new off nd
        have spec := do_S w k kv hkv' vv d hvv T9 okT9 [(I, oI)] (X1 ++ W3) im hlT9 da nt (List.mem_append_right _ hdaW)
        rw [tT9] at spec
        obtain ⟨U, hU⟩ : ∃ U, T9.mut ++ (X1 ++ W3) = U := ⟨_, rfl⟩
        rw [hU] at N1 spec ndI
        k_steps
        show wpAny _ _ _ _ _ _
        refine Calls.use spec (by k_asm) (by k_asm) (by k_asm) (by k_asm) (by k_asm) rfl (by k_room) (by k_units) ndI ?_
        intro r news' h' tk' F2 N2 nd3 hp2
        obtain ⟨T2, X2, ok2, t2, rfl, im2, _, tb2⟩ := hp2
        k_steps
        show UnrEndW _ _ _ _ _ _
        (rename News _ _ _ (T2.mut ++ _) => NN)
        have pm := perm5 T2.mut X2 (X1 ++ W3) (I, oI)
        refine ⟨_, _, _, T2.mut ++ ((X2 ++ X1) ++ W3), rfl, by assumption, ?_, ?_, Ext.set ⟨vl, rfl⟩ (by rfl), T2, X2 ++ X1, ok2, t2.trans tT9, by rw [hW3], ?_, ?_, ?_, List.mem_append_right _ mkd9⟩
        · rw [List.append_assoc]; exact News.perm pm NN
        · intro p hp q hq
          rw [List.mem_singleton.mp hq]
          exact (Nd.perm pm nd3).head p (by rw [← List.append_assoc X2]; exact hp)
        · rw [List.append_assoc]; exact (Nd.perm pm nd3).tail
        · intro q hq
          rw [hW3, List.append_assoc]
          rcases List.mem_append.mp (im2 q hq) with h | h
          · exact List.mem_append_left _ h
          · exact List.mem_append_right _ (im q h)
        · rw [tb2, tab9, ← run_snoc (e := (k, d)) he]
      · rintro m₁ nw h tk ⟨⟨vl, rfl⟩, T9, X1, okT9, tT9, rfl, nd, im, tab9, mkd9⟩ F1 N1
        have hl9 : (vs.drop mk).length = (es.drop mk).length := (hp.drop mk).length
        rw [hl9, List.take_length] at tab9
        have hno : (kd == sysModules) = false := lo
        obtain ⟨bb, hbb⟩ : ∃ bb, T.tab.any (fun e => nullB e.2) = bb := ⟨_, rfl⟩
        have mkd9' : (kd, o) ∈ T9.mut ++ (X1 ++ ((D3, listOf (vs.drop mk).toArray 0) :: R)) := List.mem_append_right _ (List.mem_append_left _ mkd9)
        obtain ⟨U9, hU9⟩ : ∃ U9, T9.mut ++ (X1 ++ ((D3, listOf (vs.drop mk).toArray 0) :: R)) = U9 := ⟨_, rfl⟩
        rw [hU9] at N1 nd mkd9'
        k_steps
        (rename News h₀ L _ _ => NN)
        (rename News _ _ _ ((_, _) :: U9) => NB)
        (rename ∀ (p : Addr × Obj), p ∈ U9 → p.1 < _ => lv)
        have ndv := Nd.consA (o := ({ cls := .type "dict_values", data := .fields #[.ref kd] } : Obj)) lv nd
        have ltp := fun q hq => Heap.lt_size (NB q hq).1
        dsimp only at NN ltp
        have ndF := Nd.consA (o := tup3 (.ref T3.t) (.bool true) (.bool (!bb)) 0) ltp ndv
        rw [← hU9] at NN ndF
        have pmZ := fun A B => perm10 A B T9.mut X1 (D3, listOf (vs.drop mk).toArray 0) R
        refine hret _ _ _ _ (by assumption) (News.perm (pmZ _ _) NN) (Nd.perm (pmZ _ _) ndF) ⟨T9, _ :: _ :: (X1 ++ [(D3, listOf (vs.drop mk).toArray 0)]), _, 0, okT9, rfl, rfl, fun q hq => ?_, ?_, ?_⟩
        · rw [show ∀ (A B D : Addr × Obj) (X R : List (Addr × Obj)), (A :: B :: (X ++ [D])) ++ R = A :: B :: (X ++ (D :: R)) from fun _ _ _ _ _ => by simp]
          exact .tail _ (.tail _ (im q hq))
        · rw [← tab, hbb, tT9]; exact List.mem_append_left _ (.head _)
        · rw [tab9, tab]
    · have h1E : 1 ≤ (ents T.tab).length := List.length_pos_iff.mpr he0
      have spec2 := fun tk => t2a_some w 4 tk T okT (Y ++ R1) (fun q hq => List.mem_append_right _ (im1 q hq)) hlT valT h1E hlE
      simp only [tT] at spec2
      refine Calls.use (spec2 _) (by k_asm) (by k_asm) (by k_asm) (by k_asm) (by k_asm) rfl (by k_room) (by k_units) nd2 ?_
      intro r news' h' tk' F3 N3 nd3 hp3
      obtain ⟨Y3, hp3⟩ := hp3
      obtain ⟨X3, aa, rfl, rfl, harr⟩ := hp3.arr
      have sub1 : ∀ q ∈ Y ++ R1, q ∈ X3 ++ (Y3 ++ (T.mut ++ (Y ++ R1))) := fun q hq => List.mem_append_right _ (List.mem_append_right _ (List.mem_append_right _ hq))
      have lr : LR (Y ++ R1) vs2.toList ((ents T.tab).map pairD) := hprs.LR.mono fun q hq => List.mem_append_left _ hq
      have hl3 := sub1 _ (List.mem_append_left _ hl)
      have hb0 : PyData.eqvAll ((ents T.tab).map pairD) [] = false := eqv_nil_cons he0
      have harr3 : ArrIn w (ents T.tab) (X3 ++ (Y3 ++ (T.mut ++ (Y ++ R1)))) aa := harr.mono fun q hq => List.mem_append_left _ hq
      obtain ⟨E1, hE1⟩ : ∃ E1, X3 ++ (Y3 ++ (T.mut ++ (Y ++ R1))) = E1 := ⟨_, rfl⟩
      have hE1Z : E1 = (X3 ++ (Y3 ++ (T.mut ++ (Y ++ Z0)))) ++ R := by rw [← hE1, hZ0]; simp
      rw [hE1] at N3 nd3 sub1 hl3 harr3
      clear harr hp3
      k_steps
      show wpAny _ _ _ _ _ _
      rename_i l9 h9 F9 N9 l19
      refine Calls.use (table_spec w _ _ _) (by k_asm) (by k_asm) (by k_asm) (by k_asm) (by k_asm) rfl (by k_room) (by k_units) (Nd.consA l19 nd3) ?_
      intro r news' h' tk' F4 N4 nd4 hp4
      obtain ⟨T5, ok5, hr5, rfl, rfl⟩ := hp4
      obtain ⟨Z2, hZ2, mkd2, sub2⟩ := mid_E (M := T5.mut) (I := T5.imm w) (q := (l9, listOf #[] 0)) (E := E1) N4 hE1Z (List.mem_append_right _ (List.mem_append_right _ (List.mem_append_right _ (List.mem_append_right _ mkd0))))
      rw [hZ2] at N4 nd4
      obtain ⟨E2, hE2⟩ : ∃ E2, Z2 ++ R = E2 := ⟨_, rfl⟩
      rw [hE2] at N4 nd4 sub2
      have harr2 := harr3.mono sub2
      have hl2E := sub2 _ hl3
      have sub12 : ∀ q ∈ Y ++ R1, q ∈ E2 := fun q hq => sub2 q (sub1 q hq)
      k_steps
      show wpAny _ _ _ _ _ _
      refine Calls.use (a2t_spec w (ents T.tab) (nodup_ents ndT) (fun e he => valT e (List.mem_filter.mp he).1) aa _ _ E2 harr2 h1E hlE) (by k_asm) (by k_asm) (by k_asm) (by k_asm) (by k_asm) rfl (by k_room) (by k_units) nd4 ?_
      intro r news' h' tk' F5 N5 nd5 hp5
      obtain ⟨T3, X6, ok3, rfl, rfl, im3', tab3⟩ := hp5
      have sub6 : ∀ q ∈ E2, q ∈ T3.mut ++ (X6 ++ E2) := fun q hq => List.mem_append_right _ (List.mem_append_right _ hq)
      have harr6 := harr2.mono sub6
      have hl6 := sub6 _ hl2E
      have sub7 : ∀ q ∈ Y ++ R1, q ∈ T3.mut ++ (X6 ++ E2) := fun q hq => sub6 q (sub12 q hq)
      have hlT3 : T3.rows.length ≤ 900 := by rw [← tab_len, tab3]; omega
      have valT3 : ∀ e ∈ T3.tab, IsVal e.2 := by rw [tab3]; exact fun e he => valT e (List.mem_filter.mp he).1
      have spec7 := ents_spec w T3 ok3 (X6 ++ E2) im3' hlT3 valT3
      have eE : ents T3.tab = ents T.tab := by rw [tab3]; unfold ents; rw [List.filter_filter]; simp
      have ⟨ds1, ds2, ds3, ds4⟩ := dim_str h1E hlE
      obtain ⟨E3, hE3⟩ : ∃ E3, T3.mut ++ (X6 ++ E2) = E3 := ⟨_, rfl⟩
      rw [hE3] at N5 nd5 sub6 harr6 hl6 sub7 spec7
      k_steps
      show wpAny _ _ _ _ _ _
      refine Calls.use (proto_spec w (ents T.tab) aa E3 harr6) (by k_asm) (by k_asm) (by k_asm) (by k_asm) (by k_asm) rfl (by k_room) (by k_units) nd5 ?_
      intro r news' h' tk' F6 N6 nd6 hp6
      obtain ⟨rfl, tp6, rfl⟩ := hp6
      k_steps
      show wpAny _ _ _ _ _ _
      refine Calls.use spec7 (by k_asm) (by k_asm) (by k_asm) (by k_asm) (by k_asm) rfl (by k_room) (by k_units) nd6 ?_
      intro r news' h' tk' F7 N7 nd7 hp7
      obtain ⟨Y7, l7, vs7, nl7, rfl, rfl, hl7, hprs7⟩ := hp7
      rw [eE] at hprs7
      have lr7 := hprs7.LR
      have hl7' : (l7, listOf vs7 nl7) ∈ T3.mut ++ (Y7 ++ (X6 ++ E2)) := List.mem_append_right _ (List.mem_append_left _ hl7)
      have sub8 : ∀ q ∈ Y7, q ∈ T3.mut ++ (Y7 ++ (X6 ++ E2)) := fun q hq => List.mem_append_right _ (List.mem_append_left _ hq)
      have sub9 : ∀ q ∈ E2, q ∈ T3.mut ++ (Y7 ++ (X6 ++ E2)) := fun q hq => List.mem_append_right _ (List.mem_append_right _ (List.mem_append_right _ hq))
      have hl9 := sub9 _ hl2E
      have sub10 : ∀ q ∈ Y ++ R1, q ∈ T3.mut ++ (Y7 ++ (X6 ++ E2)) := fun q hq => sub9 q (sub12 q hq)
      have hbr : PyData.eqvAll ((ents T.tab).map pairD) ((ents T.tab).map pairD) = true := eqvAll_refl okr
      obtain ⟨Z1, hZ1, mkdZ⟩ : ∃ Z1, Y7 ++ (X6 ++ E2) = Z1 ++ R ∧ (kd, o) ∈ Z1 := ⟨Y7 ++ (X6 ++ Z2), by rw [← hE2]; simp, List.mem_append_right _ (List.mem_append_right _ mkd2)⟩
      have im3 : ∀ q ∈ T3.imm w, q ∈ Z1 ++ R := fun q hq => hZ1 ▸ List.mem_append_right _ (im3' q hq)
      have mdl5 : (dl, listOf vs.toArray n) ∈ T3.mut ++ (Z1 ++ R) := List.mem_append_right _ (List.mem_append_right _ hdl)
      have nd5 := nd7
      rw [hZ1] at N7 nd5 hl7' sub8 sub9 sub10 hl9
      obtain ⟨U5, hU5⟩ : ∃ U5, T3.mut ++ (Z1 ++ R) = U5 := ⟨_, rfl⟩
      rw [hU5] at N7 nd5 mdl5 hl7' sub8 sub9 sub10 hl9
      k_steps
      show wpAny _ _ _ _ _ _
      (rename Fr _ _ _ _ => F9)
      refine For_turns F9 ?_
      k_steps
      show wpAny _ _ _ _ _ _
      rename_i D3 _ FF3 NN3 lD3
      rw [hmkN] at NN3
      have ndS3 : Nd ((D3, listOf (vs.drop mk).toArray 0) :: U5) := Nd.consA lD3 nd5
      rw [← hU5] at NN3 ndS3
      have pm5 := perm9 (D3, listOf (vs.drop mk).toArray 0) T3.mut Z1 R
      refine list_loop (vs := vs.drop mk) (n := 0) (by assumption) rfl (News.perm pm5 NN3) (pm5.mem_iff.mp (.head _)) (fun i m' nw => Ext (fun z => if z = Str.ofString "again" then some (.ref T3.t) else if z = Str.ofString "known" then some (.ref kd) else none) m' ∧ ∃ (T9 : TB) (X1 : List (Addr × Obj)), T9.Ok w ∧ T9.t = T3.t ∧ nw = T9.mut ++ (X1 ++ ((D3, listOf (vs.drop mk).toArray 0) :: R)) ∧ Nd nw ∧
        (∀ q ∈ T9.imm w, q ∈ X1 ++ ((D3, listOf (vs.drop mk).toArray 0) :: R)) ∧ T9.tab = run (ents T.tab) ((es.drop mk).take i) ∧ (kd, o) ∈ X1) (fun i m' nw h => ?_)
        ⟨ext2 (by rfl) (by rfl), T3, Z1, ok3, rfl, rfl, Nd.perm pm5 ndS3, fun q hq => by
          rcases List.mem_append.mp (im3 q hq) with h | h
          · exact List.mem_append_left _ h
          · exact List.mem_append_right _ (.tail _ h), tab3, mkdZ⟩ ?_ ?_
      · obtain ⟨_, T9, X1, _, _, rfl, _⟩ := h
        exact List.mem_append_right _ (List.mem_append_right _ (.head _))
      · rintro i v m₁ nw h tk I oI hv ⟨⟨vl, rfl⟩, T9, X1, okT9, tT9, rfl, nd, im, tab9, mkd9⟩ F1 N1 off
        obtain ⟨da, kv, vv, nt, k, d, rfl, hda, hkv', hvv, he⟩ := (hp.drop mk).get hv
        have hlT9 : T9.rows.length ≤ 900 := by rw [← tab_len, tab9]; have := len2 i; omega
        obtain ⟨W3, hW3⟩ : ∃ W3, ((D3, listOf (vs.drop mk).toArray 0) :: R) = W3 := ⟨_, rfl⟩
        rw [hW3] at N1 off nd im
        have hdaW : (da, tup2 kv vv nt) ∈ X1 ++ W3 := List.mem_append_right _ (by rw [← hW3]; exact .tail _ hda)
        have ndI : Nd ([(I, oI)] ++ (T9.mut ++ (X1 ++ W3))) := Nd.new off nd
        have spec := do_S w k kv hkv' vv d hvv T9 okT9 [(I, oI)] (X1 ++ W3) im hlT9 da nt (List.mem_append_right _ hdaW)
        rw [tT9] at spec
        obtain ⟨U, hU⟩ : ∃ U, T9.mut ++ (X1 ++ W3) = U := ⟨_, rfl⟩
        rw [hU] at N1 spec ndI
        k_steps
        show wpAny _ _ _ _ _ _
        refine Calls.use spec (by k_asm) (by k_asm) (by k_asm) (by k_asm) (by k_asm) rfl (by k_room) (by k_units) ndI ?_
        intro r news' h' tk' F2 N2 nd3 hp2
        obtain ⟨T2, X2, ok2, t2, rfl, im2, _, tb2⟩ := hp2
        k_steps
        show UnrEndW _ _ _ _ _ _
        (rename News _ _ _ (T2.mut ++ _) => NN)
        have pm := perm5 T2.mut X2 (X1 ++ W3) (I, oI)
        refine ⟨_, _, _, T2.mut ++ ((X2 ++ X1) ++ W3), rfl, by assumption, ?_, ?_, Ext.set ⟨vl, rfl⟩ (by rfl), T2, X2 ++ X1, ok2, t2.trans tT9, by rw [hW3], ?_, ?_, ?_, List.mem_append_right _ mkd9⟩
        · rw [List.append_assoc]; exact News.perm pm NN
        · intro p hp q hq
          rw [List.mem_singleton.mp hq]
          exact (Nd.perm pm nd3).head p (by rw [← List.append_assoc X2]; exact hp)
        · rw [List.append_assoc]; exact (Nd.perm pm nd3).tail
        · intro q hq
          rw [hW3, List.append_assoc]
          rcases List.mem_append.mp (im2 q hq) with h | h
          · exact List.mem_append_left _ h
          · exact List.mem_append_right _ (im q h)
        · rw [tb2, tab9, ← run_snoc (e := (k, d)) he]
      · rintro m₁ nw h tk ⟨⟨vl, rfl⟩, T9, X1, okT9, tT9, rfl, nd, im, tab9, mkd9⟩ F1 N1
        have hl9 : (vs.drop mk).length = (es.drop mk).length := (hp.drop mk).length
        rw [hl9, List.take_length] at tab9
        have hno : (kd == sysModules) = false := lo
        obtain ⟨bb, hbb⟩ : ∃ bb, T.tab.any (fun e => nullB e.2) = bb := ⟨_, rfl⟩
        have mkd9' : (kd, o) ∈ T9.mut ++ (X1 ++ ((D3, listOf (vs.drop mk).toArray 0) :: R)) := List.mem_append_right _ (List.mem_append_left _ mkd9)
        obtain ⟨U9, hU9⟩ : ∃ U9, T9.mut ++ (X1 ++ ((D3, listOf (vs.drop mk).toArray 0) :: R)) = U9 := ⟨_, rfl⟩
        rw [hU9] at N1 nd mkd9'
        k_steps
        (rename News h₀ L _ _ => NN)
        (rename News _ _ _ ((_, _) :: U9) => NB)
        (rename ∀ (p : Addr × Obj), p ∈ U9 → p.1 < _ => lv)
        have ndv := Nd.consA (o := ({ cls := .type "dict_values", data := .fields #[.ref kd] } : Obj)) lv nd
        have ltp := fun q hq => Heap.lt_size (NB q hq).1
        dsimp only at NN ltp
        have ndF := Nd.consA (o := tup3 (.ref T3.t) (.bool true) (.bool (!bb)) 0) ltp ndv
        rw [← hU9] at NN ndF
        have pmZ := fun A B => perm10 A B T9.mut X1 (D3, listOf (vs.drop mk).toArray 0) R
        refine hret _ _ _ _ (by assumption) (News.perm (pmZ _ _) NN) (Nd.perm (pmZ _ _) ndF) ⟨T9, _ :: _ :: (X1 ++ [(D3, listOf (vs.drop mk).toArray 0)]), _, 0, okT9, rfl, rfl, fun q hq => ?_, ?_, ?_⟩
        · rw [show ∀ (A B D : Addr × Obj) (X R : List (Addr × Obj)), (A :: B :: (X ++ [D])) ++ R = A :: B :: (X ++ (D :: R)) from fun _ _ _ _ _ => by simp]
          exact .tail _ (.tail _ (im q hq))
        · rw [← tab, hbb, tT9]; exact List.mem_append_left _ (.head _)
        · rw [tab9, tab]
section -- SM
open PySem PySem.W PySem.Calls PyProof.Rows PyProof.V PyProof.Rows.LCg PyProof.Rows.LCt PySem.SeqAt
set_option Elab.async false
set_option maxRecDepth 100000
set_option maxHeartbeats 8000000
theorem ints_len {vs : List Value} {ns : List Int} (h : IntsAre vs ns) : vs.length = ns.length := by
  induction h with
  | nil => rfl
  | cons _ _ _ ih => simp [ih]
theorem nd8 {hh h' : Heap} {LL : Addr} {a b c d e f g : Addr} {o0 o1 o2 o3 o4 o5 o6 o7 : Obj} (_ : News hh LL h' [(a, o0), (b, o1), (c, o2), (d, o3), (e, o4), (f, o5), (g + 1 + 1, o6), (g + 1, o7)]) (h0 : b < a ∧ c < a ∧ d < a ∧ e < a ∧ f < a ∧ g + 1 + 1 < a ∧ g + 1 < a) (h1 : c < b ∧ d < b ∧ e < b ∧ f < b ∧ g + 1 + 1 < b ∧ g + 1 < b) (h2 : d < c ∧ e < c ∧ f < c ∧ g + 1 + 1 < c ∧ g + 1 < c) (h3 : e < d ∧ f < d ∧ g + 1 + 1 < d ∧ g + 1 < d) (h4 : f < e ∧ g + 1 + 1 < e ∧ g + 1 < e) (h5 : g + 1 + 1 < f ∧ g + 1 < f) : Nd [(a, o0), (b, o1), (c, o2), (d, o3), (e, o4), (f, o5), (g + 1 + 1, o6), (g + 1, o7)] :=
  Nd.cons (l := [(b, o1), (c, o2), (d, o3), (e, o4), (f, o5), (g + 1 + 1, o6), (g + 1, o7)]) ⟨h0.1, h0.2.1, h0.2.2.1, h0.2.2.2.1, h0.2.2.2.2.1, h0.2.2.2.2.2.1, h0.2.2.2.2.2.2, trivial⟩ (Nd.cons (l := [(c, o2), (d, o3), (e, o4), (f, o5), (g + 1 + 1, o6), (g + 1, o7)]) ⟨h1.1, h1.2.1, h1.2.2.1, h1.2.2.2.1, h1.2.2.2.2.1, h1.2.2.2.2.2, trivial⟩ (Nd.cons (l := [(d, o3), (e, o4), (f, o5), (g + 1 + 1, o6), (g + 1, o7)]) ⟨h2.1, h2.2.1, h2.2.2.1, h2.2.2.2.1, h2.2.2.2.2, trivial⟩ (Nd.cons (l := [(e, o4), (f, o5), (g + 1 + 1, o6), (g + 1, o7)]) ⟨h3.1, h3.2.1, h3.2.2.1, h3.2.2.2, trivial⟩ (Nd.cons (l := [(f, o5), (g + 1 + 1, o6), (g + 1, o7)]) ⟨h4.1, h4.2.1, h4.2.2, trivial⟩ (Nd.cons (l := [(g + 1 + 1, o6), (g + 1, o7)]) ⟨h5.1, h5.2, trivial⟩ (Nd.cons (l := [(g + 1, o7)]) ⟨Nat.lt_succ_self _, trivial⟩ (Nd.cons (l := []) trivial .nil)))))))
theorem cut3 {h0 h : Heap} {L : Addr} {a b c : Addr × Obj} {R : List (Addr × Obj)} (_ : News h0 L h (a :: b :: c :: R)) : ∃ R', R = R' := ⟨R, rfl⟩
def MK6 : List KV := [.i 1, .s (Str.ofString "1"), .s (Str.ofString ""), .s (Str.ofString "A"), .i 2, .i (-3)]
theorem pickK {R : List (Addr × Obj)} {l : Addr} {a b c d e f : Tok} (h : (l, listOf #[.int 1 a, .str (Str.ofString "1") b, .str (Str.ofString "") c, .str (Str.ofString "A") d, .int 2 e, .int (-3) f] 0) ∈ R) :
    ∃ kvs : List Value, (l, listOf kvs.toArray 0) ∈ R ∧ ∀ r : Int, 0 ≤ r → r < 6 → ∃ x k, kvs.toArray.toList[r.toNat]? = some x ∧ KV.is k x = true ∧ k ∈ MK6 := by
  refine ⟨[_, _, _, _, _, _], h, fun r h0 h1 => ?_⟩
  obtain rfl | rfl | rfl | rfl | rfl | rfl : r = 0 ∨ r = 1 ∨ r = 2 ∨ r = 3 ∨ r = 4 ∨ r = 5 := sixI h0 h1
  · exact ⟨_, .i 1, rfl, KV.is_int _ _, .head _⟩
  · exact ⟨_, .s (Str.ofString "1"), rfl, KV.is_str _ _, .tail _ (.head _)⟩
  · exact ⟨_, .s (Str.ofString ""), rfl, KV.is_str _ _, .tail _ (.tail _ (.head _))⟩
  · exact ⟨_, .s (Str.ofString "A"), rfl, KV.is_str _ _, .tail _ (.tail _ (.tail _ (.head _)))⟩
  · exact ⟨_, .i 2, rfl, KV.is_int _ _, .tail _ (.tail _ (.tail _ (.tail _ (.head _))))⟩
  · exact ⟨_, .i (-3), rfl, KV.is_int _ _, .tail _ (.tail _ (.tail _ (.tail _ (.tail _ (.head _)))))⟩
theorem pickV {R : List (Addr × Obj)} {l : Addr} {b c d e f : Tok} (h : (l, listOf #[.none, .str (Str.ofString "") b, .int 5 c, .str (Str.ofString "5") d, .str (Str.ofString "B") e, .int (-1) f] 0) ∈ R) :
    ∃ kvs : List Value, (l, listOf kvs.toArray 0) ∈ R ∧ ∀ r : Int, 0 ≤ r → r < 6 → ∃ x d, kvs.toArray.toList[r.toNat]? = some x ∧ Flat x d ∧ OptVal d := by
  refine ⟨[_, _, _, _, _, _], h, fun r h0 h1 => ?_⟩
  obtain rfl | rfl | rfl | rfl | rfl | rfl : r = 0 ∨ r = 1 ∨ r = 2 ∨ r = 3 ∨ r = 4 ∨ r = 5 := sixI h0 h1
  · exact ⟨_, .none, rfl, Flat.none, .inl rfl⟩
  · exact ⟨_, _, rfl, Flat.str _ _, .inr (.inr ⟨_, by decide +kernel, rfl⟩)⟩
  · exact ⟨_, _, rfl, Flat.int _ _, .inr (.inl ⟨_, rfl⟩)⟩
  · exact ⟨_, _, rfl, Flat.str _ _, .inr (.inr ⟨_, by decide +kernel, rfl⟩)⟩
  · exact ⟨_, _, rfl, Flat.str _ _, .inr (.inr ⟨_, by decide +kernel, rfl⟩)⟩
  · exact ⟨_, _, rfl, Flat.int _ _, .inr (.inl ⟨_, rfl⟩)⟩
theorem ext4 {m : Str → Option Value} {a b c d : Str} {x y z u : Value} (ha : m a = some x) (hb : m b = some y) (hc : m c = some z) (hd : m d = some u) : Ext (fun q => if q = a then some x else if q = b then some y else if q = c then some z else if q = d then some u else none) m := Ext.of fun q v h => by
  by_cases h1 : q = a
  · subst h1; rw [if_pos rfl] at h; rw [ha]; exact h
  rw [if_neg h1] at h
  by_cases h2 : q = b
  · subst h2; rw [if_pos rfl] at h; rw [hb]; exact h
  rw [if_neg h2] at h
  by_cases h3 : q = c
  · subst h3; rw [if_pos rfl] at h; rw [hc]; exact h
  rw [if_neg h3] at h
  by_cases h4 : q = d
  · subst h4; rw [if_pos rfl] at h; rw [hd]; exact h
  rw [if_neg h4] at h; cases h
theorem rng_take {r : Int} (h0 : 0 ≤ r) (h8 : r < 8) : Builtin.Range.small 0 (3 + r) 1 = true ∧ Builtin.Range.rangeSize 0 (3 + r) 1 = (((3 + r).toNat : Nat) : Int) := by
  obtain ⟨k, rfl⟩ := Int.eq_ofNat_of_zero_le h0
  exact (by decide : ∀ k : Fin 8, Builtin.Range.small 0 (3 + (k.1 : Int)) 1 = true ∧ Builtin.Range.rangeSize 0 (3 + (k.1 : Int)) 1 = (((3 + (k.1 : Int)).toNat : Nat) : Int)) ⟨k, Int.ofNat_lt.mp h8⟩
theorem perm11 {α : Type} (A B D I : α) (X Y R : List α) : (A :: B :: (X ++ (Y ++ (I :: D :: R)))).Perm (D :: I :: (A :: B :: (X ++ (Y ++ R)))) :=
  permF [[A], [B], X, Y, [I], [D]] R (a := [0, 1, 2, 3, 4, 5]) (b := [5, 4, 0, 1, 2, 3]) (by decide)
theorem l1_end {h₀ h' h1 : Heap} {L ld I tp box D : Addr} {oI : Obj} {dvs vs : List Value} {ns : List Int} {es : Tab} {x y : Value} {kk : KV} {dd : PyData} {X2 X1 X R1 V2 : List (Addr × Obj)} {m₀ m' : Str → Option Value} {k3 k4 i : Nat} {t2 : Tok} {s : Shared} {tk tk' : Nat}
    (hV2 : (box, listOf #[.ref D, .int (1 + 2 * (i : Int) + 1 + 1) t2] k3) :: (D, listOf vs.toArray k4) :: (X2 ++ (X1 ++ (X ++ R1))) = V2) (NN : News h₀ L h' ((tp, tup2 x y 0) :: (ld, listOf (dvs.toArray.push (.ref tp)) (dvs.length + 1)) :: (I, oI) :: V2))
    (nd : Nd ((ld, lst dvs) :: (I, oI) :: V2)) (ltp : ld < tp ∧ I < tp ∧ AllLt tp V2) (FF : Fr h₀ L h' m') (ex : Ext m₀ m') (hvs : IntsAre vs ns) (hvl : vs.length ≤ 100) (pr : Prs X dvs es) (hx : KV.is kk x = true) (hy : Flat y dd) (hl : es.length = i)
    (hke : ∀ e ∈ es, e.1 ∈ MK6 ∧ OptVal e.2) (hk : kk ∈ MK6) (hd : OptVal dd) :
    UnrEndW h₀ L { s with heap := h1, toks := tk } [(I, oI)] (fun m' nw => Ext m₀ m' ∧ ∃ (k k2 : Nat) (t : Tok) (vs : List Value) (ns : List Int) (dvs : List Value) (es : Tab) (X : List (Addr × Obj)), IntsAre vs ns ∧ vs.length ≤ 100 ∧
      nw = (box, listOf #[.ref D, .int (1 + 2 * ((i + 1 : Nat) : Int)) t] k) :: (D, listOf vs.toArray k2) :: (ld, lst dvs) :: (X ++ R1) ∧ Nd nw ∧ Prs X dvs es ∧ es.length = i + 1 ∧ ∀ e ∈ es, e.1 ∈ MK6 ∧ OptVal e.2) { s with heap := h', toks := tk' } := by
  subst hV2
  rw [show 1 + 2 * (i : Int) + 1 + 1 = 1 + 2 * ((i + 1 : Nat) : Int) by omega] at NN nd ltp
  have ndT : Nd ((tp, tup2 x y 0) :: (ld, listOf (dvs.toArray.push (.ref tp)) (dvs.length + 1)) :: (I, oI) :: (box, listOf #[.ref D, .int (1 + 2 * ((i + 1 : Nat) : Int)) t2] k3) :: (D, listOf vs.toArray k4) :: (X2 ++ (X1 ++ (X ++ R1)))) :=
    Nd.cons (l := (ld, listOf (dvs.toArray.push (.ref tp)) (dvs.length + 1)) :: (I, oI) :: _) ltp (nd.addr rfl)
  have e0 : listOf (dvs.toArray.push (.ref tp)) (dvs.length + 1) = lst (dvs ++ [.ref tp]) := lst_snoc _ _
  rw [e0] at NN ndT
  have pm : ∀ (T l I b d : Addr × Obj), (T :: l :: I :: b :: d :: (X2 ++ (X1 ++ (X ++ R1)))).Perm ([I] ++ (b :: d :: l :: ((T :: (X2 ++ (X1 ++ X))) ++ R1))) := by
    intro T l I b d
    simp only [List.append_assoc, List.cons_append, List.nil_append]
    exact permF [[T], [l], [I], [b], [d]] (X2 ++ (X1 ++ (X ++ R1))) (a := [0, 1, 2, 3, 4]) (b := [2, 3, 4, 1, 0]) (by decide)
  have N2 := News.perm (pm _ _ _ _ _) NN
  have n2 : Nd _ := Nd.perm (pm _ _ _ _ _) ndT
  refine ⟨h', tk', m', _, rfl, FF, N2, ?_, ex, k3, k4, t2, vs, ns, dvs ++ [.ref tp], es ++ [(kk, dd)], (tp, tup2 x y 0) :: (X2 ++ (X1 ++ X)), hvs, hvl, rfl, n2.tail, ?_, by simp [hl], ?_⟩
  · intro p hp q hq
    rw [List.mem_singleton.mp hq]
    exact n2.head p hp
  · exact (pr.mono fun q hq => .tail _ (List.mem_append_right _ (List.mem_append_right _ hq))).snoc (.head _) hx hy
  · intro e he
    rcases List.mem_append.mp he with he | he
    · exact hke e he
    · rw [List.mem_singleton.mp he]; exact ⟨hk, hd⟩
theorem perm12 {α : Type} (A B : α) (X : List α) (D : α) (R : List α) : (A :: B :: (X ++ (D :: R))).Perm (A :: B :: D :: (X ++ R)) :=
  permF [[A], [B], X, [D]] R (a := [0, 1, 2, 3]) (b := [0, 1, 3, 2]) (by decide)
theorem perm13 {α : Type} (b d l : α) (X : List α) (p q r c e : α) : (b :: d :: l :: (X ++ [p, q, r, c, e])).Perm (c :: e :: (b :: d :: l :: (X ++ [p, q, r]))) :=
  permF [[b], [d], [l], X, [p], [q], [r], [c], [e]] [] (a := [0, 1, 2, 3, 4, 5, 6, 7, 8]) (b := [7, 8, 0, 1, 2, 3, 4, 5, 6]) (by decide)
theorem perm14 {α : Type} (c e : α) (M I W : List α) : (M ++ (I ++ (c :: e :: W))).Perm (c :: e :: (M ++ (I ++ W))) :=
  permF [M, I, [c], [e]] W (a := [0, 1, 2, 3]) (b := [2, 3, 0, 1]) (by decide)
theorem cut2 {h0 h : Heap} {L : Addr} {a b : Addr × Obj} {R : List (Addr × Obj)} (_ : News h0 L h (a :: b :: R)) : ∃ R', R = R' := ⟨R, rfl⟩
theorem ext5 {m : Str → Option Value} {a b c d e : Str} {x y z u v : Value} (ha : m a = some x) (hb : m b = some y) (hc : m c = some z) (hd : m d = some u) (he : m e = some v) : Ext (fun q => if q = a then some x else if q = b then some y else if q = c then some z else if q = d then some u else if q = e then some v else none) m := Ext.of fun q w h => by
  by_cases h1 : q = a
  · subst h1; rw [if_pos rfl] at h; rw [ha]; exact h
  rw [if_neg h1] at h
  by_cases h2 : q = b
  · subst h2; rw [if_pos rfl] at h; rw [hb]; exact h
  rw [if_neg h2] at h
  by_cases h3 : q = c
  · subst h3; rw [if_pos rfl] at h; rw [hc]; exact h
  rw [if_neg h3] at h
  by_cases h4 : q = d
  · subst h4; rw [if_pos rfl] at h; rw [hd]; exact h
  rw [if_neg h4] at h
  by_cases h5 : q = e
  · subst h5; rw [if_pos rfl] at h; rw [he]; exact h
  rw [if_neg h5] at h; cases h
theorem ents_S (w : World) (T : TB) (hT : T.Ok w) (S R : List (Addr × Obj)) (hR : ∀ q ∈ T.imm w, q ∈ R) (hlen : T.rows.length ≤ 900) (hval : ∀ e ∈ T.tab, IsVal e.2) :
    Calls w (.ref 302) [.ref T.t] 20 200 (S ++ (T.mut ++ R)) (fun r news' => ∃ X l vs n, r = .ref l ∧ news' = T.mut ++ (X ++ (S ++ R)) ∧ (l, listOf vs n) ∈ X ∧ Prs X vs.toList (ents T.tab)) :=
  Calls.perm (perm3 S T.mut R) (ents_spec w T hT (S ++ R) (fun q hq => List.mem_append_right _ (hR q hq)) hlen hval)
/-- the entries noted ahead of each deed -/
def Pas (X : List (Addr × Obj)) (pas : List Value) (es : Tab) (i : Nat) : Prop := pas.length = i ∧ ∀ j, j < i → ∃ (l : Addr) (vs : Array Value) (n : Nat), pas[j]? = some (.ref l) ∧ (l, listOf vs n) ∈ X ∧ Prs X vs.toList (ents (run [] (es.take j)))
theorem Pas.zero {X : List (Addr × Obj)} {es : Tab} : Pas X [] es 0 := ⟨rfl, fun j h => absurd h (Nat.not_lt_zero _)⟩
theorem Pas.mono {X X' : List (Addr × Obj)} {pas : List Value} {es : Tab} {i : Nat} (h : Pas X pas es i) (s : ∀ q ∈ X, q ∈ X') : Pas X' pas es i :=
  ⟨h.1, fun j hj => let ⟨l, vs, n, a, b, c⟩ := h.2 j hj; ⟨l, vs, n, a, s _ b, c.mono s⟩⟩
theorem Pas.snoc {X : List (Addr × Obj)} {pas : List Value} {es : Tab} {i : Nat} {l : Addr} {vs : Array Value} {n : Nat} (h : Pas X pas es i) (hl : (l, listOf vs n) ∈ X) (hp : Prs X vs.toList (ents (run [] (es.take i)))) : Pas X (pas ++ [.ref l]) es (i + 1) := by
  refine ⟨by simp [h.1], fun j hj => ?_⟩
  by_cases e : j = i
  · subst e; exact ⟨l, vs, n, by simp [← h.1], hl, hp⟩
  · obtain ⟨l', vs', n', a, b, c⟩ := h.2 j (by omega)
    exact ⟨l', vs', n', by rw [List.getElem?_append_left (by rw [h.1]; omega)]; exact a, b, c⟩
/-- what undoes each deed -/
def Uns (X : List (Addr × Obj)) (uns : List Value) (es : Tab) (i : Nat) : Prop := uns.length = i ∧ ∀ j e, j < i → es[j]? = some e → ∃ (da : Addr) (kv vv : Value) (nt : Nat), uns[j]? = some (.ref da) ∧ (da, tup2 kv vv nt) ∈ X ∧ KV.is e.1 kv = true ∧ Flat vv (tget (run [] (es.take j)) e.1)
theorem Uns.zero {X : List (Addr × Obj)} {es : Tab} : Uns X [] es 0 := ⟨rfl, fun j e h => absurd h (Nat.not_lt_zero _)⟩
theorem Uns.mono {X X' : List (Addr × Obj)} {uns : List Value} {es : Tab} {i : Nat} (h : Uns X uns es i) (s : ∀ q ∈ X, q ∈ X') : Uns X' uns es i :=
  ⟨h.1, fun j e hj he => let ⟨da, kv, vv, nt, a, b, c, d⟩ := h.2 j e hj he; ⟨da, kv, vv, nt, a, s _ b, c, d⟩⟩
theorem Uns.snoc {X : List (Addr × Obj)} {uns : List Value} {es : Tab} {i : Nat} {da : Addr} {kv vv : Value} {nt : Nat} {k : KV} {d : PyData} (h : Uns X uns es i) (he : es[i]? = some (k, d)) (hd : (da, tup2 kv vv nt) ∈ X) (hk : KV.is k kv = true) (hf : Flat vv (tget (run [] (es.take i)) k)) : Uns X (uns ++ [.ref da]) es (i + 1) := by
  refine ⟨by simp [h.1], fun j e hj hje => ?_⟩
  by_cases q : j = i
  · subst q
    rw [he] at hje
    obtain rfl := Option.some.inj hje
    exact ⟨da, kv, vv, nt, by simp [← h.1], hd, hk, hf⟩
  · obtain ⟨da', kv', vv', nt', a, b, c⟩ := h.2 j e (by omega) hje
    exact ⟨da', kv', vv', nt', by rw [List.getElem?_append_left (by rw [h.1]; omega)]; exact a, b, c⟩
theorem perm15 {α : Type} (t u p d c e : α) (M I W : List α) : (t :: u :: p :: d :: c :: e :: (M ++ (I ++ W))).Perm (d :: p :: u :: (M ++ (I ++ (t :: c :: e :: W)))) :=
  permF [[t], [u], [p], [d], [c], [e], M, I] W (a := [0, 1, 2, 3, 4, 5, 6, 7]) (b := [3, 2, 1, 6, 7, 0, 4, 5]) (by decide)
theorem perm16 {α : Type} (i d p u : α) (M Y R : List α) : (M ++ (Y ++ ([i, d, p, u] ++ R))).Perm (p :: i :: d :: u :: (M ++ (Y ++ R))) :=
  permF [M, Y, [i], [d], [p], [u]] R (a := [0, 1, 2, 3, 4, 5]) (b := [4, 2, 3, 5, 0, 1]) (by decide)
theorem perm17 {α : Type} (t p i d u : α) (M X2 R : List α) : (M ++ (X2 ++ ([t, p, i, d, u] ++ R))).Perm (u :: p :: i :: d :: (M ++ (X2 ++ (t :: R)))) :=
  permF [M, X2, [t], [p], [i], [d], [u]] R (a := [0, 1, 2, 3, 4, 5, 6]) (b := [6, 3, 4, 5, 0, 1, 2]) (by decide)
theorem nd6_of {h0 h : Heap} {L : Addr} {t u p d c e : Addr} {ot ou op od oc oe oe' : Obj} {V : List (Addr × Obj)} (_ : News h0 L h ((t, ot) :: (u, ou) :: (p, op) :: (d, od) :: (c, oc) :: (e, oe') :: V))
    (lt : u < t ∧ p < t ∧ d < t ∧ c < t ∧ e < t ∧ AllLt t V) (lu : p < u ∧ d < u ∧ c < u ∧ e < u ∧ AllLt u V) (lp : d < p ∧ c < p ∧ e < p ∧ AllLt p V) (ld : c < d ∧ e < d ∧ AllLt d V) (nd : Nd ((c, oc) :: (e, oe) :: V)) :
    Nd ((t, ot) :: (u, ou) :: (p, op) :: (d, od) :: (c, oc) :: (e, oe') :: V) := by
  have n1 : Nd ((c, oc) :: (e, oe') :: V) := nd.addr rfl
  exact Nd.cons (l := _ :: _ :: _ :: _ :: _ :: V) lt (Nd.cons (l := _ :: _ :: _ :: _ :: V) lu (Nd.cons (l := _ :: _ :: _ :: V) lp (Nd.cons (l := _ :: _ :: V) ld n1)))
theorem tail_C {h0 h : Heap} {L ld : Addr} {d p u t c e : Addr × Obj} {M I W : List (Addr × Obj)} {dvs : List Value} {es : Tab} (_ : News h0 L h (d :: p :: u :: (M ++ (I ++ (t :: c :: e :: W))))) (hl : (ld, lst dvs) ∈ W) (pr : Prs W dvs es) :
    ∃ C, t :: c :: e :: W = C ∧ (ld, lst dvs) ∈ C ∧ Prs C dvs es ∧ e ∈ C := ⟨_, rfl, .tail _ (.tail _ (.tail _ hl)), pr.mono fun _ hq => .tail _ (.tail _ (.tail _ hq)), .tail _ (.tail _ (.head _))⟩
theorem or_some {α : Type} {a : Option α} {f : Unit → Option α} {x : α} (h : a = some x) : a.orElse f = some x := by subst h; rfl
theorem IsVal.can {d : PyData} (h : IsVal d) : d.canLay0 = true := by
  rcases h with ⟨n, rfl⟩ | ⟨x, hx, rfl⟩
  · rfl
  · exact hx
theorem item_m1 {prog : Program} {w : World} {A : Around} {E : Value → Shared → Prop} {s : Shared} {h₀ : Heap} {L d : Addr} {news : List (Addr × Obj)} {vi : List Value} {n : Nat} {u : Tok} {v : Value} {value slice : PySem.Expr} {Q : Value → Shared → Prop} (N : News h₀ L s.heap news) (hm : (d, listOf (vi.toArray.push v) n) ∈ news) (h : Q v s)
    (hs : subscripted slice false (.ref d) (.int (-1) u) = operate [.ref d, .int (-1) u] (getItem (.ref d) (.int (-1) u)) := by with_unfolding_all rfl) (hg : ∀ r, letTemporaryGo value (.ref d) r = pure () := by intro _; with_unfolding_all rfl) :
    wpAny (model prog w) A (subscriptTail value slice (.ref d) (.int (-1) u)) Q E s := item_last (vi := vi) (v := v) ⟨_, N.get hm, rfl, n, by simp⟩ h hs hg
end -- SM
section -- SOb
open PySem PySem.W PySem.Calls PyProof.Rows PyProof.V PyProof.Rows.LCg PyProof.Rows.LCt PySem.SeqAt
set_option Elab.async false
set_option maxRecDepth 100000
set_option maxHeartbeats 8000000
theorem snoc_lst (ys : List Value) (y : Value) : listOf (ys ++ [y]).toArray (ys.length + 1) = lst (ys ++ [y]) := by
  rw [show ys.length + 1 = (ys ++ [y]).length by simp]
theorem perm18 {α : Type} (u n p I d t : α) (M X2 Y X C : List α) : (u :: n :: p :: I :: d :: (M ++ (X2 ++ (t :: (Y ++ (X ++ C)))))).Perm ([I] ++ (d :: p :: n :: (M ++ ((u :: (X2 ++ (t :: (Y ++ X)))) ++ C)))) := by
  simp only [List.append_assoc, List.cons_append, List.nil_append]
  exact permF [[u], [n], [p], [I], [d], M, X2, [t], Y, X] C (a := [0, 1, 2, 3, 4, 5, 6, 7, 8, 9]) (b := [3, 4, 2, 1, 5, 0, 6, 7, 8, 9]) (by decide)
theorem pput_vals {P : Tab} {k : KV} {d : PyData} (h : ∀ e ∈ P, IsVal e.2) (hd : IsVal d) : ∀ e ∈ pput P k d, IsVal e.2 := by
  intro e he
  unfold pput at he
  split at he
  · obtain ⟨e', he', rfl⟩ := List.mem_map.mp he
    split
    · exact hd
    · exact h _ he'
  · rcases List.mem_append.mp he with he | he
    · exact h e he
    · rw [List.mem_singleton.mp he]; exact hd
theorem pput_len {P : Tab} {k : KV} {d : PyData} : (pput P k d).length ≤ P.length + 1 := by
  unfold pput
  split
  · simp
  · simp
theorem OptVal.some {d : PyData} (h : OptVal d) (g : given d = true) : IsVal d := by
  rcases h with rfl | h
  · cases g
  · exact h
/-- the ledger inside loop 2 -/
def Inv2 (wd : World) (t0 pdd pa un : Addr) (es : Tab) (C : List (Addr × Obj)) (i : Nat) (nw : List (Addr × Obj)) : Prop :=
  ∃ (T : TB) (o : Obj) (P : Tab) (pas uns : List Value) (X : List (Addr × Obj)), T.Ok wd ∧ T.t = t0 ∧ nw = (pdd, o) :: (pa, lst pas) :: (un, lst uns) :: (T.mut ++ (X ++ C)) ∧ Nd nw ∧ (∀ q ∈ T.imm wd, q ∈ X) ∧ T.tab = run [] (es.take i) ∧ PD wd o P ∧ Agr P T.tab ∧ (∀ e ∈ P, IsVal e.2) ∧ P.length ≤ i ∧ Pas X pas es i ∧ Uns X uns es i
theorem l2_end {wd : World} {h₀ h' h1 : Heap} {L tu un pa I pdd tp l t0 : Addr} {oI o otp : Obj} {T T2 : TB} {kk : KV} {d : PyData} {r kv : Value} {P : Tab} {pas uns : List Value} {es : Tab} {vs2 : Array Value} {nl i : Nat} {X2 Y X C V2 : List (Addr × Obj)} {m₀ m' : Str → Option Value} {s : Shared} {tk tk' : Nat}
    (hV2 : T2.mut ++ (X2 ++ ((tp, otp) :: (Y ++ (X ++ C)))) = V2)
    (NN : News h₀ L h' ((tu, tup2 kv r 0) :: (un, lst (uns ++ [.ref tu])) :: (pa, lst (pas ++ [.ref l])) :: (I, oI) :: (pdd, o) :: V2))
    (nd : Nd ((tu, tup2 kv r 0) :: (un, lst (uns ++ [.ref tu])) :: (pa, lst (pas ++ [.ref l])) :: (I, oI) :: (pdd, o) :: V2))
    (FF : Fr h₀ L h' m') (ex : Ext m₀ m') (ok2 : T2.Ok wd) (tT2 : T2.t = t0) (im2 : ∀ q ∈ T2.imm wd, q ∈ X2 ++ T.imm wd) (im1 : ∀ q ∈ T.imm wd, q ∈ X)
    (tab : T.tab = run [] (es.take i)) (tb2 : T2.tab = tdo T.tab kk d) (pd : PD wd o P) (agr : Agr P T2.tab) (pvl : ∀ e ∈ P, IsVal e.2) (plen : P.length ≤ i + 1) (hpas : Pas X pas es i) (huns : Uns X uns es i)
    (he : es[i]? = some (kk, d)) (hl : (l, listOf vs2 nl) ∈ Y) (hprs : Prs Y vs2.toList (ents T.tab)) (hkv : KV.is kk kv = true) (hfr : Flat r (tget T.tab kk)) :
    UnrEndW h₀ L { s with heap := h1, toks := tk } [(I, oI)] (fun m' nw => Ext m₀ m' ∧ Inv2 wd t0 pdd pa un es C (i + 1) nw) { s with heap := h', toks := tk' } := by
  subst hV2
  have pm := perm18 (tu, tup2 kv r 0) (un, lst (uns ++ [.ref tu])) (pa, lst (pas ++ [.ref l])) (I, oI) (pdd, o) (tp, otp) T2.mut X2 Y X C
  have N2 := News.perm pm NN
  have n2 : Nd _ := Nd.perm pm nd
  have sX : ∀ q ∈ X, q ∈ (tu, tup2 kv r 0) :: (X2 ++ ((tp, otp) :: (Y ++ X))) := fun q hq => .tail _ (List.mem_append_right _ (.tail _ (List.mem_append_right _ hq)))
  have sY : ∀ q ∈ Y, q ∈ (tu, tup2 kv r 0) :: (X2 ++ ((tp, otp) :: (Y ++ X))) := fun q hq => .tail _ (List.mem_append_right _ (.tail _ (List.mem_append_left _ hq)))
  refine ⟨h', tk', m', _, rfl, FF, N2, ?_, ex, T2, o, P, pas ++ [.ref l], uns ++ [.ref tu], _, ok2, tT2, rfl, n2.tail, ?_, ?_, pd, agr, pvl, plen, ?_, ?_⟩
  · intro p hp q hq
    rw [List.mem_singleton.mp hq]
    exact n2.head p hp
  · intro q hq
    rcases List.mem_append.mp (im2 q hq) with h | h
    · exact .tail _ (List.mem_append_left _ h)
    · exact sX q (im1 q h)
  · rw [tb2, tab, ← run_snoc (e := (kk, d)) he]
  · exact (hpas.mono sX).snoc (sY _ hl) (tab ▸ hprs.mono sY)
  · exact (huns.mono sX).snoc he (.head _) hkv (tab ▸ hfr)
theorem stageA {h₀ h : Heap} {L : Addr} {p a u t c e b d l : Addr × Obj} {M X C W X1 R3 : List (Addr × Obj)} (N : News h₀ L h (p :: a :: u :: (M ++ (X ++ C)))) (nd : Nd (p :: a :: u :: (M ++ (X ++ C)))) (hC : t :: c :: e :: W = C) (hW : b :: d :: l :: (X1 ++ R3) = W) :
    ∃ Z, News h₀ L h (c :: b :: d :: (M ++ Z)) ∧ Nd (c :: b :: d :: (M ++ Z)) ∧ p ∈ Z ∧ a ∈ Z ∧ u ∈ Z ∧ e ∈ Z ∧ l ∈ Z ∧ (∀ q ∈ X, q ∈ Z) ∧ ∀ q ∈ X1, q ∈ Z := by
  subst hC
  subst hW
  have pm : (p :: a :: u :: (M ++ (X ++ (t :: c :: e :: b :: d :: l :: (X1 ++ R3))))).Perm (c :: b :: d :: (M ++ (p :: a :: u :: e :: l :: t :: (X ++ (X1 ++ R3))))) := permF [[p], [a], [u], M, X, [t], [c], [e], [b], [d], [l], X1] R3 (a := [0, 1, 2, 3, 4, 5, 6, 7, 8, 9, 10, 11]) (b := [6, 8, 9, 3, 0, 1, 2, 7, 10, 5, 4, 11]) (by decide)
  exact ⟨_, News.perm pm N, Nd.perm pm nd, .head _, .tail _ (.head _), .tail _ (.tail _ (.head _)), .tail _ (.tail _ (.tail _ (.head _))), .tail _ (.tail _ (.tail _ (.tail _ (.head _)))),
    fun q hq => .tail _ (.tail _ (.tail _ (.tail _ (.tail _ (.tail _ (List.mem_append_left _ hq)))))), fun q hq => .tail _ (.tail _ (.tail _ (.tail _ (.tail _ (.tail _ (List.mem_append_right _ (List.mem_append_left _ hq)))))))⟩
theorem perm19 {α : Type} (c b d : α) (M Y Z : List α) : (M ++ (Y ++ ([c, b, d] ++ Z))).Perm (c :: b :: d :: (M ++ (Y ++ Z))) :=
  permF [M, Y, [c], [b], [d]] Z (a := [0, 1, 2, 3, 4]) (b := [2, 3, 4, 0, 1]) (by decide)
theorem perm20 {α : Type} (c b d : α) (M N I Z : List α) : (N ++ (I ++ (c :: b :: d :: (M ++ Z)))).Perm (c :: b :: d :: (M ++ (N ++ (I ++ Z)))) :=
  permF [N, I, [c], [b], [d], M] Z (a := [0, 1, 2, 3, 4, 5]) (b := [2, 3, 4, 5, 0, 1]) (by decide)
theorem cut0 {h0 h : Heap} {L : Addr} {R : List (Addr × Obj)} (_ : News h0 L h R) : ∃ R', R = R' := ⟨R, rfl⟩
theorem cut1 {h0 h : Heap} {L : Addr} {a : Addr × Obj} {R : List (Addr × Obj)} (_ : News h0 L h (a :: R)) : ∃ R', R = R' := ⟨R, rfl⟩
theorem MK6_val : ∀ k ∈ MK6, IsVal k.d := by
  intro k hk
  simp only [MK6, List.mem_cons, List.not_mem_nil, or_false] at hk
  rcases hk with rfl | rfl | rfl | rfl | rfl | rfl
  · exact .inl ⟨_, rfl⟩
  · exact .inr ⟨_, by decide +kernel, rfl⟩
  · exact .inr ⟨_, by decide +kernel, rfl⟩
  · exact .inr ⟨_, by decide +kernel, rfl⟩
  · exact .inl ⟨_, rfl⟩
  · exact .inl ⟨_, rfl⟩
theorem perm21 {α : Type} (t c b d : α) (X M N I Z : List α) : (X ++ (t :: c :: b :: d :: (M ++ (N ++ (I ++ Z))))).Perm (N ++ (I ++ (X ++ (t :: c :: b :: d :: (M ++ Z))))) :=
  permF [X, [t], [c], [b], [d], M, N, I] Z (a := [0, 1, 2, 3, 4, 5, 6, 7]) (b := [6, 7, 0, 1, 2, 3, 4, 5]) (by decide)
theorem perm22 {α : Type} (I : α) (M X Z : List α) : (M ++ (X ++ (I :: Z))).Perm ([I] ++ (M ++ (X ++ Z))) :=
  permF [M, X, [I]] Z (a := [0, 1, 2]) (b := [2, 0, 1]) (by decide)
theorem cutR {h0 h : Heap} {L : Addr} {M I R : List (Addr × Obj)} (_ : News h0 L h (M ++ (I ++ R))) : ∃ R', R = R' := ⟨R, rfl⟩
theorem ext6 {m : Str → Option Value} {a b c d e f : Str} {x y z u v w : Value} (ha : m a = some x) (hb : m b = some y) (hc : m c = some z) (hd : m d = some u) (he : m e = some v) (hf : m f = some w) :
    Ext (fun q => if q = a then some x else if q = b then some y else if q = c then some z else if q = d then some u else if q = e then some v else if q = f then some w else none) m := Ext.of fun q r h => by
  by_cases h1 : q = a
  · subst h1; rw [if_pos rfl] at h; rw [ha]; exact h
  rw [if_neg h1] at h
  by_cases h2 : q = b
  · subst h2; rw [if_pos rfl] at h; rw [hb]; exact h
  rw [if_neg h2] at h
  by_cases h3 : q = c
  · subst h3; rw [if_pos rfl] at h; rw [hc]; exact h
  rw [if_neg h3] at h
  by_cases h4 : q = d
  · subst h4; rw [if_pos rfl] at h; rw [hd]; exact h
  rw [if_neg h4] at h
  by_cases h5 : q = e
  · subst h5; rw [if_pos rfl] at h; rw [he]; exact h
  rw [if_neg h5] at h
  by_cases h6 : q = f
  · subst h6; rw [if_pos rfl] at h; rw [hf]; exact h
  rw [if_neg h6] at h; cases h
/-- a table of which p holds, ahead of the rest R -/
def InvT (wd : World) (t0 : Addr) (p : Tab → Prop) (R nw : List (Addr × Obj)) : Prop :=
  ∃ (T : TB) (X : List (Addr × Obj)), T.Ok wd ∧ T.t = t0 ∧ nw = T.mut ++ (X ++ R) ∧ Nd nw ∧ (∀ q ∈ T.imm wd, q ∈ X ++ R) ∧ p T.tab
theorem lT_end {wd : World} {h₀ h' h1 : Heap} {L I t0 : Addr} {oI : Obj} {T4 : TB} {p : Tab → Prop} {l X R : List (Addr × Obj)} {m₀ m' : Str → Option Value} {s : Shared} {tk tk' : Nat}
    (pm : l.Perm ([(I, oI)] ++ (T4.mut ++ (X ++ R)))) (NN : News h₀ L h' l) (nd : Nd l) (FF : Fr h₀ L h' m') (ex : Ext m₀ m') (ok4 : T4.Ok wd) (t4 : T4.t = t0) (im : ∀ q ∈ T4.imm wd, q ∈ X ++ R) (hp : p T4.tab) :
    UnrEndW h₀ L { s with heap := h1, toks := tk } [(I, oI)] (fun m' nw => Ext m₀ m' ∧ InvT wd t0 p R nw) { s with heap := h', toks := tk' } := by
  have N2 := News.perm pm NN
  have n2 : Nd _ := Nd.perm pm nd
  refine ⟨h', tk', m', _, rfl, FF, N2, ?_, ex, T4, X, ok4, t4, rfl, n2.tail, im, hp⟩
  intro p hp q hq
  rw [List.mem_singleton.mp hq]
  exact n2.head p hp
theorem brief_mem {M : List KV} : ∀ {es : Tab}, (∀ e ∈ es, e.1 ∈ M ∧ OptVal e.2) → ∀ e ∈ briefL es, e.1 ∈ M ∧ OptVal e.2
  | [], _, _, h => nomatch h
  | a :: r, h, e, he => by
    rcases List.mem_cons.mp he with rfl | he
    · refine ⟨(h a (.head _)).1, ?_⟩
      show OptVal (if _ then _ else _)
      split
      · exact .inl rfl
      · exact (h a (.head _)).2
    · exact brief_mem (fun x hx => h x (.tail _ hx)) e he
theorem ok_ents {es : Tab} (h : ∀ e ∈ es, e.1 ∈ MK6 ∧ OptVal e.2) : ∀ e ∈ ents (run [] es), okE e := fun e he => by
  have hv := vals_run es (t := []) (fun e h => nomatch h) (fun e he => (h e he).2) e (List.mem_filter.mp he).1
  have hk : e.1 ∈ keysT (run [] es) := List.mem_map.mpr ⟨e, (List.mem_filter.mp he).1, rfl⟩
  rw [keys_run] at hk
  have hm := sub_foldl_addK (m := MK6) _ _ (fun x h => by cases h) (fun x hx => by obtain ⟨e', he', rfl⟩ := List.mem_map.mp hx; exact (h e' he').1) _ hk
  exact ⟨(MK6_val _ hm).can, hv⟩
theorem tup_0 {prog : Program} {w : World} {A : Around} {E : Value → Shared → Prop} {s : Shared} {h₀ : Heap} {L d : Addr} {news : List (Addr × Obj)} {x y : Value} {n : Nat} {u : Tok} {value slice : PySem.Expr} {Q : Value → Shared → Prop} (N : News h₀ L s.heap news) (hm : (d, tup2 x y n) ∈ news) (h : Q x s)
    (hs : subscripted slice false (.ref d) (.int 0 u) = operate [.ref d, .int 0 u] (getItem (.ref d) (.int 0 u)) := by with_unfolding_all rfl) (hg : ∀ r, letTemporaryGo value (.ref d) r = pure () := by intro _; with_unfolding_all rfl) :
    wpAny (model prog w) A (subscriptTail value slice (.ref d) (.int 0 u)) Q E s := item_tuple (items := #[x, y]) (j := 0) ⟨_, N.get hm, rfl, n, rfl⟩ (by decide) (by decide) rfl rfl h hs hg
theorem tup_1 {prog : Program} {w : World} {A : Around} {E : Value → Shared → Prop} {s : Shared} {h₀ : Heap} {L d : Addr} {news : List (Addr × Obj)} {x y : Value} {n : Nat} {u : Tok} {value slice : PySem.Expr} {Q : Value → Shared → Prop} (N : News h₀ L s.heap news) (hm : (d, tup2 x y n) ∈ news) (h : Q y s)
    (hs : subscripted slice false (.ref d) (.int 1 u) = operate [.ref d, .int 1 u] (getItem (.ref d) (.int 1 u)) := by with_unfolding_all rfl) (hg : ∀ r, letTemporaryGo value (.ref d) r = pure () := by intro _; with_unfolding_all rfl) :
    wpAny (model prog w) A (subscriptTail value slice (.ref d) (.int 1 u)) Q E s := item_tuple (items := #[x, y]) (j := 1) ⟨_, N.get hm, rfl, n, rfl⟩ (by decide) (by decide) rfl rfl h hs hg
theorem stageB {h₀ h : Heap} {L : Addr} {a1 a2 tp c b d : Addr × Obj} {nw M3 Y5 U3 X R3 X4 M Y Z : List (Addr × Obj)} (N : News h₀ L h (a1 :: a2 :: nw)) (nd : Nd (a1 :: a2 :: nw)) (hU5 : M3 ++ (Y5 ++ U3) = nw) (hU3 : X ++ R3 = U3) (hR3 : X4 ++ tp :: c :: b :: d :: (M ++ (Y ++ Z)) = R3) :
    ∃ Z6, News h₀ L h (b :: d :: (M ++ Z6)) ∧ Nd (b :: d :: (M ++ Z6)) ∧ c ∈ Z6 ∧ (∀ q ∈ Y, q ∈ Z6) ∧ ∀ q ∈ Z, q ∈ Z6 := by
  subst hR3
  subst hU3
  subst hU5
  have pm : (a1 :: a2 :: (M3 ++ (Y5 ++ (X ++ (X4 ++ tp :: c :: b :: d :: (M ++ (Y ++ Z))))))).Perm (b :: d :: (M ++ (c :: a1 :: a2 :: tp :: (M3 ++ (Y5 ++ (X ++ (X4 ++ (Y ++ Z)))))))) :=
    permF [[a1], [a2], M3, Y5, X, X4, [tp], [c], [b], [d], M, Y] Z (a := [0, 1, 2, 3, 4, 5, 6, 7, 8, 9, 10, 11]) (b := [8, 9, 10, 7, 0, 1, 6, 2, 3, 4, 5, 11]) (by decide)
  exact ⟨_, News.perm pm N, Nd.perm pm nd, .head _, fun q hq => .tail _ (.tail _ (.tail _ (.tail _ (List.mem_append_right _ (List.mem_append_right _ (List.mem_append_right _ (List.mem_append_right _ (List.mem_append_left _ hq)))))))),
    fun q hq => .tail _ (.tail _ (.tail _ (.tail _ (List.mem_append_right _ (List.mem_append_right _ (List.mem_append_right _ (List.mem_append_right _ (List.mem_append_right _ hq))))))))⟩
theorem notin_LR {prog : Program} {w : World} {A : Around} {E : Value → Shared → Prop} {s : Shared} {h₀ : Heap} {L a l : Addr} {news W : List (Addr × Obj)} {its : Array Value} {nl nt : Nat} {ds : List PyData} {kv vv : Value} {e : KV × PyData} {Q : Value → Shared → Prop} (hu : A.units + 64 < cLine) (N : News h₀ L s.heap news)
    (hl : (l, listOf its nl) ∈ news) (r1 : LR W its.toList ds) (s1 : ∀ q ∈ W, q ∈ news) (c1 : okL ds) (ha : (a, tup2 kv vv nt) ∈ news) (hk : KV.is e.1 kv = true) (hv : Flat vv e.2) (ok : okE e) (hb : pairD e ∈ ds) (h : Q (.bool false) s) :
    wpAny (model prog w) A (compareOp .NotIn (.ref a) (.ref l)) Q E s := by
  obtain ⟨as, ra⟩ := r1 s.heap fun q hq => (N q (s1 q hq)).1
  have rx : Reads s.heap (.ref a) (pairD e) _ := Reads.tuple (N.get ha) rfl rfl (.cons (KV.flat hk s.heap) (.cons (hv s.heap) .nil))
  refine notIn_list_reads (.list (N.get hl) rfl rfl ra) rx c1.1 ok.can (by
    have := depth_pairD (e := e) ok.2
    have : min (PyData.depthAll ds) (pairD e).depth ≤ 5 := Nat.le_trans (Nat.min_le_right _ _) this
    omega) ?_
  have : (ds.any fun y => PyData.eqv y (pairD e)) = true := List.any_eq_true.mpr ⟨_, hb, eqv_refl _ ok.can⟩
  rw [this]; exact h
abbrev remT (es : Tab) (mk : Nat) : Tab := run (ents (run [] (es.take mk))) (es.drop mk)
theorem rem_perm (es : Tab) (mk : Nat) : (ents (remT es mk)).Perm (ents (run [] es)) := by
  have := remade_perm (es.take mk) (es.drop mk)
  rwa [List.take_append_drop] at this
theorem rem_full {es : Tab} {mk : Nat} (hf : (run [] (es.take mk)).any (fun e => nullB e.2) = false) : remT es mk = run [] es := by
  show run (ents (run [] (es.take mk))) (es.drop mk) = _
  rw [ents_full hf, ← run_append, List.take_append_drop]
theorem rem_len {es : Tab} (h : ∀ e ∈ es, e.1 ∈ MK6 ∧ OptVal e.2) (mk : Nat) : (remT es mk).length ≤ 6 := Nat.le_trans (run_len (m := MK6) (nodup_ents (nodup_run _ .nil)) (fun x hx => by
  obtain ⟨e, he, rfl⟩ := List.mem_map.mp hx
  have h2 : e.1 ∈ keysT (run [] (es.take mk)) := List.mem_map.mpr ⟨e, (List.mem_filter.mp he).1, rfl⟩
  rw [keys_run] at h2
  exact sub_foldl_addK _ _ (fun x h => by cases h) (fun x hx => by obtain ⟨e', he', rfl⟩ := List.mem_map.mp hx; exact (h e' (List.mem_of_mem_take he')).1) _ h2) fun e he => (h e (List.mem_of_mem_drop he)).1) (Nat.le_refl _)
theorem rem_val {es : Tab} (h : ∀ e ∈ es, e.1 ∈ MK6 ∧ OptVal e.2) (mk : Nat) : ∀ e ∈ remT es mk, IsVal e.2 :=
  vals_run _ (fun e he => vals_run _ (t := []) (fun e h => nomatch h) (fun e he => (h e (List.mem_of_mem_take he)).2) e (List.mem_filter.mp he).1) fun e he => (h e (List.mem_of_mem_drop he)).2
theorem stageC {h₀ h : Heap} {L : Addr} {a1 a2 : Addr × Obj} {U9 V6 Mr Y8 VR Xr B V7 X7 M Z6 : List (Addr × Obj)} (N : News h₀ L h (a1 :: a2 :: U9)) (nd : Nd (a1 :: a2 :: U9)) (hU9 : Mr ++ (Y8 ++ VR) = U9) (hVR : Xr ++ V7 = VR) (hV7 : B ++ (X7 ++ V6) = V7) (hV6 : M ++ Z6 = V6) :
    ∃ R, News h₀ L h (M ++ R) ∧ Nd (M ++ R) ∧ (∀ q ∈ Z6, q ∈ R) ∧ ∀ q ∈ Y8, q ∈ R := by
  subst hV6
  subst hV7
  subst hVR
  subst hU9
  have pm : (a1 :: a2 :: (Mr ++ (Y8 ++ (Xr ++ (B ++ (X7 ++ (M ++ Z6))))))).Perm (M ++ (a1 :: a2 :: (Mr ++ (Y8 ++ (Xr ++ (B ++ (X7 ++ Z6))))))) :=
    permF [[a1], [a2], Mr, Y8, Xr, B, X7, M] Z6 (a := [0, 1, 2, 3, 4, 5, 6, 7]) (b := [7, 0, 1, 2, 3, 4, 5, 6]) (by decide)
  exact ⟨_, News.perm pm N, Nd.perm pm nd, fun q hq => .tail _ (.tail _ (List.mem_append_right _ (List.mem_append_right _ (List.mem_append_right _ (List.mem_append_right _ (List.mem_append_right _ hq)))))), fun q hq => .tail _ (.tail _ (List.mem_append_right _ (List.mem_append_left _ hq)))⟩
theorem rng_down {n : Nat} (h1 : 3 ≤ n) (h2 : n ≤ 10) : Builtin.Range.small ((n : Int) - 1) (-1) (-1) = true ∧ Builtin.Range.rangeSize ((n : Int) - 1) (-1) (-1) = (n : Int) :=
  (by decide : ∀ k : Fin 11, 3 ≤ k.1 → Builtin.Range.small ((k.1 : Int) - 1) (-1) (-1) = true ∧ Builtin.Range.rangeSize ((k.1 : Int) - 1) (-1) (-1) = (k.1 : Int)) ⟨n, Nat.lt_succ_of_le h2⟩ h1
/-- the table while the deeds are undone -/
def Bk (es : Tab) (j : Nat) (t : Tab) : Prop := Und t (run [] (es.take j)) ∧ (∀ e ∈ t, IsVal e.2) ∧ ∀ x ∈ keysT t, x ∈ MK6
theorem run_keysM {es : Tab} (h : ∀ e ∈ es, e.1 ∈ MK6 ∧ OptVal e.2) : ∀ x ∈ keysT (run [] es), x ∈ MK6 := fun x hx => by
  rw [keys_run] at hx
  exact sub_foldl_addK (m := MK6) _ _ (fun x h => by cases h) (fun x hx => by obtain ⟨e', he', rfl⟩ := List.mem_map.mp hx; exact (h e' he').1) _ hx
theorem Bk.init {es : Tab} (h : ∀ e ∈ es, e.1 ∈ MK6 ∧ OptVal e.2) : Bk es es.length (run [] es) := by
  refine ⟨?_, vals_run es (t := []) (fun e h => nomatch h) fun e he => (h e he).2, run_keysM h⟩
  rw [List.take_length]
  exact Und.refl (nodup_run _ .nil)
theorem Bk.len {es t : Tab} {j : Nat} (h : Bk es j t) : t.length ≤ 6 := by
  have := len_sub h.1.2.1 h.2.2
  have e : MK6.length = 6 := rfl
  rw [e] at this
  simpa [keysT] using this
theorem Bk.step {es t : Tab} {j : Nat} {e : KV × PyData} (h : Bk es (j + 1) t) (he : es[j]? = some e) (hke : ∀ e ∈ es, e.1 ∈ MK6 ∧ OptVal e.2) : Bk es j (tdo t e.1 (tget (run [] (es.take j)) e.1)) := by
  obtain ⟨u, v, k⟩ := h
  have hv : IsVal (tget (run [] (es.take j)) e.1) := tget_val (vals_run _ (t := []) (fun e h => nomatch h) fun e he => (hke e (List.mem_of_mem_take he)).2) _
  rw [run_snoc he] at u
  refine ⟨u.step hv.given, vals_tdo v _ (.inr hv), fun x hx => ?_⟩
  rw [keys_tdo] at hx
  rcases mem_addK.mp hx with hx | rfl
  · exact k x hx
  · exact (hke e (List.mem_of_getElem? he)).1
theorem ext3 {m : Str → Option Value} {a b c : Str} {x y z : Value} (ha : m a = some x) (hb : m b = some y) (hc : m c = some z) : Ext (fun q => if q = a then some x else if q = b then some y else if q = c then some z else none) m := Ext.of fun q v h => by
  by_cases h1 : q = a
  · subst h1; rw [if_pos rfl] at h; rw [ha]; exact h
  rw [if_neg h1] at h
  by_cases h2 : q = b
  · subst h2; rw [if_pos rfl] at h; rw [hb]; exact h
  rw [if_neg h2] at h
  by_cases h3 : q = c
  · subst h3; rw [if_pos rfl] at h; rw [hc]; exact h
  rw [if_neg h3] at h; cases h
theorem perm23 {α : Type} (I : α) (M Y X6 X5 R : List α) : (M ++ (Y ++ (X6 ++ (I :: (X5 ++ R))))).Perm ([I] ++ (M ++ ((Y ++ (X6 ++ X5)) ++ R))) := by
  simp only [List.append_assoc, List.cons_append, List.nil_append]
  exact permF [M, Y, X6, [I], X5] R (a := [0, 1, 2, 3, 4]) (b := [3, 0, 1, 2, 4]) (by decide)
/-- while this stands in the context the walk stops at an If -/
def HoldMark : Prop := True
theorem HoldMark.on : HoldMark := trivial
theorem if_once {M : Model} {A : Around} {E : Value → Shared → Prop} {s : Shared} {x : Sem Flow} {Q : Flow → Shared → Prop} (h1 : wpAny M A x (fun f s' => f = Flow.next ∧ ∃ tk, s' = { s with toks := tk }) E s) (h2 : ∀ tk, Q Flow.next { s with toks := tk }) : wpAny M A x Q E s :=
  wpAny_mono h1 (fun f s' h => by obtain ⟨rfl, tk, rfl⟩ := h; exact h2 tk) fun _ _ e => e
section
variable {prog : Program} {w : World} {A : Around} {E : Value → Shared → Prop} {env : Env} {h₀ : Heap} {target : Expr} {body : List Stmt} {Q : Flow → Shared → Prop}
theorem list_loopM {hp gs dr tk0 os} {ax : Addr} {vs : List Value} {n : Nat} {m₀ : Str → Option Value} {news : List (Addr × Obj)} (F : Fr h₀ env.locals hp m₀) (hh : A.handled = none) (N : News h₀ env.locals hp news) (hm : (ax, listOf vs.toArray n) ∈ news)
    (Inv : Nat → (Str → Option Value) → List (Addr × Obj) → Prop) (hk : ∀ i m n', Inv i m n' → (ax, listOf vs.toArray n) ∈ n') (h0 : Inv 0 m₀ news)
    (turn : ∀ i v m news h tk I oI, vs[i]? = some v → Inv i m news → Fr h₀ env.locals h m → News h₀ env.locals h ((I, oI) :: news) → (∀ p ∈ news, p.1 ≠ I) →
      wpAny (model prog w) A (assign target env v) (fun _ s₂ => wpAny (model prog w) A (execs body env) (UnrPostW h₀ env.locals (Shared.mk h gs dr tk os) [(I, oI)] (Inv (i + 1)) Q) E s₂) E (Shared.mk h gs dr tk os))
    (done : ∀ m news h tk, Inv vs.length m news → Fr h₀ env.locals h m → News h₀ env.locals h news → Q .next (Shared.mk h gs dr tk os)) :
    wpAny (model prog w) A (pyIter (.ref ax)) (fun it s₂ => TurnsAt prog w A h₀ env target body Q E it s₂) E (Shared.mk hp gs dr tk0 os) :=
  list_loop (s := Shared.mk hp gs dr tk0 os) F hh N hm Inv hk h0 turn done
theorem range_loopM {hp gs dr tk0 os} {x : Str} {px : Pos} {r : Addr} {a b c : Int} {t₀ u₀ v₀ : Tok} {n : Nat} {m₀ : Str → Option Value} {news : List (Addr × Obj)} (F : Fr h₀ env.locals hp m₀) (hh : A.handled = none) (hr : IsRange hp r a b c t₀ u₀ v₀)
    (hsmall : Builtin.Range.small a b c = true) (hn : Builtin.Range.rangeSize a b c = (n : Int)) (N : News h₀ env.locals hp news)
    (Inv : Nat → (Str → Option Value) → List (Addr × Obj) → Prop) (h0 : Inv 0 m₀ news)
    (turn : ∀ i t m news h tk I oI, i < n → Inv i m news → Fr h₀ env.locals h m → News h₀ env.locals h ((I, oI) :: news) → (∀ p ∈ news, p.1 ≠ I) →
      wpAny (model prog w) A (assign (.Name x px) env (.int (a + (i : Nat) * c) t)) (fun _ s₂ => wpAny (model prog w) A (execs body env) (UnrPostW h₀ env.locals (Shared.mk h gs dr tk os) [(I, oI)] (Inv (i + 1)) Q) E s₂) E (Shared.mk h gs dr tk os))
    (done : ∀ m news h tk, Inv n m news → Fr h₀ env.locals h m → News h₀ env.locals h news → Q .next (Shared.mk h gs dr tk os)) :
    wpAny (model prog w) A (pyIter (.ref r)) (fun it s₂ => TurnsAt prog w A h₀ env (.Name x px) body Q E it s₂) E (Shared.mk hp gs dr tk0 os) :=
  range_loop (s := Shared.mk hp gs dr tk0 os) F hh hr hsmall hn N Inv h0 turn done
end
end -- SOb
open PySem PySem.W PySem.Calls PyProof.Rows PyProof.V PyProof.Rows.LCg PyProof.Rows.LCt PySem.SeqAt
set_option Elab.async false
set_option maxRecDepth 100000
set_option maxHeartbeats 8000000
set_option pp.deepTerms false
set_option pp.deepTerms.threshold 10
set_option pp.maxSteps 60000
local macro_rules | `(tactic| walk_at "call ref") => `(tactic| (k_here; (with_reducible show wpAny _ _ (call (Value.ref 331) _) _ _ _); refine held ?_))
local macro_rules | `(tactic| walk_at "call ref") => `(tactic| (k_here; (with_reducible show wpAny _ _ (call (Value.ref 343) _) _ _ _); refine held ?_))
local macro_rules | `(tactic| walk_at "call ref") => `(tactic| (k_here; (with_reducible show wpAny _ _ (call (Value.ref 350) _) _ _ _); refine held ?_))
local macro_rules | `(tactic| walk_at "call type:range") => `(tactic| (k_here; refine held ?_))
local macro_rules | `(tactic| walk_at "exec For Name Call cons nil") => `(tactic| (k_here; refine held ?_))
local macro_rules | `(tactic| walk_at "exec For Tuple Name cons nil") => `(tactic| (k_here; refine held ?_))
-- PICK
local macro_rules | `(tactic| walk_at "subscriptTail") => `(tactic| (k_here; (with_reducible show wpAny _ _ (subscriptTail _ _ (Value.ref _) (Value.int _ _)) _ _ _); k_dflt ( refine' item_C ?N ?hm ?h0 ?h1 ?hx ?_; (case N => k_asm); (case hm => k_mem); (case h0 => assumption); (case h1 => omega); (case hx => assumption); k_whole)))
-- NEFLAT
local macro_rules | `(tactic| walk_at "compareOp NotEq") => `(tactic| (k_here; (with_reducible show wpAny _ _ (compareOp CmpOp.NotEq _ _) _ _ _); k_dflt ( refine' ne_flat ?hu ?ha ?hb ?vx ?vy ?hc ?_; (case ha | hb | vx | vy | hc => with_reducible assumption); (case hu => k_units); k_whole)))
-- MINUS1
local macro_rules | `(tactic| walk_at "subscriptTail") => `(tactic| (k_here; (with_reducible show wpAny _ _ (subscriptTail _ _ (Value.ref _) (Value.int (-1) _)) _ _ _); refine held ?_))
local macro_rules | `(tactic| walk_at "subscriptTail Name Subscript") => `(tactic| (k_here; (with_reducible show wpAny _ _ (subscriptTail _ _ (Value.ref _) _) _ _ _); k_dflt (refine' pd_item ?N ?hp ?hd ?hk ?hl ?_; (case N => k_asm); (case hp => k_mem); (case hd => with_reducible assumption); (case hk => k_asm); (case hl => with_reducible assumption); k_whole; intro r' tk' fl')))
local macro_rules | `(tactic| walk_at "subscriptTail Name Constant ref int") => `(tactic| (k_here; (with_reducible show wpAny _ _ (subscriptTail _ _ (Value.ref _) (Value.int 0 _)) _ _ _); k_dflt (refine' tup_0 ?N ?hm ?_; (case N => k_asm); (case hm => k_mem); k_whole)))
local macro_rules | `(tactic| walk_at "subscriptTail Name Constant ref int") => `(tactic| (k_here; (with_reducible show wpAny _ _ (subscriptTail _ _ (Value.ref _) (Value.int 1 _)) _ _ _); k_dflt (refine' tup_1 ?N ?hm ?_; (case N => k_asm); (case hm => k_mem); k_whole)))
local macro_rules | `(tactic| walk_at "compareOp NotIn ref ref") => `(tactic| ((with_reducible show wpAny _ _ (compareOp CmpOp.NotIn (Value.ref _) (Value.ref _)) _ _ _); refine held ?_))
local macro_rules | `(tactic| walk_at "subscriptTail Name Name ref int") => `(tactic| (k_here; (with_reducible show wpAny _ _ (subscriptTail _ _ (Value.ref _) (Value.int _ _)) _ _ _); k_dflt ( refine' item_C ?N ?hm ?h0 ?h1 ?hx ?_; (case N => k_asm); (case hm => k_mem); (case h0 => with_reducible assumption); (case h1 => omega); (case hx => with_reducible assumption); k_whole)))
local macro_rules | `(tactic| walk_at "exec If BoolOp cons nil") => `(tactic| (k_here; (with_reducible show wpAny _ _ (exec (Stmt.If (PySem.Expr.BoolOp BoolOp.And _ _) _ _ _) _) _ _ _); (have hStop : HoldMark := by with_reducible assumption); clear hStop; refine held ?_))
theorem cw : PySem.Challenge.rw_sj0190_01.Holds := Mine.hd (by
  k_go0
  all_goals try k_fold
  k_steps
  show wpAny _ _ _ _ _ _
  (rename Fr _ _ _ _ => FF0)
  refine For_turns FF0 ?_
  k_steps
  show wpAny _ _ _ _ _ _
  rename_i lk _ llk _ _ lv _ llv _ _ D1 ws _ hws hC hL lD1 D cD _ lD box _ lbox _ _ ld _ lld _ NN
  have hwl : ws.length ≤ 100 := by rw [ints_len hws, List.length_take]; omega
  have nd0 := nd8 NN lld lbox lD lD1 llv llk
  replace NN := News.perm (perm4 _ _ _ _) NN
  replace nd0 := Nd.perm (perm4 _ _ _ _) nd0
  obtain ⟨R1, hR1⟩ := cut3 NN
  rw [hR1] at NN nd0
  obtain ⟨kvs, hlk, pkK⟩ := pickK (R := R1) (l := lk) (by rw [← hR1]; exact .tail _ (.tail _ (.head _)))
  obtain ⟨vvs, hlv, pkV⟩ := pickV (R := R1) (l := lv) (by rw [← hR1]; exact .tail _ (.head _))
  (rename (Mine.hd.heap_39 _).In _ => KX)
  (rename Top _ _ _ _ _ _ => TT)
  (rename World => wd)
  have C1 := fun w t tw => take_spec w box D 0 cD 0 t ws _ hws hwl 8 tw (by omega) (by omega) (by omega) (by omega) ((ld, listOf #[] 0) :: R1)
  simp only [BoxAt, List.cons_append, List.nil_append] at C1
  refine' Calls.law (C1 _ _ _) ?F ?X ?N ?T ?hk ?hd ?hu ?n ?_
  case N => exact NN
  case F => assumption
  case X => exact KX
  case T => exact TT
  case hk => rfl
  case hd => omega
  case hu => omega
  case n => exact nd0
  intro r news' h' tk' F1 N1 nd1 hp1
  obtain ⟨r0, t0, rfl, hr0, hr8, k1, k2, t1, ws1, ns1, X1, hws1, hwl1, rfl⟩ := hp1
  obtain ⟨U1, hU1⟩ : ∃ U1, BoxAt box D k1 k2 (0 + 1) t1 ws1 ++ (X1 ++ ((ld, listOf #[] 0) :: R1)) = U1 := ⟨_, rfl⟩
  rw [hU1] at N1 nd1
  clear C1
  k_steps
  show wpAny _ _ _ _ _ _
  (rename Fr _ _ _ _ => F2)
  refine range1_rows F2 N1 ?_
  intro h2 tk2 ta tb tc hr2 F3 N3 _
  have hrg := rng_take hr0 hr8
  rw [← hU1] at N3 nd1
  have pm1 := fun b d l => perm12 (b : Addr × Obj) d X1 l R1
  refine range_loopM F3 rfl hr2 hrg.1 hrg.2 (News.perm (pm1 _ _ _) N3) (fun i m' nw => Ext (fun q => if q = Str.ofString "box" then some (.ref box) else if q = Str.ofString "deeds" then some (.ref ld) else if q = Str.ofString "_law_keys" then some (.ref lk) else if q = Str.ofString "_law_values" then some (.ref lv) else none) m' ∧
    ∃ (k k2 : Nat) (t : Tok) (vs : List Value) (ns : List Int) (dvs : List Value) (es : Tab) (X : List (Addr × Obj)), IntsAre vs ns ∧ vs.length ≤ 100 ∧
      nw = (box, listOf #[.ref D, .int (1 + 2 * (i : Int)) t] k) :: (D, listOf vs.toArray k2) :: (ld, lst dvs) :: (X ++ R1) ∧ Nd nw ∧ Prs X dvs es ∧ es.length = i ∧ ∀ e ∈ es, e.1 ∈ MK6 ∧ OptVal e.2)
    ⟨ext4 (by (try dsimp only); repeat (first | refine (if_neg (by decide +kernel)).trans ?_ | refine or_some ?_ | exact if_pos rfl | exact rfl)) (by (try dsimp only); repeat (first | refine (if_neg (by decide +kernel)).trans ?_ | refine or_some ?_ | exact if_pos rfl | exact rfl)) (by (try dsimp only); repeat (first | refine (if_neg (by decide +kernel)).trans ?_ | refine or_some ?_ | exact if_pos rfl | exact rfl)) (by (try dsimp only); repeat (first | refine (if_neg (by decide +kernel)).trans ?_ | refine or_some ?_ | exact if_pos rfl | exact rfl)), k1, k2, t1, ws1, ns1, [], [], X1, hws1, hwl1, rfl, Nd.perm (pm1 _ _ _) nd1, .nil, rfl, fun e he => nomatch he⟩ ?_ ?_
  · rintro i ti m₁ nw h tk I oI hi ⟨⟨vl, rfl⟩, k, k2, t, vs, ns, dvs, es, X, hvs, hvl, rfl, nd, prs, hes, hke⟩ F1 N1 off
    have hi10 : i ≤ 10 := by omega
    have ndI := Nd.new (p := (I, oI)) off nd
    k_steps
    show wpAny _ _ _ _ _ _
    (rename News _ _ _ ((I, oI) :: _) => N4)
    replace N4 := News.perm (perm4 _ _ _ _) N4
    replace ndI := Nd.perm (perm4 _ _ _ _) ndI
    have C1 := fun w tw => take_spec w box D k k2 (1 + 2 * (i : Int)) t vs _ hvs hvl 6 tw (by omega) (by omega) (by omega) (by omega) ((I, oI) :: (ld, lst dvs) :: (X ++ R1))
    simp only [BoxAt, List.cons_append, List.nil_append] at C1
    refine' Calls.law (C1 _ _) ?F ?X ?N ?T ?hk ?hd ?hu ?n ?_
    case N => exact N4
    case F => assumption
    case X => exact KX
    case T => exact TT
    case hk => rfl
    case hd => omega
    case hu => omega
    case n => exact ndI
    intro r news' h' tk' F1 N1 nd1 hp1
    obtain ⟨ra, ta, rfl, hra0, hra6, k1, k2, t1, ws1, ns1, X1, hws1, hwl1, rfl⟩ := hp1
    obtain ⟨x, kk, hx, hkx, hkm⟩ := pkK ra hra0 hra6
    simp only [BoxAt, List.cons_append, List.nil_append] at N1 nd1
    have hlk1 : (lk, listOf kvs.toArray 0) ∈ X1 ++ ((I, oI) :: (ld, lst dvs) :: (X ++ R1)) := List.mem_append_right _ (.tail _ (.tail _ (List.mem_append_right _ hlk)))
    obtain ⟨V1, hV1⟩ : ∃ V1, X1 ++ ((I, oI) :: (ld, lst dvs) :: (X ++ R1)) = V1 := ⟨_, rfl⟩
    rw [hV1] at N1 nd1 hlk1
    replace hlk1 := List.mem_cons_of_mem (box, listOf #[.ref D, .int (1 + 2 * (i : Int) + 1) t1] k1) (List.mem_cons_of_mem (D, listOf ws1.toArray k2) hlk1)
    obtain ⟨U1, hU1⟩ : ∃ U1, (box, listOf #[.ref D, .int (1 + 2 * (i : Int) + 1) t1] k1) :: (D, listOf ws1.toArray k2) :: V1 = U1 := ⟨_, rfl⟩
    rw [hU1] at N1 nd1 hlk1
    clear C1
    k_steps
    show wpAny _ _ _ _ _ _
    (rename News _ _ _ U1 => N5)
    have C2 := fun w tw => take_spec w box D k1 k2 (1 + 2 * (i : Int) + 1) t1 ws1 _ hws1 hwl1 6 tw (by omega) (by omega) (by omega) (by omega) V1
    simp only [BoxAt, List.cons_append, List.nil_append] at C2
    rw [hU1] at C2
    refine' Calls.law (C2 _ _) ?F ?X ?N ?T ?hk ?hd ?hu ?n ?_
    case N => exact N5
    case F => assumption
    case X => exact KX
    case T => exact TT
    case hk => rfl
    case hd => omega
    case hu => omega
    case n => exact nd1
    intro r news' h' tk' F6 N6 nd6 hp6
    obtain ⟨rb, tb, rfl, hrb0, hrb6, k3, k4, t2, ws2, ns2, X2, hws2, hwl2, rfl⟩ := hp6
    obtain ⟨y, dd, hy, hfy, hdd⟩ := pkV rb hrb0 hrb6
    simp only [BoxAt, List.cons_append, List.nil_append] at N6 nd6
    rw [← hV1] at N6 nd6
    have pm2 := fun b d => perm11 (b : Addr × Obj) d (ld, lst dvs) (I, oI) X2 X1 (X ++ R1)
    replace N6 := News.perm (pm2 _ _) N6
    replace nd6 := Nd.perm (pm2 _ _) nd6
    have hlv1 : (lv, listOf vvs.toArray 0) ∈ X2 ++ (X1 ++ (X ++ R1)) := List.mem_append_right _ (List.mem_append_right _ (List.mem_append_right _ hlv))
    replace hlv1 := List.mem_cons_of_mem (box, listOf #[.ref D, .int (1 + 2 * (i : Int) + 1 + 1) t2] k3) (List.mem_cons_of_mem (D, listOf ws2.toArray k4) hlv1)
    obtain ⟨V2, hV2⟩ : ∃ V2, (box, listOf #[.ref D, .int (1 + 2 * (i : Int) + 1 + 1) t2] k3) :: (D, listOf ws2.toArray k4) :: (X2 ++ (X1 ++ (X ++ R1))) = V2 := ⟨_, rfl⟩
    rw [hV2] at N6 nd6 hlv1
    have e1 : I ≠ ld := nd6.head _ (.head _)
    have e2 : ld ≠ I := e1.symm
    have e3 : ∀ q ∈ V2, q.1 ≠ ld := fun q hq => nd6.head q (.tail _ hq)
    have hds : dvs.toArray.size ≤ 1000 := by rw [List.size_toArray, prs.length]; omega
    have s0 : dvs.toArray.size ≤ sizeLine := by rw [sizeLine_eq]; omega
    clear C2
    k_steps
    show UnrEndW _ _ _ _ _ _
    (rename News _ _ _ (_ :: _ :: (I, oI) :: V2) => NN)
    (rename ld < _ ∧ I < _ ∧ AllLt _ V2 => lT)
    exact l1_end hV2 NN nd6 lT (by assumption) (Ext.set ⟨vl, rfl⟩ (by (try dsimp only); repeat (first | refine (if_neg (by decide +kernel)).trans ?_ | refine or_some ?_ | exact if_pos rfl | exact rfl))) hws2 hwl2 prs hkx hfy hes hke hkm hdd
  · rintro m₁ nw h tk ⟨⟨vl, rfl⟩, k, k2, t, vs, ns, dvs, es, X, hvs, hvl, rfl, nd, prs, hes, hke⟩ F1 N1
    have hn3 : 3 ≤ es.length := by omega
    have hn10 : es.length ≤ 10 := by omega
    have hbn : (1 + 2 * (((3 + r0).toNat : Nat) : Int)) = 1 + 2 * (es.length : Nat) := by rw [hes]
    rw [hbn] at N1 nd
    clear hbn
    rw [← hR1] at N1 nd
    have pm3 := fun b d l p q r c e => perm13 (b : Addr × Obj) d l X p q r c e
    replace N1 := News.perm (pm3 _ _ _ _ _ _ _ _) N1
    replace nd := Nd.perm (pm3 _ _ _ _ _ _ _ _) nd
    obtain ⟨W, hW⟩ := cut2 N1
    have hld : (ld, lst dvs) ∈ W := hW ▸ .tail _ (.tail _ (.head _))
    have prW : Prs W dvs es := prs.mono fun q hq => hW ▸ .tail _ (.tail _ (.tail _ (List.mem_append_left _ hq)))
    rw [hW] at N1 nd
    k_steps
    show wpAny _ _ _ _ _ _
    have C1 := fun w tw p q => table_spec w 1 tw (p :: q :: W)
    refine' Calls.law (C1 _ _ _ _) ?F ?X ?N ?T ?hk ?hd ?hu ?n ?_
    case N => exact N1
    case F => assumption
    case X => exact KX
    case T => exact TT
    case hk => rfl
    case hd => omega
    case hu => omega
    case n => exact nd
    intro r news' h' tk' F2 N2 nd2 hp2
    obtain ⟨T0, ok0, hr0', rfl, rfl⟩ := hp2
    have pm4 := fun c e I => perm14 (c : Addr × Obj) e T0.mut I W
    replace N2 := News.perm (pm4 _ _ _) N2
    replace nd2 := Nd.perm (pm4 _ _ _) nd2
    obtain ⟨V, hV⟩ := cut2 N2
    rw [hV] at N2 nd2
    have e1 := fun q hq => nd2.head q (.tail _ hq)
    have e2 := fun q hq => nd2.tail.head q hq
    dsimp only at e1 e2
    clear C1
    k_steps
    show wpAny _ _ _ _ _ _
    rename_i pdd _ opd lo _ _ isd _ lpd pa _ lpa un _ lun Dt _ lDt _ _ _ ocp dcp _ _ F5 N5
    have pd0 : PD wd opd [] := PD.nil isd
    have nd5 := nd6_of N5 lDt lun lpa lpd nd2
    rw [← hV] at N5 nd5
    have pm5 := fun t c e I => perm15 (t : Addr × Obj) (un, listOf #[] 0) (pa, listOf #[] 0) (pdd, opd) c e T0.mut I W
    replace N5 := News.perm (pm5 _ _ _ _) N5
    replace nd5 := Nd.perm (pm5 _ _ _ _) nd5
    obtain ⟨C, hC, hldC, prC, hcpC⟩ := tail_C N5 hld prW
    rw [hC] at N5 nd5
    refine For_turns F5 ?_
    k_steps
    show wpAny _ _ _ _ _ _
    refine' list_loopM (vs := dvs) (n := dvs.length) F5 rfl N5 (.tail _ (.tail _ (.tail _ (List.mem_append_right _ (List.mem_append_right _ hldC))))) (fun i m' nw => Ext (fun q => if q = Str.ofString "box" then some (.ref box) else if q = Str.ofString "deeds" then some (.ref ld) else if q = Str.ofString "table" then some (.ref T0.t) else if q = Str.ofString "past" then some (.ref pa) else if q = Str.ofString "undo" then some (.ref un) else none) m' ∧
      Inv2 wd T0.t pdd pa un es C i nw)
      (fun i m' nw h => ?_) ⟨?ex, T0, opd, [], [], [], T0.imm wd, ok0, rfl, rfl, nd5, fun q hq => hq, by simp [TB.tab, hr0', run], pd0, fun k => by simp [TB.tab, hr0'], (fun e h => nomatch h), Nat.zero_le _, Pas.zero, Uns.zero⟩ ?_ ?_
    case ex => exact ext5 (by (try dsimp only); repeat (first | refine (if_neg (by decide +kernel)).trans ?_ | refine or_some ?_ | exact if_pos rfl | exact rfl)) (by (try dsimp only); repeat (first | refine (if_neg (by decide +kernel)).trans ?_ | refine or_some ?_ | exact if_pos rfl | exact rfl)) (by (try dsimp only); repeat (first | refine (if_neg (by decide +kernel)).trans ?_ | refine or_some ?_ | exact if_pos rfl | exact rfl)) (by (try dsimp only); repeat (first | refine (if_neg (by decide +kernel)).trans ?_ | refine or_some ?_ | exact if_pos rfl | exact rfl)) (by (try dsimp only); repeat (first | refine (if_neg (by decide +kernel)).trans ?_ | refine or_some ?_ | exact if_pos rfl | exact rfl))
    · obtain ⟨_, T, o, P, pas, uns, X, _, _, rfl, _⟩ := h
      exact .tail _ (.tail _ (.tail _ (List.mem_append_right _ (List.mem_append_right _ hldC))))
    · rintro i v m₁ nw h tk I oI hv ⟨⟨vl, rfl⟩, T, o, P, pas, uns, X, okT, tT, rfl, nd, im, tab, pd, agr, pvl, plen, hpas, huns⟩ F1 N1 off
      have imX := im
      replace im : ∀ q ∈ T.imm wd, q ∈ X ++ C := fun q hq => List.mem_append_left _ (imX q hq)
      obtain ⟨da, kv, vv, nt, kk, d, rfl, hda, hkv', hvv, he⟩ := prC.get hv
      have hi10 : i < 10 := by have := (List.getElem?_eq_some_iff.mp he).1; omega
      have hke1 := hke _ (List.mem_of_getElem? he)
      have lenT : T.tab.length ≤ 6 := by rw [tab]; exact Nat.le_trans (run_len (m := MK6) .nil (fun x h => nomatch h) fun e he => (hke e (List.mem_of_mem_take he)).1) (Nat.le_refl _)
      have hlT : T.rows.length ≤ 900 := by rw [← tab_len]; omega
      have valT : ∀ e ∈ T.tab, IsVal e.2 := by rw [tab]; exact vals_run _ (fun e h => nomatch h) fun e he => (hke e (List.mem_of_mem_take he)).2
      have ndI := Nd.new (p := (I, oI)) off nd
      have hdaV : (da, tup2 kv vv nt) ∈ T.mut ++ (X ++ C) := List.mem_append_right _ (List.mem_append_right _ hda)
      have spec := ents_S wd T okT [(I, oI), (pdd, o), (pa, lst pas), (un, lst uns)] (X ++ C) im hlT valT
      rw [tT] at spec
      simp only [List.cons_append, List.nil_append] at spec
      obtain ⟨V0, hV0⟩ : ∃ V0, T.mut ++ (X ++ C) = V0 := ⟨_, rfl⟩
      rw [hV0] at N1 ndI hdaV spec
      k_steps
      show wpAny _ _ _ _ _ _
      (rename News _ _ _ ((I, oI) :: _) => N4)
      refine' Calls.law (spec) ?F ?X ?N ?T ?hk ?hd ?hu ?n ?_
      case N => exact N4
      case F => assumption
      case X => exact KX
      case T => exact TT
      case hk => rfl
      case hd => omega
      case hu => omega
      case n => exact ndI
      intro r news' h' tk' F2 N2 nd2 hp2
      obtain ⟨Y, l, vs2, nl, rfl, rfl, hl, hprs⟩ := hp2
      have pm := perm16 (I, oI) (pdd, o) (pa, lst pas) (un, lst uns) T.mut Y (X ++ C)
      simp only [List.cons_append, List.nil_append] at pm
      replace N2 := News.perm pm N2
      replace nd2 := Nd.perm pm nd2
      clear pm spec
      obtain ⟨V1, hV1⟩ : ∃ V1, T.mut ++ (Y ++ (X ++ C)) = V1 := ⟨_, rfl⟩
      rw [hV1] at N2 nd2
      have a1 : I ≠ pa := nd2.head _ (.head _)
      have a2 : pdd ≠ pa := nd2.head _ (.tail _ (.head _))
      have a3 : un ≠ pa := nd2.head _ (.tail _ (.tail _ (.head _)))
      have a4 : ∀ q ∈ V1, q.1 ≠ pa := fun q hq => nd2.head q (.tail _ (.tail _ (.tail _ hq)))
      have a5 := a1.symm
      have a6 := a2.symm
      have a7 := a3.symm
      have hps : pas.toArray.size ≤ 1000 := by rw [List.size_toArray, hpas.1]; omega
      have s0 : pas.toArray.size ≤ sizeLine := by rw [sizeLine_eq]; omega
      have hcp1 : (_, ocp) ∈ V1 := hV1 ▸ List.mem_append_right _ (List.mem_append_right _ (List.mem_append_right _ hcpC))
      k_steps
      show wpAny _ _ _ _ _ _
      rename_i hb FB NB hT FT NT _ _ _
      have ltp := fun q hq => Heap.lt_size (NB q hq).1
      obtain ⟨tp, htp⟩ : ∃ tp, hb.objs.size = tp := ⟨_, rfl⟩
      dsimp only at NT ⊢
      rw [htp] at NT ltp ⊢
      have e0 : listOf (pas.toArray.push (.ref l)) (pas.length + 1) = lst (pas ++ [.ref l]) := lst_snoc _ _
      rw [e0] at NT ltp
      have nd3 : Nd ((tp, tup2 kv vv 0) :: (pa, lst (pas ++ [.ref l])) :: (I, oI) :: (pdd, o) :: (un, lst uns) :: V1) := Nd.consA ltp (nd2.addr rfl)
      have im1 : ∀ q ∈ T.imm wd, q ∈ Y ++ (X ++ C) := fun q hq => List.mem_append_right _ (im q hq)
      have spec2 := do_S wd kk kv hkv' vv d hvv T okT [(tp, tup2 kv vv 0), (pa, lst (pas ++ [.ref l])), (I, oI), (pdd, o), (un, lst uns)] (Y ++ (X ++ C)) im1 hlT tp 0 (.head _)
      rw [tT] at spec2
      simp only [List.cons_append, List.nil_append] at spec2
      rw [hV1] at spec2
      refine' Calls.law (spec2) ?F ?X ?N ?T ?hk ?hd ?hu ?n ?_
      case N => exact NT
      case F => assumption
      case X => exact KX
      case T => exact TT
      case hk => rfl
      case hd => omega
      case hu => omega
      case n => exact nd3
      intro r news' h' tk' F5 N5 nd5 hp5
      obtain ⟨T2, X2, ok2, t2, rfl, im2, hfr, tb2⟩ := hp5
      have pm2 := perm17 (tp, tup2 kv vv 0) (pa, lst (pas ++ [.ref l])) (I, oI) (pdd, o) (un, lst uns) T2.mut X2 (Y ++ (X ++ C))
      simp only [List.cons_append, List.nil_append] at pm2
      replace N5 := News.perm pm2 N5
      replace nd5 := Nd.perm pm2 nd5
      clear pm2 spec2 a1 a2 a3 a4 a5 a6 a7 e0
      obtain ⟨V2, hV2⟩ : ∃ V2, T2.mut ++ (X2 ++ ((tp, tup2 kv vv 0) :: (Y ++ (X ++ C)))) = V2 := ⟨_, rfl⟩
      rw [hV2] at N5 nd5
      have b1 : pa ≠ un := nd5.head _ (.head _)
      have b2 : I ≠ un := nd5.head _ (.tail _ (.head _))
      have b3 : pdd ≠ un := nd5.head _ (.tail _ (.tail _ (.head _)))
      have b4 : ∀ q ∈ V2, q.1 ≠ un := fun q hq => nd5.head q (.tail _ (.tail _ (.tail _ hq)))
      have b5 := b1.symm
      have b6 := b2.symm
      have b7 := b3.symm
      have c1 : pdd ≠ pa := nd5.tail.head _ (.tail _ (.head _))
      have c2 : pdd ≠ I := nd5.tail.tail.head _ (.head _)
      have c3 : ∀ q ∈ V2, q.1 ≠ pdd := nd5.tail.tail.tail.head
      have c4 := c1.symm
      have c5 := c2.symm
      have hus : uns.toArray.size ≤ 1000 := by rw [List.size_toArray, huns.1]; omega
      have s1 : uns.toArray.size ≤ sizeLine := by rw [sizeLine_eq]; omega
      have vg : IsVal (tget T.tab kk) := tget_val valT kk
      have vg2 : IsVal ((P.lookup kk).getD (.str (Str.ofString ""))) := tget_val pvl kk
      have hc : PyData.eqv (tget T.tab kk) ((P.lookup kk).getD (.str (Str.ofString ""))) = true := by
        have h := agr kk
        rw [show (P.lookup kk).getD (.str (Str.ofString "")) = tget P kk from rfl, ← h]
        exact eqv_refl _ vg.can
      have hcp2 : (_, ocp) ∈ V2 := hV2 ▸ List.mem_append_right _ (List.mem_append_right _ (.tail _ (List.mem_append_right _ (List.mem_append_right _ hcpC))))
      have pl1 : P.length ≤ 1000 := by omega
      have hOV := hke1.2
      have ltu := fun q hq => Heap.lt_size (N5 q hq).1
      k_steps
      (rename News _ _ _ _ => NT2)
      obtain ⟨tu, htu⟩ : ∃ tu, h'.objs.size = tu := ⟨_, rfl⟩
      dsimp only at NT2 ⊢
      rw [htu] at NT2 ltu ⊢
      have nd6 : Nd ((tu, tup2 kv r 0) :: (un, lst uns) :: (pa, lst (pas ++ [.ref l])) :: (I, oI) :: (pdd, o) :: V2) := Nd.consA ltu nd5
      have g1 : un ≠ tu := nd6.head _ (.head _)
      have g2 := g1.symm
      have g3 : pdd ≠ tu := nd6.head _ (.tail _ (.tail _ (.tail _ (.head _))))
      have g4 := g3.symm
      k_steps
      (rename News _ _ _ (_ :: (un, _) :: _) => NT3)
      refine item_m1 NT3 (.tail _ (.head _)) ?_
      k_steps
      all_goals show UnrEndW _ _ _ _ _ _
      all_goals (rename News _ _ _ (_ :: (un, _) :: _) => NN)
      all_goals rw [snoc_lst] at NN
      · (rename vv = Value.none => hz)
        have gv := given_none hvv hz
        have ag := agr.step kk d
        rw [if_neg (by rw [gv]; exact Bool.false_ne_true), ← tb2] at ag
        exact l2_end hV2 NN (nd6.addr rfl) (by assumption) (Ext.set (Ext.set ⟨vl, rfl⟩ (by (try dsimp only); repeat (first | refine (if_neg (by decide +kernel)).trans ?_ | refine or_some ?_ | exact if_pos rfl | exact rfl))) (by (try dsimp only); repeat (first | refine (if_neg (by decide +kernel)).trans ?_ | refine or_some ?_ | exact if_pos rfl | exact rfl))) ok2 (t2.trans tT) im2 imX tab tb2 pd ag pvl (Nat.le_succ_of_le plen) hpas huns he hl hprs hkv' hfr
      · (rename vv ≠ Value.none => hz)
        (rename PD wd _ (pput P _ _) => pd2)
        have gv := given_some hvv hz
        have ag := agr.step kk d
        rw [if_pos gv, ← tb2] at ag
        exact l2_end hV2 NN (nd6.addr rfl) (by assumption) (Ext.set (Ext.set ⟨vl, rfl⟩ (by (try dsimp only); repeat (first | refine (if_neg (by decide +kernel)).trans ?_ | refine or_some ?_ | exact if_pos rfl | exact rfl))) (by (try dsimp only); repeat (first | refine (if_neg (by decide +kernel)).trans ?_ | refine or_some ?_ | exact if_pos rfl | exact rfl))) ok2 (t2.trans tT) im2 imX tab tb2 pd2 ag (pput_vals pvl (hOV.some gv)) (Nat.le_trans pput_len (Nat.succ_le_succ plen)) hpas huns he hl hprs hkv' hfr
    · rintro m₁ nw h tk ⟨⟨vl, rfl⟩, T, o, P, pas, uns, X, okT, tT, rfl, nd, im, tab, pd, agr, pvl, plen, hpas, huns⟩ F1 N1
      have hdl := prW.length
      rw [hdl] at tab plen hpas huns
      rw [List.take_length] at tab
      obtain ⟨Z, N2, nd2, z1, z2, z3, z4, z5, zX, zX1⟩ := stageA N1 nd hC hW
      have imZ : ∀ q ∈ T.imm wd, q ∈ Z := fun q hq => zX q (im q hq)
      have prZ : Prs Z dvs es := prs.mono zX1
      have pasZ := hpas.mono zX
      have unsZ := huns.mono zX
      clear N1 nd im hpas huns zX zX1 hC hW prs prC prW hldC hcpC nd5 N5
      have lenT : T.tab.length ≤ 6 := by rw [tab]; exact Nat.le_trans (run_len (m := MK6) .nil (fun x h => nomatch h) fun e he => (hke e he).1) (Nat.le_refl _)
      have hlT : T.rows.length ≤ 900 := by rw [← tab_len]; omega
      have valT : ∀ e ∈ T.tab, IsVal e.2 := by rw [tab]; exact vals_run _ (fun e h => nomatch h) fun e he => (hke e he).2
      have ndT := okT.ndt
      have spec := fun c b d => ents_S wd T okT [c, b, d] Z imZ hlT valT
      rw [tT] at spec
      simp only [List.cons_append, List.nil_append] at spec
      have e1 := nd2.head
      dsimp only at e1
      k_steps
      show wpAny _ _ _ _ _ _
      refine' Calls.law (spec _ _ _) ?F ?X ?N ?T ?hk ?hd ?hu ?n ?_
      case N => exact N2
      case F => assumption
      case X => exact KX
      case T => exact TT
      case hk => rfl
      case hd => omega
      case hu => omega
      case n => exact nd2
      intro r news' h' tk' F1 N1 nd1 hp1
      obtain ⟨Y, l, vs2, nl, rfl, rfl, hl, hprs⟩ := hp1
      have pm := fun c b d => perm19 (c : Addr × Obj) b d T.mut Y Z
      simp only [List.cons_append, List.nil_append] at pm
      replace N1 := News.perm (pm _ _ _) N1
      replace nd1 := Nd.perm (pm _ _ _) nd1
      clear pm spec e1
      obtain ⟨V0, hV0⟩ := cut0 N1
      rw [hV0] at N1 nd1
      k_steps
      show wpAny _ _ _ _ _ _
      refine' Calls.law (table_spec wd 2 _ V0) ?F ?X ?N ?T ?hk ?hd ?hu ?n ?_
      case N => exact N1
      case F => assumption
      case X => exact KX
      case T => exact TT
      case hk => rfl
      case hd => omega
      case hu => omega
      case n => exact nd1
      intro r news' h' tk' F2 N2 nd2 hp2
      obtain ⟨Tb, okb, hrb, rfl, rfl⟩ := hp2
      rw [← hV0] at N2 nd2
      have pm := fun c b d => perm20 (c : Addr × Obj) b d T.mut Tb.mut (Tb.imm wd) (Y ++ Z)
      replace N2 := News.perm (pm _ _ _) N2
      replace nd2 := Nd.perm (pm _ _ _) nd2
      clear pm
      obtain ⟨V1, hV1⟩ := cut1 N2
      rw [hV1] at N2 nd2
      have e1 := nd2.head
      dsimp only at e1
      have ltp := fun q hq => Heap.lt_size (N2 q hq).1
      k_steps
      (rename News _ _ _ (_ :: _ :: V1) => N3)
      obtain ⟨tp, htp⟩ : ∃ tp, h'.objs.size = tp := ⟨_, rfl⟩
      dsimp only at N3 ⊢
      rw [htp] at N3 ltp
      have nd3 : Nd ((tp, tup2 (.ref l) (.ref Tb.t) 0) :: (_, _) :: V1) := Nd.consA ltp nd2
      have g1 := nd3.head _ (.head _)
      dsimp only at g1
      have g2 := g1.symm
      k_steps
      rename_i _ oc dc _ F3 N4
      have nd4 := nd3.addr (l' := (tp, tup2 (.ref l) (.ref Tb.t) 0) :: (_, oc) :: V1) rfl
      obtain ⟨V2, hV2⟩ := cut0 N4
      rw [hV2] at N4 nd4
      have sV1 : ∀ q ∈ V1, q ∈ V2 := fun q hq => hV2 ▸ .tail _ (.tail _ hq)
      have sZ2 : ∀ q ∈ Z, q ∈ V2 := fun q hq => sV1 q (hV1 ▸ .tail _ (.tail _ (List.mem_append_right _ (List.mem_append_right _ (List.mem_append_right _ (List.mem_append_right _ hq))))))
      have hld2 := sZ2 _ z5
      refine For_turns F3 ?_
      k_steps
      show wpAny _ _ _ _ _ _
      refine' Calls.law (brief_spec wd ld dvs _ es V2 hld2 (prZ.mono sZ2) (fun e he => MK6_val _ (hke e he).1) (fun e he => (hke e he).2) (by omega)) ?F ?X ?N ?T ?hk ?hd ?hu ?n ?_
      case N => exact N4
      case F => assumption
      case X => exact KX
      case T => exact TT
      case hk => rfl
      case hd => omega
      case hu => omega
      case n => exact nd4
      intro r news' h' tk' F5 N5 nd5 hp5
      obtain ⟨X4, l4, vs4, n4, rfl, rfl, hl4, hprs4⟩ := hp5
      rw [← hV2, ← hV1] at N5 nd5
      have pm := fun t c b d => perm21 (t : Addr × Obj) c b d X4 T.mut Tb.mut (Tb.imm wd) (Y ++ Z)
      replace N5 := News.perm (pm _ _ _ _) N5
      replace nd5 := Nd.perm (pm _ _ _ _) nd5
      clear pm
      obtain ⟨R3, hR3⟩ := cutR N5
      rw [hR3] at N5 nd5
      have hl4R : (l4, listOf vs4.toArray n4) ∈ R3 := hR3 ▸ List.mem_append_left _ hl4
      have pr4 : Prs R3 vs4 (briefL es) := hprs4.mono fun q hq => hR3 ▸ List.mem_append_left _ hq
      have hkb := brief_mem hke
      have lenB : ∀ i, (run [] ((briefL es).take i)).length ≤ 6 := fun i => Nat.le_trans (run_len (m := MK6) .nil (fun x h => nomatch h) fun e he => (hkb e (List.mem_of_mem_take he)).1) (Nat.le_refl _)
      have valB : ∀ i, ∀ e ∈ run [] ((briefL es).take i), IsVal e.2 := fun i => vals_run _ (fun e h => nomatch h) fun e he => (hkb e (List.mem_of_mem_take he)).2
      clear ltp nd3 g1 g2 e1 nd4 nd2 N4 N2
      k_steps
      show wpAny _ _ _ _ _ _
      refine' list_loopM (vs := vs4) (n := n4) (by assumption) rfl N5 (List.mem_append_right _ (List.mem_append_right _ hl4R)) (fun i m' nw => Ext (fun q => if q = Str.ofString "box" then some (.ref box) else if q = Str.ofString "deeds" then some (.ref ld) else if q = Str.ofString "table" then some (.ref T0.t) else if q = Str.ofString "past" then some (.ref pa) else if q = Str.ofString "undo" then some (.ref un) else if q = Str.ofString "brief" then some (.ref Tb.t) else none) m' ∧
        InvT wd Tb.t (fun t => t = run [] ((briefL es).take i)) R3 nw)
        (fun i m' nw h => ?_) ⟨?ex, Tb, Tb.imm wd, okb, rfl, rfl, nd5, fun q hq => List.mem_append_left _ hq, by simp [TB.tab, hrb, run]⟩ ?_ ?_
      case ex => exact ext6 (by (try dsimp only); repeat (first | refine (if_neg (by decide +kernel)).trans ?_ | refine or_some ?_ | exact if_pos rfl | exact rfl)) (by (try dsimp only); repeat (first | refine (if_neg (by decide +kernel)).trans ?_ | refine or_some ?_ | exact if_pos rfl | exact rfl)) (by (try dsimp only); repeat (first | refine (if_neg (by decide +kernel)).trans ?_ | refine or_some ?_ | exact if_pos rfl | exact rfl)) (by (try dsimp only); repeat (first | refine (if_neg (by decide +kernel)).trans ?_ | refine or_some ?_ | exact if_pos rfl | exact rfl)) (by (try dsimp only); repeat (first | refine (if_neg (by decide +kernel)).trans ?_ | refine or_some ?_ | exact if_pos rfl | exact rfl)) (by (try dsimp only); repeat (first | refine (if_neg (by decide +kernel)).trans ?_ | refine or_some ?_ | exact if_pos rfl | exact rfl))
      · obtain ⟨_, T3, X, _, _, rfl, _⟩ := h
        exact List.mem_append_right _ (List.mem_append_right _ hl4R)
      · rintro i v m₁ nw h tk I oI hv ⟨⟨vl, rfl⟩, T3, X, okT3, tT3, rfl, nd, im, tab3⟩ F1 N1 off
        obtain ⟨da, kv, vv, nt, kk, d, rfl, hda, hkv', hvv, he⟩ := pr4.get hv
        have lT3 : T3.tab.length ≤ 6 := by rw [tab3]; exact lenB i
        have hlT3 : T3.rows.length ≤ 900 := by rw [← tab_len]; omega
        have ndI := Nd.new (p := (I, oI)) off nd
        have spec := do_S wd kk kv hkv' vv d hvv T3 okT3 [(I, oI)] (X ++ R3) im hlT3 da nt (List.mem_append_right _ (List.mem_append_right _ hda))
        rw [tT3] at spec
        simp only [List.cons_append, List.nil_append] at spec
        have hdaV : (da, tup2 kv vv nt) ∈ T3.mut ++ (X ++ R3) := List.mem_append_right _ (List.mem_append_right _ hda)
        obtain ⟨U, hU⟩ : ∃ U, T3.mut ++ (X ++ R3) = U := ⟨_, rfl⟩
        rw [hU] at N1 ndI hdaV spec
        k_steps
        show wpAny _ _ _ _ _ _
        (rename News _ _ _ ((I, oI) :: _) => N4)
        refine' Calls.law (spec) ?F ?X ?N ?T ?hk ?hd ?hu ?n ?_
        case N => exact N4
        case F => assumption
        case X => exact KX
        case T => exact TT
        case hk => rfl
        case hd => omega
        case hu => omega
        case n => exact ndI
        intro r news' h' tk' F2 N2 nd2 hp2
        obtain ⟨T4, X5, ok4, t4, rfl, im4, _, tb4⟩ := hp2
        k_steps
        show UnrEndW _ _ _ _ _ _
        (rename News _ _ _ (T4.mut ++ _) => NN)
        have pm := perm22 (I, oI) T4.mut X5 (X ++ R3)
        rw [← List.append_assoc X5] at pm
        exact lT_end pm NN nd2 (by assumption) (Ext.set ⟨vl, rfl⟩ (by (try dsimp only); repeat (first | refine (if_neg (by decide +kernel)).trans ?_ | refine or_some ?_ | exact if_pos rfl | exact rfl))) ok4 (t4.trans tT3) (fun q hq => by
          rw [List.append_assoc]
          rcases List.mem_append.mp (im4 q hq) with h | h
          · exact List.mem_append_left _ h
          · exact List.mem_append_right _ (im q h)) (by rw [tb4, tab3, ← run_snoc (e := (kk, d)) he])
      · rintro m₁ nw h tk ⟨⟨vl, rfl⟩, T3, X, okT3, tT3, rfl, nd, im, tab3⟩ F1 N1
        have hl44 := pr4.length
        rw [hl44, List.take_length, run_brief] at tab3
        rw [tab] at hprs
        have lT3 : T3.tab.length ≤ 6 := by rw [tab3, ← tab]; exact lenT
        have hlT3 : T3.rows.length ≤ 900 := by rw [← tab_len]; omega
        have valT3 : ∀ e ∈ T3.tab, IsVal e.2 := by rw [tab3, ← tab]; exact valT
        have spec := ents_spec wd T3 okT3 (X ++ R3) im hlT3 valT3
        rw [tT3, tab3] at spec
        have sR : ∀ q ∈ R3, q ∈ X ++ R3 := fun q hq => List.mem_append_right _ hq
        obtain ⟨U3, hU3⟩ : ∃ U3, X ++ R3 = U3 := ⟨_, rfl⟩
        rw [hU3] at N1 nd spec sR
        k_steps
        show wpAny _ _ _ _ _ _
        refine' Calls.law (spec) ?F ?X ?N ?T ?hk ?hd ?hu ?n ?_
        case N => exact N1
        case F => assumption
        case X => exact KX
        case T => exact TT
        case hk => rfl
        case hd => omega
        case hu => omega
        case n => exact nd
        intro r news' h' tk' F1 N1 nd1 hp1
        obtain ⟨Y5, l5, vs5, nl5, rfl, rfl, hl5, hprs5⟩ := hp1
        have s5 : ∀ q ∈ Y5, q ∈ T3.mut ++ (Y5 ++ U3) := fun q hq => List.mem_append_right _ (List.mem_append_left _ hq)
        have sR5 : ∀ q ∈ R3, q ∈ T3.mut ++ (Y5 ++ U3) := fun q hq => List.mem_append_right _ (List.mem_append_right _ (sR q hq))
        have sYZ : ∀ q ∈ Y ++ Z, q ∈ R3 := fun q hq => hR3 ▸ List.mem_append_right _ (.tail _ (.tail _ (.tail _ (.tail _ (List.mem_append_right _ hq)))))
        have hcl : (_, oc) ∈ R3 := hR3 ▸ List.mem_append_right _ (.tail _ (.head _))
        have h1 := s5 _ hl5
        have sY : ∀ q ∈ Y, q ∈ T3.mut ++ (Y5 ++ U3) := fun q hq => sR5 q (sYZ q (List.mem_append_left _ hq))
        have h2 := sY _ hl
        have hcl5 := sR5 _ hcl
        have hcp5 := sR5 _ (sYZ _ (List.mem_append_right _ z4))
        have hpd5 := sR5 _ (sYZ _ (List.mem_append_right _ z1))
        have lr5 := hprs5.LR
        have lr2 := hprs.LR
        have okr := okL.pairs (ok_ents hke)
        have hbr : PyData.eqvAll ((ents (run [] es)).map pairD) ((ents (run [] es)).map pairD) = true := eqvAll_refl okr
        have hle : (ents (run [] es)).length ≤ 6 := Nat.le_trans (List.length_filter_le _ _) (by rw [← tab]; exact lenT)
        have hv2 : vs2.size = (ents (run [] es)).length := by rw [← hprs.length]; simp
        obtain ⟨U5, hU5⟩ : ∃ U5, T3.mut ++ (Y5 ++ U3) = U5 := ⟨_, rfl⟩
        rw [hU5] at N1 nd1 s5 sR5 sY h1 h2 hcl5 hcp5 hpd5
        have agr2 : ∀ e ∈ ents (run [] es), P.lookup e.1 = some e.2 := fun e he => agr.last ndT (by rw [tab]; exact he)
        k_steps
        show wpAny _ _ _ _ _ _
        refine LCt.ListComp_T (F₀ := by k_asm) (by rfl) (by decide) (by rfl) (by decide) (by rfl) ?_
        k_steps
        refine CompSrcT.ledger rfl (by k_asm) (by k_asm) h2 (by rw [hv2, sizeLine_eq]; omega) fun g => ?_
        refine restT_of_inv vs2.size (fun i ys nw => ys = [] ∧ nw = U5) ?_ ?_ _ 0 [] _ (by simp) ⟨rfl, rfl⟩
        · rintro i ys nw v I oI C oC DD m₂ h tk E' hi ⟨rfl, rfl⟩ hv hC hx Fh Nh off ne
          obtain ⟨da, kv, vv, nt, kk, d, rfl, hda, hkv', hvv, he⟩ := hprs.get (i := i) (v := v) (by rw [Array.getElem?_toList]; exact hv)
          have hm := List.mem_of_getElem? he
          have hlk := agr2 _ hm
          have hda5 := sY _ hda
          have hvl := (ok_ents hke _ hm).2
          have hcq := eqv_refl _ hvl.can
          dsimp only at hlk hvl hcq
          k_steps
          exact CompEnd.intro (by k_asm) Nh _ (fun q hq => hq) off (.inr ⟨_, h2, rfl, _, rfl⟩) ⟨rfl, rfl⟩
        · rintro ys nw ⟨rfl, rfl⟩
          intro DD h tk Fh Nh o1
          iterate 3 walk1
          (rename News _ _ _ (_ :: _ :: nw) => NC)
          refine ne_LR (W := []) (W2 := []) (ds := []) (ds2 := []) (b := true) (by k_units) NC (.tail _ (.head _)) (.head _) LR.nil (fun q hq => nomatch hq) LR.nil (fun q hq => nomatch hq) okL.nil okL.nil rfl ?_
          have ndC : Nd ((_, listOf #[] 0) :: (DD, lst []) :: nw) := Nd.cons (l := (DD, lst []) :: nw) (by assumption) (nd1_of o1 nd1)
          obtain ⟨Z6, N6, nd6, hc6, sY6, sZ6⟩ := stageB NC ndC hU5 hU3 hR3
          have hld6 := sZ6 _ z5
          have hl6 := sY6 _ hl
          have hcp6 := sZ6 _ z4
          have hpa6 := sZ6 _ z2
          have hun6 := sZ6 _ z3
          have pas6 := pasZ.mono sZ6
          have uns6 := unsZ.mono sZ6
          have pr6 := prZ.mono sZ6
          have im6 : ∀ q ∈ T.imm wd, q ∈ Z6 := fun q hq => sZ6 q (imZ q hq)
          have hprs2 := hprs
          have lr6 : LR Z6 vs2.toList ((ents (run [] es)).map pairD) := lr2.mono sY6
          clear hU5 hU3 hR3 N1 NC ndC nd1 s5 sR5 sY h1 h2 hcl5 hcp5 hpd5 lr5 lr2 hprs5 hl5 hprs4 hl4 z1 z2 z3 z4 z5 pasZ unsZ prZ imZ sY6 sZ6 im okT3 tT3 tab3 valT3 sR hcl sYZ hl4R pr4 okb hrb pd nd hprs hl agr2 agr pvl
          obtain ⟨V6, hV6⟩ : ∃ V6, T.mut ++ Z6 = V6 := ⟨_, rfl⟩
          rw [hV6] at N6 nd6
          have sV6 : ∀ q ∈ Z6, q ∈ V6 := fun q hq => hV6 ▸ List.mem_append_right _ hq
          have hldV := sV6 _ hld6
          have hdl9 : dvs.length ≤ 10 := by omega
          have hdz : dvs.toArray.size = es.length := by rw [List.size_toArray]; exact hdl
          clear hv2 hdl9 hL
          k_steps
          show wpAny _ _ _ _ _ _
          have C1 := fun w tw => take_spec w box D k k2 (1 + 2 * (es.length : Nat)) t vs _ hvs hvl ((es.length : Int) + 1) tw (by omega) (by omega) (by omega) (by omega) V6
          simp only [BoxAt, List.cons_append, List.nil_append] at C1
          refine' Calls.law (C1 _ _) ?F ?X ?N ?T ?hk ?hd ?hu ?n ?_
          case N => exact N6
          case F => assumption
          case X => exact KX
          case T => exact TT
          case hk => rfl
          case hd => omega
          case hu => omega
          case n => exact nd6
          intro r news' h' tk' F7 N7 nd7 hp7
          obtain ⟨r7, t7, rfl, hr70, hr71, k7, k27, t17, ws7, ns7, X7, hws7, hwl7, rfl⟩ := hp7
          obtain ⟨mk, rfl⟩ := Int.eq_ofNat_of_zero_le hr70
          have hmk : mk ≤ es.length := by omega
          obtain ⟨V7, hV7⟩ : ∃ V7, BoxAt box D k7 k27 (1 + 2 * (es.length : Nat) + 1) t17 ws7 ++ (X7 ++ V6) = V7 := ⟨_, rfl⟩
          rw [hV7] at N7 nd7
          have sV7 : ∀ q ∈ V6, q ∈ V7 := fun q hq => hV7 ▸ List.mem_append_right _ (List.mem_append_right _ hq)
          have hld7 := sV7 _ hldV
          clear C1 nd6
          k_steps
          show wpAny _ _ _ _ _ _
          refine' Calls.law (remade_spec wd ld dvs _ es MK6 mk _ V7 hld7 (pr6.mono (fun q hq => sV7 q (sV6 q hq))) (fun e he => (hke e he).2) (by decide) (fun e he => (hke e he).1) MK6_val (by omega) hmk) ?F ?X ?N ?T ?hk ?hd ?hu ?n ?_
          case N => exact N7
          case F => assumption
          case X => exact KX
          case T => exact TT
          case hk => rfl
          case hd => omega
          case hu => omega
          case n => exact nd7
          intro r news' h' tk' F8 N8 ndr hp8
          obtain ⟨Tr, Xr, rt, nt, okr8, rfl, rfl, imr, hrt, tabr⟩ := hp8
          change Tr.tab = remT es mk at tabr
          obtain ⟨VR, hVR⟩ : ∃ VR, Xr ++ V7 = VR := ⟨_, rfl⟩
          have sVR : ∀ q ∈ V7, q ∈ VR := fun q hq => hVR ▸ List.mem_append_right _ hq
          rw [hVR] at N8 ndr imr hrt
          have lenr : Tr.tab.length ≤ 6 := by rw [tabr]; exact rem_len hke mk
          have hlr : Tr.rows.length ≤ 900 := by rw [← tab_len]; omega
          have valr : ∀ e ∈ Tr.tab, IsVal e.2 := by rw [tabr]; exact rem_val hke mk
          have spec := ents_spec wd Tr okr8 VR imr hlr valr
          rw [tabr] at spec
          have hrtT := List.mem_append_right Tr.mut hrt
          obtain ⟨bb, hbb⟩ : ∃ bb, (!(run [] (es.take mk)).any (fun e => nullB e.2)) = bb := ⟨_, rfl⟩
          rw [hbb] at hrtT
          clear hrt
          obtain ⟨U8, hU8⟩ : ∃ U8, Tr.mut ++ VR = U8 := ⟨_, rfl⟩
          rw [hU8] at N8 ndr hrtT spec
          k_steps
          show wpAny _ _ _ _ _ _
          (rename News _ _ _ U8 => N8b)
          refine' Calls.law (spec) ?F ?X ?N ?T ?hk ?hd ?hu ?n ?_
          case N => exact N8b
          case F => assumption
          case X => exact KX
          case T => exact TT
          case hk => rfl
          case hd => omega
          case hu => omega
          case n => exact ndr
          intro r news' h' tk' F9 N9 nd9 hp9
          obtain ⟨Y8, l8, vs8, nl8, rfl, rfl, hl8, hprs8⟩ := hp9
          have s8 : ∀ q ∈ Y8, q ∈ Tr.mut ++ (Y8 ++ VR) := fun q hq => List.mem_append_right _ (List.mem_append_left _ hq)
          have s9 : ∀ q ∈ Z6, q ∈ Tr.mut ++ (Y8 ++ VR) := fun q hq => List.mem_append_right _ (List.mem_append_right _ (sVR q (sV7 q (sV6 q hq))))
          have h8 := s8 _ hl8
          have hl9 := s9 _ hl6
          have hc9 := s9 _ hc6
          have hs8 : vs8.size = (ents (run [] es)).length := by rw [← (rem_perm es mk).length_eq, ← hprs8.length]; simp
          have hs2 : vs2.size = (ents (run [] es)).length := by have := (hprs2).length; rw [← this]; simp
          obtain ⟨n6, hn6⟩ : ∃ n6, (ents (run [] es)).length = n6 := ⟨_, rfl⟩
          rw [hn6] at hs8 hs2 hle
          obtain ⟨U9, hU9⟩ : ∃ U9, Tr.mut ++ (Y8 ++ VR) = U9 := ⟨_, rfl⟩
          rw [hU9] at N9 nd9 s8 s9 h8 hl9 hc9
          clear ndr spec
          k_steps
          show wpAny _ _ _ _ _ _
          refine LCt.ListComp_T (F₀ := by k_asm) (by rfl) (by decide) (by rfl) (by decide) (by rfl) ?_
          k_steps
          refine CompSrcT.ledger rfl (by k_asm) (by k_asm) h8 (by rw [hs8, sizeLine_eq]; omega) fun g => ?_
          refine restT_of_inv vs8.size (fun i ys nw => ys = [] ∧ nw = U9) ?_ ?_ _ 0 [] _ (by simp) ⟨rfl, rfl⟩
          · rintro i ys nw v I oI C oC DD m₂ h tk E' hi ⟨rfl, rfl⟩ hv hC hx Fh Nh off ne
            obtain ⟨da, kv, vv, nt, kk, d, rfl, hda, hkv', hvv, he⟩ := hprs8.get (i := i) (v := v) (by rw [Array.getElem?_toList]; exact hv)
            have hm := (rem_perm es mk).mem_iff.mp (List.mem_of_getElem? he)
            k_steps
            show wpAny _ _ _ _ _ _
            refine notin_LR (e := (kk, d)) (W := Z6) (by k_units) Nh (.tail _ (.tail _ (.tail _ hl9))) lr6 (fun q hq => .tail _ (.tail _ (.tail _ (s9 q hq)))) okr (.tail _ (.tail _ (.tail _ (s8 _ hda)))) hkv' hvv (ok_ents hke _ hm) (List.mem_map_of_mem hm) ?_
            k_steps
            exact CompEnd.intro (by k_asm) Nh _ (fun q hq => hq) off (.inr ⟨_, h8, rfl, _, rfl⟩) ⟨rfl, rfl⟩
          · rintro ys nw ⟨rfl, rfl⟩
            intro DD h tk Fh Nh o1
            iterate 3 walk1
            (rename News _ _ _ (_ :: _ :: nw) => NC)
            refine ne_LR (W := []) (W2 := []) (ds := []) (ds2 := []) (b := true) (by k_units) NC (.tail _ (.head _)) (.head _) LR.nil (fun q hq => nomatch hq) LR.nil (fun q hq => nomatch hq) okL.nil okL.nil rfl ?_
            have ndC : Nd ((_, listOf #[] 0) :: (DD, lst []) :: nw) := Nd.cons (l := (DD, lst []) :: nw) (by assumption) (nd1_of o1 nd9)
            obtain ⟨R, NR, ndR, sZR, sYR⟩ := stageC NC ndC hU9 hVR hV7 hV6
            have hldR := sZR _ hld6
            have hlR := sZR _ hl6
            have hcR := sZR _ hc6
            have h8R := sYR _ hl8
            have hpaR := sZR _ hpa6
            have hunR := sZR _ hun6
            have pasR := pas6.mono sZR
            have unsR := uns6.mono sZR
            have imR : ∀ q ∈ T.imm wd, q ∈ R := fun q hq => sZR q (im6 q hq)
            (try clear hU9); (try clear hVR); (try clear hV7); (try clear hV6); (try clear NC); (try clear ndC); (try clear nd9); (try clear hl9); (try clear hc9); (try clear h8); (try clear s8); (try clear s9); (try clear hld6); (try clear hl6); (try clear hpa6); (try clear hun6); (try clear pas6); (try clear uns6); (try clear im6); (try clear hc6); (try clear hcp6); (try clear sV6); (try clear sV7); (try clear sVR); (try clear hldV); (try clear hld7); (try clear hrtT); (try clear imr)
            obtain ⟨U, hU⟩ : ∃ U, T.mut ++ R = U := ⟨_, rfl⟩
            have sU : ∀ q ∈ R, q ∈ U := fun q hq => hU ▸ List.mem_append_right _ hq
            have hldU := sU _ hldR
            have hlU := sU _ hlR
            have hcU := sU _ hcR
            have h8U := sU _ h8R
            have sZU : ∀ q ∈ Z6, q ∈ U := fun q hq => sU q (sZR q hq)
            have sYU : ∀ q ∈ Y8, q ∈ U := fun q hq => sU q (sYR q hq)
            rw [hU] at NR ndR
            have hMark := HoldMark.on
            k_steps
            clear hMark
            show wpAny _ _ _ _ _ _
            refine if_once ?_ (fun tkn => ?_)
            · cases bb
              · k_steps
              · rw [rem_full (by simpa using hbb)] at hprs8
                have lr8 := hprs8.LR
                k_steps
            · k_steps
              show wpAny _ _ _ _ _ _
              (rename Fr _ _ _ _ => F10)
              refine For_turns F10 ?_
              k_steps
              show wpAny _ _ _ _ _ _
              (rename Fr _ _ _ _ => F11)
              (rename News _ _ _ U => NU)
              refine range3_rows F11 NU (by decide) ?_
              intro h2 tk2 ta tb tc hr2 F12 N12 _
              have hrg := rng_down hn3 hn10
              rw [← hU] at N12 ndR
              refine range_loopM F12 rfl hr2 hrg.1 hrg.2 N12 (fun i m' nw => Ext (fun q => if q = Str.ofString "table" then some (.ref T0.t) else if q = Str.ofString "past" then some (.ref pa) else if q = Str.ofString "undo" then some (.ref un) else none) m' ∧
                InvT wd T0.t (Bk es (es.length - i)) R nw) ⟨ext3 (by (try dsimp only); repeat (first | refine (if_neg (by decide +kernel)).trans ?_ | refine or_some ?_ | exact if_pos rfl | exact rfl)) (by (try dsimp only); repeat (first | refine (if_neg (by decide +kernel)).trans ?_ | refine or_some ?_ | exact if_pos rfl | exact rfl)) (by (try dsimp only); repeat (first | refine (if_neg (by decide +kernel)).trans ?_ | refine or_some ?_ | exact if_pos rfl | exact rfl)), T, [], okT, tT, rfl, ndR, imR, by rw [tab]; exact Bk.init hke⟩ ?_ ?_
              · rintro i ti m₁ nw h tk I oI hi ⟨⟨vl, rfl⟩, T5, X5, okT5, tT5, rfl, nd, im, bk⟩ F1 N1 off
                obtain ⟨j, hj⟩ : ∃ j, es.length - i = j + 1 := ⟨es.length - i - 1, by omega⟩
                rw [hj] at bk
                have hat : (es.length : Int) - 1 + (i : Nat) * (-1) = (j : Nat) := by omega
                rw [hat]
                have hjl : j < es.length := by omega
                have hj0 : (0 : Int) ≤ (j : Nat) := by omega
                obtain ⟨e, he⟩ : ∃ e, es[j]? = some e := ⟨_, List.getElem?_eq_getElem hjl⟩
                obtain ⟨da, kv, vv, nt, hun, hda, hkv', hvv⟩ := unsR.2 j e hjl he
                obtain ⟨lp, vsp, np, hpa', hlp, hprp⟩ := pasR.2 j hjl
                have hun' : uns.toArray.toList[((j : Nat) : Int).toNat]? = some (.ref da) := by simpa using hun
                have hpa2 : pas.toArray.toList[((j : Nat) : Int).toNat]? = some (.ref lp) := by simpa using hpa'
                have len5 := bk.len
                have hl5 : T5.rows.length ≤ 900 := by rw [← tab_len]; omega
                have ndI := Nd.new (p := (I, oI)) off nd
                have spec := do_S wd e.1 kv hkv' vv _ hvv T5 okT5 [(I, oI)] (X5 ++ R) im hl5 da nt (List.mem_append_right _ (List.mem_append_right _ hda))
                rw [tT5] at spec
                simp only [List.cons_append, List.nil_append] at spec
                have hunV : (un, lst uns) ∈ T5.mut ++ (X5 ++ R) := List.mem_append_right _ (List.mem_append_right _ hunR)
                obtain ⟨V, hV⟩ : ∃ V, T5.mut ++ (X5 ++ R) = V := ⟨_, rfl⟩
                rw [hV] at N1 ndI hunV spec
                k_steps
                show wpAny _ _ _ _ _ _
                (rename News _ _ _ ((I, oI) :: _) => N4)
                refine' Calls.law (spec) ?F ?X ?N ?T ?hk ?hd ?hu ?n ?_
                case N => exact N4
                case F => assumption
                case X => exact KX
                case T => exact TT
                case hk => rfl
                case hd => omega
                case hu => omega
                case n => exact ndI
                intro r news' h' tk' F2 N2 nd2 hp2
                obtain ⟨T6, X6, ok6, t6, rfl, im6, _, tb6⟩ := hp2
                have bk6 : Bk es j T6.tab := tb6 ▸ bk.step he hke
                have len6 := bk6.len
                have hl6 : T6.rows.length ≤ 900 := by rw [← tab_len]; omega
                have spec2 := ents_spec wd T6 ok6 (X6 ++ ((I, oI) :: (X5 ++ R))) (fun q hq => by
                  rcases List.mem_append.mp (im6 q hq) with h | h
                  · exact List.mem_append_left _ h
                  · exact List.mem_append_right _ (.tail _ (im q h))) hl6 bk6.2.1
                rw [t6.trans tT5, bk6.1.ents] at spec2
                obtain ⟨V2, hV2⟩ : ∃ V2, T6.mut ++ (X6 ++ ((I, oI) :: (X5 ++ R))) = V2 := ⟨_, rfl⟩
                rw [hV2] at N2 nd2 spec2
                k_steps
                show wpAny _ _ _ _ _ _
                (rename News _ _ _ V2 => N5)
                refine' Calls.law (spec2) ?F ?X ?N ?T ?hk ?hd ?hu ?n ?_
                case N => exact N5
                case F => assumption
                case X => exact KX
                case T => exact TT
                case hk => rfl
                case hd => omega
                case hu => omega
                case n => exact nd2
                intro r news' h' tk' F3 N3 nd3 hp3
                obtain ⟨Y7, l7, vs7, nl7, rfl, rfl, hl7, hprs7⟩ := hp3
                have s7 : ∀ q ∈ Y7, q ∈ T6.mut ++ (Y7 ++ (X6 ++ ((I, oI) :: (X5 ++ R)))) := fun q hq => List.mem_append_right _ (List.mem_append_left _ hq)
                have sR7 : ∀ q ∈ R, q ∈ T6.mut ++ (Y7 ++ (X6 ++ ((I, oI) :: (X5 ++ R)))) := fun q hq => List.mem_append_right _ (List.mem_append_right _ (List.mem_append_right _ (.tail _ (List.mem_append_right _ hq))))
                have h7 := s7 _ hl7
                have hp7 := sR7 _ hlp
                have hpa7 := sR7 _ hpaR
                have lr7 := hprs7.LR
                have lrp := hprp.LR
                have okj := okL.pairs (ok_ents (es := es.take j) fun e he => hke e (List.mem_of_mem_take he))
                have hbj := eqvAll_refl okj
                have pm := perm23 (I, oI) T6.mut Y7 X6 X5 R
                obtain ⟨V3, hV3⟩ : ∃ V3, T6.mut ++ (Y7 ++ (X6 ++ ((I, oI) :: (X5 ++ R)))) = V3 := ⟨_, rfl⟩
                rw [hV3] at N3 nd3 s7 sR7 h7 hp7 hpa7 pm
                clear hbr okr lr6
                k_steps
                show UnrEndW _ _ _ _ _ _
                rw [show es.length - (i + 1) = j by omega]
                exact lT_end pm N3 nd3 (by assumption) (Ext.set ⟨vl, rfl⟩ (by (try dsimp only); repeat (first | refine (if_neg (by decide +kernel)).trans ?_ | refine or_some ?_ | exact if_pos rfl | exact rfl))) ok6 (t6.trans tT5) (fun q hq => by
                  rcases List.mem_append.mp (im6 q hq) with h | h
                  · exact List.mem_append_left _ (List.mem_append_right _ (List.mem_append_left _ h))
                  · rcases List.mem_append.mp (im q h) with h | h
                    · exact List.mem_append_left _ (List.mem_append_right _ (List.mem_append_right _ h))
                    · exact List.mem_append_right _ h) bk6
              · rintro m₁ nw h tk ⟨⟨vl, rfl⟩, T5, X5, okT5, tT5, rfl, nd, im, bk⟩ F1 N1
                k_steps)
end Mine
set_option maxRecDepth 100000 in
set_option maxHeartbeats 8000000 in
theorem PySem.Challenge.cw_sj0190_01_holds : PySem.Challenge.rw_sj0190_01.Holds :=
  Mine.cw
