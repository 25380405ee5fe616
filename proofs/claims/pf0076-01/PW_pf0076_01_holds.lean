import PyProof.Rows.All
import Wide.All
import OpenK.AllK
import Wide.FinOn
import Lean
import PySem.Challenge.RW_pf0076_01
open PySem PySem.W PySem.Calls PyProof.Rows PySem.Spec
set_option Elab.async false
set_option linter.unusedVariables false
set_option maxRecDepth 100000
set_option maxHeartbeats 8000000
namespace PySem.W.Fast
theorem tw10007627690174824804 : True := ⟨⟩
theorem tw10010936943081839664 : True := ⟨⟩
theorem tw10029231156530900338 : True := ⟨⟩
theorem tw10073347824450446311 : True := ⟨⟩
theorem tw10205541121877940668 : True := ⟨⟩
theorem tw10227693086864044499 : True := ⟨⟩
theorem tw10323183001455561277 : True := ⟨⟩
theorem tw10528696920762540405 : True := ⟨⟩
theorem tw10706342367453228570 : True := ⟨⟩
theorem tw10833955939284561965 : True := ⟨⟩
theorem tw10881846856767400648 : True := ⟨⟩
theorem tw10887116778572429059 : True := ⟨⟩
theorem tw10938465397075749097 : True := ⟨⟩
theorem tw10939607955317197324 : True := ⟨⟩
theorem tw10942035263794033107 : True := ⟨⟩
theorem tw11013792430000457035 : True := ⟨⟩
theorem tw11130039905162102590 : True := ⟨⟩
theorem tw11161088081135249708 : True := ⟨⟩
theorem tw11186114360453789277 : True := ⟨⟩
theorem tw11270796479367742343 : True := ⟨⟩
theorem tw11277716924127702174 : True := ⟨⟩
theorem tw11306939235166856333 : True := ⟨⟩
theorem tw11317593695737139937 : True := ⟨⟩
theorem tw11333186260410459676 : True := ⟨⟩
theorem tw11420187438672877268 : True := ⟨⟩
theorem tw11445135464325071761 : True := ⟨⟩
theorem tw11452132507678324671 : True := ⟨⟩
theorem tw11543547407058413889 : True := ⟨⟩
theorem tw11566699232636054958 : True := ⟨⟩
theorem tw11588390666370768167 : True := ⟨⟩
theorem tw11625766737575182897 : True := ⟨⟩
theorem tw11636919720809706868 : True := ⟨⟩
theorem tw117213463901210413 : True := ⟨⟩
theorem tw11753959986699041462 : True := ⟨⟩
theorem tw11853533878840232495 : True := ⟨⟩
theorem tw11939915149646268982 : True := ⟨⟩
theorem tw11964429278604863157 : True := ⟨⟩
theorem tw11985326045990495214 : True := ⟨⟩
theorem tw11994158751524154303 : True := ⟨⟩
theorem tw12172078356533094185 : True := ⟨⟩
theorem tw1218959903707654005 : True := ⟨⟩
theorem tw12233582284571471492 : True := ⟨⟩
theorem tw12237943961548833269 : True := ⟨⟩
theorem tw12268644228514654432 : True := ⟨⟩
theorem tw12290603225136948437 : True := ⟨⟩
theorem tw12329403913580668285 : True := ⟨⟩
theorem tw1258299570235058372 : True := ⟨⟩
theorem tw1258717718454355964 : True := ⟨⟩
theorem tw12635813782599140982 : True := ⟨⟩
theorem tw12659028871203227004 : True := ⟨⟩
theorem tw12813236842856870187 : True := ⟨⟩
theorem tw1291980286583624508 : True := ⟨⟩
theorem tw12945451867199242903 : True := ⟨⟩
theorem tw13016732220969518872 : True := ⟨⟩
theorem tw13145125596335152023 : True := ⟨⟩
theorem tw13180171748994924942 : True := ⟨⟩
theorem tw13215998728584607739 : True := ⟨⟩
theorem tw13254397897704925713 : True := ⟨⟩
theorem tw13317431791736044220 : True := ⟨⟩
theorem tw1333364371103165705 : True := ⟨⟩
theorem tw13335737130258781183 : True := ⟨⟩
theorem tw13358618909089187005 : True := ⟨⟩
theorem tw13512673800721320934 : True := ⟨⟩
theorem tw1355338860687761863 : True := ⟨⟩
theorem tw13559156169165276386 : True := ⟨⟩
theorem tw13607416678640721797 : True := ⟨⟩
theorem tw13615603153576403970 : True := ⟨⟩
theorem tw13678640442995254988 : True := ⟨⟩
theorem tw1377046205977697930 : True := ⟨⟩
theorem tw13900631225919944168 : True := ⟨⟩
theorem tw13981391230805400906 : True := ⟨⟩
theorem tw14023627001141898710 : True := ⟨⟩
theorem tw1402947280878808549 : True := ⟨⟩
theorem tw14073706353221006472 : True := ⟨⟩
theorem tw14108194823987119177 : True := ⟨⟩
theorem tw14126943448341045398 : True := ⟨⟩
theorem tw1414301608579184545 : True := ⟨⟩
theorem tw14168537005229113720 : True := ⟨⟩
theorem tw14223099787259518943 : True := ⟨⟩
theorem tw14224011070414065920 : True := ⟨⟩
theorem tw14326252917377295143 : True := ⟨⟩
theorem tw14333388528381170442 : True := ⟨⟩
theorem tw14386061602966655976 : True := ⟨⟩
theorem tw14433975572909055671 : True := ⟨⟩
theorem tw14530364306720264245 : True := ⟨⟩
theorem tw14537914154153760125 : True := ⟨⟩
theorem tw14553827428707814869 : True := ⟨⟩
theorem tw14714103240675001986 : True := ⟨⟩
theorem tw14821650378409806113 : True := ⟨⟩
theorem tw14834023430324568649 : True := ⟨⟩
theorem tw14896874001708588922 : True := ⟨⟩
theorem tw14979626087600564940 : True := ⟨⟩
theorem tw15007238320947547705 : True := ⟨⟩
theorem tw1503297043503765363 : True := ⟨⟩
theorem tw15066959818950650227 : True := ⟨⟩
theorem tw15112985482279097393 : True := ⟨⟩
theorem tw151948405760981731 : True := ⟨⟩
theorem tw15263041282635125899 : True := ⟨⟩
theorem tw15278061642289888581 : True := ⟨⟩
theorem tw15319007112934793488 : True := ⟨⟩
theorem tw1537898542681612871 : True := ⟨⟩
theorem tw15450981722951097364 : True := ⟨⟩
theorem tw15480198773659482676 : True := ⟨⟩
theorem tw15490439104401381959 : True := ⟨⟩
theorem tw15560500314895047343 : True := ⟨⟩
theorem tw15663404670287596823 : True := ⟨⟩
theorem tw15742981410569661332 : True := ⟨⟩
theorem tw1574873078441994576 : True := ⟨⟩
theorem tw15766043655864335149 : True := ⟨⟩
theorem tw1582359623202405077 : True := ⟨⟩
theorem tw15919542637913265678 : True := ⟨⟩
theorem tw15980859228951719591 : True := ⟨⟩
theorem tw16018607276475445134 : True := ⟨⟩
theorem tw16049961110935095269 : True := ⟨⟩
theorem tw16145008321745377990 : True := ⟨⟩
theorem tw1617757218408452269 : True := ⟨⟩
theorem tw1620339239838986703 : True := ⟨⟩
theorem tw16241802466949684156 : True := ⟨⟩
theorem tw16296994325663420285 : True := ⟨⟩
theorem tw16349804527192203551 : True := ⟨⟩
theorem tw16414604833108395602 : True := ⟨⟩
theorem tw16439824349840649037 : True := ⟨⟩
theorem tw16531745337717519161 : True := ⟨⟩
theorem tw16548257151911338427 : True := ⟨⟩
theorem tw16593013826814733010 : True := ⟨⟩
theorem tw1662865533458754262 : True := ⟨⟩
theorem tw16643379632663270332 : True := ⟨⟩
theorem tw16643706677886111943 : True := ⟨⟩
theorem tw16697116713213952808 : True := ⟨⟩
theorem tw16741492637210864865 : True := ⟨⟩
theorem tw16752143609539240740 : True := ⟨⟩
theorem tw16817318245366136608 : True := ⟨⟩
theorem tw16846860572762119324 : True := ⟨⟩
theorem tw16916688483869632129 : True := ⟨⟩
theorem tw16966814322356759819 : True := ⟨⟩
theorem tw16979880578912567463 : True := ⟨⟩
theorem tw17000155066101142889 : True := ⟨⟩
theorem tw17000458434675057986 : True := ⟨⟩
theorem tw17018628822417861297 : True := ⟨⟩
theorem tw1702518465993881591 : True := ⟨⟩
theorem tw17057272898397164401 : True := ⟨⟩
theorem tw17070079461858475408 : True := ⟨⟩
theorem tw17100903815162463580 : True := ⟨⟩
theorem tw17111948838632640456 : True := ⟨⟩
theorem tw17164873540382356111 : True := ⟨⟩
theorem tw17279654841073493023 : True := ⟨⟩
theorem tw17476080006546285661 : True := ⟨⟩
theorem tw17497748084772794779 : True := ⟨⟩
theorem tw17532440430192770315 : True := ⟨⟩
theorem tw17532718790514356516 : True := ⟨⟩
theorem tw17672482021469178181 : True := ⟨⟩
theorem tw17730428716208468724 : True := ⟨⟩
theorem tw17730448691065144110 : True := ⟨⟩
theorem tw17804436615005485693 : True := ⟨⟩
theorem tw17828083071136270317 : True := ⟨⟩
theorem tw17846936440860909165 : True := ⟨⟩
theorem tw17888162413812561239 : True := ⟨⟩
theorem tw17954471519018878134 : True := ⟨⟩
theorem tw17964007177503468958 : True := ⟨⟩
theorem tw17988542015724977305 : True := ⟨⟩
theorem tw18056578402003937789 : True := ⟨⟩
theorem tw18101931140130867144 : True := ⟨⟩
theorem tw18220123701641295943 : True := ⟨⟩
theorem tw18260038339965228139 : True := ⟨⟩
theorem tw1829445100760108279 : True := ⟨⟩
theorem tw18340240734955500558 : True := ⟨⟩
theorem tw18345786424863182364 : True := ⟨⟩
theorem tw18350330562280901221 : True := ⟨⟩
theorem tw183835017167291270 : True := ⟨⟩
theorem tw18416463498863911781 : True := ⟨⟩
theorem tw1962928258387122110 : True := ⟨⟩
theorem tw2039238271031011813 : True := ⟨⟩
theorem tw219737044198020058 : True := ⟨⟩
theorem tw2283851925072248500 : True := ⟨⟩
theorem tw2408619945344806742 : True := ⟨⟩
theorem tw2422670821966735624 : True := ⟨⟩
theorem tw2460228577881660442 : True := ⟨⟩
theorem tw2478078296215019888 : True := ⟨⟩
theorem tw2539942939067143199 : True := ⟨⟩
theorem tw2611137233208623240 : True := ⟨⟩
theorem tw2627984346626558326 : True := ⟨⟩
theorem tw2664551874359636763 : True := ⟨⟩
theorem tw2670528217467546775 : True := ⟨⟩
theorem tw285844861784931804 : True := ⟨⟩
theorem tw2862820112641550484 : True := ⟨⟩
theorem tw2905824091091238844 : True := ⟨⟩
theorem tw2949557819572172630 : True := ⟨⟩
theorem tw3039592710220408265 : True := ⟨⟩
theorem tw3094477031063562474 : True := ⟨⟩
theorem tw3105397867545767578 : True := ⟨⟩
theorem tw3152983702415266003 : True := ⟨⟩
theorem tw3282434896037501709 : True := ⟨⟩
theorem tw3362959441861295915 : True := ⟨⟩
theorem tw3442601649717412197 : True := ⟨⟩
theorem tw3560238982266916124 : True := ⟨⟩
theorem tw3577408171920636059 : True := ⟨⟩
theorem tw3619232141914619222 : True := ⟨⟩
theorem tw3636048126100218174 : True := ⟨⟩
theorem tw3698559305507148144 : True := ⟨⟩
theorem tw3766158894648301139 : True := ⟨⟩
theorem tw3820604794100220378 : True := ⟨⟩
theorem tw383478444716035976 : True := ⟨⟩
theorem tw387338674003428930 : True := ⟨⟩
theorem tw3891137856419664920 : True := ⟨⟩
theorem tw392140993173905013 : True := ⟨⟩
theorem tw3972328310683599613 : True := ⟨⟩
theorem tw3976722010076183465 : True := ⟨⟩
theorem tw4011157648589011858 : True := ⟨⟩
theorem tw4039474712603431140 : True := ⟨⟩
theorem tw4075660801711882420 : True := ⟨⟩
theorem tw4083366629787285363 : True := ⟨⟩
theorem tw4090926877573551719 : True := ⟨⟩
theorem tw4224760802259116069 : True := ⟨⟩
theorem tw4292500188555128830 : True := ⟨⟩
theorem tw4302124980754421698 : True := ⟨⟩
theorem tw4319705520415482375 : True := ⟨⟩
theorem tw4407734736301137906 : True := ⟨⟩
theorem tw4527066259768149269 : True := ⟨⟩
theorem tw4549333791460862111 : True := ⟨⟩
theorem tw4552823106982906706 : True := ⟨⟩
theorem tw4558998842232669794 : True := ⟨⟩
theorem tw460243522976405022 : True := ⟨⟩
theorem tw4636218855388986860 : True := ⟨⟩
theorem tw4658958612460137192 : True := ⟨⟩
theorem tw4679858250743294509 : True := ⟨⟩
theorem tw4748654258956052638 : True := ⟨⟩
theorem tw4775785305629353868 : True := ⟨⟩
theorem tw4797165386629745026 : True := ⟨⟩
theorem tw4933834842325187142 : True := ⟨⟩
theorem tw4978915544186085027 : True := ⟨⟩
theorem tw4980102563643897964 : True := ⟨⟩
theorem tw5032809538720368765 : True := ⟨⟩
theorem tw505943868828395459 : True := ⟨⟩
theorem tw5062333883121581049 : True := ⟨⟩
theorem tw5076957145309523181 : True := ⟨⟩
theorem tw5111356299099525756 : True := ⟨⟩
theorem tw5135500740108067664 : True := ⟨⟩
theorem tw5200128776193632040 : True := ⟨⟩
theorem tw5268983451555188008 : True := ⟨⟩
theorem tw5349121933718820234 : True := ⟨⟩
theorem tw5357591511691535388 : True := ⟨⟩
theorem tw5529568453561195837 : True := ⟨⟩
theorem tw5706481520468235054 : True := ⟨⟩
theorem tw5770868932273138760 : True := ⟨⟩
theorem tw5882768191206486792 : True := ⟨⟩
theorem tw5978237884098788730 : True := ⟨⟩
theorem tw6004533443673955352 : True := ⟨⟩
theorem tw6019396324639902685 : True := ⟨⟩
theorem tw6122645084068987007 : True := ⟨⟩
theorem tw6245536207120538393 : True := ⟨⟩
theorem tw6380047634161181297 : True := ⟨⟩
theorem tw6448080314894763839 : True := ⟨⟩
theorem tw6476718242876238587 : True := ⟨⟩
theorem tw6550987210724342151 : True := ⟨⟩
theorem tw6589095468515690095 : True := ⟨⟩
theorem tw662354867322794072 : True := ⟨⟩
theorem tw6654550962395885724 : True := ⟨⟩
theorem tw667198328695590252 : True := ⟨⟩
theorem tw6679490504615227074 : True := ⟨⟩
theorem tw6711915476519705758 : True := ⟨⟩
theorem tw6792406925840432001 : True := ⟨⟩
theorem tw6817277305950994716 : True := ⟨⟩
theorem tw682011567655089306 : True := ⟨⟩
theorem tw6929956602132211858 : True := ⟨⟩
theorem tw704327219915372674 : True := ⟨⟩
theorem tw7198390536060210744 : True := ⟨⟩
theorem tw7232422423428716515 : True := ⟨⟩
theorem tw7269565832213808900 : True := ⟨⟩
theorem tw7275051467321613617 : True := ⟨⟩
theorem tw7276740287692124622 : True := ⟨⟩
theorem tw7299303143086499733 : True := ⟨⟩
theorem tw7323676302269181137 : True := ⟨⟩
theorem tw7392212959928792091 : True := ⟨⟩
theorem tw7401281599722004195 : True := ⟨⟩
theorem tw7496433998918960881 : True := ⟨⟩
theorem tw7581352650102555174 : True := ⟨⟩
theorem tw7650934615059315214 : True := ⟨⟩
theorem tw7745614565497352828 : True := ⟨⟩
theorem tw7892128664451923741 : True := ⟨⟩
theorem tw8075568018651887793 : True := ⟨⟩
theorem tw8098380416015320538 : True := ⟨⟩
theorem tw8119918657739134586 : True := ⟨⟩
theorem tw8206430501311747189 : True := ⟨⟩
theorem tw8376441433122354887 : True := ⟨⟩
theorem tw8400853705098224536 : True := ⟨⟩
theorem tw8424611434330503625 : True := ⟨⟩
theorem tw8537084889766193716 : True := ⟨⟩
theorem tw8579058602437062094 : True := ⟨⟩
theorem tw8595292554425487202 : True := ⟨⟩
theorem tw8642067239939848140 : True := ⟨⟩
theorem tw8693227569615203950 : True := ⟨⟩
theorem tw8703263022893421829 : True := ⟨⟩
theorem tw8719427161674164953 : True := ⟨⟩
theorem tw8727135674562949291 : True := ⟨⟩
theorem tw8753696776887207221 : True := ⟨⟩
theorem tw8860024209350480642 : True := ⟨⟩
theorem tw900395245841561262 : True := ⟨⟩
theorem tw912392155897948271 : True := ⟨⟩
theorem tw9136488742655976645 : True := ⟨⟩
theorem tw9137105182441381901 : True := ⟨⟩
theorem tw9285146279643344392 : True := ⟨⟩
theorem tw9315938663221665524 : True := ⟨⟩
theorem tw932993149863042379 : True := ⟨⟩
theorem tw939162767068533735 : True := ⟨⟩
theorem tw9407582987413476825 : True := ⟨⟩
theorem tw9458956999447867950 : True := ⟨⟩
theorem tw9467589175468403638 : True := ⟨⟩
theorem tw951843321253372498 : True := ⟨⟩
theorem tw9529234661008812162 : True := ⟨⟩
theorem tw9564595351457756722 : True := ⟨⟩
theorem tw9594665118957945026 : True := ⟨⟩
theorem tw9759809726879904816 : True := ⟨⟩
theorem tw9763268239775435451 : True := ⟨⟩
theorem tw976971711843200656 : True := ⟨⟩
theorem tw9787463984185863102 : True := ⟨⟩
theorem tw9862997608875712007 : True := ⟨⟩
theorem tw9908251947323293946 : True := ⟨⟩
theorem tw9931943479562821362 : True := ⟨⟩
theorem tw9948023125614773506 : True := ⟨⟩
theorem tw9951705424602377420 : True := ⟨⟩
end PySem.W.Fast
local macro_rules | `(tactic| walk_at $s:str) => `(tactic| k_extra $s)
local macro_rules | `(tactic| k_mem) => `(tactic| k_extra "k_mem")
local macro_rules | `(tactic| k_ne) => `(tactic| k_extra "k_ne")
local macro_rules | `(tactic| k_steps) => `(tactic| k_extra "k_steps")
namespace Mine
section
noncomputable def badIds : List String := ["bytearray.__contains__", "bytearray.__mod__", "bytearray.__rmod__", "_struct.pack_into.held", "bytearray.find.held"] ++ Builtin.Bytes.decodersThatHold
noncomputable def badC : Code → Bool
  | .builtin id _ => badIds.contains id
  | _ => false
noncomputable def Real (Γ : PySem.Ctx) : Prop := badC Γ.code = false ∧ ∀ c ∈ Γ.below, badC c.1 = false
noncomputable def cleanSt (st : List (Code × Pos)) : Bool := st.all fun x => !badC x.1
theorem clean_real {Γ : PySem.Ctx} {p : Pos} : cleanSt ((Γ.code, p) :: Γ.below) = true ↔ Real Γ := by
  simp [cleanSt, Real]
noncomputable def guardR {α : Type} (t d : Sem α) : Sem α := .stack fun st => if cleanSt st then t else d
theorem wp_guardR {α : Type} {M : Model} {Γ : PySem.Ctx} {t d : Sem α} {Q : α → Pos → Shared → Prop} {E : Value → Pos → Shared → Prop} {p : Pos} {s : Shared} :
    Sem.wp M Γ (guardR t d) Q E p s ↔ ((Real Γ → Sem.wp M Γ t Q E p s) ∧ (¬ Real Γ → Sem.wp M Γ d Q E p s)) := by
  unfold guardR
  rw [Sem.wp_stack]
  by_cases h : Real Γ
  · rw [clean_real.mpr h]; simp [h]
  · have hc : cleanSt ((Γ.code, p) :: Γ.below) = false := by
      cases hh : cleanSt ((Γ.code, p) :: Γ.below)
      · rfl
      · exact absurd (clean_real.mp hh) h
    rw [hc]; simp [h]
theorem sched_guard {prog : Program} {w : World} {t d : Sem Fin} {s s' : Shared} {o : Outcome} {n : Nat} (hr : s.asleep)
    (h : schedN (denote table) prog w n (.single s ⟨guardR t d, .builtin "claim.caller" {}, default, []⟩) = .halted o s') :
    ∃ m, schedN (denote table) prog w m (.single s ⟨t, .builtin "claim.caller" {}, default, []⟩) = .halted o s' := by
  cases n with
  | zero => cases h
  | succ n =>
    have e : sstep (denote table) prog w (.single s ⟨guardR t d, .builtin "claim.caller" {}, default, []⟩) = .go (.single s ⟨t, .builtin "claim.caller" {}, default, []⟩) := by
      have h0 : step (denote table) prog w s ⟨guardR t d, .builtin "claim.caller" {}, default, []⟩ = .go s ⟨t, .builtin "claim.caller" {}, default, []⟩ := by
        obtain ⟨heap, gens, drawn, toks, os⟩ := s
        rfl
      rcases sstep_single (den := denote table) (prog := prog) (w := w) s ⟨guardR t d, .builtin "claim.caller" {}, default, []⟩ (by rfl) hr with e | e
      · rw [e, h0]; rfl
      · rw [h0] at e; cases e
    simp only [schedN, e] at h
    exact ⟨n, h⟩
theorem holdsBy_stub {stub stub' : List Value → Thread} {defs keeps : List Str} {writes : Bool} {c : ClaimW}
    (h : ∀ vs (w : World) (s s' : Shared) o n, s.asleep → schedN (denote table) c.prog w n (.single s (stub vs)) = .halted o s' → ∃ m, schedN (denote table) c.prog w m (.single s (stub' vs)) = .halted o s')
    (H : c.HoldsOpenBy stub defs keeps writes) : c.HoldsOpenBy stub' defs keeps writes := by
  obtain ⟨h1, h2, h3⟩ := H
  refine ⟨h1, h2, fun w => ⟨(h3 w).1, fun s hs => ?_⟩⟩
  obtain ⟨s₀, hf, hg, s₁, hT, hd, hr1, hr2, C⟩ := (h3 w).2 s hs
  refine ⟨s₀, hf, hg, s₁, hT, hd, hr1, hr2, fun args a1 a2 ord a3 => ?_⟩
  obtain ⟨vs, s₂, hl, n, o, s', hrun, rest⟩ := C args a1 a2 ord a3
  have z1 : s₁.asleep := Shared.asleep_of_life hT.2.1 (Shared.asleep_of_life (fence_lifeW hf) (AfterImport.life hs))
  have z2 : s₂.asleep := Shared.asleep_of_life (layAllW_rest _ _ _ hl).2.2.2 z1
  obtain ⟨m, hm⟩ := h vs w s₂ s' o n z2 hrun
  exact ⟨vs, s₂, hl, m, o, s', hm, rest⟩
namespace PySem.W
theorem holds_open {r : OpenRow} {q : Program} {loose : List PySem.Str} {Xt : Shared → Bool} {XP : (PySem.Str → Option Value) → Heap → Prop} {α : Type} {Yf : Shared → α} {Ya : World → α} {YP : World → Heap → Prop} {d : DefRec} {kwd : List (PySem.Str × Expr)} {N : Nat}
    (left : LeftO r.prog q loose Xt Yf Ya N) (hY : ∀ w s, Yf s = Ya w → YP w s.heap) (hYk : ∀ w h h', YP w h → (∀ b o, h.get? b = some o → h'.get? b = some o) → YP w h')
    (hX : ∀ s, Xt s = true → XP (s.heap.nsMap mainGlobals) s.heap) (hXk : ∀ mg h h', XP mg h → (∀ b o, h.get? b = some o → h'.get? b = some o) → XP mg h')
    (hdef : defOf q r.name = some (d, kwd)) (hp : r.prog.theDef r.name = some (d.params, d.body, d.scope)) (hk : kwWritten? d.params.kwonlyargs d.params.kw_defaults = some kwd) (hRf : ∀ s, Xt s = true → RecFacts r.records s.heap) (hwr : (!r.writes || r.records.isEmpty) = true)
    (k1 : r.wellSaid = true) (ok : (chainsOk q && opensWell r.prog && (frees r.toRowW && r.within.isEmpty)) = true) (hb : r.prog.bare) (hw : r.toRowW.promised)
    (call : WalkO q loose XP YP r.toRowW d kwd fun f vs => guardR (_root_.PySem.call f vs) (Pure.pure (.bool true))) : r.Holds := by
  let tree : List Value → Sem Fin := fun vs => do match ← nsGet mainNs r.name with
      | some f => do ret (← _root_.PySem.call f vs)
      | none => unsupported "claim.caller:no-such-global"
  refine ⟨k1, hw, holdsBy_stub (stub := fun vs => ⟨guardR (tree vs) (Pure.pure (.done (.ret (.bool true)))), .builtin "claim.caller" {}, default, []⟩)
    (fun vs w s s' o n hr h => sched_guard hr h)
    (open_anyG (r := r.toRowW) (run := fun f vs => guardR (_root_.PySem.call f vs) (Pure.pure (.bool true))) (tree := fun vs => guardR (tree vs) (Pure.pure (.done (.ret (.bool true))))) left hY hYk hX hXk hRf hwr ok hb hw
    (fun vs w s mg f Q E hg hf h => ?_) (fun w s hg G n hn => ?_) fun w s₀ s₁ mg mb G Y args vs as hpre hlay L low => ?_)⟩
  · intro Γ p hΓ
    obtain ⟨h1, h2⟩ := wp_guardR.mp (h Γ p hΓ)
    refine wp_guardR.mpr ⟨fun hr => ?_, fun hr => ?_⟩
    · show Sem.wp _ Γ (nsGet mainNs r.name >>= fun x => match x with
        | some f => (_root_.PySem.call f vs >>= fun v => ret v)
        | none => unsupported "claim.caller:no-such-global") _ _ p s
      rw [Sem.wp_bind']
      refine wpAny_nsGet (E := E) hg (Q := fun a s' => ∀ p', Sem.wp (model r.prog w) Γ (match a with
        | some f => (_root_.PySem.call f vs >>= fun v => ret v)
        | none => unsupported "claim.caller:no-such-global") (fun a _ s' => Q a s') (fun e _ s' => E e s') p' s') ?_ Γ p hΓ |> Sem.wp_mono _ _ _ (fun a p' s' x => x p') (fun _ _ _ x => x) _ _
      intro p'
      rw [hf]
      show Sem.wp _ Γ (_root_.PySem.call f vs >>= fun v => ret v) _ _ p' s
      rw [Sem.wp_bind']
      have h3 := wp_guardR.mp (h Γ p' hΓ)
      exact Sem.wp_mono _ _ _ (fun v p'' s' x => x) (fun _ _ _ x => x) _ _ (h3.1 hr)
    · have := h2 hr
      rw [Sem.wp_pure'] at this ⊢
      exact this
  · obtain rfl : n = r.name := by split at hn <;> simp_all
    exact pinned_of_view hg G hdef hp hk
  · obtain ⟨a, o, pm, cd, doc, dV, kV, h1, h2, h3, h4, h5⟩ := G.fn hdef
    exact ⟨.ref a, h1, call w s₀ s₁ mg mb G Y a o pm cd doc dV kV h2 h3 h4 h5 (defOf_name hdef ▸ h1) L.gens args vs as hpre hlay L.reads L.well (L.low low)⟩
end PySem.W

end
section
open_top hd for PySem.Challenge.rw_pf0076_01

end
namespace Internal
section

noncomputable def DictSame (h h' : Heap) : Prop := ∀ a o, h.get? a = some o → ∃ o', h'.get? a = some o' ∧ o'.dict = o.dict ∧ o'.cls = o.cls
theorem DictSame.refl (h : Heap) : DictSame h h := fun _ o e => ⟨o, e, rfl, rfl⟩
theorem DictSame.trans {h₁ h₂ h₃ : Heap} (x : DictSame h₁ h₂) (y : DictSame h₂ h₃) : DictSame h₁ h₃ := fun a o e =>
  let ⟨o1, e1, d1, c1⟩ := x a o e; let ⟨o2, e2, d2, c2⟩ := y a o1 e1; ⟨o2, e2, d2.trans d1, c2.trans c1⟩
theorem DictSame.push (h : Heap) (o : Obj) : DictSame h (h.push o) := fun _ o' e => ⟨o', Heap.get?_push_of_some o e, rfl, rfl⟩
theorem DictSame.update (h : Heap) (a : Addr) (f : Obj → Obj) (hf : ∀ o, (f o).dict = o.dict ∧ (f o).cls = o.cls ∧ (f o).isFreed = o.isFreed) : DictSame h (h.update a f) := fun b o e => by
  by_cases q : a = b
  · subst q
    exact ⟨f o, Heap.get?_update_self f e ((hf o).2.2.trans (Heap.get?_some_iff.mp e).2), (hf o).1, (hf o).2.1⟩
  · exact ⟨o, (Heap.get?_update_other _ _ q).trans e, rfl, rfl⟩
structure Steady {α : Type} (t : Sem α) : Prop where
  out : ∀ (M : Model) (Γ : PySem.Ctx) (P : α → Pos → Shared → Prop) (Ee : Value → Pos → Shared → Prop) (p : Pos) (s : Shared), Sem.wp M Γ t P Ee p s →
    Sem.wp M Γ t (fun a p' s' => P a p' s' ∧ DictSame s.heap s'.heap) (fun e p' s' => Ee e p' s' ∧ DictSame s.heap s'.heap) p s
namespace Steady
variable {α β : Type}
theorem pure (a : α) : Steady (Pure.pure a : Sem α) := ⟨fun _ _ _ _ _ s h => ⟨h, DictSame.refl s.heap⟩⟩
theorem unsupported (w : String) : Steady (PySem.unsupported w : Sem α) := ⟨fun _ _ _ _ _ _ h => h⟩
theorem bind {m : Sem α} {f : α → Sem β} (hm : Steady m) (hf : ∀ a, Steady (f a)) : Steady (m >>= f) := ⟨fun M Γ P Ee p s h => by
  rw [Sem.wp_bind'] at h ⊢
  refine Sem.wp_mono M Γ m (fun a p' s' h' => ?_) (fun _ _ _ x => x) p s (hm.out M Γ _ Ee p s h)
  exact Sem.wp_mono M Γ (f a) (fun _ _ _ z => ⟨z.1, h'.2.trans z.2⟩) (fun _ _ _ z => ⟨z.1, h'.2.trans z.2⟩) p' s' ((hf a).out M Γ P Ee p' s' h'.1)⟩
theorem ite {c : Prop} [Decidable c] {t u : Sem α} (ht : Steady t) (hu : Steady u) : Steady (if c then t else u) := by split <;> assumption
theorem load (a : Addr) : Steady (PySem.load a) := ⟨fun M Γ P Ee p s h => by
  obtain ⟨o, ho, h⟩ := h
  exact ⟨o, ho, h, DictSame.refl s.heap⟩⟩
theorem stack : Steady PySem.stack := ⟨fun M Γ P Ee p s h => by
  unfold PySem.stack at h ⊢
  rw [Sem.wp_stack] at h ⊢
  exact ⟨h, DictSame.refl s.heap⟩⟩
theorem alloc (o : Obj) : Steady (PySem.alloc o) := ⟨fun M Γ P Ee p s h => ⟨h, DictSame.push s.heap o⟩⟩
theorem update (a : Addr) (f : Obj → Obj) (hf : ∀ o, (f o).dict = o.dict ∧ (f o).cls = o.cls ∧ (f o).isFreed = o.isFreed) : Steady (PySem.update a f) := ⟨fun M Γ P Ee p s h => by
  obtain ⟨ha, h⟩ := h
  exact ⟨ha, h, DictSame.update s.heap a f hf⟩⟩
theorem fieldsOf (v : Value) : Steady (PySem.fieldsOf v) := by
  cases v <;> first | exact unsupported _ | skip
  refine bind (load _) fun o => ?_
  obtain ⟨_, _, dt, _⟩ := o
  cases dt <;> first | exact unsupported _ | exact pure _
theorem field (v : Value) (i : Nat) : Steady (PySem.field v i) := by
  unfold PySem.field
  refine bind (fieldsOf v) fun vs => ?_
  generalize vs[i]? = z
  cases z with
  | none => exact unsupported _
  | some x => exact pure _
theorem mapFields_same (f : Array Value → Array Value) (o : Obj) : (Obj.mapFields f o).dict = o.dict ∧ (Obj.mapFields f o).cls = o.cls ∧ (Obj.mapFields f o).isFreed = o.isFreed := by
  obtain ⟨c, d, dt, sl⟩ := o
  cases dt <;> exact ⟨rfl, rfl, rfl⟩
theorem setField (v : Value) (i : Nat) (x : Value) : Steady (PySem.setField v i x) := by
  cases v <;> first | exact unsupported _ | skip
  show Steady (updateField _ _ _)
  unfold updateField
  refine bind (load _) fun o => ?_
  obtain ⟨_, _, dt, _⟩ := o
  cases dt <;> first | exact unsupported _ | exact ite (update _ _ (mapFields_same _)) (unsupported _)
theorem newFields (c : String) (l : List Value) : Steady (PySem.newFields c l) := by
  unfold PySem.newFields newObj newObjAsIs
  repeat' with_reducible first
    | exact pure _
    | exact unsupported _
    | exact alloc _
    | apply ite
    | apply bind
    | intro _
    | split
end Steady
theorem steady_underTheClaimsCaller : Steady underTheClaimsCaller := by
  unfold underTheClaimsCaller
  exact .bind .stack fun _ => .pure _
theorem steady_behindIsImport (env : Env) (outer : List Env) : Steady (behindIsImport env outer) := by
  unfold behindIsImport
  repeat' with_reducible first
    | exact .pure _
    | exact .field _ _
    | apply Steady.ite
    | apply Steady.bind
    | intro _
theorem steady_keptBack (env : Env) (i : Bool) (l : List Env) : Steady (keptBack env i l) := by
  cases l <;> unfold keptBack <;> repeat' with_reducible first
    | exact .pure _
    | exact steady_underTheClaimsCaller
    | apply Steady.ite
    | apply Steady.bind
    | intro _
theorem steady_readyFrames : ∀ l : List Env, Steady (readyFrames l)
  | [] => .pure _
  | env :: outer => by
    have ih := steady_readyFrames outer
    unfold readyFrames
    generalize env.frame = fr
    cases fr with
    | none => exact .unsupported _
    | some f =>
    dsimp only
    repeat' first
      | with_reducible exact ih
      | with_reducible exact .pure _
      | with_reducible exact .unsupported _
      | with_reducible exact .load _
      | with_reducible exact steady_behindIsImport _ _
      | with_reducible exact steady_keptBack _ _ _
      | (refine Steady.update _ _ ?_; intro o; refine ⟨rfl, rfl, ?_⟩; obtain ⟨_, _, dt, _⟩ := o; cases dt <;> rfl)
      | with_reducible apply Steady.ite
      | with_reducible apply Steady.bind
      | intro _
theorem steady_frameOf (env : Env) : Steady (frameOf env) := by
  unfold PySem.frameOf frameEnvs
  refine .bind (.bind .stack fun _ => .pure _) fun l => .bind ?_ fun r => ?_
  · cases hl : List.dropWhile (fun x => x.frame != env.frame) l with
    | nil => exact .pure _
    | cons e r => exact .bind (steady_readyFrames _) fun _ => .pure _
  · cases r with
    | none => exact .unsupported _
    | some x => exact .pure _
theorem steady_entryPlaceOf (f : Addr) (b : Bool) : Steady (entryPlaceOf f b) := by
  unfold entryPlaceOf
  refine .bind .stack fun l => ?_
  generalize l.find? _ = z
  cases z <;> exact .pure _
theorem steady_setFlight (e : Value) (f : Option Addr) : Steady (setFlight e f) := by
  unfold setFlight
  refine .bind (.field _ _) fun _ => .ite (.setField _ _ _) (.pure _)
theorem steady_noteFrame (e : Value) (env : Env) : Steady (noteFrame e env) := by
  unfold noteFrame EntryCells.newEntry
  generalize env.frame = fr
  cases fr with
  | none => exact .unsupported _
  | some f =>
  dsimp only
  repeat' first
    | with_reducible exact .pure _
    | with_reducible exact .unsupported _
    | with_reducible exact .field _ _
    | with_reducible exact .setField _ _ _
    | with_reducible exact steady_frameOf _
    | with_reducible exact steady_entryPlaceOf _ _
    | with_reducible exact .newFields _ _
    | with_reducible apply Steady.ite
    | with_reducible apply Steady.bind
    | intro _
theorem steady_leaving (env : Env) (e : Value) : Steady (leaving env e) := by
  unfold leaving
  exact .bind (steady_noteFrame _ _) fun _ => steady_setFlight _ _
theorem wpAny_steady {α : Type} {M : Model} {A : Around} {E : Value → Shared → Prop} {s : Shared} {t : Sem α} {Q : α → Shared → Prop} (S : Steady t)
    (h : wpAny M A t (fun a s' => DictSame s.heap s'.heap → Q a s') E s) : wpAny M A t Q E s := fun Γ p hΓ =>
  Sem.wp_mono M Γ t (fun _ _ _ z => z.1 z.2) (fun _ _ _ z => z.1) p s (S.out M Γ _ _ p s (h Γ p hΓ))

end
section

noncomputable def Exc (base : Heap) (l : List Env) (G : Heap) (news : List (Addr × Obj)) (e : Addr) (sp : Int) (h : Heap) : Prop :=
  ∃ d es n tk, getL (Str.ofString "spot") es = some (some (.int sp tk)) ∧ RaisedSN base G l e (.ref 52) ((d, dictOf es n) :: news) h ∧ G.UpToSlots h ∧ ∃ oe, h.get? e = some oe ∧ oe.dict = some d
theorem Exc.weaken {base : Heap} {l : List Env} {G : Heap} {news news' : List (Addr × Obj)} {e : Addr} {sp : Int} {h : Heap} (x : Exc base l G news' e sp h) (hs : ∀ q ∈ news, q ∈ news') : Exc base l G news e sp h := by
  obtain ⟨d, es, n, tk, hg, ⟨B, a0, h1, h2, h3, h4⟩, hu, ho⟩ := x
  refine ⟨d, es, n, tk, hg, ⟨B, a0, h1, h2, fun q hq => h3 q ?_, h4⟩, hu, ho⟩
  rcases List.mem_cons.mp hq with rfl | hq
  · exact .head _
  · exact .tail _ (hs q hq)
noncomputable abbrev exc52d (t : Addr) (dd : Option Addr) : Obj := { cls := .ref 52, dict := dd, data := .fields #[.ref t, .none, .none, .none, .bool false, .none] }
noncomputable def MadeFault (g : Heap) (L : Addr) (h : Heap) (news : List (Addr × Obj)) (e : Addr) (sp : Int) : Prop :=
  ∃ d es n tk t, getL (Str.ofString "spot") es = some (some (.int sp tk)) ∧ News g L h ((d, dictOf es n) :: news) ∧ h.get? e = some (exc52d t (some d)) ∧ g.get? e = none ∧ ∀ q ∈ ((d, dictOf es n) :: news), q.1 ≠ e
section
variable {M : Model} {A : Around} {E : Value → Shared → Prop} {s' : Shared} {base g g₂ : Heap} {outer : List Env} {L a e : Addr} {m : Str → Option Value} {name : Str} {scope : Scope} {cd : Value} {Q : Unit → Shared → Prop} {news : List (Addr × Obj)} {sp : Int}
theorem leave_next (K : Below A base outer g) (F : Fr g L g₂ m) (R : Exc base (envOf name scope L a cd :: outer) g₂ news e sp s'.heap)
    (hQ : ∀ h', Exc base outer g news e sp h' → Q () { s' with heap := h' }) : wpAny M (A.deeper (envOf name scope L a cd)) (leaving (envOf name scope L a cd) (.ref e)) Q E s' := by
  obtain ⟨d, es, n, tk, hg, R, hu, oe, ho, hd⟩ := R
  refine wpAny_steady (steady_leaving _ _) (leave_onSN K F R hu fun h' R' _ U' hsame => hQ h' ?_)
  obtain ⟨oe', ho', hd', _⟩ := hsame e oe ho
  exact ⟨d, es, n, tk, hg, R', U', oe', ho', hd'.trans hd⟩
theorem leave_first (K : Below A base outer g) (F : Fr g L s'.heap m) (R : MadeFault g L s'.heap news e sp) (hk : scope.kind = .function)
    (hQ : ∀ h', Exc base outer g news e sp h' → Q () { s' with heap := h' }) : wpAny M (A.deeper (envOf name scope L a cd)) (leaving (envOf name scope L a cd) (.ref e)) Q E s' := by
  obtain ⟨d, es, n, tk, t, hg, N, he, hge, hne⟩ := R
  have K' := K.push (name := name) (a := a) (cd := cd) F hk
  have hin : ∀ env ∈ (envOf name scope L a cd :: outer), ∀ b, env.frame = some b → b ∈ e :: (envOf name scope L a cd :: outer).filterMap (·.frame) := fun env hm b hb => .tail _ (List.mem_filterMap.mpr ⟨env, hm, hb⟩)
  have notE : ∀ b o, base.get? b = some o → b ≠ e := fun b o q hbe => by
    have := K.stays b o q
    rw [hbe, hge] at this
    cases this
  have notE' : ∀ b o, g.get? b = some o → b ≠ e := fun b o q hbe => by
    rw [hbe, hge] at q
    cases q
  have st : base.StaysIn (hideAll s'.heap (e :: (envOf name scope L a cd :: outer).filterMap (·.frame))) := fun b o q => hideAll_get _ (K'.stays b o q) fun hm => by
    rcases List.mem_cons.mp hm with hm | hm
    · exact notE b o q hm
    · rw [(K'.frames.mem hm).1] at q; cases q
  have sg : ∀ b o, g.get? b = some o → b ∉ outer.filterMap (·.frame) → (hideAll s'.heap (e :: (envOf name scope L a cd :: outer).filterMap (·.frame))).get? b = some o := fun b o q nm => hideAll_get _ (F.keep b o q) fun hm => by
    rcases List.mem_cons.mp hm with hm | hm
    · exact notE' b o q hm
    · rcases kts_mem hm with z | z
      · rw [z, kts_self F] at q; cases q
      · exact nm z
  have hl : ∀ q ∈ ((d, dictOf es n) :: news), (hideAll s'.heap (e :: (envOf name scope L a cd :: outer).filterMap (·.frame))).get? q.1 = some q.2 ∧ g.get? q.1 = none ∧ base.get? q.1 = none := fun q hq => by
    refine ⟨hideAll_get _ (N q hq).1 fun hm => ?_, (N q hq).2.2, fresh_of_stays K.stays (N q hq).2.2⟩
    rcases List.mem_cons.mp hm with hm | hm
    · exact hne q hq hm
    · obtain ⟨env, hm', hf⟩ := List.mem_filterMap.mp hm
      rcases List.mem_cons.mp hm' with rfl | hm'
      · exact (N q hq).2.1 (Option.some.inj hf).symm
      · obtain ⟨o, ho, _⟩ := (K.frames.mem (List.mem_filterMap.mpr ⟨env, hm', hf⟩)).2
        rw [(N q hq).2.2] at ho; cases ho
  have hen : (hideAll s'.heap (e :: (envOf name scope L a cd :: outer).filterMap (·.frame))).get? e = none := hideAll_none _ (.head _)
  refine wpAny_steady (steady_leaving _ _) (wpAny_leaving_firstW (a0 := .ref t) K'.stack (funFrames_hide K'.frames hin) rfl he (fun b o q => of_hideAll _ q) hen rfl rfl rfl fun h' hL hsame => hQ h' ?_)
  obtain ⟨k1, ⟨_, _, k2⟩, k3, k4⟩ := hL
  obtain ⟨oe', ho', hd', _⟩ := hsame e _ he
  exact ⟨d, es, n, tk, hg, ⟨_, .ref t, st, sg, hl, k1, hen, k2, k3⟩, (Heap.UpToSlots.of_keeps F.keep).trans k4, oe', ho', hd'⟩
end
noncomputable def Ctr (w : World) (f : Addr) (vs : List Value) (d u : Nat) (led : List (Addr × Obj)) (R : Value → List (Addr × Obj) → Prop) (X : Int → Prop) : Prop :=
  ∀ (p : Program) (loose : List Str) (mean : ExcName → Option Value) (mg mb : Str → Option Value) (dp un : Nat) (gd : Option (List Code)) (cn : Str) (cs : Scope) (a : Addr) (ccd : Value) (cl : List (Str × Addr))
    (outer : List Env) (A₀ : Around) (base h₀ : Heap) (L : Addr) (m : Str → Option Value) (news : List (Addr × Obj)) (s : Shared) (Q E : Value → Shared → Prop),
    Below A₀ base outer h₀ → Fr h₀ L s.heap m → (Mine.hd.heap_39 w.params).In h₀ → News h₀ L s.heap news → Top p loose mean mg mb h₀ → cs.kind = .function → dp + d < recursionLimit → un + u < cLine →
    (∀ q ∈ led, q ∈ news) →
    (∀ v nw h' tk, R v nw → Fr h₀ L h' m → News h₀ L h' (nw ++ news) → (∀ q ∈ news, ∀ p ∈ nw, q.1 < p.1) → Q v { s with heap := h', toks := tk }) →
    (∀ e sp h' tk g, X sp → Fr h₀ L g m → Exc base (envX cn cs L a ccd cl :: outer) g news e sp h' → E (.ref e) { s with heap := h', toks := tk }) →
    wpAny (model PySem.Challenge.pw_pf0076_01 w) (ktrTop dp un gd cn cs L a ccd cl outer) (call (.ref f) vs) Q E s
theorem room7 {d b l : Nat} (h : d + b < l) : d < l := Nat.lt_of_le_of_lt (Nat.le_add_right d b) h
theorem room8 {d b c l : Nat} (h : d + b < l) (h9 : Nat.ble c b = true) : d + c < l := Nat.lt_of_le_of_lt (Nat.add_le_add_left (Nat.le_of_ble_eq_true h9) d) h
theorem room9 {d a b c l : Nat} (h : d + b < l) (h9 : Nat.ble (a + c) b = true) : d + a + c < l := by rw [Nat.add_assoc]; exact room8 h h9
theorem Ctr.use {w : World} {f : Addr} {vs : List Value} {d u : Nat} {led : List (Addr × Obj)} {R : Value → List (Addr × Obj) → Prop} {X : Int → Prop} (C : Ctr w f vs d u led R X)
    {p : Program} {loose : List Str} {mean : ExcName → Option Value} {mg mb : Str → Option Value} {dp un : Nat} {gd : Option (List Code)} {cn : Str} {cs : Scope} {a : Addr} {ccd : Value} {cl : List (Str × Addr)}
    {outer : List Env} {A₀ : Around} {base h₀ : Heap} {L : Addr} {m : Str → Option Value} {news : List (Addr × Obj)} {s : Shared} {Q E : Value → Shared → Prop}
    (B : Below A₀ base outer h₀) (F : Fr h₀ L s.heap m) (K : (Mine.hd.heap_39 w.params).In h₀) (N : News h₀ L s.heap news) (T : Top p loose mean mg mb h₀) (hk : cs.kind = .function) (hd : dp + d < recursionLimit) (hu : un + u < cLine)
    (hl : ∀ q ∈ led, q ∈ news)
    (he : ∀ e sp h' tk g, X sp → Fr h₀ L g m → Exc base (envX cn cs L a ccd cl :: outer) g news e sp h' → E (.ref e) { s with heap := h', toks := tk })
    (hr : ∀ v nw h' tk, R v nw → Fr h₀ L h' m → News h₀ L h' (nw ++ news) → (∀ q ∈ news, ∀ p ∈ nw, q.1 < p.1) → Q v { s with heap := h', toks := tk }) :
    wpAny (model PySem.Challenge.pw_pf0076_01 w) (ktrTop dp un gd cn cs L a ccd cl outer) (call (.ref f) vs) Q E s :=
  C p loose mean mg mb dp un gd cn cs a ccd cl outer A₀ base h₀ L m news s Q E B F K N T hk hd hu hl hr he
noncomputable def Hold (P : Prop) : Prop := P
theorem Hold.out {P : Prop} (h : Hold P) : P := h
theorem Hold.mk {P : Prop} (h : P) : Hold P := h

end
section
theorem reg : (fun (_ : OpenLaw) (_ : Params → Frag) => True) PySem.Challenge.rw_pf0076_01 Mine.hd.heap_39 := by
  k_fill
  trivial
noncomputable abbrev bm52 : List Value := [.ref 39, .type "Exception", .type "BaseException", .type "object"]
noncomputable abbrev exc52 (t : Addr) : Obj := { cls := .ref 52, data := .fields #[.ref t, .none, .none, .none, .bool false, .none] }
section
variable {prog : Program} {w : World} {A : Around} {R : Result → Shared → Prop} {E : Value → Shared → Prop} {h : Heap} {g : Array GenState} {d : Drawn} {t : Nat} {os : OsState}
variable {nm q : Str} {N : Addr} {bs : List Value} {hdct : Bool} {sn : List Str} {sub : List Value} {ab : Bool} {col : Option Bool} {dd : Option Addr} {k0 k1 k2 k3 k5 : Option Value}
theorem new52 {rest : List Value} (hC : h.get? 52 = some (excClassObj nm q 52 N bs bm52 hdct sn sub ab col dd k0 k1 k2 k3 k5 "Exception.__new__"))
    (hq : R (.ok (.ret (.ref (h.objs.size + 1)))) ⟨(h.push { cls := .type "tuple", data := .seq rest.toArray }).push (exc52 h.objs.size), g, d, t, os⟩) (hrest : rest.length ≤ sizeLine) :
    codeAny (model prog w) A (.builtin "Exception.__new__" ⟨.ref 52 :: rest, []⟩) R ⟨h, g, d, t, os⟩ := by
  have F := PySem.F.excBase_Exception
  have hends := F.ends
  have hcB : (Value.ref 52 :: bm52).contains (.type "Exception") = true := by decide +kernel
  have hcA : (Value.ref 52 :: bm52).contains (.type "AttributeError") = false := by decide +kernel
  have hcN : (Value.ref 52 :: bm52).contains (.type "NameError") = false := by decide +kernel
  refine codeAny_builtinAt F.entry ?_
  unfold Builtin.«BaseException.__new__»
  refine PySem.wpAt_bind ?_
  show PySem.wpAt _ _ _ (stack >>= _) _ _ _
  refine PySem.wpAt_bind (PySem.wpAt_stack fun p below => PySem.wpAt_of_wpAny ?_)
  wp_walk
  refine PySem.wpAt_of_wpAny ?_
  rw [F.owner]
  repeat (first | with_reducible refine wpAny_madeHere_exc F.canon hC ?_ | with_reducible refine wpAny_loadPart_at hC ?_ | (with_reducible refine wpAny_isSubtype_exc hC ?_; first | rw [hcB] | rw [hcA] | rw [hcN]) | wp_step)
  show R _ _
  rw [Heap.size_push]
  exact hq
theorem check_new52 {M : Model} {rest : List Value} {Q : Unit → Shared → Prop} (hC : h.get? 52 = some (excClassObj nm q 52 N bs bm52 hdct sn sub ab col dd k0 k1 k2 k3 k5 "Exception.__new__"))
    (hq : Q () ⟨h, g, d, t, os⟩) : wpAny M A (checkBuiltinCall "Exception.__new__" ⟨.ref 52 :: rest, []⟩) Q E ⟨h, g, d, t, os⟩ := by
  have F := PySem.F.excBase_Exception
  have hcont : (Value.ref 52 :: bm52).contains (.type "Exception") = true := by decide +kernel
  have hstar := F.noStar
  simp only [checkBuiltinCall, F.newKind, F.newSplit, F.newRow]
  repeat (first | refine wpAny_loadPart_at hC ?_ | (refine wpAny_isSubtype_exc hC ?_; rw [hcont]) | refine wpAny_staticBase_exc hC ?_ | refine wpAny_madeBy_exc hC ?_ | simp only [bne_self_eq_false, Bool.false_eq_true, if_false] | wp_step)
  exact hq
theorem type_call52 {K : Frag} {rest : List Value} {fI : Addr} {Q : Fin → Shared → Prop} (X : K.In h)
    (hC : h.get? 52 = some (excClassObj nm q 52 N bs bm52 hdct sn sub ab col dd k0 k1 k2 k3 k5 "Exception.__new__"))
    (hi : findIn K (.ref 52) "__init__" = some (some (.ref fI))) (hf : typeIn K (.ref fI) = some (.type "function"))
    (hq : wpAny (model prog w) A (call (.ref fI) (.ref (h.objs.size + 1) :: rest)) (fun r s' => r = .none ∧ Q (.done (.ret (.ref (h.objs.size + 1)))) s') E ⟨(h.push { cls := .type "tuple", data := .seq rest.toArray }).push (exc52 h.objs.size), g, d, t, os⟩) (hrest : rest.length ≤ sizeLine) :
    wpAny (model prog w) A (Builtin.«type.__call__» ⟨.ref 52 :: rest, []⟩) Q E ⟨h, g, d, t, os⟩ := by
  have F := PySem.F.excBase_Exception
  repeat (first | with_reducible refine wpAny_loadPart_at hC ?_ | with_reducible refine wpAny_madeBy_exc hC ?_ | wp_step)
  refine codeAny_call_builtin_code (Code.quiet_builtin _ F.quiet) (check_new52 hC ?_)
  refine new52 hC ?_ hrest
  show wpAny _ _ _ _ _ _
  have kp : ∀ b o, h.get? b = some o → ((h.push { cls := .type "tuple", data := .seq rest.toArray }).push (exc52 h.objs.size)).get? b = some o := fun b o e => Heap.get?_push_of_some _ (Heap.get?_push_of_some _ e)
  have hC₁ := kp _ _ hC
  have X₁ := X.keeps kp
  have hget : ((h.push { cls := .type "tuple", data := .seq rest.toArray }).push (exc52 h.objs.size)).get? (h.objs.size + 1) = some (exc52 h.objs.size) := by heap_get
  have hcC : (Value.ref 52 :: bm52).contains (.ref 52) = true := by decide +kernel
  unfold isInstance
  repeat (first | with_reducible refine wpAny_loadPart_at hget ?_ | (with_reducible refine wpAny_isSubtype_exc hC₁ ?_; rw [hcC]) | wp_step)
  show wpAny _ _ (typeLookup (.ref 52) _) _ _ _
  refine (looks_findIn X₁ hi).here ?_
  refine wpAny_holding (wpAny_bind ((bind_fn X₁ _ hf).here ?_))
  refine wpAny_bind (wpAny_mono hq (fun r s' hr => ?_) fun _ _ x => x)
  obtain ⟨rfl, hQ⟩ := hr
  wp_walk
  exact hQ
theorem call52 {K : Frag} {rest : List Value} {fI : Addr} {Q : Value → Shared → Prop} (X : K.In h)
    (hC : h.get? 52 = some (excClassObj nm q 52 N bs bm52 hdct sn sub ab col dd k0 k1 k2 k3 k5 "Exception.__new__"))
    (hi : findIn K (.ref 52) "__init__" = some (some (.ref fI))) (hf : typeIn K (.ref fI) = some (.type "function"))
    (hq : wpAny (model prog w) (A.under (.builtin "type.__call__" ⟨.ref 52 :: rest, []⟩)) (call (.ref fI) (.ref (h.objs.size + 1) :: rest)) (fun r s' => r = .none ∧ Q (.ref (h.objs.size + 1)) s') E ⟨(h.push { cls := .type "tuple", data := .seq rest.toArray }).push (exc52 h.objs.size), g, d, t, os⟩)
    (hrest : rest.length ≤ sizeLine) : wpAny (model prog w) A (call (.ref 52) rest) Q E ⟨h, g, d, t, os⟩ := by
  have f1 := tc_lookup
  have f2 := tc_bind (.ref 52)
  have hT : (⟨h, g, d, t, os⟩ : Shared).TypeIs (.ref 52) "type" := ⟨_, hC, rfl⟩
  refine wpAny_call (codeAny_of_tree ?_)
  show wpAny _ _ (callAny (.ref 52) _) _ _ _
  repeat (any_goals (first | assumption | with_reducible refine wpAny_loadPart_at hC ?_ | wp_step))
  refine ⟨rfl, ?_⟩
  exact codeAny_call_builtin_at (Code.quiet_builtin _ (by decide +kernel)) entry_typeCall (wpAny_check_type_call_sub hC (type_call52 X hC hi hf hq hrest))
end

end
section
open PySem.Builtin PySem.Builtin.ObjectAttr
theorem reg3 : (fun (_ : OpenLaw) (_ : Params → Frag) => True) PySem.Challenge.rw_pf0076_01 Mine.hd.heap_39 := by
  k_fill
  trivial
section
variable {prog : Program} {w : World} {A : Around} {R : Result → Shared → Prop} {E : Value → Shared → Prop} {K : Frag} {s : Shared} {h₀ : Heap} {L : Addr} {m : Str → Option Value} {news : List (Addr × Obj)}
theorem getm_exc {pl : Sem Bool} {Q : Value × List Value → Shared → Prop} (X : K.In s.heap)
    (e : findCls K (.type "Exception") (.type "type") (PySem.Str.ofString "__init__") = some (.val (.builtin "Exception.__init__")))
    (h : Q (.builtin "Exception.__init__", []) { s with toks := s.toks + 1 }) :
    wpAny (model prog w) A (getMethod (.type "Exception") (PySem.Str.ofString "__init__") pl) Q E s := by
  have hstub : opaqueClassAbove (.type "Exception") = pure none := by unfold opaqueClassAbove; dsimp only; rw [show Manifest.isStub "Exception" = false by decide +kernel]; rfl
  have ht : typeOf (.type "Exception") = pure (.type "type") := by first | rfl | kernel_rfl
  have L0 : Looks (model prog w) s.heap (typeOf (.type "Exception")) (.type "type") := Looks.of_pure ht
  have hg : findIn K (.type "type") "__getattribute__" = some (some (.builtin "type.__getattribute__")) := type_tga
  unfold getMethod specialOf
  refine wpAny_bind (wpAny_bind (L0.here ((looks_findIn X hg).here ?_)))
  dsimp only
  rw [if_pos canon_tga]
  refine wpAny_bind (wpAny_mono (Q := fun v => Q (v, [])) (E := E) ?_ (fun _ _ z => wpAny_pure z) fun _ _ z => z)
  have LO : Looks (model prog w) s.heap (opaqueClassAbove (.type "Exception")) none := Looks.of_pure hstub
  refine cls_open X LO L0 hg (looks_hook X (r := none) (by rfl)) (by show subIn K _ _ = _; rfl) e ?_
  exact wpAny_pure (by show wpAny _ _ (handedOut (.builtin "Exception.__init__")) _ _ _; rw [handedOut_of (by decide +kernel)]; exact wpAny_pure h)
variable {hp : Heap} {g : Array GenState} {d : Drawn} {t : Nat} {os : OsState}
variable {nm q : Str} {N : Addr} {bs : List Value} {hdct : Bool} {sn : List Str} {sub : List Value} {ab : Bool} {col : Option Bool} {dd : Option Addr} {k0 k1 k2 k3 k5 : Option Value}
theorem check_init52 {M : Model} {e : Addr} {oe : Obj} {rest : List Value} {Q : Unit → Shared → Prop} (hC : hp.get? 52 = some (excClassObj nm q 52 N bs bm52 hdct sn sub ab col dd k0 k1 k2 k3 k5 "Exception.__new__"))
    (he : hp.get? e = some oe) (hcls : oe.cls = .ref 52) (hq : Q () ⟨hp, g, d, t, os⟩) :
    wpAny M A (checkBuiltinCall "Exception.__init__" ⟨.ref e :: rest, []⟩) Q E ⟨hp, g, d, t, os⟩ := by
  have F := PySem.F.excBase_Exception
  have hcB : (Value.ref 52 :: bm52).contains (.type "Exception") = true := by decide +kernel
  have hshort := F.noStar
  simp only [checkBuiltinCall, F.initKind, F.initSplit, F.initRow]
  repeat (first | (with_reducible refine wpAny_loadPart_at he ?_; rw [hcls]) | with_reducible refine wpAny_loadPart_at hC ?_ | (with_reducible refine wpAny_isSubtype_exc hC ?_; rw [hcB]) | wp_step)
  refine wpAny_onRaise ?_
  rw [show ∀ (a b : String) (n : Nat), Bind.check ⟨.positional, "*", "Exception", .self, [⟨"args", .varPos, false⟩]⟩ a b n (List.map (fun x => x.fst) ({ pos := Value.ref e :: rest } : Args).kw) = pure () from
    fun a b n => check_star_args _ _ _ _ _ _]
  exact wpAny_pure hq
theorem init52 {e t0 : Addr} {v : Value} {Q : Value → Shared → Prop} (hC : hp.get? 52 = some (excClassObj nm q 52 N bs bm52 hdct sn sub ab col dd k0 k1 k2 k3 k5 "Exception.__new__"))
    (he : hp.get? e = some (exc52 t0))
    (hq : Q .none ⟨(hp.push { cls := .type "tuple", data := .seq #[v] }).update e (Obj.mapFields (·.setIfInBounds 0 (.ref hp.objs.size))), g, d, t, os⟩) :
    wpAny (model prog w) A (call (.builtin "Exception.__init__") [.ref e, v]) Q E ⟨hp, g, d, t, os⟩ := by
  have F := PySem.F.excBase_Exception
  refine wpAny_call (codeAny_call_builtin F.init.plain F.initEntry (check_init52 hC he rfl ?_))
  wp_walk
  exact hq
end

end
section
open PySem.Builtin PySem.Builtin.ObjectAttr
theorem reg4 : (fun (_ : OpenLaw) (_ : Params → Frag) => True) PySem.Challenge.rw_pf0076_01 Mine.hd.heap_39 := by
  k_fill
  trivial
section
variable {prog : Program} {w : World} {A : Around} {R : Result → Shared → Prop} {E : Value → Shared → Prop} {K : Frag} {s : Shared} {h₀ : Heap} {L : Addr} {m : Str → Option Value} {news : List (Addr × Obj)}
theorem refuse52 (self : Value) : refuseLoop self "__setattr__" ((.ref 52) :: bm52) = pure () := by
  rw [refuseLoop_ref, refuseLoop_ref]
  unfold refuseLoop
  kernel_rfl
theorem osa52 {x : Addr} {ox : Obj} {od : Option Obj} {name : Str} {tk : Tok} {v : Value} {cd : ClassData} (X : K.In s.heap) (I : InstAt s.heap x ox 52 od) (hc : clsIn K 52 = some cd) (hm : cd.mro = (.ref 52) :: bm52)
    (ha : findIn K (.ref 52) name = some none) (hi : mroIn K 52 (.type "object") = some true)
    (h : ∀ b, wpAny (model prog w) A.in1 (storeInOwnDict (.ref x) (.ref 52) (.str name tk) name v b)
      (fun fin s' => match fin with | .done f => R (.ok f) s' | .again c' => c'.quiet = true ∧ codeAny (model prog w) A c' R s') (fun e s' => R (.error e) s') s) :
    codeAny (model prog w) A (.call (.builtin "object.__setattr__") ⟨[.ref x, .str name tk, v], []⟩) R s := by
  have SF := PySem.F.store_object
  have sub : Looks (model prog w) s.heap (isInstance (.ref x) (.type "object")) true := I.type.andThen (looks_mroIn X hi)
  refine codeAny_call_builtin SF.slot.plain SF.entry (@check_slot (model prog w) _ _ s "object.__setattr__" "object" "__setattr__" (.ref x) [.str name tk, v] [] _ SF.kind SF.split sub (SF.args (.ref x) (.str name tk) v) ?_)
  have hml : Looks (model prog w) s.heap (mroOf (.ref 52)) ((.ref 52) :: bm52) := by rw [← hm]; exact (looks_clsIn X hc).andThen .now
  rw [osa_eq, refuse_eq]
  refine wpAny_bind (wpAny_bind (I.type.here (wpAny_bind (hml.here ?_))))
  rw [refuse52]
  have L3 : Looks (model prog w) s.heap (storeTaker? none) none := .now
  refine wpAny_pure (wpAny_bind (I.type.here (wpAny_bind ((looks_findIn X ha).here (wpAny_bind (L3.here ?_))))))
  exact h _
theorem store_in {d : Addr} {es es' : List DictEntry} {n n' : Nat} {name : Str} {tk : Tok} {v : Value} {Q : PySem.Fin → Shared → Prop} (D : s.heap.get? d = some (dictOf es n))
    (hl : (getL name es).isSome = true) (hz : es'.length ≤ 1000) (e : (putL name (PyData.keyHash w.params name) (.str name s.toks) v es, putN name es n) = (es', n'))
    (h : Q (.done (.ret .none)) { s with heap := s.heap.update d (Obj.putName name (PyData.keyHash w.params name) (.str name s.toks) v), toks := s.toks + 1 }) :
    wpAny (model prog w) A (storeInDict d (.str name tk) name v) Q E s := by
  have D' : (s.heap.update d (Obj.putName name (PyData.keyHash w.params name) (.str name s.toks) v)).get? d = some (dictOf es' n') := by
    have e1 := putName_dict name (PyData.keyHash w.params name) (.str name s.toks) v es n
    have e2 : dictOf (putL name (PyData.keyHash w.params name) (.str name s.toks) v es) (putN name es n) = dictOf es' n' := by cases e; rfl
    rw [Heap.get?_update_self _ D (by rw [e1]; rfl), e1, e2]
  unfold storeInDict newKeyGuard
  refine wpAny_bind (wpAny_pure (wpAny_bind ?_))
  unfold nsSet
  refine wpAny_bind (wpAny_bind (wpAny_askSetting (wpAny_pure (wpAny_bind (wpAny_mkText (wpAny_bind (wpAny_loadPart D ?_)))))))
  dsimp only
  have c : (!es.toArray.any (·.key.isStr name) && es.toArray.any (·.refKey)) = false := by
    rw [← Array.any_toList, ← Array.any_toList]
    unfold getL at hl
    generalize he : List.find? _ es = y at hl
    cases y with
    | some en => rw [List.any_eq_true.mpr ⟨en, List.mem_of_find?_eq_some he, List.find?_some he⟩]; rfl
    | none =>
      by_cases z : (es.any (·.refKey)) = true
      · dsimp only at hl
        rw [if_pos z] at hl
        cases hl
      · rw [Bool.not_eq_true] at z; rw [z, Bool.and_false]
  rw [aRefKeyMayBeTheName_at, c]
  refine wpAny_updatePart D ?_
  refine wpAny_bind (wpAny_lookBehind D' (pastItsLine_dict (by rw [List.size_toArray, sizeLine_eq]; omega)) ?_)
  exact wpAny_pure h
theorem set52 {x : Addr} {ox : Obj} {od : Option Obj} {name : Str} {v : Value} {Q : Unit → Shared → Prop} (X : K.In s.heap) (I : InstAt s.heap x ox 52 od)
    (hs : findIn K (.ref 52) "__setattr__" = some (some (.builtin "object.__setattr__")))
    (h : codeAny (model prog w) A (.call (.builtin "object.__setattr__") ⟨[.ref x, .str name s.toks, v], []⟩) (fun r s' => match r with | .ok (.ret _) => Q () s' | .ok _ => False | .error e => E e s') { s with toks := s.toks + 1 }) :
    wpAny (model prog w) A (setAttr (.ref x) name v) Q E s := set_plain X I hs h
theorem set_first {x t0 : Addr} {name : Str} {v : Value} {cd : ClassData} {Q : Unit → Shared → Prop} (X₀ : K.In h₀) (F : Fr h₀ L s.heap m) (N : News h₀ L s.heap ((x, exc52d t0 none) :: news)) (hx : ∀ q ∈ news, q.1 ≠ x)
    (hs : findIn K (.ref 52) "__setattr__" = some (some (.builtin "object.__setattr__"))) (hc : clsIn K 52 = some cd) (hm : cd.mro = (.ref 52) :: bm52) (hh : cd.hasDict = true)
    (ha : findIn K (.ref 52) name = some none) (hi : mroIn K 52 (.type "object") = some true)
    (h : ∀ d h' k tk, Fr h₀ L h' m → News h₀ L h' ((d, dictOf [⟨PyData.keyHash w.params name, .str name k, v⟩] 1) :: (x, exc52d t0 (some d)) :: news) → (∀ q ∈ news, q.1 < d) → x < d → Q () { s with heap := h', toks := tk }) :
    wpAny (model prog w) A (setAttr (.ref x) name v) Q E s := by
  have X := X₀.keeps F.keep
  have hx0 := (N _ (.head _)).1
  have I : InstAt s.heap x (exc52d t0 none) 52 none := ⟨hx0, rfl, rfl, trivial⟩
  refine set52 X I hs (osa52 (s := { s with toks := s.toks + 1 }) X I hc hm ha hi fun b => ?_)
  unfold storeInOwnDict ownDictForStores instanceDict
  have ht : (Value.ref 52 == Value.type "module") = false := by decide
  have hcd : Looks (model prog w) s.heap (classData 52) cd := looks_clsIn X hc
  refine wpAny_bind (wpAny_pure ?_)
  rw [ht]
  rw [if_neg Bool.false_ne_true]
  refine wpAny_bind (wpAny_bind ?_)
  refine wpAny_loadPart (s := { s with toks := s.toks + 1 }) hx0 ?_
  refine wpAny_bind (hcd _ _ _ { s with toks := s.toks + 1 } (fun _ _ e => e) ?_)
  rw [hh]
  rw [if_neg (by decide)]
  dsimp only
  rw [if_neg (by simp [typeHasDict])]
  have hne : x ≠ s.heap.objs.size := Nat.ne_of_lt (Heap.lt_size hx0)
  refine wpAny_bind (wpAny_alloc ?_)
  have hx1 := Heap.get?_push_of_some { cls := .type "dict", data := .dict #[] } hx0
  refine wpAny_bind (wpAny_update hx1 ?_)
  refine wpAny_pure ?_
  have hx2 : ((s.heap.push { cls := .type "dict", data := .dict #[] }).update x fun o => { o with dict := some s.heap.objs.size }).get? x = some (exc52d t0 (some s.heap.objs.size)) := Heap.get?_update_self _ hx1 rfl
  have hD : ((s.heap.push { cls := .type "dict", data := .dict #[] }).update x fun o => { o with dict := some s.heap.objs.size }).get? s.heap.objs.size = some (dictOf [] 0) := (Heap.get?_update_ne _ _ _ _ hne.symm).trans (Heap.get?_push_at rfl rfl)
  have F1 := F.push { cls := .type "dict", data := .dict #[] }
  have hxL := (N _ (.head _)).2.1
  have hxn := (N _ (.head _)).2.2
  have sb : Heap.SameBut x (s.heap.push { cls := .type "dict", data := .dict #[] }) ((s.heap.push { cls := .type "dict", data := .dict #[] }).update x fun o => { o with dict := some s.heap.objs.size }) := Heap.SameBut.update ..
  have F2 := F1.change sb hxL hxn
  have N2 : News h₀ L ((s.heap.push { cls := .type "dict", data := .dict #[] }).update x fun o => { o with dict := some s.heap.objs.size }) ((s.heap.objs.size, dictOf [] 0) :: (x, exc52d t0 (some s.heap.objs.size)) :: news) := by
    intro q hq
    rcases List.mem_cons.mp hq with rfl | hq
    · exact ⟨hD, Nat.ne_of_gt F.ns.lt, none_at_size F⟩
    · rcases List.mem_cons.mp hq with rfl | hq
      · exact ⟨hx2, hxL, hxn⟩
      · have := N q (.tail _ hq)
        exact ⟨(sb.2 q.1 (hx q hq)).trans (Heap.get?_push_of_some _ this.1), this.2⟩
  refine store_in (s := { s with heap := _, toks := s.toks + 1 }) hD rfl (es' := [⟨PyData.keyHash w.params name, .str name (s.toks + 1), v⟩]) (n' := 1) (by simp) rfl ?_
  obtain ⟨U1, U2⟩ := news_upd (pre := []) (f := Obj.putName name (PyData.keyHash w.params name) (.str name (s.toks + 1)) v) F2 N2 (fun _ h => nomatch h)
    (fun q hq => by
      rcases List.mem_cons.mp hq with rfl | hq
      · exact hne
      · exact Nat.ne_of_lt (Heap.lt_size (N q (.tail _ hq)).1)) (putName_dict name (PyData.keyHash w.params name) (.str name (s.toks + 1)) v [] 0) rfl
  exact h _ _ (s.toks + 1) _ U1 U2 (fun q hq => Heap.lt_size (N q (.tail _ hq)).1) (Heap.lt_size hx0)
theorem set_next {x d t0 : Addr} {es es' : List DictEntry} {n n' : Nat} {name : Str} {v : Value} {cd : ClassData} {Q : Unit → Shared → Prop} (X₀ : K.In h₀) (F : Fr h₀ L s.heap m) (N : News h₀ L s.heap ((d, dictOf es n) :: (x, exc52d t0 (some d)) :: news))
    (hd : ∀ q ∈ news, q.1 < d) (hxd : x < d)
    (hs : findIn K (.ref 52) "__setattr__" = some (some (.builtin "object.__setattr__"))) (hc : clsIn K 52 = some cd) (hm : cd.mro = (.ref 52) :: bm52) (hh : cd.hasDict = true)
    (ha : findIn K (.ref 52) name = some none) (hi : mroIn K 52 (.type "object") = some true) (hl : (getL name es).isSome = true) (hz : es'.length ≤ 1000)
    (e : (putL name (PyData.keyHash w.params name) (.str name (s.toks + 1)) v es, putN name es n) = (es', n'))
    (h : ∀ h' tk, Fr h₀ L h' m → News h₀ L h' ((d, dictOf es' n') :: (x, exc52d t0 (some d)) :: news) → Q () { s with heap := h', toks := tk }) :
    wpAny (model prog w) A (setAttr (.ref x) name v) Q E s := by
  have X := X₀.keeps F.keep
  have hx0 := (N _ (.tail _ (.head _))).1
  have hD := (N _ (.head _)).1
  have I : InstAt s.heap x (exc52d t0 (some d)) 52 (some (dictOf es n)) := ⟨hx0, rfl, rfl, hD⟩
  refine set52 X I hs (osa52 (s := { s with toks := s.toks + 1 }) X I hc hm ha hi fun b => ?_)
  unfold storeInOwnDict ownDictForStores instanceDict
  have ht : (Value.ref 52 == Value.type "module") = false := by decide
  have hcd : Looks (model prog w) s.heap (classData 52) cd := looks_clsIn X hc
  refine wpAny_bind (wpAny_pure ?_)
  rw [ht]
  rw [if_neg Bool.false_ne_true]
  refine wpAny_bind (wpAny_bind ?_)
  refine wpAny_loadPart (s := { s with toks := s.toks + 1 }) hx0 ?_
  refine wpAny_bind (hcd _ _ _ { s with toks := s.toks + 1 } (fun _ _ e => e) ?_)
  rw [hh]
  refine wpAny_pure (a := some d) ?_
  refine store_in (s := { s with toks := s.toks + 1 }) hD hl (es' := es') (n' := n') hz e ?_
  obtain ⟨U1, U2⟩ := news_upd (pre := []) (f := Obj.putName name (PyData.keyHash w.params name) (.str name (s.toks + 1)) v) F N (fun _ h => nomatch h)
    (fun q hq => by
      rcases List.mem_cons.mp hq with rfl | hq
      · exact Nat.ne_of_lt hxd
      · exact Nat.ne_of_lt (hd q hq)) (putName_dict name (PyData.keyHash w.params name) (.str name (s.toks + 1)) v es n) rfl
  cases e
  exact h _ _ U1 U2
end

end
section
theorem reg_1 : (fun (_ : OpenLaw) (_ : Params → Frag) => True) PySem.Challenge.rw_pf0076_01 Mine.hd.heap_39 := by
  k_fill
  trivial
example : True := by
  w_top off
  k_with_none
  (k_with "my_enter" => (refine' code_def ?k1 ?k2 ?k3 ?k4 ?k5 ?kA ?kF ?kK ?k6 ?k7 ?k8 ?k9 ?kB ?_ ?c2 ?c3 ?c4 ?c5; (case kA => exact rfl); (case kF => exact rfl); (case kK => first | assumption | exact rfl); (case k1 => k_asm); (case k2 => k_asm); (case k3 => k_asm); (case k4 => k_asm); (case k5 => k_asm); (case k6 => k_is); (case k7 => k_is); (case k8 => k_extra "my_room"); (case k9 => first | exact BindsTo.of_eq rfl | exact binds_K (by k_in) rfl (by k_is) rfl rfl rfl); (case c5 => decide); (case kB => exact locs rfl); (case c2 => exact rfl); (case c3 => exact rfl); (case c4 => exact rfl); k_whole; intro g' L' h' FG' F' N' B' X' T'; (try dsimp only); (try k_fold)))
  (k_with "exec Raise some none" => (k_here; k_dflt (refine' Raise_fault ?k1 ?k2 ?_; (case k1 => k_asm); (case k2 => k_asm); k_whole)))
  (k_with "call ref" => (k_here; (with_reducible show wpAny _ _ (call (Value.ref 52) _) _ _ _); k_dflt (refine' fault ?k1 ?k2 ?k3 ?k4 ?k5 ?k6 ?k7 ?k8 ?_; (case k1 => k_asm); (case k2 => k_asm); (case k3 => k_asm); (case k4 => k_asm); (case k5 => k_asm); (case k6 => first | assumption | exact rfl); (case k7 => k_extra "my_room"); (case k8 => k_extra "my_room"); k_whole); intro h' e' tk' F' M'; (try k_sweep)))
  (k_with "FaultQ" => (refine ⟨_, _, _, _, rfl, by assumption, by assumption, ?_⟩))
  (k_with "leaving ref" => (k_here; first | (refine' leave_first ?k1 ?k2 ?k3 ?k4 ?_; (case k3 => assumption); (case k1 => assumption); (case k2 => assumption); (case k4 => exact rfl); k_whole; intro h' R') | (refine' leave_next ?k1 ?k2 ?k3 ?_; (case k3 => assumption); (case k1 => assumption); (case k2 => assumption); k_whole; intro h' R')))
  (k_with "my_room" => first | exact room9 (by with_reducible assumption) (by exact rfl) | exact room8 (by with_reducible assumption) (by exact rfl) | exact room7 (by with_reducible assumption) | ktr_room | ktr_units)
  trivial
example : True := by
  (k_with "my_enter" => (refine' code_def ?k1 ?k2 ?k3 ?k4 ?k5 ?kA ?kF ?kK ?k6 ?k7 ?k8 ?k9 ?kB ?_ ?c2 ?c3 ?c4 ?c5; (case kA => exact rfl); (case kF => exact rfl); (case kK => first | assumption | exact rfl); (case k1 => k_asm); (case k2 => k_asm); (case k3 => k_asm); (case k4 => k_asm); (case k5 => k_asm); (case k6 => k_is); (case k7 => k_is); (case k8 => k_extra "my_room"); (case k9 => first | exact BindsTo.of_eq rfl | exact binds_K (by k_in) rfl (by k_is) rfl rfl rfl); (case c5 => decide); (case kB => exact locs rfl); (case c2 => exact rfl); (case c3 => exact rfl); (case c4 => exact rfl); k_whole; intro g' L' h' FG' F' N' B' X' T'; (try dsimp only); (try k_fold)))
  trivial
theorem init52K {prog : Program} {w : World} {A : Around} {E : Value → Shared → Prop} {h₀ : Heap} {L : Addr} {m : Str → Option Value} {news : List (Addr × Obj)} {s : Shared} {x t0 : Addr} {v : Value} {Q : Value → Shared → Prop}
    (X₀ : (Mine.hd.heap_39 w.params).In h₀) (F : Fr h₀ L s.heap m) (N : News h₀ L s.heap ((x, exc52 t0) :: news)) (hx : ∀ q ∈ news, q.1 ≠ x)
    (h : ∀ t h', Fr h₀ L h' m → News h₀ L h' ((x, exc52d t none) :: news) → Q .none { s with heap := h' }) : wpAny (model prog w) A (call (.builtin "Exception.__init__") [.ref x, v]) Q E s := by
  obtain ⟨hh, g, d, t, os⟩ := s
  have X₁ := X₀.keeps F.keep
  have hx0 := (N _ (.head _))
  refine init52 (X₁ 52 _ (by k_is)) hx0.1 ?_
  refine h hh.objs.size _ ?_ ?_
  · exact (F.push _).change (Heap.SameBut.update ..) hx0.2.1 hx0.2.2
  · have sb : Heap.SameBut x (hh.push { cls := .type "tuple", data := .seq #[v] }) ((hh.push { cls := .type "tuple", data := .seq #[v] }).update x (Obj.mapFields (·.setIfInBounds 0 (.ref hh.objs.size)))) := Heap.SameBut.update ..
    intro q hq
    rcases List.mem_cons.mp hq with rfl | hq
    · exact ⟨Heap.get?_update_self _ (Heap.get?_push_of_some _ hx0.1) rfl, hx0.2⟩
    · have := N q (.tail _ hq)
      exact ⟨(sb.2 q.1 (hx q hq)).trans (Heap.get?_push_of_some _ this.1), this.2⟩
example : True := by
  (k_with "getMethod type:Exception" => (k_here; k_dflt (refine' getm_exc ?k1 ?k2 ?_; (case k1 => k_in); (case k2 => k_is); k_whole)))
  trivial
example : True := by
  (k_with "call builtin:Exception.__init__" => (k_here; k_dflt (refine' init52K ?k1 ?k2 ?k3 ?k4 ?_; (case k1 => k_asm); (case k2 => k_asm); (case k3 => k_asm); (case k4 => assumption); k_whole); intro t' h' F' N'; (try k_sweep)))
  (k_with "setAttr ref" => (k_here; k_dflt (refine' set_first ?k1 ?k2 ?k3 ?k4 ?k5 ?k6 ?k7 ?k8 ?k9 ?k10 ?_; (case k1 => k_asm); (case k2 => k_asm); (case k3 => k_asm); (case k4 => assumption); (case k5 => k_is); (case k6 => k_is); (case k7 => rfl); (case k8 => rfl); (case k9 => k_is); (case k10 => k_is); k_whole); intro d' h' k' tk' F' N' l1 l2; (try k_sweep)))
  (k_with "setAttr ref" => (k_here; k_dflt (refine' set_next ?k1 ?k2 ?k3 ?k4 ?k5 ?k6 ?k7 ?k8 ?k9 ?k10 ?k11 ?k12 ?k13 ?k14 ?_; (case k1 => k_asm); (case k2 => k_asm); (case k3 => k_asm); (case k4 => assumption); (case k5 => assumption); (case k6 => k_is); (case k7 => k_is); (case k8 => rfl); (case k9 => rfl); (case k10 => k_is); (case k11 => k_is); (case k12 => k_get); (case k14 => k_put); (case k13 => simp); k_whole); intro h' tk' F' N'; (try k_sweep)))
  trivial
theorem madeFault_of {h₀ h : Heap} {L x d t : Addr} {es : List DictEntry} {n : Nat} {news : List (Addr × Obj)} {sp : Int} {tk : Tok} (N9 : News h₀ L h ((d, dictOf es n) :: (x, exc52d t (some d)) :: news))
    (hg : getL (Str.ofString "spot") es = some (some (.int sp tk))) (hlt : x < d) (hx : ∀ q ∈ news, q.1 ≠ x) : MadeFault h₀ L h news x sp := by
  have hx9 := N9 _ (.tail _ (.head _))
  refine ⟨d, es, n, tk, t, hg, fun q hq => ?_, hx9.1, hx9.2.2, fun q hq => ?_⟩
  · rcases List.mem_cons.mp hq with rfl | hq
    · exact N9 _ (.head _)
    · exact N9 q (.tail _ (.tail _ hq))
  · rcases List.mem_cons.mp hq with rfl | hq
    · exact Nat.ne_of_gt hlt
    · exact hx q hq
theorem fault_init {w : World} {p : Program} {loose : List Str} {mean : ExcName → Option Value} {mg mb : Str → Option Value} {dp un : Nat} {gd : Option (List Code)} {cn : Str} {cs : Scope} {a : Addr} {ccd : Value} {cl : List (Str × Addr)}
    {outer : List Env} {A₀ : Around} {base h₀ : Heap} {L : Addr} {m : Str → Option Value} {news : List (Addr × Obj)} {s : Shared} {Q E : Value → Shared → Prop} {msg : Str} {sp : Int} {t1 t2 : Tok} {x t0 : Addr}
    (B : Below A₀ base outer h₀) (F : Fr h₀ L s.heap m) (X : (Mine.hd.heap_39 w.params).In h₀) (N : News h₀ L s.heap ((x, exc52 t0) :: news)) (T : Top p loose mean mg mb h₀) (hk : cs.kind = .function) (hd : dp + 3 < recursionLimit) (hu : un + 40 < cLine)
    (hx : ∀ q ∈ news, q.1 ≠ x)
    (h : ∀ h' tk, Fr h₀ L h' m → MadeFault h₀ L h' news x sp → Q .none { s with heap := h', toks := tk }) :
    wpAny (model PySem.Challenge.pw_pf0076_01 w) ((ktrTop dp un gd cn cs L a ccd cl outer).under (.builtin "type.__call__" ⟨.ref 52 :: [.str msg t1, .int sp t2], []⟩)) (call (.ref 36) [.ref x, .str msg t1, .int sp t2]) Q E s := by
  refine wpAny_call ?_
  k_dflt k_extra "my_enter"
  k_steps
  exact h _ _ (by assumption) (madeFault_of (by assumption) rfl (by assumption) hx)
theorem fault {w : World} {p : Program} {loose : List Str} {mean : ExcName → Option Value} {mg mb : Str → Option Value} {dp un : Nat} {gd : Option (List Code)} {cn : Str} {cs : Scope} {a : Addr} {ccd : Value} {cl : List (Str × Addr)}
    {outer : List Env} {A₀ : Around} {base h₀ : Heap} {L : Addr} {m : Str → Option Value} {news : List (Addr × Obj)} {s : Shared} {Q E : Value → Shared → Prop} {msg : Str} {sp : Int} {t1 t2 : Tok}
    (B : Below A₀ base outer h₀) (F : Fr h₀ L s.heap m) (X : (Mine.hd.heap_39 w.params).In h₀) (N : News h₀ L s.heap news) (T : Top p loose mean mg mb h₀) (hk : cs.kind = .function) (hd : dp + 3 < recursionLimit) (hu : un + 40 < cLine)
    (h : ∀ h' e tk, Fr h₀ L h' m → MadeFault h₀ L h' news e sp → Q (.ref e) { s with heap := h', toks := tk }) :
    wpAny (model PySem.Challenge.pw_pf0076_01 w) (ktrTop dp un gd cn cs L a ccd cl outer) (call (.ref 52) [.str msg t1, .int sp t2]) Q E s := by
  obtain ⟨hh, g, d, t, os⟩ := s
  have X₁ := X.keeps F.keep
  refine call52 (K := Mine.hd.heap_39 w.params) X₁ (X₁ _ _ (by k_is)) (by k_is) (by k_is) ?_ (by size_fits)
  have F1 : Fr h₀ L ((hh.push { cls := .type "tuple", data := .seq [Value.str msg t1, Value.int sp t2].toArray }).push (exc52 hh.objs.size)) m := (F.push _).push _
  have N1 := (News.push (F.push { cls := .type "tuple", data := .seq [Value.str msg t1, Value.int sp t2].toArray }) (News.push F N { cls := .type "tuple", data := .seq [Value.str msg t1, Value.int sp t2].toArray }) (exc52 hh.objs.size))
  rw [Heap.size_push] at N1
  refine fault_init (t0 := hh.objs.size) B F1 X (fun q hq => ?_) T hk hd hu (fun q hq => Nat.ne_of_lt (Nat.lt_succ_of_lt (Heap.lt_size (N q hq).1))) fun h' tk F2 M2 => ⟨rfl, h _ _ _ F2 M2⟩
  rcases List.mem_cons.mp hq with rfl | hq
  · exact N1 _ (.head _)
  · exact N1 _ (.tail _ (.tail _ hq))
theorem raise_fault {w : World} {dp un : Nat} {gd : Option (List Code)} {cn : Str} {cs : Scope} {a : Addr} {ccd : Value} {cl : List (Str × Addr)}
    {outer : List Env} {h₀ : Heap} {L : Addr} {m : Str → Option Value} {news : List (Addr × Obj)} {s : Shared} {E : Value → Shared → Prop} {sp : Int}
    (X : (Mine.hd.heap_39 w.params).In h₀) (F : Fr h₀ L s.heap m) {e : Addr} (R : MadeFault h₀ L s.heap news e sp)
    (h : E (.ref e) s) : wpAny (model PySem.Challenge.pw_pf0076_01 w) (ktrTop dp un gd cn cs L a ccd cl outer) (do
      let e' ← excFromValue (.ref e) "exceptions must derive from BaseException"
      let e'' ← if ← isType (.ref e) then holding [e'] (raisedFor (.ref e) e') else raisedInstance e'
      setFlight e'' none
      raiseNew e'' : Sem Flow) (fun _ _ => False) E s := by
  obtain ⟨d, es, n, tk, t, hg, N, he, hge, hne⟩ := R
  obtain ⟨hh, g, dr, tt, os⟩ := s
  have hC := X.keeps F.keep 52 _ (by k_is)
  have hcB : (Value.ref 52 :: bm52).contains (.type "BaseException") = true := by decide +kernel
  repeat (first | with_reducible refine wpAny_loadPart_at he ?_ | with_reducible refine wpAny_loadPart_at hC ?_ | (with_reducible refine wpAny_isSubtype_exc hC ?_; rw [hcB]) | wp_step)
  exact wpAny_raiseNew_none rfl h
noncomputable def FaultQ (h₀ : Heap) (L : Addr) (E : Value → Shared → Prop) (v : Value) (s₁ : Shared) : Prop := ∃ e m news sp, v = .ref e ∧ Fr h₀ L s₁.heap m ∧ MadeFault h₀ L s₁.heap news e sp ∧ E (.ref e) s₁
theorem Raise_fault {w : World} {dp un : Nat} {gd : Option (List Code)} {cn : Str} {cs : Scope} {a : Addr} {ccd : Value} {cl : List (Str × Addr)}
    {outer : List Env} {h₀ : Heap} {L : Addr} {m : Str → Option Value} {s : Shared} {Q : Flow → Shared → Prop} {E : Value → Shared → Prop} {env : Env} {x : PySem.Expr} {pos : Pos}
    (X : (Mine.hd.heap_39 w.params).In h₀) (F : Fr h₀ L s.heap m)
    (h : wpAny (model PySem.Challenge.pw_pf0076_01 w) (ktrTop dp un gd cn cs L a ccd cl outer) (eval x env) (FaultQ h₀ L E) E s) :
    wpAny (model PySem.Challenge.pw_pf0076_01 w) (ktrTop dp un gd cn cs L a ccd cl outer) (exec (.Raise (some x) none pos) env) Q E s := by
  rw [arm_exec_Raise]
  unfold raiseStmt
  refine wpAny_bind (wpAny_standAt (wpAny_bind (wpAny_bind (wpAny_mono h (fun v s₁ h₁ => wpAny_bind (wpAny_standAt (wpAny_pure ?_))) fun _ _ x => x))))
  obtain ⟨e, m', news, sp, rfl, F', M', hE⟩ := h₁
  refine wpAny_bind (wpAny_pure ?_)
  refine wpAny_mono (raise_fault X F' M' hE) (fun _ _ x => x.elim) fun _ _ x => x

end
section
noncomputable abbrev hasS (signs sub : PySem.Str) : Bool := !(Builtin.Str.occurrences signs sub 0 signs.length 1).isEmpty
theorem hasS_one (signs : PySem.Str) (c : Nat) : hasS signs ⟨#[c]⟩ = decide (c ∈ signs.cps.toList) := PySem.StrLaws.found_one signs c
noncomputable def cpA (T : PySem.Str) (k : Nat) : Nat := T.cps.toList[k]?.getD 0
theorem charAt_eq (T : PySem.Str) (i : Int) (h0 : 0 ≤ i) (h1 : i < T.length) : Txt.charAt T i = T.cps.toList[i.toNat]? := by
  unfold Txt.charAt seqIndex?
  have : ¬ i < 0 := Int.not_lt.mpr h0
  simp only [this, if_false]
  rw [if_pos (by simp only [Bool.and_eq_true, decide_eq_true_eq]; exact ⟨h0, h1⟩)]
  simp
theorem item_eq (T : PySem.Str) (i : Int) (h0 : 0 ≤ i) (h1 : i < T.length) : Txt.item T i = ⟨#[cpA T i.toNat]⟩ := by
  unfold Txt.item cpA
  rw [charAt_eq T i h0 h1]
theorem len_eq (T : PySem.Str) : T.length = T.cps.toList.length := by simp [Str.length]
noncomputable def RunTo (text signs : PySem.Str) (i j : Int) : Prop := i ≤ j ∧ j ≤ text.length ∧ ∀ k : Int, i ≤ k → k < j → hasS signs (Txt.item text k) = true
noncomputable def runEnd (T signs : PySem.Str) (i : Int) : Int := i + ((T.cps.toList.drop i.toNat).takeWhile (fun c => decide (c ∈ signs.cps.toList))).length
theorem takeWhile_len {α : Type} (p : α → Bool) : ∀ (l : List α) (n : Nat), n ≤ l.length → (∀ k x, k < n → l[k]? = some x → p x = true) → (∀ x, l[n]? = some x → p x = false) → (l.takeWhile p).length = n
  | [], n, h, _, _ => by simp at h; simp [h]
  | a :: r, 0, _, _, h2 => by
    have := h2 a rfl
    simp [List.takeWhile_cons, this]
  | a :: r, n + 1, h, h1, h2 => by
    have ha := h1 0 a (Nat.succ_pos _) rfl
    rw [List.takeWhile_cons, if_pos ha, List.length_cons, takeWhile_len p r n (by simpa using h) (fun k x hk hx => h1 (k + 1) x (by omega) (by simpa using hx)) (fun x hx => h2 x (by simpa using hx))]
theorem runEnd_eq {T signs : PySem.Str} {i j : Int} (h0 : 0 ≤ i) (h : RunTo T signs i j) (h2 : j < T.length → hasS signs (Txt.item T j) = false) : runEnd T signs i = j := by
  obtain ⟨a, b, c⟩ := h
  obtain ⟨n, rfl⟩ := Int.eq_ofNat_of_zero_le h0
  obtain ⟨m, rfl⟩ := Int.le.dest a
  clear h0 a
  unfold runEnd
  rw [takeWhile_len _ _ m]
  · rw [List.length_drop, ← len_eq]
    exact Nat.le_sub_of_add_le' (Int.ofNat_le.mp b)
  · intro k x hk hx
    rw [List.getElem?_drop, Int.toNat_natCast] at hx
    have hk' : ((n + k : Nat) : Int) < (n : Int) + (m : Int) := Int.ofNat_lt.mpr (Nat.add_lt_add_left hk n)
    have := c ((n + k : Nat) : Int) (Int.ofNat_le.mpr (Nat.le_add_right n k)) hk'
    rw [item_eq T _ (Int.natCast_nonneg _) (Int.lt_of_lt_of_le hk' b), hasS_one, cpA, Int.toNat_natCast, hx] at this
    exact this
  · intro x hx
    rw [List.getElem?_drop, Int.toNat_natCast] at hx
    have hlt : n + m < T.length := by rw [len_eq]; exact (List.getElem?_eq_some_iff.mp hx).1
    have := h2 (Int.ofNat_lt.mpr hlt)
    rw [item_eq T _ (show 0 ≤ (n : Int) + (m : Int) from Int.natCast_nonneg (n + m)) (show (n : Int) + (m : Int) < T.length from Int.ofNat_lt.mpr hlt), hasS_one, cpA, show ((n : Int) + (m : Int)).toNat = n + m from Int.toNat_natCast (n + m), hx] at this
    exact this
theorem idx_clip (i j : Int) (n : Nat) (h0 : 0 ≤ i) (hj : 0 ≤ j) : Builtin.Str.strSliceIndices (some i) (some j) 1 n = Builtin.Str.strSliceIndices (some (min i n)) (some (min j n)) 1 n := by
  unfold Builtin.Str.strSliceIndices
  simp only [show (1 : Int) > 0 by decide, if_true]
  have e1 : ¬ i < 0 := Int.not_lt.mpr h0
  have e2 : ¬ j < 0 := Int.not_lt.mpr hj
  have e3 : ¬ (min i (n : Int)) < 0 := Int.not_lt.mpr (Int.le_min.mpr ⟨h0, Int.natCast_nonneg n⟩)
  have e4 : ¬ (min j (n : Int)) < 0 := Int.not_lt.mpr (Int.le_min.mpr ⟨hj, Int.natCast_nonneg n⟩)
  simp only [e1, e2, e3, e4, if_false]
  have a1 : max 0 (min i (n : Int)) = max 0 (min (min i (n : Int)) n) := by rw [Int.min_assoc, Int.min_self]
  have a2 : max 0 (min j (n : Int)) = max 0 (min (min j (n : Int)) n) := by rw [Int.min_assoc, Int.min_self]
  rw [← a1, ← a2]
theorem slice_clip (T : PySem.Str) (i j : Int) (h0 : 0 ≤ i) (hj : 0 ≤ j) : Txt.slice T (some i) (some j) = Txt.slice T (some (min i T.length)) (some (min j T.length)) := by
  unfold Txt.slice
  rw [idx_clip i j T.length h0 hj]
theorem min_cast (a b : Nat) : min (a : Int) (b : Int) = ((min a b : Nat) : Int) := by omega
theorem slice_ss (T : PySem.Str) (i j : Int) (h0 : 0 ≤ i) (hij : i ≤ j) : (Txt.slice T (some i) (some j)).cps.toList = (T.cps.toList.drop i.toNat).take (j - i).toNat := by
  have h1 : min i (T.length : Int) ≤ min j (T.length : Int) := Int.le_min.mpr ⟨Int.le_trans (Int.min_le_left _ _) hij, Int.min_le_right _ _⟩
  rw [slice_clip T i j h0 (Int.le_trans h0 hij), beq_iff_eq.mp (slice_closes (x := T) (i := min i T.length) (j := min j T.length) ⟨Int.le_min.mpr ⟨h0, Int.natCast_nonneg _⟩, h1, Int.min_le_right _ _⟩)]
  clear h1
  obtain ⟨n, rfl⟩ := Int.eq_ofNat_of_zero_le h0
  obtain ⟨m, rfl⟩ := Int.le.dest hij
  clear h0 hij
  have e : ∀ l : Nat, min (n : Int) (l : Int) = ((min n l : Nat) : Int) := fun l => min_cast n l
  have e' : ∀ l : Nat, min ((n : Int) + (m : Int)) (l : Int) = ((min (n + m) l : Nat) : Int) := fun l => min_cast (n + m) l
  have e2 : ((n : Int) + (m : Int) - (n : Int)).toNat = m := by rw [Int.add_comm, Int.add_sub_cancel]; rfl
  rw [e, e', e2, Int.toNat_sub, Int.toNat_natCast, Int.toNat_natCast, len_eq]
  generalize T.cps.toList = l
  show (l.drop (min n l.length)).take (min (n + m) l.length - min n l.length) = (l.drop n).take m
  rcases Nat.le_total n l.length with h | h
  · rw [Nat.min_eq_left h]
    rcases Nat.le_total (n + m) l.length with h2 | h2
    · rw [Nat.min_eq_left h2, Nat.add_sub_cancel_left]
    · rw [Nat.min_eq_right h2, List.take_of_length_le (Nat.le_of_eq List.length_drop), List.take_of_length_le]
      rw [List.length_drop]
      exact Nat.sub_le_iff_le_add'.mpr h2
  · rw [Nat.min_eq_right h, List.drop_eq_nil_of_le (Nat.le_refl _), List.drop_eq_nil_of_le h, List.take_nil, List.take_nil]
theorem slice_sn_all (T : PySem.Str) (i : Int) : Txt.slice T (some i) none = Txt.slice T (some i) (some T.length) := by
  unfold Txt.slice Builtin.Str.strSliceIndices
  simp only [show (1 : Int) > 0 by decide, if_true]
  have e2 : ¬ (T.length : Int) < 0 := Int.not_lt.mpr (Int.natCast_nonneg _)
  simp only [e2, if_false]
  have a2 : max 0 (min (T.length : Int) T.length) = (T.length : Int) := by rw [Int.min_self]; exact Int.max_eq_right (Int.natCast_nonneg _)
  rw [a2]
theorem slice_ns_all (T : PySem.Str) (j : Int) : Txt.slice T none (some j) = Txt.slice T (some 0) (some j) := by
  unfold Txt.slice Builtin.Str.strSliceIndices
  simp only [show (1 : Int) > 0 by decide, if_true]
  have e2 : ¬ (0 : Int) < 0 := by omega
  simp only [e2, if_false]
  have a2 : max 0 (min (0 : Int) T.length) = 0 := by rw [Int.min_eq_left (Int.natCast_nonneg _)]; rfl
  rw [a2]
theorem slice_sn (T : PySem.Str) (i : Int) (h0 : 0 ≤ i) : (Txt.slice T (some i) none).cps.toList = T.cps.toList.drop i.toNat := by
  obtain ⟨n, rfl⟩ := Int.eq_ofNat_of_zero_le h0
  rw [slice_sn_all]
  rcases Nat.le_total n T.length with h | h
  · rw [slice_ss T _ _ h0 (Int.ofNat_le.mpr h), Int.toNat_sub, Int.toNat_natCast, List.take_of_length_le]
    rw [List.length_drop, len_eq]
    exact Nat.le_refl _
  · have e : ∀ k : Nat, ((k : Int) - (k : Int)).toNat = 0 := fun k => by rw [Int.sub_self]; rfl
    rw [slice_clip T _ _ h0 (Int.natCast_nonneg _), Int.min_eq_right (Int.ofNat_le.mpr h), Int.min_self, slice_ss T _ _ (Int.natCast_nonneg _) (Int.le_refl _), e, List.take_zero, Int.toNat_natCast, List.drop_eq_nil_of_le (by rw [← len_eq]; exact h)]
noncomputable def figW (sign : PySem.Str) : Int := if 0 ≤ Txt.find (Str.ofString "0123456789abcdef") (Txt.lower sign) then Txt.find (Str.ofString "0123456789abcdef") (Txt.lower sign) else 99
theorem figW_nn (x : PySem.Str) : 0 ≤ figW x := by unfold figW; split <;> omega
noncomputable def valOf (base : Int) (l : List Nat) : Int := l.foldl (fun v c => v * base + figW ⟨#[c]⟩) 0
noncomputable def figsOk (base : Int) (l : List Nat) : Bool := l.all (fun c => decide (figW ⟨#[c]⟩ < base))
theorem valOf_snoc (base : Int) (l : List Nat) (c : Nat) : valOf base (l ++ [c]) = valOf base l * base + figW ⟨#[c]⟩ := by simp [valOf]
theorem figsOk_snoc (base : Int) (l : List Nat) (c : Nat) : figsOk base (l ++ [c]) = (figsOk base l && decide (figW ⟨#[c]⟩ < base)) := by simp [figsOk]
theorem fold_bounds (base : Int) (hb : 2 ≤ base) : ∀ (l : List Nat) (v : Int), 0 ≤ v → figsOk base l = true → 0 ≤ l.foldl (fun v c => v * base + figW ⟨#[c]⟩) v ∧ l.foldl (fun v c => v * base + figW ⟨#[c]⟩) v < (v + 1) * base ^ l.length
  | [], v, h0, _ => by simp; omega
  | c :: r, v, h0, h => by
    simp only [figsOk, List.all_cons, Bool.and_eq_true, decide_eq_true_eq] at h
    have hf := figW_nn ⟨#[c]⟩
    have m0 := Int.mul_nonneg h0 (show (0 : Int) ≤ base by omega)
    obtain ⟨i1, i2⟩ := fold_bounds base hb r (v * base + figW ⟨#[c]⟩) (by omega) h.2
    refine ⟨i1, Int.lt_of_lt_of_le i2 ?_⟩
    have p0 : (0 : Int) ≤ base ^ r.length := Int.pow_nonneg (by omega)
    have e : (v + 1) * base ^ (c :: r).length = ((v + 1) * base) * base ^ r.length := by rw [List.length_cons, Int.pow_succ, Int.mul_comm (base ^ r.length) base, Int.mul_assoc]
    rw [e]
    refine Int.mul_le_mul_of_nonneg_right ?_ p0
    rw [Int.add_mul]
    omega
theorem valOf_bounds (base : Int) (hb : 2 ≤ base) (l : List Nat) (h : figsOk base l = true) : 0 ≤ valOf base l ∧ valOf base l < base ^ l.length := by
  have := fold_bounds base hb l 0 (Int.le_refl _) h
  simpa [valOf] using this
noncomputable def figsRead (T : PySem.Str) (i many base : Int) : Option Int :=
  if figsOk base ((T.cps.toList.drop i.toNat).take many.toNat) && decide (many ≤ ((T.cps.toList.drop i.toNat).take many.toNat).length) then some (valOf base ((T.cps.toList.drop i.toNat).take many.toNat)) else none
theorem fuel_lt {L j k : Int} {n : Nat} (h : (L - j).toNat < n + 1) (hj : j < k) (hk : k ≤ L) : (L - k).toNat < n ∧ (L - k).toNat < (L - j).toNat := by omega
theorem fuel_pos {a n : Nat} (h : a < n) : ∃ n', n = n' + 1 := ⟨n - 1, (Nat.succ_pred_eq_of_pos (Nat.lt_of_le_of_lt (Nat.zero_le _) h)).symm⟩
theorem str_ext {x y : PySem.Str} (h : x.cps.toList = y.cps.toList) : x = y := PySem.Str.ext' (Array.toList_inj.mp h)

end
section
example : True := by
  w_top off
  k_with_none
  trivial
noncomputable abbrev tupO (vs : List Value) : Obj := { cls := .type "tuple", data := .seq vs.toArray }
inductive Vl | no | int (i : Int) | str (x : PySem.Str) | byt (b : Array UInt8) | val (v : Value)
noncomputable def Vl.Is : Vl → Option Value → Prop
  | .no, _ => True
  | .int i, o => ∃ t, o = some (.int i t)
  | .str x, o => ∃ t, o = some (.str x t)
  | .byt b, o => ∃ t, o = some (.bytes b t)
  | .val v, o => o = some v
noncomputable def FrL (ns : List PySem.Str) (g : Heap) (L : Addr) (h : Heap) (us : List Vl) : Prop := ∃ m, Fr g L h m ∧ ∀ (i : Nat) (x : PySem.Str) (u : Vl), ns[i]? = some x → us[i]? = some u → u.Is (m x)
noncomputable def Same (s s' : Shared) : Prop := s'.gens = s.gens ∧ s'.drawn = s.drawn ∧ s'.os = s.os
theorem Same.eq {s s' : Shared} (x : Same s s') : s' = { s with heap := s'.heap, toks := s'.toks } := by
  obtain ⟨h, g, d, t, o⟩ := s'
  obtain ⟨rfl, rfl, rfl⟩ := x
  rfl
set_option genInjectivity false in
set_option genSizeOf false in
structure Bx (cs : Scope) (ns : List PySem.Str) (d u : Nat) (RX : Value → List (Addr × Obj) → Prop) (XX : Int → Prop) where
  w : World
  p : Program
  loose : List PySem.Str
  mean : ExcName → Option Value
  mg : PySem.Str → Option Value
  mb : PySem.Str → Option Value
  dp : Nat
  un : Nat
  gd : Option (List Code)
  cn : PySem.Str
  L : Addr
  a : Addr
  ccd : Value
  outer : List Env
  Ao : Around
  base : Heap
  h₀ : Heap
  /-- what the caller's ledger may be just now -/
  Pn : List (Addr × Obj) → Prop
  s₀ : Shared
  cl : List (PySem.Str × Addr)
  hA : (∀ sp, ¬ XX sp) ∨ (cl = [] ∧ Ao.deeper (envOf cn cs L a ccd) = ktrTop dp un gd cn cs L a ccd [] outer)
  B : Below Ao base outer h₀
  K : (Mine.hd.heap_39 w.params).In h₀
  T : Top p loose mean mg mb h₀
  hk : cs.kind = .function
  hd : dp + d < recursionLimit
  hu : un + u < cLine
  nd : ns.Nodup
  hP : ∀ l l', Pn l → Pn l' → l.map (·.1) = l'.map (·.1)
section
variable {cs : Scope} {ns : List PySem.Str} {d u : Nat} {RX : Value → List (Addr × Obj) → Prop} {XX : Int → Prop}
noncomputable abbrev Bx.A (C : Bx cs ns d u RX XX) : Around := ktrTop C.dp C.un C.gd C.cn cs C.L C.a C.ccd C.cl C.outer
noncomputable abbrev Bx.env (C : Bx cs ns d u RX XX) : Env := envX C.cn cs C.L C.a C.ccd C.cl
noncomputable abbrev Bx.M (C : Bx cs ns d u RX XX) : Model := model PySem.Challenge.pw_pf0076_01 C.w
structure StL (C : Bx cs ns d u RX XX) (l : List (Addr × Obj)) (us : List Vl) (nw : List (Addr × Obj)) (s : Shared) : Prop where
  pn : C.Pn l
  same : Same C.s₀ s
  fr : FrL ns C.h₀ C.L s.heap us
  news : News C.h₀ C.L s.heap (nw ++ l)
  above : ∀ q ∈ l, ∀ p ∈ nw, q.1 < p.1
noncomputable def St (C : Bx cs ns d u RX XX) (us : List Vl) (nw : List (Addr × Obj)) (s : Shared) : Prop := ∃ l, StL C l us nw s
theorem St.same {C : Bx cs ns d u RX XX} {us : List Vl} {nw : List (Addr × Obj)} {s : Shared} (h : St C us nw s) : Same C.s₀ s := h.elim fun _ h => h.same
theorem St.fr {C : Bx cs ns d u RX XX} {us : List Vl} {nw : List (Addr × Obj)} {s : Shared} (h : St C us nw s) : FrL ns C.h₀ C.L s.heap us := h.elim fun _ h => h.fr
noncomputable def Bx.E (C : Bx cs ns d u RX XX) : Value → Shared → Prop := fun e s' =>
  wpAny C.M C.A (leaving C.env e) (fun _ s'' => ∃ x sp, e = .ref x ∧ XX sp ∧ Same C.s₀ s'' ∧ ∃ l, C.Pn l ∧ Exc C.base C.outer C.h₀ l x sp s''.heap) (fun _ _ => False) s'
theorem Bx.passes (C : Bx cs ns d u RX XX) : PassesOwn C.M C.A C.env C.E := PassesOwn.leaving
theorem Bx.raised (C : Bx cs ns d u RX XX) {m : PySem.Str → Option Value} {nw l : List (Addr × Obj)} (hl : C.Pn l) {e : Addr} {sp : Int} {s' : Shared} (F : Fr C.h₀ C.L s'.heap m) (R : MadeFault C.h₀ C.L s'.heap (nw ++ l) e sp) (hs : Same C.s₀ s') (hx : XX sp) : C.E (.ref e) s' := by
  obtain hA | ⟨hc, hA⟩ := C.hA
  · exact (hA sp hx).elim
  unfold Bx.E
  show wpAny C.M (ktrTop C.dp C.un C.gd C.cn cs C.L C.a C.ccd C.cl C.outer) (leaving (envX C.cn cs C.L C.a C.ccd C.cl) _) _ _ _
  rw [hc, ← hA]
  exact leave_first C.B F R C.hk fun h' X => ⟨e, sp, rfl, hx, hs, l, hl, X.weaken fun q hq => List.mem_append_right _ hq⟩
theorem Bx.passed (C : Bx cs ns d u RX XX) {m : PySem.Str → Option Value} {nw l : List (Addr × Obj)} (hl : C.Pn l) {g : Heap} {e : Addr} {sp : Int} {s' : Shared} (F : Fr C.h₀ C.L g m) (R : Exc C.base (envOf C.cn cs C.L C.a C.ccd :: C.outer) g (nw ++ l) e sp s'.heap) (hs : Same C.s₀ s') (hx : XX sp) : C.E (.ref e) s' := by
  obtain hA | ⟨hc, hA⟩ := C.hA
  · exact (hA sp hx).elim
  unfold Bx.E
  show wpAny C.M (ktrTop C.dp C.un C.gd C.cn cs C.L C.a C.ccd C.cl C.outer) (leaving (envX C.cn cs C.L C.a C.ccd C.cl) _) _ _ _
  rw [hc, ← hA]
  exact leave_next C.B F R fun h' X => ⟨e, sp, rfl, hx, hs, l, hl, X.weaken fun q hq => List.mem_append_right _ hq⟩
noncomputable def Bx.Q (C : Bx cs ns d u RX XX) (K : List Vl → List (Addr × Obj) → Prop) : Flow → Shared → Prop
  | .next, s' => ∃ us nw, K us nw ∧ St C us nw s'
  | .ret v, s' => ∃ us nw, RX v nw ∧ St C us nw s'
  | _, _ => False
noncomputable def Ex (C : Bx cs ns d u RX XX) (us : List Vl) (nw : List (Addr × Obj)) (ss : List Stmt) (K : List Vl → List (Addr × Obj) → Prop) : Prop :=
  ∀ s, St C us nw s → wpAny C.M C.A (execs ss C.env) (C.Q K) C.E s
noncomputable def Ev (C : Bx cs ns d u RX XX) (us : List Vl) (nw : List (Addr × Obj)) (e : PySem.Expr) (x : Vl) : Prop :=
  ∀ (s : Shared) (Q E : Value → Shared → Prop), St C us nw s → (∀ v s', x.Is (some v) → St C us nw s' → Q v s') → (∀ e s', C.E e s' → E e s') → wpAny C.M C.A (eval e C.env) Q E s
end
theorem Ctr.of_body0 {w : World} {f : Addr} {vs : List Value} {d u : Nat} {RX : Value → List (Addr × Obj) → Prop} {XX : Int → Prop}
    {name qual : PySem.Str} {params : Arguments} {body : List Stmt} {cs : Scope} {dV kV doc pm cdv ct oc : Value} {an od : Option Addr} {osl : Array (Option Value)} {binds : List (PySem.Str × Value)} (ns : List PySem.Str) (us : List Vl)
    (ho : (Mine.hd.heap_39 w.params).lookup f = some ⟨oc, od, .func (fnOf name qual params body cs dV kV doc pm an cdv ct), osl⟩) (hcd : codeIn (Mine.hd.heap_39 w.params) cdv qual = true)
    (hbind : bindArgs (fnOf name qual params body cs dV kV doc pm an cdv ct) ⟨vs, []⟩ = pure binds) (hloc : ∀ y ∈ binds, cs.names.lookup y.1 = some .local)
    (hnd : ns.Nodup) (hus : ∀ (i : Nat) (x : PySem.Str) (u : Vl), ns[i]? = some x → us[i]? = some u → u.Is (binds.reverse.lookup x))
    (hco : cs.isCoroutine = false) (hgen : cs.isGenerator = false) (hk : cs.kind = .function) (hcell : ∀ x ∈ cs.names, x.2 ≠ .cell)
    {p : Program} {loose : List PySem.Str} {mean : ExcName → Option Value} {mg mb : PySem.Str → Option Value} {dp un : Nat} {gd : Option (List Code)} {cn : PySem.Str} {cs' : Scope} {a : Addr} {ccd : Value} {cl : List (PySem.Str × Addr)} {outer : List Env} {A₀ : Around} {base h₀ : Heap} {L : Addr} {m : PySem.Str → Option Value} {news : List (Addr × Obj)} {s : Shared} {Q E : Value → Shared → Prop}
    (B : Below A₀ base outer h₀) (F : Fr h₀ L s.heap m) (X : (Mine.hd.heap_39 w.params).In h₀) (N : News h₀ L s.heap news) (T : Top p loose mean mg mb h₀) (hk' : cs'.kind = .function) (hd : dp + (d + 1) < recursionLimit) (hu : un + (u + 3) < cLine)
    (hret : ∀ v nw h' tk, RX v nw → Fr h₀ L h' m → News h₀ L h' (nw ++ news) → (∀ q ∈ news, ∀ p ∈ nw, q.1 < p.1) → Q v { s with heap := h', toks := tk })
    (hexc : ∀ e sp h' tk g, XX sp → Fr h₀ L g m → Exc base (envX cn cs' L a ccd cl :: outer) g news e sp h' → E (.ref e) { s with heap := h', toks := tk })
    (hb : ∀ C : Bx cs ns d u RX XX, C.w = w → Fr h₀ L C.h₀ m → Ex C us [] body (fun _ nw => RX .none nw)) : wpAny (model PySem.Challenge.pw_pf0076_01 w) (ktrTop dp un gd cn cs' L a ccd cl outer) (call (.ref f) vs) Q E s := by
  refine wpAny_call ?_
  refine code_def B F X N T rfl rfl hk' ho hcd (Nat.lt_of_le_of_lt (Nat.le_add_right _ _) hd) (BindsTo.of_eq hbind) hloc (fun g L' h₁ FG F' N' B' X' T' => ?_) hco hgen hk hcell
  have hd' : dp + 1 + d < recursionLimit := by omega
  have hu' : un + 3 + u < cLine := by omega
  have hA : (ktrTop dp un gd cn cs' L a ccd cl outer).deeper (envOf qual cs L' f cdv) = ktrTop (dp + 1) (un + 3) gd qual cs L' f cdv [] (envX cn cs' L a ccd cl :: outer) := rfl
  let C : Bx cs ns d u RX XX := ⟨w, p, loose, mean, mg, mb, dp + 1, un + 3, gd, qual, L', f, cdv, envX cn cs' L a ccd cl :: outer, ktrTop dp un gd cn cs' L a ccd cl outer, base, g, (news = ·), s, [], .inr ⟨rfl, hA⟩, B', X', T', hk, hd', hu', hnd, fun _ _ h h' => h ▸ h' ▸ rfl⟩
  have hst : St C us [] { s with heap := h₁, toks := s.toks + binds.length } := ⟨news, rfl, ⟨rfl, rfl, rfl⟩, ⟨_, F', hus⟩, N', fun _ _ _ h => nomatch h⟩
  have h1 := hb C rfl FG _ hst
  show wpAny (model PySem.Challenge.pw_pf0076_01 w) (ktrTop (dp + 1) (un + 3) gd qual cs L' f cdv [] (envX cn cs' L a ccd cl :: outer)) _ _ _ _
  refine wpAny_mono h1 (fun fl s' h => ?_) (fun e s' h => ?_)
  · have key : ∀ v us nw, RX v nw → St C us nw s' → LeaveK h₀ L m g (fun r s' => match r with | .ok (.ret v) => Q v s' | .ok _ => False | .error e => E e s') v s' := fun v us nw hr hs => by
      obtain ⟨_, rfl, hsame, ⟨m', Fm', _⟩, hn, hab⟩ := hs
      refine leaveK_ Fm' hn fun F9 N9 => ?_
      have h9 := hret v nw s'.heap s'.toks hr F9 N9 hab
      rw [hsame.eq]
      exact h9
    cases fl with
    | next => obtain ⟨us', nw, hr, hs⟩ := h; exact key _ _ _ hr hs
    | ret v => obtain ⟨us', nw, hr, hs⟩ := h; exact key _ _ _ hr hs
    | brk => exact h.elim
    | cont => exact h.elim
  · refine wpAny_mono h (fun _ s'' h' => ?_) (fun _ _ h' => h'.elim)
    obtain ⟨x, sp, rfl, hx, hs, _, rfl, R⟩ := h'
    have h9 := hexc x sp s''.heap s''.toks g hx FG R
    rw [hs.eq]
    exact h9
theorem Ctr.of_body {w : World} {f : Addr} {vs : List Value} {d u : Nat} {led : List (Addr × Obj)} {RX : Value → List (Addr × Obj) → Prop} {XX : Int → Prop}
    {name qual : PySem.Str} {params : Arguments} {body : List Stmt} {cs : Scope} {dV kV doc pm cdv ct oc : Value} {an od : Option Addr} {osl : Array (Option Value)} {binds : List (PySem.Str × Value)} (ns : List PySem.Str) (us : List Vl)
    (ho : (Mine.hd.heap_39 w.params).lookup f = some ⟨oc, od, .func (fnOf name qual params body cs dV kV doc pm an cdv ct), osl⟩) (hcd : codeIn (Mine.hd.heap_39 w.params) cdv qual = true)
    (hbind : bindArgs (fnOf name qual params body cs dV kV doc pm an cdv ct) ⟨vs, []⟩ = pure binds) (hloc : ∀ y ∈ binds, cs.names.lookup y.1 = some .local)
    (hnd : ns.Nodup) (hus : ∀ (i : Nat) (x : PySem.Str) (u : Vl), ns[i]? = some x → us[i]? = some u → u.Is (binds.reverse.lookup x))
    (hco : cs.isCoroutine = false) (hgen : cs.isGenerator = false) (hk : cs.kind = .function) (hcell : ∀ x ∈ cs.names, x.2 ≠ .cell)
    (hb : ∀ C : Bx cs ns d u RX XX, C.w = w → Ex C us [] body (fun _ nw => RX .none nw)) : Ctr w f vs (d + 1) (u + 3) led RX XX := fun _ _ _ _ _ _ _ _ _ _ _ _ _ _ _ _ _ _ _ _ _ _ _ B F X N T hk' hd hu _ hret hexc =>
  Ctr.of_body0 ns us ho hcd hbind hloc hnd hus hco hgen hk hcell B F X N T hk' hd hu hret hexc fun C hw _ => hb C hw

end
section
example : True := by
  w_top off
  trivial
section
variable {cs : Scope} {ns : List PySem.Str} {d u : Nat} {RX : Value → List (Addr × Obj) → Prop} {XX : Int → Prop} {C : Bx cs ns d u RX XX} {us : List Vl} {nw : List (Addr × Obj)}
theorem St.toks {s : Shared} (h : St C us nw s) (k : Nat) : St C us nw { s with toks := k } := h.elim fun l h => ⟨l, h.pn, h.same, h.fr, h.news, h.above⟩
theorem Vl.int_is {i : Int} {v : Value} (h : (Vl.int i).Is (some v)) : ∃ t, v = .int i t := by obtain ⟨t, e⟩ := h; exact ⟨t, Option.some.inj e⟩
theorem Vl.str_is {i : PySem.Str} {v : Value} (h : (Vl.str i).Is (some v)) : ∃ t, v = .str i t := by obtain ⟨t, e⟩ := h; exact ⟨t, Option.some.inj e⟩
theorem Vl.byt_is {i : Array UInt8} {v : Value} (h : (Vl.byt i).Is (some v)) : ∃ t, v = .bytes i t := by obtain ⟨t, e⟩ := h; exact ⟨t, Option.some.inj e⟩
theorem Vl.val_is {i v : Value} (h : (Vl.val i).Is (some v)) : v = i := Option.some.inj h
noncomputable def EvG (C : Bx cs ns d u RX XX) (us : List Vl) (nw : List (Addr × Obj)) (e : PySem.Expr) (P : Value → List (Addr × Obj) → Prop) : Prop :=
  ∀ (s : Shared) (Q E : Value → Shared → Prop), St C us nw s → (∀ v nw' s', P v nw' → St C us nw' s' → Q v s') → (∀ e s', C.E e s' → E e s') → wpAny C.M C.A (eval e C.env) Q E s
theorem Ev.g {e : PySem.Expr} {x : Vl} (h : Ev C us nw e x) : EvG C us nw e (fun v nw' => x.Is (some v) ∧ nw' = nw) := fun s Q E hS hQ hE => h s Q E hS (fun v s' hv hS' => hQ v nw s' ⟨hv, rfl⟩ hS') hE
theorem EvG.ev {e : PySem.Expr} {x : Vl} {P : Value → List (Addr × Obj) → Prop} (h : EvG C us nw e P) (hp : ∀ v nw', P v nw' → x.Is (some v) ∧ nw' = nw) : Ev C us nw e x := fun s Q E hS hQ hE => h s Q E hS (fun v nw' s' hv hS' => hQ v s' (hp _ _ hv).1 ((hp _ _ hv).2 ▸ hS')) hE
noncomputable def okLoc (cs : Scope) (ns : List PySem.Str) (i : Nat) (x : PySem.Str) : Bool := ns[i]? == some x && cs.names.lookup x == some .local && !(x == Str.ofString "__debug__")
noncomputable def okGlob (cs : Scope) (x : PySem.Str) : Bool := cs.names.lookup x == some .globalImplicit && !(x == Str.ofString "__debug__")
theorem okLoc_out {i : Nat} {x : PySem.Str} (h : okLoc cs ns i x = true) : ns[i]? = some x ∧ cs.names.lookup x = some .local ∧ (x == Str.ofString "__debug__") = false := by
  unfold okLoc at h
  simp only [Bool.and_eq_true, Bool.not_eq_true'] at h
  exact ⟨eq_of_beq h.1.1, eq_of_beq h.1.2, h.2⟩
theorem okGlob_out {x : PySem.Str} (h : okGlob cs x = true) : cs.names.lookup x = some .globalImplicit ∧ (x == Str.ofString "__debug__") = false := by
  unfold okGlob at h
  simp only [Bool.and_eq_true, Bool.not_eq_true'] at h
  exact ⟨eq_of_beq h.1, h.2⟩
theorem Vl.some_of {x : Vl} {o : Option Value} (hx : x.Is o) (hn : x ≠ .no) : ∃ v, o = some v ∧ x.Is (some v) := by
  cases x with
  | no => exact absurd rfl hn
  | int i => obtain ⟨t, e⟩ := hx; exact ⟨_, e, t, rfl⟩
  | str i => obtain ⟨t, e⟩ := hx; exact ⟨_, e, t, rfl⟩
  | byt i => obtain ⟨t, e⟩ := hx; exact ⟨_, e, t, rfl⟩
  | val v => exact ⟨_, hx, rfl⟩
noncomputable def Vl.set : Vl → Bool | .no => false | _ => true
theorem Ev.loc (i : Nat) {x : PySem.Str} {pos : Pos} {y : Vl} (ho : okLoc cs ns i x = true) (hu : us[i]? = some y) (hy : y.set = true) : Ev C us nw (.Name x pos) y := fun s Q E hS hQ hE => by
  obtain ⟨h1, h2, h3⟩ := okLoc_out ho
  obtain ⟨m, F, hm⟩ := hS.fr
  obtain ⟨v, hv, hi⟩ := Vl.some_of (hm i x y h1 hu) (fun e => by rw [e] at hy; cases hy)
  exact nameX_L F hv (hQ v s hi hS) C.hk h2 h3
theorem Ev.glob {x : PySem.Str} {pos : Pos} {v : Value} (ho : okGlob cs x = true) (hv : nsIn (Mine.hd.heap_39 C.w.params) mainGlobals x = some (some v)) : Ev C us nw (.Name x pos) (.val v) := fun s Q E hS hQ hE => by
  obtain ⟨m, F, _⟩ := hS.fr
  exact nameX_K F C.K (topRead_of C.T) hv (hQ v s rfl hS) C.hk (okGlob_out ho).1 (okGlob_out ho).2
noncomputable def okBi (cs : Scope) (x : PySem.Str) : Bool := okGlob cs x && !(x == Str.ofString "__name__")
theorem Ev.bi {x : PySem.Str} {pos : Pos} {v : Value} (ho : okBi cs x = true) (hn : nsIn (Mine.hd.heap_39 C.w.params) mainGlobals x = some none) (hv : bootBuiltins x = some v) : Ev C us nw (.Name x pos) (.val v) := fun s Q E hS hQ hE => by
  obtain ⟨m, F, _⟩ := hS.fr
  unfold okBi at ho
  simp only [Bool.and_eq_true, Bool.not_eq_true', beq_eq_false_iff_ne, ne_eq] at ho
  exact nameX_B F C.K (topRead_of C.T) hn hv ho.2 (hQ v s rfl hS) C.hk (okGlob_out ho.1).1 (okGlob_out ho.1).2
theorem Ev.cint {i : Int} {k : Nat} {pos : Pos} : Ev C us nw (.Constant (.int i) k pos) (.int i) := fun s Q E hS hQ hE => wpAny_Constant_int (hQ _ _ ⟨_, rfl⟩ (hS.toks _))
theorem Ev.cstr {i : PySem.Str} {k : Nat} {pos : Pos} : Ev C us nw (.Constant (.str i) k pos) (.str i) := fun s Q E hS hQ hE => Calls.Constant_str (hQ _ _ ⟨_, rfl⟩ (hS.toks _))
theorem Ev.non {k : Nat} {pos : Pos} : Ev C us nw (.Constant .none k pos) (.val .none) := fun s Q E hS hQ hE => wpAny_Constant_none (hQ _ _ rfl hS)
theorem Ev.bool {b : Bool} {k : Nat} {pos : Pos} : Ev C us nw (.Constant (.bool b) k pos) (.val (.bool b)) := fun s Q E hS hQ hE => wpAny_Constant_bool (hQ _ _ rfl hS)
theorem Ev.op {op : Operator} {l r : PySem.Expr} {pos : Pos} {i j k : Int} (ho : ∀ (s : Shared) (Q E : Value → Shared → Prop) t t', Q (.int k s.toks) { s with toks := s.toks + 1 } → wpAny C.M C.A (binaryOp op (.int i t) (.int j t')) Q E s)
    (ha : Ev C us nw l (.int i)) (hb : Ev C us nw r (.int j)) : Ev C us nw (.BinOp l op r pos) (.int k) := fun s Q E hS hQ hE => by
  refine wpAny_BinOp (ha _ _ _ hS (fun v s' hv hS' => hb _ _ _ hS' (fun v' s'' hv' hS'' => ?_) hE) hE)
  obtain ⟨t, rfl⟩ := Vl.int_is hv
  obtain ⟨t', rfl⟩ := Vl.int_is hv'
  exact ho _ _ _ _ _ (hQ _ _ ⟨_, rfl⟩ (hS''.toks _))
theorem Ev.add {l r : PySem.Expr} {pos : Pos} {i j : Int} (ha : Ev C us nw l (.int i)) (hb : Ev C us nw r (.int j)) : Ev C us nw (.BinOp l .Add r pos) (.int (i + j)) := Ev.op (fun _ _ _ _ _ h => PyProof.Rows.add_int h) ha hb
theorem Ev.sub {l r : PySem.Expr} {pos : Pos} {i j : Int} (ha : Ev C us nw l (.int i)) (hb : Ev C us nw r (.int j)) : Ev C us nw (.BinOp l .Sub r pos) (.int (i - j)) := Ev.op (fun _ _ _ _ _ h => PyProof.Rows.sub_int h) ha hb
theorem bim {op : CmpOp} {r : PySem.Expr} (h : (op == .In) = false) (h' : (op == .NotIn) = false) : behindInMarks op r = false := by
  cases r
  case Set elts k pos =>
    show (k == 0 && (op == .In || op == .NotIn) && elts.all (constantsAlone 8)) = false
    rw [h, h', Bool.or_false, Bool.and_false, Bool.false_and]
  all_goals rfl
structure Cm (C : Bx cs ns d u RX XX) (us : List Vl) (nw : List (Addr × Obj)) (op : CmpOp) (l r : PySem.Expr) (b : Bool) : Prop where
  hm : behindInMarks op r = false
  run : ∀ (s : Shared) (Q E : Value → Shared → Prop), St C us nw s → (∀ s', St C us nw s' → Q (.bool b) s') → (∀ e s', C.E e s' → E e s') → wpAny C.M C.A (eval l C.env) (fun a s₁ => wpAny C.M C.A (eval r C.env) (fun b s₂ => wpAny C.M C.A (compareOp op a b) Q E s₂) E s₁) E s
theorem Cm.of {op : CmpOp} {l r : PySem.Expr} {x y : Vl} {b : Bool} (hm : behindInMarks op r = false) (ho : ∀ (s : Shared) (Q E : Value → Shared → Prop) v v', x.Is (some v) → y.Is (some v') → Q (.bool b) s → wpAny C.M C.A (compareOp op v v') Q E s)
    (ha : Ev C us nw l x) (hb : Ev C us nw r y) : Cm C us nw op l r b := ⟨hm, fun s Q E hS hQ hE => ha _ _ _ hS (fun v s' hv hS' => hb _ _ _ hS' (fun v' s'' hv' hS'' => ho _ _ _ _ _ hv hv' (hQ _ hS'')) hE) hE⟩
theorem Ev.cm {op : CmpOp} {l r : PySem.Expr} {pos : Pos} {b : Bool} (h : Cm C us nw op l r b) : Ev C us nw (.Compare l [op] [r] pos) (.val (.bool b)) := fun s Q E hS hQ hE =>
  wpAny_Compare1 (h.run _ _ _ hS (fun s' hS' => hQ _ _ rfl hS') hE) h.hm
noncomputable def Tst (C : Bx cs ns d u RX XX) (us : List Vl) (nw : List (Addr × Obj)) (e : PySem.Expr) (b : Bool) : Prop :=
  ∀ (s : Shared) (Q : Bool → Shared → Prop) (E : Value → Shared → Prop), St C us nw s → (∀ s', St C us nw s' → Q b s') → (∀ e s', C.E e s' → E e s') → wpAny C.M C.A (isTrue e C.env (eval e C.env)) Q E s
theorem Tst.cm {op : CmpOp} {l r : PySem.Expr} {pos : Pos} {b : Bool} (h : Cm C us nw op l r b) : Tst C us nw (.Compare l [op] [r] pos) b := fun s Q E hS hQ hE =>
  wpAny_isTrue_Compare1 (h.run _ _ _ hS (fun s' hS' => wpAny_truthy_bool (hQ _ hS')) hE) h.hm
theorem Tst.nt {e : PySem.Expr} {pos : Pos} {b : Bool} (h : Tst C us nw e b) : Tst C us nw (.UnaryOp .Not e pos) (!b) := fun s Q E hS hQ hE => isTrue_not (h _ _ _ hS hQ hE)
theorem Tst.and2 {e f : PySem.Expr} {pos : Pos} {a b : Bool} (h : Tst C us nw e a) (h' : a = true → Tst C us nw f b) : Tst C us nw (.BoolOp .And [e, f] pos) (a && b) := fun s Q E hS hQ hE => by
  refine isTrue_and (h _ _ _ hS (fun s' hS' => ?_) hE)
  cases a with
  | false => exact hQ _ hS'
  | true => exact isTrue_and (h' rfl _ _ _ hS' (fun s'' hS'' => by cases b with | false => exact hQ _ hS'' | true => exact isTrue_and_nil (hQ _ hS'')) hE)
theorem Tst.plain {e : PySem.Expr} {b : Bool} (h : Ev C us nw e (.val (.bool b))) (he : ∀ env whole, isTrue e env whole = (do let v ← whole; standAt e.pos; holding [v] (truthy v))) : Tst C us nw e b := fun s Q E hS hQ hE =>
  isTrue_plain (h _ _ _ hS (fun v s' hv hS' => by rw [Vl.val_is hv]; exact wpAny_truthy_bool (hQ _ hS')) hE) (he _ _)
theorem Tst.eq {e : PySem.Expr} {a b : Bool} (h : Tst C us nw e a) (he : a = b) : Tst C us nw e b := he ▸ h
theorem cmpI {C : Bx cs ns d u RX XX} {op : CmpOp} {i j : Int} {b : Bool} (ho : ∀ (s : Shared) (Q E : Value → Shared → Prop) t t', Q (.bool b) s → wpAny C.M C.A (compareOp op (.int i t) (.int j t')) Q E s) :
    ∀ (s : Shared) (Q E : Value → Shared → Prop) v v', (Vl.int i).Is (some v) → (Vl.int j).Is (some v') → Q (.bool b) s → wpAny C.M C.A (compareOp op v v') Q E s := fun s Q E v v' hv hv' h => by
  obtain ⟨t, rfl⟩ := Vl.int_is hv
  obtain ⟨t', rfl⟩ := Vl.int_is hv'
  exact ho _ _ _ _ _ h
theorem cmpS {C : Bx cs ns d u RX XX} {op : CmpOp} {i j : PySem.Str} {b : Bool} (ho : ∀ (s : Shared) (Q E : Value → Shared → Prop) t t', Q (.bool b) s → wpAny C.M C.A (compareOp op (.str i t) (.str j t')) Q E s) :
    ∀ (s : Shared) (Q E : Value → Shared → Prop) v v', (Vl.str i).Is (some v) → (Vl.str j).Is (some v') → Q (.bool b) s → wpAny C.M C.A (compareOp op v v') Q E s := fun s Q E v v' hv hv' h => by
  obtain ⟨t, rfl⟩ := Vl.str_is hv
  obtain ⟨t', rfl⟩ := Vl.str_is hv'
  exact ho _ _ _ _ _ h
section
variable {l r : PySem.Expr} {pos : Pos} {i j : Int} {x y : PySem.Str}
theorem Cm.lt (ha : Ev C us nw l (.int i)) (hb : Ev C us nw r (.int j)) : Cm C us nw .Lt l r (decide (i < j)) := Cm.of (bim rfl rfl) (cmpI fun _ _ _ _ _ h => PyProof.Rows.lt_int h) ha hb
theorem Cm.gt (ha : Ev C us nw l (.int i)) (hb : Ev C us nw r (.int j)) : Cm C us nw .Gt l r (decide (j < i)) := Cm.of (bim rfl rfl) (cmpI fun _ _ _ _ _ h => PyProof.Rows.gt_int h) ha hb
theorem Cm.ge (ha : Ev C us nw l (.int i)) (hb : Ev C us nw r (.int j)) : Cm C us nw .GtE l r (decide (j ≤ i)) := Cm.of (bim rfl rfl) (cmpI fun _ _ _ _ _ h => PySem.P.ge_int h) ha hb
theorem Cm.eqI (ha : Ev C us nw l (.int i)) (hb : Ev C us nw r (.int j)) : Cm C us nw .Eq l r (i == j) := Cm.of (bim rfl rfl) (cmpI fun _ _ _ _ _ h => PyProof.Rows.eq_int h) ha hb
theorem Cm.eqS (ha : Ev C us nw l (.str x)) (hb : Ev C us nw r (.str y)) : Cm C us nw .Eq l r (x == y) := Cm.of (bim rfl rfl) (cmpS fun _ _ _ _ _ h => PyProof.Rows.eq_str h) ha hb
theorem Cm.neS (ha : Ev C us nw l (.str x)) (hb : Ev C us nw r (.str y)) : Cm C us nw .NotEq l r (x != y) := Cm.of (bim rfl rfl) (cmpS fun _ _ _ _ _ h => PyProof.Rows.ne_str h) ha hb
theorem Cm.inS (hm : behindInMarks .In r = false) (ha : Ev C us nw l (.str y)) (hb : Ev C us nw r (.str x)) : Cm C us nw .In l r (hasS x y) := Cm.of hm (cmpS fun _ _ _ _ _ h => PyProof.Rows.in_str h) ha hb
theorem Cm.notNone {v : Value} {k : Nat} {p : Pos} (ha : Ev C us nw l (.val v)) : Cm C us nw .IsNot l (.Constant .none k p) (!(v == .none)) :=
  Cm.of (bim rfl rfl) (fun _ _ _ _ _ hv hv' h => by rw [Vl.val_is hv, Vl.val_is hv']; exact PySem.isNot_none h) ha Ev.non
theorem Ev.weak {a b : Vl} {e : PySem.Expr} (h : Ev C us nw e a) (hw : ∀ o, a.Is o → b.Is o) : Ev C us nw e b := fun s Q E hS hQ hE => h s Q E hS (fun v s' hv hS' => hQ v s' (hw _ hv) hS') hE
end
theorem fits_of {i : Int} (h0 : 0 ≤ i) (h1 : i < 1048576) : fitsSsize i = true := by
  unfold fitsSsize
  simp only [Bool.not_eq_true', Bool.or_eq_false_iff, decide_eq_false_iff_not]
  omega
theorem Ev.item {n : PySem.Str} {p pos : Pos} {sl : PySem.Expr} {x : PySem.Str} {i : Int} (ha : Ev C us nw (.Name n p) (.str x)) (hb : Ev C us nw sl (.int i)) (h0 : 0 ≤ i) (h1 : i < x.length) (hl : x.length ≤ 1048576)
    (hs : ∀ t i' t', subscripted sl false (.str x t) (.int i' t') = operate [.str x t, .int i' t'] (getItem (.str x t) (.int i' t'))) : Ev C us nw (.Subscript (.Name n p) sl pos) (.str (Txt.item x i)) := fun s Q E hS hQ hE => by
  refine Subscript_ (ha _ _ _ hS (fun v s' hv hS' => hb _ _ _ hS' (fun v' s'' hv' hS'' => ?_) hE) hE)
  obtain ⟨t, rfl⟩ := Vl.str_is hv
  obtain ⟨t', rfl⟩ := Vl.int_is hv'
  exact PyProof.Rows.item_str (fits_of h0 (by omega)) (by omega) h1 (fun _ => hQ _ _ ⟨_, rfl⟩ (hS''.toks _)) (hs _ _ _) (by intro _; with_unfolding_all rfl)
theorem Ev.ss {n : PySem.Str} {p p' pos : Pos} {l r : PySem.Expr} {x : PySem.Str} {i j : Int} (ha : Ev C us nw (.Name n p) (.str x)) (hb : Ev C us nw l (.int i)) (hc : Ev C us nw r (.int j)) (hl : x.length ≤ 1048576) : Ev C us nw (.Subscript (.Name n p) (.Slice (some l) (some r) none p') pos) (.str (Txt.slice x (some i) (some j))) := fun s Q E hS hQ hE => by
  refine Subscript_ (ha _ _ _ hS (fun v s' hv hS' => wpAny_Slice (evalPart_some_step (hb _ _ _ hS' (fun v' s'' hv' hS'' => evalPart_some_step (hc _ _ _ hS'' (fun v3 s3 hv3 hS3 => evalPart_none_step ?_) hE)) hE))) hE)
  obtain ⟨t, rfl⟩ := Vl.str_is hv
  obtain ⟨t', rfl⟩ := Vl.int_is hv'
  obtain ⟨t3, rfl⟩ := Vl.int_is hv3
  obtain ⟨l3, hl3⟩ := id hS3
  obtain ⟨m, F, hm⟩ := hS3.fr
  exact slice_strN_ss F hl3.news (fun h' t' k F' N' => hQ _ _ ⟨_, rfl⟩ ⟨l3, hl3.pn, hS3.same, ⟨m, F', hm⟩, N', hl3.above⟩) (by with_unfolding_all rfl) (by intro _; with_unfolding_all rfl) (by size_fits)
theorem Ev.sn {n : PySem.Str} {p p' pos : Pos} {l : PySem.Expr} {x : PySem.Str} {i : Int} (ha : Ev C us nw (.Name n p) (.str x)) (hb : Ev C us nw l (.int i)) (hl : x.length ≤ 1048576) : Ev C us nw (.Subscript (.Name n p) (.Slice (some l) none none p') pos) (.str (Txt.slice x (some i) none)) := fun s Q E hS hQ hE => by
  refine Subscript_ (ha _ _ _ hS (fun v s' hv hS' => wpAny_Slice (evalPart_some_step (hb _ _ _ hS' (fun v' s'' hv' hS'' => evalPart_none_step (evalPart_none_step ?_)) hE))) hE)
  obtain ⟨t, rfl⟩ := Vl.str_is hv
  obtain ⟨t', rfl⟩ := Vl.int_is hv'
  obtain ⟨l'', hl''⟩ := id hS''
  obtain ⟨m, F, hm⟩ := hS''.fr
  exact slice_strN_sn F hl''.news (fun h' t' k F' N' => hQ _ _ ⟨_, rfl⟩ ⟨l'', hl''.pn, hS''.same, ⟨m, F', hm⟩, N', hl''.above⟩) (by with_unfolding_all rfl) (by intro _; with_unfolding_all rfl) (by size_fits)
theorem Ev.nS {n : PySem.Str} {p p' pos : Pos} {r : PySem.Expr} {x : PySem.Str} {j : Int} (ha : Ev C us nw (.Name n p) (.str x)) (hc : Ev C us nw r (.int j)) (hl : x.length ≤ 1048576) : Ev C us nw (.Subscript (.Name n p) (.Slice none (some r) none p') pos) (.str (Txt.slice x none (some j))) := fun s Q E hS hQ hE => by
  refine Subscript_ (ha _ _ _ hS (fun v s' hv hS' => wpAny_Slice (evalPart_none_step (evalPart_some_step (hc _ _ _ hS' (fun v' s'' hv' hS'' => evalPart_none_step ?_) hE)))) hE)
  obtain ⟨t, rfl⟩ := Vl.str_is hv
  obtain ⟨t', rfl⟩ := Vl.int_is hv'
  obtain ⟨l'', hl''⟩ := id hS''
  obtain ⟨m, F, hm⟩ := hS''.fr
  exact slice_strN_ns F hl''.news (fun h' t' k F' N' => hQ _ _ ⟨_, rfl⟩ ⟨l'', hl''.pn, hS''.same, ⟨m, F', hm⟩, N', hl''.above⟩) (by with_unfolding_all rfl) (by intro _; with_unfolding_all rfl) (by size_fits)
end

end
section
example : True := by
  w_top off
  trivial
section
variable {cs : Scope} {ns : List PySem.Str} {d u : Nat} {RX : Value → List (Addr × Obj) → Prop} {XX : Int → Prop} {C : Bx cs ns d u RX XX} {us : List Vl} {nw : List (Addr × Obj)} {K : List Vl → List (Addr × Obj) → Prop} {rest : List Stmt} {pos : Pos}
theorem Bx.inj (C : Bx cs ns d u RX XX) {i j : Nat} {x : PySem.Str} (h : ns[i]? = some x) (h' : ns[j]? = some x) : i = j := by
  obtain ⟨hi, rfl⟩ := List.getElem?_eq_some_iff.mp h
  obtain ⟨hj, e⟩ := List.getElem?_eq_some_iff.mp h'
  have nd := List.pairwise_iff_getElem.mp C.nd
  rcases Nat.lt_trichotomy i j with q | q | q
  · exact absurd e.symm (nd i j hi hj q)
  · exact q
  · exact absurd e (nd j i hj hi q)
theorem St.store {i : Nat} {x : PySem.Str} {v : Value} {y : Vl} {s : Shared} {Q : Unit → Shared → Prop} {E : Value → Shared → Prop} (ho : okLoc cs ns i x = true) (hS : St C us nw s) (hv : y.Is (some v)) (h : ∀ s', St C (us.set i y) nw s' → Q () s') :
    wpAny C.M C.A (storeName C.env x v) Q E s := by
  obtain ⟨h1, h2, _⟩ := okLoc_out ho
  obtain ⟨l, hl⟩ := id hS
  obtain ⟨m, F, hm⟩ := hS.fr
  refine storeX_L F hl.news (fun h' F' N' => h _ ⟨l, hl.pn, hS.same, ⟨_, F', fun j x' w hj hu => ?_⟩, N', hl.above⟩) C.hk h2
  by_cases q : x' = x
  · subst q
    obtain rfl := C.inj h1 hj
    rw [if_pos rfl]
    have hu' := hu
    rw [List.getElem?_set_self (by have := (List.getElem?_eq_some_iff.mp hu).1; simpa using this)] at hu'
    rw [← Option.some.inj hu']
    exact hv
  · rw [if_neg q]
    refine hm j x' w hj ?_
    rw [List.getElem?_set_ne (fun e => q ?_)] at hu
    · exact hu
    · subst e
      exact (Option.some.inj (h1.symm.trans hj)).symm
theorem Ex.nil (h : K us nw) : Ex C us nw [] K := fun s hS => wpAny_execs_nil ⟨us, nw, h, hS⟩
theorem Ex.set (i : Nat) {x : PySem.Str} {p : Pos} {e : PySem.Expr} {y : Vl} (ho : okLoc cs ns i x = true) (hs : ∀ env, swapsWith e (some (.Name x p)) pos.line env = pure false) (he : Ev C us nw e y) (hr : Ex C (us.set i y) nw rest K) :
    Ex C us nw (.Assign [.Name x p] e pos :: rest) K := fun s hS =>
  wpAny_execs_cons (wpAny_Assign_Name (he _ _ _ hS (fun v s' hv hS' => hS'.store ho hv fun s'' hS'' => hr _ hS'') fun _ _ h => h) (hs _))
theorem Ex.setG (i : Nat) {x : PySem.Str} {p : Pos} {e : PySem.Expr} {P : Value → List (Addr × Obj) → Prop} (ho : okLoc cs ns i x = true) (hs : ∀ env, swapsWith e (some (.Name x p)) pos.line env = pure false) (he : EvG C us nw e P)
    (hr : ∀ v nw', P v nw' → Ex C (us.set i (.val v)) nw' rest K) : Ex C us nw (.Assign [.Name x p] e pos :: rest) K := fun s hS =>
  wpAny_execs_cons (wpAny_Assign_Name (he _ _ _ hS (fun v nw' s' hv hS' => hS'.store ho (y := .val v) rfl fun s'' hS'' => hr _ _ hv _ hS'') fun _ _ h => h) (hs _))
theorem Ex.weak {vs : List Vl} (h : Ex C vs nw rest K) (hw : ∀ (j : Nat) (b : Vl), vs[j]? = some b → ∃ a, us[j]? = some a ∧ ∀ o, a.Is o → b.Is o) : Ex C us nw rest K := fun s hS => by
  obtain ⟨l, hl⟩ := id hS
  obtain ⟨m, F, hm⟩ := hS.fr
  exact h s ⟨l, hl.pn, hS.same, ⟨m, F, fun j x b hj hb => by obtain ⟨a, ha, hab⟩ := hw j b hb; exact hab _ (hm j x a hj ha)⟩, hl.news, hl.above⟩
theorem Ex.drop {n2 : List (Addr × Obj)} (h : Ex C us nw rest K) : Ex C us (n2 ++ nw) rest K := fun s hS =>
  hS.elim fun l hl => h s ⟨l, hl.pn, hS.same, hS.fr, fun q hq => hl.news q (by rw [List.append_assoc]; exact List.mem_append_right _ hq), fun q hq p hp => hl.above q hq p (List.mem_append_right _ hp)⟩
theorem Ex.augI (i : Nat) {x : PySem.Str} {p : Pos} {e : PySem.Expr} {a b : Int} (ho : okLoc cs ns i x = true) (hu : us[i]? = some (.int a)) (he : Ev C us nw e (.int b)) (hr : Ex C (us.set i (.int (a + b))) nw rest K) :
    Ex C us nw (.AugAssign (.Name x p) .Add e pos :: rest) K := fun s hS => by
  obtain ⟨h1, h2, h3⟩ := okLoc_out ho
  obtain ⟨m, F, hm⟩ := hS.fr
  obtain ⟨t, ht⟩ := hm i x _ h1 hu
  refine wpAny_execs_cons (wpAny_AugAssign_Name (wpAny_loadName_local C.hk h2 F.ns ht (he _ _ _ hS (fun v s' hv hS' => ?_) fun _ _ h => h)))
  obtain ⟨t', rfl⟩ := Vl.int_is hv
  exact PyProof.Rows.iadd_int (St.store (y := .int (a + b)) ho (hS'.toks _) ⟨_, rfl⟩ fun s'' hS'' => hr _ hS'')
theorem Ex.ite {test : PySem.Expr} {body orelse : List Stmt} {b : Bool} (ht : Tst C us nw test b) (h1 : b = true → Ex C us nw body (fun us' nw' => Ex C us' nw' rest K)) (h2 : b = false → Ex C us nw orelse (fun us' nw' => Ex C us' nw' rest K)) :
    Ex C us nw (.If test body orelse pos :: rest) K := fun s hS => by
  have key : ∀ {ss s'}, Ex C us nw ss (fun us' nw' => Ex C us' nw' rest K) → St C us nw s' → wpAny C.M C.A (execs ss C.env) (fun f s' => match f with | .next => wpAny C.M C.A (execs rest C.env) (C.Q K) C.E s' | f => C.Q K f s') C.E s' := fun h hS' =>
    wpAny_mono (h _ hS') (fun f s' hf => by
      cases f with
      | next => obtain ⟨us', nw', hk, hs⟩ := hf; exact hk _ hs
      | ret v => exact hf
      | brk => exact hf
      | cont => exact hf) fun _ _ h => h
  refine wpAny_execs_cons (wpAny_If (ht _ _ _ hS (fun s' hS' => ?_) fun _ _ h => h))
  cases b with
  | true => exact key (h1 rfl) hS'
  | false => exact key (h2 rfl) hS'
theorem Ex.iteD {test : PySem.Expr} {body orelse : List Stmt} {p : Prop} [Decidable p] (ht : Tst C us nw test (decide p)) (h1 : p → Ex C us nw body (fun us' nw' => Ex C us' nw' rest K)) (h2 : ¬ p → Ex C us nw orelse (fun us' nw' => Ex C us' nw' rest K)) :
    Ex C us nw (.If test body orelse pos :: rest) K := Ex.ite ht (fun h => h1 (of_decide_eq_true h)) fun h => h2 (of_decide_eq_false h)
theorem Ex.ret {e : PySem.Expr} {P : Value → List (Addr × Obj) → Prop} (he : EvG C us nw e P) (hp : ∀ v nw', P v nw' → RX v nw') : Ex C us nw (.Return (some e) pos :: rest) K := fun s hS =>
  wpAny_execs_cons (wpAny_Return_some (he _ _ _ hS (fun v nw' s' hv hS' => ⟨us, nw', hp _ _ hv, hS'⟩) fun _ _ h => h))
theorem Ex.retI {e : PySem.Expr} {i : Int} (he : Ev C us nw e (.int i)) (hp : ∀ t, RX (.int i t) nw) : Ex C us nw (.Return (some e) pos :: rest) K := fun s hS =>
  wpAny_execs_cons (wpAny_Return_some (he _ _ _ hS (fun v s' hv hS' => by obtain ⟨t, rfl⟩ := Vl.int_is hv; exact ⟨us, nw, hp t, hS'⟩) fun _ _ h => h))
noncomputable def Sub (vs us : List Vl) : Prop := ∀ (j : Nat) (y : Vl), vs[j]? = some y → ∃ a, us[j]? = some a ∧ ∀ o, a.Is o → y.Is o
theorem Sub.refl (us : List Vl) : Sub us us := fun _ y h => ⟨y, h, fun _ h => h⟩
theorem Sub.nil {us : List Vl} : Sub [] us := fun _ _ h => by cases h
theorem Sub.no {a : Vl} {vs us : List Vl} (h : Sub vs us) : Sub (.no :: vs) (a :: us) := fun j y hy => by
  cases j with
  | zero => cases hy; exact ⟨a, rfl, fun _ _ => trivial⟩
  | succ j => exact h j y hy
theorem Sub.eq {a : Vl} {vs us : List Vl} (h : Sub vs us) : Sub (a :: vs) (a :: us) := fun j y hy => by
  cases j with
  | zero => cases hy; exact ⟨a, rfl, fun _ h => h⟩
  | succ j => exact h j y hy
theorem Sub.st {vs : List Vl} {nw : List (Addr × Obj)} {s : Shared} (h : Sub vs us) (S : St C us nw s) : St C vs nw s := by
  obtain ⟨lS, hlS⟩ := id S
  obtain ⟨m, F, hm⟩ := S.fr
  exact ⟨lS, hlS.pn, S.same, ⟨m, F, fun j x y hj hy => by obtain ⟨a, ha, hw⟩ := h j y hy; exact hw _ (hm j x a hj ha)⟩, hlS.news, hlS.above⟩
theorem Ex.while_ {α : Type} (I : α → Prop) (f : α → List Vl) (μ : α → Nat) (b : α → Bool) (c₀ : α) {test : PySem.Expr} {body : List Stmt} (h0 : I c₀) (hc : ∀ c, I c → Tst C (f c) nw test (b c))
    (turn : ∀ c, I c → b c = true → Ex C (f c) nw body (fun us' nw' => nw' = nw ∧ ∃ c', I c' ∧ μ c' < μ c ∧ Sub (f c') us'))
    (exit : ∀ c, I c → b c = false → Ex C (f c) nw rest K) : Ex C (f c₀) nw (.While test body [] pos :: rest) K := fun s hS => by
  refine wpAny_execs_cons (wpAny_While (codeAny_whileLoop (fun m s' => ∃ c, I c ∧ μ c = m ∧ St C (f c) nw s') ?_ _ ⟨c₀, h0, rfl, hS⟩))
  rintro m s' ⟨c, hI, rfl, hS'⟩
  refine hc c hI _ _ _ hS' (fun s₂ hS₂ => ?_) C.passes
  cases hb : b c with
  | false => exact wpAny_execs_nil (exit c hI hb _ hS₂)
  | true =>
    refine wpAny_mono (turn c hI hb _ hS₂) (fun fl s₃ hf => ?_) C.passes
    cases fl with
    | next => obtain ⟨us', nw', ⟨rfl, c', hI', hlt, hw⟩, hS₃⟩ := hf; exact ⟨μ c', hlt, c', hI', rfl, hw.st hS₃⟩
    | ret v => exact hf
    | brk => exact hf.elim
    | cont => exact hf.elim
end

end
section
example : True := by
  w_top off
  trivial
section
variable {cs : Scope} {ns : List PySem.Str} {d u : Nat} {RX : Value → List (Addr × Obj) → Prop} {XX : Int → Prop} {C : Bx cs ns d u RX XX} {us : List Vl} {nw : List (Addr × Obj)} {K : List Vl → List (Addr × Obj) → Prop} {rest : List Stmt} {pos : Pos}
noncomputable def AllS (f : PySem.Str → Option Value) : List PySem.Str → List Vl → Prop
  | x :: xs, u :: us => u.Is (f x) ∧ AllS f xs us
  | _, _ => True
theorem slots {f : PySem.Str → Option Value} : ∀ (xs : List PySem.Str) (us : List Vl), AllS f xs us → ∀ (i : Nat) (x : PySem.Str) (u : Vl), xs[i]? = some x → us[i]? = some u → u.Is (f x) := fun xs => by
  induction xs with
  | nil => intro us _ i x u h; cases h
  | cons y xs ih =>
    intro us h i x u hx hu
    cases us with
    | nil => cases hu
    | cons v us =>
      cases i with
      | zero => cases hx; cases hu; exact h.1
      | succ i => exact ih us h.2 i x u hx hu
noncomputable def AllIs : List Vl → List Value → Prop
  | [], [] => True
  | x :: xs, v :: vs => x.Is (some v) ∧ AllIs xs vs
  | _, _ => False
noncomputable def ForA : List Vl → (List Value → Prop) → Prop
  | [], P => P []
  | .int i :: xs, P => ∀ t, ForA xs (fun vs => P (.int i t :: vs))
  | .str x :: xs, P => ∀ t, ForA xs (fun vs => P (.str x t :: vs))
  | .byt b :: xs, P => ∀ t, ForA xs (fun vs => P (.bytes b t :: vs))
  | .val v :: xs, P => ForA xs (fun vs => P (v :: vs))
  | .no :: _, _ => False
theorem forA_of : ∀ (xs : List Vl) {P : List Value → Prop}, ForA xs P → ∀ vs, AllIs xs vs → P vs := fun xs => by
  induction xs with
  | nil => intro P h vs hv; cases vs with | nil => exact h | cons _ _ => exact hv.elim
  | cons x xs ih =>
    intro P h vs hv
    cases vs with
    | nil => exact hv.elim
    | cons v vs =>
      obtain ⟨h1, h2⟩ := hv
      cases x with
      | no => exact h.elim
      | int i => obtain ⟨t, rfl⟩ := Vl.int_is h1; exact ih (h t) vs h2
      | str i => obtain ⟨t, rfl⟩ := Vl.str_is h1; exact ih (h t) vs h2
      | byt i => obtain ⟨t, rfl⟩ := Vl.byt_is h1; exact ih (h t) vs h2
      | val i => obtain rfl := Vl.val_is h1; exact ih h vs h2
noncomputable def EvL (C : Bx cs ns d u RX XX) (us : List Vl) (nw : List (Addr × Obj)) (es : List PySem.Expr) (xs : List Vl) : Prop :=
  ∀ (p : Pos) (s : Shared) (Q : List Value → Shared → Prop) (E : Value → Shared → Prop), St C us nw s → (∀ vs s', AllIs xs vs → St C us nw s' → Q vs s') → (∀ e s', C.E e s' → E e s') → wpAny C.M C.A (spliced (backTo p (starEach es C.env))) Q E s
theorem EvL.nil : EvL C us nw [] [] := fun p s Q E hS hQ _ => args_nil (hQ [] s trivial hS)
theorem EvL.cons {e : PySem.Expr} {es : List PySem.Expr} {x : Vl} {xs : List Vl} (h : Ev C us nw e x) (hs : EvL C us nw es xs) (he : ∀ env, starEach (e :: es) env = (false, eval e env) :: starEach es env) : EvL C us nw (e :: es) (x :: xs) := fun p s Q E hS hQ hE =>
  args_cons (h _ _ _ hS (fun v s' hv hS' => hs p _ _ _ hS' (fun vs s'' hvs hS'' => hQ _ _ ⟨hv, hvs⟩ hS'') hE) hE) (he _)
theorem EvG.call {x : PySem.Str} {p : Pos} {e : PySem.Expr} {es : List PySem.Expr} {xs : List Vl} {f : Addr} {d' u' : Nat} {R' : Value → List (Addr × Obj) → Prop} {X' : Int → Prop} (ho : okGlob cs x = true) (hv : nsIn (Mine.hd.heap_39 C.w.params) mainGlobals x = some (some (.ref f))) (hk : keepIn (Mine.hd.heap_39 C.w.params) (.ref f) = true)
    (ha : EvL C us nw (e :: es) xs) (hc : ForA xs (fun vs => Ctr C.w f vs d' u' [] R' X')) (hd : d' ≤ d) (hu : u' ≤ u) (hx : ∀ sp, X' sp → XX sp)
    (he : ∀ env, starEach (e :: es) env = (false, eval e env) :: starEach es env) (hpl : ∀ env, (backTo pos (starEach es env)).any (·.1) = false)
    (hcall : ∀ env, eval (.Call (.Name x p) (e :: es) [] pos) env = (do callWith pos (← eval (.Name x p) env) [] (backTo pos (starEach (e :: es) env)) (backToKw pos (keywordEach [] env)))) :
    EvG C us nw (.Call (.Name x p) (e :: es) [] pos) (fun v nw' => ∃ n2, R' v n2 ∧ nw' = n2 ++ nw) := fun s Q E hS hQ hE => by
  refine Call_ (Ev.glob ho hv _ _ _ hS (fun f' s₁ hf hS₁ => ?_) hE) (hcall _)
  obtain rfl := Vl.val_is hf
  refine callWith_K C.K hk (ha _ _ _ _ hS₁ (fun vs s₂ hvs hS₂ => ?_) hE) (he _) (hpl _)
  obtain ⟨l₂, hl₂⟩ := id hS₂
  obtain ⟨m, F, hm⟩ := hS₂.fr
  refine ⟨C.K.keeps F.keep, ?_⟩
  refine (forA_of xs hc vs hvs).use C.B F C.K hl₂.news C.T C.hk (Nat.lt_of_le_of_lt (Nat.add_le_add_left hd _) C.hd) (Nat.lt_of_le_of_lt (Nat.add_le_add_left hu _) C.hu) (List.forall_mem_nil _) (fun x' sp h' tk g hsp Fg R => ?_) fun v n2 h' tk hr F' N' hl => ?_
  · exact hE _ _ (C.passed hl₂.pn Fg R hS₂.same (hx _ hsp))
  · exact hQ v (n2 ++ nw) _ ⟨n2, hr, rfl⟩ ⟨l₂, hl₂.pn, hS₂.same, ⟨m, F', hm⟩, by rw [List.append_assoc]; exact N', fun q hq q' hq' => (List.mem_append.mp hq').elim (fun h9 => hl q (List.mem_append_right _ hq) q' h9) (fun h9 => hl₂.above q hq q' h9)⟩
theorem Ex.raise {x : PySem.Str} {p p2 : Pos} {e1 e2 : PySem.Expr} {msg : PySem.Str} {i : Int} (ho : okGlob cs x = true) (hv : nsIn (Mine.hd.heap_39 C.w.params) mainGlobals x = some (some (.ref 52))) (hk : keepIn (Mine.hd.heap_39 C.w.params) (.ref 52) = true)
    (ha : EvL C us nw [e1, e2] [.str msg, .int i]) (hd : 3 ≤ d) (hu : 40 ≤ u) (hx : XX i)
    (he : ∀ env, starEach [e1, e2] env = (false, eval e1 env) :: starEach [e2] env) (hpl : ∀ env, (backTo p2 (starEach [e2] env)).any (·.1) = false)
    (hcall : ∀ env, eval (.Call (.Name x p) [e1, e2] [] p2) env = (do callWith p2 (← eval (.Name x p) env) [] (backTo p2 (starEach [e1, e2] env)) (backToKw p2 (keywordEach [] env)))) :
    Ex C us nw (.Raise (some (.Call (.Name x p) [e1, e2] [] p2)) none pos :: rest) K := fun s hS => by
  obtain ⟨m, F, hm⟩ := hS.fr
  refine wpAny_execs_cons (Raise_fault C.K F (Call_ (Ev.glob ho hv _ _ _ hS (fun f' s₁ hf hS₁ => ?_) fun _ _ h => h) (hcall _)))
  obtain rfl := Vl.val_is hf
  refine callWith_K C.K hk (ha _ _ _ _ hS₁ (fun vs s₂ hvs hS₂ => ?_) fun _ _ h => h) (he _) (hpl _)
  obtain ⟨l₂, hl₂⟩ := id hS₂
  obtain ⟨m₂, F₂, hm₂⟩ := hS₂.fr
  refine ⟨C.K.keeps F₂.keep, ?_⟩
  refine forA_of [.str msg, .int i] (P := fun vs => wpAny C.M C.A (call (.ref 52) ([] ++ vs)) (FaultQ C.h₀ C.L C.E) C.E s₂) (fun t1 t2 => ?_) vs hvs
  refine fault C.B F₂ C.K hl₂.news C.T C.hk (Nat.lt_of_le_of_lt (Nat.add_le_add_left hd _) C.hd) (Nat.lt_of_le_of_lt (Nat.add_le_add_left hu _) C.hu) fun h' e' tk F' M' => ?_
  exact ⟨e', m₂, _, i, rfl, F', M', C.raised hl₂.pn F' M' hS₂.same hx⟩
theorem Ev.bi1 {x : PySem.Str} {p : Pos} {e : PySem.Expr} {id : String} {a y : Vl} (ho : okBi cs x = true) (hn : nsIn (Mine.hd.heap_39 C.w.params) mainGlobals x = some none) (hv : bootBuiltins x = some (.builtin id)) (ha : Ev C us nw e a)
    (hb : ∀ (s : Shared) (Q E : Value → Shared → Prop) v, a.Is (some v) → St C us nw s → (∀ v s', y.Is (some v) → St C us nw s' → Q v s') → wpAny C.M C.A (call (.builtin id) [v]) Q E s)
    (he : ∀ env, backTo pos (starEach [e] env) = [(false, eval e env)])
    (hcall : ∀ env, eval (.Call (.Name x p) [e] [] pos) env = (do callWith pos (← eval (.Name x p) env) [] (backTo pos (starEach [e] env)) (backToKw pos (keywordEach [] env)))) : Ev C us nw (.Call (.Name x p) [e] [] pos) y := fun s Q E hS hQ hE => by
  refine Call_ (Ev.bi ho hn hv _ _ _ hS (fun f' s₁ hf hS₁ => ?_) hE) (hcall _)
  obtain rfl := Vl.val_is hf
  rw [he]
  exact callWith_builtin1 (ha _ _ _ hS₁ (fun v s' hv' hS' => hb _ _ _ _ hv' hS' hQ) hE)
end

end
section
example : True := by
  w_top off
  trivial
theorem g_len (w : World) : nsIn (Mine.hd.heap_39 w.params) mainGlobals (Str.ofString "len") = some none := by k_is
theorem g_ord (w : World) : nsIn (Mine.hd.heap_39 w.params) mainGlobals (Str.ofString "ord") = some none := by k_is
theorem g_fault (w : World) : nsIn (Mine.hd.heap_39 w.params) mainGlobals (Str.ofString "WordFault") = some (some (.ref 52)) := by k_is
theorem k_fault (w : World) : keepIn (Mine.hd.heap_39 w.params) (.ref 52) = true := by k_is
section
variable {cs : Scope} {ns : List PySem.Str} {d u : Nat} {RX : Value → List (Addr × Obj) → Prop} {XX : Int → Prop} {C : Bx cs ns d u RX XX} {us : List Vl} {nw : List (Addr × Obj)} {pos : Pos}
theorem Ev.len {p : Pos} {e : PySem.Expr} {x : PySem.Str} (ho : okBi cs (Str.ofString "len") = true) (ha : Ev C us nw e (.str x)) (hl : x.length ≤ 1048576) (he : ∀ env, backTo pos (starEach [e] env) = [(false, eval e env)])
    (hcall : ∀ env, eval (.Call (.Name (Str.ofString "len") p) [e] [] pos) env = (do callWith pos (← eval (.Name (Str.ofString "len") p) env) [] (backTo pos (starEach [e] env)) (backToKw pos (keywordEach [] env)))) :
    Ev C us nw (.Call (.Name (Str.ofString "len") p) [e] [] pos) (.int x.length) :=
  Ev.bi1 (id := "len") ho (g_len _) rfl ha (fun s Q E v hv hS hQ => by obtain ⟨t, rfl⟩ := Vl.str_is hv; exact P.len_str (by omega) (hQ _ _ ⟨_, rfl⟩ (hS.toks _))) he hcall
theorem Ev.ord {p : Pos} {e : PySem.Expr} {x : PySem.Str} (ho : okBi cs (Str.ofString "ord") = true) (ha : Ev C us nw e (.str x)) (hl : x.length = 1) (he : ∀ env, backTo pos (starEach [e] env) = [(false, eval e env)])
    (hcall : ∀ env, eval (.Call (.Name (Str.ofString "ord") p) [e] [] pos) env = (do callWith pos (← eval (.Name (Str.ofString "ord") p) env) [] (backTo pos (starEach [e] env)) (backToKw pos (keywordEach [] env)))) :
    Ev C us nw (.Call (.Name (Str.ofString "ord") p) [e] [] pos) (.int ((x.cps.getD 0 0 : Nat) : Int)) :=
  Ev.bi1 (id := "ord") ho (g_ord _) rfl ha (fun s Q E v hv hS hQ => by obtain ⟨t, rfl⟩ := Vl.str_is hv; exact ord_of_one hl (hQ _ _ ⟨_, rfl⟩ (hS.toks _))) he hcall
theorem Ev.meth {o e : PySem.Expr} {es : List PySem.Expr} {ap : Pos} {name x : PySem.Str} {id : String} {xs : List Vl} {y : Vl} {pl : Env → Sem Bool} (ho : Ev C us nw o (.str x)) (hl : EvL C us nw (e :: es) xs)
    (hg : ∀ (s : Shared) (t : Tok) (pl : Sem Bool) (Q : Value × List Value → Shared → Prop) (E : Value → Shared → Prop), Q (.builtin id, [.str x t]) s → wpAny C.M C.A (getMethod (.str x t) name pl) Q E s)
    (hb : ∀ (s : Shared) (Q E : Value → Shared → Prop) (t : Tok), St C us nw s → (∀ v s', y.Is (some v) → St C us nw s' → Q v s') → ForA xs (fun vs => wpAny C.M C.A (call (.builtin id) (.str x t :: vs)) Q E s))
    (hs : ∀ env, starEach (e :: es) env = (false, eval e env) :: starEach es env) (hpl : ∀ env, (backTo pos (starEach es env)).any (·.1) = false)
    (hc : ∀ env, eval (.Call (.Attribute o name ap) (e :: es) [] pos) env = (do
      let ov ← eval o env
      standAt ap.atName
      let (f, first) ← holding [ov] (getMethod ov name (pl env))
      callWith pos f first (backTo pos (starEach (e :: es) env)) [])) : Ev C us nw (.Call (.Attribute o name ap) (e :: es) [] pos) y := fun s Q E hS hQ hE => by
  refine MethodCall_ (ho _ _ _ hS (fun v s' hv hS' => ?_) hE) (hc _)
  obtain ⟨t, rfl⟩ := Vl.str_is hv
  refine hg _ _ _ _ _ (callWith_method1 (hl _ _ _ _ hS' (fun vs s'' hvs hS'' => ?_) hE) (hs _) (hpl _))
  exact forA_of xs (hb _ _ _ t hS'' hQ) vs hvs
theorem Ev.meth0 {o : PySem.Expr} {ap : Pos} {name x : PySem.Str} {id : String} {y : Vl} {pl : Env → Sem Bool} (ho : Ev C us nw o (.str x))
    (hg : ∀ (s : Shared) (t : Tok) (pl : Sem Bool) (Q : Value × List Value → Shared → Prop) (E : Value → Shared → Prop), Q (.builtin id, [.str x t]) s → wpAny C.M C.A (getMethod (.str x t) name pl) Q E s)
    (hb : ∀ (s : Shared) (Q E : Value → Shared → Prop) (t : Tok), St C us nw s → (∀ v s', y.Is (some v) → St C us nw s' → Q v s') → wpAny C.M C.A (call (.builtin id) [.str x t]) Q E s)
    (hc : ∀ env, eval (.Call (.Attribute o name ap) [] [] pos) env = (do
      let ov ← eval o env
      standAt ap.atName
      let (f, first) ← holding [ov] (getMethod ov name (pl env))
      callWith pos f first (backTo pos (starEach [] env)) [])) : Ev C us nw (.Call (.Attribute o name ap) [] [] pos) y := fun s Q E hS hQ hE => by
  refine MethodCall_ (ho _ _ _ hS (fun v s' hv hS' => ?_) hE) (hc _)
  obtain ⟨t, rfl⟩ := Vl.str_is hv
  exact hg _ _ _ _ _ (callWith_method0 (hb _ _ _ t hS' hQ))
theorem find_g {M : Model} {A : Around} {x : PySem.Str} (s : Shared) (t : Tok) (pl : Sem Bool) (Q : Value × List Value → Shared → Prop) (E : Value → Shared → Prop) (h : Q (.builtin "str.find", [.str x t]) s) : wpAny M A (getMethod (.str x t) (Str.ofString "find") pl) Q E s := PySem.GM.find h
theorem lower_g {M : Model} {A : Around} {x : PySem.Str} (s : Shared) (t : Tok) (pl : Sem Bool) (Q : Value × List Value → Shared → Prop) (E : Value → Shared → Prop) (h : Q (.builtin "str.lower", [.str x t]) s) : wpAny M A (getMethod (.str x t) (Str.ofString "lower") pl) Q E s := PySem.GM.lower h
theorem find1_b {x y : PySem.Str} (s : Shared) (Q E : Value → Shared → Prop) (t : Tok) (hS : St C us nw s) (hQ : ∀ v s', (Vl.int (Txt.find x y)).Is (some v) → St C us nw s' → Q v s') : ForA [.str y] (fun vs => wpAny C.M C.A (call (.builtin "str.find") (.str x t :: vs)) Q E s) := fun _ => PySem.SC.find (hQ _ _ ⟨_, rfl⟩ (hS.toks _))
theorem find2_b {x y : PySem.Str} {i : Int} (s : Shared) (Q E : Value → Shared → Prop) (t : Tok) (hS : St C us nw s) (hQ : ∀ v s', (Vl.int (Txt.find3 x y i)).Is (some v) → St C us nw s' → Q v s') : ForA [.str y, .int i] (fun vs => wpAny C.M C.A (call (.builtin "str.find") (.str x t :: vs)) Q E s) := fun _ _ => PySem.SC.find3 (hQ _ _ ⟨_, rfl⟩ (hS.toks _))
theorem lower_b {x : PySem.Str} (hl : x.length ≤ 1048576) (s : Shared) (Q E : Value → Shared → Prop) (t : Tok) (hS : St C us nw s) (hQ : ∀ v s', (Vl.str (Txt.lower x)).Is (some v) → St C us nw s' → Q v s') : wpAny C.M C.A (call (.builtin "str.lower") [.str x t]) Q E s := SCL.lower (by omega) fun _ => hQ _ _ ⟨_, rfl⟩ (hS.toks _)
theorem Ev.find1 {o e : PySem.Expr} {ap : Pos} {x y : PySem.Str} {pl : Env → Sem Bool} (ho : Ev C us nw o (.str x)) (he : Ev C us nw e (.str y)) (hs : ∀ env, starEach [e] env = [(false, eval e env)])
    (hc : ∀ env, eval (.Call (.Attribute o (Str.ofString "find") ap) [e] [] pos) env = (do
      let ov ← eval o env
      standAt ap.atName
      let (f, first) ← holding [ov] (getMethod ov (Str.ofString "find") (pl env))
      callWith pos f first (backTo pos (starEach [e] env)) [])) : Ev C us nw (.Call (.Attribute o (Str.ofString "find") ap) [e] [] pos) (.int (Txt.find x y)) :=
  Ev.meth ho (EvL.cons he EvL.nil hs) (@find_g _ _ _) (@find1_b _ _ _ _ _ _ _ _ _ _ _) hs (fun _ => rfl) hc
theorem Ev.find2 {o e e' : PySem.Expr} {ap : Pos} {x y : PySem.Str} {i : Int} {pl : Env → Sem Bool} (ho : Ev C us nw o (.str x)) (he : Ev C us nw e (.str y)) (he' : Ev C us nw e' (.int i)) (hs : ∀ env, starEach [e, e'] env = [(false, eval e env), (false, eval e' env)]) (hs' : ∀ env, starEach [e'] env = [(false, eval e' env)])
    (hc : ∀ env, eval (.Call (.Attribute o (Str.ofString "find") ap) [e, e'] [] pos) env = (do
      let ov ← eval o env
      standAt ap.atName
      let (f, first) ← holding [ov] (getMethod ov (Str.ofString "find") (pl env))
      callWith pos f first (backTo pos (starEach [e, e'] env)) [])) : Ev C us nw (.Call (.Attribute o (Str.ofString "find") ap) [e, e'] [] pos) (.int (Txt.find3 x y i)) :=
  Ev.meth ho (EvL.cons he (EvL.cons he' EvL.nil hs') fun env => by rw [hs, hs']) (@find_g _ _ _) (@find2_b _ _ _ _ _ _ _ _ _ _ _ _) (fun env => by rw [hs, hs']) (fun env => by rw [hs']; rfl) hc
theorem Ev.lower {o : PySem.Expr} {ap : Pos} {x : PySem.Str} {pl : Env → Sem Bool} (ho : Ev C us nw o (.str x)) (hl : x.length ≤ 1048576)
    (hc : ∀ env, eval (.Call (.Attribute o (Str.ofString "lower") ap) [] [] pos) env = (do
      let ov ← eval o env
      standAt ap.atName
      let (f, first) ← holding [ov] (getMethod ov (Str.ofString "lower") (pl env))
      callWith pos f first (backTo pos (starEach [] env)) [])) : Ev C us nw (.Call (.Attribute o (Str.ofString "lower") ap) [] [] pos) (.str (Txt.lower x)) :=
  Ev.meth0 ho (@lower_g _ _ _) (@lower_b _ _ _ _ _ _ _ _ _ _ hl) hc
theorem Ev.eqI {e : PySem.Expr} {a b : Int} (h : Ev C us nw e (.int a)) (q : a = b) : Ev C us nw e (.int b) := q ▸ h
theorem Ev.eqS {e : PySem.Expr} {a b : PySem.Str} (h : Ev C us nw e (.str a)) (q : a = b) : Ev C us nw e (.str b) := q ▸ h
theorem Ev.ife {c e1 e2 : PySem.Expr} {b : Bool} {x : Vl} (ht : Tst C us nw c b) (h1 : b = true → Ev C us nw e1 x) (h2 : b = false → Ev C us nw e2 x) : Ev C us nw (.IfExp c e1 e2 pos) x := fun s Q E hS hQ hE =>
  IfExp_ (ht _ _ _ hS (fun s' hS' => by
    cases b with
    | true => exact h1 rfl _ _ _ hS' hQ hE
    | false => exact h2 rfl _ _ _ hS' hQ hE) hE)
theorem EvG.ife {c e1 e2 : PySem.Expr} {b : Bool} {P : Value → List (Addr × Obj) → Prop} (ht : Tst C us nw c b) (h1 : b = true → EvG C us nw e1 P) (h2 : b = false → EvG C us nw e2 P) : EvG C us nw (.IfExp c e1 e2 pos) P := fun s Q E hS hQ hE =>
  IfExp_ (ht _ _ _ hS (fun s' hS' => by
    cases b with
    | true => exact h1 rfl _ _ _ hS' hQ hE
    | false => exact h2 rfl _ _ _ hS' hQ hE) hE)
theorem EvG.call0 {e : PySem.Expr} {R' : Value → List (Addr × Obj) → Prop} {x : Vl} (h : EvG C us nw e (fun v nw' => ∃ n2, R' v n2 ∧ nw' = n2 ++ nw)) (hp : ∀ v n2, R' v n2 → x.Is (some v) ∧ n2 = []) : Ev C us nw e x := h.ev fun v nw' ⟨n2, hr, e⟩ => ⟨(hp v n2 hr).1, by rw [e, (hp v n2 hr).2]; rfl⟩
theorem EvG.tup {es : List PySem.Expr} {k : Nat} {xs : List Vl} {P : Value → List (Addr × Obj) → Prop} (hl : EvL C us nw es xs) (hz : xs.length ≤ 1000) (hp : ∀ D, (∀ p ∈ nw, p.1 < D) → ForA xs (fun vs => P (.ref D) ((D, tupO vs) :: nw))) : EvG C us nw (.Tuple es k pos) P := fun s Q E hS hQ hE => by
  refine Tuple_ (hl _ _ _ _ hS (fun vs s' hvs hS' => ?_) hE)
  obtain ⟨l', hl'⟩ := id hS'
  obtain ⟨m, F, hm⟩ := hS'.fr
  have hlen : ∀ (xs : List Vl) (vs : List Value), AllIs xs vs → vs.length = xs.length := fun xs => by
    induction xs with
    | nil => intro vs h; cases vs with | nil => rfl | cons _ _ => exact h.elim
    | cons x xs ih => intro vs h; cases vs with | nil => exact h.elim | cons v vs => rw [List.length_cons, List.length_cons, ih vs h.2]
  refine kup_newTuple F hl'.news (fun D h' F' N' hlt => hQ _ _ _ (forA_of xs (hp D fun p h9 => hlt p (List.mem_append_left _ h9)) vs hvs) ⟨l', hl'.pn, hS'.same, ⟨m, F', hm⟩, N', fun q hq p h9 => ?_⟩) (by rw [hlen xs vs hvs]; size_fits)
  rcases List.mem_cons.mp h9 with rfl | h9
  · exact hlt q (List.mem_append_right _ hq)
  · exact hl'.above q hq p h9
end

end
section
example : True := by
  w_top off
  k_with_none
  (k_with "my_enter" => (refine' code_def ?k1 ?k2 ?k3 ?k4 ?k5 ?kA ?kF ?kK ?k6 ?k7 ?k8 ?k9 ?kB ?_ ?c2 ?c3 ?c4 ?c5; (case kA => exact rfl); (case kF => exact rfl); (case kK => first | assumption | exact rfl); (case k1 => k_asm); (case k2 => k_asm); (case k3 => k_asm); (case k4 => k_asm); (case k5 => k_asm); (case k6 => k_is); (case k7 => k_is); (case k8 => k_extra "my_room"); (case k9 => first | exact BindsTo.of_eq rfl | exact binds_K (by k_in) rfl (by k_is) rfl rfl rfl); (case c5 => decide); (case kB => exact locs rfl); (case c2 => exact rfl); (case c3 => exact rfl); (case c4 => exact rfl); k_whole; intro g' L' h' FG' F' N' B' X' T'; (try dsimp only); (try k_fold)))
  (k_with "exec Raise some none" => (k_here; k_dflt (refine' Raise_fault ?k1 ?k2 ?_; (case k1 => k_asm); (case k2 => k_asm); k_whole)))
  (k_with "call ref" => (k_here; (with_reducible show wpAny _ _ (call (Value.ref 52) _) _ _ _); k_dflt (refine' fault ?k1 ?k2 ?k3 ?k4 ?k5 ?k6 ?k7 ?k8 ?_; (case k1 => k_asm); (case k2 => k_asm); (case k3 => k_asm); (case k4 => k_asm); (case k5 => k_asm); (case k6 => first | assumption | exact rfl); (case k7 => k_extra "my_room"); (case k8 => k_extra "my_room"); k_whole); intro h' e' tk' F' M'; (try k_sweep)))
  (k_with "FaultQ" => (refine ⟨_, _, _, _, rfl, by assumption, by assumption, ?_⟩))
  (k_with "leaving ref" => (k_here; first | (refine' leave_first ?k1 ?k2 ?k3 ?k4 ?_; (case k3 => assumption); (case k1 => assumption); (case k2 => assumption); (case k4 => exact rfl); k_whole; intro h' R') | (refine' leave_next ?k1 ?k2 ?k3 ?_; (case k3 => assumption); (case k1 => assumption); (case k2 => assumption); k_whole; intro h' R')))
  (k_with "bx" => ((case ho => k_is); (case hcd => k_is); (case hb => exact rfl); (case hl => exact locs rfl); (case hu => k_extra "bx_hu"); (case c1 => exact rfl); (case c2 => exact rfl); (case c3 => exact rfl); (case c4 => decide)))
  (k_with "bx_hu" => (repeat (first | exact trivial | (refine And.intro ?_ ?_; first | exact trivial | exact rfl | exact Exists.intro _ rfl))))
  (k_with "my_room" => first | exact room9 (by with_reducible assumption) (by exact rfl) | exact room8 (by with_reducible assumption) (by exact rfl) | exact room7 (by with_reducible assumption) | ktr_room | ktr_units)
  trivial
inductive RInt (r : Int) : Value → List (Addr × Obj) → Prop | mk (t : Tok) : RInt r (.int r t) []
inductive RBool (b : Bool) : Value → List (Addr × Obj) → Prop | mk : RBool b (.bool b) []
inductive RStr (r : PySem.Str) : Value → List (Addr × Obj) → Prop | mk (t : Tok) : RStr r (.str r t) []
theorem rbool_eq {a b : Bool} (h : a = true ↔ b = true) : RBool a (.bool b) [] := by
  obtain rfl : a = b := Bool.eq_iff_iff.mpr h
  exact .mk
noncomputable def rightI (i : Int) : Bool := decide (0 ≤ i) && decide (i ≤ 1114111) && !(decide (55296 ≤ i) && decide (i ≤ 57343))
theorem is_right_rune_c (w : World) (i : Int) (t : Tok) : Ctr w 77 [.int i t] 1 8 [] (RBool (rightI i)) (fun _ => False) := by
  intro p loose mean mg mb dp un gd cn cs a ccd cl outer A₀ base h₀ L m news s Q E B F X N T hk hd hu hled hret hexc
  refine wpAny_call ?_
  k_dflt k_extra "my_enter"
  k_steps
  all_goals (refine hret _ [] _ _ (rbool_eq ?_) (by assumption) (by assumption) (fun _ _ _ h => nomatch h); simp only [rightI, Bool.and_eq_true, decide_eq_true_eq, Bool.not_eq_true', Bool.and_eq_false_iff, decide_eq_false_iff_not]; omega)
theorem RBool.ev {b : Bool} (v : Value) (n2 : List (Addr × Obj)) (h : RBool b v n2) : (Vl.val (.bool b)).Is (some v) ∧ n2 = [] := by cases h; exact ⟨rfl, rfl⟩
theorem RInt.ev {b : Int} (v : Value) (n2 : List (Addr × Obj)) (h : RInt b v n2) : (Vl.int b).Is (some v) ∧ n2 = [] := by cases h; exact ⟨⟨_, rfl⟩, rfl⟩
theorem g_right (w : World) : nsIn (Mine.hd.heap_39 w.params) mainGlobals (Str.ofString "is_right_rune") = some (some (.ref 77)) := by k_is
theorem k_right (w : World) : keepIn (Mine.hd.heap_39 w.params) (.ref 77) = true := by k_is
inductive RRune (c : Nat) : Value → List (Addr × Obj) → Prop | mk (t : Tok) (h : rightI c = true) : RRune c (.int c t) []
theorem plain_rune_c (w : World) (text : PySem.Str) (i : Int) (t1 t2 : Tok) (h0 : 0 ≤ i) (h1 : i < text.length) (hl : text.length ≤ 1048576) :
    Ctr w 151 [.str text t1, .int i t2] 5 60 [] (RRune ((Txt.item text i).cps.getD 0 0)) (fun sp => sp = i ∧ rightI ((Txt.item text i).cps.getD 0 0) = false) := by
  refine' Ctr.of_body [Str.ofString "text", Str.ofString "at", Str.ofString "value"] [.str text, .int i, .no] ?ho ?hcd ?hb ?hl (by decide +kernel) (slots _ _ ?hu) ?c1 ?c2 ?c3 ?c4 ?_
  k_extra "bx"
  intro C _
  refine Ex.set 2 rfl (fun _ => rfl) (Ev.ord rfl (Ev.item (Ev.loc 0 rfl rfl rfl) (Ev.loc 1 rfl rfl rfl) h0 h1 hl (fun _ _ _ => by with_unfolding_all rfl)) (len_item text i) (fun _ => rfl) fun _ => rfl) ?_
  refine Ex.ite (Tst.nt (Tst.plain (EvG.call0 (EvG.call rfl (g_right _) (k_right _) (EvL.cons (Ev.loc 2 rfl rfl rfl) EvL.nil fun _ => rfl) (fun t => is_right_rune_c _ _ t) (by decide) (by decide) (fun _ h => h.elim) (fun _ => rfl) (fun _ => rfl) fun _ => rfl) RBool.ev) fun _ _ => rfl)) (fun h => ?_) fun h => ?_
  · exact Ex.raise rfl (g_fault _) (k_fault _) (EvL.cons Ev.cstr (EvL.cons (Ev.loc 1 rfl rfl rfl) EvL.nil fun _ => rfl) fun _ => rfl) (by decide) (by decide) ⟨rfl, by simpa using h⟩ (fun _ => rfl) (fun _ => rfl) fun _ => rfl
  · exact Ex.nil (Ex.retI (Ev.loc 2 rfl rfl rfl) fun t => .mk t (by simpa using h))

end
section
example : True := by
  w_top off
  k_with_none
  (k_with "bx" => ((case ho => k_is); (case hcd => k_is); (case hb => exact rfl); (case hl => exact locs rfl); (case hu => k_extra "bx_hu"); (case c1 => exact rfl); (case c2 => exact rfl); (case c3 => exact rfl); (case c4 => decide)))
  (k_with "bx_hu" => (repeat (first | exact trivial | (refine And.intro ?_ ?_; first | exact trivial | exact rfl | exact Exists.intro _ rfl))))
  trivial
theorem down1 {j n : Int} (h : j < n) : (n - (j + 1)).toNat < (n - j).toNat := by omega
theorem run_behind_c (w : World) (text signs : PySem.Str) (i : Int) (t1 t2 t3 : Tok) (h0 : 0 ≤ i) (h1 : i ≤ text.length) (hl : text.length ≤ 1048576) :
    Ctr w 95 [.str text t1, .int i t2, .str signs t3] 1 8 [] (RInt (runEnd text signs i)) (fun _ => False) := by
  refine' Ctr.of_body [Str.ofString "text", Str.ofString "at", Str.ofString "signs"] [.str text, .int i, .str signs] ?ho ?hcd ?hb ?hl (by decide +kernel) (slots _ _ ?hu) ?c1 ?c2 ?c3 ?c4 ?_
  k_extra "bx"
  intro C _
  refine Ex.while_ (α := Int) (RunTo text signs i) (fun j => [.str text, .int j, .str signs]) (fun j => ((text.length : Int) - j).toNat) (fun j => decide (j < text.length) && hasS signs (Txt.item text j)) i ⟨Int.le_refl _, h1, fun k a b => absurd a (Int.not_le.mpr b)⟩ (fun j hj => ?_) (fun j hj hb => ?_) (fun j hj hb => ?_)
  · exact Tst.and2 (Tst.cm (Cm.lt (Ev.loc 1 rfl rfl rfl) (Ev.len rfl (Ev.loc 0 rfl rfl rfl) hl (fun _ => rfl) (fun _ => rfl)))) fun h => Tst.cm (Cm.inS rfl (Ev.item (Ev.loc 0 rfl rfl rfl) (Ev.loc 1 rfl rfl rfl) (Int.le_trans h0 hj.1) (of_decide_eq_true h) hl (fun _ _ _ => by with_unfolding_all rfl)) (Ev.loc 2 rfl rfl rfl))
  · rw [Bool.and_eq_true, decide_eq_true_eq] at hb
    exact Ex.augI 1 rfl rfl Ev.cint (Ex.nil ⟨rfl, j + 1, ⟨Int.le_trans hj.1 (Int.le_add_one (Int.le_refl j)), hb.1, fun k a b => (Int.lt_or_eq_of_le (Int.lt_add_one_iff.mp b)).elim (hj.2.2 k a) fun e => e ▸ hb.2⟩, down1 hb.1, Sub.refl _⟩)
  · refine Ex.retI (Ev.loc 1 rfl rfl rfl) fun t => ?_
    rw [runEnd_eq h0 hj fun h => by simpa [h] using hb]
    exact .mk t
theorem g_run (w : World) : nsIn (Mine.hd.heap_39 w.params) mainGlobals (Str.ofString "run_behind") = some (some (.ref 95)) := by k_is
theorem k_run (w : World) : keepIn (Mine.hd.heap_39 w.params) (.ref 95) = true := by k_is
theorem figure_worth_c (w : World) (sign : PySem.Str) (t1 : Tok) (hl : sign.length ≤ 1048576) :
    Ctr w 116 [.str sign t1] 1 8 [] (RInt (figW sign)) (fun _ => False) := by
  refine' Ctr.of_body [Str.ofString "sign", Str.ofString "place"] [.str sign, .no] ?ho ?hcd ?hb ?hl (by decide +kernel) (slots _ _ ?hu) ?c1 ?c2 ?c3 ?c4 ?_
  k_extra "bx"
  intro C _
  refine Ex.set 1 rfl (fun _ => rfl) (Ev.find1 Ev.cstr (Ev.lower (Ev.loc 0 rfl rfl rfl) hl fun _ => rfl) (fun _ => rfl) fun _ => rfl) ?_
  refine Ex.retI (i := figW sign) (Ev.ife (Tst.cm (Cm.ge (Ev.loc 1 rfl rfl rfl) Ev.cint)) (fun h => ?_) fun h => ?_) fun t => .mk t
  · exact Ev.eqI (Ev.loc 1 rfl rfl rfl) (if_pos (of_decide_eq_true h)).symm
  · exact Ev.eqI Ev.cint (if_neg (of_decide_eq_false h)).symm
theorem g_worth (w : World) : nsIn (Mine.hd.heap_39 w.params) mainGlobals (Str.ofString "figure_worth") = some (some (.ref 116)) := by k_is
theorem k_worth (w : World) : keepIn (Mine.hd.heap_39 w.params) (.ref 116) = true := by k_is
section
variable {cs : Scope} {ns : List PySem.Str} {d u : Nat} {RX : Value → List (Addr × Obj) → Prop} {XX : Int → Prop} {C : Bx cs ns d u RX XX} {us : List Vl} {nw : List (Addr × Obj)} {pos : Pos}
theorem Ev.worth {p : Pos} {e : PySem.Expr} {x : PySem.Str} (ho : okGlob cs (Str.ofString "figure_worth") = true) (ha : Ev C us nw e (.str x)) (hl : x.length ≤ 1048576) (hd : 1 ≤ d) (hu : 8 ≤ u) (he : ∀ env, starEach [e] env = [(false, eval e env)])
    (hcall : ∀ env, eval (.Call (.Name (Str.ofString "figure_worth") p) [e] [] pos) env = (do callWith pos (← eval (.Name (Str.ofString "figure_worth") p) env) [] (backTo pos (starEach [e] env)) (backToKw pos (keywordEach [] env)))) :
    Ev C us nw (.Call (.Name (Str.ofString "figure_worth") p) [e] [] pos) (.int (figW x)) :=
  EvG.call0 (EvG.call ho (g_worth _) (k_worth _) (EvL.cons ha EvL.nil he) (fun t => figure_worth_c _ _ t hl) hd hu (fun _ h => h.elim) he (fun _ => rfl) hcall) RInt.ev
end
noncomputable def remarkEnd (text : PySem.Str) (i : Int) : Option Int :=
  if Txt.slice text (some i) (some (i + 2)) == Str.ofString "//" then some (if Txt.find3 text (Str.ofString "\n") i < 0 then text.length else Txt.find3 text (Str.ofString "\n") i)
  else if Txt.find3 text (Str.ofString "*/") (i + 2) < 0 then none else some (Txt.find3 text (Str.ofString "*/") (i + 2) + 2)
inductive ROpt (o : Option Int) : Value → List (Addr × Obj) → Prop | mk (j : Int) (t : Tok) (h : o = some j) : ROpt o (.int j t) []
theorem remark_behind_c (w : World) (text : PySem.Str) (i : Int) (t1 t2 : Tok) (h0 : 0 ≤ i) (h1 : i < text.length) (hl : text.length ≤ 1048576) :
    Ctr w 102 [.str text t1, .int i t2] 5 60 [] (ROpt (remarkEnd text i)) (fun sp => sp = i ∧ remarkEnd text i = none) := by
  refine' Ctr.of_body [Str.ofString "text", Str.ofString "at", Str.ofString "end"] [.str text, .int i, .no] ?ho ?hcd ?hb ?hl (by decide +kernel) (slots _ _ ?hu) ?c1 ?c2 ?c3 ?c4 ?_
  k_extra "bx"
  intro C _
  refine Ex.ite (Tst.cm (Cm.eqS (Ev.ss (Ev.loc 0 rfl rfl rfl) (Ev.loc 1 rfl rfl rfl) (Ev.add (Ev.loc 1 rfl rfl rfl) Ev.cint) hl) Ev.cstr)) (fun h => ?_) fun h => Ex.nil ?_
  · refine Ex.set 2 rfl (fun _ => rfl) (Ev.find2 (Ev.loc 0 rfl rfl rfl) Ev.cstr (Ev.loc 1 rfl rfl rfl) (fun _ => rfl) (fun _ => rfl) fun _ => rfl) ?_
    refine Ex.retI (i := if Txt.find3 text (Str.ofString "\n") i < 0 then text.length else Txt.find3 text (Str.ofString "\n") i) (Ev.ife (Tst.cm (Cm.lt (Ev.loc 2 rfl rfl rfl) Ev.cint)) (fun c => ?_) fun c => ?_) fun t => .mk _ t (by rw [remarkEnd, if_pos h])
    · exact Ev.eqI (Ev.len rfl (Ev.loc 0 rfl rfl rfl) hl (fun _ => rfl) fun _ => rfl) (if_pos (of_decide_eq_true c)).symm
    · exact Ev.eqI (Ev.loc 2 rfl rfl rfl) (if_neg (of_decide_eq_false c)).symm
  · refine Ex.set 2 rfl (fun _ => rfl) (Ev.find2 (Ev.loc 0 rfl rfl rfl) Ev.cstr (Ev.add (Ev.loc 1 rfl rfl rfl) Ev.cint) (fun _ => rfl) (fun _ => rfl) fun _ => rfl) ?_
    have e : remarkEnd text i = if Txt.find3 text (Str.ofString "*/") (i + 2) < 0 then none else some (Txt.find3 text (Str.ofString "*/") (i + 2) + 2) := if_neg (by rw [h]; exact Bool.false_ne_true)
    refine Ex.iteD (Tst.cm (Cm.lt (Ev.loc 2 rfl rfl rfl) Ev.cint)) (fun c => ?_) fun c => Ex.nil ?_
    · exact Ex.raise rfl (g_fault _) (k_fault _) (EvL.cons Ev.cstr (EvL.cons (Ev.loc 1 rfl rfl rfl) EvL.nil fun _ => rfl) fun _ => rfl) (by decide) (by decide) ⟨rfl, e.trans (if_pos c)⟩ (fun _ => rfl) (fun _ => rfl) fun _ => rfl
    · exact Ex.retI (Ev.add (Ev.loc 2 rfl rfl rfl) Ev.cint) fun t => .mk _ t (e.trans (if_neg c))
noncomputable def prefBase (p : PySem.Str) : Option Int := if p = ⟨#[48, 120]⟩ then some 16 else if p = ⟨#[48, 111]⟩ then some 8 else if p = ⟨#[48, 98]⟩ then some 2 else none
noncomputable def numParts (text : PySem.Str) : Int × PySem.Str :=
  match prefBase (Txt.lower (Txt.slice text none (some 2))) with
  | some b => (b, if (Txt.slice text (some 2) (some 3) == Str.ofString "_") = true then Txt.slice text (some 3) none else Txt.slice text (some 2) none)
  | none => if (1 : Int) < text.length then (if (Txt.item text 0 == Str.ofString "0") = true then (8, if (Txt.item text 1 == Str.ofString "_") = true then Txt.slice text (some 2) none else Txt.slice text (some 1) none) else (10, text)) else (10, text)
inductive RParts (b : Int) (f : PySem.Str) : Value → List (Addr × Obj) → Prop | mk (x : Addr) (t1 t2 : Tok) : RParts b f (.ref x) [(x, tupO [.int b t1, .str f t2])]
theorem rparts_of {text f : PySem.Str} {b : Int} {x : Addr} {t1 t2 : Tok} (h : numParts text = (b, f)) : RParts (numParts text).1 (numParts text).2 (.ref x) [(x, tupO [.int b t1, .str f t2])] := by
  rw [h]; exact .mk ..
section
variable {w : World} {A : Around} {E : Value → Shared → Prop} {s : Shared} {h₀ : Heap} {L : Addr} {m : PySem.Str → Option Value} {news : List (Addr × Obj)}
theorem get86 {Q : Value → Shared → Prop} {x : PySem.Str} {t : Tok} (X : (Mine.hd.heap_39 w.params).In h₀) (F : Fr h₀ L s.heap m) (N : News h₀ L s.heap news)
    (h0 : prefBase x = none → Q .none { s with toks := s.toks + 1 }) (h1 : ∀ b t, prefBase x = some b → Q (.int b t) { s with toks := s.toks + 1 }) :
    wpAny (model PySem.Challenge.pw_pf0076_01 w) A (call (.builtin "dict.get") [.ref 86, .str x t]) Q E s := by
  walk1
  unfold prefBase at h0 h1
  show if decide (x = _) = true then KTD.Opened _ _ _ else if decide (x = _) = true then KTD.Opened _ _ _ else if decide (x = _) = true then KTD.Opened _ _ _ else _
  by_cases c1 : x = { cps := #[48, 120] }
  · rw [if_pos (decide_eq_true c1)]; rw [if_pos c1] at h1; exact fun t => h1 16 t rfl
  rw [if_neg (by simpa using c1)]; rw [if_neg c1] at h0 h1
  by_cases c2 : x = { cps := #[48, 111] }
  · rw [if_pos (decide_eq_true c2)]; rw [if_pos c2] at h1; exact fun t => h1 8 t rfl
  rw [if_neg (by simpa using c2)]; rw [if_neg c2] at h0 h1
  by_cases c3 : x = { cps := #[48, 98] }
  · rw [if_pos (decide_eq_true c3)]; rw [if_pos c3] at h1; exact fun t => h1 2 t rfl
  rw [if_neg (by simpa using c3)]; rw [if_neg c3] at h0
  exact h0 rfl
theorem getm86 {Q : Value × List Value → Shared → Prop} {pl : Sem Bool} (X : (Mine.hd.heap_39 w.params).In h₀) (F : Fr h₀ L s.heap m) (N : News h₀ L s.heap news) (hQ : Q (.builtin "dict.get", [.ref 86]) s) :
    wpAny (model PySem.Challenge.pw_pf0076_01 w) A (getMethod (.ref 86) (Str.ofString "get") pl) Q E s := by
  walk1
  exact hQ
theorem g_pref (w : World) : nsIn (Mine.hd.heap_39 w.params) mainGlobals (Str.ofString "PREFIX_BASES") = some (some (.ref 86)) := by k_is
end
section
variable {cs : Scope} {ns : List PySem.Str} {d u : Nat} {RX : Value → List (Addr × Obj) → Prop} {XX : Int → Prop} {C : Bx cs ns d u RX XX} {us : List Vl} {nw : List (Addr × Obj)} {pos : Pos}
theorem EvG.get86 {p ap : Pos} {e : PySem.Expr} {x : PySem.Str} {pl : Env → Sem Bool} (ho : okGlob cs (Str.ofString "PREFIX_BASES") = true) (he : Ev C us nw e (.str x)) (hs : ∀ env, starEach [e] env = [(false, eval e env)])
    (hc : ∀ env, eval (.Call (.Attribute (.Name (Str.ofString "PREFIX_BASES") p) (Str.ofString "get") ap) [e] [] pos) env = (do
      let ov ← eval (.Name (Str.ofString "PREFIX_BASES") p) env
      standAt ap.atName
      let (f, first) ← holding [ov] (getMethod ov (Str.ofString "get") (pl env))
      callWith pos f first (backTo pos (starEach [e] env)) [])) :
    EvG C us nw (.Call (.Attribute (.Name (Str.ofString "PREFIX_BASES") p) (Str.ofString "get") ap) [e] [] pos) (fun v nw' => nw' = nw ∧ ((prefBase x = none ∧ v = .none) ∨ ∃ b t, prefBase x = some b ∧ v = .int b t)) := fun s Q E hS hQ hE => by
  refine MethodCall_ (Ev.glob ho (g_pref _) _ _ _ hS (fun v s' hv hS' => ?_) hE) (hc _)
  obtain rfl := Vl.val_is hv
  obtain ⟨m, F, hm⟩ := hS'.fr
  obtain ⟨ln, hln⟩ := id hS'
  refine getm86 C.K F hln.news (callWith_method1 (EvL.cons he EvL.nil hs _ _ _ _ hS' (fun vs s'' hvs hS'' => ?_) hE) (hs _) rfl)
  obtain ⟨m₂, F₂, hm₂⟩ := hS''.fr
  refine forA_of [.str x] (P := fun vs => wpAny C.M C.A (PySem.call (.builtin "dict.get") ([.ref 86] ++ vs)) Q E s'') (fun t => ?_) vs hvs
  obtain ⟨ln, hln⟩ := id hS''
  exact Mine.Internal.get86 C.K F₂ hln.news (fun h => hQ _ _ _ ⟨rfl, .inl ⟨h, rfl⟩⟩ (hS''.toks _)) fun b t h => hQ _ _ _ ⟨rfl, .inr ⟨b, t, h, rfl⟩⟩ (hS''.toks _)
theorem Ev.ifS {c e1 e2 : PySem.Expr} {b : Bool} {x y : PySem.Str} (ht : Tst C us nw c b) (h1 : Ev C us nw e1 (.str x)) (h2 : Ev C us nw e2 (.str y)) : Ev C us nw (.IfExp c e1 e2 pos) (.str (if b = true then x else y)) := Ev.ife ht (fun h => Ev.eqS h1 (if_pos h).symm) fun h => Ev.eqS h2 (if_neg (by rw [h]; exact Bool.false_ne_true)).symm
end
theorem number_parts_c (w : World) (text : PySem.Str) (t1 : Tok) (hl : text.length ≤ 1048576) :
    Ctr w 123 [.str text t1] 1 8 [] (RParts (numParts text).1 (numParts text).2) (fun _ => False) := by
  refine' Ctr.of_body [Str.ofString "word", Str.ofString "base"] [.str text, .no] ?ho ?hcd ?hb ?hl (by decide +kernel) (slots _ _ ?hu) ?c1 ?c2 ?c3 ?c4 ?_
  k_extra "bx"
  intro C _
  refine Ex.setG 1 rfl (fun _ => rfl) (EvG.get86 rfl (Ev.lower (Ev.nS (Ev.loc 0 rfl rfl rfl) Ev.cint hl) (Nat.le_trans (PyProof.Txt.length_slice_le ..) hl) fun _ => rfl) (fun _ => rfl) fun _ => rfl) ?_
  rintro v nw' ⟨rfl, ⟨hp, rfl⟩ | ⟨b, t, hp, rfl⟩⟩
  · refine Ex.ite (b := false) (Tst.eq (Tst.cm (Cm.notNone (Ev.loc 1 rfl rfl rfl))) rfl) nofun fun _ => Ex.nil ?_
    refine Ex.ite (Tst.and2 (Tst.cm (Cm.gt (Ev.len rfl (Ev.loc 0 rfl rfl rfl) hl (fun _ => rfl) fun _ => rfl) Ev.cint)) fun h => Tst.cm (Cm.eqS (Ev.item (Ev.loc 0 rfl rfl rfl) Ev.cint (Int.le_refl _) (Int.lt_trans (by decide) (of_decide_eq_true h)) hl (fun _ _ _ => by with_unfolding_all rfl)) Ev.cstr)) (fun h => ?_) fun h => Ex.nil ?_
    · rw [Bool.and_eq_true, decide_eq_true_eq] at h
      refine Ex.ret (EvG.tup (EvL.cons Ev.cint (EvL.cons (Ev.ifS (Tst.cm (Cm.eqS (Ev.item (Ev.loc 0 rfl rfl rfl) Ev.cint (by decide) h.1 hl (fun _ _ _ => by with_unfolding_all rfl)) Ev.cstr)) (Ev.sn (Ev.loc 0 rfl rfl rfl) Ev.cint hl) (Ev.sn (Ev.loc 0 rfl rfl rfl) Ev.cint hl)) EvL.nil fun _ => rfl) fun _ => rfl) (Nat.le_of_ble_eq_true rfl) fun D _ t1 t2 => rparts_of ?_) fun _ _ h => h
      simp only [numParts, hp, h.1, h.2, if_true]
    · refine Ex.ret (EvG.tup (EvL.cons Ev.cint (EvL.cons (Ev.loc 0 rfl rfl rfl) EvL.nil fun _ => rfl) fun _ => rfl) (Nat.le_of_ble_eq_true rfl) fun D _ t1 t2 => rparts_of ?_) fun _ _ h => h
      simp only [numParts, hp]
      split
      · rename_i c; rw [if_neg (by simpa [c] using h)]
      · rfl
  · refine Ex.ite (b := true) (Tst.eq (Tst.cm (Cm.notNone (Ev.loc 1 rfl rfl rfl))) rfl) (fun _ => ?_) nofun
    refine Ex.ret (EvG.tup (EvL.cons (Ev.loc 1 rfl rfl rfl) (EvL.cons (Ev.ifS (Tst.cm (Cm.eqS (Ev.ss (Ev.loc 0 rfl rfl rfl) Ev.cint Ev.cint hl) Ev.cstr)) (Ev.sn (Ev.loc 0 rfl rfl rfl) Ev.cint hl) (Ev.sn (Ev.loc 0 rfl rfl rfl) Ev.cint hl)) EvL.nil fun _ => rfl) fun _ => rfl) (Nat.le_of_ble_eq_true rfl) fun D _ t2 => rparts_of ?_) fun _ _ h => h
    simp only [numParts, hp]

end
section
example : True := by
  w_top off
  k_with_none
  trivial
section
variable {cs : Scope} {ns : List PySem.Str} {d u : Nat} {RX : Value → List (Addr × Obj) → Prop} {XX : Int → Prop} {C : Bx cs ns d u RX XX} {us : List Vl} {K : List Vl → List (Addr × Obj) → Prop} {rest body : List Stmt} {pos : Pos}
theorem Bx.store_slots {k : Nat} {x : PySem.Str} {v : Value} {y : Vl} {m : PySem.Str → Option Value} {us : List Vl} (C : Bx cs ns d u RX XX) (hx : ns[k]? = some x) (hv : y.Is (some v)) (hm : ∀ (i : Nat) (x : PySem.Str) (u : Vl), ns[i]? = some x → us[i]? = some u → u.Is (m x)) :
    ∀ (i : Nat) (x' : PySem.Str) (u : Vl), ns[i]? = some x' → (us.set k y)[i]? = some u → u.Is ((fun z => if z = x then some v else m z) x') := fun j x' w hj hu => by
  show w.Is (if x' = x then some v else m x')
  by_cases q : x' = x
  · subst q
    obtain rfl := C.inj hx hj
    rw [if_pos rfl]
    have hu' := hu
    rw [List.getElem?_set_self (by have := (List.getElem?_eq_some_iff.mp hu).1; simpa using this)] at hu'
    rw [← Option.some.inj hu']
    exact hv
  · rw [if_neg q]
    refine hm j x' w hj ?_
    rw [List.getElem?_set_ne (fun e => q ?_)] at hu
    · exact hu
    · subst e
      exact (Option.some.inj (hx.symm.trans hj)).symm
theorem Sub.stL {vs : List Vl} {l : List (Addr × Obj)} {s : Shared} (h : Sub vs us) (S : StL C l us nw s) : StL C l vs nw s := by
  obtain ⟨m, F, hm⟩ := S.fr
  exact ⟨S.pn, S.same, ⟨m, F, fun j x y hj hy => by obtain ⟨a, ha, hw⟩ := h j y hy; exact hw _ (hm j x a hj ha)⟩, S.news, S.above⟩
noncomputable def Bx.more (C : Bx cs ns d u RX XX) (own : List (Addr × Obj)) : Bx cs ns d u RX XX := { C with Pn := fun l => ∃ l', C.Pn l' ∧ l = l' ++ own, hP := fun _ _ ⟨a, ha, e⟩ ⟨b, hb, e'⟩ => by rw [e, e', List.map_append, List.map_append, C.hP a b ha hb] }
theorem Bx.loop {α : Type} (I : Nat → α → Prop) (f : α → List Vl) (c₀ : α) {Iad : Addr} {fp wr : List Addr} {n : Nat} {P : Nat → Value → Prop} {Stt : Nat → Heap → Prop} (k : Nat) {x : PySem.Str} {s : Shared} (hx : ns[k]? = some x)
    (W : Walks PySem.Challenge.pw_pf0076_01 C.w C.A Iad fp wr n P Stt) (hLf : C.L ∉ fp) (hwr : ∀ b ∈ wr, C.h₀.get? b = none) {lS : List (Addr × Obj)} (hnw : ∀ p ∈ lS, p.1 ∉ wr) (hfp : ∀ p ∈ lS, p.1 ∉ fp) (hst : Stt 0 s.heap) (hlS : StL C lS (f c₀) [] s) (h0 : I 0 c₀)
    (turn : ∀ i c v, i < n → P i v → I i c → ∀ C' : Bx cs ns d u RX XX, C'.w = C.w → Ex C' ((f c).set k (.val v)) [] body (fun us' nw' => nw' = [] ∧ ∃ c', I (i + 1) c' ∧ Sub (f c') us'))
    (exit : ∀ c, I n c → Ex C (f c) [] rest K) :
    LoopAtV PySem.Challenge.pw_pf0076_01 C.w C.A C.h₀ C.env x body (fun f s' => match f with | .next => wpAny C.M C.A (execs rest C.env) (C.Q K) C.E s' | f => C.Q K f s') C.E (.ref Iad) s := by
  obtain ⟨m, F, hm⟩ := hlS.fr
  have hsame := hlS.same
  refine loop_invN (fun i m nx => C.Pn nx ∧ ∃ c, I i c ∧ ∀ (i : Nat) (x : PySem.Str) (u : Vl), ns[i]? = some x → (f c)[i]? = some u → u.Is (m x)) W hLf hwr hnw hfp hst F hlS.news ⟨hlS.pn, c₀, h0, hm⟩ ?_ ?_
  · rintro i v m₁ nx h tk own hi hP _ hoff ⟨hnx, c, hI, hm₁⟩ F₁ N₁
    have hS' : St (C.more own) ((f c).set k (.val v)) [] { s with heap := h, toks := tk } := ⟨nx ++ own, ⟨nx, hnx, rfl⟩, hsame, ⟨_, F₁, C.store_slots hx rfl hm₁⟩, N₁, fun _ _ _ h => nomatch h⟩
    refine wpAny_mono (turn i c v hi hP hI (C.more own) rfl _ hS') (fun fl s₃ hf => ?_) (fun e s₃ hf => ?_)
    · cases fl with
      | next =>
        obtain ⟨us', nw', ⟨rfl, c', hI', hsub⟩, hS₃⟩ := hf
        obtain ⟨_, ⟨nx', hnx', rfl⟩, ⟨a1, a2, a3⟩, ⟨m₂, F₂, hm₂⟩, hn, _⟩ := hsub.st hS₃
        obtain ⟨b1, b2, b3⟩ := hsame
        exact ⟨s₃.heap, s₃.toks, m₂, nx' ++ own, nx', Same.eq ⟨a1.trans b1.symm, a2.trans b2.symm, a3.trans b3.symm⟩, F₂, hn, fun p hp => List.mem_append_left _ hp, fun p hp => List.mem_append_right _ hp, C.hP _ _ hnx' hlS.pn, hnx', c', hI', hm₂⟩
      | ret v' =>
        obtain ⟨us', nw', hr, hS₃⟩ := hf
        obtain ⟨_, ⟨nx', hnx', rfl⟩, hsm, hfr, hn, hab⟩ := hS₃
        exact ⟨us', nw', hr, nx', hnx', hsm, hfr, fun p hp => hn p ((List.mem_append.mp hp).elim (List.mem_append_left _) fun h => List.mem_append_right _ (List.mem_append_left _ h)), fun q hq => hab q (List.mem_append_left _ hq)⟩
      | brk => exact hf.elim
      | cont => exact hf.elim
    · refine wpAny_mono hf (fun _ s'' h' => ?_) fun _ _ h => h
      obtain ⟨x', sp, e1, hx', hs, _, ⟨l', hl', rfl⟩, R⟩ := h'
      exact ⟨x', sp, e1, hx', hs, l', hl', R.weaken fun q hq => List.mem_append_left _ hq⟩
  · rintro m₁ nx h tk ⟨hnx, c, hI, hm₁⟩ F₁ N₁
    exact exit c hI _ ⟨nx, hnx, hsame, ⟨_, F₁, hm₁⟩, N₁, fun _ _ _ h => nomatch h⟩
theorem Ex.forS_at {α : Type} (k : Nat) (I : Nat → α → Prop) (f : α → List Vl) (c₀ : α) {x : PySem.Str} {p : Pos} {iter : PySem.Expr} {T : PySem.Str} (ho : okLoc cs ns k x = true) (hs : ∀ env x, foldedSetIterable iter env x = pure x) (h0 : I 0 c₀) (hsub : Sub (f c₀) us)
    (turn : ∀ i c n, T.cps.toList[i]? = some n → I i c → ∀ C' : Bx cs ns d u RX XX, C'.w = C.w → Ex C' ((f c).set k (.str ⟨#[n]⟩)) [] body (fun us' nw' => nw' = [] ∧ ∃ c', I (i + 1) c' ∧ Sub (f c') us'))
    (exit : ∀ c, I T.length c → Ex C (f c) [] rest K) {s : Shared} (hS : St C us [] s) (he : ∀ (Q E : Value → Shared → Prop), (∀ v s', (Vl.str T).Is (some v) → St C us [] s' → Q v s') → (∀ e s', C.E e s' → E e s') → wpAny C.M C.A (eval iter C.env) Q E s) :
    wpAny C.M C.A (execs (.For (.Name x p) iter body [] pos :: rest) C.env) (C.Q K) C.E s := by
  obtain ⟨h1, h2, _⟩ := okLoc_out ho
  obtain ⟨m, F, hm⟩ := hS.fr
  refine wpAny_execs_cons (For_invVF F h2 (by show (cs.kind == .class || (cs.kind == .module && C.L != mainGlobals)) = false; rw [C.hk]; rfl) (he _ _ (fun v s' hv hS' => ?_) fun _ _ h => h) (hs _) C.passes)
  obtain ⟨t, rfl⟩ := Vl.str_is hv
  obtain ⟨l', hl'⟩ := id hS'
  obtain ⟨m₁, F₁, hm₁⟩ := hS'.fr
  refine wpAny_pyIter_str fun o Stt hW hst => ?_
  refine C.loop I f c₀ k h1 (hW _ rfl) (fun h => ?_) (fun b hb => ?_) (fun q hq hI => ?_) (fun q hq hI => ?_) hst (hsub.stL ⟨hl'.pn, hS'.same, ⟨m₁, F₁.push _, hm₁⟩, fun q hq => ⟨Heap.get?_push_of_some _ (hl'.news q hq).1, (hl'.news q hq).2⟩, fun _ _ _ h => nomatch h⟩) h0 (fun i c v hi hP hI C' hw => ?_) exit
  · exact absurd F₁.ns.lt ((List.mem_singleton.mp h) ▸ Nat.lt_irrefl _)
  · rw [List.mem_singleton.mp hb]; exact next_is_new F₁
  · exact absurd (Heap.lt_size (hl'.news q hq).1) ((List.mem_singleton.mp hI) ▸ Nat.lt_irrefl _)
  · exact absurd (Heap.lt_size (hl'.news q hq).1) ((List.mem_singleton.mp hI) ▸ Nat.lt_irrefl _)
  · obtain ⟨n, t', hn, rfl⟩ := hP
    refine fun s hS => turn i c n (by simpa using hn) hI C' hw s (Sub.st (fun j y hy => ?_) hS)
    by_cases q : k = j
    · subst q
      have hlt := (List.getElem?_eq_some_iff.mp hy).1
      rw [List.length_set] at hlt
      rw [List.getElem?_set_self hlt] at hy
      exact ⟨_, List.getElem?_set_self hlt, fun o h => by cases hy; exact ⟨t', h⟩⟩
    · rw [List.getElem?_set_ne q] at hy
      exact ⟨y, by rw [List.getElem?_set_ne q]; exact hy, fun _ h => h⟩
theorem Ex.forS {α : Type} (k : Nat) (I : Nat → α → Prop) (f : α → List Vl) (c₀ : α) {x : PySem.Str} {p : Pos} {iter : PySem.Expr} {T : PySem.Str} (ho : okLoc cs ns k x = true) (he : Ev C us [] iter (.str T)) (hs : ∀ env x, foldedSetIterable iter env x = pure x) (h0 : I 0 c₀) (hsub : Sub (f c₀) us)
    (turn : ∀ i c n, T.cps.toList[i]? = some n → I i c → ∀ C' : Bx cs ns d u RX XX, C'.w = C.w → Ex C' ((f c).set k (.str ⟨#[n]⟩)) [] body (fun us' nw' => nw' = [] ∧ ∃ c', I (i + 1) c' ∧ Sub (f c') us'))
    (exit : ∀ c, I T.length c → Ex C (f c) [] rest K) : Ex C us [] (.For (.Name x p) iter body [] pos :: rest) K := fun s hS => Ex.forS_at k I f c₀ ho hs h0 hsub turn exit hS fun Q E hQ hE => he s Q E hS hQ hE
variable {nw : List (Addr × Obj)}
theorem Ev.mul {l r : PySem.Expr} {i j : Int} (ha : Ev C us nw l (.int i)) (hb : Ev C us nw r (.int j)) (h0 : 0 ≤ j) (h1 : j ≤ 1000000) : Ev C us nw (.BinOp l .Mult r pos) (.int (i * j)) := Ev.op (fun _ _ _ _ _ h => PyProof.Rows.mul_int h (PySem.IntMulOk.of_right (PySem.intBits_le_64 (by omega) (by omega)))) ha hb
theorem Ev.cat {l r : PySem.Expr} {x y : PySem.Str} (ha : Ev C us nw l (.str x)) (hb : Ev C us nw r (.str y)) (hz : x.length + y.length ≤ 1048576) : Ev C us nw (.BinOp l .Add r pos) (.str (x ++ y)) := fun s Q E hS hQ hE => by
  refine wpAny_BinOp (ha _ _ _ hS (fun v s' hv hS' => hb _ _ _ hS' (fun v' s'' hv' hS'' => ?_) hE) hE)
  obtain ⟨t, rfl⟩ := Vl.str_is hv
  obtain ⟨t', rfl⟩ := Vl.str_is hv'
  exact SBL.add (fun t' k _ => hQ _ _ ⟨_, rfl⟩ (hS''.toks _)) (by size_fits)
end

end
section
example : True := by
  w_top off
  k_with_none
  (k_with "bx" => ((case ho => k_is); (case hcd => k_is); (case hb => exact rfl); (case hl => exact locs rfl); (case hu => k_extra "bx_hu"); (case c1 => exact rfl); (case c2 => exact rfl); (case c3 => exact rfl); (case c4 => decide)))
  (k_with "bx_hu" => (repeat (first | exact trivial | (refine And.intro ?_ ?_; first | exact trivial | exact rfl | exact Exists.intro _ rfl))))
  trivial
theorem figsOk_no {base : Int} {l : List Nat} {i n : Nat} (h : l[i]? = some n) (hn : base ≤ figW ⟨#[n]⟩) : figsOk base l = false := by
  refine Bool.eq_false_iff.mpr fun e => ?_
  have := List.all_eq_true.mp e n (List.mem_of_getElem? h)
  exact absurd (of_decide_eq_true this) (Int.not_lt.mpr hn)
theorem take_snoc {l : List Nat} {i n : Nat} (h : l[i]? = some n) : l.take (i + 1) = l.take i ++ [n] := by rw [List.take_add_one, h]; rfl
theorem figures_read_c (w : World) (text : PySem.Str) (i many base spot : Int) (t1 t2 t3 t4 t5 : Tok) (h0 : 0 ≤ i) (hl : text.length ≤ 1048576) (hm0 : 1 ≤ many) (hm : many ≤ 8) (hb0 : 8 ≤ base) (hb : base ≤ 16) :
    Ctr w 137 [.str text t1, .int i t2, .int many t3, .int base t4, .int spot t5] 5 60 [] (ROpt (figsRead text i many base)) (fun sp => sp = spot ∧ figsRead text i many base = none) := by
  have hF := slice_ss text i (i + many) h0 (by omega)
  rw [show (i + many - i).toNat = many.toNat by omega] at hF
  have hG : (Txt.slice text (some i) (some (i + many))).length ≤ 8 := by rw [len_eq, hF, List.length_take]; omega
  have hL : ((Txt.slice text (some i) (some (i + many))).length : Int) = ((text.cps.toList.drop i.toNat).take many.toNat).length := by rw [len_eq, hF]
  refine' Ctr.of_body [Str.ofString "text", Str.ofString "at", Str.ofString "many", Str.ofString "base", Str.ofString "spot", Str.ofString "figures", Str.ofString "value", Str.ofString "sign"] [.str text, .int i, .int many, .int base, .int spot, .no, .no, .no] ?ho ?hcd ?hb ?hl (by decide +kernel) (slots _ _ ?hu) ?c1 ?c2 ?c3 ?c4 ?_
  k_extra "bx"
  intro C _
  refine Ex.set 5 rfl (fun _ => rfl) (Ev.ss (Ev.loc 0 rfl rfl rfl) (Ev.loc 1 rfl rfl rfl) (Ev.add (Ev.loc 1 rfl rfl rfl) (Ev.loc 2 rfl rfl rfl)) hl) (Ex.set 6 rfl (fun _ => rfl) Ev.cint ?_)
  refine Ex.forS (α := Nat) 7 (fun j c => c = j ∧ figsOk base ((Txt.slice text (some i) (some (i + many))).cps.toList.take j) = true) (fun c => [.str text, .int i, .int many, .int base, .int spot, .str (Txt.slice text (some i) (some (i + many))), .int (valOf base ((Txt.slice text (some i) (some (i + many))).cps.toList.take c)), .no]) 0 rfl (Ev.loc 5 rfl rfl rfl) (fun _ _ => rfl) ⟨rfl, rfl⟩ (Sub.refl _) (fun j c n hn hI C _ => ?_) fun c hI => ?_
  · obtain ⟨rfl, hok⟩ := hI
    refine Ex.iteD (Tst.cm (Cm.ge (Ev.worth rfl (Ev.loc 7 rfl rfl rfl) (Nat.le_of_ble_eq_true rfl) (by decide) (by decide) (fun _ => rfl) fun _ => rfl) (Ev.loc 3 rfl rfl rfl))) (fun h => ?_) fun h => Ex.nil ?_
    · refine Ex.raise rfl (g_fault _) (k_fault _) (EvL.cons (Ev.cat Ev.cstr (Ev.loc 7 rfl rfl rfl) (Nat.le_of_ble_eq_true rfl)) (EvL.cons (Ev.loc 4 rfl rfl rfl) EvL.nil fun _ => rfl) fun _ => rfl) (by decide) (by decide) ⟨rfl, ?_⟩ (fun _ => rfl) (fun _ => rfl) fun _ => rfl
      rw [hF] at hn
      rw [figsRead, figsOk_no hn h]; rfl
    · refine Ex.set 6 rfl (fun _ => rfl) (Ev.add (Ev.mul (Ev.loc 6 rfl rfl rfl) (Ev.loc 3 rfl rfl rfl) (by omega) (by omega)) (Ev.worth rfl (Ev.loc 7 rfl rfl rfl) (Nat.le_of_ble_eq_true rfl) (by decide) (by decide) (fun _ => rfl) fun _ => rfl)) (Ex.nil ⟨rfl, c + 1, ⟨rfl, ?_⟩, ?_⟩)
      · rw [take_snoc hn, figsOk_snoc, hok, decide_eq_true (Int.not_le.mp h)]; rfl
      · rw [take_snoc hn, valOf_snoc]
        exact Sub.eq (Sub.eq (Sub.eq (Sub.eq (Sub.eq (Sub.eq (Sub.eq (Sub.no Sub.nil)))))))
  · obtain ⟨rfl, hok⟩ := hI
    rw [show (Txt.slice text (some i) (some (i + many))).cps.toList.take (Txt.slice text (some i) (some (i + many))).length = (text.cps.toList.drop i.toNat).take many.toNat by rw [len_eq, List.take_length, hF]] at hok ⊢
    refine Ex.iteD (Tst.cm (Cm.lt (Ev.len rfl (Ev.loc 5 rfl rfl rfl) (Nat.le_trans hG (by decide)) (fun _ => rfl) fun _ => rfl) (Ev.loc 2 rfl rfl rfl))) (fun h => ?_) fun h => Ex.nil ?_
    · refine Ex.raise rfl (g_fault _) (k_fault _) (EvL.cons Ev.cstr (EvL.cons (Ev.loc 4 rfl rfl rfl) EvL.nil fun _ => rfl) fun _ => rfl) (by decide) (by decide) ⟨rfl, ?_⟩ (fun _ => rfl) (fun _ => rfl) fun _ => rfl
      rw [figsRead, hok, if_neg (by simp only [Bool.true_and, decide_eq_true_eq]; omega)]
    · refine Ex.retI (Ev.loc 6 rfl rfl rfl) fun t => .mk _ t ?_
      rw [figsRead, hok, if_pos (by simp only [Bool.true_and, decide_eq_true_eq]; omega)]

end
section
example : True := by
  w_top off
  trivial
noncomputable def shortE (S : PySem.Str) : Option Int := if S = ⟨#[97]⟩ then some 7 else if S = ⟨#[98]⟩ then some 8 else if S = ⟨#[102]⟩ then some 12 else if S = ⟨#[110]⟩ then some 10 else if S = ⟨#[114]⟩ then some 13 else if S = ⟨#[116]⟩ then some 9 else if S = ⟨#[118]⟩ then some 11 else if S = ⟨#[92]⟩ then some 92 else none
noncomputable def longE (S : PySem.Str) : Option Int := if S = ⟨#[120]⟩ then some 2 else if S = ⟨#[117]⟩ then some 4 else if S = ⟨#[85]⟩ then some 8 else none
noncomputable def escRead (T : PySem.Str) (i : Int) (quote : PySem.Str) : Option (Int × Bool × Int) :=
  match shortE (Txt.slice T (some (i + 1)) (some (i + 2))) with
  | some v => some (v, false, i + 2)
  | none => if (Txt.slice T (some (i + 1)) (some (i + 2)) == quote) = true then some (((quote.cps.getD 0 0 : Nat) : Int), false, i + 2) else
    match longE (Txt.slice T (some (i + 1)) (some (i + 2))) with
    | some many => (match figsRead T (i + 2) many 16 with
      | none => none
      | some v => if (Txt.slice T (some (i + 1)) (some (i + 2)) == Str.ofString "x" || rightI v) = true then some (v, Txt.slice T (some (i + 1)) (some (i + 2)) == Str.ofString "x", i + 2 + many) else none)
    | none => match figsRead T (i + 1) 3 8 with
      | none => none
      | some v => if 255 < v then none else some (v, true, i + 4)
inductive REsc (o : Option (Int × Bool × Int)) : Value → List (Addr × Obj) → Prop | mk (x : Addr) (v : Int) (b : Bool) (j : Int) (t1 t2 : Tok) (h : o = some (v, b, j)) : REsc o (.ref x) [(x, tupO [.int v t1, .bool b, .int j t2])]
noncomputable def tabE (x : PySem.Str) : List (PySem.Str × Int) → Option Int
  | [] => none
  | p :: D => if x = p.1 then some p.2 else tabE x D
theorem each_in (x : PySem.Str) : ∀ D : List (PySem.Str × Int), D.foldr (fun p b => decide (x = p.1) || b) false = (tabE x D).isSome := fun D => by
  induction D with
  | nil => rfl
  | cons p D ih =>
    rw [List.foldr_cons, ih]
    show _ = (if x = p.1 then some p.2 else tabE x D).isSome
    by_cases c : x = p.1
    · rw [decide_eq_true c, if_pos c]; rfl
    · rw [decide_eq_false c, if_neg c]; rfl
theorem eachL_of {h : Heap} {x : PySem.Str} {P : Value → Prop} : ∀ D : List (PySem.Str × Int), (∀ v t, tabE x D = some v → P (.int v t)) → KTD.EachL h x P (D.map fun p => (p.1, KTD.Dat.flat (.int p.2))) := fun D => by
  induction D with
  | nil => exact fun _ => trivial
  | cons p D ih =>
    intro hp
    cases D with
    | nil => exact fun c t => hp _ t (if_pos c)
    | cons q D =>
      show if decide (x = p.1) = true then _ else _
      by_cases c : x = p.1
      · rw [if_pos (decide_eq_true c)]; exact fun t => hp _ t (if_pos c)
      · rw [if_neg (by simpa using c)]; exact ih fun v t e => hp v t ((if_neg c).trans e)
section
variable {w : World} {A : Around} {E : Value → Shared → Prop} {Q : Value → Shared → Prop} {s : Shared} {h₀ : Heap} {L : Addr} {m : PySem.Str → Option Value} {news : List (Addr × Obj)} {x : PySem.Str} {t : Tok}
theorem in87 (X : (Mine.hd.heap_39 w.params).In h₀) (F : Fr h₀ L s.heap m) (N : News h₀ L s.heap news) (h : Q (.bool (shortE x).isSome) { s with toks := s.toks + 1 }) :
    wpAny (model PySem.Challenge.pw_pf0076_01 w) A (compareOp .In (.str x t) (.ref 87)) Q E s := by
  rw [show shortE x = tabE x [(⟨#[97]⟩, 7), (⟨#[98]⟩, 8), (⟨#[102]⟩, 12), (⟨#[110]⟩, 10), (⟨#[114]⟩, 13), (⟨#[116]⟩, 9), (⟨#[118]⟩, 11), (⟨#[92]⟩, 92)] from rfl, ← each_in] at h
  walk1
  exact h
theorem it87 {p p' : Pos} (X : (Mine.hd.heap_39 w.params).In h₀) (F : Fr h₀ L s.heap m) (N : News h₀ L s.heap news) (hh : A.handled = none) (hx : (shortE x).isSome = true) (h : ∀ v t, shortE x = some v → Q (.int v t) { s with toks := s.toks + 1 }) :
    wpAny (model PySem.Challenge.pw_pf0076_01 w) A (subscriptTail (.Name (Str.ofString "SHORT_ESCAPES") p) (.Name (Str.ofString "sign") p') (.ref 87) (.str x t)) Q E s := by
  have h9 : Hold (KTD.EachL h₀ x (fun v => Q v { s with toks := s.toks + 1 }) _) := Hold.mk (@eachL_of h₀ x (fun v => Q v { s with toks := s.toks + 1 }) [(⟨#[97]⟩, 7), (⟨#[98]⟩, 8), (⟨#[102]⟩, 12), (⟨#[110]⟩, 10), (⟨#[114]⟩, 13), (⟨#[116]⟩, 9), (⟨#[118]⟩, 11), (⟨#[92]⟩, 92)] h)
  have hk := (each_in x [(⟨#[97]⟩, 7), (⟨#[98]⟩, 8), (⟨#[102]⟩, 12), (⟨#[110]⟩, 10), (⟨#[114]⟩, 13), (⟨#[116]⟩, 9), (⟨#[118]⟩, 11), (⟨#[92]⟩, 92)]).trans hx
  simp only [List.foldr_cons, List.foldr_nil] at hk
  walk1
  exact h9.out
theorem in88 (X : (Mine.hd.heap_39 w.params).In h₀) (F : Fr h₀ L s.heap m) (N : News h₀ L s.heap news) (h : Q (.bool (longE x).isSome) { s with toks := s.toks + 1 }) :
    wpAny (model PySem.Challenge.pw_pf0076_01 w) A (compareOp .In (.str x t) (.ref 88)) Q E s := by
  rw [show longE x = tabE x [(⟨#[120]⟩, 2), (⟨#[117]⟩, 4), (⟨#[85]⟩, 8)] from rfl, ← each_in] at h
  walk1
  exact h
theorem it88 {p p' : Pos} (X : (Mine.hd.heap_39 w.params).In h₀) (F : Fr h₀ L s.heap m) (N : News h₀ L s.heap news) (hh : A.handled = none) (hx : (longE x).isSome = true) (h : ∀ v t, longE x = some v → Q (.int v t) { s with toks := s.toks + 1 }) :
    wpAny (model PySem.Challenge.pw_pf0076_01 w) A (subscriptTail (.Name (Str.ofString "LONG_ESCAPES") p) (.Name (Str.ofString "sign") p') (.ref 88) (.str x t)) Q E s := by
  have h9 : Hold (KTD.EachL h₀ x (fun v => Q v { s with toks := s.toks + 1 }) _) := Hold.mk (@eachL_of h₀ x (fun v => Q v { s with toks := s.toks + 1 }) [(⟨#[120]⟩, 2), (⟨#[117]⟩, 4), (⟨#[85]⟩, 8)] h)
  have hk := (each_in x [(⟨#[120]⟩, 2), (⟨#[117]⟩, 4), (⟨#[85]⟩, 8)]).trans hx
  simp only [List.foldr_cons, List.foldr_nil] at hk
  walk1
  exact h9.out
end
theorem g_short (w : World) : nsIn (Mine.hd.heap_39 w.params) mainGlobals (Str.ofString "SHORT_ESCAPES") = some (some (.ref 87)) := by k_is
theorem g_long (w : World) : nsIn (Mine.hd.heap_39 w.params) mainGlobals (Str.ofString "LONG_ESCAPES") = some (some (.ref 88)) := by k_is
theorem g_figs (w : World) : nsIn (Mine.hd.heap_39 w.params) mainGlobals (Str.ofString "figures_read") = some (some (.ref 137)) := by k_is
theorem k_figs (w : World) : keepIn (Mine.hd.heap_39 w.params) (.ref 137) = true := by k_is
section
variable {cs : Scope} {ns : List PySem.Str} {d u : Nat} {RX : Value → List (Addr × Obj) → Prop} {XX : Int → Prop} {C : Bx cs ns d u RX XX} {us : List Vl} {nw : List (Addr × Obj)} {pos p p' : Pos} {x : PySem.Str}
theorem Cm.in87 {e : PySem.Expr} (ho : okGlob cs (Str.ofString "SHORT_ESCAPES") = true) (he : Ev C us nw e (.str x)) : Cm C us nw .In e (.Name (Str.ofString "SHORT_ESCAPES") p) (shortE x).isSome := ⟨rfl, fun s Q E hS hQ hE => by
  refine he _ _ _ hS (fun v s' hv hS' => Ev.glob ho (g_short _) _ _ _ hS' (fun v' s'' hv' hS'' => ?_) hE) hE
  obtain ⟨t, rfl⟩ := Vl.str_is hv
  obtain rfl := Vl.val_is hv'
  obtain ⟨m, F, _⟩ := hS''.fr
  obtain ⟨ln, hln⟩ := id hS''
  exact Mine.Internal.in87 C.K F hln.news (hQ _ (hS''.toks _))⟩
theorem Cm.in88 {e : PySem.Expr} (ho : okGlob cs (Str.ofString "LONG_ESCAPES") = true) (he : Ev C us nw e (.str x)) : Cm C us nw .In e (.Name (Str.ofString "LONG_ESCAPES") p) (longE x).isSome := ⟨rfl, fun s Q E hS hQ hE => by
  refine he _ _ _ hS (fun v s' hv hS' => Ev.glob ho (g_long _) _ _ _ hS' (fun v' s'' hv' hS'' => ?_) hE) hE
  obtain ⟨t, rfl⟩ := Vl.str_is hv
  obtain rfl := Vl.val_is hv'
  obtain ⟨m, F, _⟩ := hS''.fr
  obtain ⟨ln, hln⟩ := id hS''
  exact Mine.Internal.in88 C.K F hln.news (hQ _ (hS''.toks _))⟩
theorem Ev.it87 {v : Int} (ho : okGlob cs (Str.ofString "SHORT_ESCAPES") = true) (he : Ev C us nw (.Name (Str.ofString "sign") p') (.str x)) (hx : shortE x = some v) : Ev C us nw (.Subscript (.Name (Str.ofString "SHORT_ESCAPES") p) (.Name (Str.ofString "sign") p') pos) (.int v) := fun s Q E hS hQ hE => by
  refine Subscript_ (Ev.glob ho (g_short _) _ _ _ hS (fun v' s' hv' hS' => he _ _ _ hS' (fun v'' s'' hv'' hS'' => ?_) hE) hE)
  obtain rfl := Vl.val_is hv'
  obtain ⟨t, rfl⟩ := Vl.str_is hv''
  obtain ⟨m, F, _⟩ := hS''.fr
  obtain ⟨ln, hln⟩ := id hS''
  exact Mine.Internal.it87 C.K F hln.news rfl (by rw [hx]; rfl) fun v9 t' e => hQ _ _ ⟨t', by rw [Option.some.inj (e.symm.trans hx)]⟩ (hS''.toks _)
theorem Ev.it88 {v : Int} (ho : okGlob cs (Str.ofString "LONG_ESCAPES") = true) (he : Ev C us nw (.Name (Str.ofString "sign") p') (.str x)) (hx : longE x = some v) : Ev C us nw (.Subscript (.Name (Str.ofString "LONG_ESCAPES") p) (.Name (Str.ofString "sign") p') pos) (.int v) := fun s Q E hS hQ hE => by
  refine Subscript_ (Ev.glob ho (g_long _) _ _ _ hS (fun v' s' hv' hS' => he _ _ _ hS' (fun v'' s'' hv'' hS'' => ?_) hE) hE)
  obtain rfl := Vl.val_is hv'
  obtain ⟨t, rfl⟩ := Vl.str_is hv''
  obtain ⟨m, F, _⟩ := hS''.fr
  obtain ⟨ln, hln⟩ := id hS''
  exact Mine.Internal.it88 C.K F hln.news rfl (by rw [hx]; rfl) fun v9 t' e => hQ _ _ ⟨t', by rw [Option.some.inj (e.symm.trans hx)]⟩ (hS''.toks _)
theorem ROpt.ev {o : Option Int} {v : Value} {n2 : List (Addr × Obj)} (h : ROpt o v n2) : ∃ j t, o = some j ∧ v = .int j t ∧ n2 = [] := by
  cases h with
  | mk j t e => exact ⟨j, t, e, rfl, rfl⟩
theorem Ex.setI {K : List Vl → List (Addr × Obj) → Prop} {rest : List Stmt} (i : Nat) {n : PySem.Str} {e : PySem.Expr} {R' : Value → List (Addr × Obj) → Prop} (ho : okLoc cs ns i n = true) (hs : ∀ env, swapsWith e (some (.Name n p)) pos.line env = pure false) (he : EvG C us nw e (fun v nw' => ∃ n2, R' v n2 ∧ nw' = n2 ++ nw))
    (hr : ∀ v n2, R' v n2 → ∃ j t, v = .int j t ∧ n2 = [] ∧ Ex C (us.set i (.int j)) nw rest K) : Ex C us nw (.Assign [.Name n p] e pos :: rest) K := fun s hS =>
  wpAny_execs_cons (wpAny_Assign_Name (he _ _ _ hS (fun v nw' s' ⟨n2, h, e1⟩ hS' => by
    obtain ⟨j, t, rfl, rfl, hx⟩ := hr v n2 h
    subst e1
    exact hS'.store (y := .int j) ho ⟨t, rfl⟩ fun s'' hS'' => hx _ hS'') fun _ _ h => h) (hs _))
theorem ROpt.set {K : List Vl → List (Addr × Obj) → Prop} {rest : List Stmt} {i : Nat} {o : Option Int} (h : ∀ j, o = some j → Ex C (us.set i (.int j)) nw rest K) : ∀ v n2, ROpt o v n2 → ∃ j t, v = .int j t ∧ n2 = [] ∧ Ex C (us.set i (.int j)) nw rest K := fun v n2 hr => by
  obtain ⟨j, t, e, e1, e2⟩ := hr.ev
  exact ⟨j, t, e1, e2, h j e⟩
theorem Tst.right {e : PySem.Expr} {i : Int} (ho : okGlob cs (Str.ofString "is_right_rune") = true) (he : Ev C us nw e (.int i)) (hd : 1 ≤ d) (hu : 8 ≤ u) (hs : ∀ env, starEach [e] env = [(false, eval e env)])
    (hcall : ∀ env, eval (.Call (.Name (Str.ofString "is_right_rune") p) [e] [] pos) env = (do callWith pos (← eval (.Name (Str.ofString "is_right_rune") p) env) [] (backTo pos (starEach [e] env)) (backToKw pos (keywordEach [] env)))) :
    Tst C us nw (.Call (.Name (Str.ofString "is_right_rune") p) [e] [] pos) (rightI i) :=
  Tst.plain (EvG.call0 (EvG.call ho (g_right _) (k_right _) (EvL.cons he EvL.nil hs) (fun t => is_right_rune_c _ _ t) hd hu (fun _ h => h.elim) hs (fun _ => rfl) hcall) RBool.ev) fun _ _ => rfl
end
section
variable {T quote : PySem.Str} {i v many : Int}
theorem es0 {c : PySem.Str} (h : Txt.slice T (some (i + 1)) (some (i + 2)) = c) (hs : shortE c = some v) : escRead T i quote = some (v, false, i + 2) := by
  delta escRead
  rw [h, hs]
theorem es1 (h1 : shortE (Txt.slice T (some (i + 1)) (some (i + 2))) = none) (h2 : (Txt.slice T (some (i + 1)) (some (i + 2)) == quote) = true) : escRead T i quote = some (((quote.cps.getD 0 0 : Nat) : Int), false, i + 2) := by
  delta escRead
  rw [h1]
  dsimp only
  rw [if_pos h2]
theorem es2 (h1 : shortE (Txt.slice T (some (i + 1)) (some (i + 2))) = none) (h2 : (Txt.slice T (some (i + 1)) (some (i + 2)) == quote) = false) (h3 : longE (Txt.slice T (some (i + 1)) (some (i + 2))) = some many) (h4 : figsRead T (i + 2) many 16 = none) : escRead T i quote = none := by
  delta escRead
  rw [h1]
  dsimp only
  rw [if_neg (by rw [h2]; exact Bool.false_ne_true), h3]
  dsimp only
  rw [h4]
theorem es3 (h1 : shortE (Txt.slice T (some (i + 1)) (some (i + 2))) = none) (h2 : (Txt.slice T (some (i + 1)) (some (i + 2)) == quote) = false) (h3 : longE (Txt.slice T (some (i + 1)) (some (i + 2))) = some many) (h4 : figsRead T (i + 2) many 16 = some v)
    (h5 : (Txt.slice T (some (i + 1)) (some (i + 2)) != Str.ofString "x") = true) (h6 : rightI v = false) : escRead T i quote = none := by
  simp only [bne, Bool.not_eq_true'] at h5
  delta escRead
  rw [h1]
  dsimp only
  rw [if_neg (by rw [h2]; exact Bool.false_ne_true), h3]
  dsimp only
  rw [h4]
  dsimp only
  rw [if_neg (by rw [h5, h6]; exact Bool.false_ne_true)]
theorem es4 (h1 : shortE (Txt.slice T (some (i + 1)) (some (i + 2))) = none) (h2 : (Txt.slice T (some (i + 1)) (some (i + 2)) == quote) = false) (h3 : longE (Txt.slice T (some (i + 1)) (some (i + 2))) = some many) (h4 : figsRead T (i + 2) many 16 = some v)
    (h6 : rightI v = true) : escRead T i quote = some (v, Txt.slice T (some (i + 1)) (some (i + 2)) == Str.ofString "x", i + 2 + many) := by
  delta escRead
  rw [h1]
  dsimp only
  rw [if_neg (by rw [h2]; exact Bool.false_ne_true), h3]
  dsimp only
  rw [h4]
  dsimp only
  rw [if_pos (by rw [h6, Bool.or_true])]
theorem es5 (h1 : shortE (Txt.slice T (some (i + 1)) (some (i + 2))) = none) (h2 : (Txt.slice T (some (i + 1)) (some (i + 2)) == quote) = false) (h3 : longE (Txt.slice T (some (i + 1)) (some (i + 2))) = some many) (h4 : figsRead T (i + 2) many 16 = some v)
    (h5 : (Txt.slice T (some (i + 1)) (some (i + 2)) != Str.ofString "x") = false) : escRead T i quote = some (v, Txt.slice T (some (i + 1)) (some (i + 2)) == Str.ofString "x", i + 2 + many) := by
  simp only [bne, Bool.not_eq_false'] at h5
  delta escRead
  rw [h1]
  dsimp only
  rw [if_neg (by rw [h2]; exact Bool.false_ne_true), h3]
  dsimp only
  rw [h4]
  dsimp only
  rw [if_pos (by rw [h5, Bool.true_or])]
theorem es6 (h1 : shortE (Txt.slice T (some (i + 1)) (some (i + 2))) = none) (h2 : (Txt.slice T (some (i + 1)) (some (i + 2)) == quote) = false) (h3 : longE (Txt.slice T (some (i + 1)) (some (i + 2))) = none) (h4 : figsRead T (i + 1) 3 8 = none) : escRead T i quote = none := by
  delta escRead
  rw [h1]
  dsimp only
  rw [if_neg (by rw [h2]; exact Bool.false_ne_true), h3]
  dsimp only
  rw [h4]
theorem es7 (h1 : shortE (Txt.slice T (some (i + 1)) (some (i + 2))) = none) (h2 : (Txt.slice T (some (i + 1)) (some (i + 2)) == quote) = false) (h3 : longE (Txt.slice T (some (i + 1)) (some (i + 2))) = none) (h4 : figsRead T (i + 1) 3 8 = some v) (h5 : 255 < v) : escRead T i quote = none := by
  delta escRead
  rw [h1]
  dsimp only
  rw [if_neg (by rw [h2]; exact Bool.false_ne_true), h3]
  dsimp only
  rw [h4]
  dsimp only
  rw [if_pos h5]
theorem es8 (h1 : shortE (Txt.slice T (some (i + 1)) (some (i + 2))) = none) (h2 : (Txt.slice T (some (i + 1)) (some (i + 2)) == quote) = false) (h3 : longE (Txt.slice T (some (i + 1)) (some (i + 2))) = none) (h4 : figsRead T (i + 1) 3 8 = some v) (h5 : ¬ 255 < v) : escRead T i quote = some (v, true, i + 4) := by
  delta escRead
  rw [h1]
  dsimp only
  rw [if_neg (by rw [h2]; exact Bool.false_ne_true), h3]
  dsimp only
  rw [h4]
  dsimp only
  rw [if_neg h5]
end
theorem longE_bd {x : PySem.Str} {v : Int} (h : longE x = some v) : 1 ≤ v ∧ v ≤ 8 := by
  unfold longE at h
  repeat' split at h
  all_goals first | (cases h; decide) | cases h
theorem read_escape_c (w : World) (text quote : PySem.Str) (i : Int) (t1 t2 t3 : Tok) (h0 : 0 ≤ i) (h1 : i < text.length) (hl : text.length ≤ 1048576) (hq : quote.length = 1) :
    Ctr w 144 [.str text t1, .int i t2, .str quote t3] 7 80 [] (REsc (escRead text i quote)) (fun sp => sp = i ∧ escRead text i quote = none) := by
  refine' Ctr.of_body [Str.ofString "text", Str.ofString "at", Str.ofString "quote", Str.ofString "sign", Str.ofString "many", Str.ofString "value"] [.str text, .int i, .str quote, .no, .no, .no] ?ho ?hcd ?hb ?hl (by decide +kernel) (slots _ _ ?hu) ?c1 ?c2 ?c3 ?c4 ?_
  k_extra "bx"
  intro C _
  refine Ex.set 3 rfl (fun _ => rfl) (Ev.ss (Ev.loc 0 rfl rfl rfl) (Ev.add (Ev.loc 1 rfl rfl rfl) Ev.cint) (Ev.add (Ev.loc 1 rfl rfl rfl) Ev.cint) hl) ?_
  refine Ex.ite (Tst.cm (Cm.in87 rfl (Ev.loc 3 rfl rfl rfl))) (fun h => ?_) fun h => Ex.nil ?_
  · obtain ⟨v, hv⟩ := Option.isSome_iff_exists.mp h
    exact Ex.ret (EvG.tup (EvL.cons (Ev.it87 rfl (Ev.loc 3 rfl rfl rfl) hv) (EvL.cons Ev.bool (EvL.cons (Ev.add (Ev.loc 1 rfl rfl rfl) Ev.cint) EvL.nil fun _ => rfl) fun _ => rfl) fun _ => rfl) (Nat.le_of_ble_eq_true rfl) fun D _ t1 t2 => .mk D _ _ _ t1 t2 (es0 rfl hv)) fun _ _ h => h
  have s1 := Option.isSome_eq_false_iff.mp h
  rw [Option.isNone_iff_eq_none] at s1
  refine Ex.ite (Tst.cm (Cm.eqS (Ev.loc 3 rfl rfl rfl) (Ev.loc 2 rfl rfl rfl))) (fun h2 => ?_) fun h2 => Ex.nil ?_
  · exact Ex.ret (EvG.tup (EvL.cons (Ev.ord rfl (Ev.loc 2 rfl rfl rfl) hq (fun _ => rfl) fun _ => rfl) (EvL.cons Ev.bool (EvL.cons (Ev.add (Ev.loc 1 rfl rfl rfl) Ev.cint) EvL.nil fun _ => rfl) fun _ => rfl) fun _ => rfl) (Nat.le_of_ble_eq_true rfl) fun D _ t1 t2 => .mk D _ _ _ t1 t2 (es1 s1 h2)) fun _ _ h => h
  refine Ex.ite (Tst.cm (Cm.in88 rfl (Ev.loc 3 rfl rfl rfl))) (fun h3 => ?_) fun h3 => Ex.nil ?_
  · obtain ⟨many, hm⟩ := Option.isSome_iff_exists.mp h3
    obtain ⟨m1, m2⟩ := longE_bd hm
    refine Ex.set 4 rfl (fun _ => rfl) (Ev.it88 rfl (Ev.loc 3 rfl rfl rfl) hm) ?_
    refine Ex.setI 5 rfl (fun _ => rfl) (EvG.call rfl (g_figs _) (k_figs _) (EvL.cons (Ev.loc 0 rfl rfl rfl) (EvL.cons (Ev.add (Ev.loc 1 rfl rfl rfl) Ev.cint) (EvL.cons (Ev.loc 4 rfl rfl rfl) (EvL.cons Ev.cint (EvL.cons (Ev.loc 1 rfl rfl rfl) EvL.nil fun _ => rfl) fun _ => rfl) fun _ => rfl) fun _ => rfl) fun _ => rfl) (fun t1 t2 t3 t4 t5 => figures_read_c _ _ _ _ _ _ t1 t2 t3 t4 t5 (by omega) hl m1 m2 (by decide) (by decide)) (by decide) (by decide) (fun sp h => ⟨h.1, es2 s1 h2 hm h.2⟩) (fun _ => rfl) (fun _ => rfl) fun _ => rfl) (ROpt.set fun v hv => ?_)
    refine Ex.ite (Tst.and2 (Tst.cm (Cm.neS (Ev.loc 3 rfl rfl rfl) Ev.cstr)) fun _ => Tst.nt (Tst.right rfl (Ev.loc 5 rfl rfl rfl) (by decide) (by decide) (fun _ => rfl) fun _ => rfl)) (fun h5 => ?_) fun h5 => Ex.nil ?_
    · rw [Bool.and_eq_true, Bool.not_eq_true'] at h5
      exact Ex.raise rfl (g_fault _) (k_fault _) (EvL.cons Ev.cstr (EvL.cons (Ev.loc 1 rfl rfl rfl) EvL.nil fun _ => rfl) fun _ => rfl) (by decide) (by decide) ⟨rfl, es3 s1 h2 hm hv h5.1 h5.2⟩ (fun _ => rfl) (fun _ => rfl) fun _ => rfl
    · refine Ex.ret (EvG.tup (EvL.cons (Ev.loc 5 rfl rfl rfl) (EvL.cons (Ev.cm (Cm.eqS (Ev.loc 3 rfl rfl rfl) Ev.cstr)) (EvL.cons (Ev.add (Ev.add (Ev.loc 1 rfl rfl rfl) Ev.cint) (Ev.loc 4 rfl rfl rfl)) EvL.nil fun _ => rfl) fun _ => rfl) fun _ => rfl) (Nat.le_of_ble_eq_true rfl) fun D _ t1 t2 => .mk D _ _ _ t1 t2 ?_) fun _ _ h => h
      rw [Bool.and_eq_false_iff, Bool.not_eq_false'] at h5
      exact h5.elim (es5 s1 h2 hm hv) (es4 s1 h2 hm hv)
  · have s3 := Option.isSome_eq_false_iff.mp h3
    rw [Option.isNone_iff_eq_none] at s3
    refine Ex.setI 5 rfl (fun _ => rfl) (EvG.call rfl (g_figs _) (k_figs _) (EvL.cons (Ev.loc 0 rfl rfl rfl) (EvL.cons (Ev.add (Ev.loc 1 rfl rfl rfl) Ev.cint) (EvL.cons Ev.cint (EvL.cons Ev.cint (EvL.cons (Ev.loc 1 rfl rfl rfl) EvL.nil fun _ => rfl) fun _ => rfl) fun _ => rfl) fun _ => rfl) fun _ => rfl) (fun t1 t2 t3 t4 t5 => figures_read_c _ _ _ _ _ _ t1 t2 t3 t4 t5 (by omega) hl (by decide) (by decide) (by decide) (by decide)) (by decide) (by decide) (fun sp h => ⟨h.1, es6 s1 h2 s3 h.2⟩) (fun _ => rfl) (fun _ => rfl) fun _ => rfl) (ROpt.set fun v hv => ?_)
    refine Ex.iteD (Tst.cm (Cm.gt (Ev.loc 5 rfl rfl rfl) Ev.cint)) (fun h5 => ?_) fun h5 => Ex.nil ?_
    · exact Ex.raise rfl (g_fault _) (k_fault _) (EvL.cons Ev.cstr (EvL.cons (Ev.loc 1 rfl rfl rfl) EvL.nil fun _ => rfl) fun _ => rfl) (by decide) (by decide) ⟨rfl, es7 s1 h2 s3 hv h5⟩ (fun _ => rfl) (fun _ => rfl) fun _ => rfl
    · exact Ex.ret (EvG.tup (EvL.cons (Ev.loc 5 rfl rfl rfl) (EvL.cons Ev.bool (EvL.cons (Ev.add (Ev.loc 1 rfl rfl rfl) Ev.cint) EvL.nil fun _ => rfl) fun _ => rfl) fun _ => rfl) (Nat.le_of_ble_eq_true rfl) fun D _ t1 t2 => .mk D _ _ _ t1 t2 (es8 s1 h2 s3 hv h5)) fun _ _ h => h

end
section
example : True := by
  w_top off
  k_with_none
  trivial
section
variable {cs : Scope} {ns : List PySem.Str} {d u : Nat} {RX : Value → List (Addr × Obj) → Prop} {XX : Int → Prop} {C : Bx cs ns d u RX XX} {us : List Vl} {nw : List (Addr × Obj)} {K : List Vl → List (Addr × Obj) → Prop} {rest : List Stmt} {pos : Pos}
theorem AllIs.len : ∀ (xs : List Vl) (vs : List Value), AllIs xs vs → vs.length = xs.length := fun xs => by
  induction xs with
  | nil => intro vs h; cases vs with | nil => rfl | cons _ _ => exact h.elim
  | cons x xs ih => intro vs h; cases vs with | nil => exact h.elim | cons v vs => rw [List.length_cons, List.length_cons, ih vs h.2]
theorem St.drop {n2 : List (Addr × Obj)} {s : Shared} (h : St C us (n2 ++ nw) s) : St C us nw s :=
  h.elim fun l h => ⟨l, h.pn, h.same, h.fr, fun q hq => h.news q (by rw [List.append_assoc]; exact List.mem_append_right _ hq), fun q hq p hp => h.above q hq p (List.mem_append_right _ hp)⟩
theorem strs_of : ∀ (ys : List PySem.Str) (vs : List Value), AllIs (ys.map Vl.str) vs → StrsAre vs ys := fun ys => by
  induction ys with
  | nil => intro vs h; cases vs with | nil => exact .nil | cons _ _ => exact h.elim
  | cons y ys ih => intro vs h; cases vs with | nil => exact h.elim | cons v vs => obtain ⟨t, rfl⟩ := Vl.str_is h.1; exact .cons _ _ (ih vs h.2)
theorem Cm.inT {l : PySem.Expr} {es : List PySem.Expr} {k : Nat} {p : Pos} {x : PySem.Str} (ys : List PySem.Str) (ha : Ev C us nw l (.str x)) (hl : EvL C us nw es (ys.map Vl.str)) (hz : ys.length ≤ 1000) : Cm C us nw .In l (.Tuple es k p) (ys.any fun y => y == x) := ⟨rfl, fun s Q E hS hQ hE => by
  refine ha _ _ _ hS (fun v s' hv hS' => Tuple_ (hl _ _ _ _ hS' (fun vs s'' hvs hS'' => ?_) hE)) hE
  obtain ⟨t, rfl⟩ := Vl.str_is hv
  obtain ⟨l'', hl''⟩ := id hS''
  obtain ⟨m, F, hm⟩ := hS''.fr
  have hlen := AllIs.len _ _ hvs
  rw [List.length_map] at hlen
  refine kup_newTuple F hl''.news (fun D h' F' N' hlt => ?_) (by rw [hlen]; size_fits)
  exact in_tuple_strs (N'.isTup (.head _)) (by simpa using strs_of ys vs hvs) (hQ _ ⟨l'', hl''.pn, hS''.same, ⟨m, F', hm⟩, fun q hq => N' q (.tail _ hq), hl''.above⟩)⟩
theorem St.bind {i : Nat} {x : PySem.Str} {v : Value} {y : Vl} {s : Shared} {Q : Unit → Shared → Prop} {E : Value → Shared → Prop} {ts : List (Value → Sem Unit)} {vs : List Value} (ho : okLoc cs ns i x = true) (hS : St C us nw s) (hv : y.Is (some v))
    (h : ∀ s', St C (us.set i y) nw s' → wpAny C.M C.A (assignInOrder ts vs) Q E s') : wpAny C.M C.A (assignInOrder ((fun v => bindName C.env x v) :: ts) (v :: vs)) Q E s :=
  assignInOrder_cons (bindName_ (hS.store ho hv h))
theorem St.assign {i : Nat} {x : PySem.Str} {p : Pos} {v : Value} {y : Vl} {s : Shared} {Q : Unit → Shared → Prop} {E : Value → Shared → Prop} {ts : List (Value → Sem Unit)} {vs : List Value} (ho : okLoc cs ns i x = true) (hS : St C us nw s) (hv : y.Is (some v))
    (h : ∀ s', St C (us.set i y) nw s' → wpAny C.M C.A (assignInOrder ts vs) Q E s') : wpAny C.M C.A (assignInOrder ((fun v => assign (.Name x p) C.env v) :: ts) (v :: vs)) Q E s :=
  assignInOrder_cons (PyProof.Rows.assign_Name (hS.store ho hv h))
theorem Ex.swap2 (i j : Nat) {x z : PySem.Str} {p q tp vp : Pos} {e1 e2 : PySem.Expr} {k k' : Nat} {y : Vl} {R' : Value → List (Addr × Obj) → Prop} (ho : okLoc cs ns i x = true) (ho' : okLoc cs ns j z = true)
    (h1 : EvG C us nw e1 (fun v nw' => ∃ n2, R' v n2 ∧ nw' = n2 ++ nw)) (h2 : Ev C us nw e2 y)
    (hr : ∀ v n2, R' v n2 → n2 = [] ∧ ∃ a : Vl, a.Is (some v) ∧ Ex C ((us.set j y).set i a) nw rest K)
    (he : ∀ env, starEach [e1, e2] env = [(false, eval e1 env), (false, eval e2 env)]) (he' : ∀ env, starEach [e2] env = [(false, eval e2 env)])
    (hs : ∀ env, swapsWithSole [.Tuple [.Name x p, .Name z q] k tp] (.Tuple [e1, e2] k' vp) pos.line env = pure false) (hw : ∀ cn L a ccd cl, swappedStores [.Tuple [.Name x p, .Name z q] k tp] (.Tuple [e1, e2] k' vp) (envX cn cs L a ccd cl) = pure (some [x, z])) :
    Ex C us nw (.Assign [.Tuple [.Name x p, .Name z q] k tp] (.Tuple [e1, e2] k' vp) pos :: rest) K := fun s hS => by
  refine wpAny_execs_cons (Assign_Tuple_swapped (Tuple_ (args_cons (h1 _ _ _ hS (fun v nw' s' ⟨n2, hr', e1'⟩ hS' => ?_) fun _ _ h => h) (by rw [he, he']))) (hs _) (hw _ _ _ _ _))
  obtain ⟨rfl, a, ha, hx⟩ := hr v n2 hr'
  subst e1'
  refine EvL.cons h2 EvL.nil (fun env => he' env) _ _ _ _ hS' (fun vs s'' hvs hS'' => ?_) fun _ _ h => h
  cases vs with
  | nil => exact hvs.elim
  | cons v2 vs =>
    cases vs with
    | cons _ _ => exact hvs.2.elim
    | nil =>
      obtain ⟨l'', hl''⟩ := id hS''
      obtain ⟨m, F, hm⟩ := hS''.fr
      refine kup_newTuple F hl''.news (fun D h' F' N' hlt => ?_) (Nat.le_trans (Nat.le_of_ble_eq_true rfl : 2 ≤ 1000) (by size_fits))
      refine unpackItemsN_ F' N' (N'.isTup (.head _)) rfl rfl fun h'' F'' N'' => ?_
      refine St.bind (us := us) ho' ⟨l'', hl''.pn, hS''.same, ⟨m, F'', hm⟩, fun q hq => N'' q (.tail _ hq), hl''.above⟩ hvs.1 fun s3 hS3 => ?_
      exact St.bind ho hS3 ha fun s4 hS4 => assignInOrder_nil (hx _ hS4)
theorem Ex.unpack2 (i j : Nat) {x z : PySem.Str} {p q tp : Pos} {e : PySem.Expr} {k : Nat} {R' : Value → List (Addr × Obj) → Prop} (ho : okLoc cs ns i x = true) (ho' : okLoc cs ns j z = true)
    (h : EvG C us nw e (fun v nw' => ∃ n2, R' v n2 ∧ nw' = n2 ++ nw))
    (hr : ∀ v n2, R' v n2 → ∃ (D : Addr) (v1 v2 : Value) (a b : Vl), v = .ref D ∧ (D, tupO [v1, v2]) ∈ n2 ∧ a.Is (some v1) ∧ b.Is (some v2) ∧ Ex C ((us.set i a).set j b) nw rest K)
    (hs : ∀ env, swapsWithSole [.Tuple [.Name x p, .Name z q] k tp] e pos.line env = pure false) (hw : ∀ env, swappedStores [.Tuple [.Name x p, .Name z q] k tp] e env = pure none) :
    Ex C us nw (.Assign [.Tuple [.Name x p, .Name z q] k tp] e pos :: rest) K := fun s hS => by
  refine wpAny_execs_cons (Assign_Tuple (h _ _ _ hS (fun v nw' s' ⟨n2, hr', e1⟩ hS' => ?_) fun _ _ h => h) (hs _) (hw _))
  obtain ⟨D, v1, v2, a, b, rfl, hm, ha, hb, hx⟩ := hr v n2 hr'
  subst e1
  obtain ⟨l', hl'⟩ := id hS'
  obtain ⟨m, F, hf⟩ := hS'.fr
  refine unpackN_ F hl'.news (hl'.news.isTup (List.mem_append_left _ (List.mem_append_left _ hm))) rfl rfl rfl fun h' F' N' => ?_
  have hS2 : St C us (n2 ++ nw) { s' with heap := h' } := ⟨l', hl'.pn, hS'.same, ⟨m, F', hf⟩, N', hl'.above⟩
  exact St.assign ho hS2.drop ha fun s3 hS3 => St.assign ho' hS3 hb fun s4 hS4 => assignInOrder_nil (hx _ hS4)
theorem Ex.unpack3 (i j l : Nat) {x z y : PySem.Str} {p q r tp : Pos} {e : PySem.Expr} {k : Nat} {R' : Value → List (Addr × Obj) → Prop} (ho : okLoc cs ns i x = true) (ho' : okLoc cs ns j z = true) (ho2 : okLoc cs ns l y = true)
    (h : EvG C us nw e (fun v nw' => ∃ n2, R' v n2 ∧ nw' = n2 ++ nw))
    (hr : ∀ v n2, R' v n2 → ∃ (D : Addr) (v1 v2 v3 : Value) (a b c : Vl), v = .ref D ∧ (D, tupO [v1, v2, v3]) ∈ n2 ∧ a.Is (some v1) ∧ b.Is (some v2) ∧ c.Is (some v3) ∧ Ex C (((us.set i a).set j b).set l c) nw rest K)
    (hs : ∀ env, swapsWithSole [.Tuple [.Name x p, .Name z q, .Name y r] k tp] e pos.line env = pure false) (hw : ∀ env, swappedStores [.Tuple [.Name x p, .Name z q, .Name y r] k tp] e env = pure none) :
    Ex C us nw (.Assign [.Tuple [.Name x p, .Name z q, .Name y r] k tp] e pos :: rest) K := fun s hS => by
  refine wpAny_execs_cons (Assign_Tuple (h _ _ _ hS (fun v nw' s' ⟨n2, hr', e1⟩ hS' => ?_) fun _ _ h => h) (hs _) (hw _))
  obtain ⟨D, v1, v2, v3, a, b, c, rfl, hm, ha, hb, hc, hx⟩ := hr v n2 hr'
  subst e1
  obtain ⟨l', hl'⟩ := id hS'
  obtain ⟨m, F, hf⟩ := hS'.fr
  refine unpackN_ F hl'.news (hl'.news.isTup (List.mem_append_left _ (List.mem_append_left _ hm))) rfl rfl rfl fun h' F' N' => ?_
  have hS2 : St C us (n2 ++ nw) { s' with heap := h' } := ⟨l', hl'.pn, hS'.same, ⟨m, F', hf⟩, N', hl'.above⟩
  exact St.assign ho hS2.drop ha fun s3 hS3 => St.assign ho' hS3 hb fun s4 hS4 => St.assign ho2 hS4 hc fun s5 hS5 => assignInOrder_nil (hx _ hS5)
theorem EvG.tup2 {es : List PySem.Expr} {e : PySem.Expr} {k k' : Nat} {p : Pos} {xs : List Vl} {y : Vl} {P : Value → List (Addr × Obj) → Prop} (hl : EvL C us nw es xs) (hz : xs.length ≤ 1000) (he : ∀ nw, Ev C us nw e y)
    (hp : ∀ D D', D < D' → ForA xs (fun vs => ForA [y] (fun ws => P (.ref D') ((D', tupO (.ref D :: ws)) :: (D, tupO vs) :: nw))))
    (hs : ∀ env, starEach [.Tuple es k p, e] env = [(false, eval (.Tuple es k p) env), (false, eval e env)]) (hs' : ∀ env, starEach [e] env = [(false, eval e env)]) : EvG C us nw (.Tuple [.Tuple es k p, e] k' pos) P := fun s Q E hS hQ hE => by
  refine Tuple_ (args_cons (Tuple_ (hl _ _ _ _ hS (fun vs s' hvs hS' => ?_) hE)) (by rw [hs, hs']))
  obtain ⟨l', hl'⟩ := id hS'
  obtain ⟨m, F, hm⟩ := hS'.fr
  refine kup_newTuple F hl'.news (fun D h' F' N' hlt => ?_) (by rw [AllIs.len _ _ hvs]; size_fits)
  have hS2 : St C us ((D, tupO vs) :: nw) { s' with heap := h' } := ⟨l', hl'.pn, hS'.same, ⟨m, F', hm⟩, N', fun q hq p h9 => (List.mem_cons.mp h9).elim (fun e => by rw [e]; exact hlt q (List.mem_append_right _ hq)) (hl'.above q hq p)⟩
  refine EvL.cons (he _) EvL.nil hs' _ _ _ _ hS2 (fun ws s'' hws hS3 => ?_) hE
  obtain ⟨l3, hl3⟩ := id hS3
  obtain ⟨m₂, F₂, hm₂⟩ := hS3.fr
  have hlen := AllIs.len _ _ hws
  refine kup_newTuple F₂ hl3.news (fun D' h'' F'' N'' hlt' => ?_) (by rw [List.length_cons, hlen]; exact Nat.le_trans (Nat.le_of_ble_eq_true rfl : 2 ≤ 1000) (by size_fits))
  refine hQ _ _ _ (forA_of _ (forA_of _ (hp D D' (hlt' _ (.head _))) vs hvs) ws hws) ⟨l3, hl3.pn, hS3.same, ⟨m₂, F'', hm₂⟩, N'', fun q hq p h9 => (List.mem_cons.mp h9).elim (fun e => by rw [e]; exact hlt' q (List.mem_append_right _ hq)) (hl3.above q hq p)⟩
theorem Ex.sub {vs : List Vl} (h : Sub vs us) (hx : Ex C vs nw rest K) : Ex C us nw rest K := fun s hS => hx s (h.st hS)
theorem Ex.iteJ {test : PySem.Expr} {body orelse : List Stmt} {b : Bool} (J : List Vl → List (Addr × Obj) → Prop) (ht : Tst C us nw test b) (h1 : b = true → Ex C us nw body J) (h2 : b = false → Ex C us nw orelse J) (hr : ∀ us' nw', J us' nw' → Ex C us' nw' rest K) :
    Ex C us nw (.If test body orelse pos :: rest) K := by
  have key : ∀ {ss : List Stmt}, Ex C us nw ss J → Ex C us nw ss (fun us' nw' => Ex C us' nw' rest K) := fun h s hS => wpAny_mono (h s hS) (fun f s' hf => by
    cases f with
    | next => obtain ⟨us', nw', hj, hs⟩ := hf; exact ⟨us', nw', hr _ _ hj, hs⟩
    | ret v => exact hf
    | brk => exact hf
    | cont => exact hf) fun _ _ h => h
  exact Ex.ite ht (fun h => key (h1 h)) fun h => key (h2 h)
end

end
section
example : True := by
  w_top off
  trivial
section
variable {cs : Scope} {ns : List PySem.Str} {d u : Nat} {RX : Value → List (Addr × Obj) → Prop} {XX : Int → Prop} {C : Bx cs ns d u RX XX} {us : List Vl} {nw : List (Addr × Obj)} {K : List Vl → List (Addr × Obj) → Prop} {rest body : List Stmt} {pos : Pos}
theorem Ev.gstr {x z : PySem.Str} {t : Tok} (ho : okGlob cs x = true) (hv : nsIn (Mine.hd.heap_39 C.w.params) mainGlobals x = some (some (.str z t))) : Ev C us nw (.Name x pos) (.str z) := (Ev.glob ho hv).weak fun _ h => ⟨t, h⟩
theorem Ev.gint {x : PySem.Str} {z : Int} {t : Tok} (ho : okGlob cs x = true) (hv : nsIn (Mine.hd.heap_39 C.w.params) mainGlobals x = some (some (.int z t))) : Ev C us nw (.Name x pos) (.int z) := (Ev.glob ho hv).weak fun _ h => ⟨t, h⟩
theorem Ev.neg {e : PySem.Expr} {i : Int} (h : Ev C us nw e (.int i)) : Ev C us nw (.UnaryOp .USub e pos) (.int (-i)) := fun s Q E hS hQ hE => by
  refine UnaryOp_ (h _ _ _ hS (fun v s' hv hS' => ?_) hE)
  obtain ⟨t, rfl⟩ := Vl.int_is hv
  exact PyProof.Rows.neg_int (hQ _ _ ⟨_, rfl⟩ (hS'.toks _))
theorem Ev.itemN {n : PySem.Str} {p : Pos} {sl : PySem.Expr} {x : PySem.Str} {i : Int} (ha : Ev C us nw (.Name n p) (.str x)) (hb : Ev C us nw sl (.int i)) (h0 : i < 0) (h1 : -(x.length : Int) ≤ i) (hl : x.length ≤ 1048576)
    (hs : ∀ t i' t', subscripted sl false (.str x t) (.int i' t') = operate [.str x t, .int i' t'] (getItem (.str x t) (.int i' t'))) : Ev C us nw (.Subscript (.Name n p) sl pos) (.str (Txt.item x i)) := fun s Q E hS hQ hE => by
  refine Subscript_ (ha _ _ _ hS (fun v s' hv hS' => hb _ _ _ hS' (fun v' s'' hv' hS'' => ?_) hE) hE)
  obtain ⟨t, rfl⟩ := Vl.str_is hv
  obtain ⟨t', rfl⟩ := Vl.int_is hv'
  refine PyProof.Rows.item_str ?_ h1 (by omega) (fun _ => hQ _ _ ⟨_, rfl⟩ (hS''.toks _)) (hs _ _ _) (by intro _; with_unfolding_all rfl)
  unfold fitsSsize
  simp only [Bool.not_eq_true', Bool.or_eq_false_iff, decide_eq_false_iff_not]
  omega
noncomputable def TstL (C : Bx cs ns d u RX XX) (us : List Vl) (nw : List (Addr × Obj)) (op : BoolOp) (es : List PySem.Expr) (b : Bool) : Prop :=
  ∀ (pos : Pos) (s : Shared) (Q : Bool → Shared → Prop) (E : Value → Shared → Prop) (whole : Sem Value), St C us nw s → (∀ s', St C us nw s' → Q b s') → (∀ e s', C.E e s' → E e s') → wpAny C.M C.A (isTrue (.BoolOp op es pos) C.env whole) Q E s
theorem Tst.l {op : BoolOp} {es : List PySem.Expr} {b : Bool} (h : TstL C us nw op es b) : Tst C us nw (.BoolOp op es pos) b := fun s Q E hS hQ hE => h _ _ _ _ _ hS hQ hE
theorem TstL.nA : TstL C us nw .And [] true := fun _ s Q E _ hS hQ hE => isTrue_and_nil (hQ _ hS)
theorem TstL.nO : TstL C us nw .Or [] false := fun _ s Q E _ hS hQ hE => isTrue_or_nil (hQ _ hS)
theorem TstL.cA {e : PySem.Expr} {es : List PySem.Expr} {a b : Bool} (h : Tst C us nw e a) (h' : a = true → TstL C us nw .And es b) : TstL C us nw .And (e :: es) (a && b) := fun _ s Q E _ hS hQ hE => by
  refine isTrue_and (h _ _ _ hS (fun s' hS' => ?_) hE)
  cases a with
  | false => exact hQ _ hS'
  | true => exact h' rfl _ _ _ _ _ hS' hQ hE
theorem TstL.cO {e : PySem.Expr} {es : List PySem.Expr} {a b : Bool} (h : Tst C us nw e a) (h' : a = false → TstL C us nw .Or es b) : TstL C us nw .Or (e :: es) (a || b) := fun _ s Q E _ hS hQ hE => by
  refine isTrue_or (h _ _ _ hS (fun s' hS' => ?_) hE)
  cases a with
  | true => exact hQ _ hS'
  | false => exact h' rfl _ _ _ _ _ hS' hQ hE
theorem Ev.strI {p : Pos} {e : PySem.Expr} {i : Int} (ho : okBi cs (Str.ofString "str") = true) (hn : nsIn (Mine.hd.heap_39 C.w.params) mainGlobals (Str.ofString "str") = some none) (ha : Ev C us nw e (.int i)) (hi : i.natAbs.log2 < 1920) (he : ∀ env, starEach [e] env = [(false, eval e env)])
    (hcall : ∀ env, eval (.Call (.Name (Str.ofString "str") p) [e] [] pos) env = (do callWith pos (← eval (.Name (Str.ofString "str") p) env) [] (backTo pos (starEach [e] env)) (backToKw pos (keywordEach [] env)))) :
    Ev C us nw (.Call (.Name (Str.ofString "str") p) [e] [] pos) (.str (Str.ofString (toString i))) := fun s Q E hS hQ hE => by
  refine Call_ (Ev.bi (v := .type "str") ho hn rfl _ _ _ hS (fun f' s₁ hf hS₁ => ?_) hE) (hcall _)
  obtain rfl := Vl.val_is hf
  refine Pv.callWith_type1 (EvL.cons ha EvL.nil he _ _ _ _ hS₁ (fun vs s₂ hvs hS₂ => ?_) hE) (he _) rfl
  exact forA_of [.int i] (P := fun vs => wpAny C.M C.A (call (.type "str") vs) Q E s₂) (fun t => P.str_of_int hi (hQ _ _ ⟨_, rfl⟩ (hS₂.toks _))) vs hvs
noncomputable def ExP (C : Bx cs ns d u RX XX) (us : List Vl) (nw : List (Addr × Obj)) (ss : List Stmt) (K : List Vl → List (Addr × Obj) → Prop) : Prop :=
  ∀ s, St C us nw s → s.toks ≠ 0 → wpAny C.M C.A (execs ss C.env) (C.Q K) C.E s
theorem Ex.setP (i : Nat) {x : PySem.Str} {p : Pos} {e : PySem.Expr} {y : Vl} (ho : okLoc cs ns i x = true) (hs : ∀ env, swapsWith e (some (.Name x p)) pos.line env = pure false) (he : Ev C us nw e y) (hr : ExP C (us.set i y) nw rest K) :
    Ex C us nw (.Assign [.Name x p] e pos :: rest) K := fun s hS => by
  refine wpAny_execs_cons (wpAny_Assign_Name (he _ _ _ hS (fun v s' hv hS' => ?_) fun _ _ h => h) (hs _))
  obtain ⟨h1, h2, _⟩ := okLoc_out ho
  obtain ⟨l', hl'⟩ := id hS'
  obtain ⟨m, F, hm⟩ := hS'.fr
  exact storeX_L F hl'.news (fun h' F' N' => hr _ ⟨l', hl'.pn, hS'.same, ⟨_, F', C.store_slots h1 hv hm⟩, N', hl'.above⟩ (Nat.succ_ne_zero _)) C.hk h2
theorem St.locS (i : Nat) {x y : PySem.Str} (ho : okLoc cs ns i x = true) (hu : us[i]? = some (.str y)) (s : Shared) (Q E : Value → Shared → Prop) (hS : St C us nw s) (hQ : ∀ t, Q (.str y t) s) : wpAny C.M C.A (eval (.Name x pos) C.env) Q E s := by
  obtain ⟨h1, h2, h3⟩ := okLoc_out ho
  obtain ⟨m, F, hm⟩ := hS.fr
  obtain ⟨t, ht⟩ := hm i x _ h1 hu
  exact nameX_L F ht (hQ t) C.hk h2 h3
theorem ExP.forRep {α : Type} (k : Nat) (I : Nat → α → Prop) (f : α → List Vl) (c₀ : α) {x : PySem.Str} {p rp ap p1 p2 : Pos} {k1 k2 : Nat} {o : PySem.Expr} {T y z : PySem.Str} {pl : Env → Sem Bool} (ho : okLoc cs ns k x = true) (he : ∀ (s : Shared) (Q E : Value → Shared → Prop), St C us [] s → (∀ t, Q (.str T t) s) → wpAny C.M C.A (eval o C.env) Q E s)
    (hs : ∀ env x, foldedSetIterable (.Call (.Attribute o (Str.ofString "replace") ap) [.Constant (.str y) k1 p1, .Constant (.str z) k2 p2] [] rp) env x = pure x)
    (hc : ∀ env, eval (.Call (.Attribute o (Str.ofString "replace") ap) [.Constant (.str y) k1 p1, .Constant (.str z) k2 p2] [] rp) env = (do
      let ov ← eval o env
      standAt ap.atName
      let (f, first) ← holding [ov] (getMethod ov (Str.ofString "replace") (pl env))
      callWith rp f first (backTo rp (starEach [.Constant (.str y) k1 p1, .Constant (.str z) k2 p2] env)) []))
    (hyz : (y == z) = false) (hT : T.length ≤ 1048576) (hz : z.length ≤ 14) (h0 : I 0 c₀) (hsub : Sub (f c₀) us)
    (turn : ∀ i c n, (Txt.replace T y z).cps.toList[i]? = some n → I i c → ∀ C' : Bx cs ns d u RX XX, C'.w = C.w → Ex C' ((f c).set k (.str ⟨#[n]⟩)) [] body (fun us' nw' => nw' = [] ∧ ∃ c', I (i + 1) c' ∧ Sub (f c') us'))
    (exit : ∀ c, I (Txt.replace T y z).length c → Ex C (f c) [] rest K) : ExP C us [] (.For (.Name x p) (.Call (.Attribute o (Str.ofString "replace") ap) [.Constant (.str y) k1 p1, .Constant (.str z) k2 p2] [] rp) body [] pos :: rest) K := fun s hS htk => by
  refine Ex.forS_at k I f c₀ ho hs h0 hsub turn exit hS fun Q E hQ hE => ?_
  refine MethodCall_ (he _ _ _ hS fun t => ?_) (hc _)
  refine PySem.GM.replace (callWith_method1 (args_cons (Calls.Constant_str (args_cons (Calls.Constant_str (args_nil ?_)))) rfl) rfl rfl)
  exact PySem.SC.replaceW htk (Nat.succ_ne_zero _) (Nat.ne_of_lt (Nat.lt_succ_self _)) hyz hT hz fun t' k => hQ _ _ ⟨t', rfl⟩ (hS.toks _)
end

end
section
open LCg
variable {prog : Program} {w : World} {A : Around} {h₀ : Heap} {L : Addr} {m : Str → Option Value} {env : Env} {s : Shared} {E : Value → Shared → Prop}
noncomputable def SrcD (prog : Program) (w : World) (A : Around) (h₀ : Heap) (L : Addr) (m : Str → Option Value) (env : Env) (elt : Expr) (x : Str) (scope : Scope) (cl : List (Str × Addr)) (Fin : Shared → List Value → List (Addr × Obj) → Prop) (xv : Value) (s₁ : Shared) : Prop :=
  ∃ r a b c t u v n news, xv = .ref r ∧ A.handled = none ∧ Fr h₀ L s₁.heap m ∧ News h₀ L s₁.heap news ∧ IsRange s₁.heap r a b c t u v ∧ Builtin.Range.small a b c = true ∧ Builtin.Range.rangeSize a b c = ((n : Nat) : Int) ∧ n ≤ sizeLine ∧
    ∀ s₂ : Shared, (∃ h, s₂ = { s₁ with heap := h }) → CompRest prog w A h₀ L m env elt x scope cl s₂ (fun _ => True) (fun i v => ∃ t, v = .int (a + (i : Int) * c) t) (Fin s₂) n 0 [] news
theorem SrcD.range {elt : Expr} {x : Str} {scope : Scope} {cl : List (Str × Addr)} {Fin : Shared → List Value → List (Addr × Obj) → Prop} {r : Addr} {a b c : Int} {t u v : Tok} {n : Nat} {news : List (Addr × Obj)} {s₁ : Shared}
    (hh : A.handled = none) (F : Fr h₀ L s₁.heap m) (N : News h₀ L s₁.heap news) (hr : IsRange s₁.heap r a b c t u v) (hsm : Builtin.Range.small a b c = true) (hn : Builtin.Range.rangeSize a b c = ((n : Nat) : Int)) (hsz : n ≤ sizeLine)
    (h : ∀ g, CompRest prog w A h₀ L m env elt x scope cl { s₁ with heap := g } (fun _ => True) (fun i v => ∃ t, v = .int (a + (i : Int) * c) t) (Fin { s₁ with heap := g }) n 0 [] news) :
    SrcD prog w A h₀ L m env elt x scope cl Fin (.ref r) s₁ := ⟨r, a, b, c, t, u, v, n, news, rfl, hh, F, N, hr, hsm, hn, hsz, fun _ ⟨g, e⟩ => e ▸ h g⟩
theorem range_stD {I : Addr} {a c : Int} {n : Nat} : ∀ i (h h' : Heap) (o : Obj) (nw : List (Addr × Obj)), IsRangeIter h I (a + (i : Nat) * c) ((n : Int) - (i : Nat)) c → h.get? I = some o → h'.get? I = some o → (∀ b o, h₀.get? b = some o → h'.get? b = some o) → News h₀ L h' nw → True → IsRangeIter h' I (a + (i : Nat) * c) ((n : Int) - (i : Nat)) c :=
  fun i h h' o nw st e e' _ _ _ => by
    have st' : h.get? I = some _ := st
    show h'.get? I = some _
    rw [e', ← e]; exact st'
theorem Assign_ListComp_E {elt iter : Expr} {x y : Str} {px py : Pos} {scope : Scope} {cl : List (Str × Addr)} {pos spos : Pos} {Q : Flow → Shared → Prop}  (hLe : env.locals = L)
    (hsw : swapsWith (.ListComp elt [⟨.Name x px, iter, [], 0⟩] scope pos) (some (.Name y py)) spos.line env = pure true)
    (hclos : closureFor scope env = pure cl) (hcell : ∀ z ∈ scope.names, z.2 ≠ .cell) (hkind : scope.kind = .function)
    (hnames : ∀ z ∈ scope.names, z.2 = .local → scope.names.lookup z.1 = some .local) (hx : scope.names.lookup x = some .local)
    (hy : env.kindOf y = some .local) (hp : (env.scope.kind == .class || (env.scope.kind == .module && env.locals != env.globals)) = false)
    (h : wpAny (model prog w) A (eval iter env) (fun xv s₁ => ∃ m, SrcD prog w A h₀ L m env elt x scope cl (fun s₂ => FinA h₀ L m s₂ y Q) xv s₁) E s)
    (hs : ∀ x, foldedSetIterable iter env x = pure x) :
    wpAny (model prog w) A (exec (.Assign [.Name y py] (.ListComp elt [⟨.Name x px, iter, [], 0⟩] scope pos) spos) env) Q E s := by
  subst hLe
  rw [exec_Assign_Name_used _ _ _ _ hsw]
  refine wpAny_bind (wpAny_standAt (wpAny_bind ?_))
  show wpAny _ A (do let _ ← comprehension (.ListComp elt [⟨.Name x px, iter, [], 0⟩] scope pos) scope env _ (newList []) false (eval iter env) (some (assign (.Name y py) env))) _ _ s
  refine wpAny_bind (wpAny_mono (wpAny_comprehension_free (use := some (assign (.Name y py) env)) (Q := fun _ s' => Q .next s') rfl hs hclos hkind hnames
    (wpAny_mono h (fun xv s₁ h₁ => ?_) fun _ _ e => e)) (fun _ s' hq => wpAny_pure (wpAny_pure hq)) fun _ _ e => e)
  obtain ⟨m, r, a, b, c, t, u, v, n, news, rfl, hh, F, N, hr, hsm, hn, hsz, R⟩ := h₁
  refine wpAny_pyIter_range hr hsm ?_
  refine block_U (Walks.range hh s₁.heap.objs.size a c n) hsz (fun i h st => ⟨_, st⟩) range_stD hcell hkind hx (by show IsRangeIter _ _ _ _ _; rw [hn]; simpa using Heap.get?_push_size _ rfl) (fun b hb => ?_)
    (F.keeps fun _ _ e => Heap.get?_push_of_some _ e) (N.grown fun _ _ e => Heap.get?_push_of_some _ e) (Nat.ne_of_lt F.ns.lt) (next_is_new F) (fun p hp => Nat.ne_of_lt (Heap.lt_size (N p hp).1)) trivial (R _ ⟨_, rfl⟩) ?_
  · rw [List.mem_singleton.mp hb]
    show s₁.heap.objs.size < (s₁.heap.push _).objs.size
    rw [Heap.size_push]; exact Nat.lt_succ_self _
  · intro D C h' tk m' ys news' F' N' o1 hn hC₀ hD₀ hCL hDL hCD offC fin
    show wpAny _ A (assign (.Name y py) env (.ref D)) _ _ _
    refine wpAny_assign_Name (wpAny_storeName_local hy F'.ns (fun h₂ hn₂ hs₂ => ?_) hp)
    have hL₀ : h₀.get? env.locals = none := Heap.get?_none_of_le F'.above
    have F₂ : Fr h₀ env.locals h₂ (fun z => if z = y then some (.ref D) else m z) := ⟨hn₂, fun b o e => hs₂.extBut b o (fun q => by rw [q, hL₀] at e; cases e) (F'.keep b o e), F'.above⟩
    refine ⟨m', hn.sameBut hs₂ hCL, fun h'' hs'' => fin D h'' _ (F₂.change hs'' hCL hC₀) (fun p hp => ?_) o1⟩
    have z : h₂.get? p.1 = some p.2 := hs₂.extBut _ _ (N' p hp).2.1 (N' p hp).1
    refine ⟨hs''.extBut _ _ ?_ z, (N' p hp).2⟩
    rcases List.mem_cons.mp hp with rfl | hp
    · exact Ne.symm hCD
    · exact offC p hp
theorem Assign_ListComp_D {elt iter : Expr} {x y : Str} {px py : Pos} {scope : Scope} {cl : List (Str × Addr)} {pos spos : Pos} {Q : Flow → Shared → Prop} (F₀ : Fr h₀ L s.heap m) (hLe : env.locals = L)
    (hsw : swapsWith (.ListComp elt [⟨.Name x px, iter, [], 0⟩] scope pos) (some (.Name y py)) spos.line env = pure true)
    (hclos : closureFor scope env = pure cl) (hcell : ∀ z ∈ scope.names, z.2 ≠ .cell) (hkind : scope.kind = .function)
    (hnames : ∀ z ∈ scope.names, z.2 = .local → scope.names.lookup z.1 = some .local) (hx : scope.names.lookup x = some .local)
    (hy : env.kindOf y = some .local) (hp : (env.scope.kind == .class || (env.scope.kind == .module && env.locals != env.globals)) = false)
    (h : wpAny (model prog w) A (eval iter env) (SrcD prog w A h₀ L m env elt x scope cl (fun s₂ => FinA h₀ L m s₂ y Q)) E s)
    (hs : ∀ x, foldedSetIterable iter env x = pure x) :
    wpAny (model prog w) A (exec (.Assign [.Name y py] (.ListComp elt [⟨.Name x px, iter, [], 0⟩] scope pos) spos) env) Q E s :=
  Assign_ListComp_E hLe hsw hclos hcell hkind hnames hx hy hp (wpAny_mono h (fun _ _ h => ⟨m, h⟩) fun _ _ e => e) hs

end
section
example : True := by
  w_top off
  trivial
theorem comp_inv {prog : Program} {w : World} {A : Around} {h₀ : Heap} {L : Addr} {m : PySem.Str → Option Value} {env : Env} {elt : Expr} {x : PySem.Str} {scope : Scope} {cl : List (PySem.Str × Addr)} {s : Shared} {S : List (Addr × Obj) → Prop} {P : Nat → Value → Prop} {Fin : List Value → List (Addr × Obj) → Prop} {n : Nat} {news : List (Addr × Obj)}
    (Inv : Nat → List Value → List (Addr × Obj) → Prop) (h0 : Inv 0 [] news)
    (turn : ∀ i ys nw v I oI C oC D m₂ h tk (E' : Value → Shared → Prop), i < n → Inv i ys nw → P i v → LCg.NsObj oC m₂ → m₂ x = some v → Fr h₀ L h m → News h₀ L h ((I, oI) :: (C, oC) :: (D, LCg.lst ys) :: nw) → LCg.Off3 I C D nw → ((@Ne Nat I C) ∧ (@Ne Nat I D) ∧ (@Ne Nat C D)) →
      wpAny (model prog w) A (eval elt (compEnvC scope cl C env)) (LCg.CompEnd h₀ L m { s with heap := h, toks := tk } I oI C oC D (LCg.lst ys) S (fun y nw' => Inv (i + 1) (ys ++ [y]) nw')) E' { s with heap := h, toks := tk })
    (fin : ∀ ys nw, Inv n ys nw → Fin ys nw) : LCg.CompRest prog w A h₀ L m env elt x scope cl s S P Fin n 0 [] news := by
  have key : ∀ (j i : Nat) (ys : List Value) (nw : List (Addr × Obj)), i + j = n → Inv i ys nw → LCg.CompRest prog w A h₀ L m env elt x scope cl s S P Fin j i ys nw := by
    intro j
    induction j with
    | zero => intro i ys nw hi hv; exact LCg.CompRest.zero (fin ys nw (by rw [Nat.add_zero] at hi; exact hi ▸ hv))
    | succ j ih =>
      intro i ys nw hi hv
      refine LCg.CompRest.succ ?_
      intro v I oI C oC D m₂ h tk E' hP hC hx F N off ne
      refine wpAny_mono (turn i ys nw v I oI C oC D m₂ h tk E' (by omega) hv hP hC hx F N off ne) (fun y s₂ hq => ?_) fun _ _ e => e
      obtain ⟨h', tk', nw', e, F', N', off', hS, hI⟩ := hq
      exact ⟨h', tk', nw', e, F', N', off', hS, ih (i + 1) _ _ (by omega) hI⟩
  exact key n 0 [] news (by omega) h0
section
variable {cs : Scope} {ns : List PySem.Str} {d u : Nat} {RX : Value → List (Addr × Obj) → Prop} {XX : Int → Prop} {C : Bx cs ns d u RX XX} {us : List Vl} {nw : List (Addr × Obj)} {K : List Vl → List (Addr × Obj) → Prop} {rest : List Stmt} {pos : Pos}
theorem Ev.fdiv {l r : PySem.Expr} {i j : Int} (ha : Ev C us nw l (.int i)) (hb : Ev C us nw r (.int j)) (h0 : 0 < j) (h1 : j < 1073741824) : Ev C us nw (.BinOp l .FloorDiv r pos) (.int (i / j)) := Ev.op (fun s Q E t t' h => PyProof.Rows.floordiv_int (Int.ne_of_gt h0) (by rw [Int.fdiv_eq_ediv_of_nonneg _ (Int.le_of_lt h0)]; exact h) (.inl (PyProof.noPylong_small (by omega)))) ha hb
theorem Ev.fmod {l r : PySem.Expr} {i j : Int} (ha : Ev C us nw l (.int i)) (hb : Ev C us nw r (.int j)) (h0 : 0 < j) : Ev C us nw (.BinOp l .Mod r pos) (.int (i % j)) := Ev.op (fun s Q E t t' h => PyProof.Rows.mod_int' (Int.ne_of_gt h0) (by rw [Int.fmod_eq_emod_of_nonneg _ (Int.le_of_lt h0)]; exact h)) ha hb
noncomputable def Bx.Has (C : Bx cs ns d u RX XX) (nw : List (Addr × Obj)) (q : Addr × Obj) : Prop := q ∈ nw ∨ ∀ l, C.Pn l → q ∈ l
theorem Bx.Has.at {q : Addr × Obj} (h : C.Has nw q) {l : List (Addr × Obj)} (hl : C.Pn l) : q ∈ nw ++ l := h.elim (fun h => List.mem_append_left _ h) fun h => List.mem_append_right _ (h l hl)
theorem Bx.Has.own {own : List (Addr × Obj)} {q : Addr × Obj} (h : q ∈ own) : (C.more own).Has nw q := .inr fun _ ⟨_, _, e⟩ => e ▸ List.mem_append_right _ h
theorem Ev.cel {x : PySem.Str} {c : Addr} {o : Obj} {v : Value} {y : Vl} (h : cs.names.lookup x = some .cell) (hb : (x == Str.ofString "__debug__") = false) (hc : C.cl.lookup x = some c) (hm : C.Has nw (c, o)) (ho : o.data = .cell (some v)) (hy : y.Is (some v)) : Ev C us nw (.Name x pos) y := fun s Q E hS hQ hE => by
  obtain ⟨l, hl⟩ := id hS
  exact nameX_C hl.news hc (hm.at hl.pn) ho (hQ _ _ hy hS) C.hk h hb
theorem St.more {own : List (Addr × Obj)} {s : Shared} (h : St (C.more own) us nw s) : St C us nw s := by
  obtain ⟨_, ⟨l, hl, rfl⟩, hs, hf, hn, ha⟩ := h
  exact ⟨l, hl, hs, hf, fun q hq => hn q ((List.mem_append.mp hq).elim (fun h => List.mem_append_left _ h) fun h => List.mem_append_right _ (List.mem_append_left _ h)), fun q hq => ha q (List.mem_append_left _ hq)⟩
theorem more_out {own : List (Addr × Obj)} {s : Shared} {t : Sem Flow} (h : wpAny C.M C.A t ((C.more own).Q K) (C.more own).E s) : wpAny C.M C.A t (C.Q K) C.E s :=
  wpAny_mono h (fun f s' hf => by
    cases f with
    | next => obtain ⟨us', nw', hk, hs⟩ := hf; exact ⟨us', nw', hk, hs.more⟩
    | ret v => obtain ⟨us', nw', hk, hs⟩ := hf; exact ⟨us', nw', hk, hs.more⟩
    | brk => exact hf
    | cont => exact hf) fun e s' hf => wpAny_mono hf (fun _ s'' h' => by
      obtain ⟨x', sp, e1, hx', hs, _, ⟨l', hl', rfl⟩, R⟩ := h'
      exact ⟨x', sp, e1, hx', hs, l', hl', R.weaken fun q hq => List.mem_append_left _ hq⟩) fun _ _ h => h
theorem Ex.retP {e : PySem.Expr} {P : Value → List (Addr × Obj) → Prop} (he : EvG C us nw e P) (hp : ∀ v nw', P v nw' → ∃ n2 n3, RX v n2 ∧ nw' = n2 ++ n3) : Ex C us nw (.Return (some e) pos :: rest) K := fun s hS =>
  wpAny_execs_cons (wpAny_Return_some (he _ _ _ hS (fun v nw' s' hv hS' => by
    obtain ⟨n2, n3, hr, rfl⟩ := hp v nw' hv
    obtain ⟨l, hl⟩ := id hS'
    exact ⟨us, n2, hr, l, hl.pn, hl.same, hl.fr, fun q hq => hl.news q ((List.mem_append.mp hq).elim (fun h => List.mem_append_left _ (List.mem_append_left _ h)) fun h => List.mem_append_right _ h), fun q hq p hp => hl.above q hq p (List.mem_append_left _ hp)⟩) fun _ _ h => h))
noncomputable def EvRngS (C : Bx cs ns d u RX XX) (us : List Vl) (nw : List (Addr × Obj)) (e : PySem.Expr) (a b c : Int) : Prop := ∀ (s : Shared) (Q E : Value → Shared → Prop), St C us nw s → (∀ r t v w s', IsRange s'.heap r a b c t v w → St C us nw s' → Q (.ref r) s') → (∀ e s', C.E e s' → E e s') → wpAny C.M C.A (eval e C.env) Q E s
theorem g_rangeC (w : World) : nsIn (Mine.hd.heap_39 w.params) mainGlobals (Str.ofString "range") = some none := by k_is
theorem EvRngS.three {p : Pos} {e e' e2 : PySem.Expr} {a b c : Int} (ho : okBi cs (Str.ofString "range") = true) (h1 : Ev C us nw e (.int a)) (h2 : Ev C us nw e' (.int b)) (h3 : Ev C us nw e2 (.int c)) (hc : c ≠ 0) (hp : Builtin.divisionGoesByPylong (b - a) c = false)
    (he : ∀ env, starEach [e, e', e2] env = (false, eval e env) :: starEach [e', e2] env) (he' : ∀ env, starEach [e', e2] env = (false, eval e' env) :: starEach [e2] env) (he2 : ∀ env, starEach [e2] env = (false, eval e2 env) :: starEach [] env) (hpl : ∀ env, (backTo pos (starEach [e', e2] env)).any (·.1) = false)
    (hcall : ∀ env, eval (.Call (.Name (Str.ofString "range") p) [e, e', e2] [] pos) env = (do callWith pos (← eval (.Name (Str.ofString "range") p) env) [] (backTo pos (starEach [e, e', e2] env)) (backToKw pos (keywordEach [] env)))) : EvRngS C us nw (.Call (.Name (Str.ofString "range") p) [e, e', e2] [] pos) a b c := fun s Q E hS hQ hE => by
  refine Call_ (Ev.bi ho (g_rangeC _) (rfl : bootBuiltins (Str.ofString "range") = some (.type "range")) _ _ _ hS (fun f' s₁ hf hS₁ => ?_) hE) (hcall _)
  obtain rfl := Vl.val_is hf
  refine PySem.Pv.callWith_type1 (EvL.cons h1 (EvL.cons h2 (EvL.cons h3 EvL.nil he2) he') he _ _ _ _ hS₁ (fun vs s₂ hvs hS₂ => ?_) hE) (he _) (hpl _)
  refine forA_of [.int a, .int b, .int c] (P := fun vs => wpAny C.M C.A (call (.type "range") vs) Q E s₂) (fun t t' t2 => ?_) vs hvs
  obtain ⟨l, hl⟩ := id hS₂
  obtain ⟨m, F, hm⟩ := hS₂.fr
  exact range3_rows F hl.news hc (fun h' tk t₁ u₁ v₁ R F' N' _ => hQ _ _ _ _ _ R ⟨l, hl.pn, hl.same, ⟨m, F', hm⟩, N', hl.above⟩) (Or.inl hp)
theorem Ex.compD (i : Nat) {y x : PySem.Str} {py px : Pos} {elt iter : PySem.Expr} {scope : Scope} {cl : List (PySem.Str × Addr)} {cpos : Pos} {a b c : Int} {n : Nat} (Inv : Nat → List Value → Prop) (hoy : okLoc cs ns i y = true)
    (hsw : swapsWith (.ListComp elt [⟨.Name x px, iter, [], 0⟩] scope cpos) (some (.Name y py)) pos.line C.env = pure true) (hclos : closureFor scope C.env = pure cl) (hcell : ∀ z ∈ scope.names, z.2 ≠ .cell) (hkind : scope.kind = .function)
    (hnames : ∀ z ∈ scope.names, z.2 = .local → scope.names.lookup z.1 = some .local) (hx : scope.names.lookup x = some .local) (he : EvRngS C us nw iter a b c) (hsm : Builtin.Range.small a b c = true) (hn : Builtin.Range.rangeSize a b c = ((n : Nat) : Int)) (hz : n ≤ 1000) (h0 : Inv 0 [])
    (turn : ∀ j ys v I oI Cc oC D m₂ h tk l m (s : Shared) (E' : Value → Shared → Prop), j < n → Inv j ys → (∃ t, v = .int (a + (j : Int) * c) t) → LCg.NsObj oC m₂ → m₂ x = some v → C.Pn l → Fr C.h₀ C.L h m → News C.h₀ C.L h ((I, oI) :: (Cc, oC) :: (D, LCg.lst ys) :: (nw ++ l)) → LCg.Off3 I Cc D (nw ++ l) →
      wpAny C.M C.A (eval elt (compEnvC scope cl Cc C.env)) (LCg.CompEnd C.h₀ C.L m { s with heap := h, toks := tk } I oI Cc oC D (LCg.lst ys) (fun _ => True) (fun v nw' => Inv (j + 1) (ys ++ [v]) ∧ nw' = nw ++ l)) E' { s with heap := h, toks := tk })
    (hr : ∀ ys D, Inv n ys → Ex (C.more ((D, LCg.lst ys) :: nw)) (us.set i (.val (.ref D))) [] rest K) (hs : ∀ env x, foldedSetIterable iter env x = pure x) :
    Ex C us nw (.Assign [.Name y py] (.ListComp elt [⟨.Name x px, iter, [], 0⟩] scope cpos) pos :: rest) K := fun s hS => by
  obtain ⟨h1, h2, _⟩ := okLoc_out hoy
  refine wpAny_execs_cons (Assign_ListComp_E (h₀ := C.h₀) (L := C.L) rfl hsw hclos hcell hkind hnames hx h2 (by show (cs.kind == .class || (cs.kind == .module && C.L != mainGlobals)) = false; rw [C.hk]; rfl) (he _ _ _ hS (fun r t v w s' hR hS' => ?_) fun _ _ h => h) (hs _))
  obtain ⟨l, hl⟩ := id hS'
  obtain ⟨m, F, hm⟩ := hS'.fr
  refine ⟨m, SrcD.range rfl F hl.news hR hsm hn (Nat.le_trans hz (by rw [sizeLine_eq]; decide)) fun g => ?_⟩
  refine comp_inv (fun j ys nw' => Inv j ys ∧ nw' = nw ++ l) ⟨h0, rfl⟩ (fun j ys nw' v I oI Cc oC D m₂ h tk E' hj hI hP hC hxv F' N' off ne => ?_) fun ys nw' hI => ?_
  · obtain ⟨hI, rfl⟩ := hI
    exact turn j ys v I oI Cc oC D m₂ h tk l m _ E' hj hI hP hC hxv hl.pn F' N' off
  · obtain ⟨hI, rfl⟩ := hI
    intro D h tk F' N' off
    refine more_out (own := (D, LCg.lst ys) :: nw) (hr ys D hI _ ⟨l ++ (D, LCg.lst ys) :: nw, ⟨l, hl.pn, rfl⟩, hS'.same, ⟨_, F', C.store_slots h1 rfl hm⟩, fun q hq => N' q ?_, fun _ _ _ h => nomatch h⟩)
    rcases List.mem_append.mp hq with hq | hq
    · cases hq
    · rcases List.mem_append.mp hq with hq | hq
      · exact .tail _ (List.mem_append_right _ hq)
      · rcases List.mem_cons.mp hq with rfl | hq
        · exact .head _
        · exact .tail _ (List.mem_append_left _ hq)
theorem Ev.pow {l r : PySem.Expr} {a n : Int} (ha : Ev C us nw l (.int a)) (hb : Ev C us nw r (.int n)) (hn : 0 ≤ n) (hn2 : n ≤ 1000000) (h64 : a.natAbs < 2 ^ 64) : Ev C us nw (.BinOp l .Pow r pos) (.int (a ^ n.toNat)) := Ev.op (fun _ _ _ _ _ h => PyProof.Rows.pow_int_small hn hn2 h64 h) ha hb
theorem Ev.ifI {c e1 e2 : PySem.Expr} {b : Bool} {x y : Int} (ht : Tst C us nw c b) (h1 : Ev C us nw e1 (.int x)) (h2 : Ev C us nw e2 (.int y)) : Ev C us nw (.IfExp c e1 e2 pos) (.int (if b = true then x else y)) := Ev.ife ht (fun h => by rw [if_pos h]; exact h1) fun h => by rw [if_neg (by rw [h]; exact Bool.false_ne_true)]; exact h2
end
theorem Ctr.of_bodyC {w : World} {f : Addr} {vs : List Value} {d u : Nat} {led : List (Addr × Obj)} {RX : Value → List (Addr × Obj) → Prop}
    {name qual : PySem.Str} {params : Arguments} {body : List Stmt} {cs : Scope} {dV kV doc pm cdv ct oc : Value} {an od : Option Addr} {osl : Array (Option Value)} {binds : List (PySem.Str × Value)} (ns : List PySem.Str) (us : List Vl)
    (ho : (Mine.hd.heap_39 w.params).lookup f = some ⟨oc, od, .func (fnOf name qual params body cs dV kV doc pm an cdv ct), osl⟩) (hcd : codeIn (Mine.hd.heap_39 w.params) cdv qual = true)
    (hbind : bindArgs (fnOf name qual params body cs dV kV doc pm an cdv ct) ⟨vs, []⟩ = pure binds) (hkind : (binds.all fun y => cs.names.lookup y.1 == some .local || cs.names.lookup y.1 == some .cell) = true)
    (hndc : ((cellsFrom 0 cs.names []).map (·.1)).Nodup) (hnd : ns.Nodup) (x : PySem.Str) (hone : ∀ k, cellsFrom k cs.names [] = [(x, k)])
    (hus : ∀ (L : Addr) (i : Nat) (x : PySem.Str) (u : Vl), ns[i]? = some x → us[i]? = some u → u.Is (bindL (envOfC qual cs L f cdv).kindOf binds (fun _ => none) x))
    (hco : cs.isCoroutine = false) (hgen : cs.isGenerator = false) (hk : cs.kind = .function)
    (hb : ∀ (C : Bx cs ns d u RX (fun _ => False)) (o : Obj), C.w = w → C.cl = [(x, C.L + 1)] → o.data = .cell (bindC (envOfC qual cs C.L f cdv).kindOf binds (fun _ => none) x) → Ex C us [(C.L + 1, o)] body (fun _ nw => ∃ n2 n3, RX .none n2 ∧ nw = n2 ++ n3)) : Ctr w f vs (d + 1) (u + 3) led RX (fun _ => False) := by
  intro p loose mean mg mb dp un gd cn cs' a ccd cl outer A₀ base h₀ L m news s Q E B F X N T hk' hd hu hled hret hexc
  refine wpAny_call ?_
  refine code_defC B F X N T rfl rfl hk' ho hcd (Nat.lt_of_le_of_lt (Nat.le_add_right _ _) hd) (BindsTo.of_eq hbind) hkind hndc (fun g L' h₁ tk cells FG F' N' Y B' X' T' hlt => ?_) hco hgen hk
  have hd' : dp + 1 + d < recursionLimit := by omega
  have hu' : un + 3 + u < cLine := by omega
  rw [hone] at Y
  obtain ⟨o, rfl, ho9⟩ := Y.one
  let C : Bx cs ns d u RX (fun _ => False) := ⟨w, p, loose, mean, mg, mb, dp + 1, un + 3, gd, qual, L', f, cdv, envX cn cs' L a ccd cl :: outer, ktrTop dp un gd cn cs' L a ccd cl outer, base, g, (news = ·), s, [(x, L' + 1)], .inl fun _ h => h, B', X', T', hk, hd', hu', hnd, fun _ _ h h' => h ▸ h' ▸ rfl⟩
  have hst : St C us [(L' + 1, o)] { s with heap := h₁, toks := tk } := ⟨news, rfl, ⟨rfl, rfl, rfl⟩, ⟨_, F', hus L'⟩, N', fun q hq p hp => by rw [List.mem_singleton.mp hp]; exact Nat.lt_succ_of_lt (hlt q hq)⟩
  have h1 := hb C o rfl rfl ho9 _ hst
  have he : envOfC qual cs L' f cdv = envX qual cs L' f cdv [(x, L' + 1)] := by rw [← hone]; rfl
  rw [he]
  show wpAny (model PySem.Challenge.pw_pf0076_01 w) (ktrTop (dp + 1) (un + 3) gd qual cs L' f cdv [(x, L' + 1)] (envX cn cs' L a ccd cl :: outer)) _ _ _ _
  refine wpAny_mono h1 (fun fl s' h => ?_) (fun e s' h => ?_)
  · have key : ∀ v us nw, RX v nw → St C us nw s' → LeaveK h₀ L m g (fun r s' => match r with | .ok (.ret v) => Q v s' | .ok _ => False | .error e => E e s') v s' := fun v us nw hr hs => by
      obtain ⟨_, rfl, hsame, ⟨m', Fm', _⟩, hn, hab⟩ := hs
      refine leaveK_ Fm' hn fun F9 N9 => ?_
      have h9 := hret v nw s'.heap s'.toks hr F9 N9 hab
      rw [hsame.eq]
      exact h9
    cases fl with
    | next =>
      obtain ⟨us', nw, ⟨n2, n3, hr, rfl⟩, l, hl⟩ := h
      exact key _ us' n2 hr ⟨l, hl.pn, hl.same, hl.fr, fun q hq => hl.news q ((List.mem_append.mp hq).elim (fun h => List.mem_append_left _ (List.mem_append_left _ h)) fun h => List.mem_append_right _ h), fun q hq p hp => hl.above q hq p (List.mem_append_left _ hp)⟩
    | ret v => obtain ⟨us', nw, hr, hs⟩ := h; exact key _ _ _ hr hs
    | brk => exact h.elim
    | cont => exact h.elim
  · refine wpAny_mono h (fun _ s'' h' => ?_) (fun _ _ h' => h'.elim)
    obtain ⟨x, sp, rfl, hx, _⟩ := h'
    exact hx.elim

end
section
example : True := by
  w_top off
  trivial
noncomputable def octs (i : Int) : List Int :=
  if i < 128 then [i] else if i < 2048 then [192 + i / 64, 128 + i % 64] else if i < 65536 then [224 + i / 4096, 128 + i / 64 % 64, 128 + i % 64]
  else [240 + i / 262144, 128 + i / 4096 % 64, 128 + i / 64 % 64, 128 + i % 64]
theorem b64 (x : Int) : 0 ≤ 128 + x % 64 ∧ 128 + x % 64 < 256 := by omega
theorem hd_in {k i b c : Int} (h0 : 0 ≤ i) (hb : 0 < b) (hi : i < c * b) (hk : 0 ≤ k) (hc : k + c ≤ 256) : 0 ≤ k + i / b ∧ k + i / b < 256 :=
  ⟨Int.add_nonneg hk (Int.ediv_nonneg h0 (Int.le_of_lt hb)), Int.lt_of_lt_of_le (Int.add_lt_add_left (Int.ediv_lt_of_lt_mul hb hi) k) hc⟩
theorem octs_in {i : Int} (h0 : 0 ≤ i) (h1 : i ≤ 1114111) : ∀ n ∈ octs i, 0 ≤ n ∧ n < 256 := by
  unfold octs
  split
  · rename_i h
    simp only [List.forall_mem_cons, List.not_mem_nil, false_implies, implies_true, and_true]
    exact ⟨h0, Int.lt_trans h (by decide)⟩
  · split
    · rename_i h
      simp only [List.forall_mem_cons, List.not_mem_nil, false_implies, implies_true, and_true]
      exact ⟨hd_in (c := 32) h0 (by decide) h (by decide) (by decide), b64 _⟩
    · split
      · rename_i h
        simp only [List.forall_mem_cons, List.not_mem_nil, false_implies, implies_true, and_true]
        exact ⟨hd_in (c := 16) h0 (by decide) h (by decide) (by decide), b64 _, b64 _⟩
      · simp only [List.forall_mem_cons, List.not_mem_nil, false_implies, implies_true, and_true]
        exact ⟨hd_in (c := 5) h0 (by decide) (Int.lt_of_le_of_lt h1 (by decide)) (by decide) (by decide), b64 _, b64 _, b64 _⟩
theorem right_le {i : Int} (h : rightI i = true) : i ≤ 1114111 := by
  unfold rightI at h
  simp only [Bool.and_eq_true, Bool.or_eq_true, decide_eq_true_eq, Bool.not_eq_true', decide_eq_false_iff_not] at h
  omega
noncomputable def bts (ns : List Int) : Array UInt8 := (ns.map fun n => n.toNat.toUInt8).toArray
inductive RBytes (ns : List Int) : Value → List (Addr × Obj) → Prop
  | mk (t : Tok) : RBytes ns (.bytes (bts ns) t) []
section
variable {cs : Scope} {ns : List PySem.Str} {d u : Nat} {RX : Value → List (Addr × Obj) → Prop} {XX : Int → Prop} {C : Bx cs ns d u RX XX} {us : List Vl} {nw : List (Addr × Obj)} {K : List Vl → List (Addr × Obj) → Prop} {rest body : List Stmt} {pos : Pos}
theorem ints_of : ∀ (ys : List Int) (vs : List Value), AllIs (ys.map Vl.int) vs → IntsAre vs ys := fun ys => by
  induction ys with
  | nil => intro vs h; cases vs with | nil => exact .nil | cons _ _ => exact h.elim
  | cons y ys ih => intro vs h; cases vs with | nil => exact h.elim | cons v vs => obtain ⟨t, rfl⟩ := Vl.int_is h.1; exact .cons _ _ (ih vs h.2)
theorem EvG.bytesL {p lp : Pos} {es : List PySem.Expr} {P : Value → List (Addr × Obj) → Prop} (ys : List Int) (ho : okBi cs (Str.ofString "bytes") = true) (hn : nsIn (Mine.hd.heap_39 C.w.params) mainGlobals (Str.ofString "bytes") = some none) (hl : EvL C us nw es (ys.map Vl.int)) (hr : ∀ n ∈ ys, 0 ≤ n ∧ n < 256) (hz : ys.length ≤ 1000) (hp : ∀ t, P (.bytes (bts ys) t) nw)
    (he : ∀ env, starEach [.List es lp] env = [(false, eval (.List es lp) env)])
    (hcall : ∀ env, eval (.Call (.Name (Str.ofString "bytes") p) [.List es lp] [] pos) env = (do callWith pos (← eval (.Name (Str.ofString "bytes") p) env) [] (backTo pos (starEach [.List es lp] env)) (backToKw pos (keywordEach [] env)))) :
    EvG C us nw (.Call (.Name (Str.ofString "bytes") p) [.List es lp] [] pos) P := fun s Q E hS hQ hE => by
  refine Call_ (Ev.bi (v := .type "bytes") ho hn rfl _ _ _ hS (fun f' s₁ hf hS₁ => ?_) hE) (hcall _)
  obtain rfl := Vl.val_is hf
  refine Pv.callWith_type1 (args_cons (List_ (hl _ _ _ _ hS₁ (fun vs s₂ hvs hS₂ => ?_) hE)) (he _)) (he _) rfl
  obtain ⟨l₂, hl₂⟩ := id hS₂
  obtain ⟨m, F, hm⟩ := hS₂.fr
  have hlen := AllIs.len _ _ hvs
  rw [List.length_map] at hlen
  refine newList_K F hl₂.news (fun D h' F' N' hlt => args_nil ?_) (by rw [hlen]; size_fits)
  refine bytes_K F' N' ⟨_, (N' _ (.head _)).1, rfl, _, rfl⟩ (ints_of _ _ hvs) hr (by rw [hlen]; size_fits) rfl fun h'' t k'' F'' N'' _ => ?_
  exact hQ _ _ _ (hp t) ⟨l₂, hl₂.pn, hS₂.same, ⟨m, F'', hm⟩, fun q hq => N'' q (.tail _ hq), hl₂.above⟩
theorem g_bytes (w : World) : nsIn (Mine.hd.heap_39 w.params) mainGlobals (Str.ofString "bytes") = some none := by k_is
end
noncomputable def headOf : Nat → Int
  | 0 => 192
  | 1 => 224
  | _ => 240
noncomputable def tailOf (i : Int) (m : Nat) : List Int := (List.range m).map fun j => 128 + i / 64 ^ (m - 1 - j) % 64
theorem octs_many {i : Int} (h : ¬ i < 128) : ∃ m : Nat, m < 3 ∧ (if (decide (i < 2048)) = true then (1 : Int) else if (decide (i < 65536)) = true then 2 else 3) = (m : Int) + 1 ∧ octs i = (headOf m + i / 64 ^ (m + 1)) :: tailOf i (m + 1) := by
  by_cases h2 : i < 2048
  · refine ⟨0, by decide, by rw [if_pos (decide_eq_true h2)]; rfl, ?_⟩
    rw [octs, if_neg h, if_pos h2]
    show _ = (192 + i / 64 ^ (0 + 1)) :: tailOf i (0 + 1)
    simp [tailOf, List.range_succ]
  · by_cases h3 : i < 65536
    · refine ⟨1, by decide, by rw [if_neg (by simpa using h2), if_pos (decide_eq_true h3)]; rfl, ?_⟩
      rw [octs, if_neg h, if_neg h2, if_pos h3]
      show _ = (224 + i / 64 ^ (1 + 1)) :: tailOf i (1 + 1)
      simp [tailOf, List.range_succ]
    · refine ⟨2, by decide, by rw [if_neg (by simpa using h2), if_neg (by simpa using h3)]; rfl, ?_⟩
      rw [octs, if_neg h, if_neg h2, if_neg h3]
      show _ = (240 + i / 64 ^ (2 + 1)) :: tailOf i (2 + 1)
      simp [tailOf, List.range_succ]
theorem tail_get {i : Int} {m j : Nat} (h : j < m) : (tailOf i m)[j]? = some (128 + i / 64 ^ (m - 1 - j) % 64) := by
  unfold tailOf
  rw [List.getElem?_map, List.getElem?_range h]; rfl
theorem tail_len (i : Int) (m : Nat) : (tailOf i m).length = m := by unfold tailOf; simp
theorem ints_snoc {ys : List Value} {ns : List Int} {n : Int} {t : Tok} (h : IntsAre ys ns) : IntsAre (ys ++ [.int n t]) (ns ++ [n]) := by
  induction h with
  | nil => exact .cons _ _ .nil
  | cons n t h ih => exact .cons _ _ ih
theorem pow64 (k : Nat) : (0 : Int) < 64 ^ k := Int.pow_pos (by decide)
theorem pow_lt {k : Nat} (h : k ≤ 3) : ((64 : Int) ^ k).natAbs < 1073741824 := by
  match k, h with
  | 0, _ => decide
  | 1, _ => decide
  | 2, _ => decide
  | 3, _ => decide
theorem rng_small {m : Nat} (hm : m < 3) : Builtin.Range.small ((m : Int) + 1 - 1) (-1) (-1) = true := (show ∀ m : _root_.Fin 3, Builtin.Range.small ((m.val : Int) + 1 - 1) (-1) (-1) = true by decide +kernel) ⟨m, hm⟩
theorem rng_size {m : Nat} (hm : m < 3) : Builtin.Range.rangeSize ((m : Int) + 1 - 1) (-1) (-1) = ((m + 1 : Nat) : Int) := (show ∀ m : _root_.Fin 3, Builtin.Range.rangeSize ((m.val : Int) + 1 - 1) (-1) (-1) = ((m.val + 1 : Nat) : Int) by decide +kernel) ⟨m, hm⟩
theorem pow_sml {m : Nat} (hm : m < 3) : (64 : Int) ^ ((m : Int) + 1).toNat < 1073741824 := (show ∀ m : _root_.Fin 3, (64 : Int) ^ ((m.val : Int) + 1).toNat < 1073741824 by decide +kernel) ⟨m, hm⟩
theorem step_nat {m j : Nat} (h : j < m + 1) : ((m : Int) + 1 - 1 + (j : Int) * -1).toNat = m + 1 - 1 - j := by omega
theorem step_nn {m j : Nat} (h : j < m + 1) : 0 ≤ (m : Int) + 1 - 1 + (j : Int) * -1 := by omega
theorem step_le {m j : Nat} (h : m < 3) : m + 1 - 1 - j ≤ 3 := by omega
theorem step_lm {m j : Nat} (h : m < 3) : (m : Int) + 1 - 1 + (j : Int) * -1 ≤ 1000000 := by omega
theorem g_heads (w : World) : nsIn (Mine.hd.heap_39 w.params) mainGlobals (Str.ofString "LONG_HEADS") = some (some (.ref 70)) := by k_is
theorem heads_at {P : Params} {h : Heap} (X : (Mine.hd.heap_39 P).In h) (m : Nat) (hm : m < 3) : ∃ (a : Addr) (l r : List Value) (t : Tok), IsTup h 70 l.toArray ∧ l.length = 3 ∧ l[m]? = some (.ref a) ∧ IsTup h a (.int (headOf m) t :: r).toArray := by
  have e := X 70 _ (by k_is)
  match m, hm with
  | 0, _ => exact ⟨_, [_, _, _], [_, _], _, ⟨_, e, rfl, _, rfl⟩, rfl, rfl, ⟨_, X _ _ (by k_is), rfl, _, rfl⟩⟩
  | 1, _ => exact ⟨_, [_, _, _], [_, _], _, ⟨_, e, rfl, _, rfl⟩, rfl, rfl, ⟨_, X _ _ (by k_is), rfl, _, rfl⟩⟩
  | 2, _ => exact ⟨_, [_, _, _], [_, _], _, ⟨_, e, rfl, _, rfl⟩, rfl, rfl, ⟨_, X _ _ (by k_is), rfl, _, rfl⟩⟩
section
variable {cs : Scope} {ns : List PySem.Str} {d u : Nat} {RX : Value → List (Addr × Obj) → Prop} {XX : Int → Prop} {C : Bx cs ns d u RX XX} {us : List Vl} {nw : List (Addr × Obj)} {pos : Pos}
theorem Ev.heads {p q1 q2 : Pos} {k : Nat} {e : PySem.Expr} {m : Nat} (ho : okGlob cs (Str.ofString "LONG_HEADS") = true) (he : Ev C us nw e (.int m)) (hm : m < 3)
    (hs1 : ∀ a k u, subscripted e false (.ref a) (.int k u) = operate [.ref a, .int k u] (getItem (.ref a) (.int k u))) : Ev C us nw (.Subscript (.Subscript (.Name (Str.ofString "LONG_HEADS") p) e q1) (.Constant (.int 0) k q2) pos) (.int (headOf m)) := fun s Q E hS hQ hE => by
  refine Subscript_ (Subscript_ (Ev.glob ho (g_heads _) _ _ _ hS (fun v s' hv hS' => he _ _ _ hS' (fun v' s'' hv' hS'' => ?_) hE) hE))
  obtain rfl := Vl.val_is hv
  obtain ⟨t', rfl⟩ := Vl.int_is hv'
  obtain ⟨mm, F, _⟩ := hS''.fr
  obtain ⟨a, l, r, t, h1, h2, h3, h4⟩ := heads_at C.K m hm
  refine item_tupleT (let ⟨o, e, z⟩ := h1; ⟨o, F.keep _ _ e, z⟩) (by omega) (by omega) (j := m) (by unfold seqIndex?; rw [h2]; simp; omega) h3 ?_ (hs1 _ _ _)
  refine Ev.cint _ _ _ hS'' (fun v9 s9 hv9 hS9 => ?_) hE
  obtain ⟨t9, rfl⟩ := Vl.int_is hv9
  obtain ⟨m9, F9, _⟩ := hS9.fr
  exact item_tupleT (let ⟨o, e, z⟩ := h4; ⟨o, F9.keep _ _ e, z⟩) (by decide) (by decide) (j := 0) (by unfold seqIndex?; simp) rfl (hQ _ _ ⟨_, rfl⟩ hS9)
theorem EvG.bytesCat {x : PySem.Str} {p q lp cp : Pos} {e : PySem.Expr} {D : Addr} {i : Int} {ys : List Value} {zs : List Int} (ho : okBi cs (Str.ofString "bytes") = true) (hn : nsIn (Mine.hd.heap_39 C.w.params) mainGlobals (Str.ofString "bytes") = some none) (he : Ev C us [] e (.int i)) (hx : ∀ nw, Ev C us nw (.Name x q) (.val (.ref D))) (hD : C.Has [] (D, LCg.lst ys)) (hy : IntsAre ys zs) (hr : ∀ n ∈ i :: zs, 0 ≤ n ∧ n < 256) (hz : zs.length ≤ 1000)
    (h1 : ∀ env, starEach [e] env = (false, eval e env) :: starEach [] env) (h2 : ∀ env, starEach [.BinOp (.List [e] lp) .Add (.Name x q) cp] env = (false, eval (.BinOp (.List [e] lp) .Add (.Name x q) cp) env) :: starEach [] env)
    (hcall : ∀ env, eval (.Call (.Name (Str.ofString "bytes") p) [.BinOp (.List [e] lp) .Add (.Name x q) cp] [] pos) env = (do callWith pos (← eval (.Name (Str.ofString "bytes") p) env) [] (backTo pos (starEach [.BinOp (.List [e] lp) .Add (.Name x q) cp] env)) (backToKw pos (keywordEach [] env)))) :
    Ev C us [] (.Call (.Name (Str.ofString "bytes") p) [.BinOp (.List [e] lp) .Add (.Name x q) cp] [] pos) (.byt (bts (i :: zs))) := fun s Q E hS hQ hE => by
  refine Call_ (Ev.bi ho hn (rfl : bootBuiltins (Str.ofString "bytes") = some (.type "bytes")) _ _ _ hS (fun f' s₁ hf hS₁ => ?_) hE) (hcall _)
  obtain rfl := Vl.val_is hf
  refine PySem.Pv.callWith_type1 (args_cons (wpAny_BinOp (List_ (EvL.cons he EvL.nil h1 _ _ _ _ hS₁ (fun vs s₂ hvs hS₂ => ?_) hE))) (h2 _)) (h2 _) rfl
  obtain ⟨l, hl⟩ := id hS₂
  obtain ⟨m, F, hm⟩ := hS₂.fr
  have hlen : vs.length = 1 := by
    cases vs with
    | nil => exact hvs.elim
    | cons v vs =>
      cases vs with
      | nil => rfl
      | cons _ _ => exact hvs.2.elim
  refine newList_K F hl.news (fun D1 h' F' N' hlt => ?_) (by rw [hlen, sizeLine_eq]; decide)
  have hS3 : St C us [(D1, W.listOf vs.toArray 0)] { s₂ with heap := h' } := ⟨l, hl.pn, hl.same, ⟨m, F', hm⟩, N', fun q hq p hp => by rw [List.mem_singleton.mp hp]; exact hlt q hq⟩
  refine hx _ _ _ _ hS3 (fun v s₄ hv hS₄ => ?_) hE
  obtain rfl := Vl.val_is hv
  obtain ⟨l4, hl4⟩ := id hS₄
  obtain ⟨m4, F4, hm4⟩ := hS₄.fr
  have hvs9 : IntsAre vs [i] := by
    cases vs with
    | nil => exact hvs.elim
    | cons v vs =>
      cases vs with
      | cons _ _ => exact hvs.2.elim
      | nil => obtain ⟨t, rfl⟩ := Vl.int_is hvs.1; exact .cons _ _ .nil
  have hD9 : (D, LCg.lst ys) ∈ [(D1, W.listOf vs.toArray 0)] ++ l4 := hD.elim (fun h => nomatch h) fun h => List.mem_append_right _ (h l4 hl4.pn)
  refine kmk_add_ints F4 hl4.news ⟨_, (hl4.news _ (.head _)).1, rfl, _, rfl⟩ ⟨_, (hl4.news _ hD9).1, rfl, _, rfl⟩ hvs9 hy (fun D2 ws h2 F2 N2 lt2 hw => ?_) (by rw [List.length_singleton, sizeLine_eq]; omega)
  refine args_nil ?_
  refine bytes_K F2 N2 ⟨_, (N2 _ (.head _)).1, rfl, _, rfl⟩ hw hr (by rw [hw.length]; simp only [List.length_append, List.length_singleton]; rw [sizeLine_eq]; omega) rfl fun h3 t k F3 N3 _ => ?_
  exact hQ _ _ ⟨t, rfl⟩ ⟨l4, hl4.pn, hl4.same, ⟨m4, F3, hm4⟩, fun q hq => N3 q (.tail _ (.tail _ hq)), fun _ _ _ h => nomatch h⟩
end
theorem g_bytesC (w : World) : nsIn (Mine.hd.heap_39 w.params) mainGlobals (Str.ofString "bytes") = some none := by k_is
theorem octets_of_rune_c (w : World) (i : Int) (t1 : Tok) (h0 : 0 ≤ i) (h1 : rightI i = true) :
    Ctr w 82 [.int i t1] 5 80 [] (RBytes (octs i)) (fun sp => False) := by
  have h2 := right_le h1
  refine' Ctr.of_bodyC [Str.ofString "many", Str.ofString "tail"] [.no, .no] ?ho ?hcd ?hb ?hkind ?hndc (by decide +kernel) (Str.ofString "rune") ?hone (fun _ => slots _ _ ?hu) ?c1 ?c2 ?c3 ?_
  (case ho => k_is)
  (case hcd => k_is)
  (case hb => exact rfl)
  (case hone => exact fun _ => rfl)
  (case hkind => exact rfl)
  (case hndc => decide +kernel)
  (case hu => exact ⟨trivial, trivial, trivial⟩)
  (case c1 => exact rfl)
  (case c2 => exact rfl)
  (case c3 => exact rfl)
  intro C o _ hcl ho
  have ho : o.data = .cell (some (.int i t1)) := ho
  have hc : C.cl.lookup (Str.ofString "rune") = some (C.L + 1) := by rw [hcl]; rfl
  have rune : ∀ {nw : List (Addr × Obj)} {pos : Pos}, (C.L + 1, o) ∈ nw → Ev C [.no, .no] nw (.Name (Str.ofString "rune") pos) (.int i) := fun h => Ev.cel rfl rfl hc (.inl h) ho ⟨t1, rfl⟩
  refine Ex.ite (b := !(rightI i)) (Tst.nt (Tst.right rfl (rune (.head _)) (by decide) (by decide) (fun _ => rfl) fun _ => rfl)) (fun c => ?_) fun c => Ex.nil ?_
  · rw [h1] at c; cases c
  refine Ex.iteD (Tst.cm (Cm.lt (rune (.head _)) Ev.cint)) (fun c => ?_) fun c => Ex.nil ?_
  · have hr := octs_in h0 h2
    have e : octs i = [i] := if_pos c
    rw [e] at hr
    exact Ex.retP (P := fun v nw' => ∃ t, v = .bytes (bts [i]) t ∧ nw' = [(C.L + 1, o)]) (EvG.bytesL [i] rfl (g_bytes _) (EvL.cons (rune (.head _)) EvL.nil fun _ => rfl) hr (Nat.le_of_ble_eq_true rfl) (fun t => ⟨t, rfl, rfl⟩) (fun _ => rfl) fun _ => rfl) fun v nw' h => by
      obtain ⟨t, rfl, rfl⟩ := h
      exact ⟨[], _, by rw [e]; exact .mk t, rfl⟩
  obtain ⟨m, hm, e1, e2⟩ := octs_many c
  refine Ex.set 0 rfl (fun _ => rfl) (Ev.eqI (Ev.ifI (Tst.cm (Cm.lt (rune (.head _)) Ev.cint)) Ev.cint (Ev.ifI (Tst.cm (Cm.lt (rune (.head _)) Ev.cint)) Ev.cint Ev.cint)) e1) ?_
  have hoct := octs_in h0 h2
  rw [e2] at hoct
  have hpw : ((m : Int) + 1).toNat = m + 1 := by omega
  refine Ex.compD (a := (m : Int) + 1 - 1) (b := -1) (c := -1) (n := m + 1) (cl := [(Str.ofString "rune", C.L + 1)]) 1 (fun j ys => IntsAre ys ((tailOf i (m + 1)).take j)) rfl ?hsw ?hclos ?hcell rfl ?hnames rfl (EvRngS.three rfl (Ev.sub (Ev.loc 0 rfl rfl rfl) Ev.cint) (Ev.neg Ev.cint) (Ev.neg Ev.cint) (by decide) (PyProof.noPylong_small (by decide)) (fun _ => rfl) (fun _ => rfl) (fun _ => rfl) (fun _ => rfl) fun _ => rfl) ?hsm ?hn (by omega) .nil ?turn (fun ys D hI => ?_) fun _ _ => rfl
  (case hsw => with_unfolding_all rfl)
  (case hclos =>
    show closureFor _ (envX C.cn _ C.L C.a C.ccd C.cl) = _
    rw [hcl]
    with_unfolding_all rfl)
  (case hcell => decide)
  (case hnames => decide)
  (case hsm => exact rng_small hm)
  (case hn => exact rng_size hm)
  (case turn =>
    intro j ys v I oI Cc oC D m₂ h tk l mm s E' hj hI hP hC hx hPn F N off
    obtain ⟨t, rfl⟩ := hP
    have hk := step_nat hj
    have hk2 := step_nn hj
    refine wpAny_BinOp (wpAny_Constant_int ?_)
    refine wpAny_BinOp (wpAny_BinOp (wpAny_Name (wpAny_loadName_cell (c := C.L + 1) rfl ?kc rfl ⟨o, (N _ (.tail _ (.tail _ (.tail _ (.head _))))).1, ho⟩ ?_) rfl))
    (case kc => rfl)
    refine wpAny_BinOp (wpAny_Constant_int (wpAny_Name (wpAny_loadName_local rfl ?kl (LCg.NsObj.ns hC (N _ (.tail _ (.head _))).1) hx ?_) rfl))
    (case kl => rfl)
    refine PyProof.Rows.pow_int_small hk2 (step_lm hm) (by decide) ?_
    rw [hk]
    refine PyProof.Rows.floordiv_int (Int.ne_of_gt (pow64 _)) ?_ (Or.inl (PyProof.noPylong_small (pow_lt (step_le hm))))
    refine wpAny_Constant_int ?_
    refine PyProof.Rows.mod_int' (by decide) ?_
    refine PyProof.Rows.add_int ?_
    refine LCg.CompEnd.intro F N (_ :: l) (fun p hp => hp) off trivial ⟨?_, rfl⟩
    rw [List.take_add_one, tail_get hj, Int.fmod_eq_emod_of_nonneg _ (by decide), Int.fdiv_eq_ediv_of_nonneg _ (Int.le_of_lt (pow64 _))]
    exact ints_snoc hI)
  rw [List.take_of_length_le (Nat.le_of_eq (tail_len i (m + 1)))] at hI
  have hr2 : ∀ {pos : Pos}, Ev (C.more [(D, LCg.lst ys), (C.L + 1, o)]) [.int ((m : Int) + 1), .val (.ref D)] [] (.Name (Str.ofString "rune") pos) (.int i) := Ev.cel rfl rfl hc (Bx.Has.own (.tail _ (.head _))) ho ⟨t1, rfl⟩
  refine Ex.ret (Ev.g (EvG.bytesCat (ys := ys) (zs := tailOf i (m + 1)) rfl (g_bytes _) (Ev.add (Ev.heads rfl (Ev.eqI (Ev.sub (Ev.loc 0 rfl rfl rfl) Ev.cint) (by omega)) hm fun _ _ _ => by with_unfolding_all rfl) (Ev.fdiv hr2 (Ev.pow Ev.cint (Ev.loc 0 rfl rfl rfl) (by omega) (by omega) (by decide)) (pow64 _) ?pl)) (fun _ => Ev.loc 1 rfl rfl rfl) (Bx.Has.own (.head _)) hI ?hr (by rw [tail_len]; omega) (fun _ => rfl) (fun _ => rfl) fun _ => rfl)) fun v nw' h => ?_
  (case pl => exact pow_sml hm)
  (case hr => rw [hpw]; exact hoct)
  obtain ⟨⟨t, h⟩, rfl⟩ := h
  rw [Option.some.inj h, hpw, ← e2]
  exact .mk t

end
section
example : True := by
  w_top off
  trivial
inductive Ext | none | int (v : Int) | bytes (ns : List Int)
  deriving DecidableEq
structure Wd where
  (kind txt : PySem.Str) (spot : Int) (ext : Ext)
  deriving DecidableEq
inductive IsExt : Ext → Value → Prop
  | none : IsExt .none .none
  | int (v : Int) (t : Tok) : IsExt (.int v) (.int v t)
  | bytes (ns : List Int) (t : Tok) : IsExt (.bytes ns) (.bytes (bts ns) t)
inductive IsWd : Wd → Obj → Prop
  | mk (kind txt : PySem.Str) (spot : Int) (ext : Ext) (t1 t2 t3 : Tok) (v : Value) (h : IsExt ext v) : IsWd ⟨kind, txt, spot, ext⟩ (tupO [.str kind t1, .str txt t2, .int spot t3, v])
inductive RRead (o : Except Int (Wd × Int)) : Value → List (Addr × Obj) → Prop
  | mk (x y : Addr) (ob : Obj) (wd : Wd) (j : Int) (t : Tok) (h : o = .ok (wd, j)) (hw : IsWd wd ob) (hxy : y < x) : RRead o (.ref x) [(x, tupO [.ref y, .int j t]), (y, ob)]
theorem news_sub {h₀ h : Heap} {L : Addr} {l l' : List (Addr × Obj)} (N : News h₀ L h l) (hs : ∀ p ∈ l', p ∈ l) : News h₀ L h l' := fun p hp => N p (hs p hp)
theorem Ctr.mono {w : World} {f : Addr} {vs : List Value} {d u : Nat} {led : List (Addr × Obj)} {R R' : Value → List (Addr × Obj) → Prop} {X X' : Int → Prop} (C : Ctr w f vs d u led R X) (hR : ∀ v nw, R v nw → R' v nw) (hX : ∀ sp, X sp → X' sp) : Ctr w f vs d u led R' X' :=
  fun p loose mean mg mb dp un gd cn cs a ccd cl outer A₀ base h₀ L m news s Q E B F X₀ N T hk hd hu hl hr he =>
    C p loose mean mg mb dp un gd cn cs a ccd cl outer A₀ base h₀ L m news s Q E B F X₀ N T hk hd hu hl (fun v nw h' tk h => hr v nw h' tk (hR v nw h)) fun e sp h' tk g h => he e sp h' tk g (hX sp h)

end
section

theorem Real.enter {Γ : PySem.Ctx} (h : Real Γ) {c : Code} (hc : badC c = false) (hd : Option Value) (p : Pos) : Real (Γ.enter c hd p) :=
  ⟨hc, fun x hx => (List.mem_cons.mp hx).elim (fun e => e ▸ h.1) (h.2 x)⟩
theorem Real.goto {Γ : PySem.Ctx} (h : Real Γ) {c : Code} (hc : badC c = false) : Real (Γ.goto c) := ⟨hc, h.2⟩
theorem Real.stack {Γ : PySem.Ctx} (h : Real Γ) (p : Pos) : ∀ x ∈ ((Γ.code, p) :: Γ.below), badC x.1 = false := fun x hx => (List.mem_cons.mp hx).elim (fun e => e ▸ h.1) (h.2 x)
noncomputable def wpR {α : Type} (M : Model) (A : Around) (t : Sem α) (Q : α → Shared → Prop) (E : Value → Shared → Prop) (s : Shared) : Prop :=
  ∀ Γ p, Γ.In A → Real Γ → Sem.wp M Γ t (fun a _ s' => Q a s') (fun e _ s' => E e s') p s
noncomputable def codeR (M : Model) (A : Around) (c : Code) (R : Result → Shared → Prop) (s : Shared) : Prop :=
  ∀ Γ p, Γ.code = c → Γ.Below A → Real Γ → wpCode M Γ R p s
section
variable {α β : Type} {M : Model} {A : Around} {E : Value → Shared → Prop} {s : Shared} {R : Result → Shared → Prop}
theorem wpR_of {t : Sem α} {Q : α → Shared → Prop} (h : wpAny M A t Q E s) : wpR M A t Q E s := fun Γ p hΓ _ => h Γ p hΓ
theorem codeR_of {c : Code} (h : codeAny M A c R s) : codeR M A c R s := fun Γ p hc hΓ _ => h Γ p hc hΓ
theorem wpR_pure {a : α} {Q : α → Shared → Prop} (h : Q a s) : wpR M A (pure a) Q E s := fun _ _ _ _ => h
theorem wpR_mono {t : Sem α} {Q Q' : α → Shared → Prop} {E' : Value → Shared → Prop} (h : wpR M A t Q E s) (hQ : ∀ a s, Q a s → Q' a s) (hE : ∀ e s, E e s → E' e s) : wpR M A t Q' E' s :=
  fun Γ p hΓ hr => Sem.wp_mono M Γ t (fun a _ s => hQ a s) (fun e _ s => hE e s) p s (h Γ p hΓ hr)
theorem wpR_bind {m : Sem α} {f : α → Sem β} {Q : β → Shared → Prop} (h : wpR M A m (fun a s' => wpR M A (f a) Q E s') E s) : wpR M A (m >>= f) Q E s := fun Γ p hΓ hr => by
  rw [Sem.wp_bind']
  exact Sem.wp_mono M Γ m (fun a p' s' h' => h' Γ p' hΓ hr) (fun _ _ _ h' => h') p s (h Γ p hΓ hr)
theorem wpR_bindA {m : Sem α} {f : α → Sem β} {Q : β → Shared → Prop} (h : wpAny M A m (fun a s' => wpR M A (f a) Q E s') E s) : wpR M A (m >>= f) Q E s := wpR_bind (wpR_of h)
theorem wpR_onRaise {m : Sem α} {k : Value → Sem Unit} {Q : α → Shared → Prop} (h : wpR M A m Q (fun e s' => wpAny M A (k e) (fun _ s'' => E e s'') E s') s) : wpR M A (m.onRaise k) Q E s := fun Γ p hΓ hr => by
  rw [Sem.wp_onRaise]
  exact Sem.wp_mono M Γ m (fun _ _ _ h' => h') (fun e p' s' h' => h' Γ p' hΓ) p s (h Γ p hΓ hr)
theorem wpR_attempt {m : Sem α} {Q : Except Value α → Shared → Prop} (h : wpR M A m (fun a => Q (.ok a)) (fun e => Q (.error e)) s) : wpR M A m.attempt Q E s := fun Γ p hΓ hr => by rw [Sem.wp_attempt]; exact h Γ p hΓ hr
theorem wpR_holding {vs : List Value} {m : Sem α} {Q : α → Shared → Prop} (h : wpR M A m Q E s) : wpR M A (holding vs m) Q E s := fun Γ p hΓ hr => by rw [Sem.wp_holding]; exact h Γ p hΓ hr
theorem wpR_operate {vs : List Value} {m : Sem Value} {Q : Value → Shared → Prop} (h : wpR M A m Q E s) : wpR M A (operate vs m) Q E s := fun Γ p hΓ hr => by rw [Sem.wp_operate]; exact h Γ p hΓ hr
theorem wpR_keep {vs : List Value} {m : Sem α} {Q : α → Shared → Prop} (h : wpR M A m Q E s) : wpR M A (m.keep vs) Q E s := fun Γ p hΓ hr => by rw [Sem.wp_keep]; exact h Γ p hΓ hr
theorem wpR_stack {f : List (Code × Pos) → Sem β} {Q : β → Shared → Prop} (h : ∀ st, (∀ x ∈ st, badC x.1 = false) → wpR M A (f st) Q E s) : wpR M A (stack >>= f) Q E s := fun Γ p hΓ hr => by
  rw [Sem.wp_bind']
  unfold PySem.stack
  rw [Sem.wp_stack]
  exact h _ (Real.stack hr p) Γ p hΓ hr
theorem codeR_of_tree {c : Code} (h : wpR M (A.under c) (M.den c) (fun fin s' => match fin with | .done f => R (.ok f) s' | .again c' => c'.quiet = true ∧ badC c' = false ∧ codeR M A c' R s') (fun e s' => R (.error e) s') s) : codeR M A c R s := fun Γ p hc hΓ hr => by
  rw [wpCode_iff_wp, hc]
  refine Sem.wp_mono M Γ _ (fun fin p' s' h' => ?_) (fun _ _ _ h' => h') p s (h Γ p (hc ▸ hΓ.in) hr)
  cases fin with
  | done f => exact h'
  | again c' => exact ⟨h'.1, h'.2.2 (Γ.goto c') p' rfl (hΓ.goto c') (Real.goto hr h'.2.1)⟩
theorem wpR_runValue {c : Code} {Q : Value → Shared → Prop} (hb : badC c = false) (hc : codeR M A c (fun r s' => match r with | .ok (.ret v) => Q v s' | .ok _ => False | .error e => E e s') s) : wpR M A (runValue c) Q E s := fun Γ p hΓ hr => by
  rw [Sem.wp_runValue]; exact hc _ p rfl (hΓ.enter c none p (by intro x; cases x)) (Real.enter hr hb none p)
theorem wpR_call {f : Value} {pos : List Value} {kw : List (Str × Value)} {Q : Value → Shared → Prop}
    (hc : codeR M A (.call f ⟨pos, kw⟩) (fun r s' => match r with | .ok (.ret v) => Q v s' | .ok _ => False | .error e => E e s') s) : wpR M A (call f pos kw) Q E s := wpR_runValue rfl hc
theorem wpR_run {c : Code} {h : Option Value} {Q : Flow → Shared → Prop} (hb : badC c = false)
    (hc : codeR M (A.mark h) c (fun r s' => match r with | .ok f => Q f s' | .error e => E e s') s) (hnb : h ≠ some byPass) : wpR M A (run c h) Q E s :=
  fun Γ p hΓ hr => by rw [Sem.wp_run]; exact hc _ p rfl (hΓ.enter c h p hnb) (Real.enter hr hb h p)
theorem codeR_loop {c : Code} (hq : c.quiet = true) (hb : badC c = false) (I : Nat → Shared → Prop)
    (turn : ∀ n s, I n s → wpR M (A.under c) (M.den c)
      (fun fin s' => match fin with | .done f => R (.ok f) s' | .again c' => (c' = c ∧ ∃ m, m < n ∧ I m s') ∨ (c'.quiet = true ∧ badC c' = false ∧ codeR M A c' R s')) (fun e s' => R (.error e) s') s)
    (n : Nat) (h : I n s) : codeR M A c R s := by
  induction n using Nat.strongRecOn generalizing s with
  | ind n ih =>
    refine codeR_of_tree (wpR_mono (turn n s h) (fun fin s' hf => ?_) fun _ _ h' => h')
    cases fin with
    | done f => exact hf
    | again c' =>
      rcases hf with ⟨rfl, m, hm, hI⟩ | hf
      · exact ⟨hq, hb, ih m hm hI⟩
      · exact hf
end
section
variable {prog : Program} {w : World} {A : Around} {E : Value → Shared → Prop} {s : Shared} {R : Result → Shared → Prop} {env : Env}
theorem codeR_func {body} (h : wpR (model prog w) (A.deeper env) (execs body env) (fun f s' => R (.ok (.ret (match f with | .ret v => v | _ => .none))) s')
      (fun e s' => wpAny (model prog w) (A.deeper env) (leaving env e) (fun _ s'' => R (.error e) s'') (fun e' s'' => R (.error e') s'') s') s) : codeR (model prog w) A (.func body env) R s := by
  refine codeR_of_tree ?_
  show wpR _ (A.deeper env) (do point; match ← (execs body env).onRaise (leaving env) with | .ret v => ret v | _ => ret .none) _ _ s
  refine wpR_bindA (wpAny_point (wpR_bind (wpR_onRaise (wpR_mono h (fun f s' h' => ?_) fun _ _ h' => h'))))
  cases f <;> exact wpR_pure h'
theorem codeR_call_def {a : Addr} {o : Obj} {fd : FuncData} {body : List Stmt} {args : Args} {binds : List (Str × Value)}
    (hroom : A.depth < recursionLimit) (ho : s.heap.get? a = some o) (hdata : o.data = .func fd) (hlim : s.heap.NoLimit) (hcd : s.heap.CodeRec fd.code fd.qualname)
    (hbody : fd.body = .stmts body) (hbind : BindsTo s fd args binds)
    (hcell : ∀ x ∈ fd.scope.names, x.2 ≠ .cell) (hloc : ∀ x ∈ binds, fd.scope.names.lookup x.1 = some .local)
    (h : ∀ h₀, h₀.Ns s.heap.objs.size (fun x => binds.reverse.lookup x) → (∀ b o, s.heap.get? b = some o → h₀.get? b = some o) →
      wpR (model prog w) (A.deeper (callEnv fd s.heap.objs.size a)) (execs body (callEnv fd s.heap.objs.size a)) (fun f s' => R (.ok (.ret (match f with | .ret v => v | _ => .none))) s')
        (fun e s' => wpAny (model prog w) (A.deeper (callEnv fd s.heap.objs.size a)) (leaving (callEnv fd s.heap.objs.size a) e) (fun _ s'' => R (.error e) s'') (fun e' s'' => R (.error e') s'') s')
        { s with heap := h₀, toks := s.toks + binds.length })
    (hco : fd.scope.isCoroutine = false) (hgen : fd.scope.isGenerator = false) (hk : fd.scope.kind = .function) :
    codeR (model prog w) A (.call (.ref a) args) R s := by
  refine codeR_of_tree ?_
  show wpR _ A.in1 (callAny (.ref a) args) _ _ s
  unfold callAny
  refine wpR_bindA (wpAny_load ho ?_)
  obtain ⟨c, oc, vs, tq, hc, hoc, hdc, hq⟩ := hcd
  rw [hdata]
  dsimp only
  unfold callFunction
  rw [hco, hgen, hbody, hc]
  dsimp only
  refine wpR_bindA (m := field (.ref c) 1) (wpAny_field hoc hdc hq ?_)
  refine wpR_bindA (wpAny_pure ?_)
  refine wpR_bindA (hbind _ _ _ _ ?_)
  refine wpR_bindA (wpAny_newFunctionEnv hcell hloc (fun h₀ hns₀ hsb₀ => ?_) hk)
  refine wpR_bindA (wpAny_enterFrame (hlim.fresh _ hsb₀) hroom (wpR_pure (And.intro rfl ⟨rfl, ?_⟩)))
  have := codeR_func (h h₀ hns₀ fun b o e => hsb₀.extBut b o (Nat.ne_of_lt (Heap.lt_size e)) (Heap.get?_push_of_some _ e))
  unfold callEnv at this
  rw [hc] at this
  exact this
end

end
section

section
variable {M : Model} {A : Around} {E : Value → Shared → Prop} {s : Shared} {env : Env}
theorem wpR_execs_nil {Q : Flow → Shared → Prop} (h : Q .next s) : wpR M A (execs [] env) Q E s := wpR_of (wpAny_execs_nil h)
theorem wpR_execs_cons {st rest} {Q : Flow → Shared → Prop} (h : wpR M A (exec st env) (fun f s' => match f with | .next => wpR M A (execs rest env) Q E s' | f => Q f s') E s) : wpR M A (execs (st :: rest) env) Q E s := fun Γ p hΓ hr => by
  rw [execs_cons, Sem.wp_bind']
  refine Sem.wp_mono M Γ _ (fun f p' s' h' => ?_) (fun _ _ _ h' => h') _ _ (h Γ p hΓ hr)
  cases f <;> first | exact h' Γ p' hΓ hr | exact h'
noncomputable def ThenR (M : Model) (A : Around) (rest : List Stmt) (env : Env) (Q : Flow → Shared → Prop) (E : Value → Shared → Prop) (f : Flow) (s' : Shared) : Prop := match f with | .next => wpR M A (execs rest env) Q E s' | f => Q f s'
theorem wpR_clean {st rest} {Q : Flow → Shared → Prop} (h : wpAny M A (exec st env) (ThenR M A rest env Q E) E s) : wpR M A (execs (st :: rest) env) Q E s := wpR_execs_cons (wpR_of h)
theorem wpR_If {test body orelse pos} {Q : Flow → Shared → Prop}
    (h : wpAny M A (isTrue test env (eval test env)) (fun b s₂ => if b = true then wpR M A (execs body env) Q E s₂ else wpR M A (execs orelse env) Q E s₂) E s) : wpR M A (exec (.If test body orelse pos) env) Q E s := by
  rw [exec_If]
  refine wpR_bindA (wpAny_standAt (wpR_bindA (wpAny_mono h (fun b s₂ h₂ => ?_) fun _ _ x => x)))
  cases b <;> simpa -iota using h₂
theorem wpR_Return {e pos} {Q : Flow → Shared → Prop} (h : wpR M A (eval e env) (fun v s' => Q (.ret v) s') E s) : wpR M A (exec (.Return (some e) pos) env) Q E s := by
  rw [exec_Return_some]
  exact wpR_bindA (wpAny_standAt (wpR_bind (wpR_mono h (fun v s₂ h₂ => wpR_pure h₂) fun _ _ x => x)))
theorem wpR_Assign_Name {x pos' value pos} {Q : Flow → Shared → Prop} (h : wpR M A (eval value env) (fun v s₁ => wpAny M A (storeName env x v) (fun _ s₂ => Q .next s₂) E s₁) E s)
    (hs : swapsWith value (some (.Name x pos')) pos.line env = pure false) : wpR M A (exec (.Assign [.Name x pos'] value pos) env) Q E s := by
  rw [exec_Assign_Name env x pos' value pos hs]
  exact wpR_bindA (wpAny_standAt (wpR_bind (wpR_mono h (fun v s₁ h₁ => wpR_bindA (wpAny_standAt (wpR_bindA (wpAny_bindName (wpAny_mono h₁ (fun _ _ x => wpR_pure x) fun _ _ x => x))))) fun _ _ x => x)))
theorem wpR_Assign_Tuple {elts k tpos value pos} {Q : Flow → Shared → Prop}
    (h : wpR M A (eval value env) (fun v s₁ => wpAny M A (assign (.Tuple elts k tpos) env v) (fun _ s₂ => Q .next s₂) E s₁) E s)
    (hs : swapsWithSole [.Tuple elts k tpos] value pos.line env = pure false)
    (hw : swappedStores [.Tuple elts k tpos] value env = pure none) :
    wpR M A (exec (.Assign [.Tuple elts k tpos] value pos) env) Q E s := by
  rw [exec_Assign]
  refine wpR_bindA (wpAny_standAt ?_)
  rw [hs]
  refine wpR_bindA (wpAny_pure ?_)
  rw [if_neg (by decide)]
  refine wpR_bind (wpR_mono h (fun v s₁ h₁ => ?_) fun _ _ x => x)
  rw [hw]
  refine wpR_bindA (wpAny_pure ?_)
  show wpR M A (do assignAll v [assign (.Tuple elts k tpos) env]; pure .next) Q E s₁
  exact wpR_bindA (wpAny_mono h₁ (fun _ _ x => wpR_pure x) fun _ _ x => x)
theorem wpR_Assign_swapped {elts k tpos value pos} {names : List Str} {Q : Flow → Shared → Prop}
    (h : wpR M A (eval value env) (fun v s₁ => wpAny M A (unpackItems v names.length none) (fun items s₂ =>
      wpAny M A (assignInOrder (names.reverse.map fun n => bindName env n) items.reverse) (fun _ s₃ => Q .next s₃) E s₂) E s₁) E s)
    (hs : swapsWithSole [.Tuple elts k tpos] value pos.line env = pure false)
    (hw : swappedStores [.Tuple elts k tpos] value env = pure (some names)) :
    wpR M A (exec (.Assign [.Tuple elts k tpos] value pos) env) Q E s := by
  rw [exec_Assign]
  refine wpR_bindA (wpAny_standAt ?_)
  rw [hs]
  refine wpR_bindA (wpAny_pure ?_)
  rw [if_neg (by decide)]
  refine wpR_bind (wpR_mono h (fun v s₁ h₁ => ?_) fun _ _ x => x)
  rw [hw]
  refine wpR_bindA (wpAny_pure ?_)
  show wpR M A (do rule "assign.swapped-stores"; let items ← unpackItems v names.length none; assignInOrder (names.reverse.map fun n => bindName env n) items.reverse; pure .next) Q E s₁
  exact wpR_bindA (wpAny_rule (wpR_bindA (wpAny_mono h₁ (fun items s₂ h₂ => wpR_bindA (wpAny_mono h₂ (fun _ _ x => wpR_pure x) fun _ _ x => x)) fun _ _ x => x)))
theorem wpR_AugAssign {x pos' op value pos} {Q : Flow → Shared → Prop}
    (h : wpAny M A (loadName env x) (fun old s₁ => wpAny M A (eval value env) (fun v s₂ => wpR M A (inplaceOp op old v) (fun r s₃ => wpAny M A (storeName env x r) (fun _ s₄ => Q .next s₄) E s₃) E s₂) E s₁) E s) :
    wpR M A (exec (.AugAssign (.Name x pos') op value pos) env) Q E s := by
  rw [exec_AugAssign_Name]
  exact wpR_bindA (wpAny_standAt (wpR_bindA (wpAny_mono h (fun old s₁ h₁ => wpR_bindA (wpAny_holding (wpAny_mono h₁ (fun v s₂ h₂ => wpR_bindA (wpAny_standAt (wpR_bind (wpR_operate (wpR_mono h₂ (fun r s₃ h₃ =>
    wpR_bindA (wpAny_standAt (wpR_bindA (wpAny_bindName (wpAny_mono h₃ (fun _ _ x => wpR_pure x) fun _ _ x => x))))) fun _ _ x => x))))) fun _ _ x => x))) fun _ _ x => x)))
theorem wpR_Compare1 {l op r pos} {Q : Value → Shared → Prop}
    (h : wpR M A (eval l env) (fun a s₁ => wpAny M A (eval r env) (fun b s₂ => wpAny M A (compareOp op a b) Q E s₂) E s₁) E s)
    (hm : behindInMarks op r = false) : wpR M A (eval (.Compare l [op] [r] pos) env) Q E s := by
  rw [eval_Compare1]
  simp only [markedBehindIn_of_false hm]
  exact wpR_bind (wpR_mono h (fun a s₁ h₁ => wpR_bindA (wpAny_holding (wpAny_mono h₁ (fun b s₂ h₂ => wpR_bindA (wpAny_standAt (wpR_operate (wpR_of h₂)))) fun _ _ x => x))) fun _ _ x => x)
theorem wpR_Call {func : Expr} {args : List Expr} {pos : Pos} {Q : Value → Shared → Prop}
    (h : wpAny M A (eval func env) (fun f s₁ => wpR M A (callWith pos f [] (backTo pos (starEach args env)) []) Q E s₁) E s)
    (he : eval (.Call func args [] pos) env = (do callWith pos (← eval func env) [] (backTo pos (starEach args env)) (backToKw pos (keywordEach [] env)))) :
    wpR M A (eval (.Call func args [] pos) env) Q E s := by
  rw [he]; exact wpR_bindA h
theorem wpR_spliced_cons {x : Sem Value} {rest : List (Bool × Sem Value)} {Q : List Value → Shared → Prop}
    (h : wpR M A x (fun v s₁ => wpAny M A (spliced rest) (fun vs s₂ => Q (v :: vs) s₂) E s₁) E s) : wpR M A (spliced ((false, x) :: rest)) Q E s := by
  rw [spliced]
  refine wpR_bind (wpR_mono h (fun v s₁ h₁ => ?_) fun _ _ x => x)
  simp only [Bool.false_eq_true, if_false]
  exact wpR_bindA (wpAny_pure (wpR_bindA (wpAny_holding (wpAny_mono h₁ (fun vs s₂ h₂ => wpR_pure h₂) fun _ _ x => x))))
theorem wpR_evalArgs {f : Value} {x : Sem Value} {rest : List (Bool × Sem Value)} {Q : Args → Shared → Prop}
    (h : wpR M A (spliced ((false, x) :: rest)) (fun vs s' => Q ⟨vs, []⟩ s') E s) : wpR M A (evalArgs f true ((false, x) :: rest) []) Q E s := by
  unfold evalArgs
  show wpR M A (spliced ((false, x) :: rest) >>= _) Q E s
  refine wpR_bind (wpR_mono h (fun vs s' h' => ?_) fun _ _ x => x)
  refine wpR_holding ?_
  exact wpR_bindA (wpAny_pure (wpR_bindA (wpAny_pure (wpR_pure h'))))
theorem wpR_callWith {P : Heap → Prop} {pos : Pos} {f : Value} {args : List (Bool × Sem Value)} {Q : Value → Shared → Prop} (hplain : args.any (·.1) = false)
    (hk : ∀ h, P h → ∃ k, (k = Keeper.frame ∨ k = Keeper.machine ∨ k = Keeper.boundFrame) ∧ Looks M h (keeperOf f) k)
    (h : wpR M A (evalArgs f true args []) (fun a s₁ => P s₁.heap ∧ wpR M A (call f a.pos a.kw) Q E s₁) E s) : wpR M A (callWith pos f [] args []) Q E s := by
  unfold callWith
  refine wpR_bind (wpR_holding (wpR_mono h (fun a s₁ h₁ => wpR_bindA (wpAny_standAt ?_)) fun _ _ x => x))
  obtain ⟨k, hk', L⟩ := hk _ h₁.1
  have hs9 : (args.any (·.1) || ([] : List (Option Str × Sem Value)).any (·.1.isNone)) = false := by rw [hplain]; rfl
  rw [hs9]
  refine wpR_bindA (L.here ?_)
  have tail : ∀ {t : Sem Value}, wpR M A t Q E s₁ → wpR M A (t >>= fun r => holding [r] point >>= fun _ => pure r) Q E s₁ :=
    fun ht => wpR_bind (wpR_mono ht (fun r s₂ hr => wpR_bindA (wpAny_holding (wpAny_point (wpR_pure hr)))) fun _ _ x => x)
  have marked (mk : Value) : wpR M A (callMarked mk f a.pos a.kw) Q E s₁ := by unfold callMarked; exact wpR_keep h₁.2
  rcases hk' with rfl | rfl | rfl <;> dsimp only <;> first | exact tail h₁.2 | (split <;> first | exact tail h₁.2 | exact tail (marked _))
theorem wpR_callWith_K {K : Frag} {h₀ : Heap} {pos : Pos} {f : Value} {e : Expr} {rest : List Expr} {Q : Value → Shared → Prop} (_X : K.In h₀) (hk : keepIn K f = true)
    (h : wpAny M A (spliced (backTo pos (starEach (e :: rest) env))) (fun vs s₁ => K.In s₁.heap ∧ wpR M A (call f vs) Q E s₁) E s)
    (he : starEach (e :: rest) env = (false, eval e env) :: starEach rest env) (hplain : (backTo pos (starEach rest env)).any (·.1) = false) :
    wpR M A (callWith pos f [] (backTo pos (starEach (e :: rest) env)) []) Q E s := by
  rw [he] at h ⊢
  exact wpR_callWith (by show (false || (backTo pos (starEach rest env)).any (·.1)) = false; rw [hplain]; rfl) (keeps_K hk) (wpR_evalArgs (wpR_of h))
theorem wpR_callWith_K1 {K : Frag} {h₀ : Heap} {pos : Pos} {f : Value} {e : Expr} {Q : Value → Shared → Prop} (_X : K.In h₀) (hk : keepIn K f = true)
    (h : wpR M A (eval e env) (fun v s₁ => K.In s₁.heap ∧ wpAny M A (call f [v]) Q E s₁) E s)
    (he : starEach [e] env = [(false, eval e env)]) : wpR M A (callWith pos f [] (backTo pos (starEach [e] env)) []) Q E s := by
  rw [he]
  exact wpR_callWith rfl (keeps_K hk) (wpR_evalArgs (wpR_spliced_cons (wpR_mono h (fun v s₁ h₁ => spliced_nil ⟨h₁.1, wpR_of h₁.2⟩) fun _ _ x => x)))
theorem wpR_callWith_type0 {T : String} {pos : Pos} {Q : Value → Shared → Prop} (h : wpR M A (call (.type T) []) Q E s) : wpR M A (callWith pos (.type T) [] (backTo pos (starEach [] env)) []) Q E s := by
  unfold callWith
  refine wpR_bindA (wpAny_holding (evalArgs_nil3 (wpR_bindA (wpAny_standAt ?_))))
  refine wpR_bindA (wpAny_pure ?_)
  exact wpR_bind (wpR_mono h (fun r s₂ hr => wpR_bindA (wpAny_holding (wpAny_point (wpR_pure hr)))) fun _ _ x => x)
end
section
variable {prog : Program} {w : World} {A : Around} {E : Value → Shared → Prop} {s : Shared} {R : Result → Shared → Prop} {env : Env}
theorem wpR_noted {α : Type} {m : Sem α} {Q : α → Shared → Prop} (h : wpR (model prog w) A m Q (notedBy (model prog w) A env E) s) : wpR (model prog w) A (m.onRaise fun x => do noteFrame x env; theTreesLotGoes x) Q E s :=
  wpR_onRaise (wpR_mono h (fun _ _ q => q) fun _ _ hx => wpAny_bind (wpAny_mono hx (fun _ _ e => wpAny_theTreesLotGoes e) fun _ _ e => e))
theorem codeR_whileLoop {test body orelse} (I : Nat → Shared → Prop)
    (turn : ∀ n s, I n s →
      wpAny (model prog w) A (isTrue test env (eval test env)) (fun b s₂ =>
        if b = true then wpR (model prog w) A (execs body env) (fun f s₃ => match f with
            | .next | .cont => ∃ m, m < n ∧ I m s₃
            | .brk => R (.ok .next) s₃
            | .ret v => R (.ok (.ret v)) s₃) (notedBy (model prog w) A env fun e s' => R (.error e) s') s₂
        else wpAny (model prog w) A (execs orelse env) (fun f s₃ => R (.ok f) s₃) (notedBy (model prog w) A env fun e s' => R (.error e) s') s₂)
        (notedBy (model prog w) A env fun e s' => R (.error e) s') s)
    (n : Nat) (h : I n s) : codeR (model prog w) A (.whileLoop test body orelse env) R s := by
  refine codeR_loop rfl rfl I (fun n s hI => ?_) n h
  show wpR _ A ((whileTurn test body orelse env).onRaise (fun x => do noteFrame x env; theTreesLotGoes x)) _ _ s
  refine wpR_noted ?_
  unfold whileTurn
  refine wpR_bindA (wpAny_mono (turn n s hI) (fun b s₂ h₂ => ?_) fun _ _ h' => h')
  cases b with
  | false =>
    simp -iota only [Bool.false_eq_true, if_false] at h₂ ⊢
    exact wpR_bindA (wpAny_mono h₂ (fun f s₃ h₃ => wpR_pure h₃) fun _ _ h' => h')
  | true =>
    simp -iota only [if_true] at h₂ ⊢
    refine wpR_bind (wpR_mono h₂ (fun f s₃ h₃ => ?_) fun _ _ h' => h')
    cases f with
    | next => exact wpR_pure (.inl ⟨rfl, h₃⟩)
    | cont => exact wpR_pure (.inl ⟨rfl, h₃⟩)
    | brk => exact wpR_pure h₃
    | ret v => exact wpR_pure h₃
theorem wpR_runOwn {c : Code} {h : Option Value} {Q : Flow → Shared → Prop} (hb : badC c = false)
    (hc : codeR (model prog w) (A.mark h) c (fun r s' => match r with | .ok f => Q f s' | .error e => cameBackBy (model prog w) A env E e s') s) (hnb : h ≠ some byPass) :
    wpR (model prog w) A (runOwn c env h) Q E s := by
  unfold runOwn
  exact wpR_onRaise (wpR_run hb hc hnb)
theorem wpR_While {test body pos} {Q : Flow → Shared → Prop} (I : Nat → Shared → Prop)
    (turn : ∀ n s, I n s →
      wpAny (model prog w) A (isTrue test env (eval test env)) (fun b s₂ =>
        if b = true then wpR (model prog w) A (execs body env) (fun f s₃ => match f with
            | .next | .cont => ∃ m, m < n ∧ I m s₃
            | .brk => Q .next s₃
            | .ret v => Q (.ret v) s₃) E s₂
        else Q .next s₂) E s)
    (n : Nat) (h : I n s) (hE : PassesOwn (model prog w) A env E) : wpR (model prog w) A (exec (.While test body [] pos) env) Q E s := by
  rw [exec_While]
  refine wpR_bindA (wpAny_standAt (wpR_runOwn rfl (codeR_whileLoop I (fun n s hI => ?_) n h) (by intro x; cases x)))
  refine wpAny_mono (turn n s hI) (fun b s₂ h₂ => ?_) hE
  cases b with
  | false =>
    simp -iota only [Bool.false_eq_true, if_false] at h₂ ⊢
    exact wpAny_execs_nil h₂
  | true =>
    simp -iota only [if_true] at h₂ ⊢
    exact wpR_mono h₂ (fun f s₃ h₃ => by cases f <;> exact h₃) hE
end
section
variable {prog : Program} {w : World} {A A₀ : Around} {E : Value → Shared → Prop} {s : Shared} {K : Frag} {L : Addr} {h₀ base : Heap} {m mg mb : Str → Option Value} {news : List (Addr × Obj)} {p : Program} {loose : List Str} {mean : ExcName → Option Value}
theorem code_defR {env : Env} {outer : List Env} {R : Result → Shared → Prop} {name qual : Str} {params : Arguments} {body : List Stmt} {scope : Scope} {dV kV doc pm cdv ct oc : Value} {an od : Option Addr} {osl : Array (Option Value)} {f : Addr} {args : Args} {binds : List (Str × Value)}
    (B : Below A₀ base outer h₀) (F : Fr h₀ L s.heap m) (X₀ : K.In h₀) (N : News h₀ L s.heap news) (T : Top p loose mean mg mb h₀) (hA : A.frames = some (env :: outer)) (hf : env.frame = some L) (hke : env.scope.kind = .function)
    (ho : K.lookup f = some ⟨oc, od, .func (fnOf name qual params body scope dV kV doc pm an cdv ct), osl⟩) (hcd : codeIn K cdv qual = true) (hroom : A.depth < recursionLimit)
    (hbind : BindsTo s (fnOf name qual params body scope dV kV doc pm an cdv ct) args binds) (hloc : ∀ y ∈ binds, scope.names.lookup y.1 = some .local)
    (h : ∀ g L' h₁, Fr h₀ L g m → Fr g L' h₁ (fun y => binds.reverse.lookup y) → News g L' h₁ news → Below A base (env :: outer) g → K.In g → Top p loose mean mg mb g → (∀ p ∈ news, p.1 < L') →
      wpR (model prog w) (A.deeper (envOf qual scope L' f cdv)) (execs body (envOf qual scope L' f cdv))
        (fun fl s' => LeaveK h₀ L m g R (match fl with | .ret v => v | _ => .none) s')
        (fun e s' => wpAny (model prog w) (A.deeper (envOf qual scope L' f cdv)) (leaving (envOf qual scope L' f cdv) e) (fun _ s'' => R (.error e) s'') (fun e' s'' => R (.error e') s'') s')
        { s with heap := h₁, toks := s.toks + binds.length })
    (hco : scope.isCoroutine = false) (hgen : scope.isGenerator = false) (hk : scope.kind = .function)
    (hcell : ∀ x ∈ scope.names, x.2 ≠ .cell) : codeR (model prog w) A (.call (.ref f) args) R s := by
  have X := X₀.keeps F.keep
  obtain ⟨FG, BG, st, lv⟩ := groundX (R := R) B F N hA hf hke
  refine codeR_call_def (fd := fnOf name qual params body scope dV kV doc pm an cdv ct) (body := body) (binds := binds) hroom (X _ _ ho) rfl (T.nolimit.keeps F.keep) (codeRec_of X hcd) rfl hbind hcell hloc (fun h₁ hns hk₁ => ?_) hco hgen hk
  exact wpR_mono (h _ s.heap.objs.size h₁ FG ⟨hns, fun b o e => hk₁ b o (of_hideAll _ e), Nat.le_of_eq (hideAll_size _ _)⟩
    (fun p hp => ⟨hk₁ _ _ (N p hp).1, Nat.ne_of_lt (Heap.lt_size (N p hp).1), hideAll_none _ (List.mem_map_of_mem hp)⟩) BG (X₀.keeps st) (T.keeps st) (fun p hp => Heap.lt_size (N p hp).1)) (fun fl s' hl => lv _ _ hl) fun _ _ y => y
end
noncomputable def CtrR (w : World) (f : Addr) (vs : List Value) (d u : Nat) (led : List (Addr × Obj)) (R : Value → List (Addr × Obj) → Prop) (X : Int → Prop) : Prop :=
  ∀ (p : Program) (loose : List Str) (mean : ExcName → Option Value) (mg mb : Str → Option Value) (dp un : Nat) (gd : Option (List Code)) (cn : Str) (cs : Scope) (a : Addr) (ccd : Value) (cl : List (Str × Addr))
    (outer : List Env) (A₀ : Around) (base h₀ : Heap) (L : Addr) (m : Str → Option Value) (news : List (Addr × Obj)) (s : Shared) (Q E : Value → Shared → Prop),
    Below A₀ base outer h₀ → Fr h₀ L s.heap m → (Mine.hd.heap_39 w.params).In h₀ → News h₀ L s.heap news → Top p loose mean mg mb h₀ → cs.kind = .function → dp + d < recursionLimit → un + u < cLine →
    (∀ q ∈ led, q ∈ news) →
    (∀ v nw h' tk, R v nw → Fr h₀ L h' m → News h₀ L h' (nw ++ news) → (∀ q ∈ news, ∀ p ∈ nw, q.1 < p.1) → Q v { s with heap := h', toks := tk }) →
    (∀ e sp h' tk g, X sp → Fr h₀ L g m → Exc base (envX cn cs L a ccd cl :: outer) g news e sp h' → E (.ref e) { s with heap := h', toks := tk }) →
    wpR (model PySem.Challenge.pw_pf0076_01 w) (ktrTop dp un gd cn cs L a ccd cl outer) (call (.ref f) vs) Q E s
theorem CtrR.use {w : World} {f : Addr} {vs : List Value} {d u : Nat} {led : List (Addr × Obj)} {R : Value → List (Addr × Obj) → Prop} {X : Int → Prop} (C : CtrR w f vs d u led R X)
    {p : Program} {loose : List Str} {mean : ExcName → Option Value} {mg mb : Str → Option Value} {dp un : Nat} {gd : Option (List Code)} {cn : Str} {cs : Scope} {a : Addr} {ccd : Value} {cl : List (Str × Addr)}
    {outer : List Env} {A₀ : Around} {base h₀ : Heap} {L : Addr} {m : Str → Option Value} {news : List (Addr × Obj)} {s : Shared} {Q E : Value → Shared → Prop}
    (B : Below A₀ base outer h₀) (F : Fr h₀ L s.heap m) (K : (Mine.hd.heap_39 w.params).In h₀) (N : News h₀ L s.heap news) (T : Top p loose mean mg mb h₀) (hk : cs.kind = .function) (hd : dp + d < recursionLimit) (hu : un + u < cLine)
    (hl : ∀ q ∈ led, q ∈ news)
    (he : ∀ e sp h' tk g, X sp → Fr h₀ L g m → Exc base (envX cn cs L a ccd cl :: outer) g news e sp h' → E (.ref e) { s with heap := h', toks := tk })
    (hr : ∀ v nw h' tk, R v nw → Fr h₀ L h' m → News h₀ L h' (nw ++ news) → (∀ q ∈ news, ∀ p ∈ nw, q.1 < p.1) → Q v { s with heap := h', toks := tk }) :
    wpR (model PySem.Challenge.pw_pf0076_01 w) (ktrTop dp un gd cn cs L a ccd cl outer) (call (.ref f) vs) Q E s :=
  C p loose mean mg mb dp un gd cn cs a ccd cl outer A₀ base h₀ L m news s Q E B F K N T hk hd hu hl hr he

end
section
section
variable {M : Model} {A : Around} {E : Value → Shared → Prop} {s : Shared}
theorem badC_builtin {id : String} {args : Args} (h : badC (.builtin id args) = false) : badIds.contains id = false := h
theorem exported_R {self : Value} {Q : Bool → Shared → Prop} (h : Q false s) : wpR M A (Builtin.Bytes.exported self) Q E s := by
  unfold Builtin.Bytes.exported
  refine wpR_stack fun st hst => wpR_pure ?_
  have key : ∀ b, b = false → Q b s := fun b e => e ▸ h
  refine key _ (List.any_eq_false.mpr fun x hx => ?_)
  have hb := hst x hx
  obtain ⟨c, p⟩ := x
  intro hc
  cases c with
  | builtin id args =>
    obtain ⟨pos, kw⟩ := args
    have hb := badC_builtin hb
    have n1 : id ≠ "bytearray.__contains__" := fun e => by subst e; revert hb; decide +kernel
    have n2 : id ≠ "bytearray.__mod__" := fun e => by subst e; revert hb; decide +kernel
    have n3 : id ≠ "bytearray.__rmod__" := fun e => by subst e; revert hb; decide +kernel
    have n4 : id ≠ "_struct.pack_into.held" := fun e => by subst e; revert hb; decide +kernel
    have n5 : id ≠ "bytearray.find.held" := fun e => by subst e; revert hb; decide +kernel
    clear hb hst hx key h
    delta Builtin.Bytes.exported.match_1 at hc
    have e9 : ∀ {a b : Bool}, (a && b) = true → b = true := fun {a b} h => by cases a with | false => cases h | true => exact h
    have n6 : Builtin.Bytes.decodersThatHold.contains id = false := by
      cases hh : Builtin.Bytes.decodersThatHold.contains id with
      | false => rfl
      | true =>
        have hb2 : badIds.contains id = false := hb
        unfold badIds at hb2
        rw [List.contains_eq_mem] at hb2 hh
        simp only [decide_eq_false_iff_not, List.mem_append, not_or, decide_eq_true_eq] at hb2 hh
        exact absurd hh hb2.2
    delta Builtin.Bytes.exported._sparseCasesOn_1 at hc
    dsimp only at hc
    rw [dif_neg n1, dif_neg n2, dif_neg n3, dif_neg n4, dif_neg n5] at hc
    cases pos with
    | nil => cases hc
    | cons v r => exact Bool.false_ne_true (n6.symm.trans (e9 hc))
  | _ => cases hc
end
namespace F
theorem mro_ba : mroOf (.type "bytearray") = pure [.type "bytearray", .type "object"] := by rw [mroOf_type]; kernel_rfl
theorem lookup_ba_new : typeLookup (.type "bytearray") "__new__" = pure (some (.builtin "bytearray.__new__")) := by rw [typeLookup_type, builtinLookup_eq_fast]; kernel_rfl
theorem slot_ba_init : Slot "bytearray" "__init__" "bytearray.__init__" :=
  .of (owner := "bytearray") (n := "__init__") (by rw [typeLookup_type, builtinLookup_eq_fast]; kernel_rfl) (by decide +kernel) (by decide +kernel) (by decide +kernel)
    (by first | exact .inl (by decide +kernel) | exact .inr (by decide +kernel)) (by rw [isSubtype_type]; kernel_rfl)
theorem called_ba : TypeCalled "bytearray" "bytearray.__new__" "bytearray.__init__" :=
  ⟨by decide +kernel, by decide +kernel, ⟨_, _, mro_ba⟩, madeBy_type mro_ba lookup_ba_new (by decide +kernel), by decide +kernel, by rw [isSubtype_type]; kernel_rfl, slot_ba_init⟩
theorem typeCall_ba : checkTypeCall "bytearray" ⟨[], []⟩ = pure () := by kernel_rfl
theorem newCall_ba : checkBuiltinCall "bytearray.__new__" ⟨[.type "bytearray"], []⟩ = pure () := by kernel_rfl
theorem entry_ba_new : entryFor table "bytearray.__new__" = some Builtin.«list.__new__» := entryFor_alias (id' := "list.__new__") (by kernel_rfl) (by decide +kernel) (by decide +kernel) (by kernel_rfl)
theorem entry_ba_init : entryFor table "bytearray.__init__" = some Builtin.«bytearray.__init__» := by first | exact entryFor_of_fast (by kernel_rfl) | exact entryFor_of_tree (by kernel_rfl)
theorem entry_ba_iadd : entryFor table "bytearray.__iadd__" = some Builtin.«bytearray.__iadd__» := by first | exact entryFor_of_fast (by kernel_rfl) | exact entryFor_of_tree (by kernel_rfl)
theorem plain_ba_new : plainId "bytearray.__new__" = true := by decide +kernel
theorem owner_ba_new : ("bytearray.__new__".splitOn ".__new__").headD "" = "bytearray" := by simp +decide [String.splitOn, String.splitOnAux]
theorem sub_ba : isSubtype (.type "bytearray") (.type "bytearray") = pure true := by rw [isSubtype_type]; kernel_rfl
theorem ba_release : typeLookup (.type "bytearray") "__release_buffer__" = pure (some (.builtin "bytearray.__release_buffer__")) := by rw [typeLookup_type, builtinLookup_eq_fast]; kernel_rfl
theorem ba_buffer : typeLookup (.type "bytearray") "__buffer__" = pure (some (.builtin "bytearray.__buffer__")) := by rw [typeLookup_type, builtinLookup_eq_fast]; kernel_rfl
theorem bytes_buffer : typeLookup (.type "bytes") "__buffer__" = pure (some (.builtin "bytes.__buffer__")) := by rw [typeLookup_type, builtinLookup_eq_fast]; kernel_rfl
theorem slot_ba_iadd : Slot "bytearray" "__iadd__" "bytearray.__iadd__" :=
  .of (owner := "bytearray") (n := "__iadd__") (by rw [typeLookup_type, builtinLookup_eq_fast]; kernel_rfl) (by decide +kernel) (by decide +kernel) (by decide +kernel)
    (by first | exact .inl (by decide +kernel) | exact .inr (by decide +kernel)) (by rw [isSubtype_type]; kernel_rfl)
end F
section
variable {prog : Program} {w : World} {A : Around} {E : Value → Shared → Prop} {s : Shared} {R : Result → Shared → Prop}
theorem code_ba_new {Q₁ : Value → Shared → Prop} (h : Q₁ (.ref s.heap.objs.size) { s with heap := s.heap.push { cls := .type "bytearray", data := .bytearray #[] } }) :
    codeAny (model prog w) A (.call (.builtin "bytearray.__new__") ⟨[.type "bytearray"], []⟩) (wants Q₁ E) s := by
  refine codeAny_of_tree ?_
  show wpAny _ A.in1 (do checkBuiltinCall "bytearray.__new__" ⟨[.type "bytearray"], []⟩; again (.builtin "bytearray.__new__" ⟨[.type "bytearray"], []⟩)) _ _ s
  refine wpAny_bind (wpAny_of_eq F.newCall_ba (wpAny_pure ⟨plainId_quiet F.plain_ba_new _, codeAny_builtin_stack F.entry_ba_new rfl fun p st => ?_⟩))
  rw [Around.under_plainId F.plain_ba_new _]
  have hsub := F.sub_ba
  have hown := F.owner_ba_new
  obtain ⟨hp, g, d, tk, os⟩ := s
  wp_walk
  rw [hown]
  wp_walk
  exact h
theorem codeR_builtin {id : String} {args : Args} {b : Builtin} (hid : badIds.contains id = false) (hb : entryFor table id = some b)
    (h : wpR (model prog w) (A.under (.builtin id args)) (b args)
      (fun fin s' => match fin with | .done f => R (.ok f) s' | .again c' => c'.quiet = true ∧ badC c' = false ∧ codeR (model prog w) A c' R s') (fun e s' => R (.error e) s') s) :
    codeR (model prog w) A (.builtin id args) R s := by
  refine codeR_of_tree ?_
  show wpR _ _ (match entryFor table id with | some b => b args | none => unsupported ((withoutEnding? id "#data").getD id)) _ _ s
  rw [hb]; exact h
end

end
section
noncomputable abbrev baO (b : Array UInt8) : Obj := { cls := .type "bytearray", data := .bytearray b }
theorem ba_type {s : Shared} {x : Addr} {b : Array UInt8} (h : s.heap.get? x = some (baO b)) : s.TypeIs (.ref x) "bytearray" := ⟨_, h, rfl⟩
section
variable {M : Model} {A : Around} {E : Value → Shared → Prop} {s : Shared} {x : Addr} {b : Array UInt8}
theorem ownRelease_ba {Q : Bool → Shared → Prop} (hx : s.heap.get? x = some (baO b)) (h : Q false s) : wpAny M A (Builtin.Bytes.ownRelease (.ref x)) Q E s := by
  unfold Builtin.Bytes.ownRelease Builtin.Bytes.slotIsOwn
  refine wpAny_bind (wpAny_bind (wpAny_specialOf (ba_type hx) F.ba_release ?_))
  dsimp only
  rw [if_neg (by decide +kernel)]
  refine wpAny_isInstance (T := "bytearray") (b := true) (ba_type hx) ?_ (wpAny_pure h)
  rw [show "bytearray.__release_buffer__".dropRight ("__release_buffer__".length + 1) = "bytearray" from by decide +kernel]
  exact F.sub_ba
theorem exports_ba {Q : Bool → Shared → Prop} (hx : s.heap.get? x = some (baO b)) (h : Q false s) : wpR M A (Builtin.Bytes.exported (.ref x) <||> (do return decide ((← Builtin.Bytes.exportsOf (.ref x)) > 0))) Q E s := by
  show wpR M A (Builtin.Bytes.exported (.ref x) >>= _) Q E s
  refine wpR_bind (exported_R ?_)
  show wpR M A (do return decide ((← Builtin.Bytes.exportsOf (.ref x)) > 0)) Q E s
  unfold Builtin.Bytes.exportsOf
  refine wpR_bindA (wpAny_bind (wpAny_load hx ?_))
  exact wpAny_pure (wpR_pure h)
theorem write_ba {f : Array UInt8 → Array UInt8} {Q : Unit → Shared → Prop} (hx : s.heap.get? x = some (baO b)) (hz : (f b).size ≤ sizeLine)
    (h : ∀ h', Heap.SameBut x s.heap h' → h'.get? x = some (baO (f b)) → Q () { s with heap := h' }) : wpAny M A (Builtin.Bytes.write (.ref x) f) Q E s := by
  show wpAny _ _ (updateBytearray x f) _ _ _
  unfold updateBytearray
  refine wpAny_bind (wpAny_load hx ?_)
  show wpAny _ _ (update x (Obj.mapBytearray f) >>= fun _ => lookBehind x) _ _ _
  have hx2 : (s.heap.update x (Obj.mapBytearray f)).get? x = some (baO (f b)) := Heap.get?_update_self (Obj.mapBytearray f) hx rfl
  refine wpAny_bind (wpAny_update hx ?_)
  refine wpAny_lookBehind hx2 ?_ (h _ (Heap.SameBut.update ..) hx2)
  show (if (f b).size > sizeLine then some "bytearray:memory" else none) = none
  rw [if_neg (Nat.not_lt.mpr hz)]
end
section
variable {prog : Program} {w : World} {A : Around} {E : Value → Shared → Prop} {s : Shared} {R : Result → Shared → Prop}
theorem ba_bind : Builtin.Bytes.bindOptional "bytearray.__init__" "bytearray" ["source", "encoding", "errors"] [] [] = pure [none, none, none] := by kernel_rfl
theorem ba_init {x : Addr} {Q : Fin → Shared → Prop} (hx : s.heap.get? x = some (baO #[])) (h : ∀ h', Heap.SameBut x s.heap h' → h'.get? x = some (baO #[]) → Q (.done (.ret .none)) { s with heap := h' }) :
    wpR (model prog w) A (Builtin.«bytearray.__init__» ⟨[.ref x], []⟩) Q E s := by
  unfold Builtin.«bytearray.__init__»
  dsimp only
  refine wpR_bindA (ownRelease_ba hx ?_)
  rw [if_neg (by decide)]
  refine wpR_bindA (wpAny_of_eq ba_bind ?_)
  dsimp only
  refine wpR_bindA (wpAny_of_eq (a := ()) rfl ?_)
  refine wpR_bindA (wpAny_of_eq (a := ()) rfl ?_)
  refine wpR_bind (exports_ba hx ?_)
  rw [if_neg (by decide)]
  refine wpR_bindA (write_ba hx (by show (0 : Nat) ≤ sizeLine; exact Nat.zero_le _) fun h' hs hx' => ?_)
  refine wpR_of ?_
  exact wpAny_pure (h h' hs hx')
theorem codeR_call_builtin {id : String} {args : Args} {b : Builtin} (hq : plainId id = true) (hid : badIds.contains id = false) (hb : entryFor table id = some b)
    (h : wpAny (model prog w) A.in1 (checkBuiltinCall id args) (fun _ s₁ => wpR (model prog w) A.in1 (b args)
      (fun fin s' => match fin with | .done f => R (.ok f) s' | .again c' => c'.quiet = true ∧ badC c' = false ∧ codeR (model prog w) A c' R s') (fun e s' => R (.error e) s') s₁)
      (fun e s' => R (.error e) s') s) : codeR (model prog w) A (.call (.builtin id) args) R s := by
  refine codeR_of_tree ?_
  show wpR _ A.in1 (do checkBuiltinCall id args; again (.builtin id args)) _ _ s
  refine wpR_bindA (wpAny_mono h (fun _ s₁ h₁ => wpR_pure ⟨plainId_quiet hq args, hid, codeR_builtin hid hb ?_⟩) fun _ _ x => x)
  rw [Around.under_plainId hq args]
  exact h₁
theorem ba_call {Q : Value → Shared → Prop} (h : ∀ h', (∀ b o, s.heap.get? b = some o → h'.get? b = some o) → h'.get? s.heap.objs.size = some (baO #[]) → h'.objs.size = s.heap.objs.size + 1 → Q (.ref s.heap.objs.size) { s with heap := h' }) :
    wpR (model prog w) A (call (.type "bytearray") []) Q E s := by
  have ft := F.called_ba
  obtain ⟨c, tl, hmro⟩ := ft.mro
  have hmade := ft.made
  refine wpR_call (codeR_of_tree ?_)
  show wpR _ _ (callAny (.type "bytearray") _) _ _ _
  refine wpR_pure ⟨Code.quiet_builtin _ (by decide +kernel), by decide +kernel, codeR_builtin (by decide +kernel) F.entry_type_call ?_⟩
  rw [Around.under_plain (weight_type_call_type "bytearray" [] []) rfl]
  unfold Builtin.«type.__call__»
  dsimp only
  rw [if_neg (by decide)]
  rw [if_neg (by have := ft.canCreate; rw [this]; decide)]
  refine wpR_bindA (wpAny_of_eq F.typeCall_ba ?_)
  refine wpR_bindA (wpAny_of_eq hmro ?_)
  rw [if_neg (by simp)]
  refine wpR_bindA (wpAny_of_eq hmade ?_)
  dsimp only
  refine wpR_bindA (wpAny_pure ?_)
  refine wpR_bindA (wpAny_holding (wpAny_call (codeAny_mono (code_ba_new (E := fun _ _ => False) (Q₁ := fun v s' => v = .ref s.heap.objs.size ∧ s' = { s with heap := s.heap.push { cls := .type "bytearray", data := .bytearray #[] } }) ⟨rfl, rfl⟩) fun r s' hr => ?_)))
  cases r with
  | error e => exact hr.elim
  | ok fl =>
    cases fl with
    | ret v =>
      obtain ⟨rfl, rfl⟩ := hr
      have hx : (s.heap.push (baO #[])).get? s.heap.objs.size = some (baO #[]) := Heap.get?_push_size _ rfl
      have hT : ({ s with heap := s.heap.push (baO #[]) } : Shared).TypeIs (.ref s.heap.objs.size) "bytearray" := ⟨_, hx, rfl⟩
      refine wpR_bindA (wpAny_isInstance (T := "bytearray") (b := true) hT F.sub_ba ?_)
      rw [if_neg (by decide)]
      refine wpR_bind (wpR_holding ?_)
      unfold callSpecial?
      refine wpR_bindA (wpAny_specialOf hT F.slot_ba_init.lookup ?_)
      dsimp only
      refine wpR_holding ?_
      refine wpR_bindA (wpAny_of_eq (F.slot_ba_init.bind _) ?_)
      dsimp only
      refine wpR_bind (wpR_call (codeR_call_builtin F.slot_ba_init.plain (by decide +kernel) F.entry_ba_init (F.slot_ba_init.check _ _ _ _ _ _ _ _ hT (by kernel_rfl) ?_)))
      refine wpR_mono (ba_init hx (Q := fun fin s' => ∃ h', Heap.SameBut s.heap.objs.size (s.heap.push (baO #[])) h' ∧ h'.get? s.heap.objs.size = some (baO #[]) ∧ fin = .done (.ret .none) ∧ s' = { s with heap := h' }) fun h' hs hx' => ⟨h', hs, hx', rfl, rfl⟩) (fun fin s' hf => ?_) fun _ _ x => x
      obtain ⟨h', hs, hx', rfl, rfl⟩ := hf
      refine wpR_pure ?_
      dsimp only
      rw [if_neg (by decide)]
      refine wpR_pure ?_
      refine h h' (fun b o e => ?_) hx' ?_
      · exact hs.extBut b o (Nat.ne_of_lt (Heap.lt_size e)) (Heap.get?_push_of_some _ e)
      · have := hs.1
        rw [Heap.size_push] at this
        first | exact this | exact this.symm | trace_state
    | _ => exact hr.elim
end

end
section
namespace F
theorem ba_add : typeLookup (.type "bytearray") (dunder "add") = pure (some (.builtin "bytearray.__add__")) := by rw [typeLookup_type, builtinLookup_eq_fast]; kernel_rfl
theorem ba_radd : typeLookup (.type "bytearray") (dunderR "add") = pure none := by rw [typeLookup_type, builtinLookup_eq_fast]; kernel_rfl
theorem by_add : typeLookup (.type "bytes") (dunder "add") = pure (some (.builtin "bytes.__add__")) := by rw [typeLookup_type, builtinLookup_eq_fast]; kernel_rfl
theorem by_radd : typeLookup (.type "bytes") (dunderR "add") = pure none := by rw [typeLookup_type, builtinLookup_eq_fast]; kernel_rfl
theorem by_release : typeLookup (.type "bytes") "__release_buffer__" = pure none := by rw [typeLookup_type, builtinLookup_eq_fast]; kernel_rfl
theorem by_sub : isSubtype (.type "bytes") (.type "bytes") = pure true := by rw [isSubtype_type]; kernel_rfl
theorem ba_fill : fillsNumberSlot (.type "bytearray") "add" = pure false := PySem.fillsNumberSlot_seq ba_add (by decide +kernel) ba_radd (by decide +kernel)
theorem by_fill : fillsNumberSlot (.type "bytes") "add" = pure false := PySem.fillsNumberSlot_seq by_add (by decide +kernel) by_radd (by decide +kernel)
theorem ba_iadd : typeLookup (.type "bytearray") (dunderI "add") = pure (some (.builtin "bytearray.__iadd__")) := by rw [typeLookup_type, builtinLookup_eq_fast]; kernel_rfl
end F
section
variable {prog : Program} {w : World} {A : Around} {E : Value → Shared → Prop} {s : Shared} {R : Result → Shared → Prop} {x : Addr} {b c : Array UInt8} {t : Tok}
theorem by_type : s.TypeIs (.bytes c t) "bytes" := by first | exact rfl | exact trivial | exact typeIs_bytes _ _ _
theorem slotOwn_by {Q : Bool → Shared → Prop} {M : Model} (h : Q true s) : wpAny M A (Builtin.Bytes.slotIsOwn (.bytes c t) "__buffer__") Q E s := by
  unfold Builtin.Bytes.slotIsOwn
  refine wpAny_bind (wpAny_specialOf by_type F.bytes_buffer ?_)
  dsimp only
  rw [if_neg (by decide +kernel)]
  refine wpAny_isInstance (T := "bytes") (b := true) by_type ?_ h
  rw [show "bytes.__buffer__".dropRight ("__buffer__".length + 1) = "bytes" from by decide +kernel]
  exact F.by_sub
theorem takeQ {id : String} {Q : Option (Array UInt8 × Option Value) → Shared → Prop} {M : Model} (h : Q (some (c, none)) s) : wpAny M A (Builtin.Bytes.takeBufferQuiet? id (.bytes c t) 0) Q E s := by
  unfold Builtin.Bytes.takeBufferQuiet?
  refine wpAny_bind (wpAny_attempt ?_)
  unfold Builtin.Bytes.takeBuffer?
  refine wpAny_bind (wpAny_specialOf by_type F.bytes_buffer ?_)
  dsimp only
  refine wpAny_bind (slotOwn_by ?_)
  rw [if_neg (by decide)]
  refine wpAny_bind (wpAny_specialOf by_type F.bytes_buffer ?_)
  unfold Builtin.Bytes.buffer?
  refine wpAny_bind (wpAny_bind (wpAny_specialOf by_type F.bytes_buffer ?_))
  dsimp only
  refine wpAny_bind (slotOwn_by ?_)
  rw [if_neg (by decide)]
  refine wpAny_bind (wpAny_specialOf by_type F.bytes_buffer ?_)
  refine wpAny_bind ?_
  unfold Builtin.Bytes.ownRelease Builtin.Bytes.slotIsOwn
  refine wpAny_bind (wpAny_bind (wpAny_specialOf by_type F.by_release (wpAny_pure (wpAny_pure ?_))))
  rw [if_neg (by decide)]
  unfold Builtin.Bytes.payload Builtin.Bytes.payload?
  refine wpAny_bind (wpAny_bind (wpAny_pure (wpAny_pure (wpAny_pure (wpAny_pure (wpAny_pure h))))))
theorem ba_iadd_tree {Q : Fin → Shared → Prop} (hx : s.heap.get? x = some (baO b)) (hz : b.size + c.size ≤ sizeLine)
    (h : ∀ h', Heap.SameBut x s.heap h' → h'.get? x = some (baO (b ++ c)) → Q (.done (.ret (.ref x))) { s with heap := h' }) :
    wpR (model prog w) A (Builtin.«bytearray.__iadd__» ⟨[.ref x, .bytes c t], []⟩) Q E s := by
  unfold Builtin.«bytearray.__iadd__»
  refine wpR_bindA (wpAny_of_eq (a := (.ref x, [.bytes c t])) rfl ?_)
  dsimp only
  refine wpR_bindA (takeQ ?_)
  dsimp only
  show wpR _ _ (do
    if !c.isEmpty then
      if Builtin.Bytes.sameRef (.ref x) (.bytes c t) then
        rule "bytearray.__iadd__.itself"; raiseError "BufferError" "Existing exports of data: object cannot be re-sized"
      Builtin.Bytes.checkResize (.ref x)
    if Builtin.Bytes.tooLong ((← Builtin.Bytes.payload (.ref x)).size + c.size) then unsupported "bytearray.__iadd__:memory"
    Builtin.Bytes.write (.ref x) (· ++ c)
    ret (.ref x)) _ _ _
  have rest : wpR (model prog w) A (do
    if Builtin.Bytes.tooLong ((← Builtin.Bytes.payload (.ref x)).size + c.size) then unsupported "bytearray.__iadd__:memory"
    Builtin.Bytes.write (.ref x) (· ++ c)
    ret (.ref x)) Q E s := by
    refine wpR_bindA ?_
    unfold Builtin.Bytes.payload Builtin.Bytes.payload?
    refine wpAny_bind (wpAny_bind (wpAny_load hx (wpAny_pure (wpAny_pure ?_))))
    rw [if_neg (by simp only [Builtin.Bytes.tooLong, decide_eq_true_eq]; omega)]
    exact wpR_bindA (write_ba hx (by rw [Array.size_append]; exact hz) fun h' hs hx' => wpR_of (wpAny_pure (h h' hs hx')))
  cases hc : c.isEmpty with
  | true =>
    rw [if_neg (by decide)]
    exact rest
  | false =>
    rw [if_pos (by decide)]
    dsimp only
    rw [if_neg (show ¬ (Builtin.Bytes.sameRef (Value.ref x) (Value.bytes c t)) = true from Bool.false_ne_true)]
    refine wpR_bind ?_
    unfold Builtin.Bytes.checkResize
    refine wpR_bind (exports_ba hx ?_)
    rw [if_neg (by decide)]
    exact wpR_pure rest
theorem ba_bin1 {Q : Option Value → Shared → Prop} {M : Model} (hT : s.TypeIs (.ref x) "bytearray") (h : Q none s) : wpAny M A (binaryOp1 "add" (.ref x) (.bytes c t)) Q E s := by
  refine wpAny_bind (wpAny_typeOf hT (wpAny_bind (wpAny_typeOf by_type (wpAny_bind (wpAny_of_eq F.ba_fill ?_)))))
  refine wpAny_bind (wpAny_of_eq F.by_fill ?_)
  exact wpAny_pure h
theorem ba_iaddR {Q : Value → Shared → Prop} (hx : s.heap.get? x = some (baO b)) (hz : b.size + c.size ≤ sizeLine)
    (h : ∀ h', Heap.SameBut x s.heap h' → h'.get? x = some (baO (b ++ c)) → Q (.ref x) { s with heap := h' }) :
    wpR (model prog w) A (inplaceOp .Add (.ref x) (.bytes c t)) Q E s := by
  have hT := ba_type hx
  unfold inplaceOp
  refine wpR_holding ?_
  have hfi : fillsInplaceSlot (.type "bytearray") "add" (Operator.Add == .Add) = pure false := by
    unfold fillsInplaceSlot
    show (typeLookup (.type "bytearray") (dunderI "add") >>= fun fi => pure (fi.isSome && !isSeqSlot fi)) = pure false
    rw [F.ba_iadd]; rfl
  have hsi : seqSlot? (.type "bytearray") (dunderI "add") = pure (some (.builtin "bytearray.__iadd__")) := PySem.seqSlot_of F.ba_iadd (by decide +kernel)
  refine wpR_bindA (wpAny_typeOf hT (wpR_bindA (wpAny_of_eq hfi ?_)))
  rw [if_neg (by decide)]
  refine wpR_bindA ?_
  refine ba_bin1 hT ?_
  refine wpR_bindA (wpAny_of_eq hsi ?_)
  refine wpR_bindA (wpAny_rule ?_)
  refine wpR_call (codeR_call_builtin F.slot_ba_iadd.plain (by decide +kernel) F.entry_ba_iadd (F.slot_ba_iadd.check _ _ _ _ _ _ _ _ hT (by kernel_rfl) ?_))
  refine wpR_mono (ba_iadd_tree hx hz (Q := fun fin s' => ∃ h', Heap.SameBut x s.heap h' ∧ h'.get? x = some (baO (b ++ c)) ∧ fin = .done (.ret (.ref x)) ∧ s' = { s with heap := h' }) fun h' hs hx' => ⟨h', hs, hx', rfl, rfl⟩) (fun fin s' hf => ?_) fun _ _ x => x
  obtain ⟨h', hs, hx', rfl, rfl⟩ := hf
  exact h h' hs hx'
end

end
section
namespace F
theorem ba_no_bytes : typeLookup (.type "bytearray") "__bytes__" = pure none := by rw [typeLookup_type, builtinLookup_eq_fast]; kernel_rfl
theorem ba_no_index : typeLookup (.type "bytearray") "__index__" = pure none := by rw [typeLookup_type, builtinLookup_eq_fast]; kernel_rfl
end F
section
variable {prog : Program} {w : World} {A : Around} {E : Value → Shared → Prop} {s : Shared} {R : Result → Shared → Prop} {x : Addr} {b c : Array UInt8} {t : Tok}
theorem slotOwn_ba {Q : Bool → Shared → Prop} {M : Model} (hx : s.heap.get? x = some (baO b)) (h : Q true s) : wpAny M A (Builtin.Bytes.slotIsOwn (.ref x) "__buffer__") Q E s := by
  unfold Builtin.Bytes.slotIsOwn
  refine wpAny_bind (wpAny_specialOf (ba_type hx) F.ba_buffer ?_)
  dsimp only
  rw [if_neg (by decide +kernel)]
  refine wpAny_isInstance (T := "bytearray") (b := true) (ba_type hx) ?_ h
  rw [show "bytearray.__buffer__".dropRight ("__buffer__".length + 1) = "bytearray" from by decide +kernel]
  exact F.sub_ba
theorem buffer_ba {Q : Option (Array UInt8) → Shared → Prop} {M : Model} (hx : s.heap.get? x = some (baO b)) (h : Q (some b) s) : wpAny M A (Builtin.Bytes.buffer? "bytes.__new__" (.ref x) true) Q E s := by
  unfold Builtin.Bytes.buffer?
  refine wpAny_bind (wpAny_specialOf (ba_type hx) F.ba_buffer ?_)
  dsimp only
  refine wpAny_bind (slotOwn_ba hx ?_)
  rw [if_neg (by decide)]
  refine wpAny_bind (wpAny_specialOf (ba_type hx) F.ba_buffer ?_)
  refine wpAny_bind (ownRelease_ba hx ?_)
  rw [if_neg (by decide)]
  unfold Builtin.Bytes.payload Builtin.Bytes.payload?
  exact wpAny_bind (wpAny_bind (wpAny_bind (wpAny_load hx (wpAny_pure (wpAny_pure (wpAny_pure h))))))
theorem ba_bytes_new {Q : Value → Shared → Prop} (hx : s.heap.get? x = some (baO b)) (hz : b.size ≤ sizeLine) (h : ∀ t k, Q (.bytes b t) { s with toks := k }) :
    codeAny (model prog w) A (.call (.builtin "bytes.__new__") ⟨[.type "bytes", .ref x], []⟩) (wants Q E) s := by
  refine codeAny_of_tree ?_
  show wpAny _ A.in1 (do checkBuiltinCall "bytes.__new__" ⟨[.type "bytes", .ref x], []⟩; again (.builtin "bytes.__new__" ⟨[.type "bytes", .ref x], []⟩)) _ _ s
  refine wpAny_bind (wpAny_of_eq (PySem.F.bm_newCall _) (wpAny_pure ⟨plainId_quiet PySem.F.bm_plain _, codeAny_builtin PySem.F.bm_entry ?_⟩))
  rw [Around.under_plainId PySem.F.bm_plain _]
  have hT := ba_type hx
  unfold Builtin.«bytes.__new__»
  refine wpAny_bind (wpAny_of_eq (a := true) rfl ?_)
  refine bm_if_false rfl ?_
  refine wpAny_bind (wpAny_of_eq PySem.F.bm_sub ?_)
  refine bm_if_false rfl ?_
  refine wpAny_bind (wpAny_of_eq (PySem.F.bm_bind _) ?_)
  refine wpAny_bind (wpAny_of_eq (a := ()) rfl ?_)
  refine wpAny_bind (wpAny_of_eq (a := ()) rfl ?_)
  refine bm_if_false rfl ?_
  refine wpAny_bind (wpAny_specialOf hT F.ba_no_bytes ?_)
  refine wpAny_bind (wpAny_bind ?_)
  show wpAny _ _ (load x >>= _) _ _ _
  refine wpAny_bind (wpAny_load hx ?_)
  refine wpAny_pure (wpAny_pure ?_)
  refine bm_if_false rfl ?_
  refine wpAny_bind (wpAny_specialOf hT F.ba_no_index ?_)
  refine bm_if_true rfl ?_
  first
    | show wpAny _ _ (Builtin.Bytes.buffer? "bytes.__new__" (.ref x) true >>= _) _ _ _
    | (refine wpAny_bind ?_; show wpAny _ _ (Builtin.Bytes.buffer? "bytes.__new__" (.ref x) true >>= _) _ _ _)
  refine wpAny_bind (buffer_ba hx ?_)
  refine wpAny_bind (wpAny_rule ?_)
  refine wpAny_bind (wpAny_mkBytes ?_ hz)
  show wpAny _ _ (if (Value.type "bytes" == Value.type "bytes") = true then _ else _) _ _ _
  refine bm_if_true (by decide) ?_
  first
    | exact wpAny_pure (h _ _)
    | exact wpAny_bind (wpAny_pure (wpAny_pure (h _ _)))
    | trace_state
theorem ba_bytes {Q : Value → Shared → Prop} (hx : s.heap.get? x = some (baO b)) (hz : b.size ≤ sizeLine) (h : ∀ t k, Q (.bytes b t) { s with toks := k }) : wpAny (model prog w) A (call (.type "bytes") [.ref x]) Q E s := by
  refine callType_codes (Q₁ := fun obj s₁ => s₁.TypeIs obj "bytes" ∧ Q obj s₁) PySem.F.bm_called (PySem.F.bm_typeCall _) PySem.F.entry_object_init
    (ba_bytes_new hx hz fun t k => ⟨PySem.W.typeIs_bytes _ _ _, h t k⟩) fun obj s₁ h₁ => ?_
  exact ⟨h₁.1, PySem.F.args_object_init_2 obj _, object_init_meets PySem.F.bm_called.init.lookup PySem.F.bm_called.made (by decide) prog w A.in1 _ s₁ ⟨h₁.1, rfl, h₁.2⟩⟩
end

end
section
section
variable {prog : Program} {w : World} {A : Around} {E : Value → Shared → Prop} {s : Shared} {env : Env} {h₀ : Heap} {x : PySem.Str} {body : List Stmt} {Q : Flow → Shared → Prop}
end

end
section
example : True := by
  w_top off
  trivial
open PySem.Builtin PySem.Builtin.Str PySem.StrLaws in
theorem occ_go (s sub : PySem.Str) (hi : Nat) : ∀ (l : List Nat) (free : Nat), (∀ i ∈ l, free ≤ i) →
    (forIn l ((#[] : Array Nat), free) (occBody s sub hi 1)).run.fst.toList = (l.find? (fun i => decide (i + sub.length ≤ hi) && subAt s sub i)).toList
  | [], free, _ => by simp
  | a :: l, free, hf => by
    rw [List.forIn_cons]
    unfold occBody
    have ha : free ≤ a := hf a (List.mem_cons_self ..)
    by_cases hc : a + sub.length ≤ hi ∧ subAt s sub a = true
    · have c1 : (((#[] : Array Nat), free).fst.size < 1 ∧ ((#[] : Array Nat), free).snd ≤ a) ∧ a + sub.length ≤ hi := ⟨⟨by simp, ha⟩, hc.1⟩
      rw [if_pos ⟨c1, hc.2⟩, List.find?_cons_of_pos (by simp [hc.1, hc.2])]
      have full : ∀ (l : List Nat) (f : Nat), (forIn l ((#[a] : Array Nat), f) (occBody s sub hi 1)).run.fst = #[a] := by
        intro l
        induction l with
        | nil => intro f; rfl
        | cons b r ih =>
          intro f
          rw [List.forIn_cons]
          unfold occBody
          rw [if_neg (by simp)]
          exact ih f
      have := full l (a + sub.length)
      exact congrArg Array.toList this
    · have c2 : ¬ (((((#[] : Array Nat), free).fst.size < 1 ∧ ((#[] : Array Nat), free).snd ≤ a) ∧ a + sub.length ≤ hi) ∧ subAt s sub a = true) := fun h => hc ⟨h.1.2, h.2⟩
      rw [if_neg c2, List.find?_cons_of_neg (by simpa using fun h => by simpa using fun h2 => hc ⟨h, h2⟩)]
      exact occ_go s sub hi l free (fun i hi' => hf i (List.mem_cons_of_mem _ hi'))
open PySem.Builtin PySem.Builtin.Str PySem.StrLaws in
theorem occ1 (s sub : PySem.Str) (lo hi : Nat) : occurrences s sub lo hi 1 = ((List.range' lo (hi + 1 - lo)).find? (fun i => decide (i + sub.length ≤ hi) && subAt s sub i)).toList := by
  rw [occ_eq]
  exact occ_go s sub hi _ lo (fun i h => by simp [List.mem_range'] at h; omega)
noncomputable def findP (s sub : PySem.Str) (lo hi : Nat) : Int := match (List.range' lo (hi + 1 - lo)).find? (fun i => decide (i + sub.length ≤ hi) && Builtin.Str.subAt s sub i) with | some k => (k : Int) | none => -1
open PySem.Builtin PySem.Builtin.Str PySem.StrLaws in
theorem fromIndex_nn (n : Nat) {k : Int} (h : 0 ≤ k) : fromIndex n k = k.toNat := by unfold fromIndex; rw [if_neg (Int.not_lt.mpr h)]; omega
theorem find3_eq (s sub : PySem.Str) (i : Int) (h0 : 0 ≤ i) : Txt.find3 s sub i = findP s sub i.toNat s.length := by
  unfold Txt.find3 findP
  rw [occ1, fromIndex_nn _ h0]
  cases (List.range' i.toNat (s.length + 1 - i.toNat)).find? _ <;> rfl
noncomputable def find4 (x y : PySem.Str) (i j : Int) : Int := findP x y i.toNat (min j.toNat x.length)
section
open PySem.Builtin PySem.Builtin.Str
theorem gives_find4 (x y : PySem.Str) (i j : Int) (t u v z : Tok) (h0 : 0 ≤ i) (h1 : 0 ≤ j) : Gives («str.find» ⟨[.str x t, .str y u, .int i v, .int j z], []⟩) (.int (find4 x y i j)) := by
  show Gives (match occurrences x y (fromIndex x.length i) (min (fromIndex x.length j) x.length) 1 with | k :: _ => retInt k | [] => (do rule "str.find.not-found"; retInt (-1))) _
  rw [fromIndex_nn _ h0, fromIndex_nn _ h1, occ1]
  unfold find4 findP
  cases (List.range' i.toNat (min j.toNat x.length + 1 - i.toNat)).find? _ with
  | none => exact .rule (.of_eq rfl)
  | some k => exact .of_eq rfl
theorem call_find4 {prog : Program} {w : World} {A : Around} {E : Value → Shared → Prop} {s : Shared} {x y : PySem.Str} {t u v z : Tok} {i j : Int} {Q : Value → Shared → Prop} (h0 : 0 ≤ i) (h1 : 0 ≤ j) (hq : Q (.int (find4 x y i j) s.toks) { s with toks := s.toks + 1 }) : wpAny (model prog w) A (call (.builtin "str.find") [.str x t, .str y u, .int i v, .int j z]) Q E s :=
  call_gives F.slot_str_find (typeIs_str _ _ _) F.entry_str_find (F.args_str_find_4 _ _ _ _) (gives_find4 x y i j t u v z h0 h1) hq
end
theorem findP_some {s sub : PySem.Str} {lo hi : Nat} {k : Int} (h : findP s sub lo hi = k) (h0 : 0 ≤ k) : (lo : Int) ≤ k ∧ k + sub.length ≤ hi ∧ Builtin.Str.subAt s sub k.toNat = true := by
  unfold findP at h
  generalize hi' : List.find? _ _ = z at h
  cases z with
  | some i =>
    subst h
    have h1 := List.find?_some hi'
    have h2 := List.mem_of_find?_eq_some hi'
    simp only [Bool.and_eq_true, decide_eq_true_eq] at h1
    simp only [List.mem_range'_1] at h2
    exact ⟨Int.ofNat_le.mpr h2.1, Int.ofNat_le.mpr h1.1, by simpa using h1.2⟩
  | none => subst h; exact absurd h0 (by decide)
theorem subAt_one {s : PySem.Str} {c k : Nat} (h : Builtin.Str.subAt s ⟨#[c]⟩ k = true) : s.cps.toList[k]? = some c := by
  unfold Builtin.Str.subAt at h
  have h2 := congrArg Array.toList (eq_of_beq h)
  simp only [Array.toList_extract, List.extract_eq_drop_take] at h2
  have h3 := congrArg (fun x => x[0]?) h2
  simpa [Str.length] using h3
theorem runEnd_bd (T signs : PySem.Str) (i : Int) (h0 : 0 ≤ i) (h1 : i ≤ T.length) : i ≤ runEnd T signs i ∧ runEnd T signs i ≤ T.length := by
  unfold runEnd
  have := List.IsPrefix.length_le (List.takeWhile_prefix (l := T.cps.toList.drop i.toNat) (fun c => decide (c ∈ signs.cps.toList)))
  rw [List.length_drop] at this
  rw [len_eq] at h1 ⊢
  omega
theorem runEnd_gt (T signs : PySem.Str) (i : Int) (h0 : 0 ≤ i) (h1 : i < T.length) (h : hasS signs (Txt.item T i) = true) : i < runEnd T signs i := by
  rw [item_eq T i h0 h1, hasS_one] at h
  unfold runEnd
  rw [len_eq] at h1
  have hlt : i.toNat < T.cps.toList.length := by omega
  rw [List.drop_eq_getElem_cons hlt, List.takeWhile_cons]
  have : cpA T i.toNat = T.cps.toList[i.toNat] := by unfold cpA; rw [List.getElem?_eq_getElem hlt]; rfl
  rw [this] at h
  rw [if_pos h, List.length_cons]
  omega

end
section
section
variable {prog : Program} {w : World} {A : Around} {E : Value → Shared → Prop} {s : Shared} {h₀ : Heap} {L : Addr} {m : Str → Option Value} {news : List (Addr × Obj)}
theorem ba_callK {Q : Value → Shared → Prop} (F : Fr h₀ L s.heap m) (N : News h₀ L s.heap news)
    (h : ∀ d h', Fr h₀ L h' m → News h₀ L h' ((d, baO #[]) :: news) → (∀ q ∈ news, q.1 < d) → Q (.ref d) { s with heap := h' }) : wpR (model prog w) A (call (.type "bytearray") []) Q E s := by
  refine ba_call fun h' hk hx hs => h _ h' (F.keeps hk) (fun q hq => ?_) (fun q hq => Heap.lt_size (N q hq).1)
  rcases List.mem_cons.mp hq with rfl | hq
  · exact ⟨hx, Nat.ne_of_gt F.ns.lt, none_at_size F⟩
  · exact ⟨hk _ _ (N q hq).1, (N q hq).2⟩
theorem ba_iaddK {Q : Value → Shared → Prop} {x : Addr} {b c : Array UInt8} {t : Tok} (F : Fr h₀ L s.heap m) (N : News h₀ L s.heap ((x, baO b) :: news)) (hx : ∀ q ∈ news, q.1 ≠ x) (hz : b.size + c.size ≤ sizeLine)
    (h : ∀ h', Fr h₀ L h' m → News h₀ L h' ((x, baO (b ++ c)) :: news) → Q (.ref x) { s with heap := h' }) : wpR (model prog w) A (inplaceOp .Add (.ref x) (.bytes c t)) Q E s := by
  have hx0 := N _ (.head _)
  refine ba_iaddR hx0.1 hz fun h' hs hx' => h h' (F.change hs hx0.2.1 hx0.2.2) fun q hq => ?_
  rcases List.mem_cons.mp hq with rfl | hq
  · exact ⟨hx', hx0.2⟩
  · have := N q (.tail _ hq)
    exact ⟨(hs.2 q.1 (hx q hq)).trans this.1, this.2⟩
theorem wpR_Tuple {e : Expr} {rest : List Expr} {env : Env} {k : Nat} {pos : Pos} {Q : Value → Shared → Prop}
    (h : wpR (model prog w) A (eval e env) (fun v s₁ => wpAny (model prog w) A (spliced (backTo pos (starEach rest env))) (fun vs s₂ => wpAny (model prog w) A (newTuple (v :: vs)) Q E s₂) E s₁) E s)
    (he : starEach (e :: rest) env = (false, eval e env) :: starEach rest env) : wpR (model prog w) A (eval (.Tuple (e :: rest) k pos) env) Q E s := by
  have e0 : eval (.Tuple (e :: rest) k pos) env = (do standAt pos; newTuple (← spliced (backTo pos (starEach (e :: rest) env)))) := rfl
  rw [e0, he]
  refine wpR_bindA (wpAny_standAt (wpR_bind ?_))
  show wpR _ _ (spliced ((false, eval e env) :: backTo pos (starEach rest env))) _ _ _
  exact wpR_spliced_cons (wpR_mono h (fun v s₁ h₁ => wpAny_mono h₁ (fun vs s₂ h₂ => wpR_of h₂) fun _ _ x => x) fun _ _ x => x)
end

end
section
section
variable {prog : Program} {w : World} {A : Around} {E : Value → Shared → Prop} {s : Shared} {env : Env}
theorem wpR_Try {body orelse : List Stmt} {h₀ : ExceptHandler} {hs : List ExceptHandler} {pos : Pos} {Q : Flow → Shared → Prop}
    (h : wpR (model prog w) A (execs body env) (fun f s₁ => match f with | .next => wpAny (model prog w) A (execs orelse env) Q E s₁ | f => Q f s₁)
      (fun e s₁ => wpAny (model prog w) A (noteFrame e env) (fun _ s₂ => wpAny (model prog w) A (setFlight e none) (fun _ s₃ => wpAny (model prog w) A (handleBy e env (h₀ :: hs)) Q E s₃) E s₂) E s₁) s) :
    wpR (model prog w) A (exec (.Try body (h₀ :: hs) orelse [] pos) env) Q E s := by
  rw [arm_exec_Try]
  refine wpR_bindA (wpAny_standAt ?_)
  unfold tryStmt
  show wpR (model prog w) A (_ >>= _) Q E s
  refine wpR_bind (wpR_attempt (wpR_mono h (fun f s₁ h₁ => ?_) fun e s₁ h₁ => ?_))
  · cases f <;> first | exact wpR_of h₁ | exact wpR_pure h₁
  · exact wpR_bindA (wpAny_mono h₁ (fun _ _ h₂ => wpR_bindA (wpAny_mono h₂ (fun _ _ h₃ => wpR_of h₃) fun _ _ x => x)) fun _ _ x => x)
end
section
variable {prog : Program} {w : World} {A₀ : Around} {E : Value → Shared → Prop} {s' : Shared} {base g g₀ G : Heap} {outer : List Env} {L a e : Addr} {m : Str → Option Value} {name : Str} {scope : Scope} {cd : Value}
  {n : Str} {b₀ : Stmt} {suite : List Stmt} {pos np : Pos} {rest : List ExceptHandler} {Q : Flow → Shared → Prop} {news : List (Addr × Obj)} {KF : Frag} {sp : Int}
  {p : Program} {loose : List Str} {mean : ExcName → Option Value} {mg mb : Str → Option Value} {x : Str}
theorem caught_exc (R : Exc base (envOf name scope L a cd :: outer) G news e sp s'.heap) (F : Fr g L G m) (K : Below A₀ base outer g) (XB : KF.In base) (TB : Top p loose mean mg mb base)
    (D : KtsDicts (outer.filterMap (·.frame)) g) (T0 : KtsTurn (outer.filterMap (·.frame)) g₀ g)
    (ex : nsIn KF mainGlobals x = some (some (.ref 52))) (q : ktsIn KF 52 "BaseException" = true)
    (k : ∀ h' g' tk oe d es n₁ t₁, KtsTurn (outer.filterMap (·.frame)) g₀ g' → Fr g' L h' (fun y => if y = n then some (.ref e) else m y) → News g' L h' ((e, oe) :: (d, dictOf es n₁) :: news) → oe.cls = .ref 52 → oe.dict = some d → (∃ vs, oe.data = .fields vs) →
      getL (Str.ofString "spot") es = some (some (.int sp t₁)) → Below A₀ base outer g' → KF.In g' → Top p loose mean mg mb g' → KtsDicts (outer.filterMap (·.frame)) g' →
      wpAny (model prog w) ((A₀.deeper (envOf name scope L a cd)).mark (some (.ref e))) (execs (b₀ :: suite) (envOf name scope L a cd))
        (fun f s₄ => wpAny (model prog w) (A₀.deeper (envOf name scope L a cd)) (do bindName (envOf name scope L a cd) n .none; unbindBehindTheSuite (envOf name scope L a cd) n pos) (fun _ s₅ => Q f s₅) E s₄)
        (AsSuiteRaised (model prog w) ((A₀.deeper (envOf name scope L a cd)).mark (some (.ref e))) (envOf name scope L a cd) n pos (notedBy (model prog w) ((A₀.deeper (envOf name scope L a cd)).mark (some (.ref e))) (envOf name scope L a cd) (cameBackBy (model prog w) (A₀.deeper (envOf name scope L a cd)) (envOf name scope L a cd) E)))
        { s' with heap := h', toks := tk })
    (hk : scope.kind = .function) (hlo : (envOf name scope L a cd).kindOf n = some .local) (hx : (envOf name scope L a cd).kindOf x = some .globalImplicit) (hd : (x == ("__debug__" : Str)) = false) :
    wpAny (model prog w) (A₀.deeper (envOf name scope L a cd)) (noteFrame (.ref e) (envOf name scope L a cd))
      (fun _ s₂ => wpAny (model prog w) (A₀.deeper (envOf name scope L a cd)) (setFlight (.ref e) none) (fun _ s₃ =>
        wpAny (model prog w) (A₀.deeper (envOf name scope L a cd)) (handleBy (.ref e) (envOf name scope L a cd) (.ExceptHandler (some (.Name x np)) (some n) (b₀ :: suite) pos :: rest)) Q E s₃) E s₂) E s' := by
  obtain ⟨d, es, n₁, t₁, hspot, ⟨B, a0, hB, hBG, hl, hfl⟩, hsm, oe0, ho0, hod0⟩ := R
  have hL : B.get? L = none := by
    obtain ⟨_, ⟨L', _, hf, hn', _⟩, _⟩ := hfl.2.2.1
    obtain rfl : L = L' := Option.some.inj hf
    exact hn'
  refine wpAny_steady (steady_noteFrame _ _) (wpAny_looks_onW (Around.frames_deeper K.stack) rfl hfl fun h₄ hheld₄ hsm₄ hs1 => ?_)
  refine wpAny_steady (steady_setFlight _ _) (wpAny_landsW hheld₄ fun h₅ hheld hsm₅' hs2 => ?_)
  have hsm₅ := hsm₄.trans hsm₅'
  obtain ⟨g₅, T₅, F₅, K₅⟩ := kts_ground K F hBG hheld.1 (hsm.trans hsm₅)
  have X₅ : KF.In g₅ := XB.keeps K₅.stays
  have P₅ : TopRead p loose mg mb g₅ := topRead_of (TB.keeps K₅.stays)
  obtain ⟨ob, hob, hobc⟩ := hheld.there
  obtain ⟨nm, q', N, bs, bm, hdct, sn, sub, ab, col, dd, k0, k1, k2, k3, k5, newId, hC, hbase, hbT⟩ := kts_cls X₅ q
  have hC₅ := F₅.keep _ _ hC
  refine wpAny_handleBy_cons (codeAny_handlers_test (name_K F₅ X₅ P₅ ex ?_ hk hx hd)) (by intro q; cases q)
  refine wpAny_excMatches_sub_self hC₅ hob hobc hbase (codeAny_handlers_suite_as ?_)
  refine wpAny_steady (steady_setFlight _ _) (lands_againW hheld fun h₆ hfl₆ hsm₆ hs3 => ?_)
  obtain ⟨g₆, T₆, F₆, K₆⟩ := kts_ground K F hBG hfl₆.1 ((hsm.trans hsm₅).trans hsm₆)
  obtain ⟨oe, ws, hoe, hoec, hoed, hoe0⟩ := hfl₆.first
  have hdict : oe.dict = some d := by
    obtain ⟨o1, e1, d1, _⟩ := hs1 e oe0 ho0
    obtain ⟨o2, e2, d2, _⟩ := hs2 e o1 e1
    obtain ⟨o3, e3, d3, _⟩ := hs3 e o2 e2
    have : o3 = oe := Option.some.inj (e3.symm.trans hoe)
    rw [← this, d3, d2, d1, hod0]
  have ne₆ : g₆.get? e = none := T₆.none_ _ (kts_fresh F hBG hfl₆.2.1 fun o ho m => by
    obtain ⟨_, o', ho', hd⟩ := K.frames.mem m
    rw [ho] at ho'
    cases ho'
    obtain ⟨sl, hs⟩ := ((hsm.trans hsm₅).trans hsm₆) _ _ (F.keep _ _ ho) hd
    rw [hoe] at hs
    cases hs
    exact hd _ hoed)
  have N₆ := News.more F₆ News.nil hoe (fun es n q => by rw [hoed] at q; cases q) ne₆
  have Nl : News g₆ L h₆ ((d, dictOf es n₁) :: news) := fun q hq => ⟨hfl₆.1 _ _ (hl q hq).1, (fun z => by have := (hl q hq).1; rw [z, hL] at this; cases this), T₆.none_ _ (kts_none F.keep (hl q hq).2.1)⟩
  have X₆ : KF.In g₆ := XB.keeps K₆.stays
  have P₆ : Top p loose mean mg mb g₆ := TB.keeps K₆.stays
  have D₆ : KtsDicts (outer.filterMap (·.frame)) g₆ := D.turn T₆
  refine stN F₆ (news := (e, oe) :: (d, dictOf es n₁) :: news) (fun q hq => (List.mem_cons.mp hq).elim (fun e => N₆ q (e ▸ .head _)) (Nl q)) (fun h₇ F₇ N₇ => ?_) hk hlo
  exact k h₇ g₆ _ oe d es n₁ t₁ (T0.trans T₆) F₇ N₇ hoec hdict ⟨_, hoed⟩ hspot K₆ X₆ P₆ D₆
end

end
section
section
variable {prog : Program} {w : World} {A A₀ : Around} {E : Value → Shared → Prop} {s s' : Shared} {L : Addr} {h₀ base g g' : Heap} {m : Str → Option Value} {news : List (Addr × Obj)} {env : Env} {outer : List Env}
theorem mem_env {b : Addr} (hf : env.frame = some L) (hm : b ∈ (env :: outer).filterMap (·.frame)) : b = L ∨ b ∈ outer.filterMap (·.frame) := by
  obtain ⟨e, he, hb⟩ := List.mem_filterMap.mp hm
  rcases List.mem_cons.mp he with rfl | he
  · rw [hf] at hb; exact .inl (Option.some.inj hb).symm
  · exact .inr (List.mem_filterMap.mpr ⟨e, he, hb⟩)
theorem dictsT (hf : env.frame = some L) (FG : Fr h₀ L g m) (st : h₀.StaysIn g) (D : KtsDicts (outer.filterMap (·.frame)) h₀) : KtsDicts ((env :: outer).filterMap (·.frame)) g := fun b hb => by
  rcases mem_env hf hb with rfl | hb
  · obtain ⟨o, es, ep, ho, hd, _⟩ := FG.ns
    exact ⟨o, es, ep, ho, hd⟩
  · obtain ⟨o, es', n', ho', hd'⟩ := D b hb
    exact ⟨o, es', n', st b o ho', hd'⟩
theorem backT {L' : Addr} {m' : Str → Option Value} {news' : List (Addr × Obj)} (hf : env.frame = some L) (B : Below A₀ base outer h₀) (F : Fr h₀ L s.heap m) (FG : Fr h₀ L g m) (st : h₀.StaysIn g)
    (T' : KtsTurn ((env :: outer).filterMap (·.frame)) g g') (F' : Fr g' L' s'.heap m') (N' : News g' L' s'.heap news') :
    ∃ h₁, KtsTurn (outer.filterMap (·.frame)) h₀ h₁ ∧ Fr h₁ L s'.heap m ∧ News h₁ L s'.heap news' ∧ Below A₀ base outer h₁ := by
  obtain ⟨oL, es, ep, hLg, hLd, hLr⟩ := FG.ns
  obtain ⟨sl, hs⟩ := T'.up hLg
  have nL₀ : h₀.get? L = none := kts_self F
  obtain ⟨T₁, S₁⟩ := kts_turn_at (h := s'.heap) (fs := outer.filterMap (·.frame)) (g := h₀)
    (fun b hb => by
      obtain ⟨_, o, ho', _⟩ := B.frames.mem hb
      exact ⟨o, ho'⟩)
    (fun b o e nmem => F'.keep b o (T'.other b o (st b o e) (fun q => by
      rcases mem_env hf q with z | z
      · rw [z, nL₀] at e
        cases e
      · exact nmem z)))
    (fun b o e hm => by
      obtain ⟨sl', hs'⟩ := T'.up (st b o e)
      exact ⟨sl', F'.keep _ _ hs'⟩)
  refine ⟨_, T₁, ⟨⟨_, es, ep, F'.keep _ _ hs, hLd, hLr⟩, S₁, by rw [T₁.size]; exact F.above⟩, fun p hp => ⟨(N' p hp).1, fun q => ?_, ?_⟩, ⟨B.stack, fun b o e => T₁.other b o (B.stays b o e) (fun hm => by
    rw [(B.frames.mem hm).1] at e
    cases e), B.frames.of_keeps fun b o e _ => ?_⟩⟩
  · have := (N' p hp).2.2; rw [q, hs] at this; cases this
  · refine T₁.none_ _ ?_
    cases q : h₀.get? p.1 with
    | none => rfl
    | some o =>
      obtain ⟨sl', hs'⟩ := T'.up (st _ _ q)
      have := (N' p hp).2.2
      rw [hs'] at this
      cases this
  · obtain ⟨sl', hs'⟩ := T₁.up e
    exact ⟨_, hs', rfl⟩
noncomputable def LeaveT (fs : List Addr) (g : Heap) (A₀ : Around) (base : Heap) (outer : List Env) (K : Frag) (p : Program) (loose : List Str) (mean : ExcName → Option Value) (mg mb : Str → Option Value) (g₀ : Heap) (L : Addr) (m : Str → Option Value) (R : Result → Shared → Prop) (v : Value) (s' : Shared) : Prop :=
  ∃ g' L' m' news', KtsTurn fs g g' ∧ Fr g' L' s'.heap m' ∧ News g' L' s'.heap news' ∧ ∀ h₁, KtsTurn (outer.filterMap (·.frame)) g₀ h₁ → Fr h₁ L s'.heap m → News h₁ L s'.heap news' → Below A₀ base outer h₁ → K.In h₁ → Top p loose mean mg mb h₁ →
    KtsDicts (outer.filterMap (·.frame)) h₁ → R (.ok (.ret v)) s'
theorem code_defT {K : Frag} {p : Program} {loose : List Str} {mean : ExcName → Option Value} {mg mb : Str → Option Value} {g₀ : Heap} {R : Result → Shared → Prop} {name qual : Str} {params : Arguments} {body : List Stmt} {scope : Scope} {dV kV doc pm cdv ct oc : Value} {an od : Option Addr} {osl : Array (Option Value)} {f : Addr} {args : Args} {binds : List (Str × Value)}
    (B : Below A₀ base outer h₀) (F : Fr h₀ L s.heap m) (X₀ : K.In h₀) (N : News h₀ L s.heap news) (T : Top p loose mean mg mb h₀) (XB : K.In base) (TB : Top p loose mean mg mb base) (D : KtsDicts (outer.filterMap (·.frame)) h₀) (T0 : KtsTurn (outer.filterMap (·.frame)) g₀ h₀)
    (hA : A.frames = some (env :: outer)) (hf : env.frame = some L) (hke : env.scope.kind = .function)
    (ho : K.lookup f = some ⟨oc, od, .func (fnOf name qual params body scope dV kV doc pm an cdv ct), osl⟩) (hcd : codeIn K cdv qual = true) (hroom : A.depth < recursionLimit)
    (hbind : BindsTo s (fnOf name qual params body scope dV kV doc pm an cdv ct) args binds) (hloc : ∀ y ∈ binds, scope.names.lookup y.1 = some .local)
    (h : ∀ g L' h₁, Fr h₀ L g m → Fr g L' h₁ (fun y => binds.reverse.lookup y) → News g L' h₁ news → Below A base (env :: outer) g → K.In g → Top p loose mean mg mb g → KtsDicts ((env :: outer).filterMap (·.frame)) g → (∀ p ∈ news, p.1 < L') →
      wpR (model prog w) (A.deeper (envOf qual scope L' f cdv)) (execs body (envOf qual scope L' f cdv))
        (fun fl s' => LeaveT ((env :: outer).filterMap (·.frame)) g A₀ base outer K p loose mean mg mb g₀ L m R (match fl with | .ret v => v | _ => .none) s')
        (fun e s' => wpAny (model prog w) (A.deeper (envOf qual scope L' f cdv)) (leaving (envOf qual scope L' f cdv) e) (fun _ s'' => R (.error e) s'') (fun e' s'' => R (.error e') s'') s')
        { s with heap := h₁, toks := s.toks + binds.length })
    (hco : scope.isCoroutine = false) (hgen : scope.isGenerator = false) (hk : scope.kind = .function)
    (hcell : ∀ x ∈ scope.names, x.2 ≠ .cell) : codeR (model prog w) A (.call (.ref f) args) R s := by
  have X := X₀.keeps F.keep
  obtain ⟨FG, BG, st, lv⟩ := groundX (R := R) B F N hA hf hke
  refine codeR_call_def (fd := fnOf name qual params body scope dV kV doc pm an cdv ct) (body := body) (binds := binds) hroom (X _ _ ho) rfl (T.nolimit.keeps F.keep) (codeRec_of X hcd) rfl hbind hcell hloc (fun h₁ hns hk₁ => ?_) hco hgen hk
  refine wpR_mono (h _ s.heap.objs.size h₁ FG ⟨hns, fun b o e => hk₁ b o (of_hideAll _ e), Nat.le_of_eq (hideAll_size _ _)⟩
    (fun p hp => ⟨hk₁ _ _ (N p hp).1, Nat.ne_of_lt (Heap.lt_size (N p hp).1), hideAll_none _ (List.mem_map_of_mem hp)⟩) BG (X₀.keeps st) (T.keeps st) (dictsT hf FG st D) (fun p hp => Heap.lt_size (N p hp).1)) (fun fl s' hl => ?_) fun _ _ y => y
  obtain ⟨g', L', m', news', T', F', N', kk⟩ := hl
  obtain ⟨h₂, T₁, F₂, N₂, B₂⟩ := backT hf B F FG st T' F' N'
  exact kk h₂ (T0.trans T₁) F₂ N₂ B₂ (XB.keeps B₂.stays) (TB.keeps B₂.stays) (D.turn T₁)
end
noncomputable def CtrT (w : World) (f : Addr) (vs : List Value) (d u : Nat) (led : List (Addr × Obj)) (R : Value → List (Addr × Obj) → Prop) : Prop :=
  ∀ (p : Program) (loose : List Str) (mean : ExcName → Option Value) (mg mb : Str → Option Value) (dp un : Nat) (gd : Option (List Code)) (cn : Str) (cs : Scope) (a : Addr) (ccd : Value) (cl : List (Str × Addr))
    (outer : List Env) (A₀ : Around) (base h₀ g₀ : Heap) (L : Addr) (m : Str → Option Value) (news : List (Addr × Obj)) (s : Shared) (Q E : Value → Shared → Prop),
    Below A₀ base outer h₀ → Fr h₀ L s.heap m → (Mine.hd.heap_39 w.params).In h₀ → (Mine.hd.heap_39 w.params).In base → News h₀ L s.heap news → Top p loose mean mg mb h₀ → Top p loose mean mg mb base → KtsDicts (outer.filterMap (·.frame)) h₀ → KtsTurn (outer.filterMap (·.frame)) g₀ h₀ →
    cs.kind = .function → dp + d < recursionLimit → un + u < cLine → (∀ q ∈ led, q ∈ news) →
    (∀ v nw h' tk h₁, R v nw → KtsTurn (outer.filterMap (·.frame)) g₀ h₁ → Fr h₁ L h' m → News h₁ L h' (nw ++ news) → (∀ q ∈ news, ∀ p ∈ nw, q.1 < p.1) → Below A₀ base outer h₁ → (Mine.hd.heap_39 w.params).In h₁ → Top p loose mean mg mb h₁ → KtsDicts (outer.filterMap (·.frame)) h₁ → Q v { s with heap := h', toks := tk }) →
    wpR (model PySem.Challenge.pw_pf0076_01 w) (ktrTop dp un gd cn cs L a ccd cl outer) (call (.ref f) vs) Q E s

end
section
section
variable {prog : Program} {w : World} {A A₀ : Around} {E : Value → Shared → Prop} {s : Shared} {L : Addr} {h₀ base : Heap} {m : Str → Option Value} {news : List (Addr × Obj)} {env : Env} {outer : List Env} {R : Result → Shared → Prop}
theorem codeR_call_cells {a : Addr} {o : Obj} {fd : FuncData} {body : List Stmt} {args : Args} {binds : List (Str × Value)}
    (hroom : A.depth < recursionLimit) (ho : s.heap.get? a = some o) (hdata : o.data = .func fd) (hlim : s.heap.NoLimit) (hcd : s.heap.CodeRec fd.code fd.qualname) (hcl : fd.closure = [])
    (hbody : fd.body = .stmts body) (hbind : BindsTo s fd args binds)
    (hkind : ∀ n, ∀ x ∈ binds, fd.scope.names.lookup x.1 = some .local ∨ (fd.scope.names.lookup x.1 = some .cell ∧ ((cellsFrom n fd.scope.names []).lookup x.1).isSome = true))
    (h : ∀ env', env' = newEnv fd.scope s.heap.objs.size fd.globals (cellsFrom (s.heap.objs.size + 1) fd.scope.names []) (fd.qualname ++ ".<locals>.") (some a) fd.code none fd.builtins → ∀ s', InCallC s env'.locals (bindL env'.kindOf binds fun _ => none) env'.cells (bindC env'.kindOf binds fun _ => none) s' →
      wpR (model prog w) (A.deeper env') (execs body env') (fun f s' => R (.ok (.ret (match f with | .ret v => v | _ => .none))) s')
        (fun e s' => wpAny (model prog w) (A.deeper env') (leaving env' e) (fun _ s'' => R (.error e) s'') (fun e' s'' => R (.error e') s'') s') s')
    (hco : fd.scope.isCoroutine = false) (hgen : fd.scope.isGenerator = false) (hk : fd.scope.kind = .function) :
    codeR (model prog w) A (.call (.ref a) args) R s := by
  refine codeR_of_tree ?_
  show wpR _ A.in1 (callAny (.ref a) args) _ _ s
  unfold callAny
  refine wpR_bindA (wpAny_load ho ?_)
  obtain ⟨c, oc, vs, tq, hc, hoc, hdc, hq⟩ := hcd
  rw [hdata]
  dsimp only
  unfold callFunction
  rw [hco, hgen, hbody, hc]
  dsimp only
  refine wpR_bindA (m := field (.ref c) 1) (wpAny_field hoc hdc hq ?_)
  refine wpR_bindA (wpAny_pure ?_)
  refine wpR_bindA (hbind _ _ _ _ ?_)
  rw [hcl]
  refine wpR_bindA (wpAny_newFunctionEnv_cells hk (hkind _) fun env' he s' x => ?_)
  rw [← hc] at he
  have hw := codeR_func (h env' he s' x)
  obtain ⟨h₁, tk, rfl, hns⟩ := x.done
  exact wpR_bindA (wpAny_enterFrame (hlim.keeps x.toInCall.keep) hroom (wpR_pure (And.intro rfl ⟨rfl, hw⟩)))
end
section
variable {prog : Program} {w : World} {A A₀ : Around} {E : Value → Shared → Prop} {s : Shared} {L : Addr} {h₀ base : Heap} {m : Str → Option Value} {news : List (Addr × Obj)} {env : Env} {outer : List Env}
theorem code_defTC {K : Frag} {p : Program} {loose : List Str} {mean : ExcName → Option Value} {mg mb : Str → Option Value} {g₀ : Heap} {R : Result → Shared → Prop} {name qual : Str} {params : Arguments} {body : List Stmt} {scope : Scope} {dV kV doc pm cdv ct oc : Value} {an od : Option Addr} {osl : Array (Option Value)} {f : Addr} {args : Args} {binds : List (Str × Value)}
    (B : Below A₀ base outer h₀) (F : Fr h₀ L s.heap m) (X₀ : K.In h₀) (N : News h₀ L s.heap news) (T : Top p loose mean mg mb h₀) (XB : K.In base) (TB : Top p loose mean mg mb base) (D : KtsDicts (outer.filterMap (·.frame)) h₀) (T0 : KtsTurn (outer.filterMap (·.frame)) g₀ h₀)
    (hA : A.frames = some (env :: outer)) (hf : env.frame = some L) (hke : env.scope.kind = .function)
    (ho : K.lookup f = some ⟨oc, od, .func (fnOf name qual params body scope dV kV doc pm an cdv ct), osl⟩) (hcd : codeIn K cdv qual = true) (hroom : A.depth < recursionLimit)
    (hbind : BindsTo s (fnOf name qual params body scope dV kV doc pm an cdv ct) args binds) (hkind : (binds.all fun y => scope.names.lookup y.1 == some .local || scope.names.lookup y.1 == some .cell) = true)
    (hnd : ((cellsFrom 0 scope.names []).map (·.1)).Nodup)
    (h : ∀ g L' h₁ tk cells, Fr h₀ L g m → Fr g L' h₁ (bindL (envOfC qual scope L' f cdv).kindOf binds fun _ => none) → News g L' h₁ (cells ++ news) →
      CellsAre (bindC (envOfC qual scope L' f cdv).kindOf binds fun _ => none) (cellsFrom (L' + 1) scope.names []) cells → Below A base (env :: outer) g → K.In g → Top p loose mean mg mb g → KtsDicts ((env :: outer).filterMap (·.frame)) g → (∀ p ∈ news, p.1 < L') →
      wpR (model prog w) (A.deeper (envOfC qual scope L' f cdv)) (execs body (envOfC qual scope L' f cdv))
        (fun fl s' => LeaveT ((env :: outer).filterMap (·.frame)) g A₀ base outer K p loose mean mg mb g₀ L m R (match fl with | .ret v => v | _ => .none) s')
        (fun e s' => wpAny (model prog w) (A.deeper (envOfC qual scope L' f cdv)) (leaving (envOfC qual scope L' f cdv) e) (fun _ s'' => R (.error e) s'') (fun e' s'' => R (.error e') s'') s')
        { s with heap := h₁, toks := tk })
    (hco : scope.isCoroutine = false) (hgen : scope.isGenerator = false) (hk : scope.kind = .function) : codeR (model prog w) A (.call (.ref f) args) R s := by
  have X := X₀.keeps F.keep
  obtain ⟨FG, BG, st, lv⟩ := groundX (R := R) B F N hA hf hke
  refine codeR_call_cells (fd := fnOf name qual params body scope dV kV doc pm an cdv ct) (body := body) (binds := binds) hroom (X _ _ ho) rfl (T.nolimit.keeps F.keep) (codeRec_of X hcd) rfl rfl hbind (kindsX hkind) (fun env' he s' x => ?_) hco hgen hk
  subst he
  obtain ⟨h₁, tk, rfl, _⟩ := x.done
  have hk₁ := x.toInCall.keep
  obtain ⟨cells, NC, Y⟩ := Cl.news (h₀ := s.heap) (Nat.le_refl _) fun n c hm => ⟨x.cell n c (lookup_of_mem_nodup (cellsFrom_names scope.names 0 (s.heap.objs.size + 1) [] [] rfl ▸ hnd) hm), x.above n c hm⟩
  refine wpR_mono (h _ s.heap.objs.size h₁ tk cells FG ⟨x.toInCall.ns, fun b o e => hk₁ b o (of_hideAll _ e), Nat.le_of_eq (hideAll_size _ _)⟩ (fun p hp => ?_) Y BG (X₀.keeps st) (T.keeps st) (dictsT hf FG st D) (fun p hp => Heap.lt_size (N p hp).1)) (fun fl s' hl => ?_) fun _ _ y => y
  · rcases List.mem_append.mp hp with hp | hp
    · refine ⟨(NC p hp).1, (NC p hp).2.1, ?_⟩
      cases q : (hideAll s.heap (news.map (·.1))).get? p.1 with
      | none => rfl
      | some o => have := of_hideAll _ q; rw [(NC p hp).2.2] at this; cases this
    · exact ⟨hk₁ _ _ (N p hp).1, Nat.ne_of_lt (Heap.lt_size (N p hp).1), hideAll_none _ (List.mem_map_of_mem hp)⟩
  · obtain ⟨g', L', m', news', T', F', N', kk⟩ := hl
    obtain ⟨h₂, T₁, F₂, N₂, B₂⟩ := backT hf B F FG st T' F' N'
    exact kk h₂ (T0.trans T₁) F₂ N₂ B₂ (XB.keeps B₂.stays) (TB.keeps B₂.stays) (D.turn T₁)
theorem code_topC {K : Frag} {p : Program} {loose : List Str} {mean : ExcName → Option Value} {mg mb : Str → Option Value} {R : Result → Shared → Prop} {body : List Stmt} {scope : Scope} {fo : Obj} {fd : FuncData} {f : Addr} {args : Args} {binds : List (Str × Value)}
    (X₀ : K.In s.heap) (T : Top p loose mean mg mb s.heap) (hA : A.depth < recursionLimit)
    (ho : s.heap.get? f = some fo) (hd : fo.data = .func fd) (hcd : s.heap.CodeRec fd.code fd.qualname) (hbody : fd.body = .stmts body) (hcl : fd.closure = []) (hsc : fd.scope = scope)
    (hbind : BindsTo s fd args binds) (hkind : (binds.all fun y => scope.names.lookup y.1 == some .local || scope.names.lookup y.1 == some .cell) = true)
    (hnd : ((cellsFrom 0 scope.names []).map (·.1)).Nodup)
    (h : ∀ L' h₁ tk cells env', env' = newEnv scope L' fd.globals (cellsFrom (L' + 1) scope.names []) (fd.qualname ++ ".<locals>.") (some f) fd.code none fd.builtins → Fr s.heap L' h₁ (bindL env'.kindOf binds fun _ => none) → News s.heap L' h₁ cells →
      CellsAre (bindC env'.kindOf binds fun _ => none) (cellsFrom (L' + 1) scope.names []) cells →
      wpR (model prog w) (A.deeper env') (execs body env') (fun f s' => R (.ok (.ret (match f with | .ret v => v | _ => .none))) s')
        (fun e s' => wpAny (model prog w) (A.deeper env') (leaving env' e) (fun _ s'' => R (.error e) s'') (fun e' s'' => R (.error e') s'') s')
        { s with heap := h₁, toks := tk })
    (hco : scope.isCoroutine = false) (hgen : scope.isGenerator = false) (hk : scope.kind = .function) : codeR (model prog w) A (.call (.ref f) args) R s := by
  subst hsc
  refine codeR_call_cells (fd := fd) (body := body) (binds := binds) hA ho hd T.nolimit hcd hcl hbody hbind (kindsX hkind) (fun env' he s' x => ?_) hco hgen hk
  have he' := he
  subst he
  obtain ⟨h₁, tk, rfl, _⟩ := x.done
  have hk₁ := x.toInCall.keep
  obtain ⟨cells, NC, Y⟩ := Cl.news (h₀ := s.heap) (Nat.le_refl _) fun n c hm => ⟨x.cell n c (lookup_of_mem_nodup (cellsFrom_names fd.scope.names 0 (s.heap.objs.size + 1) [] [] rfl ▸ hnd) hm), x.above n c hm⟩
  exact h s.heap.objs.size h₁ tk cells _ rfl ⟨x.toInCall.ns, hk₁, Nat.le_refl _⟩ NC Y
end
section
variable {M : Model} {A : Around} {E : Value → Shared → Prop} {s : Shared} {env : Env}
theorem wpR_IfR {test body orelse pos} {Q : Flow → Shared → Prop}
    (h : wpR M A (isTrue test env (eval test env)) (fun b s₂ => if b = true then wpR M A (execs body env) Q E s₂ else wpR M A (execs orelse env) Q E s₂) E s) : wpR M A (exec (.If test body orelse pos) env) Q E s := by
  rw [exec_If]
  refine wpR_bindA (wpAny_standAt (wpR_bind (wpR_mono h (fun b s₂ h₂ => ?_) fun _ _ x => x)))
  cases b <;> simpa -iota using h₂
theorem wpR_isTrue_Compare1 {l op r pos whole} {Q : Bool → Shared → Prop}
    (h : wpR M A (eval l env) (fun a s₁ => wpAny M A (eval r env) (fun b s₂ => wpAny M A (compareOp op a b) (fun c s₃ => wpAny M A (truthy c) Q E s₃) E s₂) E s₁) E s)
    (hm : behindInMarks op r = false) : wpR M A (isTrue (.Compare l [op] [r] pos) env whole) Q E s := by
  rw [isTrue_Compare1]
  simp only [markedBehindIn_of_false hm]
  exact wpR_bind (wpR_mono h (fun a s₁ h₁ => wpR_bindA (wpAny_holding (wpAny_mono h₁ (fun b s₂ h₂ => wpR_bindA (wpAny_standAt (wpR_bind (wpR_operate (wpR_of (wpAny_mono h₂ (fun c s₃ h₃ => wpR_of (wpAny_holding h₃)) fun _ _ x => x)))))) fun _ _ x => x))) fun _ _ x => x)
theorem wpR_isTrue_Not {x pos whole} {Q : Bool → Shared → Prop} (h : wpR M A (isTrue x env (eval x env)) (fun b s₁ => Q (!b) s₁) E s) : wpR M A (isTrue (.UnaryOp .Not x pos) env whole) Q E s := by
  rw [arm_isTrue_UnaryOp]
  exact wpR_bind (wpR_mono h (fun b s₁ h₁ => wpR_pure h₁) fun _ _ x => x)
theorem wpR_isTrue_Call {f args kw pos} {Q : Bool → Shared → Prop} (h : wpR M A (eval (.Call f args kw pos) env) (fun v s₁ => wpAny M A (truthy v) Q E s₁) E s) : wpR M A (isTrue (.Call f args kw pos) env (eval (.Call f args kw pos) env)) Q E s := by
  show wpR M A (do let v ← eval (.Call f args kw pos) env; standAt pos; holding [v] (truthy v)) Q E s
  exact wpR_bind (wpR_mono h (fun v s₁ h₁ => wpR_bindA (wpAny_standAt (wpR_of (wpAny_holding h₁)))) fun _ _ x => x)
theorem wpR_isTrue_Or2 {a b pos whole} {Q : Bool → Shared → Prop} (h : wpR M A (isTrue a env (eval a env)) (fun r s₁ => if r = true then Q true s₁ else wpR M A (isTrue b env (eval b env)) Q E s₁) E s) :
    wpR M A (isTrue (.BoolOp .Or [a, b] pos) env whole) Q E s := by
  rw [arm_isTrue_BoolOp, arm_allTrue_cons]
  refine wpR_bind (wpR_mono h (fun r s₁ h₁ => ?_) fun _ _ x => x)
  cases r with
  | true => exact wpR_pure (by simpa -iota using h₁)
  | false =>
    show wpR M A (allTrue .Or [b] env) Q E s₁
    rw [arm_allTrue_cons]
    refine wpR_bind (wpR_mono (by simpa -iota using h₁) (fun r s₂ h₂ => ?_) fun _ _ x => x)
    cases r with
    | true => exact wpR_pure h₂
    | false => exact wpR_pure h₂
end
section
variable {prog : Program} {w : World} {A : Around} {E : Value → Shared → Prop} {s : Shared} {R : Result → Shared → Prop} {env : Env}
theorem wpR_For {target iter body orelse pos} {Q : Flow → Shared → Prop}
    (h : wpAny (model prog w) A (eval iter env) (fun x s₁ => wpAny (model prog w) A (pyIter x) (fun it s₂ =>
      codeR (model prog w) A (.forLoop target it body orelse env) (fun r s' => match r with | .ok f => Q f s' | .error e => cameBackBy (model prog w) A env E e s') s₂) E s₁) E s)
    (hs : ∀ x, foldedSetIterable iter env x = pure x) :
    wpR (model prog w) A (exec (.For target iter body orelse pos) env) Q E s := by
  rw [exec_For]
  exact wpR_bindA (wpAny_standAt (wpR_bindA (wpAny_mono h (fun x s₁ h₁ => wpR_bindA (wpAny_of_eq (hs x) (wpR_bindA (wpAny_standAt (wpR_bindA (wpAny_holding
    (wpAny_mono h₁ (fun it s₂ h₂ => wpR_runOwn rfl h₂ (by intro x; cases x)) fun _ _ h' => h'))))))) fun _ _ h' => h')))
theorem codeR_forTurn {target it body orelse}
    (h : wpAny (model prog w) A (pyNext it) (fun r s₁ => match r with
      | none => wpAny (model prog w) A (execs orelse env) (fun f s₃ => R (.ok f) s₃) (notedBy (model prog w) A env fun e s' => R (.error e) s') s₁
      | some v => wpAny (model prog w) A (letOwnedTupleGo target it v) (fun _ s₁' =>
          wpAny (model prog w) A (assign target env v) (fun _ s₂ => wpR (model prog w) A (execs body env) (fun f s₃ => match f with
            | .next | .cont => codeR (model prog w) A (.forLoop target it body orelse env) R s₃
            | .brk => R (.ok .next) s₃
            | .ret v => R (.ok (.ret v)) s₃) (notedBy (model prog w) A env fun e s' => R (.error e) s') s₂) (notedBy (model prog w) A env fun e s' => R (.error e) s') s₁') (notedBy (model prog w) A env fun e s' => R (.error e) s') s₁) (notedBy (model prog w) A env fun e s' => R (.error e) s') s) :
    codeR (model prog w) A (.forLoop target it body orelse env) R s := by
  refine codeR_of_tree ?_
  show wpR _ A ((forTurn target it body orelse env).onRaise (fun x => do noteFrame x env; theTreesLotGoes x)) _ _ s
  refine wpR_noted ?_
  unfold forTurn
  refine wpR_bindA (wpAny_standAt (wpR_bindA (wpAny_onRaise (wpAny_mono h (fun r s₁ h₁ => ?_) fun _ _ h' => wpAny_standAt h'))))
  cases r with
  | none => exact wpR_pure ⟨rfl, rfl, codeR_of (codeAny_block h₁)⟩
  | some v =>
    refine wpR_bindA (wpAny_mono h₁ (fun _ s₁' h₁' => ?_) fun _ _ h' => h')
    refine wpR_bindA (wpAny_mono h₁' (fun _ s₂ h₂ => wpR_bind (wpR_mono h₂ (fun f s₃ h₃ => ?_) fun _ _ h' => h')) fun _ _ h' => h')
    cases f with
    | next => exact wpR_pure ⟨rfl, rfl, h₃⟩
    | cont => exact wpR_pure ⟨rfl, rfl, h₃⟩
    | brk => exact wpR_pure h₃
    | ret v => exact wpR_pure h₃
end

end
section
example : True := by
  w_top off
  trivial
section
variable {cs : Scope} {ns : List PySem.Str} {d u : Nat} {RX : Value → List (Addr × Obj) → Prop} {XX : Int → Prop} {C : Bx cs ns d u RX XX} {us : List Vl} {nw : List (Addr × Obj)} {K : List Vl → List (Addr × Obj) → Prop} {rest body : List Stmt} {pos : Pos}
theorem Ex.forTup {α : Type} (k : Nat) (I : Nat → α → Prop) (f : α → List Vl) (c₀ : α) {x : PySem.Str} {p : Pos} {iter : PySem.Expr} {ax : Addr} {items : Array Value} (ho : okLoc cs ns k x = true) (he : Ev C us [] iter (.val (.ref ax))) (ht : C.h₀.IsTuple ax items) (hs : ∀ env x, foldedSetIterable iter env x = pure x) (h0 : I 0 c₀) (hsub : Sub (f c₀) us)
    (turn : ∀ i c v, items[i]? = some v → I i c → ∀ C' : Bx cs ns d u RX XX, C'.w = C.w → Ex C' ((f c).set k (.val v)) [] body (fun us' nw' => nw' = [] ∧ ∃ c', I (i + 1) c' ∧ Sub (f c') us'))
    (exit : ∀ c, I items.size c → Ex C (f c) [] rest K) : Ex C us [] (.For (.Name x p) iter body [] pos :: rest) K := fun s hS => by
  obtain ⟨h1, h2, _⟩ := okLoc_out ho
  obtain ⟨m, F, hm⟩ := hS.fr
  refine wpAny_execs_cons (For_invVF F h2 (by show (cs.kind == .class || (cs.kind == .module && C.L != mainGlobals)) = false; rw [C.hk]; rfl) (he _ _ _ hS (fun v s' hv hS' => ?_) fun _ _ h => h) (hs _) C.passes)
  obtain rfl := Vl.val_is hv
  obtain ⟨l', hl'⟩ := id hS'
  obtain ⟨m₁, F₁, hm₁⟩ := hS'.fr
  have ht' : s'.heap.IsTuple ax items := by obtain ⟨o, e, r⟩ := ht; exact ⟨o, F₁.keep _ _ e, r⟩
  have hlt : ax < s'.heap.objs.size := by obtain ⟨o, e, r⟩ := ht'; exact Heap.lt_size e
  have hax : ∀ b, C.h₀.get? b = none → b ≠ ax := fun b hb e => by obtain ⟨o, e', _⟩ := ht; rw [e] at hb; rw [hb] at e'; cases e'
  refine wpAny_pyIter_tuple ht' ?_
  refine C.loop I f c₀ k h1 (Walks.tuple (prog := PySem.Challenge.pw_pf0076_01) (w := C.w) (A := C.A) rfl s'.heap.objs.size ax (Nat.ne_of_lt hlt) items) (fun h => ?_) (fun b hb => ?_) (fun q hq hI => ?_) (fun q hq hI => ?_) ⟨⟨_, Heap.get?_push_size _ rfl, rfl, rfl⟩, ?_⟩ (hsub.stL ⟨hl'.pn, hS'.same, ⟨m₁, F₁.push _, hm₁⟩, fun q hq => ⟨Heap.get?_push_of_some _ (hl'.news q hq).1, (hl'.news q hq).2⟩, fun _ _ _ h => nomatch h⟩) h0 (fun i c v hi hP hI C' hw => turn i c v hP hI C' hw) exit
  · rcases List.mem_cons.mp h with e | h
    · exact absurd F₁.ns.lt (e ▸ Nat.lt_irrefl _)
    · exact hax _ (Heap.get?_none_of_le F₁.above) (List.mem_singleton.mp h)
  · rw [List.mem_singleton.mp hb]; exact next_is_new F₁
  · exact absurd (Heap.lt_size (hl'.news q hq).1) ((List.mem_singleton.mp hI) ▸ Nat.lt_irrefl _)
  · rcases List.mem_cons.mp hI with e | hI
    · exact absurd (Heap.lt_size (hl'.news q hq).1) (e ▸ Nat.lt_irrefl _)
    · exact hax _ (hl'.news q hq).2.2 (List.mem_singleton.mp hI)
  · obtain ⟨o, e, r⟩ := ht'; exact ⟨o, Heap.get?_push_of_some _ e, r⟩
theorem Ev.find3 {o e e' e2 : PySem.Expr} {ap : Pos} {x y : PySem.Str} {i j : Int} {pl : Env → Sem Bool} (ho : Ev C us nw o (.str x)) (he : Ev C us nw e (.str y)) (he' : Ev C us nw e' (.int i)) (he2 : Ev C us nw e2 (.int j)) (h0 : 0 ≤ i) (h1 : 0 ≤ j) (hs : ∀ env, starEach [e, e', e2] env = [(false, eval e env), (false, eval e' env), (false, eval e2 env)]) (hs' : ∀ env, starEach [e', e2] env = [(false, eval e' env), (false, eval e2 env)]) (hs2 : ∀ env, starEach [e2] env = [(false, eval e2 env)])
    (hc : ∀ env, eval (.Call (.Attribute o (Str.ofString "find") ap) [e, e', e2] [] pos) env = (do
      let ov ← eval o env
      standAt ap.atName
      let (f, first) ← holding [ov] (getMethod ov (Str.ofString "find") (pl env))
      callWith pos f first (backTo pos (starEach [e, e', e2] env)) [])) : Ev C us nw (.Call (.Attribute o (Str.ofString "find") ap) [e, e', e2] [] pos) (.int (find4 x y i j)) :=
  Ev.meth ho (EvL.cons he (EvL.cons he' (EvL.cons he2 EvL.nil hs2) fun env => by rw [hs', hs2]) fun env => by rw [hs, hs']) (@find_g _ _ _) (fun s Q E t hS hQ _ _ _ => call_find4 h0 h1 (hQ _ _ ⟨_, rfl⟩ (hS.toks _))) (fun env => by rw [hs, hs']) (fun env => by rw [hs']; rfl) hc
noncomputable def brS : Option Int → Vl
  | none => .val .none
  | some b => .int b
theorem Cm.isNoneO {l : PySem.Expr} {k : Nat} {p : Pos} {o : Option Int} (ha : Ev C us nw l (brS o)) : Cm C us nw .Is l (.Constant .none k p) o.isNone :=
  Cm.of (bim rfl rfl) (fun s Q E v v' hv hv' h => by
    rw [Vl.val_is hv']
    cases o with
    | none => rw [Vl.val_is hv]; exact PySem.is_none h
    | some b => obtain ⟨t, rfl⟩ := Vl.int_is hv; exact PySem.is_none h) ha Ev.non
theorem EvG.pairO {e1 e2 : PySem.Expr} {k : Nat} {i : Int} {o : Option Int} {P : Value → List (Addr × Obj) → Prop} (h1 : Ev C us nw e1 (.int i)) (h2 : Ev C us nw e2 (brS o)) (he : ∀ env, starEach [e1, e2] env = (false, eval e1 env) :: starEach [e2] env) (he2 : ∀ env, starEach [e2] env = [(false, eval e2 env)])
    (hn : o = none → ∀ D t, (∀ p ∈ nw, p.1 < D) → P (.ref D) ((D, tupO [.int i t, .none]) :: nw)) (hs : ∀ b, o = some b → ∀ D t t', (∀ p ∈ nw, p.1 < D) → P (.ref D) ((D, tupO [.int i t, .int b t']) :: nw)) : EvG C us nw (.Tuple [e1, e2] k pos) P :=
  EvG.tup (EvL.cons h1 (EvL.cons h2 EvL.nil he2) he) (Nat.le_of_ble_eq_true rfl) fun D hlt t => by
    cases o with
    | none => exact hn rfl D t hlt
    | some b => exact fun t' => hs b rfl D t t' hlt
end

end
section
example : True := by
  w_top off
  trivial

end
section
example : True := by
  w_top off
  k_with_none
  (k_with "bx" => ((case ho => k_is); (case hcd => k_is); (case hb => exact rfl); (case hl => exact locs rfl); (case hu => k_extra "bx_hu"); (case c1 => exact rfl); (case c2 => exact rfl); (case c3 => exact rfl); (case c4 => decide)))
  (k_with "bx_hu" => (repeat (first | exact trivial | (refine And.intro ?_ ?_; first | exact trivial | exact rfl | exact Exists.intro _ rfl))))
  trivial
theorem law_octets_c (w : World) (i : Int) (t1 : Tok) (h0 : 0 ≤ i) (h1 : i ≤ 1114111) : Ctr w 293 [.int i t1] 5 80 [] (RBytes (octs i)) (fun sp => False) := by
  have hr := octs_in h0 h1
  refine' Ctr.of_body [Str.ofString "number"] [.int i] ?ho ?hcd ?hb ?hl (by decide +kernel) (slots _ _ ?hu) ?c1 ?c2 ?c3 ?c4 ?_
  k_extra "bx"
  intro C _
  have key : ∀ {ys : List Int}, octs i = ys → (∀ n ∈ ys, 0 ≤ n ∧ n < 256) ∧ ∀ t, RBytes (octs i) (.bytes (bts ys) t) [] := fun e => ⟨e ▸ hr, fun t => e ▸ .mk t⟩
  refine Ex.iteD (Tst.cm (Cm.lt (Ev.loc 0 rfl rfl rfl) Ev.cint)) (fun c => ?_) fun c => Ex.nil ?_
  · obtain ⟨k1, k2⟩ := key (if_pos c)
    exact Ex.ret (EvG.bytesL [i] rfl (g_bytes _) (EvL.cons (Ev.loc 0 rfl rfl rfl) EvL.nil fun _ => rfl) k1 (Nat.le_of_ble_eq_true rfl) k2 (fun _ => rfl) fun _ => rfl) fun _ _ h => h
  have e1 : octs i = _ := if_neg c
  refine Ex.iteD (Tst.cm (Cm.lt (Ev.loc 0 rfl rfl rfl) Ev.cint)) (fun c => ?_) fun c => Ex.nil ?_
  · obtain ⟨k1, k2⟩ := key (e1.trans (if_pos c))
    exact Ex.ret (EvG.bytesL [192 + i / 64, 128 + i % 64] rfl (g_bytes _) (EvL.cons (Ev.add Ev.cint (Ev.fdiv (Ev.loc 0 rfl rfl rfl) Ev.cint (by decide) (by decide))) (EvL.cons (Ev.add Ev.cint (Ev.fmod (Ev.loc 0 rfl rfl rfl) Ev.cint (by decide))) EvL.nil fun _ => rfl) fun _ => rfl) k1 (Nat.le_of_ble_eq_true rfl) k2 (fun _ => rfl) fun _ => rfl) fun _ _ h => h
  have e1 : octs i = _ := e1.trans (if_neg c)
  refine Ex.iteD (Tst.cm (Cm.lt (Ev.loc 0 rfl rfl rfl) Ev.cint)) (fun c => ?_) fun c => Ex.nil ?_
  · obtain ⟨k1, k2⟩ := key (e1.trans (if_pos c))
    exact Ex.ret (EvG.bytesL [224 + i / 4096, 128 + i / 64 % 64, 128 + i % 64] rfl (g_bytes _) (EvL.cons (Ev.add Ev.cint (Ev.fdiv (Ev.loc 0 rfl rfl rfl) Ev.cint (by decide) (by decide))) (EvL.cons (Ev.add Ev.cint (Ev.fmod (Ev.fdiv (Ev.loc 0 rfl rfl rfl) Ev.cint (by decide) (by decide)) Ev.cint (by decide))) (EvL.cons (Ev.add Ev.cint (Ev.fmod (Ev.loc 0 rfl rfl rfl) Ev.cint (by decide))) EvL.nil fun _ => rfl) fun _ => rfl) fun _ => rfl) k1 (Nat.le_of_ble_eq_true rfl) k2 (fun _ => rfl) fun _ => rfl) fun _ _ h => h
  · obtain ⟨k1, k2⟩ := key (e1.trans (if_neg c))
    exact Ex.ret (EvG.bytesL [240 + i / 262144, 128 + i / 4096 % 64, 128 + i / 64 % 64, 128 + i % 64] rfl (g_bytes _) (EvL.cons (Ev.add Ev.cint (Ev.fdiv (Ev.loc 0 rfl rfl rfl) Ev.cint (by decide) (by decide))) (EvL.cons (Ev.add Ev.cint (Ev.fmod (Ev.fdiv (Ev.loc 0 rfl rfl rfl) Ev.cint (by decide) (by decide)) Ev.cint (by decide))) (EvL.cons (Ev.add Ev.cint (Ev.fmod (Ev.fdiv (Ev.loc 0 rfl rfl rfl) Ev.cint (by decide) (by decide)) Ev.cint (by decide))) (EvL.cons (Ev.add Ev.cint (Ev.fmod (Ev.loc 0 rfl rfl rfl) Ev.cint (by decide))) EvL.nil fun _ => rfl) fun _ => rfl) fun _ => rfl) fun _ => rfl) k1 (Nat.le_of_ble_eq_true rfl) k2 (fun _ => rfl) fun _ => rfl) fun _ _ h => h

end
section
example : True := by
  w_top off
  k_with_none
  trivial
theorem wpAny_execs_one {M : Model} {A : Around} {E : Value → Shared → Prop} {s : Shared} {env : Env} {st : Stmt} {Q : Flow → Shared → Prop} (h : wpAny M A (execs [st] env) Q E s) : wpAny M A (exec st env) Q E s := fun Γ p hΓ => by
  have h1 := h Γ p hΓ
  rw [execs_cons, Sem.wp_bind'] at h1
  refine Sem.wp_mono M Γ _ (fun f p' s' h' => ?_) (fun _ _ _ h' => h') _ _ h1
  cases f <;> exact h'
section
variable {cs : Scope} {ns : List PySem.Str} {d u : Nat} {RX : Value → List (Addr × Obj) → Prop} {XX : Int → Prop} {C : Bx cs ns d u RX XX} {us : List Vl} {nw : List (Addr × Obj)} {K : List Vl → List (Addr × Obj) → Prop} {rest body : List Stmt} {pos : Pos}
noncomputable def ExR (C : Bx cs ns d u RX XX) (us : List Vl) (nw : List (Addr × Obj)) (ss : List Stmt) (K : List Vl → List (Addr × Obj) → Prop) : Prop :=
  ∀ s, St C us nw s → wpR C.M C.A (execs ss C.env) (C.Q K) C.E s
theorem Ex.r {ss : List Stmt} (h : Ex C us nw ss K) : ExR C us nw ss K := fun s hS => wpR_of (h s hS)
theorem ExR.cons {st : Stmt} (h : Ex C us nw [st] (fun us' nw' => ExR C us' nw' rest K)) : ExR C us nw (st :: rest) K := fun s hS =>
  wpR_clean (wpAny_mono (wpAny_execs_one (h s hS)) (fun f s' hf => by
    cases f with
    | next => obtain ⟨us', nw', hk, hs⟩ := hf; exact hk _ hs
    | ret v => exact hf
    | brk => exact hf
    | cont => exact hf) fun _ _ h => h)
theorem ExR.nil (h : K us nw) : ExR C us nw [] K := (Ex.nil h).r
theorem ExR.sub {vs : List Vl} (h : Sub vs us) (hx : ExR C vs nw rest K) : ExR C us nw rest K := fun s hS => hx s (h.st hS)
theorem ExR.iteJ {test : PySem.Expr} {orelse : List Stmt} {b : Bool} (J : List Vl → List (Addr × Obj) → Prop) (ht : Tst C us nw test b) (h1 : b = true → ExR C us nw body J) (h2 : b = false → ExR C us nw orelse J) (hr : ∀ us' nw', J us' nw' → ExR C us' nw' rest K) :
    ExR C us nw (.If test body orelse pos :: rest) K := fun s hS => by
  have key : ∀ {ss s'}, ExR C us nw ss J → St C us nw s' → wpR C.M C.A (execs ss C.env) (fun f s' => match f with | .next => wpR C.M C.A (execs rest C.env) (C.Q K) C.E s' | f => C.Q K f s') C.E s' := fun h hS' =>
    wpR_mono (h _ hS') (fun f s' hf => by
      cases f with
      | next => obtain ⟨us', nw', hk, hs⟩ := hf; exact hr _ _ hk _ hs
      | ret v => exact hf
      | brk => exact hf
      | cont => exact hf) fun _ _ h => h
  refine wpR_execs_cons (wpR_If (ht _ _ _ hS (fun s' hS' => ?_) fun _ _ h => h))
  cases b with
  | true => exact key (h1 rfl) hS'
  | false => exact key (h2 rfl) hS'
theorem ExR.while_ {α : Type} (I : α → Prop) (f : α → List Vl) (n : α → List (Addr × Obj)) (μ : α → Nat) (b : α → Bool) (c₀ : α) {test : PySem.Expr} (h0 : I c₀) (hc : ∀ c, I c → Tst C (f c) (n c) test (b c))
    (turn : ∀ c, I c → b c = true → ExR C (f c) (n c) body (fun us' nw' => ∃ c', nw' = n c' ∧ I c' ∧ μ c' < μ c ∧ Sub (f c') us'))
    (exit : ∀ c, I c → b c = false → ExR C (f c) (n c) rest K) : ExR C (f c₀) (n c₀) (.While test body [] pos :: rest) K := fun s hS => by
  refine wpR_execs_cons (wpR_While (fun m s' => ∃ c, I c ∧ μ c = m ∧ St C (f c) (n c) s') ?_ _ ⟨c₀, h0, rfl, hS⟩ C.passes)
  rintro m s' ⟨c, hI, rfl, hS'⟩
  refine hc c hI _ _ _ hS' (fun s₂ hS₂ => ?_) fun _ _ h => h
  cases hb : b c with
  | false => exact exit c hI hb _ hS₂
  | true =>
    refine wpR_mono (turn c hI hb _ hS₂) (fun fl s₃ hf => ?_) fun _ _ h => h
    cases fl with
    | next => obtain ⟨us', nw', ⟨c', rfl, hI', hlt, hw⟩, hS₃⟩ := hf; exact ⟨μ c', hlt, c', hI', rfl, hw.st hS₃⟩
    | ret v => exact hf
    | brk => exact hf.elim
    | cont => exact hf.elim
theorem ExR.iadd (i : Nat) {x : PySem.Str} {p : Pos} {e : PySem.Expr} {D : Addr} {b c : Array UInt8} (ho : okLoc cs ns i x = true) (hu : us[i]? = some (.val (.ref D))) (he : EvG C us [(D, baO b)] e (fun v nw' => nw' = [(D, baO b)] ∧ ∃ t, v = .bytes c t)) (hz : b.size + c.size ≤ 16777216)
    (hr : ExR C (us.set i (.val (.ref D))) [(D, baO (b ++ c))] rest K) : ExR C us [(D, baO b)] (.AugAssign (.Name x p) .Add e pos :: rest) K := fun s hS => by
  obtain ⟨h1, h2, h3⟩ := okLoc_out ho
  obtain ⟨m, F, hm⟩ := hS.fr
  refine wpR_execs_cons (wpR_AugAssign (wpAny_loadName_local C.hk h2 F.ns (hm i x _ h1 hu) (he _ _ _ hS (fun v nw' s' hv hS' => ?_) fun _ _ h => h)))
  obtain ⟨rfl, t, rfl⟩ := hv
  obtain ⟨l', hl'⟩ := id hS'
  obtain ⟨m', F', hm'⟩ := hS'.fr
  refine ba_iaddK F' hl'.news (fun q hq => Nat.ne_of_lt (hl'.above q hq _ (.head _))) (by rw [sizeLine_eq]; exact hz) fun h' F'' N'' => ?_
  exact St.store (y := .val (.ref D)) ho ⟨l', hl'.pn, hS'.same, ⟨m', F'', hm'⟩, N'', fun q hq p hp => by rw [List.mem_singleton.mp hp]; exact hl'.above q hq (D, baO b) (.head _)⟩ rfl fun s'' hS'' => hr _ hS''
theorem Cm.notInT {l : PySem.Expr} {es : List PySem.Expr} {k : Nat} {p : Pos} {x : PySem.Str} (ys : List PySem.Str) (ha : Ev C us nw l (.str x)) (hl : EvL C us nw es (ys.map Vl.str)) (hz : ys.length ≤ 1000) : Cm C us nw .NotIn l (.Tuple es k p) (!(ys.any fun y => y == x)) := ⟨rfl, fun s Q E hS hQ hE => by
  refine ha _ _ _ hS (fun v s' hv hS' => Tuple_ (hl _ _ _ _ hS' (fun vs s'' hvs hS'' => ?_) hE)) hE
  obtain ⟨t, rfl⟩ := Vl.str_is hv
  obtain ⟨l'', hl''⟩ := id hS''
  obtain ⟨m, F, hm⟩ := hS''.fr
  have hlen := AllIs.len _ _ hvs
  rw [List.length_map] at hlen
  refine kup_newTuple F hl''.news (fun D h' F' N' hlt => ?_) (by rw [hlen]; size_fits)
  exact notin_tuple_strs (N'.isTup (.head _)) (by simpa using strs_of ys vs hvs) (hQ _ ⟨l'', hl''.pn, hS''.same, ⟨m, F', hm⟩, fun q hq => N' q (.tail _ hq), hl''.above⟩)⟩
theorem g_ba (w : World) : nsIn (Mine.hd.heap_39 w.params) mainGlobals (Str.ofString "bytearray") = some none := by k_is
theorem ExR.newBa (i j : Nat) {x z : PySem.Str} {p q tp vp cp np : Pos} {e2 : PySem.Expr} {k k' : Nat} {y : Vl} (ho : okLoc cs ns i x = true) (ho' : okLoc cs ns j z = true) (hb : okBi cs (Str.ofString "bytearray") = true) (h2 : ∀ nw, Ev C us nw e2 y)
    (hr : ∀ D, ExR C ((us.set j y).set i (.val (.ref D))) [(D, baO #[])] rest K)
    (hcall : ∀ env, eval (.Call (.Name (Str.ofString "bytearray") np) [] [] cp) env = (do callWith cp (← eval (.Name (Str.ofString "bytearray") np) env) [] (backTo cp (starEach [] env)) (backToKw cp (keywordEach [] env))))
    (he : ∀ env, starEach [.Call (.Name (Str.ofString "bytearray") np) [] [] cp, e2] env = (false, eval (.Call (.Name (Str.ofString "bytearray") np) [] [] cp) env) :: starEach [e2] env) (he' : ∀ env, starEach [e2] env = [(false, eval e2 env)])
    (hs : ∀ env, swapsWithSole [.Tuple [.Name x p, .Name z q] k tp] (.Tuple [.Call (.Name (Str.ofString "bytearray") np) [] [] cp, e2] k' vp) pos.line env = pure false) (hw : ∀ cn L a ccd cl, swappedStores [.Tuple [.Name x p, .Name z q] k tp] (.Tuple [.Call (.Name (Str.ofString "bytearray") np) [] [] cp, e2] k' vp) (envX cn cs L a ccd cl) = pure (some [x, z])) :
    ExR C us [] (.Assign [.Tuple [.Name x p, .Name z q] k tp] (.Tuple [.Call (.Name (Str.ofString "bytearray") np) [] [] cp, e2] k' vp) pos :: rest) K := fun s hS => by
  refine wpR_execs_cons (wpR_Assign_swapped (wpR_Tuple (wpR_Call (Ev.bi (v := .type "bytearray") hb (g_ba _) rfl _ _ _ hS (fun f' s₁ hf hS₁ => ?_) fun _ _ h => h) (hcall _)) (he _)) (hs _) (hw _ _ _ _ _))
  obtain rfl := Vl.val_is hf
  obtain ⟨l₁, hl₁⟩ := id hS₁
  obtain ⟨m, F, hm⟩ := hS₁.fr
  refine wpR_callWith_type0 (ba_callK F hl₁.news fun D h' F' N' hlt => ?_)
  have hS2 : St C us [(D, baO #[])] { s₁ with heap := h' } := ⟨l₁, hl₁.pn, hS₁.same, ⟨m, F', hm⟩, N', fun q hq p h9 => by rw [List.mem_singleton.mp h9]; exact hlt q hq⟩
  refine EvL.cons (h2 _) EvL.nil (fun env => he' env) _ _ _ _ hS2 (fun vs s'' hvs hS'' => ?_) fun _ _ h => h
  cases vs with
  | nil => exact hvs.elim
  | cons v2 vs =>
    cases vs with
    | cons _ _ => exact hvs.2.elim
    | nil =>
      obtain ⟨l'', hl''⟩ := id hS''
      obtain ⟨m, F, hm⟩ := hS''.fr
      refine kup_newTuple F hl''.news (fun D' h' F' N' hlt => ?_) (Nat.le_trans (Nat.le_of_ble_eq_true rfl : 2 ≤ 1000) (by size_fits))
      refine unpackItemsN_ F' N' (N'.isTup (.head _)) rfl rfl fun h'' F'' N'' => ?_
      refine St.bind (us := us) ho' ⟨l'', hl''.pn, hS''.same, ⟨m, F'', hm⟩, fun q hq => N'' q (.tail _ hq), hl''.above⟩ hvs.1 fun s3 hS3 => ?_
      exact St.bind ho hS3 (y := .val (.ref D)) rfl fun s4 hS4 => assignInOrder_nil (hr D _ hS4)
theorem Ev.bytesA {p : Pos} {e : PySem.Expr} {D : Addr} {b : Array UInt8} (ho : okBi cs (Str.ofString "bytes") = true) (ha : Ev C us nw e (.val (.ref D))) (hm : (D, baO b) ∈ nw) (hz : b.size ≤ 16777216) (he : ∀ env, starEach [e] env = [(false, eval e env)])
    (hcall : ∀ env, eval (.Call (.Name (Str.ofString "bytes") p) [e] [] pos) env = (do callWith pos (← eval (.Name (Str.ofString "bytes") p) env) [] (backTo pos (starEach [e] env)) (backToKw pos (keywordEach [] env)))) : Ev C us nw (.Call (.Name (Str.ofString "bytes") p) [e] [] pos) (.byt b) := fun s Q E hS hQ hE => by
  refine Call_ (Ev.bi (v := .type "bytes") ho (g_bytes _) rfl _ _ _ hS (fun f' s₁ hf hS₁ => ?_) hE) (hcall _)
  obtain rfl := Vl.val_is hf
  refine Pv.callWith_type1 (EvL.cons ha EvL.nil he _ _ _ _ hS₁ (fun vs s₂ hvs hS₂ => ?_) hE) (he _) rfl
  exact forA_of [.val (.ref D)] (P := fun vs => wpAny C.M C.A (call (.type "bytes") vs) Q E s₂) (ba_bytes (hS₂.elim fun _ h => (h.news _ (List.mem_append_left _ hm)).1) (by rw [sizeLine_eq]; exact hz) fun t k => hQ _ _ ⟨t, rfl⟩ (hS₂.toks _)) vs hvs
theorem EvG.mono {e : PySem.Expr} {P P' : Value → List (Addr × Obj) → Prop} (h : EvG C us nw e P) (hp : ∀ v nw', P v nw' → P' v nw') : EvG C us nw e P' := fun s Q E hS hQ hE => h s Q E hS (fun v nw' s' hv hS' => hQ v nw' s' (hp _ _ hv) hS') hE
theorem EvG.never {x : PySem.Str} {p : Pos} {e : PySem.Expr} {f : Addr} {P : Value → List (Addr × Obj) → Prop} (ho : okGlob cs x = true) (hv : nsIn (Mine.hd.heap_39 C.w.params) mainGlobals x = some (some (.ref f))) (hk : keepIn (Mine.hd.heap_39 C.w.params) (.ref f) = true)
    (ha : EvG C us nw e (fun _ _ => False)) (he : ∀ env, starEach [e] env = [(false, eval e env)])
    (hcall : ∀ env, eval (.Call (.Name x p) [e] [] pos) env = (do callWith pos (← eval (.Name x p) env) [] (backTo pos (starEach [e] env)) (backToKw pos (keywordEach [] env)))) :
    EvG C us nw (.Call (.Name x p) [e] [] pos) P := fun s Q E hS hQ hE => by
  refine Call_ (Ev.glob ho hv _ _ _ hS (fun f' s₁ hf hS₁ => ?_) hE) (hcall _)
  obtain rfl := Vl.val_is hf
  exact callWith_K C.K hk (args_cons (ha _ _ _ hS₁ (fun v nw' s' h _ => h.elim) hE) (he _)) (he _) rfl
theorem ExR.augNever (i : Nat) {x : PySem.Str} {p : Pos} {e : PySem.Expr} {op : Operator} {v : Value} (ho : okLoc cs ns i x = true) (hu : us[i]? = some (.val v)) (he : EvG C us nw e (fun _ _ => False)) : ExR C us nw (.AugAssign (.Name x p) op e pos :: rest) K := fun s hS => by
  obtain ⟨h1, h2, h3⟩ := okLoc_out ho
  obtain ⟨m, F, hm⟩ := hS.fr
  exact wpR_execs_cons (wpR_AugAssign (wpAny_loadName_local C.hk h2 F.ns (hm i x _ h1 hu) (he _ _ _ hS (fun v nw' s' h _ => h.elim) fun _ _ h => h)))
theorem Ex.retD {e : PySem.Expr} {P : Value → List (Addr × Obj) → Prop} (he : EvG C us nw e P) (hp : ∀ v nw', P v nw' → ∃ n2 n3, RX v n2 ∧ nw' = n2 ++ n3) : Ex C us nw (.Return (some e) pos :: rest) K := fun s hS =>
  wpAny_execs_cons (wpAny_Return_some (he _ _ _ hS (fun v nw' s' hv hS' => by
    obtain ⟨n2, n3, h, rfl⟩ := hp _ _ hv
    obtain ⟨l, hl⟩ := hS'
    refine ⟨us, n2, h, l, hl.pn, hl.same, hl.fr, fun p hm => hl.news p ?_, fun q hq p hm => hl.above q hq p (List.mem_append_left _ hm)⟩
    rcases List.mem_append.mp hm with hm | hm
    · exact List.mem_append_left _ (List.mem_append_left _ hm)
    · exact List.mem_append_right _ hm) fun _ _ h => h))
theorem g_octs (w : World) : nsIn (Mine.hd.heap_39 w.params) mainGlobals (Str.ofString "octets_of_rune") = some (some (.ref 82)) := by k_is
theorem k_octs (w : World) : keepIn (Mine.hd.heap_39 w.params) (.ref 82) = true := by k_is
theorem EvG.octs {p : Pos} {e : PySem.Expr} {i : Int} (ho : okGlob cs (Str.ofString "octets_of_rune") = true) (ha : Ev C us nw e (.int i)) (h0 : 0 ≤ i) (h1 : rightI i = true) (hd : 5 ≤ d) (hu : 80 ≤ u) (he : ∀ env, starEach [e] env = [(false, eval e env)])
    (hcall : ∀ env, eval (.Call (.Name (Str.ofString "octets_of_rune") p) [e] [] pos) env = (do callWith pos (← eval (.Name (Str.ofString "octets_of_rune") p) env) [] (backTo pos (starEach [e] env)) (backToKw pos (keywordEach [] env)))) :
    EvG C us nw (.Call (.Name (Str.ofString "octets_of_rune") p) [e] [] pos) (fun v nw' => nw' = nw ∧ ∃ t, v = .bytes (bts (Mine.Internal.octs i)) t) :=
  EvG.mono (EvG.call ho (g_octs _) (k_octs _) (EvL.cons ha EvL.nil he) (fun t => octets_of_rune_c _ _ t h0 h1) hd hu (fun _ h => h.elim) he (fun _ => rfl) hcall) fun v nw' ⟨n2, hr, e⟩ => by
    cases hr with
    | mk t => exact ⟨e, t, rfl⟩
end
theorem CtrR.of_body {w : World} {f : Addr} {vs : List Value} {d u : Nat} {led : List (Addr × Obj)} {RX : Value → List (Addr × Obj) → Prop} {XX : Int → Prop}
    {name qual : PySem.Str} {params : Arguments} {body : List Stmt} {cs : Scope} {dV kV doc pm cdv ct oc : Value} {an od : Option Addr} {osl : Array (Option Value)} {binds : List (PySem.Str × Value)} (ns : List PySem.Str) (us : List Vl)
    (ho : (Mine.hd.heap_39 w.params).lookup f = some ⟨oc, od, .func (fnOf name qual params body cs dV kV doc pm an cdv ct), osl⟩) (hcd : codeIn (Mine.hd.heap_39 w.params) cdv qual = true)
    (hbind : bindArgs (fnOf name qual params body cs dV kV doc pm an cdv ct) ⟨vs, []⟩ = pure binds) (hloc : ∀ y ∈ binds, cs.names.lookup y.1 = some .local)
    (hnd : ns.Nodup) (hus : ∀ (i : Nat) (x : PySem.Str) (u : Vl), ns[i]? = some x → us[i]? = some u → u.Is (binds.reverse.lookup x))
    (hco : cs.isCoroutine = false) (hgen : cs.isGenerator = false) (hk : cs.kind = .function) (hcell : ∀ x ∈ cs.names, x.2 ≠ .cell)
    (hb : ∀ C : Bx cs ns d u RX XX, C.w = w → (∀ q ∈ led, ∀ l, C.Pn l → q ∈ l) → ExR C us [] body (fun _ nw => RX .none nw)) : CtrR w f vs (d + 1) (u + 3) led RX XX := by
  intro p loose mean mg mb dp un gd cn cs' a ccd cl outer A₀ base h₀ L m news s Q E B F X N T hk' hd hu hled hret hexc
  refine wpR_call ?_
  refine code_defR B F X N T rfl rfl hk' ho hcd (Nat.lt_of_le_of_lt (Nat.le_add_right _ _) hd) (BindsTo.of_eq hbind) hloc (fun g L' h₁ FG F' N' B' X' T' _ => ?_) hco hgen hk hcell
  have hd' : dp + 1 + d < recursionLimit := by omega
  have hu' : un + 3 + u < cLine := by omega
  have hA : (ktrTop dp un gd cn cs' L a ccd cl outer).deeper (envOf qual cs L' f cdv) = ktrTop (dp + 1) (un + 3) gd qual cs L' f cdv [] (envX cn cs' L a ccd cl :: outer) := rfl
  let C : Bx cs ns d u RX XX := ⟨w, p, loose, mean, mg, mb, dp + 1, un + 3, gd, qual, L', f, cdv, envX cn cs' L a ccd cl :: outer, ktrTop dp un gd cn cs' L a ccd cl outer, base, g, (news = ·), s, [], .inr ⟨rfl, hA⟩, B', X', T', hk, hd', hu', hnd, fun _ _ h h' => h ▸ h' ▸ rfl⟩
  have hst : St C us [] { s with heap := h₁, toks := s.toks + binds.length } := ⟨news, rfl, ⟨rfl, rfl, rfl⟩, ⟨_, F', hus⟩, N', fun _ _ _ h => nomatch h⟩
  have h1 := hb C rfl (fun q hq _ e => e ▸ hled q hq) _ hst
  show wpR (model PySem.Challenge.pw_pf0076_01 w) (ktrTop (dp + 1) (un + 3) gd qual cs L' f cdv [] (envX cn cs' L a ccd cl :: outer)) _ _ _ _
  refine wpR_mono h1 (fun fl s' h => ?_) (fun e s' h => ?_)
  · have key : ∀ v us nw, RX v nw → St C us nw s' → LeaveK h₀ L m g (fun r s' => match r with | .ok (.ret v) => Q v s' | .ok _ => False | .error e => E e s') v s' := fun v us nw hr hs => by
      obtain ⟨_, rfl, hsame, ⟨m', Fm', _⟩, hn, hab⟩ := hs
      refine leaveK_ Fm' hn fun F9 N9 => ?_
      have h9 := hret v nw s'.heap s'.toks hr F9 N9 hab
      rw [hsame.eq]
      exact h9
    cases fl with
    | next => obtain ⟨us', nw, hr, hs⟩ := h; exact key _ _ _ hr hs
    | ret v => obtain ⟨us', nw, hr, hs⟩ := h; exact key _ _ _ hr hs
    | brk => exact h.elim
    | cont => exact h.elim
  · refine wpAny_mono h (fun _ s'' h' => ?_) (fun _ _ h' => h'.elim)
    obtain ⟨x, sp, rfl, hx, hs, _, rfl, R⟩ := h'
    have h9 := hexc x sp s''.heap s''.toks g hx FG R
    rw [hs.eq]
    exact h9

end
section
example : True := by
  w_top off
  k_with_none
  (k_with "bx" => ((case ho => k_is); (case hcd => k_is); (case hb => exact rfl); (case hl => exact locs rfl); (case hu => k_extra "bx_hu"); (case c1 => exact rfl); (case c2 => exact rfl); (case c3 => exact rfl); (case c4 => decide)))
  (k_with "bx_hu" => (repeat (first | exact trivial | (refine And.intro ?_ ?_; first | exact trivial | exact rfl | exact Exists.intro _ rfl))))
  trivial
theorem slice_in {T : PySem.Str} {i : Int} {l : List PySem.Str} (h0 : 0 ≤ i) (h : ((Str.ofString "" :: l).any fun x => x == Txt.slice T (some (i + 1)) (some (i + 1 + 1))) = false) : i + 1 < T.length := by
  rcases Int.lt_or_le (i + 1) T.length with c | c
  · exact c
  · have : Txt.slice T (some (i + 1)) (some (i + 1 + 1)) = Str.ofString "" := by
      apply str_ext
      rw [slice_ss _ _ _ (by omega) (by omega)]
      have : T.cps.toList.length ≤ (i + 1).toNat := by have := len_eq T; omega
      rw [List.drop_eq_nil_of_le this, List.take_nil]; rfl
    rw [this, List.any_cons] at h
    exact absurd (Bool.or_eq_false_iff.mp h).1 (by decide)
noncomputable def runeFin (T : PySem.Str) (i v j : Int) : Except Int (Wd × Int) :=
  if (Txt.slice T (some j) (some (j + 1)) != Str.ofString "'") = true then .error i else .ok (⟨Str.ofString "rune", Txt.slice T (some i) (some (j + 1)), i, .int v⟩, j + 1)
noncomputable def runeRead (T : PySem.Str) (i : Int) : Except Int (Wd × Int) :=
  if ([Str.ofString "", Str.ofString "\n", Str.ofString "'"].any fun x => x == Txt.slice T (some (i + 1)) (some (i + 1 + 1))) = true then .error i
  else if (Txt.item T (i + 1) == Str.ofString "\\") = true then
    match escRead T (i + 1) (Str.ofString "'") with
    | none => .error (i + 1)
    | some (v, _, j) => runeFin T i v j
  else if rightI (((Txt.item T (i + 1)).cps.getD 0 0 : Nat) : Int) = true then runeFin T i (((Txt.item T (i + 1)).cps.getD 0 0 : Nat) : Int) (i + 1 + 1) else .error (i + 1)
section
variable {T : PySem.Str} {i v j : Int} {b : Bool}
theorem rw1 (h : ([Str.ofString "", Str.ofString "\n", Str.ofString "'"].any fun x => x == Txt.slice T (some (i + 1)) (some (i + 1 + 1))) = true) : runeRead T i = .error i := if_pos h
theorem rwN (h : ([Str.ofString "", Str.ofString "\n", Str.ofString "'"].any fun x => x == Txt.slice T (some (i + 1)) (some (i + 1 + 1))) = false) : runeRead T i = if (Txt.item T (i + 1) == Str.ofString "\\") = true then
    match escRead T (i + 1) (Str.ofString "'") with
    | none => .error (i + 1)
    | some (v, _, j) => runeFin T i v j
  else if rightI (((Txt.item T (i + 1)).cps.getD 0 0 : Nat) : Int) = true then runeFin T i (((Txt.item T (i + 1)).cps.getD 0 0 : Nat) : Int) (i + 1 + 1) else .error (i + 1) := if_neg (by rw [h]; exact Bool.false_ne_true)
end
theorem g_esc (w : World) : nsIn (Mine.hd.heap_39 w.params) mainGlobals (Str.ofString "read_escape") = some (some (.ref 144)) := by k_is
theorem k_esc (w : World) : keepIn (Mine.hd.heap_39 w.params) (.ref 144) = true := by k_is
theorem g_plain (w : World) : nsIn (Mine.hd.heap_39 w.params) mainGlobals (Str.ofString "plain_rune") = some (some (.ref 151)) := by k_is
theorem k_plain (w : World) : keepIn (Mine.hd.heap_39 w.params) (.ref 151) = true := by k_is
theorem read_rune_c (w : World) (text : PySem.Str) (i : Int) (t1 t2 : Tok) (h0 : 0 ≤ i) (h1 : i < text.length) (hl : text.length ≤ 1048576) :
    Ctr w 172 [.str text t1, .int i t2] 10 200 [] (RRead (runeRead text i)) (fun sp => runeRead text i = .error sp) := by
  refine' Ctr.of_body [Str.ofString "text", Str.ofString "begin", Str.ofString "at", Str.ofString "value", Str.ofString "is_octet"] [.str text, .int i, .no, .no, .no] ?ho ?hcd ?hb ?hl (by decide +kernel) (slots _ _ ?hu) ?c1 ?c2 ?c3 ?c4 ?_
  k_extra "bx"
  intro C _
  refine Ex.set 2 rfl (fun _ => rfl) (Ev.add (Ev.loc 1 rfl rfl rfl) Ev.cint) ?_
  refine Ex.ite (Tst.cm (Cm.inT [Str.ofString "", Str.ofString "\n", Str.ofString "'"] (Ev.ss (Ev.loc 0 rfl rfl rfl) (Ev.loc 2 rfl rfl rfl) (Ev.add (Ev.loc 2 rfl rfl rfl) Ev.cint) hl) (EvL.cons Ev.cstr (EvL.cons Ev.cstr (EvL.cons Ev.cstr EvL.nil fun _ => rfl) fun _ => rfl) fun _ => rfl) (by decide))) (fun h => ?_) fun h => Ex.nil ?_
  · exact Ex.raise rfl (g_fault _) (k_fault _) (EvL.cons Ev.cstr (EvL.cons (Ev.loc 1 rfl rfl rfl) EvL.nil fun _ => rfl) fun _ => rfl) (by decide) (by decide) (rw1 h) (fun _ => rfl) (fun _ => rfl) fun _ => rfl
  have hn := rwN h
  have h4 := slice_in h0 h
  have h3 : 0 ≤ i + 1 := Int.le_trans h0 (Int.le_add_one (Int.le_refl i))
  refine Ex.iteJ (fun us' nw' => nw' = [] ∧ ∃ v j, runeRead text i = runeFin text i v j ∧ Sub [.str text, .int i, .int j, .int v, .no] us') (Tst.cm (Cm.eqS (Ev.item (Ev.loc 0 rfl rfl rfl) (Ev.loc 2 rfl rfl rfl) h3 h4 hl (fun _ _ _ => by with_unfolding_all rfl)) Ev.cstr)) (fun hq => ?_) (fun hq => ?_) ?_
  · rw [if_pos hq] at hn
    refine Ex.unpack3 3 4 2 rfl rfl rfl (EvG.call rfl (g_esc _) (k_esc _) (EvL.cons (Ev.loc 0 rfl rfl rfl) (EvL.cons (Ev.loc 2 rfl rfl rfl) (EvL.cons Ev.cstr EvL.nil fun _ => rfl) fun _ => rfl) fun _ => rfl) (fun t1 t2 t3 => read_escape_c _ _ _ _ t1 t2 t3 h3 h4 hl (by decide)) (by decide) (by decide) (fun sp h => ?_) (fun _ => rfl) (fun _ => rfl) fun _ => rfl) (fun v n2 hr => ?_) (fun _ => rfl) fun _ => rfl
    · rw [h.2] at hn; rw [h.1]; exact hn
    · cases hr with
      | mk x v b j t1 t2 e =>
        rw [e] at hn
        exact ⟨x, _, _, _, .int v, .val (.bool b), .int j, rfl, .head _, ⟨_, rfl⟩, rfl, ⟨_, rfl⟩, Ex.nil ⟨rfl, v, j, hn, .eq (.eq (.eq (.eq (.no .nil))))⟩⟩
  · rw [if_neg (by rw [hq]; exact Bool.false_ne_true)] at hn
    refine Ex.swap2 3 2 rfl rfl (EvG.call rfl (g_plain _) (k_plain _) (EvL.cons (Ev.loc 0 rfl rfl rfl) (EvL.cons (Ev.loc 2 rfl rfl rfl) EvL.nil fun _ => rfl) fun _ => rfl) (fun t1 t2 => plain_rune_c _ _ _ t1 t2 h3 h4 hl) (by decide) (by decide) (fun sp h => ?_) (fun _ => rfl) (fun _ => rfl) fun _ => rfl) (Ev.add (Ev.loc 2 rfl rfl rfl) Ev.cint) (fun v n2 hr => ?_) (fun _ => rfl) (fun _ => rfl) (fun _ => rfl) fun _ _ _ _ _ => rfl
    · rw [h.2] at hn; rw [h.1]; exact hn
    · cases hr with
      | mk t hr =>
        rw [if_pos hr] at hn
        exact ⟨rfl, .int _, ⟨t, rfl⟩, Ex.nil ⟨rfl, _, _, hn, .eq (.eq (.eq (.eq (.no .nil))))⟩⟩
  · rintro us' nw' ⟨rfl, v, j, hv, hsub⟩
    refine Ex.sub hsub (Ex.ite (Tst.cm (Cm.neS (Ev.ss (Ev.loc 0 rfl rfl rfl) (Ev.loc 2 rfl rfl rfl) (Ev.add (Ev.loc 2 rfl rfl rfl) Ev.cint) hl) Ev.cstr)) (fun h => ?_) fun h => Ex.nil ?_)
    · exact Ex.raise rfl (g_fault _) (k_fault _) (EvL.cons Ev.cstr (EvL.cons (Ev.loc 1 rfl rfl rfl) EvL.nil fun _ => rfl) fun _ => rfl) (by decide) (by decide) (hv.trans (if_pos h)) (fun _ => rfl) (fun _ => rfl) fun _ => rfl
    · exact Ex.ret (EvG.tup2 (EvL.cons Ev.cstr (EvL.cons (Ev.ss (Ev.loc 0 rfl rfl rfl) (Ev.loc 1 rfl rfl rfl) (Ev.add (Ev.loc 2 rfl rfl rfl) Ev.cint) hl) (EvL.cons (Ev.loc 1 rfl rfl rfl) (EvL.cons (Ev.loc 3 rfl rfl rfl) EvL.nil fun _ => rfl) fun _ => rfl) fun _ => rfl) fun _ => rfl) (Nat.le_of_ble_eq_true rfl) (fun _ => Ev.add (Ev.loc 2 rfl rfl rfl) Ev.cint) (fun D D' hlt t1 t2 t3 t4 t5 => .mk D' D _ _ _ t5 (hv.trans (if_neg (by rw [h]; exact Bool.false_ne_true))) (.mk _ _ _ _ t1 t2 t3 _ (.int v t4)) hlt) (fun _ => rfl) fun _ => rfl) fun _ _ h => h

end
section
example : True := by
  w_top off
  trivial
theorem numParts_len {text f : PySem.Str} {b : Int} (h : numParts text = (b, f)) : f.length ≤ text.length ∧ 2 ≤ b ∧ b ≤ 16 := by
  have hs : ∀ i : Int, 0 ≤ i → (Txt.slice text (some i) none).length ≤ text.length := fun i h => by
    have e := congrArg List.length (slice_sn text i h)
    rw [List.length_drop] at e
    have e1 := len_eq text
    have e2 := len_eq (Txt.slice text (some i) none)
    omega
  have hp : ∀ p c, prefBase p = some c → 2 ≤ c ∧ c ≤ 16 := by
    intro p c h
    unfold prefBase at h
    split at h
    · cases h; omega
    · split at h
      · cases h; omega
      · split at h
        · cases h; omega
        · cases h
  unfold numParts at h
  generalize hc : prefBase _ = z at h
  cases z with
  | some c =>
    have := hp _ _ hc
    cases h
    refine ⟨?_, this⟩
    split <;> exact hs _ (by decide)
  | none =>
    dsimp only at h
    split at h
    · split at h
      · cases h
        refine ⟨?_, by omega⟩
        split <;> exact hs _ (by decide)
      · cases h; exact ⟨Nat.le_refl _, by omega⟩
    · cases h; exact ⟨Nat.le_refl _, by omega⟩
theorem number_parts_b (w : World) {text : PySem.Str} {b : Int} {f : PySem.Str} (t1 : Tok) (hl : text.length ≤ 1048576) (h : numParts text = (b, f)) : Ctr w 123 [.str text t1] 1 8 [] (RParts b f) (fun _ => False) := by
  have := number_parts_c w text t1 hl
  rw [h] at this
  exact this
noncomputable abbrev nameS : PySem.Str := Str.ofString "abcdefghijklmnopqrstuvwxyzABCDEFGHIJKLMNOPQRSTUVWXYZ_0123456789"
noncomputable abbrev figS : PySem.Str := Str.ofString "0123456789"
noncomputable def numBad (f : PySem.Str) : Bool := (f == Str.ofString "") || (Txt.item f 0 == Str.ofString "_") || (Txt.item f (-1) == Str.ofString "_") || !(Builtin.Str.occurrences f (Str.ofString "__") 0 f.length 1).isEmpty
noncomputable def numPt (T : PySem.Str) (e : Int) : Bool := (Txt.slice T (some e) (some (e + 1)) == Str.ofString ".") && hasS figS (Txt.slice T (some (e + 1)) (some (e + 2))) && decide (e + 1 < T.length)
noncomputable def numFin (T : PySem.Str) (i b : Int) (f : PySem.Str) : Except Int (Wd × Int) :=
  if numBad f = true then .error i else if (100 : Int) < f.length then .error i else
  if figsOk b (Txt.replace f (Str.ofString "_") (Str.ofString "")).cps.toList = true then
    if numPt T (runEnd T nameS i) = true then .error i
    else .ok (⟨Str.ofString "int", Txt.slice T (some i) (some (runEnd T nameS i)), i, .int (valOf b (Txt.replace f (Str.ofString "_") (Str.ofString "")).cps.toList)⟩, runEnd T nameS i)
  else .error i
noncomputable def numRead (T : PySem.Str) (i : Int) : Except Int (Wd × Int) :=
  numFin T i (numParts (Txt.slice T (some i) (some (runEnd T nameS i)))).1 (numParts (Txt.slice T (some i) (some (runEnd T nameS i)))).2
theorem g_parts (w : World) : nsIn (Mine.hd.heap_39 w.params) mainGlobals (Str.ofString "number_parts") = some (some (.ref 123)) := by k_is
theorem k_parts (w : World) : keepIn (Mine.hd.heap_39 w.params) (.ref 123) = true := by k_is
theorem g_names (w : World) : nsIn (Mine.hd.heap_39 w.params) mainGlobals (Str.ofString "NAME_SIGNS") = some (some (.str nameS 389)) := by k_is
theorem g_figS (w : World) : nsIn (Mine.hd.heap_39 w.params) mainGlobals (Str.ofString "FIGURE_SIGNS") = some (some (.str figS 383)) := by k_is
theorem g_most (w : World) : nsIn (Mine.hd.heap_39 w.params) mainGlobals (Str.ofString "MOST_FIGURES") = some (some (.int 100 393)) := by k_is
theorem g_str (w : World) : nsIn (Mine.hd.heap_39 w.params) mainGlobals (Str.ofString "str") = some none := by k_is
theorem ne_len {f : PySem.Str} (h : (f == Str.ofString "") = false) : 0 < f.length := by
  rcases Nat.eq_zero_or_pos f.length with e | e
  · have : f = Str.ofString "" := str_ext (by rw [len_eq] at e; rw [List.length_eq_zero_iff.mp e]; rfl)
    rw [this] at h; exact absurd h (by decide)
  · exact e
section
variable {cs : Scope} {ns : List PySem.Str} {d u : Nat} {RX : Value → List (Addr × Obj) → Prop} {XX : Int → Prop} {C : Bx cs ns d u RX XX} {us : List Vl} {nw : List (Addr × Obj)} {pos p : Pos}
theorem EvI.run {e1 e2 e3 : PySem.Expr} {text signs : PySem.Str} {i : Int} (ho : okGlob cs (Str.ofString "run_behind") = true) (h1 : Ev C us nw e1 (.str text)) (h2 : Ev C us nw e2 (.int i)) (h3 : Ev C us nw e3 (.str signs)) (h0 : 0 ≤ i) (hi : i ≤ text.length) (hl : text.length ≤ 1048576) (hd : 1 ≤ d) (hu : 8 ≤ u)
    (he : ∀ env, starEach [e1, e2, e3] env = (false, eval e1 env) :: starEach [e2, e3] env) (he2 : ∀ env, starEach [e2, e3] env = (false, eval e2 env) :: starEach [e3] env) (he3 : ∀ env, starEach [e3] env = [(false, eval e3 env)])
    (hcall : ∀ env, eval (.Call (.Name (Str.ofString "run_behind") p) [e1, e2, e3] [] pos) env = (do callWith pos (← eval (.Name (Str.ofString "run_behind") p) env) [] (backTo pos (starEach [e1, e2, e3] env)) (backToKw pos (keywordEach [] env)))) :
    Ev C us nw (.Call (.Name (Str.ofString "run_behind") p) [e1, e2, e3] [] pos) (.int (runEnd text signs i)) :=
  EvG.call0 (EvG.call ho (g_run _) (k_run _) (EvL.cons h1 (EvL.cons h2 (EvL.cons h3 EvL.nil he3) he2) he) (fun t1 t2 t3 => run_behind_c _ _ _ _ t1 t2 t3 h0 hi hl) hd hu (fun _ h => h.elim) he (fun env => by rw [he2, he3]; rfl) hcall) RInt.ev
end
theorem read_number_c (w : World) (text : PySem.Str) (i : Int) (t1 t2 : Tok) (h0 : 0 ≤ i) (h1 : i < text.length) (hl : text.length ≤ 1048576) :
    Ctr w 130 [.str text t1, .int i t2] 10 200 [] (RRead (numRead text i)) (fun sp => numRead text i = .error sp) := by
  refine' Ctr.of_body [Str.ofString "text", Str.ofString "begin", Str.ofString "end", Str.ofString "base", Str.ofString "figures", Str.ofString "value", Str.ofString "sign"] [.str text, .int i, .no, .no, .no, .no, .no] ?ho ?hcd ?hb ?hl (by decide +kernel) (slots _ _ ?hu) ?c1 ?c2 ?c3 ?c4 ?_
  k_extra "bx"
  intro C _
  obtain ⟨b, f, hP⟩ : ∃ b f, numParts (Txt.slice text (some i) (some (runEnd text nameS i))) = (b, f) := ⟨_, _, (Prod.eta _).symm⟩
  have hX : (Txt.slice text (some i) (some (runEnd text nameS i))).length ≤ 1048576 := Nat.le_trans (PyProof.Txt.length_slice_le ..) hl
  have hN : numRead text i = numFin text i b f := by rw [numRead, hP]
  obtain ⟨hf, hb0, hb1⟩ := numParts_len hP
  have hf := Nat.le_trans hf hX
  refine Ex.set 2 rfl (fun _ => rfl) (EvI.run rfl (Ev.loc 0 rfl rfl rfl) (Ev.loc 1 rfl rfl rfl) (Ev.gstr rfl (g_names _)) h0 (Int.le_of_lt h1) hl (by decide) (by decide) (fun _ => rfl) (fun _ => rfl) (fun _ => rfl) fun _ => rfl) ?_
  refine Ex.unpack2 3 4 rfl rfl (EvG.call rfl (g_parts _) (k_parts _) (EvL.cons (Ev.ss (Ev.loc 0 rfl rfl rfl) (Ev.loc 1 rfl rfl rfl) (Ev.loc 2 rfl rfl rfl) hl) EvL.nil fun _ => rfl) (fun t => number_parts_b _ t hX hP) (by decide) (by decide) (fun _ h => h.elim) (fun _ => rfl) (fun _ => rfl) fun _ => rfl) (fun v n2 hr => ?_) (fun _ => rfl) fun _ => rfl
  cases hr with
  | mk x t1 t2 =>
  refine ⟨x, _, _, .int b, .str f, rfl, .head _, ⟨_, rfl⟩, ⟨_, rfl⟩, ?_⟩
  refine Ex.ite (b := numBad f) (Tst.eq (Tst.l (.cO (Tst.cm (Cm.eqS (Ev.loc 4 rfl rfl rfl) Ev.cstr)) fun h => .cO (Tst.cm (Cm.eqS (Ev.item (Ev.loc 4 rfl rfl rfl) Ev.cint (by decide) (Int.ofNat_lt.mpr (ne_len h)) hf (fun _ _ _ => by with_unfolding_all rfl)) Ev.cstr)) fun _ => .cO (Tst.cm (Cm.eqS (Ev.itemN (Ev.loc 4 rfl rfl rfl) (Ev.neg Ev.cint) (by decide) (Int.neg_le_neg (Int.ofNat_le.mpr (ne_len h))) hf (fun _ _ _ => by with_unfolding_all rfl)) Ev.cstr)) fun _ => .cO (Tst.cm (Cm.inS rfl Ev.cstr (Ev.loc 4 rfl rfl rfl))) fun _ => .nO)) (by simp only [numBad, hasS, Bool.or_assoc, Bool.or_false])) (fun hbad => ?_) fun hbad => Ex.nil ?_
  · exact Ex.raise rfl (g_fault _) (k_fault _) (EvL.cons Ev.cstr (EvL.cons (Ev.loc 1 rfl rfl rfl) EvL.nil fun _ => rfl) fun _ => rfl) (by decide) (by decide) (hN.trans (if_pos hbad)) (fun _ => rfl) (fun _ => rfl) fun _ => rfl
  have hN := hN.trans (if_neg (by rw [hbad]; exact Bool.false_ne_true))
  refine Ex.iteD (Tst.cm (Cm.gt (Ev.len rfl (Ev.loc 4 rfl rfl rfl) hf (fun _ => rfl) fun _ => rfl) (Ev.gint rfl (g_most _)))) (fun h => ?_) fun h => Ex.nil ?_
  · exact Ex.raise rfl (g_fault _) (k_fault _) (EvL.cons (Ev.cat (Ev.cat Ev.cstr (Ev.strI rfl (g_str _) (Ev.gint rfl (g_most _)) (by decide) (fun _ => rfl) fun _ => rfl) (by decide +kernel)) Ev.cstr (by decide +kernel)) (EvL.cons (Ev.loc 1 rfl rfl rfl) EvL.nil fun _ => rfl) fun _ => rfl) (by decide) (by decide) (hN.trans (if_pos h)) (fun _ => rfl) (fun _ => rfl) fun _ => rfl
  have hN := hN.trans (if_neg h)
  refine Ex.setP 5 rfl (fun _ => rfl) Ev.cint ?_
  refine ExP.forRep (α := Nat) 6 (fun j c => c = j ∧ figsOk b ((Txt.replace f (Str.ofString "_") (Str.ofString "")).cps.toList.take j) = true) (fun c => [.str text, .int i, .int (runEnd text nameS i), .int b, .no, .int (valOf b ((Txt.replace f (Str.ofString "_") (Str.ofString "")).cps.toList.take c)), .no]) 0 rfl (St.locS 4 rfl rfl) (fun _ _ => rfl) (fun _ => rfl) (by decide) hf (by decide) ⟨rfl, rfl⟩ (.eq (.eq (.eq (.eq (.no (.eq (.no .nil))))))) (fun j c n hn hI C _ => ?_) fun c hI => ?_
  · obtain ⟨rfl, hok⟩ := hI
    refine Ex.iteD (Tst.cm (Cm.ge (Ev.worth rfl (Ev.loc 6 rfl rfl rfl) (Nat.le_of_ble_eq_true rfl) (by decide) (by decide) (fun _ => rfl) fun _ => rfl) (Ev.loc 3 rfl rfl rfl))) (fun h => ?_) fun h => Ex.nil ?_
    · refine Ex.raise rfl (g_fault _) (k_fault _) (EvL.cons (Ev.cat Ev.cstr (Ev.loc 6 rfl rfl rfl) (Nat.le_of_ble_eq_true rfl)) (EvL.cons (Ev.loc 1 rfl rfl rfl) EvL.nil fun _ => rfl) fun _ => rfl) (by decide) (by decide) (hN.trans (if_neg ?_)) (fun _ => rfl) (fun _ => rfl) fun _ => rfl
      rw [figsOk_no hn h]; exact Bool.false_ne_true
    · refine Ex.set 5 rfl (fun _ => rfl) (Ev.add (Ev.mul (Ev.loc 5 rfl rfl rfl) (Ev.loc 3 rfl rfl rfl) (by omega) (by omega)) (Ev.worth rfl (Ev.loc 6 rfl rfl rfl) (Nat.le_of_ble_eq_true rfl) (by decide) (by decide) (fun _ => rfl) fun _ => rfl)) (Ex.nil ⟨rfl, c + 1, ⟨rfl, ?_⟩, ?_⟩)
      · rw [take_snoc hn, figsOk_snoc, hok, decide_eq_true (Int.not_le.mp h)]; rfl
      · rw [take_snoc hn, valOf_snoc]
        exact .eq (.eq (.eq (.eq (.eq (.eq (.no .nil))))))
  · obtain ⟨rfl, hok⟩ := hI
    rw [len_eq, List.take_length] at hok ⊢
    have hN := hN.trans (if_pos hok)
    refine Ex.ite (b := numPt text (runEnd text nameS i)) (Tst.eq (Tst.l (.cA (Tst.cm (Cm.eqS (Ev.ss (Ev.loc 0 rfl rfl rfl) (Ev.loc 2 rfl rfl rfl) (Ev.add (Ev.loc 2 rfl rfl rfl) Ev.cint) hl) Ev.cstr)) fun _ => .cA (Tst.cm (Cm.inS rfl (Ev.ss (Ev.loc 0 rfl rfl rfl) (Ev.add (Ev.loc 2 rfl rfl rfl) Ev.cint) (Ev.add (Ev.loc 2 rfl rfl rfl) Ev.cint) hl) (Ev.gstr rfl (g_figS _)))) fun _ => .cA (Tst.cm (Cm.lt (Ev.add (Ev.loc 2 rfl rfl rfl) Ev.cint) (Ev.len rfl (Ev.loc 0 rfl rfl rfl) hl (fun _ => rfl) fun _ => rfl))) fun _ => .nA)) (by rw [numPt, Bool.and_true, Bool.and_assoc])) (fun h => ?_) fun h => Ex.nil ?_
    · exact Ex.raise rfl (g_fault _) (k_fault _) (EvL.cons Ev.cstr (EvL.cons (Ev.loc 1 rfl rfl rfl) EvL.nil fun _ => rfl) fun _ => rfl) (by decide) (by decide) (hN.trans (if_pos h)) (fun _ => rfl) (fun _ => rfl) fun _ => rfl
    · exact Ex.ret (EvG.tup2 (EvL.cons Ev.cstr (EvL.cons (Ev.ss (Ev.loc 0 rfl rfl rfl) (Ev.loc 1 rfl rfl rfl) (Ev.loc 2 rfl rfl rfl) hl) (EvL.cons (Ev.loc 1 rfl rfl rfl) (EvL.cons (Ev.loc 5 rfl rfl rfl) EvL.nil fun _ => rfl) fun _ => rfl) fun _ => rfl) fun _ => rfl) (Nat.le_of_ble_eq_true rfl) (fun _ => Ev.loc 2 rfl rfl rfl) (fun D D' hlt t1 t2 t3 t4 t5 => .mk D' D _ _ _ t5 (hN.trans (if_neg (by rw [h]; exact Bool.false_ne_true))) (.mk _ _ _ _ t1 t2 t3 _ (.int _ t4)) hlt) (fun _ => rfl) fun _ => rfl) fun _ _ h => h

end
section
example : True := by
  w_top off
  trivial
noncomputable def strOf? : Value → Option PySem.Str
  | .str s _ => some s
  | _ => none
noncomputable def signList : List PySem.Str := ["<<=", ">>=", "&^=", "...", "&&", "||", "<-", "++", "--", "==", "!=", "<=", ">=", ":=", "+=", "-=", "*=", "/=", "%=", "&=", "|=", "^=", "<<", ">>", "&^", "+", "-", "*", "/", "%", "&", "|", "^", "<", ">", "=", "!", "(", ")", "[", "]", "{", "}", ",", ";", ".", ":"].map Str.ofString
theorem signs_at {P : Params} {h : Heap} (X : (Mine.hd.heap_39 P).In h) : ∃ items : Array Value, h.IsTuple 84 items ∧ items.toList.map strOf? = signList.map some := by
  have e := X 84 _ (by k_is)
  exact ⟨_, ⟨_, e, rfl, _, rfl⟩, rfl⟩
theorem strs_get {items : Array Value} {l : List PySem.Str} (h : items.toList.map strOf? = l.map some) {i : Nat} {v : Value} (e : items[i]? = some v) : ∃ s t, l[i]? = some s ∧ v = .str s t := by
  have h2 := congrArg (fun x => x[i]?) h
  simp only [List.getElem?_map] at h2
  rw [show items.toList[i]? = some v by simpa using e] at h2
  cases hl : l[i]? with
  | none => rw [hl] at h2; simp at h2
  | some s =>
    rw [hl] at h2
    cases v <;> first | exact ⟨_, _, rfl, by cases h2; rfl⟩ | cases h2
theorem strs_size {items : Array Value} {l : List PySem.Str} (h : items.toList.map strOf? = l.map some) : items.size = l.length := by
  have := congrArg List.length h
  simpa using this
theorem signs_len : ∀ s ∈ signList, s.length ≤ 3 := by decide +kernel
noncomputable def signRead (T : PySem.Str) (i : Int) : Except Int (Wd × Int) :=
  match signList.find? (fun s => Txt.slice T (some i) (some (i + s.length)) == s) with
  | some s => .ok (⟨Str.ofString "sign", s, i, .none⟩, i + s.length)
  | none => .error i
theorem signRead_def (T : PySem.Str) (i : Int) : signRead T i = match signList.find? (fun s => Txt.slice T (some i) (some (i + s.length)) == s) with
  | some s => .ok (⟨Str.ofString "sign", s, i, .none⟩, i + s.length)
  | none => .error i := by
  have h := Eq.refl (signRead T i)
  exact h
theorem find_none {α : Type} {p : α → Bool} : ∀ {l : List α}, (∀ j, j < l.length → ∀ x, l[j]? = some x → p x = false) → l.find? p = none := by
  intro l h
  rw [List.find?_eq_none]
  intro x hx
  obtain ⟨j, hj, e⟩ := List.getElem_of_mem hx
  have := h j hj x (by rw [List.getElem?_eq_getElem hj, e])
  simp [this]
theorem find_at {α : Type} {p : α → Bool} : ∀ {l : List α} {k : Nat} {x : α}, (∀ j, j < k → ∀ x, l[j]? = some x → p x = false) → l[k]? = some x → p x = true → l.find? p = some x
  | [], k, x, _, h, _ => by simp at h
  | a :: r, 0, x, _, h, hp => by
    simp at h; subst h; simp [hp]
  | a :: r, k + 1, x, hl, h, hp => by
    rw [List.find?_cons_of_neg (by simp [hl 0 (by omega) a rfl])]
    exact find_at (k := k) (fun j hj x hx => hl (j + 1) (Nat.succ_lt_succ hj) x (by simpa using hx)) (by simpa using h) hp
theorem g_signs (w : World) : nsIn (Mine.hd.heap_39 w.params) mainGlobals (Str.ofString "ALL_SIGNS") = some (some (.ref 84)) := by k_is
theorem read_sign_c (w : World) (text : PySem.Str) (i : Int) (t1 t2 : Tok) (h0 : 0 ≤ i) (h1 : i < text.length) (hl : text.length ≤ 1048576) :
    Ctr w 179 [.str text t1, .int i t2] 10 200 [] (RRead (signRead text i)) (fun sp => signRead text i = .error sp) := by
  refine' Ctr.of_body [Str.ofString "text", Str.ofString "at", Str.ofString "sign"] [.str text, .int i, .no] ?ho ?hcd ?hb ?hl (by decide +kernel) (slots _ _ ?hu) ?c1 ?c2 ?c3 ?c4 ?_
  k_extra "bx"
  intro C _
  obtain ⟨items, hit, hits⟩ := signs_at C.K
  refine Ex.forTup (α := Nat) 2 (fun k c => c = k ∧ ∀ j, j < k → ∀ sg, signList[j]? = some sg → (Txt.slice text (some i) (some (i + sg.length)) == sg) = false) (fun _ => [.str text, .int i, .no]) 0 rfl (Ev.glob rfl (g_signs _)) hit (fun _ _ => rfl) ⟨rfl, fun j hj => absurd hj (Nat.not_lt_zero j)⟩ (Sub.refl _) (fun k c v hv hI C _ => ?_) fun c hI => ?_
  · obtain ⟨sg, tg, hsg, rfl⟩ := strs_get hits hv
    have hsl := signs_len sg (List.mem_of_getElem? hsg)
    have hsz : sg.length ≤ 1048576 := Nat.le_trans hsl (by decide)
    have hv2 : ∀ {us' nw' pos}, us'[2]? = some (Vl.val (.str sg tg)) → Ev C us' nw' (.Name (Str.ofString "sign") pos) (.str sg) := fun h => (Ev.loc 2 rfl h rfl).weak fun _ h => ⟨tg, h⟩
    refine Ex.ite (Tst.cm (Cm.eqS (Ev.ss (Ev.loc 0 rfl rfl rfl) (Ev.loc 1 rfl rfl rfl) (Ev.add (Ev.loc 1 rfl rfl rfl) (Ev.len rfl (hv2 rfl) hsz (fun _ => rfl) fun _ => rfl)) hl) (hv2 rfl))) (fun h => ?_) fun h => Ex.nil (Ex.nil ⟨rfl, k + 1, ⟨rfl, fun j hj sg' hsg' => ?_⟩, .eq (.eq (.no .nil))⟩)
    · refine Ex.ret (EvG.tup2 (EvL.cons Ev.cstr (EvL.cons (hv2 rfl) (EvL.cons (Ev.loc 1 rfl rfl rfl) (EvL.cons Ev.non EvL.nil fun _ => rfl) fun _ => rfl) fun _ => rfl) fun _ => rfl) (Nat.le_of_ble_eq_true rfl) (fun _ => Ev.add (Ev.loc 1 rfl rfl rfl) (Ev.len rfl (hv2 rfl) hsz (fun _ => rfl) fun _ => rfl)) (fun D D' hlt t1 t2 t3 t5 => .mk D' D _ ⟨_, sg, i, .none⟩ _ t5 ?_ (.mk _ _ _ _ t1 t2 t3 _ .none) hlt) (fun _ => rfl) fun _ => rfl) fun _ _ h => h
      rw [signRead_def, find_at (p := fun s => Txt.slice text (some i) (some (i + s.length)) == s) hI.2 hsg h]
    · rcases Nat.lt_or_ge j k with c | c
      · exact hI.2 j c sg' hsg'
      · obtain rfl : j = k := Nat.le_antisymm (Nat.le_of_lt_succ hj) c
        rw [hsg] at hsg'; cases hsg'; exact h
  · rw [strs_size hits] at hI
    exact Ex.raise rfl (g_fault _) (k_fault _) (EvL.cons (Ev.cat Ev.cstr (Ev.item (Ev.loc 0 rfl rfl rfl) (Ev.loc 1 rfl rfl rfl) h0 h1 hl (fun _ _ _ => by with_unfolding_all rfl)) (by rw [len_item]; exact Nat.le_of_ble_eq_true rfl)) (EvL.cons (Ev.loc 1 rfl rfl rfl) EvL.nil fun _ => rfl) fun _ => rfl) (by decide) (by decide) (by rw [signRead_def, find_none (p := fun s => Txt.slice text (some i) (some (i + s.length)) == s) hI.2]) (fun _ => rfl) (fun _ => rfl) fun _ => rfl

end
section
example : True := by
  w_top off
  trivial
theorem bts_size (ns : List Int) : (bts ns).size = ns.length := by simp [bts]
noncomputable def quotF (T : PySem.Str) : Nat → Int → List Int → Except Int (List Int × Int)
  | 0, i, acc => .ok (acc, i)
  | n + 1, i, acc =>
    if ([Str.ofString "", Str.ofString "\n", Str.ofString "\""].any fun x => x == Txt.slice T (some i) (some (i + 1))) = true then .ok (acc, i)
    else if (Txt.item T i == Str.ofString "\\") = true then
      match escRead T i (Str.ofString "\"") with
      | none => .error i
      | some (v, b, j) => quotF T n j (acc ++ (if b = true then [v] else octs v))
    else if rightI (((Txt.item T i).cps.getD 0 0 : Nat) : Int) = true then quotF T n (i + 1) (acc ++ octs (((Txt.item T i).cps.getD 0 0 : Nat) : Int)) else .error i
noncomputable def quotFin (T : PySem.Str) (i : Int) : Except Int (List Int × Int) → Except Int (Wd × Int)
  | .error e => .error e
  | .ok (acc, j) => if (Txt.slice T (some j) (some (j + 1)) != Str.ofString "\"") = true then .error i else .ok (⟨Str.ofString "text", Txt.slice T (some i) (some (j + 1)), i, .bytes acc⟩, j + 1)
noncomputable def quotRead (T : PySem.Str) (i : Int) : Except Int (Wd × Int) := quotFin T i (quotF T (T.length + 1) (i + 1) [])
theorem slice_lt {T : PySem.Str} {i : Int} {l : List PySem.Str} (h0 : 0 ≤ i) (h : ((Str.ofString "" :: l).any fun x => x == Txt.slice T (some i) (some (i + 1))) = false) : i < T.length := by
  rcases Int.lt_or_le i T.length with c | c
  · exact c
  · have : Txt.slice T (some i) (some (i + 1)) = Str.ofString "" := by
      apply str_ext
      rw [slice_ss _ _ _ h0 (by omega)]
      have : T.cps.toList.length ≤ i.toNat := by have := len_eq T; omega
      rw [List.drop_eq_nil_of_le this, List.take_nil]; rfl
    rw [this, List.any_cons] at h
    exact absurd (Bool.or_eq_false_iff.mp h).1 (by decide)
theorem octs_len (v : Int) : (octs v).length ≤ 4 := by
  unfold octs
  (repeat' split) <;> simp
theorem len_octs {acc : List Int} {v j k : Int} (h : (acc.length : Int) ≤ 4 * j) (hk : j < k) : ((acc ++ octs v).length : Int) ≤ 4 * k := by
  have := octs_len v
  rw [List.length_append]
  omega
theorem len_room {acc : List Int} {v j : Int} (h : (acc.length : Int) ≤ 4 * j) (hj : j ≤ 1048576) : (bts acc).size + (bts (octs v)).size ≤ 16777216 := by
  have := octs_len v
  rw [bts_size, bts_size]
  omega
theorem bts_append (a b : List Int) : bts a ++ bts b = bts (a ++ b) := by simp [bts]
theorem quotF_s {T : PySem.Str} {n : Nat} {i : Int} {acc : List Int} : quotF T (n + 1) i acc = if ([Str.ofString "", Str.ofString "\n", Str.ofString "\""].any fun x => x == Txt.slice T (some i) (some (i + 1))) = true then .ok (acc, i)
    else if (Txt.item T i == Str.ofString "\\") = true then
      match escRead T i (Str.ofString "\"") with
      | none => .error i
      | some (v, b, j) => quotF T n j (acc ++ (if b = true then [v] else octs v))
    else if rightI (((Txt.item T i).cps.getD 0 0 : Nat) : Int) = true then quotF T n (i + 1) (acc ++ octs (((Txt.item T i).cps.getD 0 0 : Nat) : Int)) else .error i := Eq.refl _
theorem figsRead_ok {T : PySem.Str} {i many base v : Int} (h0 : 0 ≤ i) (hm : 0 ≤ many) (hm8 : many ≤ 8) (hb : 2 ≤ base) (hb16 : base ≤ 16) (h : figsRead T i many base = some v) : 0 ≤ v ∧ v < base ^ many.toNat ∧ (0 < many → i + many ≤ T.length) := by
  unfold figsRead at h
  split at h
  · rename_i hc
    cases h
    simp only [Bool.and_eq_true, decide_eq_true_eq] at hc
    have hbd := valOf_bounds base hb _ hc.1
    have hl := len_eq T
    have hlen : ((T.cps.toList.drop i.toNat).take many.toNat).length = many.toNat := by
      have : ((T.cps.toList.drop i.toNat).take many.toNat).length ≤ many.toNat := List.length_take_le _ _
      omega
    rw [hlen] at hbd
    refine ⟨hbd.1, hbd.2, fun hp => ?_⟩
    rw [List.length_take, List.length_drop] at hlen
    omega
  · cases h
theorem slice_sgn {T : PySem.Str} {i : Int} (h0 : 0 ≤ i) (h : Txt.slice T (some (i + 1)) (some (i + 2)) ≠ Str.ofString "") : i + 2 ≤ T.length := by
  rcases Int.lt_or_le T.length (i + 2) with c | c
  · refine absurd ?_ h
    apply str_ext
    rw [slice_ss _ _ _ (by omega) (by omega)]
    have : T.cps.toList.length ≤ (i + 1).toNat := by have := len_eq T; omega
    rw [List.drop_eq_nil_of_le this, List.take_nil]; rfl
  · exact c
theorem shortE_ok {S : PySem.Str} {v : Int} (h : shortE S = some v) : rightI v = true ∧ 0 ≤ v ∧ S ≠ Str.ofString "" := by
  unfold shortE at h
  repeat' split at h
  all_goals first
    | (cases h; rename_i e; subst e; exact ⟨by decide, by decide, by decide⟩)
    | cases h
theorem longE_ok {S : PySem.Str} {v : Int} (h : longE S = some v) : 2 ≤ v ∧ v ≤ 8 ∧ (S = Str.ofString "x" → v = 2) := by
  unfold longE at h
  repeat' split at h
  all_goals first
    | (cases h; rename_i e; subst e; exact ⟨by decide, by decide, by decide⟩)
    | cases h
theorem escRead_ok {T : PySem.Str} {i v j : Int} {b : Bool} {q : PySem.Str} (h0 : 0 ≤ i) (h : escRead T i q = some (v, b, j)) (hq : rightI ((q.cps.getD 0 0 : Nat) : Int) = true) (hq2 : q ≠ Str.ofString "") :
    (b = false → rightI v = true ∧ 0 ≤ v) ∧ (b = true → 0 ≤ v ∧ v < 256) ∧ i < j ∧ j ≤ T.length := by
  unfold escRead at h
  generalize hs : shortE (Txt.slice T (some (i + 1)) (some (i + 2))) = z1 at h
  cases z1 with
  | some v' =>
    cases h
    have := shortE_ok hs
    have h2 := slice_sgn h0 this.2.2
    exact ⟨fun _ => ⟨this.1, this.2.1⟩, (fun e => by cases e), by omega, by omega⟩
  | none =>
    dsimp only at h
    split at h
    · rename_i hq'
      cases h
      have h2 := slice_sgn h0 (by rw [eq_of_beq hq']; exact hq2)
      exact ⟨fun _ => ⟨hq, Int.natCast_nonneg _⟩, (fun e => by cases e), by omega, by omega⟩
    · generalize hl : longE (Txt.slice T (some (i + 1)) (some (i + 2))) = z2 at h
      cases z2 with
      | some many =>
        have hl' := longE_ok hl
        dsimp only at h
        generalize hf : figsRead T (i + 2) many 16 = z3 at h
        cases z3 with
        | none => cases h
        | some v' =>
          dsimp only at h
          split at h
          · rename_i hx
            cases h
            obtain ⟨a1, a2, a3⟩ := figsRead_ok (by omega) (by omega) hl'.2.1 (by decide) (by decide) hf
            refine ⟨fun e => ⟨?_, a1⟩, fun e => ⟨a1, ?_⟩, by omega, by omega⟩
            · rw [e, Bool.false_or] at hx; exact hx
            · rw [hl'.2.2 (eq_of_beq e)] at a2
              exact a2
          · cases h
      | none =>
        dsimp only at h
        generalize hf : figsRead T (i + 1) 3 8 = z3 at h
        cases z3 with
        | none => cases h
        | some v' =>
          dsimp only at h
          split at h
          · cases h
          · rename_i hx
            cases h
            obtain ⟨a1, a2, a3⟩ := figsRead_ok (by omega) (by omega) (by omega) (by decide) (by decide) hf
            refine ⟨(fun e => by cases e), fun e => ⟨a1, by omega⟩, by omega, by omega⟩
theorem read_quoted_c (w : World) (text : PySem.Str) (i : Int) (t1 t2 : Tok) (h0 : 0 ≤ i) (h1 : i < text.length) (hl : text.length ≤ 1048576) :
    CtrR w 158 [.str text t1, .int i t2] 10 300 [] (RRead (quotRead text i)) (fun sp => quotRead text i = .error sp) := by
  refine' CtrR.of_body [Str.ofString "text", Str.ofString "begin", Str.ofString "found", Str.ofString "at", Str.ofString "value", Str.ofString "is_octet"] [.str text, .int i, .no, .no, .no, .no] ?ho ?hcd ?hb ?hl (by decide +kernel) (slots _ _ ?hu) ?c1 ?c2 ?c3 ?c4 ?_
  k_extra "bx"
  intro C _ _
  refine ExR.newBa 2 3 rfl rfl rfl (fun _ => Ev.add (Ev.loc 1 rfl rfl rfl) Ev.cint) (fun D => ?_) (fun _ => rfl) (fun _ => rfl) (fun _ => rfl) (fun _ => rfl) fun _ _ _ _ _ => rfl
  refine ExR.while_ (α := Int × List Int) (fun c => i + 1 ≤ c.1 ∧ c.1 ≤ text.length ∧ (c.2.length : Int) ≤ 4 * c.1 ∧ ∃ n, ((text.length : Int) - c.1).toNat < n ∧ quotF text (text.length + 1) (i + 1) [] = quotF text n c.1 c.2) (fun c => [.str text, .int i, .val (.ref D), .int c.1, .no, .no]) (fun c => [(D, baO (bts c.2))]) (fun c => ((text.length : Int) - c.1).toNat)
    (fun c => !([Str.ofString "", Str.ofString "\n", Str.ofString "\""].any fun x => x == Txt.slice text (some c.1) (some (c.1 + 1)))) (i + 1, []) ⟨Int.le_refl _, by show i + 1 ≤ text.length; omega, by show (0 : Int) ≤ 4 * (i + 1); omega, text.length + 1, by show ((text.length : Int) - (i + 1)).toNat < text.length + 1; omega, rfl⟩ (fun c hI => ?_) ?_ ?_
  · exact Tst.cm (Cm.notInT [Str.ofString "", Str.ofString "\n", Str.ofString "\""] (Ev.ss (Ev.loc 0 rfl rfl rfl) (Ev.loc 3 rfl rfl rfl) (Ev.add (Ev.loc 3 rfl rfl rfl) Ev.cint) hl) (EvL.cons Ev.cstr (EvL.cons Ev.cstr (EvL.cons Ev.cstr EvL.nil fun _ => rfl) fun _ => rfl) fun _ => rfl) (by decide))
  · rintro ⟨j, acc⟩ ⟨hj1, hj2, hj3, n, hn, hP⟩ hb
    obtain ⟨n, rfl⟩ : ∃ n', n = n' + 1 := fuel_pos hn
    have hb := (Bool.not_eq_true' _).mp hb
    have hj0 : 0 ≤ j := by have : i + 1 ≤ j := hj1; omega
    have hlt : j < text.length := slice_lt (l := [Str.ofString "\n", Str.ofString "\""]) hj0 hb
    have hP : quotF text (text.length + 1) (i + 1) [] = _ := (hP.trans quotF_s).trans (if_neg (by rw [hb]; exact Bool.false_ne_true))
    have hE : ∀ e, quotF text (text.length + 1) (i + 1) [] = .error e → quotRead text i = .error e := fun e h => congrArg (quotFin text i) h
    refine ExR.iteJ _ (Tst.cm (Cm.eqS (Ev.item (Ev.loc 0 rfl rfl rfl) (Ev.loc 3 rfl rfl rfl) hj0 hlt hl (fun _ _ _ => by with_unfolding_all rfl)) Ev.cstr)) (fun h => ?_) (fun h => ?_) fun us' nw' h => ExR.nil h
    · have hP := hP.trans (if_pos h)
      refine ExR.cons (Ex.unpack3 4 5 3 rfl rfl rfl (EvG.call rfl (g_esc _) (k_esc _) (EvL.cons (Ev.loc 0 rfl rfl rfl) (EvL.cons (Ev.loc 3 rfl rfl rfl) (EvL.cons Ev.cstr EvL.nil fun _ => rfl) fun _ => rfl) fun _ => rfl) (fun t1 t2 t3 => read_escape_c _ _ _ _ t1 t2 t3 hj0 hlt hl (by decide)) (by decide) (by decide) (fun sp h => ?_) (fun _ => rfl) (fun _ => rfl) fun _ => rfl) (fun v n2 hr => ?_) (fun _ => rfl) fun _ => rfl)
      · rw [h.2] at hP; rw [h.1]; exact hE _ hP
      · cases hr with
        | mk x v b k t1 t2 e =>
          rw [e] at hP
          obtain ⟨hb1, hb2, hb3, hb4⟩ := escRead_ok hj0 e (by decide) (by decide)
          refine ⟨x, _, _, _, .int v, .val (.bool b), .int k, rfl, .head _, ⟨_, rfl⟩, rfl, ⟨_, rfl⟩, Ex.nil ?_⟩
          have hm : ((text.length : Int) - k).toNat < n ∧ ((text.length : Int) - k).toNat < ((text.length : Int) - j).toNat := fuel_lt hn hb3 hb4
          have hk : i + 1 ≤ k := by have : i + 1 ≤ j := hj1; omega
          cases b with
          | true =>
            obtain ⟨hb5, hb6⟩ := hb2 rfl
            refine ExR.iadd 2 (c := bts [v]) rfl rfl (EvG.ife (b := true) (Tst.plain (Ev.loc 5 rfl rfl rfl) fun _ _ => rfl) (fun _ => EvG.bytesL [v] rfl (g_bytes _) (EvL.cons (Ev.loc 4 rfl rfl rfl) EvL.nil fun _ => rfl) (fun m hm => by rw [List.mem_singleton.mp hm]; exact ⟨hb5, hb6⟩) (Nat.le_of_ble_eq_true rfl) (fun t => ⟨rfl, t, rfl⟩) (fun _ => rfl) fun _ => rfl) nofun) (by rw [bts_size, bts_size, List.length_singleton]; omega) (ExR.nil ⟨(k, acc ++ [v]), by rw [bts_append], ⟨hk, hb4, by show ((acc ++ [v]).length : Int) ≤ 4 * k; rw [List.length_append, List.length_singleton]; have : (acc.length : Int) ≤ 4 * j := hj3; omega, n, hm.1, hP⟩, hm.2, .eq (.eq (.eq (.eq (.no (.no .nil)))))⟩)
          | false =>
            obtain ⟨hb5, hb6⟩ := hb1 rfl
            refine ExR.iadd 2 (c := bts (octs v)) rfl rfl (EvG.ife (b := false) (Tst.plain (Ev.loc 5 rfl rfl rfl) fun _ _ => rfl) nofun fun _ => EvG.octs rfl (Ev.loc 4 rfl rfl rfl) hb6 hb5 (by decide) (by decide) (fun _ => rfl) fun _ => rfl) (len_room hj3 (by have : j ≤ text.length := hj2; omega)) (ExR.nil ⟨(k, acc ++ octs v), by rw [bts_append], ⟨hk, hb4, len_octs hj3 hb3, n, hm.1, hP⟩, hm.2, .eq (.eq (.eq (.eq (.no (.no .nil)))))⟩)
    · have hP := hP.trans (if_neg (by rw [h]; exact Bool.false_ne_true))
      have hpl : ∀ {p1 p2 p3 p4 : Pos} {P : Value → List (Addr × Obj) → Prop}, (∀ v n2, RRune ((Txt.item text j).cps.getD 0 0) v n2 → P v (n2 ++ [(D, baO (bts acc))])) → EvG C [.str text, .int i, .val (.ref D), .int j, .no, .no] [(D, baO (bts acc))] (.Call (.Name (Str.ofString "plain_rune") p1) [.Name (Str.ofString "text") p2, .Name (Str.ofString "at") p3] [] p4) P := fun hp => EvG.mono (EvG.call rfl (g_plain _) (k_plain _) (EvL.cons (Ev.loc 0 rfl rfl rfl) (EvL.cons (Ev.loc 3 rfl rfl rfl) EvL.nil fun _ => rfl) fun _ => rfl) (fun t1 t2 => plain_rune_c _ _ _ t1 t2 hj0 hlt hl) (by decide) (by decide) (fun sp h => by rw [h.2] at hP; rw [h.1]; exact hE _ hP) (fun _ => rfl) (fun _ => rfl) fun _ => rfl) fun v nw' ⟨n2, hr, e⟩ => e ▸ hp v n2 hr
      by_cases hr : rightI (((Txt.item text j).cps.getD 0 0 : Nat) : Int) = true
      · rw [if_pos hr] at hP
        have hm : ((text.length : Int) - (j + 1)).toNat < n ∧ ((text.length : Int) - (j + 1)).toNat < ((text.length : Int) - j).toNat := fuel_lt hn (Int.lt_succ j) hlt
        refine ExR.iadd 2 (c := bts (octs (((Txt.item text j).cps.getD 0 0 : Nat) : Int))) rfl rfl (EvG.octs rfl (EvG.ev (hpl fun v n2 h => ?_) fun v nw' h => h) (Int.natCast_nonneg _) hr (by decide) (by decide) (fun _ => rfl) fun _ => rfl) (len_room hj3 (by have : j ≤ text.length := hj2; omega)) ?_
        · cases h with | mk t _ => exact ⟨⟨t, rfl⟩, rfl⟩
        · exact (Ex.augI 3 rfl rfl Ev.cint (Ex.nil ⟨(j + 1, acc ++ octs _), by rw [bts_append], ⟨by have : i + 1 ≤ j := hj1; show i + 1 ≤ j + 1; omega, hlt, len_octs hj3 (Int.lt_add_one_of_le (Int.le_refl _)), n, hm.1, hP⟩, hm.2, .eq (.eq (.eq (.eq (.no (.no .nil)))))⟩)).r
      · exact ExR.augNever 2 rfl rfl (EvG.never rfl (g_octs _) (k_octs _) (hpl fun v n2 h => by cases h with | mk t h => exact hr h) (fun _ => rfl) fun _ => rfl)
  · rintro ⟨j, acc⟩ ⟨hj1, hj2, hj3, n, hn, hP⟩ hb
    obtain ⟨n, rfl⟩ : ∃ n', n = n' + 1 := fuel_pos hn
    have hP : quotF text (text.length + 1) (i + 1) [] = _ := (hP.trans quotF_s).trans (if_pos ((Bool.not_eq_false' _).mp hb))
    have hQ : quotRead text i = if (Txt.slice text (some j) (some (j + 1)) != Str.ofString "\"") = true then .error i else .ok (⟨Str.ofString "text", Txt.slice text (some i) (some (j + 1)), i, .bytes acc⟩, j + 1) := congrArg (quotFin text i) hP
    refine (Ex.ite (Tst.cm (Cm.neS (Ev.ss (Ev.loc 0 rfl rfl rfl) (Ev.loc 3 rfl rfl rfl) (Ev.add (Ev.loc 3 rfl rfl rfl) Ev.cint) hl) Ev.cstr)) (fun h => ?_) fun h => Ex.nil ?_).r
    · exact Ex.raise rfl (g_fault _) (k_fault _) (EvL.cons Ev.cstr (EvL.cons (Ev.loc 1 rfl rfl rfl) EvL.nil fun _ => rfl) fun _ => rfl) (by decide) (by decide) (hQ.trans (if_pos h)) (fun _ => rfl) (fun _ => rfl) fun _ => rfl
    · exact Ex.retD (EvG.tup2 (EvL.cons Ev.cstr (EvL.cons (Ev.ss (Ev.loc 0 rfl rfl rfl) (Ev.loc 1 rfl rfl rfl) (Ev.add (Ev.loc 3 rfl rfl rfl) Ev.cint) hl) (EvL.cons (Ev.loc 1 rfl rfl rfl) (EvL.cons (Ev.bytesA rfl (Ev.loc 2 rfl rfl rfl) (.head _) (by rw [bts_size]; show acc.length ≤ 16777216; have h4 : (acc.length : Int) ≤ 4 * j := hj3; have h5 : j ≤ text.length := hj2; omega) (fun _ => rfl) fun _ => rfl) EvL.nil fun _ => rfl) fun _ => rfl) fun _ => rfl) fun _ => rfl) (Nat.le_of_ble_eq_true rfl) (fun _ => Ev.add (Ev.loc 3 rfl rfl rfl) Ev.cint) (P := fun v nw' => ∃ n2, RRead (quotRead text i) v n2 ∧ nw' = n2 ++ [(D, baO (bts acc))]) (fun D' D'' hlt t1 t2 t3 t4 t5 => ⟨[(D'', tupO [.ref D', .int (j + 1) t5]), (D', tupO [.str _ t1, .str _ t2, .int i t3, .bytes (bts acc) t4])], .mk D'' D' _ _ _ t5 (hQ.trans (if_neg (by rw [h]; exact Bool.false_ne_true))) (.mk _ _ _ _ t1 t2 t3 _ (.bytes _ t4)) hlt, rfl⟩) (fun _ => rfl) fun _ => rfl) fun v nw' ⟨n2, h, e⟩ => ⟨n2, _, h, e⟩

end
section
example : True := by
  w_top off
  k_with_none
  trivial
theorem g_range (w : World) : nsIn (Mine.hd.heap_39 w.params) mainGlobals (Str.ofString "range") = some none := by k_is
section
variable {cs : Scope} {ns : List PySem.Str} {d u : Nat} {RX : Value → List (Addr × Obj) → Prop} {XX : Int → Prop} {C : Bx cs ns d u RX XX} {us : List Vl} {K : List Vl → List (Addr × Obj) → Prop} {rest body : List Stmt} {pos : Pos}
noncomputable def EvRng (C : Bx cs ns d u RX XX) (us : List Vl) (e : PySem.Expr) (a b : Int) : Prop := ∀ (s : Shared) (Q E : Value → Shared → Prop), St C us [] s → (∀ r t v w s', IsRange s'.heap r a b 1 t v w → St C us [] s' → Q (.ref r) s') → (∀ e s', C.E e s' → E e s') → wpAny C.M C.A (eval e C.env) Q E s
theorem St.grow {s : Shared} {h' : Heap} {tk : Nat} {m : PySem.Str → Option Value} {l : List (Addr × Obj)} (hl : StL C l us [] s) (F : Fr C.h₀ C.L h' m) (hm : ∀ (i : Nat) (x : PySem.Str) (u : Vl), ns[i]? = some x → us[i]? = some u → u.Is (m x)) (N : News C.h₀ C.L h' l) : St C us [] { s with heap := h', toks := tk } := ⟨l, hl.pn, hl.same, ⟨m, F, hm⟩, N, fun _ _ _ h => nomatch h⟩
theorem EvRng.one {p : Pos} {e : PySem.Expr} {n : Int} (ho : okBi cs (Str.ofString "range") = true) (h1 : Ev C us [] e (.int n)) (he : ∀ env, starEach [e] env = (false, eval e env) :: starEach [] env)
    (hcall : ∀ env, eval (.Call (.Name (Str.ofString "range") p) [e] [] pos) env = (do callWith pos (← eval (.Name (Str.ofString "range") p) env) [] (backTo pos (starEach [e] env)) (backToKw pos (keywordEach [] env)))) : EvRng C us (.Call (.Name (Str.ofString "range") p) [e] [] pos) 0 n := fun s Q E hS hQ hE => by
  refine Call_ (Ev.bi ho (g_range _) (rfl : bootBuiltins (Str.ofString "range") = some (.type "range")) _ _ _ hS (fun f' s₁ hf hS₁ => ?_) hE) (hcall _)
  obtain rfl := Vl.val_is hf
  refine PySem.Pv.callWith_type1 (EvL.cons h1 EvL.nil he _ _ _ _ hS₁ (fun vs s₂ hvs hS₂ => ?_) hE) (he _) rfl
  refine forA_of [.int n] (P := fun vs => wpAny C.M C.A (call (.type "range") vs) Q E s₂) (fun t => ?_) vs hvs
  obtain ⟨l, hl⟩ := id hS₂
  obtain ⟨m, F, hm⟩ := hS₂.fr
  exact range1_rows F hl.news fun h' tk t₁ u₁ v₁ R F' N' _ => hQ _ _ _ _ _ R (St.grow hl F' hm N')
theorem EvRng.two {p : Pos} {e e' : PySem.Expr} {a b : Int} (ho : okBi cs (Str.ofString "range") = true) (h1 : Ev C us [] e (.int a)) (h2 : Ev C us [] e' (.int b)) (he : ∀ env, starEach [e, e'] env = (false, eval e env) :: starEach [e'] env) (he' : ∀ env, starEach [e'] env = (false, eval e' env) :: starEach [] env) (hpl : ∀ env, (backTo pos (starEach [e'] env)).any (·.1) = false)
    (hcall : ∀ env, eval (.Call (.Name (Str.ofString "range") p) [e, e'] [] pos) env = (do callWith pos (← eval (.Name (Str.ofString "range") p) env) [] (backTo pos (starEach [e, e'] env)) (backToKw pos (keywordEach [] env)))) : EvRng C us (.Call (.Name (Str.ofString "range") p) [e, e'] [] pos) a b := fun s Q E hS hQ hE => by
  refine Call_ (Ev.bi ho (g_range _) (rfl : bootBuiltins (Str.ofString "range") = some (.type "range")) _ _ _ hS (fun f' s₁ hf hS₁ => ?_) hE) (hcall _)
  obtain rfl := Vl.val_is hf
  refine PySem.Pv.callWith_type1 (EvL.cons h1 (EvL.cons h2 EvL.nil he') he _ _ _ _ hS₁ (fun vs s₂ hvs hS₂ => ?_) hE) (he _) (hpl _)
  refine forA_of [.int a, .int b] (P := fun vs => wpAny C.M C.A (call (.type "range") vs) Q E s₂) (fun t t' => ?_) vs hvs
  obtain ⟨l, hl⟩ := id hS₂
  obtain ⟨m, F, hm⟩ := hS₂.fr
  exact range2_rows F hl.news fun h' tk t₁ u₁ v₁ R F' N' _ => hQ _ _ _ _ _ R (St.grow hl F' hm N')
theorem Ex.forRng {α : Type} (k : Nat) (I : Nat → α → Prop) (f : α → List Vl) (c₀ : α) {x : PySem.Str} {p : Pos} {iter : PySem.Expr} {a b : Int} {n : Nat} (ho : okLoc cs ns k x = true) (he : EvRng C us iter a b) (ha : -1048577 ≤ a ∧ a ≤ 1048577) (hb : -1048577 ≤ b ∧ b ≤ 1048577) (hn : (b - a).toNat = n) (hs : ∀ env x, foldedSetIterable iter env x = pure x) (h0 : I 0 c₀) (hsub : Sub (f c₀) us)
    (turn : ∀ i c, i < n → I i c → ∀ C' : Bx cs ns d u RX XX, C'.w = C.w → Ex C' ((f c).set k (.int (a + (i : Int)))) [] body (fun us' nw' => nw' = [] ∧ ∃ c', I (i + 1) c' ∧ Sub (f c') us'))
    (exit : ∀ c, I n c → Ex C (f c) [] rest K) : Ex C us [] (.For (.Name x p) iter body [] pos :: rest) K := fun s hS => by
  obtain ⟨h1, h2, _⟩ := okLoc_out ho
  obtain ⟨m, F, hm⟩ := hS.fr
  refine wpAny_execs_cons (For_invVF F h2 (by show (cs.kind == .class || (cs.kind == .module && C.L != mainGlobals)) = false; rw [C.hk]; rfl) (he _ _ _ hS (fun r t v w s' hr hS' => ?_) fun _ _ h => h) (hs _) C.passes)
  obtain ⟨l', hl'⟩ := id hS'
  obtain ⟨m₁, F₁, hm₁⟩ := hS'.fr
  have hsz : Builtin.Range.rangeSize a b 1 = ((n : Nat) : Int) := by unfold Builtin.Range.rangeSize; rw [if_pos (by decide)]; split <;> omega
  refine wpAny_pyIter_range hr (small_one (by omega) (by omega) (by omega) (by omega)) ?_
  refine C.loop I f c₀ k h1 (LCg.range_walks (prog := PySem.Challenge.pw_pf0076_01) (w := C.w) (A := C.A) (I := s'.heap.objs.size) rfl a n) (fun h => ?_) (fun b' hb => ?_) (fun q hq hI => ?_) (fun q hq hI => ?_) ?_ (hsub.stL ⟨hl'.pn, hS'.same, ⟨m₁, F₁.push _, hm₁⟩, fun q hq => ⟨Heap.get?_push_of_some _ (hl'.news q hq).1, (hl'.news q hq).2⟩, fun _ _ _ h => nomatch h⟩) h0 (fun i c v hi hP hI C' hw => ?_) exit
  · exact absurd F₁.ns.lt ((List.mem_singleton.mp h) ▸ Nat.lt_irrefl _)
  · rw [List.mem_singleton.mp hb]; exact next_is_new F₁
  · exact absurd (Heap.lt_size (hl'.news q hq).1) ((List.mem_singleton.mp hI) ▸ Nat.lt_irrefl _)
  · exact absurd (Heap.lt_size (hl'.news q hq).1) ((List.mem_singleton.mp hI) ▸ Nat.lt_irrefl _)
  · show IsRangeIter _ _ _ _ _
    rw [hsz]; simpa using Heap.get?_push_size _ rfl
  · obtain ⟨t, rfl⟩ := hP
    exact (turn i c hi hI C' hw).weak fun j b hj => by
      by_cases e : j = k
      · subst e
        by_cases hk : j < (f c).length
        · rw [List.getElem?_set_self hk] at hj
          cases hj
          exact ⟨.val (.int (a + (i : Int)) t), List.getElem?_set_self hk, fun o ho => ⟨t, ho⟩⟩
        · rw [List.getElem?_eq_none (by rw [List.length_set]; omega)] at hj; cases hj
      · rw [List.getElem?_set_ne (fun h => e h.symm)] at hj
        exact ⟨b, by rw [List.getElem?_set_ne (fun h => e h.symm)]; exact hj, fun o h => h⟩
theorem Ev.itemC {n : PySem.Str} {k : Nat} {p pos : Pos} {sl : PySem.Expr} {nw : List (Addr × Obj)} {i : Int} (hb : Ev C us nw sl (.int i)) (h0 : 0 ≤ i) (h1 : i < n.length) (hl : n.length ≤ 1048576)
    (hs : ∀ t i' t', subscripted sl false (.str n t) (.int i' t') = operate [.str n t, .int i' t'] (getItem (.str n t) (.int i' t'))) : Ev C us nw (.Subscript (.Constant (.str n) k p) sl pos) (.str (Txt.item n i)) := fun s Q E hS hQ hE => by
  refine Subscript_ (Ev.cstr _ _ _ hS (fun v s' hv hS' => hb _ _ _ hS' (fun v' s'' hv' hS'' => ?_) hE) hE)
  obtain ⟨t, rfl⟩ := Vl.str_is hv
  obtain ⟨t', rfl⟩ := Vl.int_is hv'
  exact PyProof.Rows.item_str (fits_of h0 (by omega)) (by omega) h1 (fun _ => hQ _ _ ⟨_, rfl⟩ (hS''.toks _)) (hs _ _ _) (by intro _; with_unfolding_all rfl)
end

end
section
example : True := by
  w_top off
  k_with_none
  (k_with "bx" => ((case ho => k_is); (case hcd => k_is); (case hb => exact rfl); (case hl => exact locs rfl); (case hu => k_extra "bx_hu"); (case c1 => exact rfl); (case c2 => exact rfl); (case c3 => exact rfl); (case c4 => decide)))
  (k_with "bx_hu" => (repeat (first | exact trivial | (refine And.intro ?_ ?_; first | exact trivial | exact rfl | exact Exists.intro _ rfl))))
  trivial
theorem plain_rune_b (w : World) (text : PySem.Str) (i : Int) (t1 t2 : Tok) (h0 : 0 ≤ i) (h1 : i < text.length) (hl : text.length ≤ 1048576) (hb : rightI (((Txt.item text i).cps.getD 0 0 : Nat) : Int) = false) :
    Ctr w 151 [.str text t1, .int i t2] 5 60 [] (fun _ _ => False) (fun sp => sp = i) :=
  (plain_rune_c w text i t1 t2 h0 h1 hl).mono (fun v nw h => by cases h with | mk t h => rw [hb] at h; cases h) fun sp h => h.1
section
variable {cs : Scope} {ns : List PySem.Str} {d u : Nat} {RX : Value → List (Addr × Obj) → Prop} {XX : Int → Prop} {C : Bx cs ns d u RX XX} {us : List Vl} {nw : List (Addr × Obj)} {K : List Vl → List (Addr × Obj) → Prop} {rest body : List Stmt} {pos : Pos}
theorem Ex.augNever (i : Nat) {x : PySem.Str} {p : Pos} {e : PySem.Expr} {op : Operator} {v : Value} (ho : okLoc cs ns i x = true) (hu : us[i]? = some (.val v)) (he : EvG C us nw e (fun _ _ => False)) : Ex C us nw (.AugAssign (.Name x p) op e pos :: rest) K := fun s hS => by
  obtain ⟨h1, h2, h3⟩ := okLoc_out ho
  obtain ⟨m, F, hm⟩ := hS.fr
  exact wpAny_execs_cons (wpAny_AugAssign_Name (wpAny_loadName_local C.hk h2 F.ns (hm i x _ h1 hu) (he _ _ _ hS (fun v nw' s' h _ => h.elim) fun _ _ h => h)))
theorem ExR.newBa1 (i : Nat) {x : PySem.Str} {p cp np : Pos} (ho : okLoc cs ns i x = true) (hb : okBi cs (Str.ofString "bytearray") = true) (hr : ∀ D, ExR C (us.set i (.val (.ref D))) [(D, baO #[])] rest K)
    (hcall : ∀ env, eval (.Call (.Name (Str.ofString "bytearray") np) [] [] cp) env = (do callWith cp (← eval (.Name (Str.ofString "bytearray") np) env) [] (backTo cp (starEach [] env)) (backToKw cp (keywordEach [] env))))
    (hs : ∀ env, swapsWith (.Call (.Name (Str.ofString "bytearray") np) [] [] cp) (some (.Name x p)) pos.line env = pure false) : ExR C us [] (.Assign [.Name x p] (.Call (.Name (Str.ofString "bytearray") np) [] [] cp) pos :: rest) K := fun s hS => by
  refine wpR_execs_cons (wpR_Assign_Name (wpR_Call (Ev.bi (v := .type "bytearray") hb (g_ba _) rfl _ _ _ hS (fun f' s₁ hf hS₁ => ?_) fun _ _ h => h) (hcall _)) (hs _))
  obtain rfl := Vl.val_is hf
  obtain ⟨l₁, hl₁⟩ := id hS₁
  obtain ⟨m, F, hm⟩ := hS₁.fr
  refine wpR_callWith_type0 (ba_callK F hl₁.news fun D h' F' N' hlt => ?_)
  have hS2 : St C us [(D, baO #[])] { s₁ with heap := h' } := ⟨l₁, hl₁.pn, hS₁.same, ⟨m, F', hm⟩, N', fun q hq p h9 => by rw [List.mem_singleton.mp h9]; exact hlt q hq⟩
  exact hS2.store ho (y := .val (.ref D)) rfl fun s'' hS'' => hr D _ hS''
end
theorem EvG.call1 {cs : Scope} {ns : List PySem.Str} {d u : Nat} {RX : Value → List (Addr × Obj) → Prop} {XX : Int → Prop} {C : Bx cs ns d u RX XX} {us : List Vl} {pos : Pos} {x : PySem.Str} {p : Pos} {e : PySem.Expr} {es : List PySem.Expr} {xs : List Vl} {f : Addr} {d' u' : Nat} {R' P : Value → List (Addr × Obj) → Prop} {X' : Int → Prop} (ho : okGlob cs x = true) (hv : nsIn (Mine.hd.heap_39 C.w.params) mainGlobals x = some (some (.ref f))) (hk : keepIn (Mine.hd.heap_39 C.w.params) (.ref f) = true)
    (ha : EvL C us [] (e :: es) xs) (hc : ForA xs (fun vs => Ctr C.w f vs d' u' [] R' X')) (hd : d' ≤ d) (hu : u' ≤ u) (hx : ∀ sp, X' sp → XX sp) (hp : ∀ v n2, R' v n2 → P v n2)
    (he : ∀ env, starEach (e :: es) env = (false, eval e env) :: starEach es env) (hpl : ∀ env, (backTo pos (starEach es env)).any (·.1) = false)
    (hcall : ∀ env, eval (.Call (.Name x p) (e :: es) [] pos) env = (do callWith pos (← eval (.Name x p) env) [] (backTo pos (starEach (e :: es) env)) (backToKw pos (keywordEach [] env)))) :
    EvG C us [] (.Call (.Name x p) (e :: es) [] pos) P := (EvG.call ho hv hk ha hc hd hu hx he hpl hcall).mono fun v nw' ⟨n2, h, e⟩ => by subst e; rw [List.append_nil]; exact hp v n2 h
theorem read_raw_c (w : World) (text : PySem.Str) (i : Int) (t1 t2 : Tok) (h0 : 0 ≤ i) (h1 : i < text.length) (hl : text.length ≤ 1048576)
    (hbad : Txt.find3 text (Str.ofString "`") (i + 1) < 0 ∨ (i + 1 < Txt.find3 text (Str.ofString "`") (i + 1) ∧ i + 1 < text.length ∧ Txt.find3 text (Str.ofString "`") (i + 1) < text.length ∧ (Txt.item text (i + 1) != Str.ofString "\r") = true ∧ rightI (((Txt.item text (i + 1)).cps.getD 0 0 : Nat) : Int) = false)) :
    CtrR w 165 [.str text t1, .int i t2] 10 300 [] (fun _ _ => False) (fun sp => sp = if Txt.find3 text (Str.ofString "`") (i + 1) < 0 then i else i + 1) := by
  refine' CtrR.of_body [Str.ofString "text", Str.ofString "begin", Str.ofString "end", Str.ofString "found", Str.ofString "at"] [.str text, .int i, .no, .no, .no] ?ho ?hcd ?hb ?hl (by decide +kernel) (slots _ _ ?hu) ?c1 ?c2 ?c3 ?c4 ?_
  k_extra "bx"
  intro C _ _
  refine ExR.cons (Ex.set 2 rfl (fun _ => rfl) (Ev.find2 (Ev.loc 0 rfl rfl rfl) Ev.cstr (Ev.add (Ev.loc 1 rfl rfl rfl) Ev.cint) (fun _ => rfl) (fun _ => rfl) fun _ => rfl) (Ex.nil ?_))
  refine ExR.cons (Ex.iteD (Tst.cm (Cm.lt (Ev.loc 2 rfl rfl rfl) Ev.cint)) (fun c => ?_) fun hc => Ex.nil (Ex.nil ?_))
  · exact Ex.raise rfl (g_fault _) (k_fault _) (EvL.cons Ev.cstr (EvL.cons (Ev.loc 1 rfl rfl rfl) EvL.nil fun _ => rfl) fun _ => rfl) (by decide) (by decide) (if_pos c).symm (fun _ => rfl) (fun _ => rfl) fun _ => rfl
  obtain hbad | ⟨hb1, hb2, hb3, hb4, hb5⟩ := hbad
  · exact absurd hbad hc
  refine ExR.newBa1 3 rfl rfl (fun D => ?_) (fun _ => rfl) fun _ => rfl
  refine Ex.r (Ex.drop (n2 := [(D, baO #[])]) (nw := []) ?_)
  refine Ex.forRng (α := Unit) 4 (fun k _ => k = 0) (fun _ => [.str text, .int i, .no, .val (.ref D), .no]) () (n := (Txt.find3 text (Str.ofString "`") (i + 1) - (i + 1)).toNat) rfl (EvRng.two rfl (Ev.add (Ev.loc 1 rfl rfl rfl) Ev.cint) (Ev.loc 2 rfl rfl rfl) (fun _ => rfl) (fun _ => rfl) (fun _ => rfl) fun _ => rfl) ⟨by omega, by omega⟩ ⟨by omega, by omega⟩ rfl (fun _ _ => rfl) rfl (.eq (.eq (.no (.eq (.no .nil))))) (fun k c hk hI C' _ => ?_) fun c hI => absurd hI (by omega)
  subst hI
  rw [show i + 1 + ((0 : Nat) : Int) = i + 1 from Int.add_zero _]
  refine Ex.ite (Tst.cm (Cm.neS (Ev.item (Ev.loc 0 rfl rfl rfl) (Ev.loc 4 rfl rfl rfl) (by omega) hb2 hl fun _ _ _ => by with_unfolding_all rfl) Ev.cstr)) (fun _ => ?_) fun c => absurd (hb4.symm.trans c) (by decide)
  exact Ex.augNever 3 rfl rfl (EvG.never rfl (g_octs _) (k_octs _) (EvG.call1 (P := fun _ _ => False) rfl (g_plain _) (k_plain _) (EvL.cons (Ev.loc 0 rfl rfl rfl) (EvL.cons (Ev.loc 4 rfl rfl rfl) EvL.nil fun _ => rfl) fun _ => rfl) (fun t1 t2 => plain_rune_b _ _ _ t1 t2 (by omega) hb2 hl hb5) (by decide) (by decide) (fun sp h => by rw [h, if_neg hc]) (fun _ _ h => h) (fun _ => rfl) (fun _ => rfl) fun _ => rfl) (fun _ => rfl) fun _ => rfl)

end
section
example : True := by
  w_top off
  k_with_none
  (k_with "exec Raise some none" => (k_here; k_dflt (refine' Raise_fault ?k1 ?k2 ?_; (case k1 => k_asm); (case k2 => k_asm); k_whole)))
  (k_with "call ref" => (k_here; (with_reducible show wpAny _ _ (call (Value.ref 52) _) _ _ _); k_dflt (refine' fault ?k1 ?k2 ?k3 ?k4 ?k5 ?k6 ?k7 ?k8 ?_; (case k1 => k_asm); (case k2 => k_asm); (case k3 => k_asm); (case k4 => k_asm); (case k5 => k_asm); (case k6 => first | assumption | exact rfl); (case k7 => k_extra "my_room"); (case k8 => k_extra "my_room"); k_whole); intro h' e' tk' F' M'; (try k_sweep)))
  (k_with "FaultQ" => (refine ⟨_, _, _, _, rfl, by assumption, by assumption, ?_⟩))
  (k_with "leaving ref" => (k_here; first | (refine' leave_first ?k1 ?k2 ?k3 ?k4 ?_; (case k3 => assumption); (case k1 => assumption); (case k2 => assumption); (case k4 => exact rfl); k_whole; intro h' R') | (refine' leave_next ?k1 ?k2 ?k3 ?_; (case k3 => assumption); (case k1 => assumption); (case k2 => assumption); k_whole; intro h' R')))
  (k_with "my_args" => ((case kB => k_asm); (case kF => k_asm); (case kX => k_asm); (case kN => k_asm); (case kT => k_asm); (case kK => first | assumption | exact rfl); (case kd => k_extra "my_room"); (case ku => k_extra "my_room")))
  (k_with "my_back" => (intro v' nw' h' tk' hR' F' N' l1; cases hR'; (try simp only [List.nil_append, List.cons_append] at N'); (try k_sweep); (try k_fold)))
  (k_with "my_exc" => (intro e' sp' h' tk' g' hX' FG' R'; (try k_fold)))
  (k_with "my_side" => first | assumption | omega | exact rfl | (show (1 : Nat) ≤ 1048576; decide))
  (k_with "my_led" => (refine List.forall_mem_cons.mpr ⟨?a, List.forall_mem_nil _⟩; k_mem))
  (k_with "bx" => ((case ho => k_is); (case hcd => k_is); (case hb => exact rfl); (case hl => exact locs rfl); (case hu => k_extra "bx_hu"); (case c1 => exact rfl); (case c2 => exact rfl); (case c3 => exact rfl); (case c4 => decide)))
  (k_with "bx_hu" => (repeat (first | exact trivial | (refine And.intro ?_ ?_; first | exact trivial | exact rfl | exact Exists.intro _ rfl))))
  (k_with "my_room" => first | exact room9 (by with_reducible assumption) (by exact rfl) | exact room8 (by with_reducible assumption) (by exact rfl) | exact room7 (by with_reducible assumption) | ktr_room | ktr_units)
  trivial
example : True := by
  (k_with "call ref" => (k_here; (with_reducible show wpAny _ _ (call (Value.ref 95) _) _ _ _); k_dflt (refine' Ctr.use (run_behind_c _ _ _ _ _ _ _ ?s1 ?s2 ?s3) ?kB ?kF ?kX ?kN ?kT ?kK ?kd ?ku ?kL ?_ ?_; k_extra "my_args"; (case kL => first | exact List.forall_mem_nil _ | k_extra "my_led"); (case s1 => k_extra "my_side"); (case s2 => k_extra "my_side"); (case s3 => k_extra "my_side"); (exact fun _ _ _ _ _ hX => hX.elim)); k_extra "my_back"))
  (k_with "call ref" => (k_here; (with_reducible show wpAny _ _ (call (Value.ref 130) _) _ _ _); k_dflt (refine' Ctr.use (read_number_c _ _ _ _ _ ?s1 ?s2 ?s3) ?kB ?kF ?kX ?kN ?kT ?kK ?kd ?ku ?kL ?_ ?_; k_extra "my_args"; (case kL => first | exact List.forall_mem_nil _ | k_extra "my_led"); (case s1 => k_extra "my_side"); (case s2 => k_extra "my_side"); (case s3 => k_extra "my_side"); k_extra "my_exc"); rotate_left; k_extra "my_back"))
  (k_with "call ref" => (k_here; (with_reducible show wpAny _ _ (call (Value.ref 172) _) _ _ _); k_dflt (refine' Ctr.use (read_rune_c _ _ _ _ _ ?s1 ?s2 ?s3) ?kB ?kF ?kX ?kN ?kT ?kK ?kd ?ku ?kL ?_ ?_; k_extra "my_args"; (case kL => first | exact List.forall_mem_nil _ | k_extra "my_led"); (case s1 => k_extra "my_side"); (case s2 => k_extra "my_side"); (case s3 => k_extra "my_side"); k_extra "my_exc"); rotate_left; k_extra "my_back"))
  (k_with "call ref" => (k_here; (with_reducible show wpAny _ _ (call (Value.ref 179) _) _ _ _); k_dflt (refine' Ctr.use (read_sign_c _ _ _ _ _ ?s1 ?s2 ?s3) ?kB ?kF ?kX ?kN ?kT ?kK ?kd ?ku ?kL ?_ ?_; k_extra "my_args"; (case kL => first | exact List.forall_mem_nil _ | k_extra "my_led"); (case s1 => k_extra "my_side"); (case s2 => k_extra "my_side"); (case s3 => k_extra "my_side"); k_extra "my_exc"); rotate_left; k_extra "my_back"))
  trivial
noncomputable abbrev beginS : PySem.Str := Str.ofString "abcdefghijklmnopqrstuvwxyzABCDEFGHIJKLMNOPQRSTUVWXYZ_"
theorem strsAre_of : ∀ {l : List Value} {ys : List PySem.Str}, l.map strOf? = ys.map some → StrsAre l ys
  | [], [], _ => .nil
  | v :: l, y :: ys, h => by
    simp only [List.map_cons, List.cons.injEq] at h
    cases v <;> simp [strOf?] at h
    obtain ⟨rfl, h⟩ := h
    exact .cons _ _ (strsAre_of h)
  | [], _ :: _, h => by simp at h
  | _ :: _, [], h => by simp at h
noncomputable def kwList : List PySem.Str := ["break", "case", "chan", "const", "continue", "default", "defer", "else", "fallthrough", "for", "func", "go", "goto", "if", "\x69mport", "interface", "map", "package", "range", "return", "select", "struct", "switch", "type", "var"].map Str.ofString
noncomputable def endList : List PySem.Str := ["break", "continue", "fallthrough", "return", "++", "--", ")", "]", "}"].map Str.ofString
theorem kws_at {P : Params} {h : Heap} (X : (Mine.hd.heap_39 P).In h) : ∃ items : Array Value, h.IsTuple 83 items ∧ items.toList.map strOf? = kwList.map some := by
  have e := X 83 _ (by k_is)
  exact ⟨_, ⟨_, e, rfl, _, rfl⟩, rfl⟩
theorem ends_at {P : Params} {h : Heap} (X : (Mine.hd.heap_39 P).In h) : ∃ items : Array Value, h.IsTuple 85 items ∧ items.toList.map strOf? = endList.map some := by
  have e := X 85 _ (by k_is)
  exact ⟨_, ⟨_, e, rfl, _, rfl⟩, rfl⟩
theorem in_kws {prog : Program} {w : World} {A : Around} {E : Value → Shared → Prop} {s : Shared} {x : PySem.Str} {u : Tok} {Q : Value → Shared → Prop} (X : (Mine.hd.heap_39 w.params).In s.heap)
    (h : Q (.bool (kwList.any (· == x))) s) : wpAny (model prog w) A (compareOp .In (.str x u) (.ref 83)) Q E s := by
  obtain ⟨items, ht, hs⟩ := kws_at X
  exact in_tuple_strs ht (strsAre_of hs) h
theorem in_ends {prog : Program} {w : World} {A : Around} {E : Value → Shared → Prop} {s : Shared} {x : PySem.Str} {u : Tok} {Q : Value → Shared → Prop} (X : (Mine.hd.heap_39 w.params).In s.heap)
    (h : Q (.bool (endList.any (· == x))) s) : wpAny (model prog w) A (compareOp .In (.str x u) (.ref 85)) Q E s := by
  obtain ⟨items, ht, hs⟩ := ends_at X
  exact in_tuple_strs ht (strsAre_of hs) h
noncomputable def rawBad (text : PySem.Str) (i : Int) : Prop := Txt.find3 text (Str.ofString "`") (i + 1) < 0 ∨ (i + 1 < Txt.find3 text (Str.ofString "`") (i + 1) ∧ i + 1 < text.length ∧ Txt.find3 text (Str.ofString "`") (i + 1) < text.length ∧ (Txt.item text (i + 1) != Str.ofString "\r") = true ∧ rightI (((Txt.item text (i + 1)).cps.getD 0 0 : Nat) : Int) = false)
noncomputable def rawErr (T : PySem.Str) (i : Int) : Int := if Txt.find3 T (Str.ofString "`") (i + 1) < 0 then i else i + 1
noncomputable def nameRead (T : PySem.Str) (i : Int) : Except Int (Wd × Int) :=
  .ok (⟨if (kwList.any fun x => x == Txt.slice T (some i) (some (runEnd T nameS i))) = true then Str.ofString "keyword" else Str.ofString "name", Txt.slice T (some i) (some (runEnd T nameS i)), i, .none⟩, runEnd T nameS i)
noncomputable def wordRead (T : PySem.Str) (i : Int) : Except Int (Wd × Int) :=
  if hasS beginS (Txt.item T i) = true then nameRead T i
  else if hasS figS (Txt.item T i) = true then numRead T i
  else if (Txt.item T i == Str.ofString "\"") = true then quotRead T i
  else if (Txt.item T i == Str.ofString "`") = true then .error (rawErr T i)
  else if (Txt.item T i == Str.ofString "'") = true then runeRead T i else signRead T i
theorem in84 {cs : Scope} {ns : List PySem.Str} {d u : Nat} {RX : Value → List (Addr × Obj) → Prop} {XX : Int → Prop} {C : Bx cs ns d u RX XX} {us : List Vl} {nw : List (Addr × Obj)} {p : Pos} {e : PySem.Expr} {x : PySem.Str} (ho : okGlob cs (Str.ofString "KEYWORDS") = true) (hv : nsIn (Mine.hd.heap_39 C.w.params) mainGlobals (Str.ofString "KEYWORDS") = some (some (.ref 83))) (he : Ev C us nw e (.str x)) : Cm C us nw .In e (.Name (Str.ofString "KEYWORDS") p) (kwList.any fun y => y == x) := ⟨rfl, fun s Q E hS hQ hE => by
  refine he _ _ _ hS (fun v s' hv1 hS' => Ev.glob ho hv _ _ _ hS' (fun v' s'' hv' hS'' => ?_) hE) hE
  obtain ⟨t, rfl⟩ := Vl.str_is hv1
  obtain rfl := Vl.val_is hv'
  obtain ⟨m, F, _⟩ := hS''.fr
  exact in_kws (C.K.keeps F.keep) (hQ _ hS'')⟩
theorem g_begins (w : World) : ∃ t, nsIn (Mine.hd.heap_39 w.params) mainGlobals (Str.ofString "NAME_BEGINS") = some (some (.str beginS t)) := ⟨_, by k_is⟩
theorem g_kws (w : World) : nsIn (Mine.hd.heap_39 w.params) mainGlobals (Str.ofString "KEYWORDS") = some (some (.ref 83)) := by k_is
theorem g_num (w : World) : nsIn (Mine.hd.heap_39 w.params) mainGlobals (Str.ofString "read_number") = some (some (.ref 130)) := by k_is
theorem k_num (w : World) : keepIn (Mine.hd.heap_39 w.params) (.ref 130) = true := by k_is
theorem g_quot (w : World) : nsIn (Mine.hd.heap_39 w.params) mainGlobals (Str.ofString "read_quoted") = some (some (.ref 158)) := by k_is
theorem k_quot (w : World) : keepIn (Mine.hd.heap_39 w.params) (.ref 158) = true := by k_is
theorem g_raw (w : World) : nsIn (Mine.hd.heap_39 w.params) mainGlobals (Str.ofString "read_raw") = some (some (.ref 165)) := by k_is
theorem k_raw (w : World) : keepIn (Mine.hd.heap_39 w.params) (.ref 165) = true := by k_is
theorem g_rune (w : World) : nsIn (Mine.hd.heap_39 w.params) mainGlobals (Str.ofString "read_rune") = some (some (.ref 172)) := by k_is
theorem k_rune (w : World) : keepIn (Mine.hd.heap_39 w.params) (.ref 172) = true := by k_is
theorem g_sign (w : World) : nsIn (Mine.hd.heap_39 w.params) mainGlobals (Str.ofString "read_sign") = some (some (.ref 179)) := by k_is
theorem k_sign (w : World) : keepIn (Mine.hd.heap_39 w.params) (.ref 179) = true := by k_is
section
variable {cs : Scope} {ns : List PySem.Str} {d u : Nat} {RX : Value → List (Addr × Obj) → Prop} {XX : Int → Prop} {C : Bx cs ns d u RX XX} {us : List Vl} {nw : List (Addr × Obj)} {K : List Vl → List (Addr × Obj) → Prop} {rest body : List Stmt} {pos : Pos}
theorem ExR.ifRet {test : PySem.Expr} {b : Bool} (ht : Tst C us nw test b) (h1 : b = true → ExR C us nw body (fun us' nw' => b = false ∧ us' = us ∧ nw' = nw)) (h2 : b = false → ExR C us nw rest K) : ExR C us nw (.If test body [] pos :: rest) K :=
  ExR.iteJ (fun us' nw' => b = false ∧ us' = us ∧ nw' = nw) ht h1 (fun h => ExR.nil ⟨h, rfl, rfl⟩) fun us' nw' ⟨h, e, e'⟩ => e ▸ e' ▸ h2 h
theorem ExR.retC {fx : PySem.Str} {fp cp : Pos} {e : PySem.Expr} {es : List PySem.Expr} {xs : List Vl} {f : Addr} {d' u' : Nat} {R' : Value → List (Addr × Obj) → Prop} {X' : Int → Prop} (ho : okGlob cs fx = true) (hv : nsIn (Mine.hd.heap_39 C.w.params) mainGlobals fx = some (some (.ref f))) (hk : keepIn (Mine.hd.heap_39 C.w.params) (.ref f) = true)
    (ha : EvL C us nw (e :: es) xs) (hc : ForA xs (fun vs => CtrR C.w f vs d' u' [] R' X')) (hd : d' ≤ d) (hu : u' ≤ u) (hx : ∀ sp, X' sp → XX sp) (hr : ∀ v n2, R' v n2 → RX v (n2 ++ nw))
    (he : ∀ env, starEach (e :: es) env = (false, eval e env) :: starEach es env) (hpl : ∀ env, (backTo cp (starEach es env)).any (·.1) = false)
    (hcall : ∀ env, eval (.Call (.Name fx fp) (e :: es) [] cp) env = (do callWith cp (← eval (.Name fx fp) env) [] (backTo cp (starEach (e :: es) env)) (backToKw cp (keywordEach [] env)))) :
    ExR C us nw (.Return (some (.Call (.Name fx fp) (e :: es) [] cp)) pos :: rest) K := fun s hS => by
  refine wpR_execs_cons (wpR_Return (wpR_Call (Ev.glob ho hv _ _ _ hS (fun f' s₁ hf hS₁ => ?_) fun _ _ h => h) (hcall _)))
  obtain rfl := Vl.val_is hf
  refine wpR_callWith_K C.K hk (ha _ _ _ _ hS₁ (fun vs s₂ hvs hS₂ => ?_) fun _ _ h => h) (he _) (hpl _)
  obtain ⟨l₂, hl₂⟩ := id hS₂
  obtain ⟨m, F, hm⟩ := hS₂.fr
  refine ⟨C.K.keeps F.keep, ?_⟩
  refine (forA_of xs hc vs hvs).use C.B F C.K hl₂.news C.T C.hk (Nat.lt_of_le_of_lt (Nat.add_le_add_left hd _) C.hd) (Nat.lt_of_le_of_lt (Nat.add_le_add_left hu _) C.hu) (List.forall_mem_nil _) (fun x' sp h' tk g hsp Fg R => C.passed hl₂.pn Fg R hS₂.same (hx _ hsp)) fun v n2 h' tk hr9 F' N' hlt => ?_
  exact ⟨us, n2 ++ nw, hr v n2 hr9, l₂, hl₂.pn, hS₂.same, ⟨m, F', hm⟩, by rw [List.append_assoc]; exact N', fun q hq p' hp => (List.mem_append.mp hp).elim (fun h9 => hlt q (List.mem_append_right _ hq) p' h9) fun h9 => hl₂.above q hq p' h9⟩
end
theorem no_app' {R : Value → List (Addr × Obj) → Prop} {v : Value} {n2 : List (Addr × Obj)} (h : R v n2) : R v (n2 ++ []) := by rw [List.append_nil]; exact h
theorem read_word_c (w : World) (text : PySem.Str) (i : Int) (t1 t2 : Tok) (h0 : 0 ≤ i) (h1 : i < text.length) (hl : text.length ≤ 1048576)
    (hraw : (Txt.item text i == Str.ofString "`") = true → rawBad text i) :
    CtrR w 186 [.str text t1, .int i t2] 20 400 [] (RRead (wordRead text i)) (fun sp => wordRead text i = .error sp) := by
  refine' CtrR.of_body [Str.ofString "text", Str.ofString "at", Str.ofString "sign", Str.ofString "end", Str.ofString "kind"] [.str text, .int i, .no, .no, .no] ?ho ?hcd ?hb ?hl (by decide +kernel) (slots _ _ ?hu) ?c1 ?c2 ?c3 ?c4 ?_
  k_extra "bx"
  intro C _ _
  obtain ⟨tb, g_begins⟩ := g_begins C.w
  have nf : ∀ {b : Bool}, b = false → ¬ b = true := fun h => by rw [h]; exact Bool.false_ne_true
  refine ExR.cons (Ex.set 2 rfl (fun _ => rfl) (Ev.item (Ev.loc 0 rfl rfl rfl) (Ev.loc 1 rfl rfl rfl) h0 h1 hl fun _ _ _ => by with_unfolding_all rfl) (Ex.nil ?_))
  refine ExR.ifRet (Tst.cm (Cm.inS rfl (Ev.loc 2 rfl rfl rfl) (Ev.gstr rfl g_begins))) (fun c => ?_) fun c => ?_
  · have e : wordRead text i = nameRead text i := if_pos c
    refine (Ex.set 3 rfl (fun _ => rfl) (EvI.run rfl (Ev.loc 0 rfl rfl rfl) (Ev.loc 1 rfl rfl rfl) (Ev.gstr rfl (g_names _)) h0 (Int.le_of_lt h1) hl (by decide) (by decide) (fun _ => rfl) (fun _ => rfl) (fun _ => rfl) fun _ => rfl) ?_).r
    refine Ex.set 4 rfl (fun _ => rfl) (Ev.ifS (Tst.cm (in84 rfl (g_kws _) (Ev.ss (Ev.loc 0 rfl rfl rfl) (Ev.loc 1 rfl rfl rfl) (Ev.loc 3 rfl rfl rfl) hl))) Ev.cstr Ev.cstr) ?_
    exact Ex.ret (EvG.tup2 (EvL.cons (Ev.loc 4 rfl rfl rfl) (EvL.cons (Ev.ss (Ev.loc 0 rfl rfl rfl) (Ev.loc 1 rfl rfl rfl) (Ev.loc 3 rfl rfl rfl) hl) (EvL.cons (Ev.loc 1 rfl rfl rfl) (EvL.cons Ev.non EvL.nil fun _ => rfl) fun _ => rfl) fun _ => rfl) fun _ => rfl) (Nat.le_of_ble_eq_true rfl) (fun _ => Ev.loc 3 rfl rfl rfl) (fun D D' hlt t1 t2 t3 t5 => .mk D' D _ _ _ t5 e (.mk _ _ _ _ t1 t2 t3 _ .none) hlt) (fun _ => rfl) fun _ => rfl) fun _ _ h => h
  have e : wordRead text i = _ := if_neg (nf c)
  refine ExR.ifRet (Tst.cm (Cm.inS rfl (Ev.loc 2 rfl rfl rfl) (Ev.gstr rfl (g_figS _)))) (fun c => ?_) fun c => ?_
  · have e := e.trans (if_pos c)
    exact Ex.r (Ex.ret (EvG.call1 rfl (g_num _) (k_num _) (EvL.cons (Ev.loc 0 rfl rfl rfl) (EvL.cons (Ev.loc 1 rfl rfl rfl) EvL.nil fun _ => rfl) fun _ => rfl) (fun t1 t2 => read_number_c _ _ _ t1 t2 h0 h1 hl) (by decide) (by decide) (fun sp h => e.trans h) (fun v n2 h => e ▸ h) (fun _ => rfl) (fun _ => rfl) fun _ => rfl) fun v nw' h => h)
  have e := e.trans (if_neg (nf c))
  refine ExR.ifRet (Tst.cm (Cm.eqS (Ev.loc 2 rfl rfl rfl) Ev.cstr)) (fun c => ?_) fun c => ?_
  · have e := e.trans (if_pos c)
    exact ExR.retC rfl (g_quot _) (k_quot _) (EvL.cons (Ev.loc 0 rfl rfl rfl) (EvL.cons (Ev.loc 1 rfl rfl rfl) EvL.nil fun _ => rfl) fun _ => rfl) (fun t1 t2 => read_quoted_c _ _ _ t1 t2 h0 h1 hl) (by decide) (by decide) (fun sp h => e.trans h) (fun v n2 h => no_app' (e ▸ h)) (fun _ => rfl) (fun _ => rfl) fun _ => rfl
  have e := e.trans (if_neg (nf c))
  refine ExR.ifRet (Tst.cm (Cm.eqS (Ev.loc 2 rfl rfl rfl) Ev.cstr)) (fun c => ?_) fun c => ?_
  · have e := e.trans (if_pos c)
    exact ExR.retC rfl (g_raw _) (k_raw _) (EvL.cons (Ev.loc 0 rfl rfl rfl) (EvL.cons (Ev.loc 1 rfl rfl rfl) EvL.nil fun _ => rfl) fun _ => rfl) (fun t1 t2 => read_raw_c _ _ _ t1 t2 h0 h1 hl (hraw c)) (by decide) (by decide) (fun sp h => h ▸ e) (fun v n2 h => h.elim) (fun _ => rfl) (fun _ => rfl) fun _ => rfl
  have e := e.trans (if_neg (nf c))
  refine (Ex.ret (EvG.ife (P := RRead (wordRead text i)) (Tst.cm (Cm.eqS (Ev.loc 2 rfl rfl rfl) Ev.cstr)) (fun c => ?_) fun c => ?_) fun v nw' h => h).r
  · have e := e.trans (if_pos c)
    exact EvG.call1 rfl (g_rune _) (k_rune _) (EvL.cons (Ev.loc 0 rfl rfl rfl) (EvL.cons (Ev.loc 1 rfl rfl rfl) EvL.nil fun _ => rfl) fun _ => rfl) (fun t1 t2 => read_rune_c _ _ _ t1 t2 h0 h1 hl) (by decide) (by decide) (fun sp h => e.trans h) (fun v n2 h => e ▸ h) (fun _ => rfl) (fun _ => rfl) fun _ => rfl
  have e := e.trans (if_neg (nf c))
  exact EvG.call1 rfl (g_sign _) (k_sign _) (EvL.cons (Ev.loc 0 rfl rfl rfl) (EvL.cons (Ev.loc 1 rfl rfl rfl) EvL.nil fun _ => rfl) fun _ => rfl) (fun t1 t2 => read_sign_c _ _ _ t1 t2 h0 h1 hl) (by decide) (by decide) (fun sp h => e.trans h) (fun v n2 h => e ▸ h) (fun _ => rfl) (fun _ => rfl) fun _ => rfl

end
section
example : True := by
  w_top off
  k_with_none
  (k_with "bx" => ((case ho => k_is); (case hcd => k_is); (case hb => exact rfl); (case hl => exact locs rfl); (case hu => k_extra "bx_hu"); (case c1 => exact rfl); (case c2 => exact rfl); (case c3 => exact rfl); (case c4 => decide)))
  (k_with "bx_hu" => (repeat (first | exact trivial | (refine And.intro ?_ ?_; first | exact trivial | exact rfl | exact Exists.intro _ rfl))))
  trivial
noncomputable abbrev blankS : PySem.Str := Str.ofString " \t\r\n"
noncomputable def brUpd (T : PySem.Str) (i j : Int) : Option Int → Option Int
  | some b => some b
  | none => if 0 ≤ find4 T (Str.ofString "\n") i j then some (if (Txt.item T i == Str.ofString "/") = true then i else find4 T (Str.ofString "\n") i j) else none
noncomputable def blanksF (T : PySem.Str) : Nat → Int → Option Int → Except Int (Int × Option Int)
  | 0, i, b => .ok (i, b)
  | n + 1, i, b =>
    if i < T.length then
      if hasS blankS (Txt.item T i) = true then blanksF T n (runEnd T blankS i) (brUpd T i (runEnd T blankS i) b)
      else if ([Str.ofString "//", Str.ofString "/*"].any fun x => x == Txt.slice T (some i) (some (i + 2))) = true then
        match remarkEnd T i with
        | none => .error i
        | some j => blanksF T n j (brUpd T i j b)
      else .ok (i, b)
    else .ok (i, b)
theorem blanksF_0 {T : PySem.Str} {i : Int} {b : Option Int} : blanksF T 0 i b = .ok (i, b) := Eq.refl _
theorem blanksF_s {T : PySem.Str} {n : Nat} {i : Int} {b : Option Int} : blanksF T (n + 1) i b = if i < T.length then
      if hasS blankS (Txt.item T i) = true then blanksF T n (runEnd T blankS i) (brUpd T i (runEnd T blankS i) b)
      else if ([Str.ofString "//", Str.ofString "/*"].any fun x => x == Txt.slice T (some i) (some (i + 2))) = true then
        match remarkEnd T i with
        | none => .error i
        | some j => blanksF T n j (brUpd T i j b)
      else .ok (i, b)
    else .ok (i, b) := Eq.refl _
theorem remark_bd {T : PySem.Str} {i j : Int} (h0 : 0 ≤ i) (h1 : i < T.length) (h : remarkEnd T i = some j) : i < j ∧ j ≤ T.length := by
  unfold remarkEnd at h
  split at h
  · rename_i hs
    split at h
    · cases h; omega
    · cases h
      have hc : T.cps.toList[i.toNat]? = some 47 := by
        have h2 := congrArg (fun x : PySem.Str => x.cps.toList) (eq_of_beq hs)
        rw [slice_ss T i (i + 2) h0 (by omega), show (i + 2 - i).toNat = 2 by omega] at h2
        have h3 := congrArg (fun x => x[0]?) h2
        have h4 : (Str.ofString "//").cps.toList[0]? = some 47 := rfl
        rw [h4] at h3
        simpa using h3
      rename_i hf
      rw [find3_eq _ _ _ h0] at hf ⊢
      obtain ⟨a, b, c⟩ := findP_some (k := findP T (Str.ofString "\n") i.toNat T.length) rfl (by omega)
      have c' := subAt_one (c := 10) c
      have hne : findP T (Str.ofString "\n") i.toNat T.length ≠ i := fun e => by rw [e, hc] at c'; cases c'
      have e1 : ((Str.ofString "\n").length : Int) = 1 := rfl
      omega
  · split at h
    · cases h
    · cases h
      rename_i hf
      rw [find3_eq _ _ _ (by omega)] at hf ⊢
      obtain ⟨a, b, c⟩ := findP_some (k := findP T (Str.ofString "*/") (i + 2).toNat T.length) rfl (by omega)
      have e1 : ((Str.ofString "*/").length : Int) = 2 := rfl
      omega
inductive RBlk (o : Except Int (Int × Option Int)) : Value → List (Addr × Obj) → Prop
  | no (x : Addr) (j : Int) (t : Tok) (h : o = .ok (j, none)) : RBlk o (.ref x) [(x, tupO [.int j t, .none])]
  | yes (x : Addr) (j b : Int) (t u : Tok) (h : o = .ok (j, some b)) : RBlk o (.ref x) [(x, tupO [.int j t, .int b u])]
theorem bd_run {T : PySem.Str} {i : Int} {n : Nat} (h0 : 0 ≤ i) (hn : ((T.length : Int) - i).toNat < n + 1) (h1 : i < T.length) (h2 : hasS blankS (Txt.item T i) = true) :
    0 ≤ runEnd T blankS i ∧ runEnd T blankS i ≤ T.length ∧ ((T.length : Int) - runEnd T blankS i).toNat < n ∧ ((T.length : Int) - runEnd T blankS i).toNat < ((T.length : Int) - i).toNat := by
  have := runEnd_bd T blankS i h0 (by omega)
  have := runEnd_gt T blankS i h0 h1 h2
  omega
theorem bd_rem {T : PySem.Str} {i j : Int} {n : Nat} (h0 : 0 ≤ i) (hn : ((T.length : Int) - i).toNat < n + 1) (h1 : i < T.length) (h2 : remarkEnd T i = some j) :
    0 ≤ j ∧ j ≤ T.length ∧ ((T.length : Int) - j).toNat < n ∧ ((T.length : Int) - j).toNat < ((T.length : Int) - i).toNat := by
  have := remark_bd h0 h1 h2
  omega
theorem g_blank (w : World) : nsIn (Mine.hd.heap_39 w.params) mainGlobals (Str.ofString "BLANK_SIGNS") = some (some (.str blankS 391)) := by k_is
theorem g_remark (w : World) : nsIn (Mine.hd.heap_39 w.params) mainGlobals (Str.ofString "remark_behind") = some (some (.ref 102)) := by k_is
theorem k_remark (w : World) : keepIn (Mine.hd.heap_39 w.params) (.ref 102) = true := by k_is
theorem blanks_behind_c (w : World) (text : PySem.Str) (i : Int) (t1 t2 : Tok) (h0 : 0 ≤ i) (h1 : i ≤ text.length) (hl : text.length ≤ 1048576) :
    Ctr w 109 [.str text t1, .int i t2] 10 200 [] (RBlk (blanksF text (text.length + 1) i none)) (fun sp => blanksF text (text.length + 1) i none = .error sp) := by
  refine' Ctr.of_body [Str.ofString "text", Str.ofString "at", Str.ofString "broken", Str.ofString "begin", Str.ofString "end"] [.str text, .int i, .no, .no, .no] ?ho ?hcd ?hb ?hl (by decide +kernel) (slots _ _ ?hu) ?c1 ?c2 ?c3 ?c4 ?_
  k_extra "bx"
  intro C _
  refine Ex.set 2 rfl (fun _ => rfl) Ev.non ?_
  refine Ex.while_ (α := Int × Option Int) (fun c => 0 ≤ c.1 ∧ c.1 ≤ text.length ∧ ∃ n, ((text.length : Int) - c.1).toNat < n ∧ blanksF text (text.length + 1) i none = blanksF text n c.1 c.2) (fun c => [.str text, .int c.1, brS c.2, .no, .no]) (fun c => ((text.length : Int) - c.1).toNat) (fun c => decide (c.1 < text.length)) (i, none) ⟨h0, h1, text.length + 1, by show ((text.length : Int) - i).toNat < text.length + 1; omega, rfl⟩ (fun c hI => ?_) ?_ ?_
  · exact Tst.cm (Cm.lt (Ev.loc 1 rfl rfl rfl) (Ev.len rfl (Ev.loc 0 rfl rfl rfl) hl (fun _ => rfl) fun _ => rfl))
  · rintro ⟨j, b⟩ ⟨hj0, hj1, n, hn, hP⟩ hlt
    obtain ⟨n, rfl⟩ : ∃ n', n = n' + 1 := fuel_pos hn
    have hlt : j < text.length := of_decide_eq_true hlt
    have hP : blanksF text (text.length + 1) i none = _ := hP.trans (if_pos hlt)
    refine Ex.set 3 rfl (fun _ => rfl) (Ev.loc 1 rfl rfl rfl) ?_
    refine Ex.iteJ (fun us' nw' => nw' = [] ∧ ∃ j' : Int, (0 ≤ j' ∧ j' ≤ text.length ∧ ((text.length : Int) - j').toNat < n ∧ ((text.length : Int) - j').toNat < ((text.length : Int) - j).toNat) ∧ blanksF text (text.length + 1) i none = blanksF text n j' (brUpd text j j' b) ∧ Sub [.str text, .int j', brS b, .int j, .no] us') (Tst.cm (Cm.inS rfl (Ev.item (Ev.loc 0 rfl rfl rfl) (Ev.loc 1 rfl rfl rfl) hj0 hlt hl (fun _ _ _ => by with_unfolding_all rfl)) (Ev.gstr rfl (g_blank _)))) (fun h => ?_) (fun h => ?_) ?_
    · refine Ex.set 1 rfl (fun _ => rfl) (EvI.run rfl (Ev.loc 0 rfl rfl rfl) (Ev.loc 1 rfl rfl rfl) (Ev.gstr rfl (g_blank _)) hj0 hj1 hl (by decide) (by decide) (fun _ => rfl) (fun _ => rfl) (fun _ => rfl) fun _ => rfl) ?_
      exact Ex.nil ⟨rfl, _, bd_run hj0 hn hlt h, hP.trans (if_pos h), .eq (.eq (.eq (.eq (.eq .nil))))⟩
    · have hP := hP.trans (if_neg (by rw [h]; exact Bool.false_ne_true))
      refine Ex.ite (Tst.cm (Cm.inT [Str.ofString "//", Str.ofString "/*"] (Ev.ss (Ev.loc 0 rfl rfl rfl) (Ev.loc 1 rfl rfl rfl) (Ev.add (Ev.loc 1 rfl rfl rfl) Ev.cint) hl) (EvL.cons Ev.cstr (EvL.cons Ev.cstr EvL.nil fun _ => rfl) fun _ => rfl) (by decide))) (fun h2 => ?_) fun h2 => ?_
      · have hP := hP.trans (if_pos h2)
        refine Ex.setI 1 rfl (fun _ => rfl) (EvG.call rfl (g_remark _) (k_remark _) (EvL.cons (Ev.loc 0 rfl rfl rfl) (EvL.cons (Ev.loc 1 rfl rfl rfl) EvL.nil fun _ => rfl) fun _ => rfl) (fun t1 t2 => remark_behind_c _ _ _ t1 t2 hj0 hlt hl) (by decide) (by decide) (fun sp h => ?_) (fun _ => rfl) (fun _ => rfl) fun _ => rfl) (ROpt.set fun j' hj' => ?_)
        · rw [h.2] at hP; rw [h.1]; exact hP
        · rw [hj'] at hP
          exact Ex.nil (Ex.nil ⟨rfl, j', bd_rem hj0 hn hlt hj', hP, .eq (.eq (.eq (.eq (.eq .nil))))⟩)
      · have hP := hP.trans (if_neg (by rw [h2]; exact Bool.false_ne_true))
        exact Ex.ret (EvG.pairO (Ev.loc 1 rfl rfl rfl) (Ev.loc 2 rfl rfl (by cases b <;> rfl)) (fun _ => rfl) (fun _ => rfl) (fun e D t _ => .no D _ t (by rw [hP, e])) fun b' e D t t' _ => .yes D _ b' t t' (by rw [hP, e])) fun _ _ h => h
    · rintro us' nw' ⟨rfl, j', ⟨hb0, hb1, hb2, hb3⟩, hP, hsub⟩
      refine Ex.sub hsub (Ex.set 4 rfl (fun _ => rfl) (Ev.find3 (Ev.loc 0 rfl rfl rfl) Ev.cstr (Ev.loc 3 rfl rfl rfl) (Ev.loc 1 rfl rfl rfl) hj0 hb0 (fun _ => rfl) (fun _ => rfl) (fun _ => rfl) fun _ => rfl) ?_)
      refine Ex.ite (Tst.and2 (Tst.cm (Cm.isNoneO (Ev.loc 2 rfl rfl (by cases b <;> rfl)))) fun _ => Tst.cm (Cm.ge (Ev.loc 4 rfl rfl rfl) Ev.cint)) (fun h => ?_) fun h => Ex.nil (Ex.nil ⟨rfl, (j', b), ⟨hb0, hb1, n, hb2, hP.trans ?_⟩, hb3, .eq (.eq (.eq (.no (.no .nil))))⟩)
      · rw [Bool.and_eq_true, Option.isNone_iff_eq_none, decide_eq_true_eq] at h
        obtain ⟨rfl, h4⟩ := h
        refine Ex.set 2 rfl (fun _ => rfl) (y := .int (if (Txt.item text j == Str.ofString "/") = true then j else find4 text (Str.ofString "\n") j j')) (Ev.ife (Tst.cm (Cm.eqS (Ev.item (Ev.loc 0 rfl rfl rfl) (Ev.loc 3 rfl rfl rfl) hj0 (of_decide_eq_true hlt) hl (fun _ _ _ => by with_unfolding_all rfl)) Ev.cstr)) (fun c => Ev.eqI (Ev.loc 3 rfl rfl rfl) (if_pos c).symm) fun c => Ev.eqI (Ev.loc 4 rfl rfl rfl) (if_neg (by rw [c]; exact Bool.false_ne_true)).symm) ?_
        exact Ex.nil (Ex.nil ⟨rfl, (j', some _), ⟨hb0, hb1, n, hb2, hP.trans (congrArg (blanksF text n j') (if_pos h4))⟩, hb3, .eq (.eq (.eq (.no (.no .nil))))⟩)
      · cases b with
        | some b => rfl
        | none =>
          delta brUpd
          dsimp only
          rw [if_neg (by simpa using h)]
  · rintro ⟨j, b⟩ ⟨hj0, hj1, n, hn, hP⟩ hge
    obtain ⟨n, rfl⟩ : ∃ n', n = n' + 1 := fuel_pos hn
    have hP : blanksF text (text.length + 1) i none = _ := hP.trans (if_neg (of_decide_eq_false hge))
    exact Ex.ret (EvG.pairO (Ev.loc 1 rfl rfl rfl) (Ev.loc 2 rfl rfl (by cases b <;> rfl)) (fun _ => rfl) (fun _ => rfl) (fun e D t _ => .no D _ t (by rw [hP, e])) fun b' e D t t' _ => .yes D _ b' t t' (by rw [hP, e])) fun _ _ h => h

end
section
example : True := by
  w_top off
  k_with_none
  (k_with "my_enter" => (refine' code_def ?k1 ?k2 ?k3 ?k4 ?k5 ?kA ?kF ?kK ?k6 ?k7 ?k8 ?k9 ?kB ?_ ?c2 ?c3 ?c4 ?c5; (case kA => exact rfl); (case kF => exact rfl); (case kK => first | assumption | exact rfl); (case k1 => k_asm); (case k2 => k_asm); (case k3 => k_asm); (case k4 => k_asm); (case k5 => k_asm); (case k6 => k_is); (case k7 => k_is); (case k8 => k_extra "my_room"); (case k9 => first | exact BindsTo.of_eq rfl | exact binds_K (by k_in) rfl (by k_is) rfl rfl rfl); (case c5 => decide); (case kB => exact locs rfl); (case c2 => exact rfl); (case c3 => exact rfl); (case c4 => exact rfl); k_whole; intro g' L' h' FG' F' N' B' X' T'; (try dsimp only); (try k_fold)))
  (k_with "exec Raise some none" => (k_here; k_dflt (refine' Raise_fault ?k1 ?k2 ?_; (case k1 => k_asm); (case k2 => k_asm); k_whole)))
  (k_with "call ref" => (k_here; (with_reducible show wpAny _ _ (call (Value.ref 52) _) _ _ _); k_dflt (refine' fault ?k1 ?k2 ?k3 ?k4 ?k5 ?k6 ?k7 ?k8 ?_; (case k1 => k_asm); (case k2 => k_asm); (case k3 => k_asm); (case k4 => k_asm); (case k5 => k_asm); (case k6 => first | assumption | exact rfl); (case k7 => k_extra "my_room"); (case k8 => k_extra "my_room"); k_whole); intro h' e' tk' F' M'; (try k_sweep)))
  (k_with "FaultQ" => (refine ⟨_, _, _, _, rfl, by assumption, by assumption, ?_⟩))
  (k_with "leaving ref" => (k_here; first | (refine' leave_first ?k1 ?k2 ?k3 ?k4 ?_; (case k3 => assumption); (case k1 => assumption); (case k2 => assumption); (case k4 => exact rfl); k_whole; intro h' R') | (refine' leave_next ?k1 ?k2 ?k3 ?_; (case k3 => assumption); (case k1 => assumption); (case k2 => assumption); k_whole; intro h' R')))
  (k_with "my_news" => first | assumption | exact news_sub (by assumption) (by first | kcf_all | (simp only [List.cons_append, List.nil_append]; kcf_all)))
  (k_with "my_room" => first | exact room9 (by with_reducible assumption) (by exact rfl) | exact room8 (by with_reducible assumption) (by exact rfl) | exact room7 (by with_reducible assumption) | ktr_room | ktr_units)
  trivial
example : True := by
  (k_with "compareOp In str ref" => (k_here; (with_reducible show wpAny _ _ (compareOp CmpOp.In (Value.str _ _) (Value.ref 85)) _ _ _); k_dflt (refine' in_ends ?X ?_; (case X => k_in); k_whole)))
  trivial
noncomputable def lineKinds : List PySem.Str := [Str.ofString "name", Str.ofString "int", Str.ofString "rune", Str.ofString "text"]
noncomputable def endsL (wd : Wd) : Bool := (lineKinds.any fun x => x == wd.kind) || (endList.any fun x => x == wd.txt)
theorem ends_line_c (w : World) (x : Addr) (wd : Wd) (ob : Obj) (hw : IsWd wd ob) : Ctr w 193 [.ref x] 1 30 [(x, ob)] (RBool (endsL wd)) (fun _ => False) := by
  obtain ⟨kind, txt, spot, ext, u1, u2, u3, v, hv⟩ := hw
  intro p loose mean mg mb dp un gd cn cs a ccd cl outer A₀ base' h₀ L m news s Q E B F X N T hk hd hu hled hret hexc
  have hx := hled _ (.head _)
  have N0 : News h₀ L s.heap ((x, tupO [.str kind u1, .str txt u2, .int spot u3, v]) :: news) := fun q hq => (List.mem_cons.mp hq).elim (fun e => e ▸ N _ hx) (N q)
  refine wpAny_call ?_
  clear hled
  k_dflt k_extra "my_enter"
  k_steps
  · refine hret _ [] _ _ (rbool_eq ?_) (by assumption) (by k_extra "my_news") (fun _ _ _ h => nomatch h)
    (rename _ = true => hA)
    show (lineKinds.any _ || _) = true ↔ lineKinds.any _ = true
    have hA' : (lineKinds.any fun x => x == kind) = true := hA
    rw [hA']; simp
  · refine hret _ [] _ _ (rbool_eq ?_) (by assumption) (by k_extra "my_news") (fun _ _ _ h => nomatch h)
    (rename _ = false => hA)
    show (lineKinds.any _ || _) = true ↔ endList.any _ = true
    have hA' : (lineKinds.any fun x => x == kind) = false := hA
    rw [hA', Bool.false_or]

end
section
example : True := by
  w_top off
  k_with_none
  trivial
theorem str_ne {x : PySem.Str} (h : x.cps.toList = []) : x = Str.ofString "" := str_ext h
theorem slice_one {T : PySem.Str} {j : Int} {c : PySem.Str} (h0 : 0 ≤ j) (h : Txt.slice T (some j) (some (j + 1)) = c) (hc : c ≠ Str.ofString "") : j < T.length := by
  rcases Int.lt_or_le j T.length with q | q
  · exact q
  · refine absurd ?_ hc
    rw [← h]
    apply str_ne
    rw [slice_ss _ _ _ h0 (Int.le_of_lt (Int.lt_succ _)), List.drop_eq_nil_of_le (by rw [← len_eq]; exact Int.ofNat_le.mp (Int.le_trans q (Int.self_le_toNat _))), List.take_nil]
theorem slice_full {T : PySem.Str} {j : Int} {c : PySem.Str} (h0 : 0 ≤ j) (h : Txt.slice T (some j) (some (j + c.length)) = c) (hc : 0 < c.length) : j + c.length ≤ T.length := by
  obtain ⟨n, rfl⟩ := Int.eq_ofNat_of_zero_le h0
  have h2 := congrArg (fun x : PySem.Str => x.cps.toList.length) h
  rw [slice_ss _ _ _ h0 (Int.le.intro _ rfl), List.length_take, List.length_drop, ← len_eq, ← len_eq, Int.toNat_natCast] at h2
  have h3 : c.length ≤ T.length - n := by rw [← h2]; exact Nat.min_le_right _ _
  have h4 : n + c.length ≤ T.length := by
    rcases Nat.le_total n T.length with q | q
    · rw [Nat.add_comm]; exact Nat.add_le_of_le_sub q h3
    · rw [Nat.sub_eq_zero_of_le q] at h3; exact absurd (Nat.lt_of_lt_of_le hc h3) (Nat.lt_irrefl _)
  exact Int.ofNat_le.mpr h4
theorem not_bne {a b : PySem.Str} (h : ¬ (a != b) = true) : a = b := by simpa using h
theorem runeRead_bd {T : PySem.Str} {i k : Int} {wd : Wd} (h0 : 0 ≤ i) (h : runeRead T i = .ok (wd, k)) : i < k ∧ k ≤ T.length := by
  have fin : ∀ v j, i < j → runeFin T i v j = .ok (wd, k) → i < k ∧ k ≤ T.length := by
    intro v j hj hf
    unfold runeFin at hf
    split at hf
    · cases hf
    · rename_i hs
      have := slice_one (by omega) (not_bne hs) (by decide)
      cases hf
      omega
  unfold runeRead at h
  split at h
  · cases h
  · split at h
    · generalize he : escRead T (i + 1) (Str.ofString "'") = z at h
      cases z with
      | none => cases h
      | some p =>
        obtain ⟨v, b, j⟩ := p
        have := escRead_ok (by omega) he (by decide) (by decide)
        exact fin v j (by omega) h
    · split at h
      · exact fin _ _ (by omega) h
      · cases h
theorem quotF_bd {T : PySem.Str} : ∀ (n : Nat) (i : Int) (acc acc' : List Int) (j : Int), 0 ≤ i → i ≤ T.length → quotF T n i acc = .ok (acc', j) → i ≤ j ∧ j ≤ T.length
  | 0, i, acc, acc', j, h0, h1, h => by
    have h : (Except.ok (acc, i) : Except Int (List Int × Int)) = .ok (acc', j) := h
    cases h
    omega
  | n + 1, i, acc, acc', j, h0, h1, h => by
    rw [quotF_s] at h
    split at h
    · cases h; omega
    · rename_i hs
      have hlt := slice_lt (T := T) (i := i) (l := [Str.ofString "\n", Str.ofString "\""]) h0 (by simpa using hs)
      split at h
      · generalize he : escRead T i (Str.ofString "\"") = z at h
        cases z with
        | none => cases h
        | some p =>
          obtain ⟨v, b, k⟩ := p
          have := escRead_ok h0 he (by decide) (by decide)
          have := quotF_bd n k _ _ _ (by omega) (by omega) h
          omega
      · split at h
        · have := quotF_bd n (i + 1) _ _ _ (by omega) (by omega) h
          omega
        · cases h
theorem quotRead_bd {T : PySem.Str} {i k : Int} {wd : Wd} (h0 : 0 ≤ i) (h1 : i < T.length) (h : quotRead T i = .ok (wd, k)) : i < k ∧ k ≤ T.length := by
  unfold quotRead at h
  generalize hq : quotF T (T.length + 1) (i + 1) [] = z at h
  cases z with
  | error e => cases h
  | ok p =>
    obtain ⟨acc, j⟩ := p
    have := quotF_bd _ _ _ _ _ (by omega) (by omega) hq
    by_cases hs : (Txt.slice T (some j) (some (j + 1)) != Str.ofString "\"") = true
    · cases (if_pos hs).symm.trans h
    · have := slice_one (by omega) (not_bne hs) (by decide)
      cases (if_neg hs).symm.trans h
      omega
theorem name_signs : ∀ c, c ∈ beginS.cps.toList ∨ c ∈ figS.cps.toList → c ∈ nameS.cps.toList := by
  intro c h
  have h1 : beginS.cps.toList ++ figS.cps.toList = nameS.cps.toList := by decide +kernel
  rw [← h1]
  exact List.mem_append.mpr h
theorem run_name {T : PySem.Str} {i : Int} (h0 : 0 ≤ i) (h1 : i < T.length) (h : hasS beginS (Txt.item T i) = true ∨ hasS figS (Txt.item T i) = true) : i < runEnd T nameS i ∧ runEnd T nameS i ≤ T.length := by
  refine ⟨runEnd_gt T nameS i h0 h1 ?_, (runEnd_bd T nameS i h0 (by omega)).2⟩
  rw [item_eq T i h0 h1, hasS_one] at h ⊢
  rw [hasS_one] at h
  simp only [decide_eq_true_eq] at h ⊢
  exact name_signs _ h
theorem signs_pos : ∀ s ∈ signList, 0 < s.length := by decide +kernel
theorem signRead_bd {T : PySem.Str} {i k : Int} {wd : Wd} (h0 : 0 ≤ i) (h : signRead T i = .ok (wd, k)) : i < k ∧ k ≤ T.length := by
  rw [signRead_def] at h
  generalize hf : signList.find? (fun s => Txt.slice T (some i) (some (i + s.length)) == s) = o at h
  cases o with
  | none => cases h
  | some s =>
    have hm := signs_pos s (List.mem_of_find?_eq_some hf)
    have hs0 : (Txt.slice T (some i) (some (i + s.length)) == s) = true := List.find?_some (p := fun s => Txt.slice T (some i) (some (i + s.length)) == s) hf
    have hs := eq_of_beq hs0
    have := slice_full h0 hs hm
    cases h
    omega
theorem wordRead_bd {T : PySem.Str} {i k : Int} {wd : Wd} (h0 : 0 ≤ i) (h1 : i < T.length) (h : wordRead T i = .ok (wd, k)) : i < k ∧ k ≤ T.length := by
  unfold wordRead at h
  split at h
  · rename_i hb
    cases h
    exact run_name h0 h1 (.inl hb)
  · split at h
    · rename_i hb
      have := run_name h0 h1 (.inr hb)
      unfold numRead numFin at h
      repeat' split at h
      all_goals first | (cases h; done) | (cases h; exact this)
    · split at h
      · exact quotRead_bd h0 h1 h
      · split at h
        · cases h
        · split at h
          · exact runeRead_bd h0 h
          · exact signRead_bd h0 h
theorem blanksF_bd {T : PySem.Str} : ∀ (n : Nat) (i : Int) (b b' : Option Int) (j : Int), 0 ≤ i → i ≤ T.length → blanksF T n i b = .ok (j, b') → i ≤ j ∧ j ≤ T.length
  | 0, i, b, b', j, h0, h1, h => by
    rw [blanksF_0] at h
    cases h
    omega
  | n + 1, i, b, b', j, h0, h1, h => by
    rw [blanksF_s] at h
    split at h
    · rename_i hlt
      split at h
      · have hr := runEnd_bd T blankS i h0 h1
        have := blanksF_bd n _ _ _ _ (by omega) hr.2 h
        omega
      · split at h
        · generalize hk : remarkEnd T i = z at h
          cases z with
          | none => cases h
          | some k =>
            have hr := remark_bd h0 hlt hk
            have := blanksF_bd n _ _ _ _ (by omega) hr.2 h
            omega
        · cases h; omega
    · cases h; omega
inductive WdsAre : List Wd → List (Addr × Obj) → Prop
  | nil : WdsAre [] []
  | cons {wd : Wd} {x : Addr} {ob : Obj} {wds : List Wd} {its : List (Addr × Obj)} (h : IsWd wd ob) (t : WdsAre wds its) : WdsAre (wd :: wds) ((x, ob) :: its)
noncomputable def brk (T : PySem.Str) (j : Int) (br : Option Int) : Option Int := if j = T.length ∧ br = none then some j else br
noncomputable def semi (T : PySem.Str) (j : Int) (br : Option Int) (acc : List Wd) : List Wd :=
  match brk T j br, acc with
  | some b, wd :: r => if endsL wd = true then ⟨Str.ofString "sign", Str.ofString ";", b, .none⟩ :: wd :: r else wd :: r
  | _, acc => acc
section
variable {T : PySem.Str} {j b : Int} {br : Option Int} {wd : Wd} {acc : List Wd}
theorem semi_none (h : none = brk T j br) : semi T j br acc = acc := by unfold semi; rw [← h]
theorem semi_nil : semi T j br [] = [] := by unfold semi; cases brk T j br <;> rfl
theorem semi_yes (h : some b = brk T j br) (h2 : endsL wd = true) : semi T j br (wd :: acc) = ⟨Str.ofString "sign", Str.ofString ";", b, .none⟩ :: wd :: acc := by unfold semi; rw [← h]; exact if_pos h2
theorem semi_no (h : some b = brk T j br) (h2 : endsL wd = false) : semi T j br (wd :: acc) = wd :: acc := by unfold semi; rw [← h]; exact if_neg (by rw [h2]; decide)
end
noncomputable def rowsF (T : PySem.Str) : Nat → Int → List Wd → Except Int (List Wd)
  | 0, _, acc => .ok acc
  | n + 1, i, acc => match blanksF T (T.length + 1) i none with
    | .error sp => .error sp
    | .ok (j, br) =>
      if j = T.length then .ok (⟨Str.ofString "end", Str.ofString "", j, .none⟩ :: semi T j br acc)
      else match wordRead T j with
        | .error sp => .error sp
        | .ok (wd, k) => rowsF T n k (wd :: semi T j br acc)
noncomputable def rowsRead (T : PySem.Str) : Except Int (List Wd) := rowsF T (T.length + 1) 0 []

end
section
example : True := by
  w_top off
  trivial
set_option maxRecDepth 8000 in
theorem list_ne_lens (l : Addr) (items : Array Value) (n : Nat) (b : Addr) (items2 : Array Value) (n2 : Nat) (hc0 : (items.size != items2.size) = true) :
    Meets (Builtin.«list.__ne__» ⟨[.ref l, .ref b], []⟩) (fun _ R s => s.heap.get? l = some { cls := .type "list", dict := none, data := .seq items n, slots := #[] } ∧ s.heap.get? b = some { cls := .type "list", dict := none, data := .seq items2 n2, slots := #[] } ∧ R (.ok (.ret (Value.bool true))) { s with heap := s.heap, toks := s.toks }) :=
  .of_wp fun prog w A R s h => by obtain ⟨hp, g, d, tk, os⟩ := s; obtain ⟨hl, hb, h⟩ := h; have f3 := PySem.F.sub_list_list; wp_walk using wpAny_loadPart' hl, wpAny_loadPart' hb; exact ⟨_, rfl, h⟩
section
variable {prog : Program} {w : World} {A : Around} {E : Value → Shared → Prop} {s : Shared} {h₀ : Heap} {L D e : Addr} {m : PySem.Str → Option Value} {news : List (Addr × Obj)}
theorem ne_nilK {items : Array Value} {n n2 : Nat} {Q : Value → Shared → Prop} (N : News h₀ L s.heap news) (hm : (D, W.listOf items n) ∈ news) (he : (e, W.listOf #[] n2) ∈ news) (hz : 0 < items.size) (hu : A.units < cLine) (h : Q (.bool true) s) :
    wpAny (model prog w) A (compareOp .NotEq (.ref D) (.ref e)) Q E s :=
  richCompare_meets_room (op := .NotEq) ⟨_, (N _ hm).1, rfl⟩ ⟨_, (N _ he).1, rfl⟩ PySem.F.slot_list_ne PySem.F.entry_list_ne (PySem.F.args_list_ne_2 _ _) (list_ne_lens D items n e #[] n2 (by simp only [List.size_toArray, List.length_nil, bne_iff_ne, ne_eq]; omega))
    ⟨(N _ hm).1, (N _ he).1, show Value.bool true ≠ Value.notImplemented ∧ Q (.bool true) s from ⟨(fun x => nomatch x), h⟩⟩ hu
theorem lastK {value slice : Expr} {vi : List Value} {v : Value} {n : Nat} {u : Tok} {Q : Value → Shared → Prop} (N : News h₀ L s.heap news) (hm : (D, W.listOf (vi ++ [v]).toArray n) ∈ news) (h : Q v s)
    (hs : subscripted slice false (.ref D) (.int (-1) u) = operate [.ref D, .int (-1) u] (getItem (.ref D) (.int (-1) u))) (hg : ∀ r, letTemporaryGo value (.ref D) r = pure ()) :
    wpAny (model prog w) A (subscriptTail value slice (.ref D) (.int (-1) u)) Q E s := by
  have hl : s.heap.IsList D (vi ++ [v]).toArray := ⟨_, (N _ hm).1, rfl, _, rfl⟩
  exact subscriptTail_builtin hl.typeIs slot_list_getitem.lookup (wpAny_getItem_list_neg hl (by decide) (by simp; omega) (by decide) (by
    have e : ((-1 : Int) + ((vi ++ [v]).toArray.size : Int)).toNat = vi.length := by simp; omega
    rw [e]; simp) h) hs hg
theorem appendD {vs : List Value} {n : Nat} {x : Value} {rest : List (Addr × Obj)} {Q : Value → Shared → Prop} (F : Fr h₀ L s.heap m) (N : News h₀ L s.heap news) (hm : (D, W.listOf vs.toArray n) ∈ news) (hr : ∀ q ∈ rest, q ∈ news) (hD : ∀ q ∈ rest, q.1 ≠ D) (hz : vs.length ≤ 16777216)
    (h : ∀ h', Fr h₀ L h' m → News h₀ L h' ((D, W.listOf (vs ++ [x]).toArray (n + 1)) :: rest) → Q .none { s with heap := h' }) : wpAny (model prog w) A (call (.builtin "list.append") [.ref D, x]) Q E s := by
  have z := N _ hm
  refine append_at (hsz := by rw [List.size_toArray, sizeLine_eq]; exact hz) z.1 fun h' hs ho' => h h' (F.change hs z.2.1 z.2.2) fun q hq => ?_
  rcases List.mem_cons.mp hq with rfl | hq
  · exact ⟨by rw [show (vs ++ [x]).toArray = vs.toArray.push x by simp]; exact ho', z.2⟩
  · have := N q (hr q hq)
    exact ⟨(hs.2 q.1 (hD q hq)).trans this.1, this.2⟩
end

end
section
example : True := by
  w_top off
  trivial
section
variable {cs : Scope} {ns : List PySem.Str} {d u : Nat} {RX : Value → List (Addr × Obj) → Prop} {XX : Int → Prop} {C : Bx cs ns d u RX XX} {us : List Vl} {nw : List (Addr × Obj)} {K : List Vl → List (Addr × Obj) → Prop} {rest : List Stmt} {pos : Pos}
noncomputable def EvA (C : Bx cs ns d u RX XX) (us : List Vl) (nw : List (Addr × Obj)) (es : List PySem.Expr) (P : List Value → List (Addr × Obj) → Prop) : Prop :=
  ∀ (p : Pos) (s : Shared) (Q : List Value → Shared → Prop) (E : Value → Shared → Prop), St C us nw s → (∀ vs nw' s', P vs nw' → St C us nw' s' → Q vs s') → (∀ e s', C.E e s' → E e s') → wpAny C.M C.A (spliced (backTo p (starEach es C.env))) Q E s
theorem EvA.nil {P : List Value → List (Addr × Obj) → Prop} (h : P [] nw) : EvA C us nw [] P := fun p s Q E hS hQ _ => args_nil (hQ [] nw s h hS)
theorem EvA.cons {e : PySem.Expr} {es : List PySem.Expr} {P1 : Value → List (Addr × Obj) → Prop} {P : List Value → List (Addr × Obj) → Prop} (h : EvG C us nw e P1) (hs : ∀ v n1, P1 v n1 → EvA C us n1 es (fun vs n2 => P (v :: vs) n2)) (he : ∀ env, starEach (e :: es) env = (false, eval e env) :: starEach es env) : EvA C us nw (e :: es) P := fun p s Q E hS hQ hE =>
  args_cons (h _ _ _ hS (fun v n1 s' hv hS' => hs v n1 hv p _ _ _ hS' (fun vs n2 s'' hvs hS'' => hQ _ _ _ hvs hS'') hE) hE) (he _)
theorem EvA.consV {e : PySem.Expr} {es : List PySem.Expr} {x : Vl} {P : List Value → List (Addr × Obj) → Prop} (h : Ev C us nw e x) (hs : ∀ v, x.Is (some v) → EvA C us nw es (fun vs n2 => P (v :: vs) n2)) (he : ∀ env, starEach (e :: es) env = (false, eval e env) :: starEach es env) : EvA C us nw (e :: es) P :=
  EvA.cons h.g (fun v n1 hv => by obtain ⟨hv, rfl⟩ := hv; exact hs v hv) he
theorem EvG.listA {es : List PySem.Expr} {Pa : List Value → List (Addr × Obj) → Prop} {P : Value → List (Addr × Obj) → Prop} (ha : EvA C us nw es Pa) (hz : es.length ≤ 1000) (hlen : ∀ vs n1, Pa vs n1 → vs.length = es.length) (hp : ∀ vs n1 D, Pa vs n1 → P (.ref D) ((D, W.listOf vs.toArray 0) :: n1)) : EvG C us nw (.List es pos) P := fun s Q E hS hQ hE => by
  refine List_ (ha _ _ _ _ hS (fun vs n1 s' hvs hS' => ?_) hE)
  obtain ⟨l', hl'⟩ := id hS'
  obtain ⟨m, F, hm⟩ := hS'.fr
  refine newList_K F hl'.news (fun D h' F' N' hlt => hQ _ _ _ (hp vs n1 D hvs) ⟨l', hl'.pn, hS'.same, ⟨m, F', hm⟩, N', fun q hq p h9 => ?_⟩) (by rw [hlen vs n1 hvs]; size_fits)
  rcases List.mem_cons.mp h9 with rfl | h9
  · exact hlt q (List.mem_append_right _ hq)
  · exact hl'.above q hq p h9
theorem EvG.tupA {es : List PySem.Expr} {k : Nat} {Pa : List Value → List (Addr × Obj) → Prop} {P : Value → List (Addr × Obj) → Prop} (ha : EvA C us nw es Pa) (hz : es.length ≤ 1000) (hlen : ∀ vs n1, Pa vs n1 → vs.length = es.length) (hp : ∀ vs n1 D, Pa vs n1 → P (.ref D) ((D, tupO vs) :: n1)) : EvG C us nw (.Tuple es k pos) P := fun s Q E hS hQ hE => by
  refine Tuple_ (ha _ _ _ _ hS (fun vs n1 s' hvs hS' => ?_) hE)
  obtain ⟨l', hl'⟩ := id hS'
  obtain ⟨m, F, hm⟩ := hS'.fr
  refine kup_newTuple F hl'.news (fun D h' F' N' hlt => hQ _ _ _ (hp vs n1 D hvs) ⟨l', hl'.pn, hS'.same, ⟨m, F', hm⟩, N', fun q hq p h9 => ?_⟩) (by rw [hlen vs n1 hvs]; size_fits)
  rcases List.mem_cons.mp h9 with rfl | h9
  · exact hlt q (List.mem_append_right _ hq)
  · exact hl'.above q hq p h9
theorem St.perm {s : Shared} {nw' : List (Addr × Obj)} (h : ∀ q ∈ nw', q ∈ nw) (hS : St C us nw s) : St C us nw' s := hS.elim fun l hl =>
  ⟨l, hl.pn, hl.same, hl.fr, fun q hq => hl.news q ((List.mem_append.mp hq).elim (fun h9 => List.mem_append_left _ (h q h9)) fun h9 => List.mem_append_right _ h9), fun q hq p hp => hl.above q hq p (h p hp)⟩
theorem Ex.swapA (i j : Nat) {x z : PySem.Str} {p q tp vp : Pos} {e1 e2 : PySem.Expr} {k k' : Nat} {Pa : List Value → List (Addr × Obj) → Prop} (ho : okLoc cs ns i x = true) (ho' : okLoc cs ns j z = true) (ha : EvA C us nw [e1, e2] Pa)
    (hr : ∀ vs n1, Pa vs n1 → ∃ (v1 v2 : Value) (a b : Vl), vs = [v1, v2] ∧ a.Is (some v1) ∧ b.Is (some v2) ∧ Ex C ((us.set j b).set i a) n1 rest K)
    (hs : ∀ env, swapsWithSole [.Tuple [.Name x p, .Name z q] k tp] (.Tuple [e1, e2] k' vp) pos.line env = pure false) (hw : ∀ cn L a ccd cl, swappedStores [.Tuple [.Name x p, .Name z q] k tp] (.Tuple [e1, e2] k' vp) (envX cn cs L a ccd cl) = pure (some [x, z])) :
    Ex C us nw (.Assign [.Tuple [.Name x p, .Name z q] k tp] (.Tuple [e1, e2] k' vp) pos :: rest) K := fun s hS => by
  refine wpAny_execs_cons (Assign_Tuple_swapped (Tuple_ (ha _ _ _ _ hS (fun vs n1 s'' hvs hS'' => ?_) fun _ _ h => h)) (hs _) (hw _ _ _ _ _))
  obtain ⟨v1, v2, a, b, rfl, g1, g2, hx⟩ := hr vs n1 hvs
  obtain ⟨l'', hl''⟩ := id hS''
  obtain ⟨m, F, hm⟩ := hS''.fr
  refine kup_newTuple F hl''.news (fun D h' F' N' hlt => ?_) (Nat.le_trans (Nat.le_of_ble_eq_true rfl : 2 ≤ 1000) (by size_fits))
  refine unpackItemsN_ F' N' (N'.isTup (.head _)) rfl rfl fun h'' F'' N'' => ?_
  refine St.bind (us := us) ho' ⟨l'', hl''.pn, hS''.same, ⟨m, F'', hm⟩, fun q hq => N'' q (.tail _ hq), hl''.above⟩ g2 fun s3 hS3 => ?_
  exact St.bind ho hS3 g1 fun s4 hS4 => assignInOrder_nil (hx _ hS4)
theorem Cm.notNoneO {l : PySem.Expr} {k : Nat} {p : Pos} {o : Option Int} (ha : Ev C us nw l (brS o)) : Cm C us nw .IsNot l (.Constant .none k p) (!o.isNone) :=
  Cm.of (bim rfl rfl) (fun s Q E v v' hv hv' h => by
    rw [Vl.val_is hv']
    cases o with
    | none => rw [Vl.val_is hv]; exact PySem.isNot_none h
    | some b => obtain ⟨t, rfl⟩ := Vl.int_is hv; exact PySem.isNot_none h) ha Ev.non
theorem Cm.neNil {l : PySem.Expr} {q : Pos} {D : Addr} {vs : List Value} {n : Nat} (ha : Ev C us nw l (.val (.ref D))) (hm : (D, W.listOf vs.toArray n) ∈ nw) (hu : 100 ≤ u) : Cm C us nw .NotEq l (.List [] q) (!vs.isEmpty) := ⟨rfl, fun s Q E hS hQ hE => by
  refine ha _ _ _ hS (fun v s' hv hS' => EvG.listA (EvA.nil (P := fun vs n1 => vs = [] ∧ n1 = nw) ⟨rfl, rfl⟩) (Nat.le_of_ble_eq_true rfl) (fun _ _ h => by rw [h.1]; rfl) (P := fun v n1 => ∃ e, v = .ref e ∧ n1 = (e, W.listOf #[] 0) :: nw) (fun vs n1 e h => ⟨e, rfl, by rw [h.1, h.2]⟩) _ _ _ hS' (fun v' n1 s'' hv' hS'' => ?_) hE) hE
  obtain rfl := Vl.val_is hv
  obtain ⟨e, rfl, rfl⟩ := hv'
  obtain ⟨l', hl'⟩ := id hS''
  obtain ⟨m, F, hm'⟩ := hS''.fr
  have hun : C.A.units + 64 < cLine := Nat.lt_of_le_of_lt (show C.un + 64 ≤ C.un + u from by omega) C.hu
  have hQ' := hQ _ (St.perm (fun q hq => .tail _ hq) hS'')
  cases vs with
  | nil => exact ke_ne_ints (xs := []) (ys := []) ⟨_, (hl'.news _ (List.mem_append_left _ (.tail _ hm))).1, rfl, _, rfl⟩ ⟨_, (hl'.news _ (List.mem_append_left _ (.head _))).1, rfl, _, rfl⟩ .nil .nil hun hQ'
  | cons a vs => exact ne_nilK hl'.news (List.mem_append_left _ (.tail _ hm)) (List.mem_append_left _ (.head _)) (by simp) (Nat.lt_of_le_of_lt (Nat.le_add_right _ _) hun) hQ'⟩
theorem Ev.lastL {n : PySem.Str} {p q q' : Pos} {k : Nat} {D : Addr} {vi : List Value} {v : Value} {c : Nat} (ha : Ev C us nw (.Name n p) (.val (.ref D))) (hm : (D, W.listOf (vi ++ [v]).toArray c) ∈ nw) :
    Ev C us nw (.Subscript (.Name n p) (.UnaryOp .USub (.Constant (.int 1) k q) q') pos) (.val v) := fun s Q E hS hQ hE => by
  refine Subscript_ (ha _ _ _ hS (fun v1 s' hv hS' => Ev.neg Ev.cint _ _ _ hS' (fun v2 s'' hv' hS'' => ?_) hE) hE)
  obtain rfl := Vl.val_is hv
  obtain ⟨t, rfl⟩ := Vl.int_is hv'
  obtain ⟨l', hl'⟩ := id hS''
  exact lastK hl'.news (List.mem_append_left _ hm) (hQ _ _ rfl hS'') (by with_unfolding_all rfl) (by intro _; with_unfolding_all rfl)
theorem EvG.callL {x : PySem.Str} {p : Pos} {e : PySem.Expr} {es : List PySem.Expr} {xs : List Vl} {f : Addr} {d' u' : Nat} {led : List (Addr × Obj)} {R' : Value → List (Addr × Obj) → Prop} {X' : Int → Prop} (ho : okGlob cs x = true) (hv : nsIn (Mine.hd.heap_39 C.w.params) mainGlobals x = some (some (.ref f))) (hk : keepIn (Mine.hd.heap_39 C.w.params) (.ref f) = true)
    (ha : EvL C us nw (e :: es) xs) (hl9 : ∀ q ∈ led, q ∈ nw) (hc : ForA xs (fun vs => Ctr C.w f vs d' u' led R' X')) (hd : d' ≤ d) (hu : u' ≤ u) (hx : ∀ sp, X' sp → XX sp)
    (he : ∀ env, starEach (e :: es) env = (false, eval e env) :: starEach es env) (hpl : ∀ env, (backTo pos (starEach es env)).any (·.1) = false)
    (hcall : ∀ env, eval (.Call (.Name x p) (e :: es) [] pos) env = (do callWith pos (← eval (.Name x p) env) [] (backTo pos (starEach (e :: es) env)) (backToKw pos (keywordEach [] env)))) :
    EvG C us nw (.Call (.Name x p) (e :: es) [] pos) (fun v nw' => ∃ n2, R' v n2 ∧ nw' = n2 ++ nw) := fun s Q E hS hQ hE => by
  refine Call_ (Ev.glob ho hv _ _ _ hS (fun f' s₁ hf hS₁ => ?_) hE) (hcall _)
  obtain rfl := Vl.val_is hf
  refine callWith_K C.K hk (ha _ _ _ _ hS₁ (fun vs s₂ hvs hS₂ => ?_) hE) (he _) (hpl _)
  obtain ⟨l₂, hl₂⟩ := id hS₂
  obtain ⟨m, F, hm⟩ := hS₂.fr
  refine ⟨C.K.keeps F.keep, ?_⟩
  refine (forA_of xs hc vs hvs).use C.B F C.K hl₂.news C.T C.hk (Nat.lt_of_le_of_lt (Nat.add_le_add_left hd _) C.hd) (Nat.lt_of_le_of_lt (Nat.add_le_add_left hu _) C.hu) (fun q hq => List.mem_append_left _ (hl9 q hq)) (fun x' sp h' tk g hsp Fg R => ?_) fun v n2 h' tk hr F' N' hl => ?_
  · exact hE _ _ (C.passed hl₂.pn Fg R hS₂.same (hx _ hsp))
  · exact hQ v (n2 ++ nw) _ ⟨n2, hr, rfl⟩ ⟨l₂, hl₂.pn, hS₂.same, ⟨m, F', hm⟩, by rw [List.append_assoc]; exact N', fun q hq q' hq' => (List.mem_append.mp hq').elim (fun h9 => hl q (List.mem_append_right _ hq) q' h9) (fun h9 => hl₂.above q hq q' h9)⟩
theorem Ex.append {x : PySem.Str} {p ap cp : Pos} {e : PySem.Expr} {D : Addr} {P : Value → List (Addr × Obj) → Prop} (ho : Ev C us nw (.Name x p) (.val (.ref D))) (hD : ∃ vs n, (D, W.listOf vs n) ∈ nw) (he : EvG C us nw e P)
    (hr : ∀ v n1, P v n1 → ∃ (vs : List Value) (n : Nat) (l : List (Addr × Obj)), (D, W.listOf vs.toArray n) ∈ n1 ∧ (∀ q ∈ l, q ∈ n1) ∧ (∀ q ∈ l, q.1 ≠ D) ∧ vs.length ≤ 16777216 ∧ Ex C us ((D, W.listOf (vs ++ [v]).toArray (n + 1)) :: l) rest K)
    (hst : ∀ env, starEach [e] env = (false, eval e env) :: starEach [] env) (hsw : ∀ env, swapsWith (.Call (.Attribute (.Name x p) (Str.ofString "append") ap) [e] [] cp) none pos.line env = pure false)
    (hc : ∀ env, ∃ pl, eval (.Call (.Attribute (.Name x p) (Str.ofString "append") ap) [e] [] cp) env = (do
      let ov ← eval (.Name x p) env
      standAt ap.atName
      let (f, first) ← holding [ov] (getMethod ov (Str.ofString "append") pl)
      callWith cp f first (backTo cp (starEach [e] env)) [])) :
    Ex C us nw (.Expr (.Call (.Attribute (.Name x p) (Str.ofString "append") ap) [e] [] cp) pos :: rest) K := fun s hS => by
  obtain ⟨pl, hc⟩ := hc C.env
  obtain ⟨vs0, n0, hD⟩ := hD
  refine wpAny_execs_cons (wpAny_Expr ?_ (by show (cs.kind == .module && _) = false; rw [C.hk]; rfl) (hsw _))
  refine MethodCall_ (ho _ _ _ hS (fun v s' hv hS' => ?_) fun _ _ h => h) hc
  obtain rfl := Vl.val_is hv
  obtain ⟨l', hl'⟩ := id hS'
  refine kl_method (its := vs0) (n := n0) hl'.news (List.mem_append_left _ hD) PySem.slot_list_append PySem.type_list_append ?_
  refine PyProof.Rows.callWith_method1 (EvA.cons he (P := fun vs n1 => ∃ v, vs = [v] ∧ P v n1) (fun v n1 hv => EvA.nil ⟨v, rfl, hv⟩) hst _ _ _ _ hS' (fun ws n1 s'' hws hS'' => ?_) fun _ _ h => h) (hst _) rfl
  obtain ⟨v, rfl, hv⟩ := hws
  obtain ⟨vs, n, l, hm, hl1, hl2, hz, hx⟩ := hr v n1 hv
  obtain ⟨l'', hl''⟩ := id hS''
  obtain ⟨m, F, hm'⟩ := hS''.fr
  refine appendD (rest := l ++ l'') F hl''.news (List.mem_append_left _ hm) (fun q hq => (List.mem_append.mp hq).elim (fun h9 => List.mem_append_left _ (hl1 q h9)) fun h9 => List.mem_append_right _ h9) (fun q hq => (List.mem_append.mp hq).elim (hl2 q) fun h9 => Nat.ne_of_lt (hl''.above q h9 _ hm)) hz fun h' F' N' => ?_
  exact hx _ ⟨l'', hl''.pn, hS''.same, ⟨m, F', hm'⟩, N', fun q hq p hp => (List.mem_cons.mp hp).elim (fun e => by rw [e]; exact hl''.above q hq (D, W.listOf vs.toArray n) hm) fun h9 => hl''.above q hq p (hl1 p h9)⟩
theorem ExR.unpackR (i j : Nat) {x z fx : PySem.Str} {p q fp tp cp : Pos} {e : PySem.Expr} {es : List PySem.Expr} {k : Nat} {xs : List Vl} {f : Addr} {d' u' : Nat} {R' : Value → List (Addr × Obj) → Prop} {X' : Int → Prop} (ho1 : okLoc cs ns i x = true) (ho2 : okLoc cs ns j z = true) (ho : okGlob cs fx = true) (hv : nsIn (Mine.hd.heap_39 C.w.params) mainGlobals fx = some (some (.ref f))) (hk : keepIn (Mine.hd.heap_39 C.w.params) (.ref f) = true)
    (ha : EvL C us nw (e :: es) xs) (hc : ForA xs (fun vs => CtrR C.w f vs d' u' [] R' X')) (hd : d' ≤ d) (hu : u' ≤ u) (hx : ∀ sp, X' sp → XX sp)
    (hr : ∀ v n2, R' v n2 → ∃ (D : Addr) (v1 v2 : Value) (a b : Vl) (n3 : List (Addr × Obj)), v = .ref D ∧ (D, tupO [v1, v2]) ∈ n2 ∧ a.Is (some v1) ∧ b.Is (some v2) ∧ (∀ q ∈ n3, q ∈ n2) ∧ ((∀ q ∈ nw, ∀ p ∈ n3, q.1 < p.1) → ExR C ((us.set i a).set j b) (n3 ++ nw) rest K))
    (he : ∀ env, starEach (e :: es) env = (false, eval e env) :: starEach es env) (hpl : ∀ env, (backTo cp (starEach es env)).any (·.1) = false)
    (hcall : ∀ env, eval (.Call (.Name fx fp) (e :: es) [] cp) env = (do callWith cp (← eval (.Name fx fp) env) [] (backTo cp (starEach (e :: es) env)) (backToKw cp (keywordEach [] env))))
    (hs : ∀ env, swapsWithSole [.Tuple [.Name x p, .Name z q] k tp] (.Call (.Name fx fp) (e :: es) [] cp) pos.line env = pure false) (hw : ∀ env, swappedStores [.Tuple [.Name x p, .Name z q] k tp] (.Call (.Name fx fp) (e :: es) [] cp) env = pure none) :
    ExR C us nw (.Assign [.Tuple [.Name x p, .Name z q] k tp] (.Call (.Name fx fp) (e :: es) [] cp) pos :: rest) K := fun s hS => by
  refine wpR_execs_cons (wpR_Assign_Tuple (wpR_Call (Ev.glob ho hv _ _ _ hS (fun f' s₁ hf hS₁ => ?_) fun _ _ h => h) (hcall _)) (hs _) (hw _))
  obtain rfl := Vl.val_is hf
  refine wpR_callWith_K C.K hk (ha _ _ _ _ hS₁ (fun vs s₂ hvs hS₂ => ?_) fun _ _ h => h) (he _) (hpl _)
  obtain ⟨l₂, hl₂⟩ := id hS₂
  obtain ⟨m, F, hm⟩ := hS₂.fr
  refine ⟨C.K.keeps F.keep, ?_⟩
  refine (forA_of xs hc vs hvs).use C.B F C.K hl₂.news C.T C.hk (Nat.lt_of_le_of_lt (Nat.add_le_add_left hd _) C.hd) (Nat.lt_of_le_of_lt (Nat.add_le_add_left hu _) C.hu) (List.forall_mem_nil _) (fun x' sp h' tk g hsp Fg R => C.passed hl₂.pn Fg R hS₂.same (hx _ hsp)) fun v n2 h' tk hr9 F' N' hlt => ?_
  obtain ⟨D, v1, v2, a, b, n3, rfl, hmD, g1, g2, hn3, hx9⟩ := hr v n2 hr9
  refine unpackN_ F' N' (N'.isTup (List.mem_append_left _ hmD)) rfl rfl rfl fun h'' F'' N'' => ?_
  have hS2 : St C us (n3 ++ nw) { s₂ with heap := h'', toks := tk } := ⟨l₂, hl₂.pn, hS₂.same, ⟨m, F'', hm⟩, fun q hq => N'' q (by
    rw [List.append_assoc] at hq
    exact (List.mem_append.mp hq).elim (fun h9 => List.mem_append_left _ (hn3 q h9)) fun h9 => List.mem_append_right _ h9), fun q hq p' hp => (List.mem_append.mp hp).elim (fun h9 => hlt q (List.mem_append_right _ hq) p' (hn3 p' h9)) fun h9 => hl₂.above q hq p' h9⟩
  exact St.assign ho1 hS2 g1 fun s3 hS3 => St.assign ho2 hS3 g2 fun s4 hS4 => assignInOrder_nil (hx9 (fun q hq p' hp => hlt q (List.mem_append_left _ hq) p' (hn3 p' hp)) _ hS4)
end

end
section
example : True := by
  w_top off
  k_with_none
  (k_with "bx" => ((case ho => k_is); (case hcd => k_is); (case hb => exact rfl); (case hl => exact locs rfl); (case hu => k_extra "bx_hu"); (case c1 => exact rfl); (case c2 => exact rfl); (case c3 => exact rfl); (case c4 => decide)))
  (k_with "bx_hu" => (repeat (first | exact trivial | (refine And.intro ?_ ?_; first | exact trivial | exact rfl | exact Exists.intro _ rfl))))
  trivial
inductive RRows (o : Except Int (List Wd)) : Value → List (Addr × Obj) → Prop
  | mk (D : Addr) (its : List (Addr × Obj)) (wds : List Wd) (n : Nat) (h : o = .ok wds) (hw : WdsAre wds its) (hz : its.length ≤ 5000000) : RRows o (.ref D) ((D, W.listOf (its.reverse.map fun p => Value.ref p.1).toArray n) :: its)
theorem g_blanks (w : World) : nsIn (Mine.hd.heap_39 w.params) mainGlobals (Str.ofString "blanks_behind") = some (some (.ref 109)) := by k_is
theorem k_blanks (w : World) : keepIn (Mine.hd.heap_39 w.params) (.ref 109) = true := by k_is
theorem g_ends (w : World) : nsIn (Mine.hd.heap_39 w.params) mainGlobals (Str.ofString "ends_line") = some (some (.ref 193)) := by k_is
theorem k_ends (w : World) : keepIn (Mine.hd.heap_39 w.params) (.ref 193) = true := by k_is
theorem g_word (w : World) : nsIn (Mine.hd.heap_39 w.params) mainGlobals (Str.ofString "read_word") = some (some (.ref 186)) := by k_is
theorem k_word (w : World) : keepIn (Mine.hd.heap_39 w.params) (.ref 186) = true := by k_is
noncomputable abbrev rowL (D : Addr) (its : List (Addr × Obj)) (n : Nat) : List (Addr × Obj) := (D, W.listOf (its.reverse.map fun p => Value.ref p.1).toArray n) :: its
theorem rowL_cons (D x : Addr) (ob : Obj) (its : List (Addr × Obj)) (n : Nat) : (D, W.listOf ((its.reverse.map fun p : Addr × Obj => Value.ref p.1) ++ [Value.ref x]).toArray n) = (D, W.listOf (((x, ob) :: its).reverse.map fun p : Addr × Obj => Value.ref p.1).toArray n) := by simp
theorem rowsF_succ (T : PySem.Str) (n : Nat) (i : Int) (acc : List Wd) : rowsF T (n + 1) i acc = (match blanksF T (T.length + 1) i none with
  | .error sp => .error sp
  | .ok (j, br) =>
    if j = T.length then .ok (⟨Str.ofString "end", Str.ofString "", j, .none⟩ :: semi T j br acc)
    else match wordRead T j with
      | .error sp => .error sp
      | .ok (wd, k) => rowsF T n k (wd :: semi T j br acc)) := rfl
theorem rows_word {T : PySem.Str} {n : Nat} {i j : Int} {br : Option Int} {acc : List Wd} (h : blanksF T (T.length + 1) i none = .ok (j, br)) (hj : j ≠ T.length) : rowsF T (n + 1) i acc = match wordRead T j with
    | .error sp => .error sp
    | .ok (wd, k) => rowsF T n k (wd :: semi T j br acc) := by
  rw [rowsF_succ, h]
  exact if_neg hj
structure RowI (T : PySem.Str) (D : Addr) (c : Int × List (Addr × Obj) × Nat) : Prop where
  h0 : 0 ≤ c.1
  h1 : c.1 ≤ T.length
  hz : (c.2.1.length : Int) ≤ 3 * c.1
  hD : ∀ p ∈ c.2.1, D < p.1
  ex : ∃ n wds, WdsAre wds c.2.1 ∧ ((T.length : Int) - c.1).toNat < n ∧ rowsRead T = rowsF T n c.1 wds
theorem row_next {T : PySem.Str} {D y : Addr} {ob : Obj} {its its' : List (Addr × Obj)} {i j k : Int} {n n' : Nat} {br : Option Int} {wd : Wd} {wds : List Wd} (h0 : 0 ≤ i) (hj0 : i ≤ j) (hk : j < k ∧ k ≤ T.length) (hz : (its.length : Int) ≤ 3 * i) (hz' : its'.length ≤ its.length + 1) (hD : ∀ p ∈ its', D < p.1) (hy : D < y) (hw : IsWd wd ob) (hws : WdsAre (semi T j br wds) its')
    (hb : blanksF T (T.length + 1) i none = .ok (j, br)) (hr : wordRead T j = .ok (wd, k)) (hn : ((T.length : Int) - i).toNat < n) (hP : rowsRead T = rowsF T n i wds) : RowI T D (k, (y, ob) :: its', n') ∧ ((T.length : Int) - k).toNat < ((T.length : Int) - i).toNat := by
  have a := hk.1
  have b := hk.2
  refine ⟨⟨by show 0 ≤ k; omega, hk.2, ?_, ?_, ?_⟩, by omega⟩
  · show (((y, ob) :: its').length : Int) ≤ 3 * k
    rw [List.length_cons]; omega
  · intro q hq
    rcases List.mem_cons.mp hq with rfl | hq
    · exact hy
    · exact hD q hq
  · obtain ⟨n, rfl⟩ : ∃ n', n = n' + 1 := fuel_pos hn
    refine ⟨n, _, .cons hw hws, (fuel_lt hn (Int.lt_of_le_of_lt hj0 hk.1) hk.2).1, ?_⟩
    rw [hP, rows_word hb (by omega), hr]
theorem row_end {T : PySem.Str} {i : Int} {n : Nat} {br : Option Int} {wds : List Wd} (h1 : i ≤ T.length) (hb : blanksF T (T.length + 1) i none = .ok ((T.length : Int), br)) (hn : ((T.length : Int) - i).toNat < n) (hP : rowsRead T = rowsF T n i wds) : rowsRead T = .ok (⟨Str.ofString "end", Str.ofString "", T.length, .none⟩ :: semi T T.length br wds) := by
  obtain ⟨n, rfl⟩ : ∃ n', n = n' + 1 := fuel_pos hn
  rw [hP, rowsF_succ, hb]
  exact if_pos rfl
theorem row_err {T : PySem.Str} {i sp : Int} {n : Nat} {wds : List Wd} (hb : blanksF T (T.length + 1) i none = .error sp) (hn : ((T.length : Int) - i).toNat < n) (hP : rowsRead T = rowsF T n i wds) : rowsRead T = .error sp := by
  obtain ⟨n, rfl⟩ : ∃ n', n = n' + 1 := fuel_pos hn
  rw [hP, rowsF_succ, hb]
theorem row_err2 {T : PySem.Str} {i j sp : Int} {n : Nat} {br : Option Int} {wds : List Wd} (hb : blanksF T (T.length + 1) i none = .ok (j, br)) (hj : j ≠ T.length) (hr : wordRead T j = .error sp) (hn : ((T.length : Int) - i).toNat < n) (hP : rowsRead T = rowsF T n i wds) : rowsRead T = .error sp := by
  obtain ⟨n, rfl⟩ : ∃ n', n = n' + 1 := fuel_pos hn
  rw [hP, rows_word hb hj, hr]
noncomputable def hdEnds : List Wd → Bool
  | [] => false
  | wd :: _ => endsL wd
theorem wds_ne {wds : List Wd} {its : List (Addr × Obj)} (h : WdsAre wds its) : (its.reverse.map fun p : Addr × Obj => Value.ref p.1).isEmpty = wds.isEmpty := by
  cases h with
  | nil => rfl
  | cons _ _ => rw [List.isEmpty_map, List.isEmpty_reverse]; rfl
theorem brk_eq (T : PySem.Str) (k : Int) (br : Option Int) : brk T k br = if (k == (T.length : Int) && br.isNone) = true then some k else br := by
  unfold brk
  cases br with
  | none => by_cases h : k = T.length <;> simp [h]
  | some b => simp
theorem semi_end {T : PySem.Str} {k b : Int} {br : Option Int} {wds : List Wd} (h1 : (!(brk T k br).isNone && (!wds.isEmpty && hdEnds wds)) = true) (hb : brk T k br = some b) : semi T k br wds = ⟨Str.ofString "sign", Str.ofString ";", b, .none⟩ :: wds := by
  cases wds with
  | nil => rw [Bool.and_eq_true, Bool.and_eq_true] at h1; cases h1.2.1
  | cons wd wds => rw [Bool.and_eq_true, Bool.and_eq_true] at h1; exact semi_yes hb.symm h1.2.2
theorem semi_same {T : PySem.Str} {k : Int} {br : Option Int} {wds : List Wd} (h1 : (!(brk T k br).isNone && (!wds.isEmpty && hdEnds wds)) = false) : semi T k br wds = wds := by
  cases hb : brk T k br with
  | none => exact semi_none hb.symm
  | some b =>
    rw [hb] at h1
    cases wds with
    | nil => exact semi_nil
    | cons wd wds => exact semi_no hb.symm h1
set_option maxHeartbeats 2000000 in
theorem word_rows_c (w : World) (text : PySem.Str) (t1 : Tok) (hl : text.length ≤ 1048576) (hraw : ∀ i : Int, 0 ≤ i → i < text.length → (Txt.item text i == Str.ofString "`") = true → rawBad text i) :
    CtrR w 200 [.str text t1] 30 500 [] (RRows (rowsRead text)) (fun sp => rowsRead text = .error sp) := by
  refine' CtrR.of_body [Str.ofString "text", Str.ofString "found", Str.ofString "at", Str.ofString "broken", Str.ofString "word"] [.str text, .no, .no, .no, .no] ?ho ?hcd ?hb ?hl (by decide +kernel) (slots _ _ ?hu) ?c1 ?c2 ?c3 ?c4 ?_
  k_extra "bx"
  intro C _ _
  refine ExR.cons (Ex.swapA 1 2 rfl rfl (EvA.cons (EvG.listA (EvA.nil (P := fun vs n1 => vs = [] ∧ n1 = []) ⟨rfl, rfl⟩) (Nat.le_of_ble_eq_true rfl) (fun _ _ h => by rw [h.1]; rfl) (P := fun v n1 => ∃ D, v = .ref D ∧ n1 = rowL D [] 0) fun vs n1 D h => ⟨D, rfl, by rw [h.1, h.2]; rfl⟩) (P := fun vs n1 => ∃ D t, vs = [.ref D, .int 0 t] ∧ n1 = rowL D [] 0) (fun v n1 h => EvA.consV Ev.cint (fun v' hv' => EvA.nil ?_) fun _ => rfl) fun _ => rfl) (fun vs n1 h => ?_) (fun _ => rfl) fun _ _ _ _ _ => rfl)
  · obtain ⟨D, rfl, rfl⟩ := h
    obtain ⟨t, rfl⟩ := Vl.int_is hv'
    exact ⟨D, t, rfl, rfl⟩
  obtain ⟨D, t, rfl, rfl⟩ := h
  refine ⟨_, _, .val (.ref D), .int 0, rfl, rfl, ⟨_, rfl⟩, Ex.nil ?_⟩
  refine ExR.while_ (α := Int × List (Addr × Obj) × Nat) (RowI text D) (fun c => [.str text, .val (.ref D), .int c.1, .no, .no]) (fun c => rowL D c.2.1 c.2.2) (fun c => ((text.length : Int) - c.1).toNat) (fun _ => true) (0, [], 0) ⟨Int.le_refl _, Int.natCast_nonneg _, Int.le_refl _, (fun _ h => nomatch h), text.length + 1, [], .nil, by show ((text.length : Int) - 0).toNat < text.length + 1; omega, rfl⟩ (fun c _ => Tst.plain Ev.bool fun _ _ => rfl) (fun c hI _ => ?_) fun c _ h => nomatch h
  obtain ⟨i, its, cn⟩ := c
  obtain ⟨h0, h1, hz, hD, n, wds, hwds, hn, hP⟩ := hI
  dsimp only at h0 h1 hz hD hwds hn hP ⊢
  refine ExR.cons (Ex.unpack2 2 3 rfl rfl (EvG.call rfl (g_blanks _) (k_blanks _) (EvL.cons (Ev.loc 0 rfl rfl rfl) (EvL.cons (Ev.loc 2 rfl rfl rfl) EvL.nil fun _ => rfl) fun _ => rfl) (fun t1 t2 => blanks_behind_c _ _ _ t1 t2 h0 h1 hl) (by decide) (by decide) (fun sp h => row_err h hn hP) (fun _ => rfl) (fun _ => rfl) fun _ => rfl) (fun v n2 h => ?_) (fun _ => rfl) fun _ => rfl)
  obtain ⟨X, k, br, v1, v2, e1, e2, e3, e4, e5⟩ : ∃ (X : Addr) (k : Int) (br : Option Int) (v1 v2 : Value), v = .ref X ∧ n2 = [(X, tupO [v1, v2])] ∧ (Vl.int k).Is (some v1) ∧ (brS br).Is (some v2) ∧ blanksF text (text.length + 1) i none = .ok (k, br) := by
    cases h with
    | no x j t h => exact ⟨x, j, none, _, _, rfl, rfl, ⟨_, rfl⟩, rfl, h⟩
    | yes x j b t u h => exact ⟨x, j, some b, _, _, rfl, rfl, ⟨_, rfl⟩, ⟨_, rfl⟩, h⟩
  subst e1 e2
  refine ⟨X, v1, v2, .int k, brS br, rfl, .head _, e3, e4, Ex.nil ?_⟩
  obtain ⟨hk1, hk2⟩ := blanksF_bd _ _ _ _ _ h0 h1 e5
  refine ExR.iteJ (fun us' nw' => nw' = rowL D its cn ∧ Sub [.str text, .val (.ref D), .int k, brS (brk text k br), .no] us') (Tst.and2 (Tst.cm (Cm.eqI (Ev.loc 2 rfl rfl rfl) (Ev.len rfl (Ev.loc 0 rfl rfl rfl) hl (fun _ => rfl) fun _ => rfl))) fun _ => Tst.cm (Cm.isNoneO (Ev.loc 3 rfl rfl ?o1))) (fun c => ?_) (fun c => ExR.nil ⟨rfl, ?_⟩) ?_
  (case o1 => cases br <;> rfl)
  · refine ExR.cons (Ex.set 3 rfl (fun _ => rfl) (Ev.loc 2 rfl rfl rfl) (Ex.nil (ExR.nil ⟨rfl, ?_⟩)))
    rw [brk_eq, if_pos c]
    exact .eq (.eq (.eq (.eq (.no .nil))))
  · rw [brk_eq, if_neg (by rw [c]; exact Bool.false_ne_true)]
    exact .eq (.eq (.eq (.eq (.no .nil))))
  rintro us' nw' ⟨rfl, hsub⟩
  refine ExR.sub hsub ?_
  clear hsub
  refine ExR.iteJ (fun us' nw' => ∃ its' cn', nw' = rowL D its' cn' ∧ (∀ p ∈ its', D < p.1) ∧ its'.length ≤ its.length + 1 ∧ WdsAre (semi text k br wds) its' ∧ Sub [.str text, .val (.ref D), .int k, .no, .no] us') (b := !(brk text k br).isNone && (!wds.isEmpty && hdEnds wds)) ?tst (fun c => ?_) (fun c => ExR.nil ⟨its, cn, rfl, hD, Nat.le_succ _, by rw [semi_same c]; exact hwds, .eq (.eq (.eq (.no (.no .nil))))⟩) ?_
  (case tst =>
    have hb3 : ∀ b : Bool, b = (b && true) := fun b => (Bool.and_true b).symm
    rw [hb3 (hdEnds wds)]
    refine Tst.l (TstL.cA (Tst.cm (Cm.notNoneO (Ev.loc 3 rfl rfl ?o1))) fun _ => TstL.cA (Tst.eq (Tst.cm (Cm.neNil (Ev.loc 1 rfl rfl rfl) (.head _) (by decide))) (by rw [wds_ne hwds])) fun c => TstL.cA ?_ fun _ => TstL.nA)
    (case o1 => cases brk text k br <;> rfl)
    cases hwds with
    | nil => cases c
    | cons hw hws =>
      refine Tst.plain (EvG.call0 (EvG.callL rfl (g_ends _) (k_ends _) (EvL.cons (Ev.lastL (Ev.loc 1 rfl rfl rfl) (by rw [rowL_cons]; exact .head _)) EvL.nil fun _ => rfl) (led := [(_, _)]) (fun q hq => by rw [List.mem_singleton.mp hq]; exact .tail _ (.head _)) (ends_line_c _ _ _ _ hw) (by decide) (by decide) (fun _ h => h.elim) (fun _ => rfl) (fun _ => rfl) fun _ => rfl) RBool.ev) fun _ _ => rfl)
  · obtain ⟨b, hb⟩ : ∃ b, brk text k br = some b := by
      cases hb : brk text k br with
      | none => rw [hb] at c; cases c
      | some b => exact ⟨b, rfl⟩
    rw [hb]
    refine ExR.cons (Ex.append (Ev.loc 1 rfl rfl rfl) ⟨_, _, .head _⟩ (EvG.tup (EvL.cons Ev.cstr (EvL.cons Ev.cstr (EvL.cons (Ev.loc 3 rfl rfl rfl) (EvL.cons Ev.non EvL.nil fun _ => rfl) fun _ => rfl) fun _ => rfl) fun _ => rfl) (Nat.le_of_ble_eq_true rfl) (P := fun v n1 => ∃ X u1 u2 u3, v = .ref X ∧ (∀ p ∈ rowL D its cn, p.1 < X) ∧ n1 = (X, tupO [.str (Str.ofString "sign") u1, .str (Str.ofString ";") u2, .int b u3, .none]) :: rowL D its cn) fun X hX u1 u2 u3 => ⟨X, u1, u2, u3, rfl, hX, rfl⟩) (fun v n1 h => ?_) (fun _ => rfl) (fun _ => rfl) fun _ => ⟨_, rfl⟩)
    obtain ⟨X, u1, u2, u3, rfl, hX, rfl⟩ := h
    refine ⟨_, cn, (X, tupO [.str (Str.ofString "sign") u1, .str (Str.ofString ";") u2, .int b u3, .none]) :: its, .tail _ (.head _), (fun q hq => (List.mem_cons.mp hq).elim (fun e => e ▸ .head _) fun h => .tail _ (.tail _ h)), (fun q hq => (List.mem_cons.mp hq).elim (fun e => by rw [e]; exact Nat.ne_of_gt (hX _ (.head _))) fun h => Nat.ne_of_gt (hD q h)), by rw [List.length_map, List.length_reverse]; omega, Ex.nil (ExR.nil ⟨_, cn + 1, by rw [rowL_cons], ?_, Nat.le_refl _, ?_, .eq (.eq (.eq (.no (.no .nil))))⟩)⟩
    · intro p hp
      rcases List.mem_cons.mp hp with rfl | hp
      · exact hX _ (.head _)
      · exact hD p hp
    · rw [semi_end c hb]
      exact .cons (.mk _ _ _ _ _ _ _ _ .none) hwds
  rintro us' nw' ⟨its', cn', rfl, hD', hz', hws, hsub⟩
  refine ExR.sub hsub ?_
  clear hsub
  have hzz : (its'.reverse.map fun p : Addr × Obj => Value.ref p.1).length ≤ 16777216 := by rw [List.length_map, List.length_reverse]; omega
  refine ExR.iteJ (fun us' nw' => k ≠ text.length ∧ us' = [.str text, .val (.ref D), .int k, .no, .no] ∧ nw' = rowL D its' cn') (Tst.cm (Cm.eqI (Ev.loc 2 rfl rfl rfl) (Ev.len rfl (Ev.loc 0 rfl rfl rfl) hl (fun _ => rfl) fun _ => rfl))) (fun c => ?_) (fun c => ExR.nil ⟨fun e => (by rw [e, beq_self_eq_true] at c; cases c), rfl, rfl⟩) ?_
  · have hk : k = text.length := eq_of_beq c
    subst hk
    refine ExR.cons (Ex.append (Ev.loc 1 rfl rfl rfl) ⟨_, _, .head _⟩ (EvG.tup (EvL.cons Ev.cstr (EvL.cons Ev.cstr (EvL.cons (Ev.loc 2 rfl rfl rfl) (EvL.cons Ev.non EvL.nil fun _ => rfl) fun _ => rfl) fun _ => rfl) fun _ => rfl) (Nat.le_of_ble_eq_true rfl) (P := fun v n1 => ∃ X u1 u2 u3, v = .ref X ∧ (∀ p ∈ rowL D its' cn', p.1 < X) ∧ n1 = (X, tupO [.str (Str.ofString "end") u1, .str (Str.ofString "") u2, .int text.length u3, .none]) :: rowL D its' cn') fun X hX u1 u2 u3 => ⟨X, u1, u2, u3, rfl, hX, rfl⟩) (fun v n1 h => ?_) (fun _ => rfl) (fun _ => rfl) fun _ => ⟨_, rfl⟩)
    obtain ⟨X, u1, u2, u3, rfl, hX, rfl⟩ := h
    refine ⟨_, cn', (X, tupO [.str (Str.ofString "end") u1, .str (Str.ofString "") u2, .int text.length u3, .none]) :: its', .tail _ (.head _), (fun q hq => (List.mem_cons.mp hq).elim (fun e => e ▸ .head _) fun h => .tail _ (.tail _ h)), (fun q hq => (List.mem_cons.mp hq).elim (fun e => by rw [e]; exact Nat.ne_of_gt (hX _ (.head _))) fun h => Nat.ne_of_gt (hD' q h)), hzz, Ex.nil (Ex.r (Ex.ret (Ev.loc 1 rfl rfl rfl).g fun v nw' h => ?_))⟩
    obtain ⟨h, rfl⟩ := h
    obtain rfl := Vl.val_is h
    rw [rowL_cons]
    exact .mk D ((X, _) :: its') _ (cn' + 1) (row_end h1 e5 hn hP) (.cons (.mk _ _ _ _ _ _ _ _ .none) hws) (by rw [List.length_cons]; omega)
  rintro us' nw' ⟨hk, rfl, rfl⟩
  have hkl : k < text.length := by omega
  refine ExR.unpackR 4 2 rfl rfl rfl (g_word _) (k_word _) (EvL.cons (Ev.loc 0 rfl rfl rfl) (EvL.cons (Ev.loc 2 rfl rfl rfl) EvL.nil fun _ => rfl) fun _ => rfl) (fun t1 t2 => read_word_c _ _ _ t1 t2 (by omega) hkl hl (hraw _ (by omega) hkl)) (by decide) (by decide) (fun sp h => row_err2 e5 hk h hn hP) (fun v n2 h => ?_) (fun _ => rfl) (fun _ => rfl) (fun _ => rfl) (fun _ => rfl) fun _ => rfl
  obtain ⟨x, y, ob, wd, j, t, hr, hw, hxy⟩ := h
  refine ⟨x, _, _, .val (.ref y), .int j, [(y, ob)], rfl, .head _, rfl, ⟨t, rfl⟩, (fun q hq => by rw [List.mem_singleton.mp hq]; exact .tail _ (.head _)), fun hlt => ?_⟩
  have hDy : D < y := hlt _ (.head _) (y, ob) (.head _)
  obtain ⟨hI, hμ⟩ := row_next (n' := cn' + 1) h0 hk1 (wordRead_bd (by omega) hkl hr) hz hz' hD' hDy hw hws e5 hr hn hP
  refine ExR.cons (Ex.append (Ev.loc 1 rfl rfl rfl) ⟨_, _, .tail _ (.head _)⟩ (Ev.loc 4 rfl rfl rfl).g (fun v n1 h => ?_) (fun _ => rfl) (fun _ => rfl) fun _ => ⟨_, rfl⟩)
  obtain ⟨h, rfl⟩ := h
  obtain rfl := Vl.val_is h
  exact ⟨_, cn', (y, ob) :: its', .tail _ (.head _), (fun q hq => (List.mem_cons.mp hq).elim (fun e => e ▸ .head _) fun h => .tail _ (.tail _ h)), (fun q hq => (List.mem_cons.mp hq).elim (fun e => by rw [e]; exact Nat.ne_of_gt hDy) fun h => Nat.ne_of_gt (hD' q h)), hzz, Ex.nil (ExR.nil ⟨(j, (y, ob) :: its', cn' + 1), by rw [rowL_cons], hI, hμ, .eq (.eq (.eq (.no (.no .nil))))⟩)⟩

end
section
example : True := by
  w_top off
  k_with_none
  (k_with "my_enter" => (refine' code_def ?k1 ?k2 ?k3 ?k4 ?k5 ?kA ?kF ?kK ?k6 ?k7 ?k8 ?k9 ?kB ?_ ?c2 ?c3 ?c4 ?c5; (case kA => exact rfl); (case kF => exact rfl); (case kK => first | assumption | exact rfl); (case k1 => k_asm); (case k2 => k_asm); (case k3 => k_asm); (case k4 => k_asm); (case k5 => k_asm); (case k6 => k_is); (case k7 => k_is); (case k8 => k_extra "my_room"); (case k9 => first | exact BindsTo.of_eq rfl | exact binds_K (by k_in) rfl (by k_is) rfl rfl rfl); (case c5 => decide); (case kB => exact locs rfl); (case c2 => exact rfl); (case c3 => exact rfl); (case c4 => exact rfl); k_whole; intro g' L' h' FG' F' N' B' X' T'; (try dsimp only); (try k_fold)))
  (k_with "exec Raise some none" => (k_here; k_dflt (refine' Raise_fault ?k1 ?k2 ?_; (case k1 => k_asm); (case k2 => k_asm); k_whole)))
  (k_with "call ref" => (k_here; (with_reducible show wpAny _ _ (call (Value.ref 52) _) _ _ _); k_dflt (refine' fault ?k1 ?k2 ?k3 ?k4 ?k5 ?k6 ?k7 ?k8 ?_; (case k1 => k_asm); (case k2 => k_asm); (case k3 => k_asm); (case k4 => k_asm); (case k5 => k_asm); (case k6 => first | assumption | exact rfl); (case k7 => k_extra "my_room"); (case k8 => k_extra "my_room"); k_whole); intro h' e' tk' F' M'; (try k_sweep)))
  (k_with "FaultQ" => (refine ⟨_, _, _, _, rfl, by assumption, by assumption, ?_⟩))
  (k_with "leaving ref" => (k_here; first | (refine' leave_first ?k1 ?k2 ?k3 ?k4 ?_; (case k3 => assumption); (case k1 => assumption); (case k2 => assumption); (case k4 => exact rfl); k_whole; intro h' R') | (refine' leave_next ?k1 ?k2 ?k3 ?_; (case k3 => assumption); (case k1 => assumption); (case k2 => assumption); k_whole; intro h' R')))
  (k_with "my_args" => ((case kB => k_asm); (case kF => k_asm); (case kX => k_asm); (case kN => k_asm); (case kT => k_asm); (case kK => first | assumption | exact rfl); (case kd => k_extra "my_room"); (case ku => k_extra "my_room")))
  (k_with "my_room" => first | exact room9 (by with_reducible assumption) (by exact rfl) | exact room8 (by with_reducible assumption) (by exact rfl) | exact room7 (by with_reducible assumption) | ktr_room | ktr_units)
  trivial
example : True := by
  (k_with "my_enterR" => (refine' code_defR ?k1 ?k2 ?k3 ?k4 ?k5 ?kA ?kF ?kK ?k6 ?k7 ?k8 ?k9 ?kB ?_ ?c2 ?c3 ?c4 ?c5; (case kA => exact rfl); (case kF => exact rfl); (case kK => first | assumption | exact rfl); (case k1 => k_asm); (case k2 => k_asm); (case k3 => k_asm); (case k4 => k_asm); (case k5 => k_asm); (case k6 => k_is); (case k7 => k_is); (case k8 => k_extra "my_room"); (case k9 => first | exact BindsTo.of_eq rfl | exact binds_K (by k_in) rfl (by k_is) rfl rfl rfl); (case c5 => decide); (case kB => exact locs rfl); (case c2 => exact rfl); (case c3 => exact rfl); (case c4 => exact rfl); k_whole; intro g' L' h' FG' F' N' B' X' T' l1; (try dsimp only); (try k_fold)))
  (k_with "call ref" => (k_here; (with_reducible show wpAny _ _ (call (Value.ref 261) _) _ _ _); k_dflt (refine' call_cls ?k1 ?k2 ?k3 ?k4 ?k5 ?k6 ?_; (case k1 => k_asm); (case k2 => k_asm); (case k3 => k_asm); (case k4 => k_is); (case k5 => k_is); (case k6 => k_is); k_whole; intro x' d' h' F' N' l1 l2; (try k_lt l1); (try k_lt2 l2); (try k_sweep); k_extra "my_enter")))
  trivial
noncomputable abbrev wordsD (P : Params) (R : Addr) (k : Int) (a b c d e : Tok) : Obj := dictOf [⟨PyData.keyHash P (Str.ofString "rows"), .str (Str.ofString "rows") a, .ref R⟩, ⟨PyData.keyHash P (Str.ofString "at"), .str (Str.ofString "at") b, .int k c⟩,
  ⟨PyData.keyHash P (Str.ofString "expr_reader"), .str (Str.ofString "expr_reader") d, .none⟩, ⟨PyData.keyHash P (Str.ofString "body_reader"), .str (Str.ofString "body_reader") e, .none⟩] 4
noncomputable abbrev rowsV (its : List (Addr × Obj)) : List Value := List.map (fun p : Addr × Obj => Value.ref p.1) its.reverse
inductive RWords (P : Params) (o : Except Int (List Wd)) : Value → List (Addr × Obj) → Prop
  | mk (W d R : Addr) (its : List (Addr × Obj)) (wds : List Wd) (n : Nat) (a b c t e : Tok) (h : o = .ok wds) (hw : WdsAre wds its) (hz : its.length ≤ 5000000) (h1 : d < W) (h2 : W < R) (h3 : ∀ q ∈ its, q.1 < d) :
    RWords P o (.ref W) ((d, wordsD P R 0 a b c t e) :: (W, instObj 261 d) :: (R, PySem.W.listOf (rowsV its).toArray n) :: its)
theorem words_ret {P : Params} {h₀ h : Heap} {L W d R D : Addr} {vs : Array Value} {c : Nat} {o : Obj} {a b t e f : Tok} {its news : List (Addr × Obj)}
    (N : News h₀ L h ((R, PySem.W.listOf vs c) :: (W, instObj 261 d) :: (d, wordsD P R 0 a b t e f) :: (D, o) :: (its ++ news))) : News h₀ L h (((d, wordsD P R 0 a b t e f) :: (W, instObj 261 d) :: (R, PySem.W.listOf vs c) :: its) ++ news) := by
  refine news_sub N fun q hq => ?_
  rcases List.mem_cons.mp hq with rfl | hq
  · exact .tail _ (.tail _ (.head _))
  · rcases List.mem_cons.mp hq with rfl | hq
    · exact .tail _ (.head _)
    · rcases List.mem_cons.mp hq with rfl | hq
      · exact .head _
      · exact .tail _ (.tail _ (.tail _ (.tail _ hq)))
theorem allLt_out {d : Addr} : ∀ {l : List (Addr × Obj)}, AllLt d l → ∀ q ∈ l, q.1 < d
  | [], _, _, h => nomatch h
  | p :: r, h, q, hq => (List.mem_cons.mp hq).elim (fun e => e ▸ h.1) (allLt_out h.2 q)
theorem copyK {prog : Program} {w : World} {A : Around} {E : Value → Shared → Prop} {s : Shared} {h₀ : Heap} {L D : Addr} {m : PySem.Str → Option Value} {news : List (Addr × Obj)} {vs : List Value} {n : Nat} {Q : Value → Shared → Prop} (F : Fr h₀ L s.heap m) (N : News h₀ L s.heap news) (hm : (D, W.listOf vs.toArray n) ∈ news) (hz : vs.length ≤ 16777216)
    (h : ∀ R c h', Fr h₀ L h' m → News h₀ L h' ((R, W.listOf vs.toArray c) :: news) → (∀ q ∈ news, q.1 < R) → Q (.ref R) { s with heap := h' }) : wpAny (model prog w) A (call (.type "list") [.ref D]) Q E s :=
  list_copyK F N ⟨_, (N _ hm).1, rfl, _, rfl⟩ h (by rw [List.size_toArray, sizeLine_eq]; exact hz)
example : True := by
  (k_with "call type:list" => (k_here; (with_reducible show wpAny _ _ (call (Value.type _) [Value.ref _]) _ _ _); k_dflt (refine' copyK ?k1 ?k2 ?k3 ?z ?_; (case k1 => k_asm); (case k2 => k_asm); (case k3 => k_mem); (case z => (simp only [List.length_map, List.length_reverse]; omega)); k_whole); intro D' c' h' F' N' l1; (try k_lt l1); (try k_sweep)))
  trivial
theorem read_words_c (w : World) (text : PySem.Str) (t1 : Tok) (hl : text.length ≤ 1048576) (hraw : ∀ i : Int, 0 ≤ i → i < text.length → (Txt.item text i == Str.ofString "`") = true → rawBad text i) :
    CtrR w 207 [.str text t1] 40 600 [] (RWords w.params (rowsRead text)) (fun sp => rowsRead text = .error sp) := by
  intro p loose mean mg mb dp un gd cn cs a ccd cl outer A₀ base' h₀ L m news s Q E B F X N T hk hd hu hled hret hexc
  refine wpR_call ?_
  k_dflt k_extra "my_enterR"
  refine wpR_execs_cons (wpR_Return (wpR_Call ?_ (by rfl)))
  k_steps
  refine wpR_callWith_K1 (by k_asm) (by k_is) (wpR_Call ?_ (by rfl)) (by rfl)
  k_steps
  refine wpR_callWith_K (by k_asm) (by k_is) ?_ (by rfl) (by rfl)
  k_steps
  refine' CtrR.use (word_rows_c _ _ _ hl hraw) ?kB ?kF ?kX ?kN ?kT ?kK ?kd ?ku ?kL ?_ ?_
  k_extra "my_args"
  (case kL => exact fun _ h => nomatch h)
  · intro e' sp' h' tk' g' hX' FG' R'
    (try k_fold)
    k_steps
    exact hexc _ _ _ _ _ hX' (by assumption) (by first | assumption | exact .weaken (by assumption) (by kcf_all))
  · intro v' nw' h' tk' hR' F' N' l1'
    (try k_fold)
    obtain ⟨D', its', wds', n', hr', hw', hz'⟩ := hR'
    (try simp only [List.nil_append, List.cons_append] at N')
    refine ⟨by k_in, ?_⟩
    k_steps
    (with_reducible rename _ < _ ∧ _ < _ ∧ _ < _ ∧ AllLt _ _ => lR)
    (with_reducible rename _ < _ ∧ AllLt _ _ => ld)
    (with_reducible rename _ < _ => lW)
    have ldA := allLt_out ld.2
    refine hret _ _ _ _ (.mk _ _ _ its' wds' _ _ _ _ _ _ hr' hw' hz' lW lR.1 (fun q hq => ldA q (List.mem_append.mpr (.inl hq)))) (by assumption) (words_ret (by assumption)) ?_
    intro q hq r hr
    have h1 := ldA q (List.mem_append.mpr (.inr hq))
    rcases List.mem_cons.mp hr with rfl | hr
    · exact h1
    · rcases List.mem_cons.mp hr with rfl | hr
      · exact Nat.lt_trans h1 lW
      · rcases List.mem_cons.mp hr with rfl | hr
        · exact Nat.lt_trans h1 (Nat.lt_trans lW lR.1)
        · exact l1' q hq r (.tail _ hr)

end
section
namespace F
theorem bga_kind : builtinKind "BaseException.__getattribute__" = some .slot := by decide +kernel
theorem bga_split : splitId "BaseException.__getattribute__" = some ("BaseException", "__getattribute__") := by decide +kernel
theorem bga_plain : plainId "BaseException.__getattribute__" = true := by decide +kernel
theorem bga_entry : entryFor table "BaseException.__getattribute__" = some Builtin.«object.__getattribute__» := entryFor_alias (id' := "object.__getattribute__") (by kernel_rfl) (by decide +kernel) (by decide +kernel) (by kernel_rfl)
theorem bga_args (a b : Value) : argsOk "BaseException.__getattribute__" ⟨[a, b], []⟩ := by unfold argsOk; kernel_rfl
end F
section
variable {prog : Program} {w : World} {A : Around} {E : Value → Shared → Prop} {s : Shared} {K : Frag} {x : Addr} {ox : Obj} {od : Option Obj} {name : Str} {expr : Bool} {Q : Value → Shared → Prop}
theorem get_exc {v : Value} (X : K.In s.heap) (I : W.InstAt s.heap x ox 52 od) (hga : findIn K (.ref 52) "__getattribute__" = some (some (.builtin "BaseException.__getattribute__"))) (hk : findIn K (.ref 52) "__getattr__" = some none)
    (hm : mroIn K 52 (.type "BaseException") = some true) (hf : findObj K 52 od name = some (.value v)) (hh : handedIn v = true) (h : Q v { s with toks := s.toks + 1 }) : wpAny (model prog w) A (getAttr (.ref x) name expr) Q E s := by
  obtain ⟨hh', g, d, t, os⟩ := s
  have L0 := I.type (M := model prog w)
  have L1 := looks_findIn (M := model prog w) X hga
  have L2 := looks_findIn (M := model prog w) X hk
  have L3 := looks_find (M := model prog w) X I hf
  unfold getAttr getAttrBy
  refine wpAny_bind (wpAny_mkText (wpAny_holding (wpAny_bind (L0.at (wpAny_bind (L1.at ?_))))))
  dsimp only
  rw [if_neg (by decide)]
  unfold getAttrByItsOwn hookBefore
  refine wpAny_bind ?_
  show wpAny _ _ (typeLookup (.ref 52) "__getattr__") _ _ _
  refine L2.at ?_
  refine wpAny_bind (wpAny_attempt (wpAny_holding ?_))
  unfold callGetattribute
  rw [if_neg (by cases expr <;> decide)]
  unfold boundAndCalled
  refine wpAny_bind (wpAny_of_eq (PySem.F.attr_Exception.ga.bind _) ?_)
  dsimp only
  have sub : Looks (model prog w) hh' (isInstance (.ref x) (.type "BaseException")) true := I.type.andThen (looks_mroIn X hm)
  refine wpAny_call ?_
  refine codeAny_call_builtin F.bga_plain F.bga_entry ?_
  rw [show ([Value.ref x] ++ [Value.str name t]) = [Value.ref x, Value.str name t] from rfl]
  have sub' : Looks (model prog w) (Shared.mk hh' g d (t+1) os).heap (isInstance (.ref x) (.type "BaseException")) true := sub
  refine wpAny_mono (Q := fun _ s₁ => s₁ = Shared.mk hh' g d (t+1) os) (E := fun _ _ => False) ?_ ?_ ?_
  · refine check_slot (s := Shared.mk hh' g d (t+1) os) (owner := "BaseException") (n := "__getattribute__") (self := .ref x) (rest := [.str name t]) (kw := []) ?_ ?_ ?_ ?_ ?_
    · exact F.bga_kind
    · exact F.bga_split
    · exact sub'
    · exact F.bga_args _ _
    · exact rfl
  · intro _ s₁ h₁
    subst h₁
    unfold Builtin.«object.__getattribute__»
    refine wpAny_bind (wpAny_of_eq (a := (Value.ref x, [Value.str name t])) (Eq.refl _) ?_)
    dsimp only
    refine wpAny_bind (wpAny_of_eq (a := name) (Eq.refl _) ?_)
    refine wpAny_bind (L0.at ?_)
    refine wpAny_bind (L3.at ?_)
    dsimp only
    refine wpAny_pure ?_
    dsimp only
    rw [handedOut_of hh]
    exact wpAny_pure h
  · exact fun _ _ h => h.elim
end

end
section
example : True := by
  w_top off
  k_with_none
  (k_with "exec Raise some none" => (k_here; k_dflt (refine' Raise_fault ?k1 ?k2 ?_; (case k1 => k_asm); (case k2 => k_asm); k_whole)))
  (k_with "call ref" => (k_here; (with_reducible show wpAny _ _ (call (Value.ref 52) _) _ _ _); k_dflt (refine' fault ?k1 ?k2 ?k3 ?k4 ?k5 ?k6 ?k7 ?k8 ?_; (case k1 => k_asm); (case k2 => k_asm); (case k3 => k_asm); (case k4 => k_asm); (case k5 => k_asm); (case k6 => first | assumption | exact rfl); (case k7 => k_extra "my_room"); (case k8 => k_extra "my_room"); k_whole); intro h' e' tk' F' M'; (try k_sweep)))
  (k_with "FaultQ" => (refine ⟨_, _, _, _, rfl, by assumption, by assumption, ?_⟩))
  (k_with "leaving ref" => (k_here; first | (refine' leave_first ?k1 ?k2 ?k3 ?k4 ?_; (case k3 => assumption); (case k1 => assumption); (case k2 => assumption); (case k4 => exact rfl); k_whole; intro h' R') | (refine' leave_next ?k1 ?k2 ?k3 ?_; (case k3 => assumption); (case k1 => assumption); (case k2 => assumption); k_whole; intro h' R')))
  (k_with "my_args" => ((case kB => k_asm); (case kF => k_asm); (case kX => k_asm); (case kN => k_asm); (case kT => k_asm); (case kK => first | assumption | exact rfl); (case kd => k_extra "my_room"); (case ku => k_extra "my_room")))
  (k_with "my_room" => first | exact room9 (by with_reducible assumption) (by exact rfl) | exact room8 (by with_reducible assumption) (by exact rfl) | exact room7 (by with_reducible assumption) | ktr_room | ktr_units)
  trivial
example : True := by
  (k_with "my_enterT" => (refine' code_defT ?k1 ?k2 ?k3 ?k4 ?k5 ?kXB ?kTB ?kD ?kT0 ?kA ?kF ?kK ?k6 ?k7 ?k8 ?k9 ?kB ?_ ?c2 ?c3 ?c4 ?c5; (case kA => exact rfl); (case kF => exact rfl); (case kK => first | assumption | exact rfl); (case k1 => k_asm); (case k2 => k_asm); (case k3 => k_asm); (case k4 => k_asm); (case k5 => k_asm); (case kXB => assumption); (case kTB => assumption); (case kD => assumption); (case kT0 => first | assumption | exact KtsTurn.refl); (case k6 => k_is); (case k7 => k_is); (case k8 => k_extra "my_room"); (case k9 => first | exact BindsTo.of_eq rfl | exact binds_K (by k_in) rfl (by k_is) rfl rfl rfl); (case c5 => decide); (case kB => exact locs rfl); (case c2 => exact rfl); (case c3 => exact rfl); (case c4 => exact rfl); k_whole; intro g' L' h' FG' F' N' B' X' T' D' l1; (try dsimp only); (try k_fold)))
  trivial
theorem wpR_Expr {M : Model} {A : Around} {E : Value → Shared → Prop} {s : Shared} {env : Env} {e : Expr} {pos : Pos} {Q : Flow → Shared → Prop} (h : wpR M A (eval e env) (fun v s₁ => wpAny M A (dropValue e pos v) Q E s₁) E s) (hi : interactive env = false) (hs : swapsWith e none pos.line env = pure false) :
    wpR M A (exec (.Expr e pos) env) Q E s := by
  rw [exec_Expr env e pos hi hs]
  exact wpR_bindA (wpAny_standAt (wpR_bind (wpR_mono h (fun v s₁ h₁ => wpR_of h₁) fun _ _ x => x)))
example : True := by
  (k_with "my_nil" => (repeat' (first | (with_reducible refine Hold.mk ?_) | (with_reducible refine wpR_execs_nil ?_) | (dsimp only [KswPost, ThenR]))))
  (k_with "getAttr ref" => (k_here; k_dflt (refine' get_own ?k1 ?k2 ?k3 ?k4 ?k5 ?k6 ?k7 ?k8 ?k9 ?_; (case k1 => k_asm); (case k2 => k_asm); (case k3 => assumption); (case k4 => k_is); (case k5 => k_is); (case k6 => k_is); (case k7 => k_is); (case k8 => assumption); (case k9 => k_handed); k_whole)))
  trivial
inductive RFault (o : Except Int (List Wd)) : Value → List (Addr × Obj) → Prop
  | none (wds : List Wd) (h : o = .ok wds) : RFault o .none []
  | some (sp : Int) (t : Tok) (h : o = .error sp) : RFault o (.int sp t) []
theorem law_fault_c (w : World) (text : PySem.Str) (t1 : Tok) (hl : text.length ≤ 1048576) (hraw : ∀ i : Int, 0 ≤ i → i < text.length → (Txt.item text i == Str.ofString "`") = true → rawBad text i) :
    CtrT w 321 [.str text t1] 50 700 [] (RFault (rowsRead text)) := by
  intro p loose mean mg mb dp un gd cn cs a ccd cl outer A₀ base' h₀ g₀ L m news s Q E B F X XB N T TB D T0 hk hd hu hled hret
  refine wpR_call ?_
  k_dflt k_extra "my_enterT"
  refine wpR_execs_cons (wpR_Try (wpR_execs_cons (wpR_Expr (wpR_Call ?_ (by rfl)) (by rfl) (by rfl))))
  k_steps
  refine wpR_callWith_K (by k_asm) (by k_is) ?_ (by rfl) (by rfl)
  k_steps
  refine' CtrR.use (read_words_c _ _ _ hl hraw) ?kB ?kF ?kX ?kN ?kT ?kK ?kd ?ku ?kL ?_ ?_
  k_extra "my_args"
  (case kL => exact fun _ h => nomatch h)
  · intro e' sp' h' tk' g' hX' FG' R'
    refine caught_exc (R := R') (F := by assumption) (K := by assumption) (XB := by assumption) (TB := by assumption) (D := by assumption) (T0 := KtsTurn.refl) (ex := by k_is) (q := by kts_isx) ?_ (by rfl) (by rfl) (by rfl) (by decide)
    intro h9 g9 tk9 oe d9 es9 n9 t9 T9 F9 N9 hoc hod hof hsp B9 X9 TT9 D9
    have hI : W.InstAt h9 e' oe 52 (some (dictOf es9 n9)) := ⟨(N9 _ (.head _)).1, hoc, by obtain ⟨vs, hv⟩ := hof; unfold notCls; rw [hv], by rw [hod]; exact (N9 _ (.tail _ (.head _))).1⟩
    k_steps
    have z1 : findIn (Mine.hd.heap_39 w.params) (.ref 52) (Str.ofString "__getattribute__") = some (some (.builtin "BaseException.__getattribute__")) := by k_is
    have z2 : hasDictIn (Mine.hd.heap_39 w.params) 52 = true := by k_is
    have z3 : findIn (Mine.hd.heap_39 w.params) (.ref 52) (Str.ofString "spot") = some none := by k_is
    have z4 : findIn (Mine.hd.heap_39 w.params) (.ref 52) (Str.ofString "__getattr__") = some none := by k_is
    have z5 : mroIn (Mine.hd.heap_39 w.params) 52 (.type "BaseException") = some true := by k_is
    have z6 : findObj (Mine.hd.heap_39 w.params) 52 (some (dictOf es9 n9)) (Str.ofString "spot") = some (.value (.int sp' t9)) := findObj_own z2 z3 rfl hsp
    refine get_exc (X9.keeps F9.keep) hI z1 z4 z5 z6 rfl ?_
    k_steps
    refine ⟨_, _, _, _, T9, by assumption, by assumption, fun h₁ T₁ F₁ N₁ B₁ X₁ TT₁ D₁ => hret _ [] _ _ h₁ (.some _ _ hX') T₁ F₁ (news_sub (l' := [] ++ news) N₁ (fun q hq => List.Mem.tail _ (List.Mem.tail _ hq))) (fun _ _ _ h => nomatch h) B₁ X₁ TT₁ D₁⟩
  · intro v' nw' h' tk' hR' F' N' l1'
    obtain ⟨W', d', R', its', wds', n', a', b', c', t', e', hr', hw', hz', q1', q2', q3'⟩ := hR'
    (try simp only [List.nil_append, List.cons_append] at N')
    refine wpAny_dropValue ?_
    k_extra "my_nil"
    refine wpAny_execs_nil ?_
    dsimp only
    refine wpR_of ?_
    k_steps
    dsimp only
    refine ⟨_, _, _, _, KtsTurn.refl, by assumption, by assumption, fun h₁ T₁ F₁ N₁ B₁ X₁ TT₁ D₁ => hret _ [] _ _ h₁ (.none _ hr') T₁ F₁ (news_sub (l' := [] ++ news) N₁ (fun q hq => List.Mem.tail _ (List.Mem.tail _ (List.Mem.tail _ (List.mem_append.mpr (.inr hq)))))) (fun _ _ _ h => nomatch h) B₁ X₁ TT₁ D₁⟩

end
section
example : True := by
  w_top off
  k_with_none
  (k_with "my_enter" => (refine' code_def ?k1 ?k2 ?k3 ?k4 ?k5 ?kA ?kF ?kK ?k6 ?k7 ?k8 ?k9 ?kB ?_ ?c2 ?c3 ?c4 ?c5; (case kA => exact rfl); (case kF => exact rfl); (case kK => first | assumption | exact rfl); (case k1 => k_asm); (case k2 => k_asm); (case k3 => k_asm); (case k4 => k_asm); (case k5 => k_asm); (case k6 => k_is); (case k7 => k_is); (case k8 => k_extra "my_room"); (case k9 => first | exact BindsTo.of_eq rfl | exact binds_K (by k_in) rfl (by k_is) rfl rfl rfl); (case c5 => decide); (case kB => exact locs rfl); (case c2 => exact rfl); (case c3 => exact rfl); (case c4 => exact rfl); k_whole; intro g' L' h' FG' F' N' B' X' T'; (try dsimp only); (try k_fold)))
  (k_with "exec Raise some none" => (k_here; k_dflt (refine' Raise_fault ?k1 ?k2 ?_; (case k1 => k_asm); (case k2 => k_asm); k_whole)))
  (k_with "call ref" => (k_here; (with_reducible show wpAny _ _ (call (Value.ref 52) _) _ _ _); k_dflt (refine' fault ?k1 ?k2 ?k3 ?k4 ?k5 ?k6 ?k7 ?k8 ?_; (case k1 => k_asm); (case k2 => k_asm); (case k3 => k_asm); (case k4 => k_asm); (case k5 => k_asm); (case k6 => first | assumption | exact rfl); (case k7 => k_extra "my_room"); (case k8 => k_extra "my_room"); k_whole); intro h' e' tk' F' M'; (try k_sweep)))
  (k_with "FaultQ" => (refine ⟨_, _, _, _, rfl, by assumption, by assumption, ?_⟩))
  (k_with "leaving ref" => (k_here; first | (refine' leave_first ?k1 ?k2 ?k3 ?k4 ?_; (case k3 => assumption); (case k1 => assumption); (case k2 => assumption); (case k4 => exact rfl); k_whole; intro h' R') | (refine' leave_next ?k1 ?k2 ?k3 ?_; (case k3 => assumption); (case k1 => assumption); (case k2 => assumption); k_whole; intro h' R')))
  (k_with "my_room" => first | exact room9 (by with_reducible assumption) (by exact rfl) | exact room8 (by with_reducible assumption) (by exact rfl) | exact room7 (by with_reducible assumption) | ktr_room | ktr_units)
  trivial
theorem gen_QE {M : Model} {A : Around} {α : Type} {t : Sem α} {Q : α → Shared → Prop} {E : Value → Shared → Prop} {s : Shared} (h : ∀ (Q' : α → Shared → Prop) (E' : Value → Shared → Prop), (∀ a s, Q a s → Q' a s) → (∀ e s, E e s → E' e s) → wpAny M A t Q' E' s) : wpAny M A t Q E s := h Q E (fun _ _ h => h) fun _ _ h => h
theorem gen_QER {M : Model} {A : Around} {α : Type} {t : Sem α} {Q : α → Shared → Prop} {E : Value → Shared → Prop} {s : Shared} (h : ∀ (Q' : α → Shared → Prop) (E' : Value → Shared → Prop), (∀ a s, Q a s → Q' a s) → (∀ e s, E e s → E' e s) → wpR M A t Q' E' s) : wpR M A t Q E s := h Q E (fun _ _ h => h) fun _ _ h => h
theorem UpdF.mem {d : Addr} {o : Obj} {l : List (Addr × Obj)} {g : Obj → List (Addr × Obj)} (U : UpdF d o l g) : (d, o) ∈ l := by
  induction U with
  | head h => exact .head _
  | tail h r ih => exact .tail _ ih
theorem UpdF.again {d : Addr} {o o' : Obj} {l : List (Addr × Obj)} {g : Obj → List (Addr × Obj)} (U : UpdF d o l g) : UpdF d o' (g o') g := by
  induction U with
  | head h => exact .head h
  | tail h r ih => exact .tail h ih
theorem UpdF.toUpd {d : Addr} {o o' : Obj} {l : List (Addr × Obj)} {g : Obj → List (Addr × Obj)} (U : UpdF d o l g) : Upd d o o' l (g o') := by
  induction U with
  | head h => exact .head h
  | tail h r ih => exact .tail h ih
theorem UpdF.addr {d : Addr} {o o' : Obj} {l : List (Addr × Obj)} {g : Obj → List (Addr × Obj)} (U : UpdF d o l g) : ∀ q ∈ g o', ∃ p ∈ l, p.1 = q.1 := by
  induction U with
  | head h =>
    intro q hq
    rcases List.mem_cons.mp hq with rfl | hq
    · exact ⟨_, .head _, rfl⟩
    · exact ⟨q, .tail _ hq, rfl⟩
  | tail h r ih =>
    intro q hq
    rcases List.mem_cons.mp hq with rfl | hq
    · exact ⟨_, .head _, rfl⟩
    · obtain ⟨p, a, b⟩ := ih q hq
      exact ⟨p, .tail _ a, b⟩
theorem setU {prog : Program} {w : World} {A : Around} {E : Value → Shared → Prop} {s : Shared} {h₀ : Heap} {L D : Addr} {m : Str → Option Value} {news : List (Addr × Obj)} {upd : Obj → List (Addr × Obj)} {its : Array Value} {n : Nat} {k : Int} {t : Tok} {v : Value} {q : List Value} {Q : Unit → Shared → Prop} (F : Fr h₀ L s.heap m) (N : News h₀ L s.heap ((D, W.listOf its n) :: news)) (U : UpdF D (W.listOf its n) news upd) (h0 : 0 ≤ k) (hfit : k < 2 ^ 63) (e : ki_setL its.toList k.toNat v = some q)
    (h : ∀ h', Fr h₀ L h' m → News h₀ L h' ((D, W.listOf q.toArray n) :: upd (W.listOf q.toArray n)) → UpdF D (W.listOf q.toArray n) (upd (W.listOf q.toArray n)) upd → Q () { s with heap := h' }) : wpAny (model prog w) A (setItem (.ref D) (.int k t) v) Q E s :=
  ki_set F (fun p hp => N p (.tail _ hp)) h0 hfit e (UpdF.toUpd U) fun h' F' N' => h h' F' (fun p hp => (List.mem_cons.mp hp).elim (fun e => e ▸ N' _ (UpdF.mem (UpdF.again U))) (N' p)) (UpdF.again U)
theorem news_tl {h₀ h : Heap} {L : Addr} {p : Addr × Obj} {l : List (Addr × Obj)} (N : News h₀ L h (p :: l)) : News h₀ L h l := fun q hq => N q (.tail _ hq)
theorem fmod0 (a : Int) {b : Int} (h : 0 < b) : 0 ≤ a.fmod b := by
  rw [Int.fmod_eq_emod_of_nonneg _ (Int.le_of_lt h)]
  exact Int.emod_nonneg _ (Int.ne_of_gt h)
noncomputable def CtrS (w : World) (f : Addr) (vs : List Value) (d u : Nat) (S : Addr) (o : Obj) (led : List (Addr × Obj)) (R : Value → List (Addr × Obj) → Obj → Prop) : Prop :=
  ∀ (p : Program) (loose : List Str) (mean : ExcName → Option Value) (mg mb : Str → Option Value) (dp un : Nat) (gd : Option (List Code)) (cn : Str) (cs : Scope) (a : Addr) (ccd : Value) (cl : List (Str × Addr))
    (outer : List Env) (A₀ : Around) (base h₀ : Heap) (L : Addr) (m : Str → Option Value) (news : List (Addr × Obj)) (upd : Obj → List (Addr × Obj)) (s : Shared) (Q E : Value → Shared → Prop),
    Below A₀ base outer h₀ → Fr h₀ L s.heap m → (Mine.hd.heap_39 w.params).In h₀ → News h₀ L s.heap news → Top p loose mean mg mb h₀ → cs.kind = .function → dp + d < recursionLimit → un + u < cLine →
    UpdF S o news upd → (∀ q ∈ led, q ∈ news ∧ q.1 ≠ S) →
    (∀ v nw o' h' tk, R v nw o' → Fr h₀ L h' m → News h₀ L h' (nw ++ upd o') → (∀ q ∈ news, ∀ p ∈ nw, q.1 < p.1) → Q v { s with heap := h', toks := tk }) →
    wpAny (model PySem.Challenge.pw_pf0076_01 w) (ktrTop dp un gd cn cs L a ccd cl outer) (call (.ref f) vs) Q E s
example : True := by
  (k_with "setItem ref int" => (k_here; (with_reducible show wpAny _ _ (PySem.setItem (Value.ref _) (Value.int _ _) (Value.int _ _)) _ _ _); k_dflt (refine' setU ?F ?N ?U ?a ?b ?e ?_; (case F => k_asm); (case N => k_asm); (case U => with_reducible assumption); (case a => decide); (case b => decide); (case e => rfl)); intro h' F' N' U'; (try dsimp only [List.nil_append, List.cons_append] at N' U'); (try k_sweep)))
  trivial
inductive RTake (top : Int) : Value → List (Addr × Obj) → Obj → Prop
  | mk (k : Int) (t : Tok) (a b : Int) (t1 t2 : Tok) (n : Nat) (h0 : 0 ≤ k) (h1 : k < top) (ha : 0 ≤ a) (hb : 0 ≤ b) : RTake top (.int k t) [] (W.listOf #[.int a t1, .int b t2] n)
theorem law_take_c (w : World) (S : Addr) (a b top : Int) (t1 t2 tt : Tok) (n : Nat) (ha : 0 ≤ a) (hb : 0 ≤ b) (ht : 0 < top) (hT : top < 1073741824) : CtrS w 279 [.ref S, .int top tt] 1 30 S (W.listOf #[.int a t1, .int b t2] n) [] (RTake top) := by
  intro p loose mean mg mb dp un gd cn cs a' ccd cl outer A₀ base' h₀ L m news upd s Q E B F X N0 T hk hd hu U hled hret
  have N : News h₀ L s.heap ((S, W.listOf #[.int a t1, .int b t2] n) :: news) := fun q hq => (List.mem_cons.mp hq).elim (fun e => e ▸ N0 _ (UpdF.mem U)) (N0 q)
  clear N0
  refine wpAny_call ?_
  k_dflt k_extra "my_enter"
  refine gen_QE ?_
  intro Q9 E9 hq9 he9
  k_steps
  · refine hq9 _ _ ?_
    k_steps
    exact hret _ [] _ _ _ (.mk _ _ _ _ _ _ _ (fmod0 _ ht) (Int.fmod_lt_of_pos _ ht) (Int.fdiv_nonneg ha (Int.le_of_lt ht)) hb) (by assumption) (news_tl (by assumption)) (fun _ _ _ h => nomatch h)
  · have y0 : 0 ≤ [a, ([a, b].getD (Int.toNat 1) 0 * 39373 + 7).fmod 2147483647].getD (Int.toNat 1) 0 := fmod0 _ (by decide)
    have y1 : [a, ([a, b].getD (Int.toNat 1) 0 * 39373 + 7).fmod 2147483647].getD (Int.toNat 1) 0 < 2147483647 := Int.fmod_lt_of_pos _ (by decide)
    have y2 : 0 ≤ (b * 39373 + 7).fmod 2147483647 := fmod0 _ (by decide)
    with_reducible refine mul_int ?_
    k_steps
    refine hq9 _ _ ?_
    k_steps
    exact hret _ [] _ _ _ (.mk _ _ _ _ _ _ _ (fmod0 _ ht) (Int.fmod_lt_of_pos _ ht) ha y2) (by assumption) (news_tl (by assumption)) (fun _ _ _ h => nomatch h)

end
section
example : True := by
  w_top off
  k_with_none
  (k_with "bx" => ((case ho => k_is); (case hcd => k_is); (case hb => exact rfl); (case hl => exact locs rfl); (case hu => k_extra "bx_hu"); (case c1 => exact rfl); (case c2 => exact rfl); (case c3 => exact rfl); (case c4 => decide)))
  (k_with "bx_hu" => (repeat (first | exact trivial | (refine And.intro ?_ ?_; first | exact trivial | exact rfl | exact Exists.intro _ rfl))))
  trivial
noncomputable def hexS : PySem.Str := Str.ofString "0123456789abcdef"
noncomputable def figA (base : Int) : Nat → Int → PySem.Str × Int
  | 0, i => (Str.ofString "", i)
  | k + 1, i => (Txt.item hexS ((figA base k i).2.fmod base) ++ (figA base k i).1, (figA base k i).2.fdiv base)
inductive RFigs (base many i : Int) : Value → List (Addr × Obj) → Prop
  | mk (f : PySem.Str) (t : Tok) (hf : f = (figA base many.toNat i).1) (hl : f.length = many.toNat) : RFigs base many i (.str f t) []
theorem fig_step {base i : Int} {k : Nat} (h : 0 < base) : figA base (k + 1) i = (Txt.item hexS ((figA base k i).2 % base) ++ (figA base k i).1, (figA base k i).2 / base) := by
  show (Txt.item hexS ((figA base k i).2.fmod base) ++ (figA base k i).1, (figA base k i).2.fdiv base) = _
  rw [Int.fmod_eq_emod_of_nonneg _ (Int.le_of_lt h), Int.fdiv_eq_ediv_of_nonneg _ (Int.le_of_lt h)]
theorem app_list (a b : PySem.Str) : (a ++ b).cps.toList = a.cps.toList ++ b.cps.toList := by rw [PySem.Str.cps_append, Array.toList_append]
theorem fig_one {d : Int} (h0 : 0 ≤ d) (h1 : d < 16) (x : PySem.Str) : (Txt.item hexS d ++ x).length = x.length + 1 := by
  have h := congrArg List.length (app_list (Txt.item hexS d) x)
  rw [List.length_append, ← len_eq, ← len_eq, ← len_eq] at h
  have key : ∀ d : _root_.Fin 16, (Txt.item hexS (d.val : Int)).length = 1 := by decide +kernel
  have := key ⟨d.toNat, by omega⟩
  simp only at this
  rw [Int.toNat_of_nonneg h0] at this
  omega
theorem law_figures_c (w : World) (i base many : Int) (t1 t2 t3 : Tok) (h0 : 0 ≤ i) (hb0 : 2 ≤ base) (hb : base ≤ 16) (hm0 : 0 ≤ many) (hm : many ≤ 1000) : Ctr w 300 [.int i t1, .int base t2, .int many t3] 5 80 [] (RFigs base many i) (fun sp => False) := by
  refine' Ctr.of_body [Str.ofString "number", Str.ofString "base", Str.ofString "many", Str.ofString "found", Str.ofString "turn"] [.int i, .int base, .int many, .no, .no] ?ho ?hcd ?hb ?hl (by decide +kernel) (slots _ _ ?hu) ?c1 ?c2 ?c3 ?c4 ?_
  k_extra "bx"
  intro C _
  have hp : 0 < base := Int.lt_of_lt_of_le (by decide) hb0
  refine Ex.set 3 rfl (fun _ => rfl) Ev.cstr ?_
  refine Ex.forRng (α := PySem.Str × Int) 4 (fun k c => c = figA base k i ∧ c.1.length = k ∧ 0 ≤ c.2) (fun c => [.int c.2, .int base, .int many, .str c.1, .no]) (figA base 0 i) (n := many.toNat) rfl (EvRng.one rfl (Ev.loc 2 rfl rfl rfl) (fun _ => rfl) fun _ => rfl) ⟨by decide, by decide⟩ ⟨by omega, by omega⟩ (by rw [Int.sub_zero]) (fun _ _ => rfl) ⟨rfl, rfl, h0⟩ (.eq (.eq (.eq (.eq (.no .nil))))) (fun k c hk hI C' _ => ?_) fun c hI => ?_
  · obtain ⟨e, e1, e2⟩ := hI
    have d0 : 0 ≤ c.2 % base := Int.emod_nonneg _ (Int.ne_of_gt hp)
    have d1 : c.2 % base < 16 := Int.lt_of_lt_of_le (Int.emod_lt_of_pos _ hp) hb
    have key : ∀ d : _root_.Fin 16, (Txt.item hexS (d.val : Int)).length = 1 := by decide +kernel
    have hi1 := key ⟨(c.2 % base).toNat, by omega⟩
    simp only at hi1
    rw [Int.toNat_of_nonneg d0] at hi1
    refine Ex.set 3 rfl (fun _ => rfl) (Ev.cat (x := Txt.item hexS (c.2 % base)) (Ev.itemC (Ev.fmod (Ev.loc 0 rfl rfl rfl) (Ev.loc 1 rfl rfl rfl) hp) d0 d1 (by decide +kernel) fun _ _ _ => by with_unfolding_all rfl) (Ev.loc 3 rfl rfl rfl) (by rw [hi1, e1]; omega)) ?_
    refine Ex.set 0 rfl (fun _ => rfl) (Ev.fdiv (Ev.loc 0 rfl rfl rfl) (Ev.loc 1 rfl rfl rfl) hp (Int.lt_of_le_of_lt hb (by decide))) (Ex.nil ⟨rfl, _, ⟨rfl, ?_, ?_⟩, ?_⟩)
    · rw [fig_step hp, ← e, fig_one d0 d1, e1]
    · rw [fig_step hp, ← e]; exact Int.ediv_nonneg e2 (Int.le_of_lt hp)
    · rw [fig_step hp, ← e]; exact .eq (.eq (.eq (.eq (.no .nil))))
  · obtain ⟨e, e1, e2⟩ := hI
    exact Ex.ret (Ev.loc 3 rfl rfl rfl).g fun v nw' h => by
      obtain ⟨⟨t, e3⟩, rfl⟩ := h
      rw [Option.some.inj e3]
      exact .mk _ _ (by rw [e]) e1

end
section
example : True := by
  w_top off
  k_with_none
  trivial
inductive UpdG (d : Addr) (o : Obj) (news : List (Addr × Obj)) (upd : Obj → List (Addr × Obj)) : List (Addr × Obj) → (Obj → List (Addr × Obj)) → Prop
  | head : UpdG d o news upd ((d, o) :: news) (fun o' => (d, o') :: upd o')
  | tail {p r g} : p.1 ≠ d → UpdG d o news upd r g → UpdG d o news upd (p :: r) (fun o' => p :: g o')
theorem UpdG.flat {d : Addr} {o : Obj} {news : List (Addr × Obj)} {upd : Obj → List (Addr × Obj)} (U : UpdF d o news upd) {l : List (Addr × Obj)} {g : Obj → List (Addr × Obj)} (G : UpdG d o news upd l g) :
    ∃ l' g', UpdF d o l' g' ∧ (∀ q ∈ l', q ∈ l) ∧ (∀ q ∈ l, q ∈ l') ∧ ∀ o', ∀ q ∈ g o', q ∈ g' o' := by
  induction G with
  | head => exact ⟨news, upd, U, fun q h => .tail _ h, fun q h => (List.mem_cons.mp h).elim (fun e => e ▸ UpdF.mem U) id, fun o' q h => (List.mem_cons.mp h).elim (fun e => e ▸ UpdF.mem (UpdF.again U)) id⟩
  | @tail p r g h _ ih =>
    obtain ⟨l', g', a, b, c, e⟩ := ih
    exact ⟨p :: l', _, .tail h a, fun q hq => (List.mem_cons.mp hq).elim (fun z => z ▸ .head _) (fun z => .tail _ (b q z)), fun q hq => (List.mem_cons.mp hq).elim (fun z => z ▸ .head _) (fun z => .tail _ (c q z)),
      fun o' q hq => (List.mem_cons.mp hq).elim (fun z => z ▸ .head _) (fun z => .tail _ (e o' q z))⟩
theorem CtrS.use {w : World} {f : Addr} {vs : List Value} {d u : Nat} {S : Addr} {o : Obj} {led : List (Addr × Obj)} {R : Value → List (Addr × Obj) → Obj → Prop} (C : CtrS w f vs d u S o led R)
    {p : Program} {loose : List Str} {mean : ExcName → Option Value} {mg mb : Str → Option Value} {dp un : Nat} {gd : Option (List Code)} {cn : Str} {cs : Scope} {a : Addr} {ccd : Value} {cl : List (Str × Addr)}
    {outer : List Env} {A₀ : Around} {base h₀ : Heap} {L : Addr} {m : Str → Option Value} {news big : List (Addr × Obj)} {upd g : Obj → List (Addr × Obj)} {s : Shared} {Q E : Value → Shared → Prop}
    (B : Below A₀ base outer h₀) (F : Fr h₀ L s.heap m) (K : (Mine.hd.heap_39 w.params).In h₀) (N : News h₀ L s.heap big) (T : Top p loose mean mg mb h₀) (hk : cs.kind = .function) (hd : dp + d < recursionLimit) (hu : un + u < cLine)
    (U : UpdF S o news upd) (G : UpdG S o news upd big g) (hl : ∀ q ∈ led, q ∈ big ∧ q.1 ≠ S)
    (hr : ∀ v nw o' h' tk, R v nw o' → Fr h₀ L h' m → News h₀ L h' (nw ++ g o') → UpdF S o' (upd o') upd → (∀ q ∈ big, ∀ p ∈ nw, q.1 < p.1) → Q v { s with heap := h', toks := tk }) :
    wpAny (model PySem.Challenge.pw_pf0076_01 w) (ktrTop dp un gd cn cs L a ccd cl outer) (call (.ref f) vs) Q E s := by
  obtain ⟨l', g', U', b, c, e⟩ := UpdG.flat U G
  refine C p loose mean mg mb dp un gd cn cs a ccd cl outer A₀ base h₀ L m l' g' s Q E B F K (fun q hq => N q (b q hq)) T hk hd hu U' (fun q hq => ⟨c q (hl q hq).1, (hl q hq).2⟩) fun v nw o' h' tk hR F' N' l => hr v nw o' h' tk hR F' (fun q hq => ?_) (UpdF.again U) fun q hq => l q (c q hq)
  rcases List.mem_append.mp hq with hq | hq
  · exact N' q (List.mem_append.mpr (.inl hq))
  · exact N' q (List.mem_append.mpr (.inr (e o' q hq)))

end
section
example : True := by
  w_top off
  k_with_none
  (k_with "my_enter" => (refine' code_def ?k1 ?k2 ?k3 ?k4 ?k5 ?kA ?kF ?kK ?k6 ?k7 ?k8 ?k9 ?kB ?_ ?c2 ?c3 ?c4 ?c5; (case kA => exact rfl); (case kF => exact rfl); (case kK => first | assumption | exact rfl); (case k1 => k_asm); (case k2 => k_asm); (case k3 => k_asm); (case k4 => k_asm); (case k5 => k_asm); (case k6 => k_is); (case k7 => k_is); (case k8 => k_extra "my_room"); (case k9 => first | exact BindsTo.of_eq rfl | exact binds_K (by k_in) rfl (by k_is) rfl rfl rfl); (case c5 => decide); (case kB => exact locs rfl); (case c2 => exact rfl); (case c3 => exact rfl); (case c4 => exact rfl); k_whole; intro g' L' h' FG' F' N' B' X' T'; (try dsimp only); (try k_fold)))
  (k_with "exec Raise some none" => (k_here; k_dflt (refine' Raise_fault ?k1 ?k2 ?_; (case k1 => k_asm); (case k2 => k_asm); k_whole)))
  (k_with "call ref" => (k_here; (with_reducible show wpAny _ _ (call (Value.ref 52) _) _ _ _); k_dflt (refine' fault ?k1 ?k2 ?k3 ?k4 ?k5 ?k6 ?k7 ?k8 ?_; (case k1 => k_asm); (case k2 => k_asm); (case k3 => k_asm); (case k4 => k_asm); (case k5 => k_asm); (case k6 => first | assumption | exact rfl); (case k7 => k_extra "my_room"); (case k8 => k_extra "my_room"); k_whole); intro h' e' tk' F' M'; (try k_sweep)))
  (k_with "FaultQ" => (refine ⟨_, _, _, _, rfl, by assumption, by assumption, ?_⟩))
  (k_with "leaving ref" => (k_here; first | (refine' leave_first ?k1 ?k2 ?k3 ?k4 ?_; (case k3 => assumption); (case k1 => assumption); (case k2 => assumption); (case k4 => exact rfl); k_whole; intro h' R') | (refine' leave_next ?k1 ?k2 ?k3 ?_; (case k3 => assumption); (case k1 => assumption); (case k2 => assumption); k_whole; intro h' R')))
  (k_with "my_args" => ((case kB => k_asm); (case kF => k_asm); (case kX => k_asm); (case kN => k_asm); (case kT => k_asm); (case kK => first | assumption | exact rfl); (case kd => k_extra "my_room"); (case ku => k_extra "my_room")))
  (k_with "my_updG" => first | exact UpdG.head | (refine' UpdG.tail ?a ?b; (case a => k_ne); (case b => k_extra "my_updG")))
  (k_with "my_ledS" => first | exact List.forall_mem_nil _ | (refine List.forall_mem_cons.mpr ⟨⟨?a, ?b⟩, List.forall_mem_nil _⟩; (case a => k_mem); (case b => k_ne)))
  (k_with "my_backS" => (intro v' nw' o' h' tk' hR' F' N' U' l1; cases hR'; (try dsimp only at N'); (try simp only [List.nil_append, List.cons_append] at N'); (try k_sweep); (try k_fold)))
  (k_with "my_sideS" => first | with_reducible assumption | omega | decide)
  (k_with "my_room" => first | exact room9 (by with_reducible assumption) (by exact rfl) | exact room8 (by with_reducible assumption) (by exact rfl) | exact room7 (by with_reducible assumption) | ktr_room | ktr_units)
  trivial
example : True := by
  (k_with "call ref" => (k_here; (with_reducible show wpAny _ _ (call (Value.ref 279) _) _ _ _); k_dflt (refine' CtrS.use (law_take_c _ _ _ _ _ _ _ _ _ ?s1 ?s2 ?s3 ?s4) ?kB ?kF ?kX ?kN ?kT ?kK ?kd ?ku ?kU ?kG ?kL ?_; k_extra "my_args"; (case kU => with_reducible assumption); (case kG => k_extra "my_updG"); (case kL => k_extra "my_ledS"); (case s1 => k_extra "my_sideS"); (case s2 => k_extra "my_sideS"); (case s3 => k_extra "my_sideS"); (case s4 => k_extra "my_sideS"); k_extra "my_backS")))
  trivial
inductive RPick (vs : List Value) : Value → List (Addr × Obj) → Obj → Prop
  | mk (v : Value) (k : Nat) (a b : Int) (t1 t2 : Tok) (n : Nat) (h0 : vs[k]? = some v) (ha : 0 ≤ a) (hb : 0 ≤ b) : RPick vs v [] (W.listOf #[.int a t1, .int b t2] n)
theorem RPick.of {vs : List Value} {v : Value} {k : Nat} {a b : Int} {t1 t2 : Tok} {n : Nat} {S : Addr} {l : List (Addr × Obj)} {g : Obj → List (Addr × Obj)} (U : UpdF S (W.listOf #[.int a t1, .int b t2] n) l g) (h0 : vs[k]? = some v) (ha : 0 ≤ a) (hb : 0 ≤ b) : RPick vs v [] (W.listOf #[.int a t1, .int b t2] n) := .mk _ _ _ _ _ _ _ h0 ha hb
theorem pickK {prog : Program} {w : World} {A : Around} {E : Value → Shared → Prop} {s : Shared} {h₀ : Heap} {L D : Addr} {news : List (Addr × Obj)} {value slice : Expr} {vs : List Value} {n z : Nat} {k : Int} {u : Tok} {Q : Value → Shared → Prop} (N : News h₀ L s.heap news) (hm : (D, W.listOf vs.toArray n) ∈ news) (hz : vs.toArray.size = z) (h0 : 0 ≤ k) (h1 : k < (z : Int)) (hfit : k < 2 ^ 63)
    (h : ∀ v, vs[k.toNat]? = some v → Q v s) (hs : subscripted slice false (.ref D) (.int k u) = operate [.ref D, .int k u] (getItem (.ref D) (.int k u))) :
    wpAny (model prog w) A (subscriptTail value slice (.ref D) (.int k u)) Q E s := by
  have hl : s.heap.IsList D vs.toArray := ⟨_, (N _ hm).1, rfl, _, rfl⟩
  have hk : k.toNat < vs.length := by rw [List.size_toArray] at hz; omega
  exact tail_any hl.typeIs slot_list_getitem.lookup (wpAny_getItem_list hl h0 hfit (by simpa using List.getElem?_eq_getElem hk) (h _ (List.getElem?_eq_getElem hk))) hs
example : True := by
  (k_with "subscriptTail" => (k_here; (with_reducible show wpAny _ _ (subscriptTail _ _ (Value.ref _) (Value.int _ _)) _ _ _); k_dflt (refine' pickK ?N ?m ?z ?a ?b ?c ?_ (by with_unfolding_all rfl); (case N => k_asm); (case m => k_mem); (case z => with_reducible assumption); (case a => with_reducible assumption); (case b => with_reducible assumption); (case c => omega)); intro v' hv'))
  trivial
theorem law_one_c (w : World) (S M : Addr) (a b : Int) (t1 t2 : Tok) (n c : Nat) (vs : List Value) (ha : 0 ≤ a) (hb : 0 ≤ b) (h0 : 0 < vs.length) (h1 : vs.length ≤ 1000) : CtrS w 286 [.ref S, .ref M] 3 60 S (W.listOf #[.int a t1, .int b t2] n) [(M, W.listOf vs.toArray c)] (RPick vs) := by
  intro p loose mean mg mb dp un gd cn cs a' ccd cl outer A₀ base' h₀ L m news upd s Q E B F X N0 T hk hd hu U hled hret
  obtain ⟨hM, hMS⟩ := hled _ (.head _)
  have N : News h₀ L s.heap ((M, W.listOf vs.toArray c) :: (S, W.listOf #[.int a t1, .int b t2] n) :: news) := fun q hq => (List.mem_cons.mp hq).elim (fun e => e ▸ N0 _ hM) fun hq => (List.mem_cons.mp hq).elim (fun e => e ▸ N0 _ (UpdF.mem U)) (N0 q)
  have hMS' : M ≠ S := hMS
  clear N0 hled hMS
  obtain ⟨z, hz⟩ : ∃ z, vs.toArray.size = z := ⟨_, rfl⟩
  have hz0 : 0 < z := by rw [← hz, List.size_toArray]; exact h0
  have hz1 : z ≤ 1000 := by rw [← hz, List.size_toArray]; exact h1
  have hzi : 0 < (z : Int) := by omega
  have hzj : (z : Int) < 1073741824 := by omega
  have hzk : (z : Int) ≤ 1000 := by omega
  refine wpAny_call ?_
  k_dflt k_extra "my_enter"
  k_steps
  (rename _ = some _ => hv9)
  exact hret _ [] _ _ _ (RPick.of (by with_reducible assumption) hv9 (by with_reducible assumption) (by with_reducible assumption)) (by assumption) (news_tl (news_tl (by assumption))) (fun _ _ _ h => nomatch h)
inductive RPickP (Pv : Value → Prop) : Value → List (Addr × Obj) → Obj → Prop
  | mk (v : Value) (a b : Int) (t1 t2 : Tok) (n : Nat) (h0 : Pv v) (ha : 0 ≤ a) (hb : 0 ≤ b) : RPickP Pv v [] (W.listOf #[.int a t1, .int b t2] n)
theorem CtrS.mono {w : World} {f : Addr} {vs : List Value} {d u : Nat} {S : Addr} {o : Obj} {led : List (Addr × Obj)} {R R' : Value → List (Addr × Obj) → Obj → Prop} (C : CtrS w f vs d u S o led R) (hR : ∀ v nw o', R v nw o' → R' v nw o') : CtrS w f vs d u S o led R' :=
  fun p loose mean mg mb dp un gd cn cs a ccd cl outer A₀ base h₀ L m news upd s Q E B F X N T hk hd hu U hl hr =>
    C p loose mean mg mb dp un gd cn cs a ccd cl outer A₀ base h₀ L m news upd s Q E B F X N T hk hd hu U hl fun v nw o' h' tk h => hr v nw o' h' tk (hR v nw o' h)
theorem law_oneP_c (w : World) (Pv : Value → Prop) (S M : Addr) (a b : Int) (t1 t2 : Tok) (n c : Nat) (vs : List Value) (ha : 0 ≤ a) (hb : 0 ≤ b) (h0 : 0 < vs.length) (h1 : vs.length ≤ 1000) (hP : ∀ v ∈ vs, Pv v) : CtrS w 286 [.ref S, .ref M] 3 60 S (W.listOf #[.int a t1, .int b t2] n) [(M, W.listOf vs.toArray c)] (RPickP Pv) :=
  (law_one_c w S M a b t1 t2 n c vs ha hb h0 h1).mono fun v nw o' h => by
    cases h with
    | mk k a b t1 t2 n h0 ha hb => exact .mk _ _ _ _ _ _ (hP _ (List.mem_of_getElem? h0)) ha hb
example : True := by
  (k_with "subscriptTail" => (k_here; (with_reducible show wpAny _ _ (subscriptTail _ _ (Value.str _ _) (Value.int _ _)) _ _ _); refine item_str (fitsSsize_of (N := 9223372036854775808) (by omega) (by omega) (Int.le_refl _)) (by omega) (by omega) ?_; intro _))
  trivial
inductive RPickS (T : PySem.Str) : Value → List (Addr × Obj) → Obj → Prop
  | mk (k : Int) (t : Tok) (a b : Int) (t1 t2 : Tok) (n : Nat) (h0 : 0 ≤ k) (h1 : k < T.length) (ha : 0 ≤ a) (hb : 0 ≤ b) : RPickS T (.str (Txt.item T k) t) [] (W.listOf #[.int a t1, .int b t2] n)
theorem RPickS.of {T : PySem.Str} {k : Int} {t : Tok} {a b : Int} {t1 t2 : Tok} {n : Nat} {S : Addr} {l : List (Addr × Obj)} {g : Obj → List (Addr × Obj)} (U : UpdF S (W.listOf #[.int a t1, .int b t2] n) l g) (h0 : 0 ≤ k) (h1 : k < T.length) (ha : 0 ≤ a) (hb : 0 ≤ b) : RPickS T (.str (Txt.item T k) t) [] (W.listOf #[.int a t1, .int b t2] n) := .mk _ _ _ _ _ _ _ h0 h1 ha hb
theorem law_oneS_c (w : World) (S : Addr) (T : PySem.Str) (a b : Int) (t1 t2 t3 : Tok) (n : Nat) (ha : 0 ≤ a) (hb : 0 ≤ b) (h0 : 0 < T.length) (h1 : T.length ≤ 1000) : CtrS w 286 [.ref S, .str T t3] 3 60 S (W.listOf #[.int a t1, .int b t2] n) [] (RPickS T) := by
  intro p loose mean mg mb dp un gd cn cs a' ccd cl outer A₀ base' h₀ L m news upd s Q E B F X N0 Tp hk hd hu U hled hret
  have N : News h₀ L s.heap ((S, W.listOf #[.int a t1, .int b t2] n) :: news) := fun q hq => (List.mem_cons.mp hq).elim (fun e => e ▸ N0 _ (UpdF.mem U)) (N0 q)
  clear N0 hled
  have hzi : 0 < (T.length : Int) := by omega
  have hzj : (T.length : Int) < 1073741824 := by omega
  refine wpAny_call ?_
  k_dflt k_extra "my_enter"
  k_steps
  (rename _ < (T.length : Int) => hv9)
  (rename 0 ≤ _ => hb9)
  exact hret _ [] _ _ _ (RPickS.of (by with_reducible assumption) (by with_reducible assumption) hv9 (by with_reducible assumption) (by with_reducible assumption)) (by assumption) (news_tl (by assumption)) (fun _ _ _ h => nomatch h)

end
section
structure At (T : PySem.Str) (i : Int) (post : List Nat) : Prop where
  h0 : 0 ≤ i
  h1 : i ≤ T.length
  hd : T.cps.toList.drop i.toNat = post
namespace At
variable {T : PySem.Str} {i : Int} {post l r : List Nat} {c : Nat}
theorem len (h : At T i post) : (T.length : Int) = i + post.length := by
  have := h.h0; have := h.h1; have hl := len_eq T
  rw [← h.hd, List.length_drop]; omega
theorem adv (h : At T i (l ++ r)) : At T (i + l.length) r := by
  have hl := h.len
  rw [List.length_append] at hl
  have := h.h0
  refine ⟨by omega, by omega, ?_⟩
  rw [show (i + (l.length : Int)).toNat = i.toNat + l.length by omega, ← List.drop_drop, h.hd, List.drop_left]
theorem next (h : At T i (c :: r)) : At T (i + 1) r := by simpa using adv (l := [c]) h
theorem lt (h : At T i (c :: r)) : i < T.length := by have := h.len; rw [List.length_cons] at this; omega
theorem nil (h : At T i []) : i = T.length := by have := h.len; simpa using this.symm
theorem item (h : At T i (c :: r)) : Txt.item T i = ⟨#[c]⟩ := by
  rw [item_eq T i h.h0 h.lt, cpA]
  have : T.cps.toList[i.toNat]? = some c := by
    have e := List.getElem?_drop (xs := T.cps.toList) (i := i.toNat) (j := 0)
    rw [h.hd] at e
    simpa using e.symm
  rw [this]; rfl
theorem slice (h : At T i post) (k : Int) (hk : 0 ≤ k) : Txt.slice T (some i) (some (i + k)) = ⟨(post.take k.toNat).toArray⟩ := by
  refine str_ext ?_
  rw [slice_ss T i (i + k) h.h0 (by omega), h.hd, show (i + k - i).toNat = k.toNat by omega]
theorem slice1 (h : At T i (c :: r)) : Txt.slice T (some i) (some (i + 1)) = ⟨#[c]⟩ := by rw [h.slice 1 (by decide)]; rfl
theorem slice_all (h : At T i (l ++ r)) : Txt.slice T (some i) (some (i + l.length)) = ⟨l.toArray⟩ := by
  rw [h.slice l.length (by omega)]
  simp
theorem runEnd (h : At T i post) (signs : PySem.Str) : Mine.Internal.runEnd T signs i = i + (post.takeWhile (fun c => decide (c ∈ signs.cps.toList))).length := by rw [Mine.Internal.runEnd, h.hd]
end At
theorem At.whole (l : List Nat) : At ⟨l.toArray⟩ 0 l := ⟨by decide, by omega, by simp⟩
inductive Unit1 (q : Nat) : List Nat → Int → Bool → Prop
  | plain (c : Nat) (h1 : c ≠ 92) (h2 : c ≠ 10) (h3 : c ≠ q) (h4 : rightI c = true) (h5 : c ≠ 96) : Unit1 q [c] c false
  | esc (l : List Nat) (v : Int) (b : Bool) (h96 : 96 ∉ l) (h : ∀ T i r, At T i (92 :: l ++ r) → escRead T i ⟨#[q]⟩ = some (v, b, i + (l.length + 1))) : Unit1 q (92 :: l) v b
theorem Unit1.no96 {q : Nat} {l : List Nat} {v : Int} {b : Bool} (U : Unit1 q l v b) : 96 ∉ l := by
  cases U with
  | plain c h1 h2 h3 h4 h5 => simpa using fun e => h5 e.symm
  | esc l v b h96 he => simpa using h96
theorem str1 {a b : Nat} : ((⟨#[a]⟩ : PySem.Str) == ⟨#[b]⟩) = decide (a = b) := by
  by_cases h : a = b
  · subst h; simp
  · rw [decide_eq_false h, beq_eq_false_iff_ne]
    intro e
    injection e with e
    simp at e
    exact h e
theorem str0 {b : Nat} : ((⟨#[]⟩ : PySem.Str) == ⟨#[b]⟩) = false := by
  rw [beq_eq_false_iff_ne]
  intro e
  injection e with e
  simp at e
theorem lit_n : Str.ofString "\n" = ⟨#[10]⟩ := by decide +kernel
theorem lit_0 : Str.ofString "" = ⟨#[]⟩ := by decide +kernel
theorem lit_q : Str.ofString "\"" = ⟨#[34]⟩ := by decide +kernel
theorem lit_a : Str.ofString "'" = ⟨#[39]⟩ := by decide +kernel
theorem lit_b : Str.ofString "\\" = ⟨#[92]⟩ := by decide +kernel
theorem lit_x : Str.ofString "x" = ⟨#[120]⟩ := by decide +kernel
theorem runeFin_of {T : PySem.Str} {i v j : Int} {l r : List Nat} (h : At T i (l ++ 39 :: r)) (hj : j = i + l.length) :
    runeFin T i v j = .ok (⟨Str.ofString "rune", ⟨(l ++ [39]).toArray⟩, i, .int v⟩, i + l.length + 1) := by
  subst hj
  have h2 := h.adv
  unfold runeFin
  rw [h2.slice1, lit_a, if_neg (by simp)]
  have h3 : At T i ((l ++ [39]) ++ r) := by simpa using h
  have := h3.slice_all
  rw [List.length_append, List.length_singleton] at this
  rw [show i + (l.length : Int) + 1 = i + ((l.length + 1 : Nat) : Int) by omega, this]
theorem runeRead_of {T : PySem.Str} {i v : Int} {b : Bool} {l r : List Nat} (U : Unit1 39 l v b) (h : At T i (39 :: l ++ 39 :: r)) :
    runeRead T i = .ok (⟨Str.ofString "rune", ⟨(39 :: l ++ [39]).toArray⟩, i, .int v⟩, i + l.length + 2) := by
  have hn : At T (i + 1) (l ++ 39 :: r) := At.next (c := 39) (by simpa using h)
  have h' : At T i ((39 :: l) ++ 39 :: r) := by simpa using h
  cases U with
  | plain c h1 h2 h3 h4 h5 =>
    have hc : At T (i + 1) (c :: 39 :: r) := by simpa using hn
    unfold runeRead
    rw [if_neg (by rw [hc.slice1]; simp only [lit_0, lit_n, lit_a, List.any_cons, List.any_nil, str1, str0, Bool.or_false, Bool.false_or, Bool.or_eq_true, decide_eq_true_eq]; omega)]
    rw [if_neg (by rw [hc.item, lit_b, str1]; simpa using h1), hc.item]
    rw [if_pos (by simpa using h4), runeFin_of h' (by simp; omega)]
    simp; omega
  | esc l v b h96 he =>
    have hc : At T (i + 1) (92 :: (l ++ 39 :: r)) := by simpa using hn
    unfold runeRead
    rw [if_neg (by rw [hc.slice1]; simp only [lit_0, lit_n, lit_a, List.any_cons, List.any_nil, str1, str0]; decide)]
    rw [if_pos (by rw [hc.item, lit_b]; simp), lit_a, he T (i + 1) (39 :: r) (by simpa using hn)]
    show runeFin T i v _ = _
    rw [runeFin_of h' (by simp; omega)]
    simp; omega

end
section
noncomputable def hx (n : Nat) : Nat := if n < 10 then 48 + n else 87 + n
noncomputable def ux (n : Nat) : Nat := if n < 10 then 48 + n else 55 + n
theorem hx_item : ∀ n : Fin 16, Txt.item hexS (n.val : Int) = ⟨#[hx n.val]⟩ := by decide +kernel
theorem hx_fig : ∀ n : Fin 16, figW ⟨#[hx n.val]⟩ = (n.val : Int) := by decide +kernel
theorem ux_fig : ∀ n : Fin 16, figW ⟨#[ux n.val]⟩ = (n.val : Int) := by decide +kernel
theorem hx_upper : ∀ n : Fin 16, Txt.upper ⟨#[hx n.val]⟩ = ⟨#[ux n.val]⟩ := by decide +kernel
noncomputable def dg (base : Int) : Nat → Int → List Nat
  | 0, _ => []
  | k + 1, i => ((i / base ^ k) % base).toNat :: dg base k i
theorem dg_succ (base : Int) (k : Nat) (i : Int) : dg base (k + 1) i = ((i / base ^ k) % base).toNat :: dg base k i := rfl
theorem figA_succ (base : Int) (k : Nat) (i : Int) : (figA base (k + 1) i).2 = (figA base k i).2.fdiv base := rfl
theorem dg_len (base : Int) (i : Int) : ∀ k, (dg base k i).length = k
  | 0 => rfl
  | k + 1 => by rw [dg_succ, List.length_cons, dg_len base i k]
theorem dg_lt {base : Int} {b : Nat} (hb : base = (b : Int)) (h0 : 0 < b) (i : Int) : ∀ k, ∀ d ∈ dg base k i, d < b
  | 0, d, h => nomatch h
  | k + 1, d, h => by
    rw [dg_succ] at h
    rcases List.mem_cons.mp h with rfl | h
    · have := Int.emod_lt_of_pos (i / base ^ k) (show 0 < base by omega)
      have := Int.emod_nonneg (i / base ^ k) (show base ≠ 0 by omega)
      omega
    · exact dg_lt hb h0 i k d h
theorem fig_snd {base : Int} (hb : 0 < base) (i : Int) : ∀ k, (figA base k i).2 = i / base ^ k
  | 0 => by rw [Int.pow_zero, Int.ediv_one]; rfl
  | k + 1 => by
    rw [figA_succ, fig_snd hb i k, Int.fdiv_eq_ediv_of_nonneg _ (Int.le_of_lt hb), Int.pow_succ, Int.ediv_ediv_of_nonneg (Int.pow_nonneg (Int.le_of_lt hb))]
theorem fig_fst {base : Int} (hb : 0 < base) (hb2 : base ≤ 16) (i : Int) : ∀ k, (figA base k i).1.cps.toList = (dg base k i).map hx
  | 0 => rfl
  | k + 1 => by
    have e : (figA base (k + 1) i).1 = Txt.item hexS ((figA base k i).2.fmod base) ++ (figA base k i).1 := rfl
    have h1 := Int.emod_nonneg (i / base ^ k) (show base ≠ 0 by omega)
    have h2 := Int.emod_lt_of_pos (i / base ^ k) hb
    rw [e, fig_snd hb, Int.fmod_eq_emod_of_nonneg _ (Int.le_of_lt hb)]
    have h3 := hx_item ⟨((i / base ^ k) % base).toNat, by omega⟩
    simp only [Int.toNat_of_nonneg h1] at h3
    rw [h3, dg_succ, List.map_cons, ← fig_fst hb hb2 i k]
    show ((⟨#[_]⟩ : PySem.Str).cps ++ _).toList = _
    simp
noncomputable def valD (base : Int) (l : List Nat) : Int := l.foldl (fun (v : Int) (d : Nat) => v * base + (d : Int)) 0
theorem valD_acc (base : Int) : ∀ (l : List Nat) (v : Int), l.foldl (fun (v : Int) (d : Nat) => v * base + (d : Int)) v = v * base ^ l.length + valD base l
  | [], v => by simp [valD]
  | d :: l, v => by
    have e : valD base (d :: l) = l.foldl (fun (v : Int) (d : Nat) => v * base + (d : Int)) (0 * base + (d : Int)) := rfl
    rw [e, List.foldl_cons, valD_acc base l, valD_acc base l, List.length_cons, Int.pow_succ]
    grind
theorem valD_cons (base : Int) (d : Nat) (l : List Nat) : valD base (d :: l) = (d : Int) * base ^ l.length + valD base l := by
  have e : valD base (d :: l) = l.foldl (fun (v : Int) (d : Nat) => v * base + (d : Int)) (0 * base + (d : Int)) := rfl
  rw [e, valD_acc]; grind
theorem val_dg {base : Int} (hb : 0 < base) (i : Int) : ∀ k, valD base (dg base k i) = i % base ^ k
  | 0 => by rw [Int.pow_zero, Int.emod_one]; rfl
  | k + 1 => by
    have h1 := Int.emod_nonneg (i / base ^ k) (show base ≠ 0 by omega)
    rw [dg_succ, valD_cons, dg_len, val_dg hb i k, Int.toNat_of_nonneg h1, Int.emod_def i (base ^ (k + 1)), Int.emod_def i (base ^ k), Int.emod_def (i / base ^ k) base, Int.pow_succ, ← Int.ediv_ediv_of_nonneg (Int.pow_nonneg (Int.le_of_lt hb))]
    grind
theorem val_map (base : Int) (g : Nat → Nat) (hg : ∀ n : Fin 16, figW ⟨#[g n.val]⟩ = (n.val : Int)) (l : List Nat) (h : ∀ d ∈ l, d < 16) : ∀ v, (l.map g).foldl (fun v c => v * base + figW ⟨#[c]⟩) v = l.foldl (fun (v : Int) (d : Nat) => v * base + (d : Int)) v := by
  induction l with
  | nil => intro v; rfl
  | cons d l ih =>
    intro v
    rw [List.map_cons, List.foldl_cons, List.foldl_cons, hg ⟨d, h d (.head _)⟩]
    exact ih (fun x hx => h x (.tail _ hx)) _
theorem valOf_map {base : Int} {g : Nat → Nat} (hg : ∀ n : Fin 16, figW ⟨#[g n.val]⟩ = (n.val : Int)) {l : List Nat} (h : ∀ d ∈ l, d < 16) : valOf base (l.map g) = valD base l := val_map base g hg l h 0
theorem figsOk_map {base : Int} {b : Nat} (hb : base = (b : Int)) (hb2 : b ≤ 16) {g : Nat → Nat} (hg : ∀ n : Fin 16, figW ⟨#[g n.val]⟩ = (n.val : Int)) {l : List Nat} (h : ∀ d ∈ l, d < b) : figsOk base (l.map g) = true := by
  unfold figsOk
  rw [List.all_eq_true]
  intro c hc
  obtain ⟨d, hd, rfl⟩ := List.mem_map.mp hc
  have := h d hd
  rw [hg ⟨d, by omega⟩]
  simp; omega
theorem val_of_figs {base : Int} {b : Nat} (hb : base = (b : Int)) (h0 : 0 < b) (hb2 : b ≤ 16) {g : Nat → Nat} (hg : ∀ n : Fin 16, figW ⟨#[g n.val]⟩ = (n.val : Int)) {i : Int} {k : Nat} (hi0 : 0 ≤ i) (hi : i < base ^ k) :
    valOf base ((dg base k i).map g) = i := by
  rw [valOf_map hg fun d hd => by have := dg_lt hb h0 i k d hd; omega, val_dg (by omega), Int.emod_eq_of_lt hi0 hi]
theorem up_map : ∀ (l : List Nat), (∀ d ∈ l, d < 16) → Txt.upper ⟨(l.map hx).toArray⟩ = ⟨(l.map ux).toArray⟩ := by
  intro l
  induction l with
  | nil => intro _; decide +kernel
  | cons d l ih =>
    intro h
    have e : (⟨((d :: l).map hx).toArray⟩ : PySem.Str) = ⟨#[hx d]⟩ ++ ⟨(l.map hx).toArray⟩ := by
      refine str_ext ?_
      show _ = ((⟨#[hx d]⟩ : PySem.Str).cps ++ _).toList
      simp
    rw [e, KOpn.upper_app, hx_upper ⟨d, h d (.head _)⟩, ih fun x hx => h x (.tail _ hx)]
    refine str_ext ?_
    show ((⟨#[ux d]⟩ : PySem.Str).cps ++ _).toList = _
    simp
theorem figsRead_of {T : PySem.Str} {i many base : Int} {l r : List Nat} (h : At T i (l ++ r)) (hm : many = l.length) (hok : figsOk base l = true) : figsRead T i many base = some (valOf base l) := by
  have hz : (T.cps.toList.drop i.toNat).take many.toNat = l := by rw [h.hd, hm]; simp
  unfold figsRead
  rw [hz, hok, hm]
  simp
theorem esc_short {T : PySem.Str} {i v : Int} {c q : Nat} {r : List Nat} (hs : shortE ⟨#[c]⟩ = some v) (h : At T i (92 :: c :: r)) : escRead T i ⟨#[q]⟩ = some (v, false, i + 2) := by
  unfold escRead
  rw [show i + 2 = i + 1 + 1 by omega, h.next.slice1, hs]
theorem short96 {c : Nat} {v : Int} (hs : shortE ⟨#[c]⟩ = some v) : 96 ∉ [c] := fun h => by
  have e : 96 = c := List.mem_singleton.mp h
  subst e
  rw [show shortE ⟨#[96]⟩ = none by decide +kernel] at hs
  cases hs
theorem unit_short {q c : Nat} {v : Int} (hs : shortE ⟨#[c]⟩ = some v) : Unit1 q [92, c] v false := .esc [c] v false (short96 hs) fun T i r h => esc_short hs (by simpa using h)
theorem unit_quote {q : Nat} (hs : shortE ⟨#[q]⟩ = none) (h96 : q ≠ 96) : Unit1 q [92, q] q false := .esc [q] _ false (by simpa using fun e => h96 e.symm) fun T i r h => by
  have h1 : At T (i + 1) (q :: r) := At.next (c := 92) (by simpa using h)
  have e : Txt.slice T (some (i + 1)) (some (i + 2)) = ⟨#[q]⟩ := by rw [show i + 2 = i + 1 + 1 by omega]; exact h1.slice1
  unfold escRead
  rw [e, hs]
  dsimp only
  rw [if_pos (by simp)]
  simp
theorem figs96 {base : Int} (hb : base ≤ 99) {l : List Nat} (h : figsOk base l = true) : 96 ∉ l := fun hm => by
  have := List.all_eq_true.mp h 96 hm
  rw [show figW ⟨#[96]⟩ = 99 by decide +kernel] at this
  simp at this
  omega
theorem unit_long {q c : Nat} {l : List Nat} {v : Int} {b : Bool} (hs : shortE ⟨#[c]⟩ = none) (hq : c ≠ q) (hl : longE ⟨#[c]⟩ = some (l.length : Int)) (hf : figsOk 16 l = true) (hv : valOf 16 l = v) (hb : b = decide (c = 120)) (hr : b = true ∨ rightI v = true) : Unit1 q (92 :: c :: l) v b :=
  .esc (c :: l) v b (by
    intro hm
    rcases List.mem_cons.mp hm with e | hm
    · subst e; revert hl; rw [show longE ⟨#[96]⟩ = none by decide +kernel]; exact fun h => nomatch h
    · exact figs96 (by decide) hf hm) fun T i r h => by
    have h1 : At T (i + 1) (c :: (l ++ r)) := At.next (c := 92) (by simpa using h)
    have e : Txt.slice T (some (i + 1)) (some (i + 2)) = ⟨#[c]⟩ := by rw [show i + 2 = i + 1 + 1 by omega]; exact h1.slice1
    have hfr : figsRead T (i + 2) l.length 16 = some v := by
      rw [← hv]
      refine figsRead_of (r := r) ?_ rfl hf
      have := h1.next
      rw [show i + 2 = i + 1 + 1 by omega]; exact this
    unfold escRead
    rw [e, hs]
    dsimp only
    rw [if_neg (by rw [str1]; simpa using hq), hl]
    dsimp only
    rw [hfr]
    dsimp only
    rw [lit_x, str1, ← hb, if_pos (by simpa using hr)]
    simp; omega
theorem unit_oct {q : Nat} {c : Nat} {l : List Nat} {v : Int} (hs : shortE ⟨#[c]⟩ = none) (hq : c ≠ q) (hl : longE ⟨#[c]⟩ = none) (h3 : l.length = 2) (hf : figsOk 8 (c :: l) = true) (hv : valOf 8 (c :: l) = v) (hv2 : v ≤ 255) : Unit1 q (92 :: c :: l) v true :=
  .esc (c :: l) v true (figs96 (by decide) hf) fun T i r h => by
    have h1 : At T (i + 1) (c :: (l ++ r)) := At.next (c := 92) (by simpa using h)
    have e : Txt.slice T (some (i + 1)) (some (i + 2)) = ⟨#[c]⟩ := by rw [show i + 2 = i + 1 + 1 by omega]; exact h1.slice1
    have hfr : figsRead T (i + 1) 3 8 = some v := by
      rw [← hv]
      exact figsRead_of (r := r) (by simpa using h1) (by simp [h3]) hf
    unfold escRead
    rw [e, hs]
    dsimp only
    rw [if_neg (by rw [str1]; simpa using hq), hl]
    dsimp only
    rw [hfr]
    dsimp only
    rw [if_neg (by omega)]
    simp [h3]

end
section
theorem sub_none {s sub : PySem.Str} {c : Nat} (hc : c ∈ sub.cps.toList) (hs : c ∉ s.cps.toList) (i : Nat) : Builtin.Str.subAt s sub i = false := by
  unfold Builtin.Str.subAt
  rw [beq_eq_false_iff_ne]
  intro e
  apply hs
  rw [← e, Array.toList_extract] at hc
  simp only [List.extract] at hc
  exact List.mem_of_mem_drop (List.mem_of_mem_take hc)
theorem occ_none {s sub : PySem.Str} {c : Nat} (hc : c ∈ sub.cps.toList) (hs : c ∉ s.cps.toList) (lo hi limit : Nat) : Builtin.Str.occurrences s sub lo hi limit = [] := by
  rcases h : Builtin.Str.occurrences s sub lo hi limit with _ | ⟨i, r⟩
  · rfl
  · have := (StrLaws.occ_spec s sub lo hi limit i (by rw [h]; exact .head _)).2
    rw [sub_none hc hs] at this
    cases this
theorem replace_none {s : PySem.Str} (hs : 95 ∉ s.cps.toList) : Txt.replace s (Str.ofString "_") (Str.ofString "") = s := by
  unfold Txt.replace
  rw [occ_none (c := 95) (by decide +kernel) hs]
  simp
theorem numBad_none {s : PySem.Str} {c : Nat} {l : List Nat} (he : s.cps.toList = c :: l) (hs : 95 ∉ s.cps.toList) : numBad s = false := by
  have hlen : s.length = l.length + 1 := by have := len_eq s; rw [he] at this; simpa using this
  have hm : ∀ i : Int, -(s.length : Int) ≤ i → i < s.length → (Txt.item s i == Str.ofString "_") = false := by
    intro i h1 h2
    have hc : ∃ x, Txt.item s i = ⟨#[x]⟩ ∧ x ∈ s.cps.toList := by
      by_cases h0 : 0 ≤ i
      · rw [item_eq s i h0 h2]
        refine ⟨_, rfl, ?_⟩
        unfold cpA
        rw [List.getElem?_eq_getElem (by have := len_eq s; omega)]
        exact List.getElem_mem _
      · unfold Txt.item Txt.charAt seqIndex?
        have hneg : i < 0 := by omega
        simp only [hneg, if_true]
        rw [if_pos (by simp only [Bool.and_eq_true, decide_eq_true_eq]; omega)]
        have hl : (i + (s.length : Int)).toNat < s.cps.toList.length := by have := len_eq s; omega
        refine ⟨_, rfl, ?_⟩
        simp only [Option.bind_some]
        have : s.cps[(i + (s.length : Int)).toNat]? = some (s.cps.toList[(i + (s.length : Int)).toNat]) := by
          rw [← Array.getElem?_toList, List.getElem?_eq_getElem hl]
        rw [this]
        exact List.getElem_mem _
    obtain ⟨x, hx, hm⟩ := hc
    rw [hx, show Str.ofString "_" = ⟨#[95]⟩ by decide +kernel, str1]
    refine decide_eq_false fun e => ?_
    subst e
    exact hs hm
  unfold numBad
  rw [hm 0 (by omega) (by omega), hm (-1) (by omega) (by omega), occ_none (c := 95) (by decide +kernel) hs]
  have : (s == Str.ofString "") = false := by
    rw [beq_eq_false_iff_ne]
    intro e
    rw [e, lit_0] at he
    cases he
  rw [this]
  rfl
inductive Ahead : List Nat → Int → Prop
  | ten : Ahead [] 10
  | six : Ahead [48, 120] 16
  | two : Ahead [48, 66] 2
  | eight : Ahead [48] 8
theorem parts_of {ah : List Nat} {b : Int} (A : Ahead ah b) {c : Nat} {l : List Nat} (hc : ∃ n : Fin 16, c = hx n.val ∧ 0 < n.val ∧ (n.val : Int) < b) (hl : ∀ x ∈ l, ∃ n : Fin 16, x = hx n.val ∧ (n.val : Int) < b) :
    numParts ⟨(ah ++ c :: l).toArray⟩ = (b, ⟨(c :: l).toArray⟩) := by
  have W := At.whole (ah ++ c :: l)
  have hn : ∀ k : Int, 0 ≤ k → Txt.slice ⟨(ah ++ c :: l).toArray⟩ none (some k) = ⟨((ah ++ c :: l).take k.toNat).toArray⟩ := fun k hk => by
    rw [slice_ns_all]; have := W.slice k hk; rw [show (0 : Int) + k = k by omega] at this; exact this
  have hsn : ∀ (a r : List Nat), ah ++ c :: l = a ++ r → Txt.slice ⟨(ah ++ c :: l).toArray⟩ (some (a.length : Int)) none = ⟨r.toArray⟩ := fun a r e => by
    refine str_ext ?_
    rw [slice_sn _ _ (by omega)]
    show (List.drop _ (ah ++ c :: l).toArray.toList) = _
    simp [e]
  have ten : ∀ n m : Fin 16, 0 < n.val → n.val < 10 → m.val < 10 → prefBase (Txt.lower ⟨#[hx n.val, hx m.val]⟩) = none := by decide +kernel
  have ten1 : ∀ n : Fin 16, 0 < n.val → n.val < 10 → prefBase (Txt.lower ⟨#[hx n.val]⟩) = none := by decide +kernel
  have hx0 : ∀ n : Fin 16, 0 < n.val → hx n.val ≠ 48 := by decide
  have hx95 : ∀ n : Fin 16, hx n.val ≠ 95 := by decide
  obtain ⟨n, rfl, hn0, hnb⟩ := hc
  unfold numParts
  rw [hn 2 (by decide)]
  cases A with
  | ten =>
    have hp : prefBase (Txt.lower ⟨((([] : List Nat) ++ hx n.val :: l).take (Int.toNat 2)).toArray⟩) = none := by
      cases l with
      | nil => exact ten1 n hn0 (by omega)
      | cons x l =>
        obtain ⟨m, rfl, hm⟩ := hl x (.head _)
        exact ten n m hn0 (by omega) (by omega)
    rw [hp]
    dsimp only
    split
    · have h0 : At ⟨([] ++ hx n.val :: l).toArray⟩ 0 (hx n.val :: l) := W
      rw [if_neg]
      · rfl
      · rw [h0.item, show Str.ofString "0" = ⟨#[48]⟩ by decide +kernel, str1]
        simpa using hx0 n hn0
    · rfl
  | six =>
    have hp : prefBase (Txt.lower ⟨((([48, 120] : List Nat) ++ hx n.val :: l).take (Int.toNat 2)).toArray⟩) = some 16 := by show prefBase (Txt.lower ⟨#[48, 120]⟩) = some 16; decide +kernel
    rw [hp]
    dsimp only
    have h2 : At ⟨([48, 120] ++ hx n.val :: l).toArray⟩ 2 (hx n.val :: l) := W.adv (l := [48, 120])
    rw [if_neg]
    · exact congrArg _ (hsn [48, 120] _ rfl)
    have h3 : Txt.slice _ (some 2) (some 3) = ⟨#[hx n.val]⟩ := h2.slice1
    rw [h3, show Str.ofString "_" = ⟨#[95]⟩ by decide +kernel, str1]
    simpa using hx95 n
  | two =>
    have hp : prefBase (Txt.lower ⟨((([48, 66] : List Nat) ++ hx n.val :: l).take (Int.toNat 2)).toArray⟩) = some 2 := by show prefBase (Txt.lower ⟨#[48, 66]⟩) = some 2; decide +kernel
    rw [hp]
    dsimp only
    have h2 : At ⟨([48, 66] ++ hx n.val :: l).toArray⟩ 2 (hx n.val :: l) := W.adv (l := [48, 66])
    rw [if_neg]
    · exact congrArg _ (hsn [48, 66] _ rfl)
    have h3 : Txt.slice _ (some 2) (some 3) = ⟨#[hx n.val]⟩ := h2.slice1
    rw [h3, show Str.ofString "_" = ⟨#[95]⟩ by decide +kernel, str1]
    simpa using hx95 n
  | eight =>
    have e8 : ∀ n : Fin 16, 0 < n.val → n.val < 8 → prefBase (Txt.lower ⟨#[48, hx n.val]⟩) = none := by decide +kernel
    have hp : prefBase (Txt.lower ⟨((([48] : List Nat) ++ hx n.val :: l).take (Int.toNat 2)).toArray⟩) = none := e8 n hn0 (by omega)
    rw [hp]
    dsimp only
    rw [if_pos (by show (1 : Int) < (((([48] : List Nat) ++ hx n.val :: l).toArray.size : Nat) : Int); simp; omega)]
    have h0 : At ⟨([48] ++ hx n.val :: l).toArray⟩ 0 (48 :: hx n.val :: l) := W
    have h1 : At ⟨([48] ++ hx n.val :: l).toArray⟩ 1 (hx n.val :: l) := h0.next
    rw [if_pos (by rw [h0.item, show Str.ofString "0" = ⟨#[48]⟩ by decide +kernel]; simp)]
    rw [if_neg]
    · exact congrArg _ (hsn [48] _ rfl)
    rw [h1.item, show Str.ofString "_" = ⟨#[95]⟩ by decide +kernel, str1]
    simpa using hx95 n
theorem numRead_of {T : PySem.Str} {i : Int} {ah : List Nat} {b : Int} (A : Ahead ah b) {c : Nat} {l : List Nat} (hc : ∃ n : Fin 16, c = hx n.val ∧ 0 < n.val ∧ (n.val : Int) < b) (hl : ∀ x ∈ l, ∃ n : Fin 16, x = hx n.val ∧ (n.val : Int) < b)
    (h : At T i (ah ++ c :: l)) : numRead T i = if 100 < l.length + 1 then .error i else .ok (⟨Str.ofString "int", ⟨(ah ++ c :: l).toArray⟩, i, .int (valOf b (c :: l))⟩, T.length) := by
  have hxn : ∀ n : Fin 16, hx n.val ∈ nameS.cps.toList := by decide +kernel
  have hx95 : ∀ n : Fin 16, hx n.val ≠ 95 := by decide
  have hall : ∀ x ∈ c :: l, ∃ n : Fin 16, x = hx n.val ∧ (n.val : Int) < b := fun x hx => by
    rcases List.mem_cons.mp hx with rfl | hx
    · obtain ⟨n, h1, h2, h3⟩ := hc; exact ⟨n, h1, h3⟩
    · exact hl x hx
  have hb : 2 ≤ b ∧ b ≤ 16 := by cases A <;> decide
  have hin : ∀ x ∈ ah ++ c :: l, decide (x ∈ nameS.cps.toList) = true := by
    intro x hx
    rcases List.mem_append.mp hx with hx | hx
    · cases A with
      | ten => cases hx
      | six => exact (by decide +kernel : ∀ x ∈ ([48, 120] : List Nat), decide (x ∈ nameS.cps.toList) = true) x hx
      | two => exact (by decide +kernel : ∀ x ∈ ([48, 66] : List Nat), decide (x ∈ nameS.cps.toList) = true) x hx
      | eight => exact (by decide +kernel : ∀ x ∈ ([48] : List Nat), decide (x ∈ nameS.cps.toList) = true) x hx
    · obtain ⟨n, rfl, _⟩ := hall x hx
      exact decide_eq_true (hxn n)
  have hend : runEnd T nameS i = i + ((ah ++ c :: l).length : Nat) := by
    have e := List.takeWhile_append_of_pos (l₂ := []) hin
    rw [List.append_nil, List.takeWhile_nil, List.append_nil] at e
    rw [h.runEnd, e]
  have hT : i + ((ah ++ c :: l).length : Nat) = T.length := h.len.symm
  have hsl : Txt.slice T (some i) (some (runEnd T nameS i)) = ⟨(ah ++ c :: l).toArray⟩ := by
    rw [hend]
    have := At.slice_all (l := ah ++ c :: l) (r := []) (by simpa using h)
    exact this
  have h95 : 95 ∉ (⟨(c :: l).toArray⟩ : PySem.Str).cps.toList := by
    intro hm
    have hm' : 95 ∈ c :: l := by simpa using hm
    obtain ⟨n, e, _⟩ := hall 95 hm'
    exact hx95 n e.symm
  unfold numRead
  rw [hsl, parts_of A hc hl]
  unfold numFin
  dsimp only
  rw [if_neg (by rw [numBad_none (c := c) (l := l) (by simp) h95]; decide), replace_none h95]
  have hlen : ((⟨(c :: l).toArray⟩ : PySem.Str).length) = l.length + 1 := by show (c :: l).toArray.size = _; simp
  rw [hlen]
  by_cases hb100 : 100 < l.length + 1
  · rw [if_pos hb100, if_pos (by omega)]
  · rw [if_neg hb100, if_neg (by omega)]
    have hok : figsOk b (⟨(c :: l).toArray⟩ : PySem.Str).cps.toList = true := by
      unfold figsOk
      rw [List.all_eq_true]
      intro x hx
      obtain ⟨n, rfl, hn⟩ := hall x (by simpa using hx)
      rw [hx_fig]
      exact decide_eq_true hn
    rw [if_pos hok]
    have hpt : numPt T (runEnd T nameS i) = false := by
      unfold numPt
      rw [hend, hT, decide_eq_false (by omega), Bool.and_false]
    rw [if_neg (by rw [hpt]; decide), hsl, hend, hT]

end
section
noncomputable abbrev flatT (ps : List (List Nat × Int × Bool)) : List Nat := ps.flatMap (·.1)
noncomputable abbrev flatB (ps : List (List Nat × Int × Bool)) : List Int := ps.flatMap fun p => if p.2.2 = true then [p.2.1] else octs p.2.1
theorem quotF_succ (T : PySem.Str) (n : Nat) (i : Int) (acc : List Int) : quotF T (n + 1) i acc =
    if ([Str.ofString "", Str.ofString "\n", Str.ofString "\""].any fun x => x == Txt.slice T (some i) (some (i + 1))) = true then .ok (acc, i)
    else if (Txt.item T i == Str.ofString "\\") = true then
      match escRead T i (Str.ofString "\"") with
      | none => .error i
      | some (v, b, j) => quotF T n j (acc ++ (if b = true then [v] else octs v))
    else if rightI (((Txt.item T i).cps.getD 0 0 : Nat) : Int) = true then quotF T n (i + 1) (acc ++ octs (((Txt.item T i).cps.getD 0 0 : Nat) : Int)) else .error i := Eq.refl _
theorem blanksF_succ (T : PySem.Str) (n : Nat) (i : Int) (b : Option Int) : blanksF T (n + 1) i b =
    if i < T.length then
      if hasS blankS (Txt.item T i) = true then blanksF T n (runEnd T blankS i) (brUpd T i (runEnd T blankS i) b)
      else if ([Str.ofString "//", Str.ofString "/*"].any fun x => x == Txt.slice T (some i) (some (i + 2))) = true then
        match remarkEnd T i with
        | none => .error i
        | some j => blanksF T n j (brUpd T i j b)
      else .ok (i, b)
    else .ok (i, b) := Eq.refl _
theorem quotFin_ok (T : PySem.Str) (i j : Int) (acc : List Int) : quotFin T i (.ok (acc, j)) = if (Txt.slice T (some j) (some (j + 1)) != Str.ofString "\"") = true then .error i else .ok (⟨Str.ofString "text", Txt.slice T (some i) (some (j + 1)), i, .bytes acc⟩, j + 1) := Eq.refl _
theorem quotF_of {T : PySem.Str} {r : List Nat} : ∀ (ps : List (List Nat × Int × Bool)) (n : Nat) (i : Int) (acc : List Int), (∀ p ∈ ps, Unit1 34 p.1 p.2.1 p.2.2) → At T i (flatT ps ++ 34 :: r) → ps.length < n →
    quotF T n i acc = .ok (acc ++ flatB ps, i + (flatT ps).length)
  | [], n + 1, i, acc, _, h, _ => by
    have h' : At T i (34 :: r) := by simpa using h
    rw [quotF_succ, if_pos (by rw [h'.slice1]; simp only [lit_0, lit_n, lit_q, List.any_cons, List.any_nil, str1, Bool.or_false, Bool.or_eq_true, decide_eq_true_eq]; simp)]
    simp
  | p :: ps, n + 1, i, acc, hu, h, hn => by
    have hn' : ps.length < n := by simp at hn; exact hn
    have hu' : ∀ p ∈ ps, Unit1 34 p.1 p.2.1 p.2.2 := fun q hq => hu q (.tail _ hq)
    have hh : At T i (p.1 ++ (flatT ps ++ 34 :: r)) := by simpa [flatT] using h
    obtain ⟨l, v, b⟩ := p
    have U : Unit1 34 l v b := hu _ (.head _)
    dsimp only at hh
    cases U with
    | plain c h1 h2 h3 h4 h5 =>
      have hc : At T i (c :: (flatT ps ++ 34 :: r)) := hh
      rw [quotF_succ, if_neg (by rw [hc.slice1]; simp only [lit_0, lit_n, lit_q, List.any_cons, List.any_nil, str1, str0, Bool.or_false, Bool.false_or, Bool.or_eq_true, decide_eq_true_eq]; omega)]
      rw [if_neg (by rw [hc.item, lit_b, str1]; simpa using h1), hc.item]
      rw [if_pos (by simpa using h4), quotF_of ps n (i + 1) _ hu' hc.next hn']
      simp [flatB, flatT]; omega
    | esc l v b h96 he =>
      have hc : At T i (92 :: (l ++ (flatT ps ++ 34 :: r))) := hh
      rw [quotF_succ, if_neg (by rw [hc.slice1]; simp only [lit_0, lit_n, lit_q, List.any_cons, List.any_nil, str1, str0]; decide)]
      rw [if_pos (by rw [hc.item, lit_b]; simp), lit_q, he T i _ hh]
      dsimp only
      have hadv : At T (i + ((l.length : Int) + 1)) (flatT ps ++ 34 :: r) := by
        have := At.adv (l := 92 :: l) hh
        rw [List.length_cons] at this
        simpa using this
      rw [quotF_of ps n _ _ hu' hadv hn']
      simp [flatB, flatT]; omega
theorem quotRead_of {T : PySem.Str} {i : Int} {r : List Nat} {ps : List (List Nat × Int × Bool)} (hu : ∀ p ∈ ps, Unit1 34 p.1 p.2.1 p.2.2) (h : At T i (34 :: flatT ps ++ 34 :: r)) (hn : ps.length ≤ T.length) :
    quotRead T i = .ok (⟨Str.ofString "text", ⟨(34 :: flatT ps ++ [34]).toArray⟩, i, .bytes (flatB ps)⟩, i + (flatT ps).length + 2) := by
  have h1 : At T (i + 1) (flatT ps ++ 34 :: r) := At.next (c := 34) (by simpa using h)
  unfold quotRead
  rw [quotF_of ps _ _ _ hu h1 (by omega)]
  have h2 := h1.adv
  rw [quotFin_ok, h2.slice1, lit_q, if_neg (by simp)]
  have h3 : At T i ((34 :: flatT ps ++ [34]) ++ r) := by simpa using h
  have := h3.slice_all
  rw [List.length_append, List.length_cons, List.length_singleton] at this
  rw [show i + 1 + ((flatT ps).length : Int) + 1 = i + (((flatT ps).length + 1 + 1 : Nat) : Int) by omega, this]
  simp; omega
theorem nameRead_of {T : PySem.Str} {i : Int} {nm r : List Nat} (hz : 90 ∈ nm) (hnm : ∀ c ∈ nm, c ∈ nameS.cps.toList) (h : At T i (nm ++ 32 :: r)) :
    nameRead T i = .ok (⟨Str.ofString "name", ⟨nm.toArray⟩, i, .none⟩, i + nm.length) := by
  have hend : runEnd T nameS i = i + (nm.length : Nat) := by
    rw [h.runEnd, List.takeWhile_append_of_pos (fun c hc => decide_eq_true (hnm c hc)), List.takeWhile_cons, if_neg (by decide +kernel)]
    simp
  have hsl : Txt.slice T (some i) (some (runEnd T nameS i)) = ⟨nm.toArray⟩ := by rw [hend]; exact h.slice_all
  unfold nameRead
  rw [hsl, hend]
  have hk : (kwList.any fun x => x == ⟨nm.toArray⟩) = false := by
    have : ∀ x ∈ kwList, 90 ∉ x.cps.toList := by decide +kernel
    rw [List.any_eq_false]
    intro x hx e
    have e := beq_iff_eq.mp e
    subst e
    exact this _ hx (by simpa using hz)
  rw [if_neg (by rw [hk]; decide)]
theorem blanks_word {T : PySem.Str} {i : Int} {c : Nat} {r : List Nat} {n : Nat} {b : Option Int} (h1 : c ∉ blankS.cps.toList) (h2 : c ≠ 47) (h : At T i (c :: r)) : blanksF T (n + 1) i b = .ok (i, b) := by
  rw [blanksF_succ, if_pos h.lt, if_neg (by rw [h.item, hasS_one]; simpa using h1), if_neg]
  have hs := h.slice 2 (by decide)
  rw [hs]
  simp only [List.any_cons, List.any_nil, Bool.or_false, Bool.or_eq_true, not_or]
  have key : ∀ x : PySem.Str, x.cps.toList.head? = some 47 → ¬ (x == (⟨(List.take (Int.toNat 2) (c :: r)).toArray⟩ : PySem.Str)) = true := by
    intro x hx e
    have e := beq_iff_eq.mp e
    subst e
    have : List.take (Int.toNat 2) (c :: r) = c :: List.take 1 r := rfl
    simp [this] at hx
    exact h2 hx
  exact ⟨key _ (by decide +kernel), key _ (by decide +kernel)⟩
theorem blanks_end {T : PySem.Str} {i : Int} {n : Nat} {b : Option Int} (h : At T i []) : blanksF T (n + 1) i b = .ok (i, b) := by
  rw [blanksF_succ, if_neg (by have := h.nil; omega)]
theorem find4_one {T : PySem.Str} {i : Int} {c : Nat} {r : List Nat} (h : At T i (c :: r)) (hc : c ≠ 10) : find4 T (Str.ofString "\n") i (i + 1) < 0 := by
  unfold find4 findP
  have : (List.range' i.toNat (min (i + 1).toNat T.length + 1 - i.toNat)).find? (fun k => decide (k + (Str.ofString "\n").length ≤ min (i + 1).toNat T.length) && Builtin.Str.subAt T (Str.ofString "\n") k) = none := by
    rw [List.find?_eq_none]
    intro k hk
    have hl : (Str.ofString "\n").length = 1 := by decide +kernel
    have h0 := h.h0
    simp only [List.mem_range'_1] at hk
    simp only [hl, Bool.and_eq_true, decide_eq_true_eq, not_and]
    intro hle
    have hk0 : k = i.toNat := by omega
    subst hk0
    unfold Builtin.Str.subAt
    rw [lit_n]
    intro e
    have e := beq_iff_eq.mp e
    have e2 := congrArg Array.toList e
    rw [Array.toList_extract] at e2
    simp only [List.extract] at e2
    rw [h.hd] at e2
    simp [PySem.Str.length] at e2
    exact hc e2
  rw [this]
  decide
theorem blanks_space {T : PySem.Str} {i : Int} {c : Nat} {r : List Nat} {n : Nat} (h1 : c ∉ blankS.cps.toList) (h2 : c ≠ 47) (h : At T i (32 :: c :: r)) : blanksF T (n + 2) i none = .ok (i + 1, none) := by
  have hr : runEnd T blankS i = i + 1 := by
    rw [h.runEnd, List.takeWhile_cons, if_pos (by decide +kernel), List.takeWhile_cons, if_neg (by simpa using h1)]
    rfl
  rw [blanksF_succ, if_pos h.lt, if_pos (by rw [h.item, hasS_one]; decide +kernel), hr]
  have hb : brUpd T i (i + 1) none = none := by
    show (if 0 ≤ find4 T (Str.ofString "\n") i (i + 1) then _ else _) = _
    rw [if_neg (by have := find4_one h (by decide); omega)]
  rw [hb]
  exact blanks_word h1 h2 h.next

end
section
theorem rowsF_word {T : PySem.Str} {n : Nat} {i j k : Int} {acc : List Wd} {wd : Wd} {c : Nat} {r : List Nat} (hb : blanksF T (T.length + 1) i none = .ok (j, none)) (h : At T j (c :: r)) (hw : wordRead T j = .ok (wd, k)) :
    rowsF T (n + 1) i acc = rowsF T n k (wd :: acc) := by
  have hj : j ≠ T.length := by have := h.lt; omega
  have hs : semi T j none acc = acc := by unfold semi; rw [show brk T j none = none from if_neg fun x => hj x.1]
  rw [rowsF_succ, hb]
  dsimp only
  rw [if_neg hj, hw]
  dsimp only
  rw [hs]
theorem rowsF_bad {T : PySem.Str} {n : Nat} {i j e : Int} {acc : List Wd} {c : Nat} {r : List Nat} (hb : blanksF T (T.length + 1) i none = .ok (j, none)) (h : At T j (c :: r)) (hw : wordRead T j = .error e) :
    rowsF T (n + 1) i acc = .error e := by
  have hj : j ≠ T.length := by have := h.lt; omega
  rw [rowsF_succ, hb]
  dsimp only
  rw [if_neg hj, hw]
theorem rowsF_end {T : PySem.Str} {n : Nat} {i : Int} {wd : Wd} {acc : List Wd} (h : At T i []) (he : endsL wd = true) :
    rowsF T (n + 1) i (wd :: acc) = .ok (⟨Str.ofString "end", Str.ofString "", T.length, .none⟩ :: ⟨Str.ofString "sign", Str.ofString ";", T.length, .none⟩ :: wd :: acc) := by
  have hi := h.nil
  have hs : semi T i none (wd :: acc) = ⟨Str.ofString "sign", Str.ofString ";", i, .none⟩ :: wd :: acc := by
    unfold semi; rw [show brk T i none = some i from if_pos ⟨hi, rfl⟩]; exact if_pos he
  rw [rowsF_succ, blanks_end h]
  dsimp only
  rw [if_pos hi, hs, hi]
theorem ends_int {t : PySem.Str} {i v : Int} : endsL ⟨Str.ofString "int", t, i, .int v⟩ = true := by
  unfold endsL
  have : (lineKinds.any fun x => x == Str.ofString "int") = true := by decide +kernel
  rw [this]; rfl
theorem word_quote {T : PySem.Str} {i : Int} {r : List Nat} (h : At T i (34 :: r)) : wordRead T i = quotRead T i := by
  unfold wordRead
  rw [h.item, if_neg (by rw [hasS_one]; decide +kernel), if_neg (by rw [hasS_one]; decide +kernel), if_pos (by rw [lit_q]; simp)]
theorem word_rune {T : PySem.Str} {i : Int} {r : List Nat} (h : At T i (39 :: r)) : wordRead T i = runeRead T i := by
  unfold wordRead
  rw [h.item, if_neg (by rw [hasS_one]; decide +kernel), if_neg (by rw [hasS_one]; decide +kernel), if_neg (by rw [lit_q, str1]; decide), if_neg (by rw [show Str.ofString "`" = ⟨#[96]⟩ by decide +kernel, str1]; decide), if_pos (by rw [lit_a]; simp)]
theorem word_name {T : PySem.Str} {i : Int} {c : Nat} {r : List Nat} (hc : c ∈ beginS.cps.toList) (h : At T i (c :: r)) : wordRead T i = nameRead T i := by
  unfold wordRead
  rw [h.item, if_pos (by rw [hasS_one]; exact decide_eq_true hc)]
theorem word_num {T : PySem.Str} {i : Int} {c : Nat} {r : List Nat} (hc : c ∈ figS.cps.toList) (hc2 : c ∉ beginS.cps.toList) (h : At T i (c :: r)) : wordRead T i = numRead T i := by
  unfold wordRead
  rw [h.item, if_neg (by rw [hasS_one]; simpa using hc2), if_pos (by rw [hasS_one]; exact decide_eq_true hc)]
structure RowT where
  (ps : List (List Nat × Int × Bool)) (rl : List Nat) (rv : Int) (rb : Bool) (nm ah : List Nat) (b : Int) (c : Nat) (l : List Nat)
noncomputable def RowT.text (R : RowT) : List Nat := 34 :: flatT R.ps ++ 34 :: 32 :: (39 :: R.rl ++ 39 :: 32 :: (R.nm ++ 32 :: (R.ah ++ R.c :: R.l)))
structure RowT.Ok (R : RowT) : Prop where
  hu : ∀ p ∈ R.ps, Unit1 34 p.1 p.2.1 p.2.2
  hr : Unit1 39 R.rl R.rv R.rb
  n0 : ∃ c r, R.nm = c :: r ∧ c ∈ beginS.cps.toList
  hz : 90 ∈ R.nm
  hn : ∀ c ∈ R.nm, c ∈ nameS.cps.toList
  A : Ahead R.ah R.b
  hc : ∃ n : Fin 16, R.c = hx n.val ∧ 0 < n.val ∧ (n.val : Int) < R.b
  hl : ∀ x ∈ R.l, ∃ n : Fin 16, x = hx n.val ∧ (n.val : Int) < R.b
  /-- the first figure is one of ten (only the base sixteen has more, and it has signs ahead) -/
  h10 : ∃ d r, R.ah ++ R.c :: R.l = d :: r ∧ d ∈ figS.cps.toList ∧ d ∉ beginS.cps.toList
noncomputable def RowT.p1 (R : RowT) : Int := (flatT R.ps).length + 3
noncomputable def RowT.p2 (R : RowT) : Int := R.p1 + R.rl.length + 3
noncomputable def RowT.p3 (R : RowT) : Int := R.p2 + R.nm.length + 1
noncomputable def RowT.due (R : RowT) : List Wd :=
  [⟨Str.ofString "text", ⟨(34 :: flatT R.ps ++ [34]).toArray⟩, 0, .bytes (flatB R.ps)⟩, ⟨Str.ofString "rune", ⟨(39 :: R.rl ++ [39]).toArray⟩, R.p1, .int R.rv⟩, ⟨Str.ofString "name", ⟨R.nm.toArray⟩, R.p2, .none⟩,
   ⟨Str.ofString "int", ⟨(R.ah ++ R.c :: R.l).toArray⟩, R.p3, .int (valOf R.b (R.c :: R.l))⟩]
theorem flat_len : ∀ (ps : List (List Nat × Int × Bool)), (∀ p ∈ ps, Unit1 34 p.1 p.2.1 p.2.2) → ps.length ≤ (flatT ps).length
  | [], _ => by simp
  | p :: ps, h => by
    have := flat_len ps fun q hq => h q (.tail _ hq)
    have hp : 1 ≤ p.1.length := by have U := h p (.head _); obtain ⟨l, v, b⟩ := p; cases U <;> simp
    simp only [flatT, List.flatMap_cons, List.length_append, List.length_cons] at this ⊢
    omega
theorem rows_of (R : RowT) (H : R.Ok) : rowsRead ⟨R.text.toArray⟩ = if 100 < R.l.length + 1 then .error R.p3 else
    .ok (⟨Str.ofString "end", Str.ofString "", R.text.length, .none⟩ :: ⟨Str.ofString "sign", Str.ofString ";", R.text.length, .none⟩ :: R.due.reverse) := by
  obtain ⟨hu, hr, n0, hz, hn, A, hc, hl, h10⟩ := H
  have hlen : (⟨R.text.toArray⟩ : PySem.Str).length = R.text.length := by show R.text.toArray.size = _; simp
  have W : At ⟨R.text.toArray⟩ 0 (34 :: flatT R.ps ++ 34 :: 32 :: (39 :: R.rl ++ 39 :: 32 :: (R.nm ++ 32 :: (R.ah ++ R.c :: R.l)))) := At.whole R.text
  have hbig : (flatT R.ps).length + 7 ≤ R.text.length := by unfold RowT.text; simp; omega
  have hfl := flat_len R.ps hu
  generalize hT : (⟨R.text.toArray⟩ : PySem.Str) = T at W hlen ⊢
  obtain ⟨f, hf⟩ : ∃ f, T.length + 1 = f + 5 := ⟨T.length - 4, by omega⟩
  unfold rowsRead
  rw [hf]
  have W0 : At T 0 (34 :: (flatT R.ps ++ 34 :: 32 :: (39 :: R.rl ++ 39 :: 32 :: (R.nm ++ 32 :: (R.ah ++ R.c :: R.l))))) := by simpa using W
  have W1 : At T (R.p1 - 1) (32 :: 39 :: (R.rl ++ 39 :: 32 :: (R.nm ++ 32 :: (R.ah ++ R.c :: R.l)))) := by
    have := At.adv (l := 34 :: flatT R.ps ++ [34]) (r := 32 :: 39 :: (R.rl ++ 39 :: 32 :: (R.nm ++ 32 :: (R.ah ++ R.c :: R.l)))) (T := T) (i := 0) (by simpa using W)
    have e : (0 : Int) + ((34 :: flatT R.ps ++ [34]).length : Nat) = R.p1 - 1 := by unfold RowT.p1; simp; omega
    rw [e] at this; exact this
  have W1' : At T R.p1 (39 :: R.rl ++ 39 :: 32 :: (R.nm ++ 32 :: (R.ah ++ R.c :: R.l))) := by
    have := W1.next; rw [show R.p1 - 1 + 1 = R.p1 by omega] at this; simpa using this
  have W2 : At T (R.p2 - 1) (32 :: (R.nm ++ 32 :: (R.ah ++ R.c :: R.l))) := by
    have := At.adv (l := 39 :: R.rl ++ [39]) (r := 32 :: (R.nm ++ 32 :: (R.ah ++ R.c :: R.l))) (T := T) (i := R.p1) (by simpa using W1')
    have e : R.p1 + ((39 :: R.rl ++ [39]).length : Nat) = R.p2 - 1 := by unfold RowT.p2; simp; omega
    rw [e] at this; exact this
  have W2' : At T R.p2 (R.nm ++ 32 :: (R.ah ++ R.c :: R.l)) := by
    have := W2.next; rw [show R.p2 - 1 + 1 = R.p2 by omega] at this; exact this
  have W3 : At T (R.p3 - 1) (32 :: (R.ah ++ R.c :: R.l)) := by
    have := W2'.adv
    rw [show R.p2 + (R.nm.length : Int) = R.p3 - 1 by unfold RowT.p3; omega] at this; exact this
  have W3' : At T R.p3 (R.ah ++ R.c :: R.l) := by
    have := W3.next; rw [show R.p3 - 1 + 1 = R.p3 by omega] at this; exact this
  have W4 : At T (T.length : Int) [] := by
    have := At.adv (l := R.ah ++ R.c :: R.l) (r := []) (T := T) (i := R.p3) (by simpa using W3')
    rw [← W3'.len] at this; exact this
  rw [rowsF_word (j := 0) (blanks_word (by decide +kernel) (by decide) W0) W0 (by rw [word_quote W0]; exact quotRead_of hu W (by omega))]
  rw [show (0 : Int) + ((flatT R.ps).length : Nat) + 2 = R.p1 - 1 by unfold RowT.p1; omega]
  have W1c : At T R.p1 (39 :: (R.rl ++ 39 :: 32 :: (R.nm ++ 32 :: (R.ah ++ R.c :: R.l)))) := by simpa using W1'
  have hb1 : blanksF T (T.length + 1) (R.p1 - 1) none = .ok (R.p1, none) := by
    rw [hf, blanks_space (by decide +kernel) (by decide) W1]; simp
  rw [rowsF_word (j := R.p1) hb1 W1c (by rw [word_rune W1c]; exact runeRead_of hr W1')]
  rw [show R.p1 + (R.rl.length : Int) + 2 = R.p2 - 1 by unfold RowT.p2; omega]
  obtain ⟨nc, nr, hnm, hnb⟩ := n0
  have hnbk : ∀ c ∈ beginS.cps.toList, c ∉ blankS.cps.toList ∧ c ≠ 47 := by decide +kernel
  have W2c : At T R.p2 (nc :: (nr ++ 32 :: (R.ah ++ R.c :: R.l))) := by have := W2'; rw [hnm] at this; simpa using this
  have W2s : At T (R.p2 - 1) (32 :: nc :: (nr ++ 32 :: (R.ah ++ R.c :: R.l))) := by have := W2; rw [hnm] at this; simpa using this
  have hb2 : blanksF T (T.length + 1) (R.p2 - 1) none = .ok (R.p2, none) := by
    rw [hf, blanks_space (hnbk nc hnb).1 (hnbk nc hnb).2 W2s]; simp
  rw [rowsF_word (j := R.p2) hb2 W2c (by rw [word_name hnb W2c]; exact nameRead_of hz hn W2')]
  rw [show R.p2 + (R.nm.length : Int) = R.p3 - 1 by unfold RowT.p3; omega]
  obtain ⟨d, dr, hd, hd1, hd2⟩ := h10
  have hfb : ∀ c ∈ figS.cps.toList, c ∉ blankS.cps.toList ∧ c ≠ 47 := by decide +kernel
  have W3c : At T R.p3 (d :: dr) := hd ▸ W3'
  have W3s : At T (R.p3 - 1) (32 :: d :: dr) := hd ▸ W3
  have hb3 : blanksF T (T.length + 1) (R.p3 - 1) none = .ok (R.p3, none) := by
    rw [hf, blanks_space (hfb d hd1).1 (hfb d hd1).2 W3s]; simp
  have hnum := numRead_of A hc hl W3'
  by_cases h100 : 100 < R.l.length + 1
  · rw [if_pos h100] at hnum ⊢
    rw [rowsF_bad hb3 W3c (by rw [word_num hd1 hd2 W3c]; exact hnum)]
  · rw [if_neg h100] at hnum ⊢
    rw [rowsF_word (j := R.p3) hb3 W3c (by rw [word_num hd1 hd2 W3c]; exact hnum)]
    rw [rowsF_end W4 ends_int, hlen]
    rfl

end
section
noncomputable def shortOk (T : PySem.Str) (v : Int) : Bool := T.cps.toList == [92, T.cps.toList.getD 1 0] && shortE ⟨#[T.cps.toList.getD 1 0]⟩ == some v
theorem unit_shortS {qc : Nat} {T : PySem.Str} {v : Int} (h : shortOk T v = true) : Unit1 qc T.cps.toList v false := by
  unfold shortOk at h
  rw [Bool.and_eq_true] at h
  have h1 := eq_of_beq h.1
  generalize T.cps.toList.getD 1 0 = c at *
  rw [h1]
  exact unit_short (beq_iff_eq.mp h.2)
theorem unit_quoteS {qc : Nat} {q : PySem.Str} (hq : q = ⟨#[qc]⟩) (hqc : qc = 34 ∨ qc = 39) : Unit1 qc (Str.ofString "\\" ++ q).cps.toList ((q.cps.getD 0 0 : Nat) : Int) false := by
  subst hq
  rw [app_list, show (Str.ofString "\\").cps.toList = [92] by decide +kernel]
  exact unit_quote (by rcases hqc with rfl | rfl <;> decide +kernel) (by rcases hqc with rfl | rfl <;> decide)
theorem dg8 {n : Int} : ∀ k, ∀ d ∈ dg 8 k n, d < 8 := fun k => dg_lt (b := 8) rfl (by decide) n k
theorem dg16 {n : Int} : ∀ k, ∀ d ∈ dg 16 k n, d < 16 := fun k => dg_lt (b := 16) rfl (by decide) n k
theorem unit_octF {qc : Nat} {f : PySem.Str} {n : Int} (hf : f = (figA 8 (Int.toNat 3) n).1) (h0 : 0 ≤ n) (h1 : n ≤ 255) (hqc : qc = 34 ∨ qc = 39) : Unit1 qc (Str.ofString "\\" ++ f).cps.toList n true := by
  subst hf
  rw [show Int.toNat 3 = 3 from rfl]
  rw [app_list, show (Str.ofString "\\").cps.toList = [92] by decide +kernel, fig_fst (by decide) (by decide)]
  have hv := val_of_figs (base := 8) (b := 8) rfl (by decide) (by decide) hx_fig (i := n) (k := 3) h0 (by omega)
  have hok := figsOk_map (base := 8) (b := 8) rfl (by decide) hx_fig (l := dg 8 3 n) (dg8 3)
  have hlen := dg_len 8 n 3
  obtain ⟨d, r, hd⟩ : ∃ d r, dg 8 3 n = d :: r := ⟨_, _, rfl⟩
  have hd8 : d < 8 := dg8 3 d (by rw [hd]; exact .head _)
  rw [hd] at hv hok hlen ⊢
  rw [List.map_cons] at hv hok ⊢
  have key : ∀ d : _root_.Fin 8, shortE ⟨#[hx d.val]⟩ = none ∧ longE ⟨#[hx d.val]⟩ = none ∧ hx d.val ≠ 34 ∧ hx d.val ≠ 39 := by decide +kernel
  obtain ⟨k1, k2, k3, k4⟩ := key ⟨d, hd8⟩
  refine unit_oct k1 ?_ k2 (by simpa using hlen) hok hv h1
  rcases hqc with rfl | rfl
  · exact k3
  · exact k4
theorem unit_16 {qc : Nat} {k c : Nat} {n : Int} {g : Nat → Nat} (hg : ∀ n : _root_.Fin 16, figW ⟨#[g n.val]⟩ = (n.val : Int)) (hs : shortE ⟨#[c]⟩ = none) (hq : c ≠ qc) (hl : longE ⟨#[c]⟩ = some (k : Int)) (h0 : 0 ≤ n) (h1 : n < 16 ^ k) {b : Bool} (hb : b = decide (c = 120)) (hr : b = true ∨ rightI n = true) :
    Unit1 qc (92 :: c :: (dg 16 k n).map g) n b :=
  unit_long hs hq (by rw [List.length_map, dg_len]; exact hl) (figsOk_map (b := 16) rfl (by decide) hg (dg16 k)) (val_of_figs (b := 16) rfl (by decide) (by decide) hg h0 h1) hb hr
theorem fig_str {base : Int} (hb : 0 < base) (hb2 : base ≤ 16) (n : Int) (k : Nat) : (figA base k n).1 = ⟨((dg base k n).map hx).toArray⟩ := str_ext (by rw [fig_fst hb hb2])
theorem unit_xF {qc : Nat} {c f : PySem.Str} {n : Int} (hf : f = (figA 16 (Int.toNat 2) n).1) (hc : c = f ∨ c = Txt.upper f) (h0 : 0 ≤ n) (h1 : n ≤ 255) (hqc : qc = 34 ∨ qc = 39) : Unit1 qc (Str.ofString "\\x" ++ c).cps.toList n true := by
  subst hf
  rw [show Int.toNat 2 = 2 from rfl] at hc
  rw [app_list, show (Str.ofString "\\x").cps.toList = [92, 120] by decide +kernel]
  have hq : 120 ≠ qc := by rcases hqc with rfl | rfl <;> decide
  rcases hc with rfl | rfl
  · rw [fig_fst (by decide) (by decide)]
    exact unit_16 hx_fig (by decide +kernel) hq (by decide +kernel) h0 (by omega) (by decide) (.inl rfl)
  · rw [fig_str (by decide) (by decide), up_map _ (dg16 2)]
    exact unit_16 ux_fig (by decide +kernel) hq (by decide +kernel) h0 (by omega) (by decide) (.inl rfl)
theorem unit_UF {qc : Nat} {f : PySem.Str} {n : Int} (hf : f = (figA 16 (Int.toNat 8) n).1) (h0 : 0 ≤ n) (h1 : n ≤ 1114111) (hr : rightI n = true) (hqc : qc = 34 ∨ qc = 39) : Unit1 qc (Str.ofString "\\U" ++ f).cps.toList n false := by
  subst hf
  rw [show Int.toNat 8 = 8 from rfl]
  rw [app_list, show (Str.ofString "\\U").cps.toList = [92, 85] by decide +kernel, fig_fst (by decide) (by decide)]
  have hq : 85 ≠ qc := by rcases hqc with rfl | rfl <;> decide
  exact unit_16 hx_fig (by decide +kernel) hq (by decide +kernel) h0 (by omega) (by decide) (.inr hr)
theorem fmod_h {n : Int} : 0 ≤ n.fmod 55296 ∧ n.fmod 55296 < 55296 := ⟨by rw [Int.fmod_eq_emod_of_nonneg _ (by decide)]; exact Int.emod_nonneg _ (by decide), Int.fmod_lt_of_pos _ (by decide)⟩
theorem right_h {n : Int} : rightI (n.fmod 55296) = true := by
  have := fmod_h (n := n)
  unfold rightI
  simp only [Bool.and_eq_true, decide_eq_true_eq, Bool.not_eq_true', Bool.and_eq_false_iff, decide_eq_false_iff_not]
  omega
theorem unit_uF {qc : Nat} {f : PySem.Str} {n : Int} (hf : f = (figA 16 (Int.toNat 4) (n.fmod 55296)).1) (hqc : qc = 34 ∨ qc = 39) : Unit1 qc (Str.ofString "\\u" ++ Txt.upper f).cps.toList (n.fmod 55296) false := by
  subst hf
  rw [show Int.toNat 4 = 4 from rfl]
  have h := fmod_h (n := n)
  rw [app_list, show (Str.ofString "\\u").cps.toList = [92, 117] by decide +kernel, fig_str (by decide) (by decide), up_map _ (dg16 4)]
  have hq : 117 ≠ qc := by rcases hqc with rfl | rfl <;> decide
  exact unit_16 ux_fig (by decide +kernel) hq (by decide +kernel) h.1 (by omega) (by decide) (.inr right_h)
noncomputable def plainOk (qc : Nat) (c : PySem.Str) : Bool := match c.cps.toList with
  | [x] => x != 92 && x != 10 && x != qc && rightI x && x != 96
  | _ => false
theorem unit_plain {qc : Nat} {c : PySem.Str} {l : List PySem.Str} (h : c ∈ l) (hl : l.all (plainOk qc) = true) : Unit1 qc c.cps.toList ((c.cps.getD 0 0 : Nat) : Int) false := by
  have hp := List.all_eq_true.mp hl c h
  unfold plainOk at hp
  generalize hx : c.cps.toList = z at hp
  cases z with
  | nil => cases hp
  | cons x z =>
    cases z with
    | cons y z => cases hp
    | nil =>
      have e : c = ⟨#[x]⟩ := str_ext hx
      subst e
      dsimp only at hp
      simp only [Bool.and_eq_true, bne_iff_ne] at hp
      exact .plain x hp.1.1.1.1 hp.1.1.1.2 hp.1.1.2 hp.1.2 hp.2
theorem plain_range {qc : Nat} {l : List Nat} {v : Int} (U : Unit1 qc l v false) (hl : l.length = 1) : 0 ≤ v ∧ v ≤ 1114111 := by
  cases U with
  | plain c h1 h2 h3 h4 h5 =>
    unfold rightI at h4
    simp only [Bool.and_eq_true, decide_eq_true_eq] at h4
    omega
  | esc l v b h96 h =>
    simp at hl
    subst hl
    have := h ⟨#[92]⟩ 0 [] (At.whole [92])
    have e : ∀ q : PySem.Str, escRead ⟨#[92]⟩ 0 q = some (v, false, 1) → 0 ≤ v ∧ v ≤ 1114111 := by
      intro q hq
      unfold escRead at hq
      rw [show Txt.slice (⟨#[92]⟩ : PySem.Str) (some (0 + 1)) (some (0 + 2)) = ⟨#[]⟩ by decide +kernel] at hq
      rw [show shortE ⟨#[]⟩ = none by decide +kernel, show longE ⟨#[]⟩ = none by decide +kernel] at hq
      dsimp only at hq
      split at hq
      · simp at hq
      · rw [show figsRead (⟨#[92]⟩ : PySem.Str) (0 + 1) 3 8 = none by decide +kernel] at hq
        cases hq
    exact e _ (by simpa using this)
inductive RPiece (qc : Nat) : Value → List (Addr × Obj) → Obj → Prop
  | mk (X : Addr) (T : PySem.Str) (k : Int) (fl : Bool) (t1 t2 : Tok) (a b : Int) (t3 t4 : Tok) (n : Nat) (h : Unit1 qc T.cps.toList k fl) (h0 : 0 ≤ k) (h1 : k ≤ 1114111) (h2 : fl = true → k ≤ 255) (hl : T.length ≤ 10) (ha : 0 ≤ a) (hb : 0 ≤ b) :
    RPiece qc (.ref X) [(X, tupO [.str T t1, .int k t2, .bool fl])] (W.listOf #[.int a t3, .int b t4] n)

end
section
structure NumT (T : PySem.Str) (k : Int) (fl : Bool) (ah : List Nat) (bs : Int) (c : Nat) (l : List Nat) : Prop where
  hT : T = ⟨(ah ++ c :: l).toArray⟩
  A : Ahead ah bs
  hc : ∃ n : _root_.Fin 16, c = hx n.val ∧ 0 < n.val ∧ (n.val : Int) < bs
  hl : ∀ x ∈ l, ∃ n : _root_.Fin 16, x = hx n.val ∧ (n.val : Int) < bs
  h10 : ∃ d r, ah ++ c :: l = d :: r ∧ d ∈ figS.cps.toList ∧ d ∉ beginS.cps.toList
  hv : k = valOf bs (c :: l)
  hf : fl = decide (100 < l.length + 1)
  hlen : T.length ≤ 103
theorem pow_up {b : Int} (h : 1 ≤ b) : ∀ {i j : Nat}, i ≤ j → b ^ i ≤ b ^ j := by
  intro i j hij
  induction j with
  | zero => rw [Nat.le_zero.mp hij]; exact Int.le_refl _
  | succ j ih =>
    rcases Nat.lt_or_ge i (j + 1) with h1 | h1
    · refine Int.le_trans (ih (Nat.le_of_lt_succ h1)) ?_
      rw [Int.pow_succ]
      have := Int.mul_le_mul_of_nonneg_left h (Int.le_of_lt (Int.pow_pos (m := j) (show 0 < b by omega)))
      rwa [Int.mul_one] at this
    · rw [show i = j + 1 by omega]; exact Int.le_refl _
theorem lo7 {k base : Int} (h : k < if 7 < base - 1 then 7 else base - 1) : 1 + k ≤ 7 ∧ 1 + k + 1 ≤ base := by split at h <;> omega
theorem below1 {n : Int} (h : 1 ≤ n) : n = (((n - 1).toNat + 1 : Nat) : Int) := by omega
theorem down_j (j : Nat) : (((j + 1 : Nat) : Int) - 1).toNat = j := by omega
theorem pow5 (j : Nat) : (if 5 < ((j + 1 : Nat) : Int) - 1 then 5 else ((j + 1 : Nat) : Int) - 1).toNat ≤ j := by split <;> omega
theorem one_k {k : Int} (h0 : 0 ≤ k) (h7 : 1 + k ≤ 7) : ∃ d : Nat, (d : Int) = 1 + k ∧ 0 < d ∧ d < 8 := ⟨(1 + k).toNat, by omega⟩
theorem len103 {j a : Nat} (h : ((j + 1 : Nat) : Int) ≤ 101) (h2 : a ≤ 2) : a + (j + 1) ≤ 103 := by omega
theorem num_of {base : Int} {b : Nat} {ah : List Nat} {AH f : PySem.Str} {n k k' : Int} (A : Ahead ah base) (hb : base = (b : Int)) (hA : AH.cps.toList = ah) (hn : 1 ≤ n) (hn1 : n ≤ 101) (h0 : 0 ≤ k) (h1 : k < if 7 < base - 1 then 7 else base - 1)
    (h0' : 0 ≤ k') (h1' : k' < base ^ (if 5 < n - 1 then 5 else n - 1).toNat) (hf : f = (figA base n.toNat ((1 + k) * base ^ (n - 1).toNat + k')).1) :
    ∃ c l, NumT (AH ++ f) ((1 + k) * base ^ (n - 1).toNat + k') (decide (100 < n)) ah base c l := by
  have hb2 : 2 ≤ base ∧ base ≤ 16 := by cases A <;> decide
  have hbn : 2 ≤ b ∧ b ≤ 16 := by rw [hb] at hb2; exact ⟨Int.ofNat_le.mp hb2.1, Int.ofNat_le.mp hb2.2⟩
  have b1 : 0 < b := Nat.lt_of_lt_of_le (by decide) hbn.1
  have b0 : 0 < base := Int.lt_of_lt_of_le (by decide) hb2.1
  have hk7 : 1 + k ≤ 7 ∧ 1 + k + 1 ≤ base := lo7 h1
  clear h1
  obtain ⟨j, rfl⟩ : ∃ j : Nat, n = ((j + 1 : Nat) : Int) := ⟨(n - 1).toNat, below1 hn⟩
  have e1 : ((j + 1 : Nat) : Int).toNat = j + 1 := Int.toNat_natCast _
  have e2 : (((j + 1 : Nat) : Int) - 1).toNat = j := down_j j
  rw [e1, e2] at hf
  rw [e2]
  have hp : 0 < base ^ j := Int.pow_pos b0
  have hle : base ^ (if 5 < ((j + 1 : Nat) : Int) - 1 then 5 else ((j + 1 : Nat) : Int) - 1).toNat ≤ base ^ j := pow_up b0 (pow5 j)
  have hk' : k' < base ^ j := Int.lt_of_lt_of_le h1' hle
  clear h1' hle
  generalize hv : (1 + k) * base ^ j + k' = v at hf ⊢
  have hv0 : 0 ≤ v := by rw [← hv]; exact Int.add_nonneg (Int.mul_nonneg (Int.add_nonneg (by decide) h0) (Int.le_of_lt hp)) h0'
  have hq : v / base ^ j = 1 + k := by
    rw [← hv, Int.add_comm, Int.add_mul_ediv_right _ _ (Int.ne_of_gt hp), Int.ediv_eq_zero_of_lt h0' hk', Int.zero_add]
  have hv1 : v < base ^ (j + 1) := by
    rw [← hv, Int.pow_succ, Int.mul_comm (base ^ j)]
    refine Int.lt_of_lt_of_le (Int.add_lt_add_left hk' _) ?_
    have := Int.mul_le_mul_of_nonneg_right hk7.2 (Int.le_of_lt hp)
    rwa [Int.add_mul, Int.one_mul] at this
  have hd : dg base (j + 1) v = (1 + k).toNat :: dg base j v := by
    rw [dg, hq, Int.emod_eq_of_lt (Int.add_nonneg (by decide) h0) (Int.lt_of_lt_of_le (Int.lt_succ _) hk7.2)]
  have hdl : ∀ d ∈ dg base j v, d < b := dg_lt hb b1 v j
  have hfl : f.cps.toList = hx (1 + k).toNat :: (dg base j v).map hx := by rw [hf, fig_fst b0 hb2.2, hd]; rfl
  have hT : (AH ++ f).cps.toList = ah ++ hx (1 + k).toNat :: (dg base j v).map hx := by rw [app_list, hA, hfl]
  have hlen : (AH ++ f).length ≤ 103 := by
    rw [len_eq, hT, List.length_append, List.length_cons, List.length_map, dg_len]
    exact len103 hn1 (by cases A <;> decide)
  obtain ⟨d1, hd1, d1p, d17⟩ : ∃ d : Nat, (d : Int) = 1 + k ∧ 0 < d ∧ d < 8 := one_k h0 hk7.1
  have e3 : (1 + k).toNat = d1 := by rw [← hd1]; exact Int.toNat_natCast _
  rw [e3] at hT hd
  have hcc : ∃ m : _root_.Fin 16, hx d1 = hx m.val ∧ 0 < m.val ∧ (m.val : Int) < base := ⟨⟨d1, Nat.lt_trans d17 (by decide)⟩, rfl, d1p, Int.lt_of_lt_of_le (Int.lt_succ _) (by rw [hd1]; exact hk7.2)⟩
  have hll : ∀ x ∈ (dg base j v).map hx, ∃ m : _root_.Fin 16, x = hx m.val ∧ (m.val : Int) < base := by
    intro x hx'
    obtain ⟨d, hd', rfl⟩ := List.mem_map.mp hx'
    have := hdl d hd'
    exact ⟨⟨d, Nat.lt_of_lt_of_le this hbn.2⟩, rfl, by rw [hb]; exact Int.ofNat_lt.mpr this⟩
  refine ⟨hx d1, (dg base j v).map hx, str_ext (by rw [hT]), A, hcc, hll, ?_, ?_, ?_, hlen⟩
  · have key : ∀ m : _root_.Fin 8, hx m.val ∈ figS.cps.toList ∧ hx m.val ∉ beginS.cps.toList := by decide +kernel
    have k48 : 48 ∈ figS.cps.toList ∧ 48 ∉ beginS.cps.toList := by decide +kernel
    cases A with
    | ten => exact ⟨_, _, rfl, key ⟨d1, d17⟩⟩
    | six => exact ⟨_, _, rfl, k48⟩
    | two => exact ⟨_, _, rfl, k48⟩
    | eight => exact ⟨_, _, rfl, k48⟩
  · have := val_of_figs (base := base) hb b1 hbn.2 hx_fig (i := v) (k := j + 1) hv0 hv1
    rw [hd, List.map_cons] at this
    exact this.symm
  · rw [List.length_map, dg_len]
    exact decide_eq_decide.mpr Int.ofNat_lt
inductive RNum : Value → List (Addr × Obj) → Obj → Prop
  | mk (X : Addr) (T : PySem.Str) (k : Int) (fl : Bool) (t1 t2 : Tok) (a b : Int) (t3 t4 : Tok) (n : Nat) (ah : List Nat) (bs : Int) (h : ∃ c l, NumT T k fl ah bs c l) (ha : 0 ≤ a) (hb : 0 ≤ b) :
    RNum (.ref X) [(X, tupO [.str T t1, .int k t2, .bool fl])] (W.listOf #[.int a t3, .int b t4] n)

end
section
theorem SrcD.up {prog : Program} {w : World} {A : Around} {h₀ : Heap} {L : Addr} {m : PySem.Str → Option Value} {env : Env} {elt : Expr} {x : PySem.Str} {scope : Scope} {cl : List (PySem.Str × Addr)} {Fin : Shared → List Value → List (Addr × Obj) → Prop} {r : Addr} {b : Int} {t u v : Tok} {news : List (Addr × Obj)} {s₁ : Shared}
    (hh : A.handled = none) (F : Fr h₀ L s₁.heap m) (N : News h₀ L s₁.heap news) (hr : IsRange s₁.heap r 0 b 1 t u v) (h0 : 0 ≤ b) (h1 : b ≤ 1000)
    (h : ∀ g, LCg.CompRest prog w A h₀ L m env elt x scope cl { s₁ with heap := g } (fun _ => True) (fun i v => ∃ t, v = .int (0 + (i : Int) * 1) t) (Fin { s₁ with heap := g }) b.toNat 0 [] news) :
    SrcD prog w A h₀ L m env elt x scope cl Fin (.ref r) s₁ :=
  SrcD.range hh F N hr (small_one (by omega) (by omega) (by omega) (by omega)) (by unfold Builtin.Range.rangeSize; rw [if_pos (by decide)]; split <;> omega) (by rw [sizeLine_eq]; omega) h
theorem UpdG.app {d : Addr} {o : Obj} {news : List (Addr × Obj)} {upd : Obj → List (Addr × Obj)} {r : List (Addr × Obj)} {g : Obj → List (Addr × Obj)} : ∀ {l : List (Addr × Obj)}, (∀ p ∈ l, p.1 ≠ d) → UpdG d o news upd r g → UpdG d o news upd (l ++ r) (fun o' => l ++ g o')
  | [], _, h => h
  | p :: l, hl, h => .tail (hl p (.head _)) (UpdG.app (fun q hq => hl q (.tail _ hq)) h)
theorem UpdG.mem {d : Addr} {o : Obj} {news : List (Addr × Obj)} {upd : Obj → List (Addr × Obj)} : ∀ {l : List (Addr × Obj)} {g : Obj → List (Addr × Obj)}, UpdG d o news upd l g → (d, o) ∈ l
  | _, _, .head => .head _
  | _, _, .tail h r => .tail _ (UpdG.mem r)
theorem CtrS.useX {w : World} {f : Addr} {vs : List Value} {d u : Nat} {S : Addr} {o : Obj} {led : List (Addr × Obj)} {R : Value → List (Addr × Obj) → Obj → Prop} (C : CtrS w f vs d u S o led R)
    {p : Program} {loose : List Str} {mean : ExcName → Option Value} {mg mb : Str → Option Value} {dp un : Nat} {gd : Option (List Code)} {cn : Str} {cs : Scope} {a : Addr} {ccd : Value} {cl : List (Str × Addr)}
    {outer : List Env} {A₀ : Around} {base h₀ : Heap} {L : Addr} {m : Str → Option Value} {news big : List (Addr × Obj)} {upd g : Obj → List (Addr × Obj)} {s : Shared} {Q E : Value → Shared → Prop}
    (B : Below A₀ base outer h₀) (F : Fr h₀ L s.heap m) (K : (Mine.hd.heap_39 w.params).In h₀) (N : News h₀ L s.heap big) (T : Top p loose mean mg mb h₀) (hk : cs.kind = .function) (hd : dp + d < recursionLimit) (hu : un + u < cLine)
    (U : UpdF S o news upd) (G : UpdG S o news upd big g) (hl : ∀ q ∈ led, q ∈ big ∧ q.1 ≠ S)
    (hr : ∀ v nw o' h' tk, R v nw o' → Fr h₀ L h' m → News h₀ L h' (nw ++ g o') → UpdF S o' (upd o') upd → (∀ p ∈ nw, @LT.lt Nat _ S p.1) → Q v { s with heap := h', toks := tk }) :
    wpAny (model PySem.Challenge.pw_pf0076_01 w) (ktrTop dp un gd cn cs L a ccd cl outer) (call (.ref f) vs) Q E s :=
  CtrS.use C B F K N T hk hd hu U G hl fun v nw o' h' tk r F' N' U' l => hr v nw o' h' tk r F' N' U' fun p hp => l _ (UpdG.mem G) p hp
theorem tupK {prog : Program} {w : World} {A : Around} {E : Value → Shared → Prop} {s : Shared} {h₀ : Heap} {L D : Addr} {news : List (Addr × Obj)} {value slice : Expr} {vs : List Value} {k : Int} {u : Tok} {j : Nat} {v : Value} {Q : Value → Shared → Prop} (N : News h₀ L s.heap news) (hm : (D, tupO vs) ∈ news) (ha : -(2 ^ 63) ≤ k) (hb : k < 2 ^ 63) (hj : seqIndex? k vs.length = some j) (hx : vs[j]? = some v)
    (h : Q v s) (hs : subscripted slice false (.ref D) (.int k u) = operate [.ref D, .int k u] (getItem (.ref D) (.int k u))) :
    wpAny (model prog w) A (subscriptTail value slice (.ref D) (.int k u)) Q E s :=
  item_tupleT ⟨_, (N _ hm).1, rfl, _, rfl⟩ ha hb hj hx h hs
theorem UpdG.again {d : Addr} {o o' : Obj} {news : List (Addr × Obj)} {upd : Obj → List (Addr × Obj)} : ∀ {l : List (Addr × Obj)} {g : Obj → List (Addr × Obj)}, UpdG d o news upd l g → UpdG d o' (upd o') upd (g o') g
  | _, _, .head => .head
  | _, _, .tail h r => .tail h (UpdG.again r)
theorem UpdG.self {d : Addr} {o : Obj} {news : List (Addr × Obj)} {upd : Obj → List (Addr × Obj)} (e : upd o = news) : ∀ {l : List (Addr × Obj)} {g : Obj → List (Addr × Obj)}, UpdG d o news upd l g → g o = l
  | _, _, .head => congrArg _ e
  | _, _, .tail h r => congrArg _ (UpdG.self e r)
theorem UpdG.addr {d : Addr} {o o' : Obj} {news : List (Addr × Obj)} {upd : Obj → List (Addr × Obj)} (U : UpdF d o news upd) : ∀ {l : List (Addr × Obj)} {g : Obj → List (Addr × Obj)}, UpdG d o news upd l g → ∀ q ∈ g o', ∃ p ∈ l, p.1 = q.1
  | _, _, .head => fun q hq => by
    rcases List.mem_cons.mp hq with rfl | hq
    · exact ⟨_, .head _, rfl⟩
    · obtain ⟨p, hp, e⟩ := UpdF.addr U q hq
      exact ⟨p, .tail _ hp, e⟩
  | _, _, .tail h r => fun q hq => by
    rcases List.mem_cons.mp hq with rfl | hq
    · exact ⟨_, .head _, rfl⟩
    · obtain ⟨p, hp, e⟩ := UpdG.addr U r q hq
      exact ⟨p, .tail _ hp, e⟩
noncomputable abbrev loO (a b : Int) (t3 t4 : Tok) (c : Nat) : Obj := W.listOf #[.int a t3, .int b t4] c
theorem comp_S {prog : Program} {w : World} {A : Around} {h₀ : Heap} {L : Addr} {m : PySem.Str → Option Value} {env : Env} {elt : Expr} {x : PySem.Str} {scope : Scope} {cl : List (PySem.Str × Addr)} {s : Shared} {P : Nat → Value → Prop} {Fin : List Value → List (Addr × Obj) → Prop} {n : Nat} {news : List (Addr × Obj)}
    {S : Addr} {a b : Int} {t3 t4 : Tok} {c : Nat} {upd g : Obj → List (Addr × Obj)} (rel : Value → Prop) (U : UpdF S (loO a b t3 t4 c) (upd (loO a b t3 t4 c)) upd) (G : UpdG S (loO a b t3 t4 c) (upd (loO a b t3 t4 c)) upd news g) (ha : 0 ≤ a) (hb : 0 ≤ b)
    (turn : ∀ ys (a b : Int) (t3 t4 : Tok) (c : Nat) I oI C oC D m₂ h tk (E' : Value → Shared → Prop), 0 ≤ a → 0 ≤ b → UpdF S (loO a b t3 t4 c) (upd (loO a b t3 t4 c)) upd → LCg.NsObj oC m₂ → Fr h₀ L h m →
      News h₀ L h ((I, oI) :: (C, oC) :: (D, LCg.lst ys) :: g (loO a b t3 t4 c)) → ((@Ne Nat I S) ∧ (@Ne Nat C S) ∧ (@Ne Nat D S)) →
      wpAny (model prog w) A (eval elt (compEnvC scope cl C env)) (fun y s₂ => Hold (∃ h' tk' big a' b' t3' t4' c', s₂ = { s with heap := h', toks := tk' } ∧ Fr h₀ L h' m ∧ News h₀ L h' big ∧ (∀ q ∈ (I, oI) :: (C, oC) :: (D, LCg.lst ys) :: g (loO a' b' t3' t4' c'), q ∈ big) ∧ 0 ≤ a' ∧ 0 ≤ b' ∧
        UpdF S (loO a' b' t3' t4' c') (upd (loO a' b' t3' t4' c')) upd ∧ rel y)) E' { s with heap := h, toks := tk })
    (fin : ∀ ys (a b : Int) (t3 t4 : Tok) (c : Nat), ys.length = n → (∀ y ∈ ys, rel y) → 0 ≤ a → 0 ≤ b → UpdF S (loO a b t3 t4 c) (upd (loO a b t3 t4 c)) upd → Fin ys (g (loO a b t3 t4 c))) :
    LCg.CompRest prog w A h₀ L m env elt x scope cl s (fun _ => True) P Fin n 0 [] news := by
  have eN : g (loO a b t3 t4 c) = news := UpdG.self rfl G
  refine comp_inv (fun i ys nw => ∃ (a b : Int) (t3 t4 : Tok) (c : Nat), ys.length = i ∧ (∀ y ∈ ys, rel y) ∧ 0 ≤ a ∧ 0 ≤ b ∧ UpdF S (loO a b t3 t4 c) (upd (loO a b t3 t4 c)) upd ∧ nw = g (loO a b t3 t4 c)) ⟨a, b, t3, t4, c, rfl, (fun _ h => nomatch h), ha, hb, U, eN.symm⟩ ?_ ?_
  · rintro i ys nw v I oI C oC D m₂ h tk E' hi ⟨a, b, t3, t4, c, rfl, hr, ha, hb, U, rfl⟩ hP hC hx F N off ne
    have om := off.mem
    have hS := om _ (UpdG.mem (UpdG.again (o' := loO a b t3 t4 c) G))
    refine wpAny_mono (turn ys a b t3 t4 c I oI C oC D m₂ h tk E' ha hb U hC F N ⟨Ne.symm hS.1, Ne.symm hS.2.1, Ne.symm hS.2.2⟩) (fun y s₂ hq => ?_) fun _ _ e => e
    obtain ⟨h', tk', big, a', b', t3', t4', c', e, F', N', sub, ha', hb', U', hy⟩ := hq
    subst e
    refine LCg.CompEnd.intro F' N' _ sub (LCg.Off3.of fun q hq => ?_) trivial ⟨a', b', t3', t4', c', by simp, ?_, ha', hb', U', rfl⟩
    · obtain ⟨r, hr, er⟩ := UpdG.addr U (UpdG.again (o' := loO a b t3 t4 c) G) q hq
      exact er ▸ om r hr
    · intro z hz
      rcases List.mem_append.mp hz with hz | hz
      · exact hr z hz
      · rw [List.mem_singleton.mp hz]; exact hy
  · rintro ys nw ⟨a, b, t3, t4, c, h1, hr, ha, hb, U, rfl⟩
    exact fin ys a b t3 t4 c h1 hr ha hb U
noncomputable def isOne (T : PySem.Str) (y : Value) : Prop := ∃ c t, y = .str ⟨#[c]⟩ t ∧ c ∈ T.cps.toList
theorem ones_strs {T : PySem.Str} : ∀ {ys : List Value}, (∀ y ∈ ys, isOne T y) → ∃ cs : List Nat, cs.length = ys.length ∧ StrsAre ys (cs.map fun c => (⟨#[c]⟩ : PySem.Str)) ∧ ∀ c ∈ cs, c ∈ T.cps.toList
  | [], _ => ⟨[], rfl, .nil, fun _ h => nomatch h⟩
  | y :: ys, h => by
    obtain ⟨cs, h1, h2, h3⟩ := ones_strs fun z hz => h z (.tail _ hz)
    obtain ⟨c, t, rfl, hc⟩ := h y (.head _)
    refine ⟨c :: cs, by simp [h1], .cons _ _ h2, fun z hz => ?_⟩
    rcases List.mem_cons.mp hz with rfl | hz
    · exact hc
    · exact h3 z hz
theorem one_of {T : PySem.Str} {k : Int} {t : Tok} (h0 : 0 ≤ k) (h1 : k < T.length) : isOne T (.str (Txt.item T k) t) := by
  refine ⟨cpA T k.toNat, t, by rw [item_eq T k h0 h1], ?_⟩
  unfold cpA
  rw [List.getElem?_eq_getElem (by have := len_eq T; omega)]
  exact List.getElem_mem _
theorem shrinkL {h₀ h : Heap} {L D0 l D1 D2 D3 D4 X X1 D5 D6 : Addr} {t0 o t1 a2 a3 a4 x x1 a5 a6 : Obj} {L1 r : List (Addr × Obj)}
    (N : News h₀ L h ((D0, t0) :: (l, o) :: (D1, t1) :: (D2, a2) :: (D3, a3) :: (D4, a4) :: (X, x) :: (X1, x1) :: (D5, a5) :: (D6, a6) :: (L1 ++ r))) (A : AllLt l (L1 ++ r)) (b1 : @LT.lt Nat _ D1 l) (b2 : @LT.lt Nat _ X l) (b3 : @LT.lt Nat _ X1 l) :
    News h₀ L h ((l, o) :: (D1, t1) :: (X, x) :: (X1, x1) :: r) ∧ ∀ q ∈ (D1, t1) :: (X, x) :: (X1, x1) :: r, @LT.lt Nat _ q.1 l := by
  refine ⟨fun q hq => N q ?_, fun q hq => ?_⟩
  · rcases List.mem_cons.mp hq with rfl | hq
    · exact .tail _ (.head _)
    · rcases List.mem_cons.mp hq with rfl | hq
      · exact .tail _ (.tail _ (.head _))
      · rcases List.mem_cons.mp hq with rfl | hq
        · exact .tail _ (.tail _ (.tail _ (.tail _ (.tail _ (.tail _ (.head _))))))
        · rcases List.mem_cons.mp hq with rfl | hq
          · exact .tail _ (.tail _ (.tail _ (.tail _ (.tail _ (.tail _ (.tail _ (.head _)))))))
          · exact .tail _ (.tail _ (.tail _ (.tail _ (.tail _ (.tail _ (.tail _ (.tail _ (.tail _ (.tail _ (List.mem_append.mpr (.inr hq)))))))))))
  · rcases List.mem_cons.mp hq with rfl | hq
    · exact b1
    · rcases List.mem_cons.mp hq with rfl | hq
      · exact b2
      · rcases List.mem_cons.mp hq with rfl | hq
        · exact b3
        · exact ktn_ltOf A q (List.mem_append.mpr (.inr hq))
structure Pc where
  (X : Addr) (T : PySem.Str) (k : Int) (fl : Bool) (t1 t2 : Tok)
noncomputable abbrev Pc.led (p : Pc) : Addr × Obj := (p.X, tupO [.str p.T p.t1, .int p.k p.t2, .bool p.fl])
noncomputable abbrev pcL (ps : List Pc) : List (Addr × Obj) := ps.map Pc.led
noncomputable abbrev pcV (ps : List Pc) : List Value := ps.map fun p => Value.ref p.X
structure Pc.Ok (qc : Nat) (p : Pc) : Prop where
  h : Unit1 qc p.T.cps.toList p.k p.fl
  h0 : 0 ≤ p.k
  h1 : p.k ≤ 1114111
  h2 : p.fl = true → p.k ≤ 255
  hl : p.T.length ≤ 10
theorem comp_pieces {prog : Program} {w : World} {A : Around} {h₀ : Heap} {L : Addr} {m : PySem.Str → Option Value} {env : Env} {elt : Expr} {x : PySem.Str} {scope : Scope} {cl : List (PySem.Str × Addr)} {s : Shared} {P : Nat → Value → Prop} {Fin : List Value → List (Addr × Obj) → Prop} {n : Nat}
    {S : Addr} {a b : Int} {t3 t4 : Tok} {c : Nat} {c1 c2 : Addr × Obj} {upd : Obj → List (Addr × Obj)} (qc : Nat) (U : UpdF S (W.listOf #[.int a t3, .int b t4] c) (upd (W.listOf #[.int a t3, .int b t4] c)) upd) (ha : 0 ≤ a) (hb : 0 ≤ b)
    (turn : ∀ (ps : List Pc) (a b : Int) (t3 t4 : Tok) (c : Nat) I oI C oC D m₂ h tk (E' : Value → Shared → Prop), 0 ≤ a → 0 ≤ b → UpdF S (W.listOf #[.int a t3, .int b t4] c) (upd (W.listOf #[.int a t3, .int b t4] c)) upd → (∀ q ∈ pcL ps, q.1 ≠ S) → LCg.NsObj oC m₂ → Fr h₀ L h m →
      News h₀ L h ((I, oI) :: (C, oC) :: (D, LCg.lst (pcV ps)) :: (pcL ps ++ (c1 :: c2 :: (S, W.listOf #[.int a t3, .int b t4] c) :: upd (W.listOf #[.int a t3, .int b t4] c)))) →
      LCg.Off3 I C D (pcL ps ++ (c1 :: c2 :: (S, W.listOf #[.int a t3, .int b t4] c) :: upd (W.listOf #[.int a t3, .int b t4] c))) → ((@Ne Nat I C) ∧ (@Ne Nat I D) ∧ (@Ne Nat C D)) → ((@Ne Nat I S) ∧ (@Ne Nat C S) ∧ (@Ne Nat D S)) →
      wpAny (model prog w) A (eval elt (compEnvC scope cl C env)) (LCg.CompEnd h₀ L m { s with heap := h, toks := tk } I oI C oC D (LCg.lst (pcV ps)) (fun _ => True) (fun y nw' => ∃ (p : Pc) (a b : Int) (t3 t4 : Tok) (c : Nat), y = .ref p.X ∧ p.Ok qc ∧ p.X ≠ S ∧ 0 ≤ a ∧ 0 ≤ b ∧
        UpdF S (W.listOf #[.int a t3, .int b t4] c) (upd (W.listOf #[.int a t3, .int b t4] c)) upd ∧ nw' = pcL (ps ++ [p]) ++ (c1 :: c2 :: (S, W.listOf #[.int a t3, .int b t4] c) :: upd (W.listOf #[.int a t3, .int b t4] c)))) E' { s with heap := h, toks := tk })
    (fin : ∀ (ps : List Pc) (a b : Int) (t3 t4 : Tok) (c : Nat), ps.length = n → (∀ p ∈ ps, p.Ok qc) → (∀ q ∈ pcL ps, q.1 ≠ S) → 0 ≤ a → 0 ≤ b → UpdF S (W.listOf #[.int a t3, .int b t4] c) (upd (W.listOf #[.int a t3, .int b t4] c)) upd →
      Fin (pcV ps) (pcL ps ++ (c1 :: c2 :: (S, W.listOf #[.int a t3, .int b t4] c) :: upd (W.listOf #[.int a t3, .int b t4] c)))) :
    LCg.CompRest prog w A h₀ L m env elt x scope cl s (fun _ => True) P Fin n 0 [] (c1 :: c2 :: (S, W.listOf #[.int a t3, .int b t4] c) :: upd (W.listOf #[.int a t3, .int b t4] c)) := by
  refine comp_inv (fun i ys nw => ∃ (ps : List Pc) (a b : Int) (t3 t4 : Tok) (c : Nat), ps.length = i ∧ ys = pcV ps ∧ (∀ p ∈ ps, p.Ok qc) ∧ (∀ q ∈ pcL ps, q.1 ≠ S) ∧ 0 ≤ a ∧ 0 ≤ b ∧ UpdF S (W.listOf #[.int a t3, .int b t4] c) (upd (W.listOf #[.int a t3, .int b t4] c)) upd ∧
    nw = pcL ps ++ (c1 :: c2 :: (S, W.listOf #[.int a t3, .int b t4] c) :: upd (W.listOf #[.int a t3, .int b t4] c))) ⟨[], a, b, t3, t4, c, rfl, rfl, (fun _ h => nomatch h), (fun _ h => nomatch h), ha, hb, U, rfl⟩ ?_ ?_
  · rintro i ys nw v I oI C oC D m₂ h tk E' hi ⟨ps, a, b, t3, t4, c, rfl, rfl, hok, hS, ha, hb, U, rfl⟩ hP hC hx F N off ne
    refine wpAny_mono (turn ps a b t3 t4 c I oI C oC D m₂ h tk E' ha hb U hS hC F N off ne (by have z := off.mem (S, W.listOf #[.int a t3, .int b t4] c) (List.mem_append_right _ (.tail _ (.tail _ (.head _)))); exact ⟨Ne.symm z.1, Ne.symm z.2.1, Ne.symm z.2.2⟩)) (fun y s₂ hq => ?_) fun _ _ e => e
    obtain ⟨h', tk', nw', e, F', N', off', hS', p, a', b', t3', t4', c', rfl, hp, hpS, ha', hb', U', rfl⟩ := hq
    refine ⟨h', tk', _, e, F', N', off', hS', ps ++ [p], a', b', t3', t4', c', by simp, by simp [pcV], ?_, ?_, ha', hb', U', rfl⟩
    · intro q hq
      rcases List.mem_append.mp hq with hq | hq
      · exact hok q hq
      · rw [List.mem_singleton.mp hq]; exact hp
    · intro q hq
      rw [show pcL (ps ++ [p]) = pcL ps ++ [p.led] by simp [pcL]] at hq
      rcases List.mem_append.mp hq with hq | hq
      · exact hS q hq
      · rw [List.mem_singleton.mp hq]; exact hpS
  · rintro ys nw ⟨ps, a, b, t3, t4, c, h1, rfl, hok, hS, ha, hb, U, rfl⟩
    exact fin ps a b t3 t4 c h1 hok hS ha hb U
theorem pc_end {h₀ : Heap} {L I C D S X : Addr} {m : PySem.Str → Option Value} {s₁ : Shared} {oI oC oD : Obj} {h' : Heap} {tk qc : Nat} {ps : List Pc} {c1 c2 : Addr × Obj} {a b a' b' : Int} {t3 t4 t3' t4' t1 t2 : Tok} {c c' : Nat} {upd : Obj → List (Addr × Obj)} {T : PySem.Str} {k : Int} {fl : Bool}
    (U : UpdF S (W.listOf #[.int a t3, .int b t4] c) (upd (W.listOf #[.int a t3, .int b t4] c)) upd) (U' : UpdF S (W.listOf #[.int a' t3', .int b' t4'] c') (upd (W.listOf #[.int a' t3', .int b' t4'] c')) upd)
    (off : LCg.Off3 I C D (pcL ps ++ (c1 :: c2 :: (S, W.listOf #[.int a t3, .int b t4] c) :: upd (W.listOf #[.int a t3, .int b t4] c))))
    (F : Fr h₀ L h' m) (N : News h₀ L h' ((X, tupO [.str T t1, .int k t2, .bool fl]) :: (I, oI) :: (C, oC) :: (D, oD) :: (pcL ps ++ (c1 :: c2 :: (S, W.listOf #[.int a' t3', .int b' t4'] c') :: upd (W.listOf #[.int a' t3', .int b' t4'] c')))))
    (l : ∀ q ∈ (I, oI) :: (C, oC) :: (D, oD) :: (pcL ps ++ (c1 :: c2 :: (S, W.listOf #[.int a t3, .int b t4] c) :: upd (W.listOf #[.int a t3, .int b t4] c))), ∀ p ∈ [(X, tupO [.str T t1, .int k t2, .bool fl])], q.1 < p.1)
    (h : Unit1 qc T.cps.toList k fl) (h0 : 0 ≤ k) (h1 : k ≤ 1114111) (h2 : fl = true → k ≤ 255) (hl : T.length ≤ 10) (ha : 0 ≤ a') (hb : 0 ≤ b') :
    LCg.CompEnd h₀ L m s₁ I oI C oC D oD (fun _ => True) (fun y nw' => ∃ (p : Pc) (a b : Int) (t3 t4 : Tok) (c : Nat), y = .ref p.X ∧ p.Ok qc ∧ p.X ≠ S ∧ 0 ≤ a ∧ 0 ≤ b ∧
        UpdF S (W.listOf #[.int a t3, .int b t4] c) (upd (W.listOf #[.int a t3, .int b t4] c)) upd ∧ nw' = pcL (ps ++ [p]) ++ (c1 :: c2 :: (S, W.listOf #[.int a t3, .int b t4] c) :: upd (W.listOf #[.int a t3, .int b t4] c))) (.ref X) { s₁ with heap := h', toks := tk } := by
  have e : pcL (ps ++ [⟨X, T, k, fl, t1, t2⟩]) = pcL ps ++ [(X, tupO [.str T t1, .int k t2, .bool fl])] := by simp [pcL]
  have lt : ∀ q ∈ (I, oI) :: (C, oC) :: (D, oD) :: (pcL ps ++ (c1 :: c2 :: (S, W.listOf #[.int a t3, .int b t4] c) :: upd (W.listOf #[.int a t3, .int b t4] c))), q.1 < X := fun q hq => l q hq _ (.head _)
  have om := off.mem
  refine LCg.CompEnd.intro F N _ (fun p hp => ?_) (LCg.Off3.of fun q hq => ?_) trivial ⟨⟨X, T, k, fl, t1, t2⟩, a', b', t3', t4', c', rfl, ⟨h, h0, h1, h2, hl⟩, ?_, ha, hb, U', rfl⟩
  · rcases List.mem_cons.mp hp with rfl | hp
    · exact .tail _ (.head _)
    · rcases List.mem_cons.mp hp with rfl | hp
      · exact .tail _ (.tail _ (.head _))
      · rcases List.mem_cons.mp hp with rfl | hp
        · exact .tail _ (.tail _ (.tail _ (.head _)))
        · rw [e, List.append_assoc] at hp
          rcases List.mem_append.mp hp with hp | hp
          · exact .tail _ (.tail _ (.tail _ (.tail _ (List.mem_append.mpr (.inl hp)))))
          · rcases List.mem_cons.mp hp with rfl | hp
            · exact .head _
            · exact .tail _ (.tail _ (.tail _ (.tail _ (List.mem_append.mpr (.inr hp)))))
  · rw [e, List.append_assoc] at hq
    have old : ∀ r ∈ pcL ps ++ (c1 :: c2 :: (S, W.listOf #[.int a t3, .int b t4] c) :: upd (W.listOf #[.int a t3, .int b t4] c)), r.1 = q.1 → q.1 ≠ I ∧ q.1 ≠ C ∧ q.1 ≠ D := fun r hr er => er ▸ om r hr
    rcases List.mem_append.mp hq with hq | hq
    · exact old q (List.mem_append.mpr (.inl hq)) rfl
    · rcases List.mem_cons.mp hq with rfl | hq
      · exact ⟨Nat.ne_of_gt (lt _ (.head _)), Nat.ne_of_gt (lt _ (.tail _ (.head _))), Nat.ne_of_gt (lt _ (.tail _ (.tail _ (.head _))))⟩
      · rcases List.mem_cons.mp hq with rfl | hq
        · exact old _ (List.mem_append.mpr (.inr (.head _))) rfl
        · rcases List.mem_cons.mp hq with rfl | hq
          · exact old _ (List.mem_append.mpr (.inr (.tail _ (.head _)))) rfl
          · rcases List.mem_cons.mp hq with rfl | hq
            · exact old (S, W.listOf #[.int a t3, .int b t4] c) (List.mem_append.mpr (.inr (.tail _ (.tail _ (.head _))))) rfl
            · obtain ⟨r, hr, er⟩ := UpdF.addr U q hq
              exact old r (List.mem_append.mpr (.inr (.tail _ (.tail _ (.tail _ hr))))) er
  · exact Nat.ne_of_gt (lt (S, W.listOf #[.int a t3, .int b t4] c) (.tail _ (.tail _ (.tail _ (List.mem_append.mpr (.inr (.tail _ (.tail _ (.head _)))))))))
inductive All2 {α β : Type} (r : α → β → Prop) : List α → List β → Prop
  | nil : All2 r [] []
  | cons {a : α} {b : β} {l : List α} {k : List β} (h : r a b) (t : All2 r l k) : All2 r (a :: l) (b :: k)
theorem All2.snoc {α β : Type} {r : α → β → Prop} {a : α} {b : β} (h : r a b) {l : List α} {k : List β} (H : All2 r l k) : All2 r (l ++ [a]) (k ++ [b]) := by
  induction H with
  | nil => exact .cons h .nil
  | cons x t ih => exact .cons x ih
theorem all2_strs {ps : List Pc} {ys : List Value} (H : All2 (fun (p : Pc) y => ∃ t, y = .str p.T t) ps ys) : StrsAre ys (ps.map Pc.T) := by
  induction H with
  | nil => exact .nil
  | cons h t ih => obtain ⟨u, rfl⟩ := h; exact .cons _ _ ih
theorem comp_over {prog : Program} {w : World} {A : Around} {h₀ : Heap} {L ax : Addr} {m : PySem.Str → Option Value} {env : Env} {elt : Expr} {x : PySem.Str} {scope : Scope} {cl : List (PySem.Str × Addr)} {s : Shared} {Fin : List Value → List (Addr × Obj) → Prop} {news : List (Addr × Obj)} {ps : List Pc}
    (rel : Pc → Value → Prop) (hsrc : LCg.SrcAt h₀ ax (pcV ps).toArray news) (hin : ∀ p ∈ ps, p.led ∈ news)
    (turn : ∀ p ∈ ps, ∀ ys I oI C oC D m₂ h tk (E' : Value → Shared → Prop), LCg.NsObj oC m₂ → m₂ x = some (.ref p.X) → Fr h₀ L h m → News h₀ L h (p.led :: (I, oI) :: (C, oC) :: (D, LCg.lst ys) :: news) → LCg.Off3 I C D news → ((@Ne Nat I C) ∧ (@Ne Nat I D) ∧ (@Ne Nat C D)) →
      wpAny (model prog w) A (eval elt (compEnvC scope cl C env)) (fun y s₂ => Hold (∃ h' tk' big, s₂ = { s with heap := h', toks := tk' } ∧ Fr h₀ L h' m ∧ News h₀ L h' big ∧ (∀ q ∈ (I, oI) :: (C, oC) :: (D, LCg.lst ys) :: news, q ∈ big) ∧ rel p y)) E' { s with heap := h, toks := tk })
    (fin : ∀ ys, All2 rel ps ys → Fin ys news) :
    LCg.CompRest prog w A h₀ L m env elt x scope cl s (LCg.SrcAt h₀ ax (pcV ps).toArray) (fun i v => (pcV ps).toArray[i]? = some v) Fin (pcV ps).toArray.size 0 [] news := by
  have hsz : (pcV ps).toArray.size = ps.length := by simp [pcV]
  rw [hsz]
  refine comp_inv (fun i ys nw => i ≤ ps.length ∧ nw = news ∧ All2 rel (ps.take i) ys) ⟨Nat.zero_le _, rfl, .nil⟩ ?_ ?_
  · rintro i ys nw v I oI C oC D m₂ h tk E' hi ⟨_, rfl, hA⟩ hP hC hx F N off ne
    have hpi : ps[i]? = some (ps[i]) := List.getElem?_eq_getElem hi
    have hv : v = .ref (ps[i]).X := by
      have : (pcV ps)[i]? = some v := by simpa using hP
      rw [pcV, List.getElem?_map, hpi] at this
      simpa using this.symm
    subst hv
    have hm : ps[i] ∈ ps := List.getElem_mem hi
    refine wpAny_mono (turn _ hm ys I oI C oC D m₂ h tk E' hC hx F (fun q hq => ?_) off ne) (fun y s₂ hq => ?_) fun _ _ e => e
    · rcases List.mem_cons.mp hq with rfl | hq
      · exact N _ (.tail _ (.tail _ (.tail _ (hin _ hm))))
      · exact N _ hq
    · obtain ⟨h', tk', big, e, F', N', sub, hr⟩ := hq
      subst e
      refine LCg.CompEnd.intro F' N' nw sub off hsrc ⟨hi, rfl, ?_⟩
      rw [List.take_add_one, hpi]
      exact hA.snoc hr
  · rintro ys nw ⟨_, rfl, hA⟩
    rw [List.take_length] at hA
    exact fin ys hA
theorem glued_list (sep : PySem.Str) (hs : sep.cps.toList = []) : ∀ l : List PySem.Str, (Txt.join sep l).cps.toList = l.flatMap fun x => x.cps.toList := by
  have he : sep = Str.empty := str_ext hs
  subst he
  have key : ∀ (l : List PySem.Str) (acc : Array Nat), (l.foldl (fun acc p => acc ++ Str.empty.cps ++ p.cps) acc).toList = acc.toList ++ l.flatMap fun x => x.cps.toList := by
    intro l
    induction l with
    | nil => intro acc; simp
    | cons a l ih =>
      intro acc
      rw [List.foldl_cons, ih]
      simp [Str.empty]
  intro l
  cases l with
  | nil => rfl
  | cons a l =>
    show (l.foldl (fun acc p => acc ++ Str.empty.cps ++ p.cps) a.cps).toList = _
    rw [key]
    rfl
theorem flat_sum : ∀ l : List PySem.Str, (l.flatMap fun x => x.cps.toList).length = (l.map (·.length)).sum
  | [] => rfl
  | a :: l => by rw [List.flatMap_cons, List.length_append, flat_sum l, List.map_cons, List.sum_cons, len_eq]
theorem join_gen {prog : Program} {w : World} {A : Around} {E : Value → Shared → Prop} {s : Shared} {h₀ : Heap} {L D : Addr} {news : List (Addr × Obj)} {ys : List Value} {ts : List PySem.Str} {t : Tok} {n : Nat} {Q : Value → Shared → Prop} (N : News h₀ L s.heap news) (hm : (D, W.listOf ys.toArray n) ∈ news) (hs : StrsAre ys ts) (B : Nat) (hB : ∀ a ∈ ts, a.length ≤ B) (hc : ts.length * B ≤ 1000)
    (h : ∀ J t' k, J.cps.toList = ts.flatMap (fun x => x.cps.toList) → J.length ≤ 1000 → Q (.str J t') { s with toks := k }) :
    wpAny (model prog w) A (call (.builtin "str.join") [.str (Str.ofString "") t, .ref D]) Q E s := by
  have hsum := StrLaws.sumLen_le ts hB
  have hz : (Str.ofString "").length = 0 := by decide +kernel
  refine join_list (D := D) (items := ys.toArray) (ys := ts) ⟨_, (N _ hm).1, rfl, _, rfl⟩ (by simpa using hs) (by rw [hz]; omega) fun t' k => h _ t' k (glued_list _ (by decide +kernel) ts) ?_
  rw [len_eq, glued_list _ (by decide +kernel) ts, flat_sum]
  omega
theorem off1_app {D : Addr} : ∀ {l r : List (Addr × Obj)}, LCg.Off1 D (l ++ r) = (LCg.Off1 D l ∧ LCg.Off1 D r)
  | [], r => (true_and (LCg.Off1 D r)).symm
  | p :: l, r => by
    show (_ ∧ LCg.Off1 D (l ++ r)) = ((_ ∧ LCg.Off1 D l) ∧ LCg.Off1 D r)
    rw [off1_app, and_assoc]
noncomputable def CtrTS (w : World) (f : Addr) (vs : List Value) (d u : Nat) (S : Addr) (o : Obj) (R : Value → List (Addr × Obj) → Obj → Prop) : Prop :=
  ∀ (p : Program) (loose : List Str) (mean : ExcName → Option Value) (mg mb : Str → Option Value) (dp un : Nat) (gd : Option (List Code)) (cn : Str) (cs : Scope) (a : Addr) (ccd : Value) (cl : List (Str × Addr))
    (outer : List Env) (A₀ : Around) (base h₀ g₀ : Heap) (L : Addr) (m : Str → Option Value) (news : List (Addr × Obj)) (upd : Obj → List (Addr × Obj)) (s : Shared) (Q E : Value → Shared → Prop),
    Below A₀ base outer h₀ → Fr h₀ L s.heap m → (Mine.hd.heap_39 w.params).In h₀ → (Mine.hd.heap_39 w.params).In base → News h₀ L s.heap news → Top p loose mean mg mb h₀ → Top p loose mean mg mb base → KtsDicts (outer.filterMap (·.frame)) h₀ → KtsTurn (outer.filterMap (·.frame)) g₀ h₀ →
    cs.kind = .function → dp + d < recursionLimit → un + u < cLine → UpdF S o news upd →
    (∀ v nw o' h' tk h₁, R v nw o' → KtsTurn (outer.filterMap (·.frame)) g₀ h₁ → Fr h₁ L h' m → News h₁ L h' (nw ++ upd o') → (∀ q ∈ news, ∀ p ∈ nw, q.1 < p.1) → Below A₀ base outer h₁ → (Mine.hd.heap_39 w.params).In h₁ → Top p loose mean mg mb h₁ → KtsDicts (outer.filterMap (·.frame)) h₁ → Q v { s with heap := h', toks := tk }) →
    wpR (model PySem.Challenge.pw_pf0076_01 w) (ktrTop dp un gd cn cs L a ccd cl outer) (call (.ref f) vs) Q E s

end
section
open PySem.SeqAt
inductive SameV : Value → Value → Prop
  | none : SameV .none .none
  | int (k : Int) (t u : Tok) : SameV (.int k t) (.int k u)
  | str (x : PySem.Str) (t u : Tok) : SameV (.str x t) (.str x u)
  | bytes (b : Array UInt8) (t u : Tok) : SameV (.bytes b t) (.bytes b u)
theorem SameV.at {a b : Value} (h : SameV a b) (A : Around) (s : Shared) : EqAt A s a b true := by
  cases h with
  | none => exact EqAt.same .none
  | int k t u => simpa using (MeetsSeq.EqGives.int k k t u).at A s
  | str x t u => simpa using (eqGives_str x x t u).at A s
  | bytes b t u =>
    intro prog w E Q h
    unfold eqBool
    refine wpAny_holding ?_
    refine wpAny_ite_split (fun _ => wpAny_bind (wpAny_rule (wpAny_pure h))) (fun _ => ?_)
    refine wpAny_bind ?_
    exact PySem.W.eq_bytes (wpAny_truthy_bool (by simpa using h))
theorem all_tt : ∀ n : Nat, ((List.range n).all fun _ => true) = true := fun n => List.all_eq_true.mpr fun _ _ => rfl
inductive SameVs : List Value → List Value → Prop
  | nil : SameVs [] []
  | cons {a b : Value} {l k : List Value} (h : SameV a b) (t : SameVs l k) : SameVs (a :: l) (b :: k)
theorem SameVs.len {l k : List Value} (H : SameVs l k) : l.length = k.length := by
  induction H with
  | nil => rfl
  | cons _ _ ih => exact congrArg (· + 1) ih
theorem SameVs.get {l k : List Value} (H : SameVs l k) : ∀ j (h1 : j < l.length) (h2 : j < k.length), SameV l[j] k[j] := by
  induction H with
  | nil => intro j h1; exact absurd h1 (Nat.not_lt_zero _)
  | cons h _ ih =>
    intro j h1 h2
    cases j with
    | zero => exact h
    | succ j => exact ih j (Nat.lt_of_succ_lt_succ h1) (Nat.lt_of_succ_lt_succ h2)
inductive SameRows (h : Heap) : List Value → List Value → Prop
  | nil : SameRows h [] []
  | cons {a b : Addr} {vs us : List Value} {l k : List Value} (ha : h.IsTuple a vs.toArray) (hb : h.IsTuple b us.toArray) (hn : a ≠ b) (hs : SameVs vs us) (t : SameRows h l k) : SameRows h (.ref a :: l) (.ref b :: k)
theorem SameRows.len {h : Heap} {l k : List Value} (H : SameRows h l k) : l.length = k.length := by
  induction H with
  | nil => rfl
  | cons _ _ _ _ _ ih => exact congrArg (· + 1) ih
theorem SameRows.at {s : Shared} {A : Around} (hu : A.units < cLine) {l k : List Value} (H : SameRows s.heap l k) : ∀ j (h1 : j < l.length) (h2 : j < k.length), EqAt A s l[j] k[j] true := by
  induction H with
  | nil => intro j h1; exact absurd h1 (Nat.not_lt_zero _)
  | cons ha hb hn hs t ih =>
    intro j h1 h2
    cases j with
    | zero =>
      have hl := hs.len
      have := RcAt.tuples (A := A) (s := s) (e := fun _ => true) ha hb hu (fun j h1 h2 => by
        simp only [List.size_toArray] at h1 h2
        simpa using (hs.get j h1 h2).at A.in1 s)
      refine EqAt.of_refs hn ?_
      simpa [hl, all_tt] using this
    | succ j => simpa using ih j (Nat.lt_of_succ_lt_succ h1) (Nat.lt_of_succ_lt_succ h2)
theorem same_lists {prog : Program} {w : World} {A : Around} {E : Value → Shared → Prop} {s : Shared} {D1 D2 : Addr} {xs ys : List Value} {Q : Value → Shared → Prop}
    (h1 : s.heap.IsList D1 xs.toArray) (h2 : s.heap.IsList D2 ys.toArray) (hr : SameRows s.heap xs ys) (hu : A.units + 1 < cLine) (h : Q (.bool true) s) : wpAny (model prog w) A (compareOp .Eq (.ref D1) (.ref D2)) Q E s := by
  have hl := hr.len
  refine eq_listAt (e := fun _ => true) h1 h2 (by simpa using hl) (by omega) (fun j a b => ?_) (by rw [all_tt]; exact h)
  simp only [List.size_toArray] at a b
  simpa using hr.at (A := A.in1) (by exact hu) j a b

end
section
example : True := by
  w_top off
  k_with_none
  (k_with "my_enter" => (refine' code_def ?k1 ?k2 ?k3 ?k4 ?k5 ?kA ?kF ?kK ?k6 ?k7 ?k8 ?k9 ?kB ?_ ?c2 ?c3 ?c4 ?c5; (case kA => exact rfl); (case kF => exact rfl); (case kK => first | assumption | exact rfl); (case k1 => k_asm); (case k2 => k_asm); (case k3 => k_asm); (case k4 => k_asm); (case k5 => k_asm); (case k6 => k_is); (case k7 => k_is); (case k8 => k_extra "my_room"); (case k9 => first | exact BindsTo.of_eq rfl | exact binds_K (by k_in) rfl (by k_is) rfl rfl rfl); (case c5 => decide); (case kB => exact locs rfl); (case c2 => exact rfl); (case c3 => exact rfl); (case c4 => exact rfl); k_whole; intro g' L' h' FG' F' N' B' X' T'; (try dsimp only); (try k_fold)))
  (k_with "exec Raise some none" => (k_here; k_dflt (refine' Raise_fault ?k1 ?k2 ?_; (case k1 => k_asm); (case k2 => k_asm); k_whole)))
  (k_with "call ref" => (k_here; (with_reducible show wpAny _ _ (call (Value.ref 52) _) _ _ _); k_dflt (refine' fault ?k1 ?k2 ?k3 ?k4 ?k5 ?k6 ?k7 ?k8 ?_; (case k1 => k_asm); (case k2 => k_asm); (case k3 => k_asm); (case k4 => k_asm); (case k5 => k_asm); (case k6 => first | assumption | exact rfl); (case k7 => k_extra "my_room"); (case k8 => k_extra "my_room"); k_whole); intro h' e' tk' F' M'; (try k_sweep)))
  (k_with "FaultQ" => (refine ⟨_, _, _, _, rfl, by assumption, by assumption, ?_⟩))
  (k_with "leaving ref" => (k_here; first | (refine' leave_first ?k1 ?k2 ?k3 ?k4 ?_; (case k3 => assumption); (case k1 => assumption); (case k2 => assumption); (case k4 => exact rfl); k_whole; intro h' R') | (refine' leave_next ?k1 ?k2 ?k3 ?_; (case k3 => assumption); (case k1 => assumption); (case k2 => assumption); k_whole; intro h' R')))
  (k_with "my_args" => ((case kB => k_asm); (case kF => k_asm); (case kX => k_asm); (case kN => k_asm); (case kT => k_asm); (case kK => first | assumption | exact rfl); (case kd => k_extra "my_room"); (case ku => k_extra "my_room")))
  (k_with "my_back" => (intro v' nw' h' tk' hR' F' N' l1; cases hR'; (try simp only [List.nil_append, List.cons_append] at N'); (try k_sweep); (try k_fold)))
  (k_with "my_side" => first | assumption | omega | exact rfl | (show (1 : Nat) ≤ 1048576; decide))
  (k_with "my_led" => (refine List.forall_mem_cons.mpr ⟨?a, List.forall_mem_nil _⟩; k_mem))
  (k_with "my_room" => first | exact room9 (by with_reducible assumption) (by exact rfl) | exact room8 (by with_reducible assumption) (by exact rfl) | exact room7 (by with_reducible assumption) | ktr_room | ktr_units)
  trivial
inductive RIs (v : Value) : Value → List (Addr × Obj) → Prop | mk : RIs v v []
theorem pickR {prog : Program} {w : World} {A : Around} {E : Value → Shared → Prop} {s : Shared} {h₀ : Heap} {L D : Addr} {news : List (Addr × Obj)} {value slice : Expr} {vs : List Value} {n : Nat} {k : Int} {u : Tok} {v : Value} {Q : Value → Shared → Prop} (N : News h₀ L s.heap news) (hm : (D, W.listOf vs.toArray n) ∈ news) (h0 : 0 ≤ k) (hfit : k < 2 ^ 63) (hv : vs[k.toNat]? = some v)
    (h : Q v s) (hs : subscripted slice false (.ref D) (.int k u) = operate [.ref D, .int k u] (getItem (.ref D) (.int k u))) :
    wpAny (model prog w) A (subscriptTail value slice (.ref D) (.int k u)) Q E s := by
  have hl : s.heap.IsList D vs.toArray := ⟨_, (N _ hm).1, rfl, _, rfl⟩
  exact tail_any hl.typeIs slot_list_getitem.lookup (wpAny_getItem_list hl h0 hfit (by simpa using hv) h) hs
example : True := by
  (k_with "subscriptTail" => (k_here; (with_reducible show wpAny _ _ (subscriptTail _ _ (Value.ref _) (Value.int _ _)) _ _ _); k_dflt (refine' pickR ?pkN ?pkm ?pka ?pkc ?pkv ?_ (by with_unfolding_all rfl); (case pkN => k_asm); (case pkm => k_mem); (case pka => with_reducible assumption); (case pkc => with_reducible assumption); (case pkv => with_reducible assumption))))
  trivial
theorem peek_c (w : World) (S d R : Addr) (vs : List Value) (n z : Nat) (k : Int) (a b c t e : Tok) (v : Value) (h0 : 0 ≤ k) (h1 : k < 16777216) (hz : vs.toArray.size = z) (hz0 : 0 < z) (hz1 : z ≤ 16777216) (hv : vs[(if (z : Int) - 1 < k + 0 then (z : Int) - 1 else k + 0).toNat]? = some v) :
    Ctr w 229 [.ref S] 3 60 [(d, wordsD w.params R k a b c t e), (S, instObj 261 d), (R, PySem.W.listOf vs.toArray n)] (RIs v) (fun _ => False) := by
  intro p loose mean mg mb dp un gd cn cs a' ccd cl outer A₀ base' h₀ L m news s Q E B F X N0 Tp hk hd hu hled hret hexc
  have N : News h₀ L s.heap ((d, wordsD w.params R k a b c t e) :: (S, instObj 261 d) :: (R, PySem.W.listOf vs.toArray n) :: news) := fun q hq => by
    rcases List.mem_cons.mp hq with rfl | hq
    · exact N0 _ (hled _ (.head _))
    · rcases List.mem_cons.mp hq with rfl | hq
      · exact N0 _ (hled _ (.tail _ (.head _)))
      · rcases List.mem_cons.mp hq with rfl | hq
        · exact N0 _ (hled _ (.tail _ (.tail _ (.head _))))
        · exact N0 _ hq
  clear N0 hled
  have hk0 : 0 ≤ (if (z : Int) - 1 < k + 0 then (z : Int) - 1 else k + 0) := by split <;> omega
  have hk1 : (if (z : Int) - 1 < k + 0 then (z : Int) - 1 else k + 0) < 2 ^ 63 := by split <;> omega
  refine wpAny_call ?_
  k_dflt k_extra "my_enter"
  k_steps
  exact hret _ [] _ _ .mk (by with_reducible assumption) (news_tl (news_tl (news_tl (by assumption)))) (fun _ _ _ h => nomatch h)
theorem setDU {prog : Program} {w : World} {A : Around} {E : Value → Shared → Prop} {s : Shared} {h₀ : Heap} {L : Addr} {m : PySem.Str → Option Value} {news big : List (Addr × Obj)} {upd : Obj → List (Addr × Obj)} {K : Frag} {x dx C : Addr} {ox : Obj} {es es' : List DictEntry} {n n' : Nat} {name : PySem.Str} {v : Value} {Q : Unit → Shared → Prop}
    (F : Fr h₀ L s.heap m) (X₀ : K.In h₀) (N : News h₀ L s.heap big) (hb : ∀ q ∈ news, q ∈ big) (I : InstAt s.heap x ox C (some (dictOf es n))) (hd : ox.dict = some dx)
    (hs : findIn K (.ref C) "__setattr__" = some (some (.builtin "object.__setattr__"))) (hp : plainOver K C = true) (ht : takerIn K C name = some none) (hh : hasDictIn K C = true) (hl : (getL name es).isSome = true)
    (e : (putL name (PyData.keyHash w.params name) (.str name (s.toks + 1)) v es, putN name es n) = (es', n')) (U : UpdF dx (dictOf es n) news upd) (hz : es'.length ≤ 1000)
    (h : ∀ h', Fr h₀ L h' m → News h₀ L h' (upd (dictOf es' n')) → UpdF dx (dictOf es' n') (upd (dictOf es' n')) upd → Q () { s with heap := h', toks := s.toks + 2 }) :
    wpAny (model prog w) A (setAttr (.ref x) name v) Q E s :=
  set_dict F X₀ (fun q hq => N q (hb q hq)) I hd hs hp ht hh hl e (UpdF.toUpd U) hz fun h' F' N' => h h' F' N' (UpdF.again U)
example : True := by
  (k_with "call ref" => (k_here; (with_reducible show wpAny _ _ (call (Value.ref 229) _) _ _ _); k_dflt (refine' Ctr.use (peek_c _ _ _ _ _ _ _ _ _ _ _ _ _ _ ?s1 ?s2 ?s3 ?s4 ?s5 ?s6) ?kB ?kF ?kX ?kN ?kT ?kK ?kd ?ku ?kL ?_ ?_; k_extra "my_args"; (case kL => first | exact List.forall_mem_nil _ | k_extra "my_led"); (case s1 => k_extra "my_side"); (case s2 => k_extra "my_side"); (case s3 => k_extra "my_side"); (case s4 => k_extra "my_side"); (case s5 => k_extra "my_side"); (case s6 => k_extra "my_side"); (exact fun _ _ _ _ _ hX => hX.elim)); k_extra "my_back"))
  (k_with "my_side" => with_reducible assumption)
  (k_with "my_led" => (refine List.forall_mem_cons.mpr ⟨?_, List.forall_mem_cons.mpr ⟨?_, List.forall_mem_cons.mpr ⟨?_, List.forall_mem_nil _⟩⟩⟩ <;> k_mem))
  (k_with "my_tails" => first | (with_reducible exact fun q hq => hq) | exact fun q hq => List.mem_cons_of_mem _ (by revert q; k_extra "my_tails"))
  (k_with "setAttr ref" => (k_here; k_dflt (refine' setDU ?k1 ?k2 ?k3 ?kb ?k4 ?k5 ?k6 ?k7 ?k8 ?k9 ?k10 ?k11 ?k12 ?k13 ?_; (case k1 => k_asm); (case k2 => k_asm); (case k3 => k_asm); (case k12 => with_reducible assumption); (case kb => exact fun q hq => List.mem_cons_of_mem _ (List.mem_cons_of_mem _ (List.mem_cons_of_mem _ (List.mem_cons_of_mem _ hq)))); (case k4 => k_inst); (case k5 => exact rfl); (case k6 => k_is); (case k7 => k_is); (case k8 => k_is); (case k9 => k_is); (case k10 => k_get); (case k11 => k_put); (case k13 => exact Nat.le_of_ble_eq_true rfl); k_whole; intro h' F' N' U'; (try k_sweep))))
  trivial
theorem bneT {x y : PySem.Str} (h : (x != y) = true) : (x == y) = false := by unfold bne at h; simpa using h
theorem bneF {x y : PySem.Str} (h : (x != y) = false) : (x == y) = true := by unfold bne at h; simpa using h
theorem UpdF.same {d : Addr} {o : Obj} {l : List (Addr × Obj)} {g : Obj → List (Addr × Obj)} (U : UpdF d o l g) : g o = l := by
  induction U with
  | head h => rfl
  | tail h r ih => exact congrArg _ ih
inductive RTakeW (P : Params) (d R : Addr) (k : Int) (a b c t e : Tok) (x : Addr) (kind : PySem.Str) : Value → List (Addr × Obj) → Obj → Prop
  | last (h : (kind == Str.ofString "end") = true) : RTakeW P d R k a b c t e x kind (.ref x) [] (wordsD P R k a b c t e)
  | next (h : (kind == Str.ofString "end") = false) (b' c' : Tok) : RTakeW P d R k a b c t e x kind (.ref x) [] (wordsD P R (k + 1) a b' c' t e)
theorem take_c (w : World) (S d R x : Addr) (vs : List Value) (n z : Nat) (k : Int) (a b c t e t1 : Tok) (kind : PySem.Str) (v2 v3 v4 : Value) (h0 : 0 ≤ k) (h1 : k < 16777216) (hz : vs.toArray.size = z) (hz0 : 0 < z) (hz1 : z ≤ 16777216) (hv : vs[(if (z : Int) - 1 < k + 0 then (z : Int) - 1 else k + 0).toNat]? = some (.ref x)) :
    CtrS w 236 [.ref S] 6 80 d (wordsD w.params R k a b c t e) [(S, instObj 261 d), (R, PySem.W.listOf vs.toArray n), (x, tupO [.str kind t1, v2, v3, v4])] (RTakeW w.params d R k a b c t e x kind) := by
  intro p loose mean mg mb dp un gd cn cs a' ccd cl outer A₀ base' h₀ L m news upd s Q E B F X N0 Tp hk hd hu U0 hled hret
  have N : News h₀ L s.heap ((x, tupO [.str kind t1, v2, v3, v4]) :: (S, instObj 261 d) :: (R, PySem.W.listOf vs.toArray n) :: (d, wordsD w.params R k a b c t e) :: news) := fun q hq => by
    rcases List.mem_cons.mp hq with rfl | hq
    · exact N0 _ (hled _ (.tail _ (.tail _ (.head _)))).1
    · rcases List.mem_cons.mp hq with rfl | hq
      · exact N0 _ (hled _ (.head _)).1
      · rcases List.mem_cons.mp hq with rfl | hq
        · exact N0 _ (hled _ (.tail _ (.head _))).1
        · rcases List.mem_cons.mp hq with rfl | hq
          · exact N0 _ (UpdF.mem U0)
          · exact N0 _ hq
  clear N0 hled
  have U := U0
  refine wpAny_call ?_
  k_dflt k_extra "my_enter"
  k_steps
  · refine' hret _ [] _ _ _ (.next (bneT (by with_reducible assumption)) _ _) (by with_reducible assumption) ?N (fun _ _ _ h => nomatch h)
    (case N => show News _ _ _ (upd _); assumption)
  · refine hret _ [] _ _ _ (.last (bneF (by with_reducible assumption))) (by with_reducible assumption) ?_ (fun _ _ _ h => nomatch h)
    show News _ _ _ (upd _)
    rw [UpdF.same U0]
    exact news_tl (news_tl (news_tl (news_tl (by with_reducible assumption))))

end
section
theorem fn_inj {P : Params} {a : Addr} {oc oc' dV dV' kV kV' doc doc' pm pm' cdv cdv' ct ct' : Value} {od od' an an' : Option Addr} {name name' qual qual' : PySem.Str} {params params' : Arguments} {body body' : List Stmt} {scope scope' : Scope} {osl osl' : Array (Option Value)}
    (h : (Mine.hd.heap_39 P).lookup a = some ⟨oc, od, .func (fnOf name qual params body scope dV kV doc pm an cdv ct), osl⟩) (h' : (Mine.hd.heap_39 P).lookup a = some ⟨oc', od', .func (fnOf name' qual' params' body' scope' dV' kV' doc' pm' an' cdv' ct'), osl'⟩) : qual = qual' ∧ body = body' ∧ scope = scope' := by
  have e := h.symm.trans h'
  injection e with e
  injection e with e1 e2 e3 e4
  injection e3 with e5
  unfold fnOf at e5
  injection e5 with f1 f2 f3 f4 f5
  injection f4 with f4
  exact ⟨f2, f4, f5⟩
theorem CtrT.use {w : World} {f : Addr} {vs : List Value} {d u : Nat} {led : List (Addr × Obj)} {R : Value → List (Addr × Obj) → Prop} (C : CtrT w f vs d u led R)
    {p : Program} {loose : List Str} {mean : ExcName → Option Value} {mg mb : Str → Option Value} {dp un : Nat} {gd : Option (List Code)} {cn : Str} {cs : Scope} {a : Addr} {ccd : Value} {cl : List (Str × Addr)}
    {outer : List Env} {A₀ : Around} {base h₀ : Heap} {L : Addr} {m : Str → Option Value} {news : List (Addr × Obj)} {s : Shared} {Q E : Value → Shared → Prop}
    (B : Below A₀ base outer h₀) (F : Fr h₀ L s.heap m) (K : (Mine.hd.heap_39 w.params).In h₀) (XB : (Mine.hd.heap_39 w.params).In base) (N : News h₀ L s.heap news) (T : Top p loose mean mg mb h₀) (TB : Top p loose mean mg mb base) (D : KtsDicts (outer.filterMap (·.frame)) h₀)
    (hk : cs.kind = .function) (hd : dp + d < recursionLimit) (hu : un + u < cLine) (hl : ∀ q ∈ led, q ∈ news)
    (hr : ∀ v nw h' tk h₁, R v nw → KtsTurn (outer.filterMap (·.frame)) h₀ h₁ → Fr h₁ L h' m → News h₁ L h' (nw ++ news) → (∀ q ∈ news, ∀ p ∈ nw, q.1 < p.1) → Below A₀ base outer h₁ → (Mine.hd.heap_39 w.params).In h₁ → Top p loose mean mg mb h₁ → KtsDicts (outer.filterMap (·.frame)) h₁ → Q v { s with heap := h', toks := tk }) :
    wpR (model PySem.Challenge.pw_pf0076_01 w) (ktrTop dp un gd cn cs L a ccd cl outer) (call (.ref f) vs) Q E s :=
  C p loose mean mg mb dp un gd cn cs a ccd cl outer A₀ base h₀ h₀ L m news s Q E B F K XB N T TB D KtsTurn.refl hk hd hu hl hr
theorem CtrTS.use {w : World} {f : Addr} {vs : List Value} {d u : Nat} {S : Addr} {o : Obj} {R : Value → List (Addr × Obj) → Obj → Prop} (C : CtrTS w f vs d u S o R)
    {p : Program} {loose : List Str} {mean : ExcName → Option Value} {mg mb : Str → Option Value} {dp un : Nat} {gd : Option (List Code)} {cn : Str} {cs : Scope} {a : Addr} {ccd : Value} {cl : List (Str × Addr)}
    {outer : List Env} {A₀ : Around} {base h₀ : Heap} {L : Addr} {m : Str → Option Value} {news : List (Addr × Obj)} {upd : Obj → List (Addr × Obj)} {s : Shared} {Q E : Value → Shared → Prop}
    (B : Below A₀ base outer h₀) (F : Fr h₀ L s.heap m) (K : (Mine.hd.heap_39 w.params).In h₀) (XB : (Mine.hd.heap_39 w.params).In base) (N : News h₀ L s.heap news) (T : Top p loose mean mg mb h₀) (TB : Top p loose mean mg mb base) (D : KtsDicts (outer.filterMap (·.frame)) h₀)
    (hk : cs.kind = .function) (hd : dp + d < recursionLimit) (hu : un + u < cLine) (U : UpdF S o news upd)
    (hr : ∀ v nw o' h' tk h₁, R v nw o' → KtsTurn (outer.filterMap (·.frame)) h₀ h₁ → Fr h₁ L h' m → News h₁ L h' (nw ++ upd o') → (∀ q ∈ news, ∀ p ∈ nw, q.1 < p.1) → Below A₀ base outer h₁ → (Mine.hd.heap_39 w.params).In h₁ → Top p loose mean mg mb h₁ → KtsDicts (outer.filterMap (·.frame)) h₁ → Q v { s with heap := h', toks := tk }) :
    wpR (model PySem.Challenge.pw_pf0076_01 w) (ktrTop dp un gd cn cs L a ccd cl outer) (call (.ref f) vs) Q E s :=
  C p loose mean mg mb dp un gd cn cs a ccd cl outer A₀ base h₀ h₀ L m news upd s Q E B F K XB N T TB D KtsTurn.refl hk hd hu U hr
inductive RTrue : Value → List (Addr × Obj) → Obj → Prop
  | mk (a b : Int) (t1 t2 : Tok) (n : Nat) (ha : 0 ≤ a) (hb : 0 ≤ b) : RTrue (.bool true) [] (W.listOf #[.int a t1, .int b t2] n)
theorem comp_take {prog : Program} {w : World} {A : Around} {h₀ : Heap} {L d R : Addr} {m : PySem.Str → Option Value} {env : Env} {elt : Expr} {x : PySem.Str} {scope : Scope} {cl : List (PySem.Str × Addr)} {s : Shared} {Sx : List (Addr × Obj) → Prop} {P : Nat → Value → Prop} {Fin : List Value → List (Addr × Obj) → Prop} {n : Nat}
    {Pm : Params} {a b c t e : Tok} {g : Obj → List (Addr × Obj)} (U : UpdF d (wordsD Pm R 0 a b c t e) (g (wordsD Pm R 0 a b c t e)) g) (hS : ∀ o, Sx (g o)) (xs : List Value) (hn : n ≤ xs.length)
    (turn : ∀ i y, xs[i]? = some y → i < n → ∀ ys b c I oI C oC D m₂ h tk (E' : Value → Shared → Prop), LCg.NsObj oC m₂ → Fr h₀ L h m → News h₀ L h ((I, oI) :: (C, oC) :: (D, LCg.lst ys) :: g (wordsD Pm R i a b c t e)) → UpdF d (wordsD Pm R i a b c t e) (g (wordsD Pm R i a b c t e)) g → ((@Ne Nat I d) ∧ (@Ne Nat C d) ∧ (@Ne Nat D d)) →
      wpAny (model prog w) A (eval elt (compEnvC scope cl C env)) (fun v s₂ => Hold (∃ h' tk' big b' c', v = y ∧ s₂ = { s with heap := h', toks := tk' } ∧ Fr h₀ L h' m ∧ News h₀ L h' big ∧ ∀ q ∈ (I, oI) :: (C, oC) :: (D, LCg.lst ys) :: g (wordsD Pm R (i + 1) a b' c' t e), q ∈ big)) E' { s with heap := h, toks := tk })
    (fin : ∀ b c, Fin (xs.take n) (g (wordsD Pm R n a b c t e))) : LCg.CompRest prog w A h₀ L m env elt x scope cl s Sx P Fin n 0 [] (g (wordsD Pm R 0 a b c t e)) := by
  refine comp_inv (fun i ys nw => ∃ b c, ys = xs.take i ∧ nw = g (wordsD Pm R i a b c t e)) ⟨b, c, by simp, rfl⟩ ?_ ?_
  · rintro i ys nw v I oI C oC D m₂ h tk E' hi ⟨b, c, rfl, rfl⟩ hP hC hx F N off ne
    have hil : i < xs.length := Nat.lt_of_lt_of_le hi hn
    have om := off.mem
    have Ui : UpdF d (wordsD Pm R i a b c t e) (g (wordsD Pm R i a b c t e)) g := UpdF.again U
    have hd := om _ (UpdF.mem Ui)
    refine wpAny_mono (turn i _ (List.getElem?_eq_getElem hil) hi (xs.take i) b c I oI C oC D m₂ h tk E' hC F N Ui ⟨Ne.symm hd.1, Ne.symm hd.2.1, Ne.symm hd.2.2⟩) (fun y s₂ hq => ?_) fun _ _ e => e
    obtain ⟨h', tk', big, b', c', rfl, rfl, F', N', sub⟩ := hq
    refine LCg.CompEnd.intro F' N' _ sub (LCg.Off3.of fun q hq => ?_) (hS _) ⟨b', c', by rw [List.take_add_one, List.getElem?_eq_getElem hil]; rfl, rfl⟩
    obtain ⟨r, hr, er⟩ := UpdF.addr Ui q hq
    exact er ▸ om r hr
  · rintro ys nw ⟨b, c, rfl, rfl⟩
    exact fin b c

end
section
example : True := by
  w_top off
  k_with_none
  (k_with "exec Raise some none" => (k_here; k_dflt (refine' Raise_fault ?k1 ?k2 ?_; (case k1 => k_asm); (case k2 => k_asm); k_whole)))
  (k_with "call ref" => (k_here; (with_reducible show wpAny _ _ (call (Value.ref 52) _) _ _ _); k_dflt (refine' fault ?k1 ?k2 ?k3 ?k4 ?k5 ?k6 ?k7 ?k8 ?_; (case k1 => k_asm); (case k2 => k_asm); (case k3 => k_asm); (case k4 => k_asm); (case k5 => k_asm); (case k6 => first | assumption | exact rfl); (case k7 => k_extra "my_room"); (case k8 => k_extra "my_room"); k_whole); intro h' e' tk' F' M'; (try k_sweep)))
  (k_with "FaultQ" => (refine ⟨_, _, _, _, rfl, by assumption, by assumption, ?_⟩))
  (k_with "leaving ref" => (k_here; first | (refine' leave_first ?k1 ?k2 ?k3 ?k4 ?_; (case k3 => assumption); (case k1 => assumption); (case k2 => assumption); (case k4 => exact rfl); k_whole; intro h' R') | (refine' leave_next ?k1 ?k2 ?k3 ?_; (case k3 => assumption); (case k1 => assumption); (case k2 => assumption); k_whole; intro h' R')))
  (k_with "k_ne" => first | with_reducible assumption | exact Ne.symm (by with_reducible assumption) | exact Nat.ne_of_gt (by with_reducible assumption) | exact Nat.ne_of_lt (by with_reducible assumption) | exact Ne.symm (And.left (by k_extra "k_cj0")) | exact Nat.ne_of_gt (And.left (by k_extra "k_cj0")) | exact And.left (by k_extra "k_cj0"))
  (k_with "k_cj0" => first | with_reducible assumption | exact And.right (by k_extra "k_cj1"))
  (k_with "k_cj1" => first | with_reducible assumption | exact And.right (by k_extra "k_cj2"))
  (k_with "k_cj2" => first | with_reducible assumption | exact And.right (by k_extra "k_cj3"))
  (k_with "k_cj3" => first | with_reducible assumption | exact And.right (by k_extra "k_cj4"))
  (k_with "k_cj4" => first | with_reducible assumption | exact And.right (by k_extra "k_cj5"))
  (k_with "k_cj5" => first | with_reducible assumption | exact And.right (by k_extra "k_cj6"))
  (k_with "k_cj6" => first | with_reducible assumption | exact And.right (by k_extra "k_cj7"))
  (k_with "k_cj7" => first | with_reducible assumption | exact And.right (by k_extra "k_cj8"))
  (k_with "k_cj8" => first | with_reducible assumption | exact And.right (by k_extra "k_cj9"))
  (k_with "k_cj9" => first | with_reducible assumption | exact And.right (by with_reducible assumption))
  (k_with "my_args" => ((case kB => k_asm); (case kF => k_asm); (case kX => k_asm); (case kN => k_asm); (case kT => k_asm); (case kK => first | assumption | exact rfl); (case kd => k_extra "my_room"); (case ku => k_extra "my_room")))
  (k_with "my_room" => first | exact room9 (by with_reducible assumption) (by exact rfl) | exact room8 (by with_reducible assumption) (by exact rfl) | exact room7 (by with_reducible assumption) | ktr_room | ktr_units)
  trivial
example : True := by
  (k_with "subscriptTail" => (k_here; (with_reducible show wpAny _ _ (subscriptTail _ _ (Value.ref _) (Value.int _ _)) _ _ _); k_dflt ( (refine' tupK ?N ?m ?a ?b ?j ?x ?_ (by with_unfolding_all rfl); (case N => k_asm); (case m => k_mem); (case a => decide); (case b => decide); (case j => rfl); (case x => rfl)))))
  (k_with "subscriptTail Call" => (k_here; (with_reducible show wpAny _ _ (subscriptTail _ _ (Value.ref _) (Value.int _ _)) _ _ _); k_dflt ( (refine' tupK ?N ?m ?a ?b ?j ?x ?_ (by with_unfolding_all rfl); (case N => k_asm); (case m => k_mem); (case a => decide); (case b => decide); (case j => rfl); (case x => rfl)))))
  (k_with "eval ListComp" => (k_here; k_dflt (refine LCg.ListComp_U (F₀ := by k_asm) (by rfl) (by decide) (by rfl) (by decide) (by rfl) ?_)))
  (k_with "CompSrc" => (k_here; k_dflt ( (refine LCg.CompSrc.range (by rfl) (by k_asm) (by k_asm) (by assumption) (by first | decide | rfl) (by first | rfl | decide) (by first | size_fits | exact Nat.le_of_ble_eq_true rfl) ?_; intro g'; with_reducible refine Hold.out ?_))))
  (k_with "FinE" => ((unfold LCg.FinE); intro D' h' tk' F' N' o1'; (try simp only [LCg.Off1, off1_app, and_true] at o1'); (try simp only [List.nil_append, List.cons_append] at N'); (try dsimp only)))
  (k_with "compareOp Eq ref ref" => (with_reducible refine Hold.out ?_))
  (k_with "call ref" => ((with_reducible show wpAny _ _ (call (Value.ref 236) _) _ _ _); with_reducible refine Hold.out ?_))
  trivial
theorem all5 {P : Addr × Obj → Prop} {a b c d e : Addr × Obj} {r : List (Addr × Obj)} (ha : P a) (hb : P b) (hc : P c) (hd : P d) (he : P e) (hr : ∀ q ∈ r, P q) : ∀ q ∈ a :: b :: c :: d :: e :: r, P q :=
  List.forall_mem_cons.mpr ⟨ha, List.forall_mem_cons.mpr ⟨hb, List.forall_mem_cons.mpr ⟨hc, List.forall_mem_cons.mpr ⟨hd, List.forall_mem_cons.mpr ⟨he, hr⟩⟩⟩⟩⟩
theorem take_i {P : Params} {d R : Addr} {i : Nat} {a b c t e : Tok} {x : Addr} {kind : PySem.Str} {v : Value} {nw : List (Addr × Obj)} {o : Obj} (h : RTakeW P d R i a b c t e x kind v nw o) (hk : (kind == Str.ofString "end") = false) : v = .ref x ∧ nw = [] ∧ ∃ b' c', o = wordsD P R ((i : Int) + 1) a b' c' t e := by
  cases h with
  | last h => rw [hk] at h; cases h
  | next h b' c' => exact ⟨rfl, rfl, b', c', rfl⟩
theorem at_i {vs : List Value} {z i : Nat} {y : Value} (h : vs[i]? = some y) (hi : i + 1 < z) : vs[(if (z : Int) - 1 < (i : Int) + 0 then (z : Int) - 1 else (i : Int) + 0).toNat]? = some y := by
  rw [if_neg (by omega), Int.add_zero, Int.toNat_natCast]; exact h
noncomputable abbrev rowD (v : Value) (m : PySem.Str → Option Value) : PySem.Str → Option Value := fun y => if y = Str.ofString "due" then some v else m y
inductive SameIn (rest : List (Addr × Obj)) : List Value → List Value → Prop
  | nil : SameIn rest [] []
  | cons {a b : Addr} {vs us : List Value} {l k : List Value} (ha : (a, tupO vs) ∈ rest) (hb : (b, tupO us) ∈ rest) (hn : a ≠ b) (hs : SameVs vs us) (t : SameIn rest l k) : SameIn rest (.ref a :: l) (.ref b :: k)
theorem SameIn.rows {h₀ h : Heap} {L : Addr} {rest big : List (Addr × Obj)} (N : News h₀ L h big) (sub : ∀ q ∈ rest, q ∈ big) {l k : List Value} (H : SameIn rest l k) : SameRows h l k := by
  induction H with
  | nil => exact .nil
  | cons ha hb hn hs t ih => exact .cons ⟨_, (N _ (sub _ ha)).1, rfl, _, rfl⟩ ⟨_, (N _ (sub _ hb)).1, rfl, _, rfl⟩ hn hs ih
example : True := by
  (k_with "k_mem" => first | exact List.Mem.head _ | (refine' List.Mem.tail _ ?_; k_mem) | (show _ ∈ (_ : List (Addr × Obj)); with_reducible assumption))
  trivial
theorem row_ret (w : World) {oc : Value} {od an : Option Addr} {name qual : PySem.Str} {params : Arguments} {body : List Stmt} {scope : Scope} {dV kV doc pm cdv ct : Value} {osl : Array (Option Value)}
    (ho : (Mine.hd.heap_39 w.params).lookup 326 = some ⟨oc, od, .func (fnOf name qual params body scope dV kV doc pm an cdv ct), osl⟩)
    {p : Program} {loose : List PySem.Str} {mean : ExcName → Option Value} {mg mb : PySem.Str → Option Value} {dp un : Nat} {gd : Option (List Code)} {cn : PySem.Str} {a : Addr} {ccd : Value} {cl : List (PySem.Str × Addr)}
    {outer : List Env} {A₀ : Around} {base g : Heap} {L l : Addr} {m : PySem.Str → Option Value} {s : Shared} {Q : Flow → Shared → Prop} {E : Value → Shared → Prop}
    {d Y Rr x5 : Addr} {k5 : PySem.Str} {t5 ts b1 b2 b3 b4 b5 : Tok} {n1 n2 : Nat} {oh : Obj} {q5 r5 : Value} {xs ys : List Value} {tl rest : List (Addr × Obj)} (hcl : cl = [(Str.ofString "here", L + 1 + 1), (Str.ofString "source", L + 1)])
    (B : Below A₀ base outer g) (Xk : (Mine.hd.heap_39 w.params).In g) (T : Top p loose mean mg mb g)
    (hd : dp + 69 < recursionLimit) (hu : un + 897 < cLine) (dh : oh.data = Data.cell (some (.ref Y)))
    (F : Fr g L s.heap (rowD (.ref l) m))
    (N : News g L s.heap ((L + 1 + 1, oh) :: (d, wordsD w.params Rr 0 b1 b2 b3 b4 b5) :: rest)) (ne : ∀ q ∈ rest, q.1 ≠ d) (ned : @Ne Nat (L + 1 + 1) d) (hY : (Y, instObj 261 d) ∈ rest) (hR : (Rr, W.listOf xs.toArray n1) ∈ rest) (hz : xs.toArray.size = 6) (hl : (l, W.listOf ys.toArray n2) ∈ rest)
    (hx5 : (x5, tupO [.str k5 t5, .str (Str.ofString ";") ts, q5, r5]) ∈ rest) (hv5 : xs[4]? = some (.ref x5)) (hk5 : (k5 == Str.ofString "end") = false) (hxs : ∀ i y, xs[i]? = some y → i < 4 → ∃ x kind t v2 v3 v4, y = .ref x ∧ (x, tupO [.str kind t, v2, v3, v4]) ∈ rest ∧ (kind == Str.ofString "end") = false)
    (hsame : SameIn rest (xs.take 4) ys) (htl : ∀ q ∈ tl, q ∈ rest)
    (hfin : ∀ h' tk m' news', Fr g L h' m' → News g L h' news' → (∀ q ∈ tl, q ∈ news') → Q (.ret (.bool true)) { s with heap := h', toks := tk }) :
    wpAny (model PySem.Challenge.pw_pf0076_01 w) (ktrTop dp un gd cn scope L a ccd cl outer) (execs (body.drop 12) (envX cn scope L a ccd cl)) Q E s := by
  obtain ⟨f2, f4, f5⟩ := fn_inj ho (show (Mine.hd.heap_39 w.params).lookup 326 = some ⟨_, _, .func (fnOf _ _ _ _ _ _ _ _ _ _ _ _), _⟩ by k_is)
  subst f2 f4 f5
  clear ho
  subst hcl
  dsimp only [List.drop]
  k_steps
  refine Hold.mk ?_
  refine comp_take (n := 4) (d := d) (R := Rr) (Pm := w.params) (g := fun od => (L + 1 + 1, oh) :: (d, od) :: rest) (.tail ned (.head ne)) (fun _ => trivial) xs (by rw [List.size_toArray] at hz; omega) ?_ ?_
  · intro i y hy hi ys' b c I oI C oC D2 m2 h9 tk9 E9 hC9 F9 N9 U9 n9
    have hi : i < 4 := hi
    obtain ⟨x, kind, t, v2, v3, v4, rfl, hm, hkd⟩ := hxs i y hy hi
    have N10 : News g L h9 ((Y, instObj 261 d) :: (I, oI) :: (C, oC) :: (D2, LCg.lst ys') :: (d, wordsD w.params Rr i b1 b c b4 b5) :: (L + 1 + 1, oh) :: (d, wordsD w.params Rr i b1 b c b4 b5) :: rest) := all5 (N9 _ (by k_mem)) (N9 _ (by k_mem)) (N9 _ (by k_mem)) (N9 _ (by k_mem)) (N9 _ (by k_mem)) fun q hq => N9 q (.tail _ (.tail _ (.tail _ hq)))
    clear N9
    k_steps
    refine Hold.mk ?_
    refine' CtrS.use (take_c w Y d Rr x xs n1 6 i b1 b c b4 b5 t kind v2 v3 v4 (Int.natCast_nonneg i) (by omega) hz (by decide) (by decide) (at_i hy (by omega))) ?kB ?kF ?kX ?kN ?kT ?kK ?kd ?ku ?kU ?kG ?kL ?_
    k_extra "my_args"
    (case kU => with_reducible exact U9)
    (case kG => exact .tail (ne _ hY) (.tail n9.1 (.tail n9.2.1 (.tail n9.2.2 .head))))
    (case kL => exact List.forall_mem_cons.mpr ⟨⟨by k_mem, ne _ hY⟩, List.forall_mem_cons.mpr ⟨⟨by k_mem, ne _ hR⟩, List.forall_mem_cons.mpr ⟨⟨by k_mem, ne _ hm⟩, List.forall_mem_nil _⟩⟩⟩)
    intro v' nw' o' h' tk' hR' F' N' U' l1
    obtain ⟨rfl, rfl, b', c', rfl⟩ := take_i hR' hkd
    exact Hold.mk ⟨h', tk', _, b', c', rfl, rfl, F', N', fun q hq => by
      rcases List.mem_cons.mp hq with rfl | hq
      · k_mem
      · rcases List.mem_cons.mp hq with rfl | hq
        · k_mem
        · rcases List.mem_cons.mp hq with rfl | hq
          · k_mem
          · exact .tail _ (.tail _ (.tail _ (.tail _ (.tail _ hq))))⟩
  · intro b c
    dsimp only
    k_steps
    refine Hold.mk ?_
    (rename News _ _ _ _ => N11)
    refine same_lists ⟨_, (N11 _ (.head _)).1, rfl, _, rfl⟩ ⟨_, (N11 (l, W.listOf ys.toArray n2) (by k_mem)).1, rfl, _, rfl⟩ (hsame.rows N11 (fun q hq => .tail _ (.tail _ (.tail _ hq)))) (by k_extra "my_room") ?_
    have N12 : News g L _ ((Y, instObj 261 d) :: (d, wordsD w.params Rr (4 : Nat) b1 b c b4 b5) :: (L + 1 + 1, oh) :: (d, wordsD w.params Rr (4 : Nat) b1 b c b4 b5) :: rest) := fun q hq => by
      rcases List.mem_cons.mp hq with rfl | hq
      · exact N11 _ (by k_mem)
      · rcases List.mem_cons.mp hq with rfl | hq
        · exact N11 _ (by k_mem)
        · exact N11 q (.tail _ hq)
    clear N11
    k_steps
    refine Hold.mk ?_
    refine' CtrS.use (take_c w Y d Rr x5 xs n1 6 (4 : Nat) b1 b c b4 b5 t5 k5 (.str (Str.ofString ";") ts) q5 r5 (by decide) (by decide) hz (by decide) (by decide) (at_i hv5 (by decide))) ?kB ?kF ?kX ?kN ?kT ?kK ?kd ?ku ?kU ?kG ?kL ?_
    k_extra "my_args"
    (case kU => exact UpdF.tail (p := (L + 1 + 1, oh)) (g := fun od => (d, od) :: rest) ned (.head ne))
    (case kG => exact .tail (ne _ hY) .head)
    (case kL => exact List.forall_mem_cons.mpr ⟨⟨by k_mem, ne _ hY⟩, List.forall_mem_cons.mpr ⟨⟨by k_mem, ne _ hR⟩, List.forall_mem_cons.mpr ⟨⟨by k_mem, ne _ hx5⟩, List.forall_mem_nil _⟩⟩⟩)
    intro v' nw' o' h' tk' hR' F' N' U' l1
    obtain ⟨rfl, rfl, b', c', rfl⟩ := take_i hR' hk5
    clear U' l1 N12
    k_steps
    simp only [beq_self_eq_true]
    exact hfin _ _ _ _ F' N' fun q hq => .tail _ (.tail _ (.tail _ (.tail _ (htl q hq))))

end
section
example : True := by
  w_top off
  k_with_none
  (k_with "exec Raise some none" => (k_here; k_dflt (refine' Raise_fault ?k1 ?k2 ?_; (case k1 => k_asm); (case k2 => k_asm); k_whole)))
  (k_with "call ref" => (k_here; (with_reducible show wpAny _ _ (call (Value.ref 52) _) _ _ _); k_dflt (refine' fault ?k1 ?k2 ?k3 ?k4 ?k5 ?k6 ?k7 ?k8 ?_; (case k1 => k_asm); (case k2 => k_asm); (case k3 => k_asm); (case k4 => k_asm); (case k5 => k_asm); (case k6 => first | assumption | exact rfl); (case k7 => k_extra "my_room"); (case k8 => k_extra "my_room"); k_whole); intro h' e' tk' F' M'; (try k_sweep)))
  (k_with "FaultQ" => (refine ⟨_, _, _, _, rfl, by assumption, by assumption, ?_⟩))
  (k_with "leaving ref" => (k_here; first | (refine' leave_first ?k1 ?k2 ?k3 ?k4 ?_; (case k3 => assumption); (case k1 => assumption); (case k2 => assumption); (case k4 => exact rfl); k_whole; intro h' R') | (refine' leave_next ?k1 ?k2 ?k3 ?_; (case k3 => assumption); (case k1 => assumption); (case k2 => assumption); k_whole; intro h' R')))
  (k_with "my_room" => first | exact room9 (by with_reducible assumption) (by exact rfl) | exact room8 (by with_reducible assumption) (by exact rfl) | exact room7 (by with_reducible assumption) | ktr_room | ktr_units)
  trivial
example : True := by
  (k_with "eval ListComp" => (k_here; k_dflt (refine LCg.ListComp_U (F₀ := by k_asm) (by rfl) (by decide) (by rfl) (by decide) (by rfl) ?_)))
  (k_with "CompSrc" => (with_reducible refine Hold.out ?_))
  (k_with "FinE" => ((unfold LCg.FinE); intro D' h' tk' F' N' o1'; (try simp only [LCg.Off1, off1_app, and_true] at o1'); (try simp only [List.nil_append, List.cons_append] at N'); (try dsimp only)))
  (k_with "compareOp NotEq ref ref" => (with_reducible refine Hold.out ?_))
  (k_with "call ref" => ((with_reducible show wpAny _ _ (call (Value.ref 236) _) _ _ _); with_reducible refine Hold.out ?_))
  (k_with "k_mem" => first | exact List.Mem.head _ | (refine' List.Mem.tail _ ?_; k_mem) | (show _ ∈ (_ : List (Addr × Obj)); with_reducible assumption))
  trivial
inductive PlainV : Value → PyData → Prop
  | none : PlainV .none .none
  | int (k : Int) (t : Tok) : PlainV (.int k t) (.int k)
  | str (x : PySem.Str) (t : Tok) : PlainV (.str x t) (.str x)
inductive PlainVs : List Value → List PyData → Prop
  | nil : PlainVs [] []
  | cons {v : Value} {d : PyData} {vs : List Value} {ds : List PyData} (h : PlainV v d) (t : PlainVs vs ds) : PlainVs (v :: vs) (d :: ds)
inductive TupsIn (rest : List (Addr × Obj)) : List Value → List PyData → Prop
  | nil : TupsIn rest [] []
  | cons {a : Addr} {vs l : List Value} {ds k : List PyData} (ha : (a, tupO vs) ∈ rest) (hs : PlainVs vs ds) (t : TupsIn rest l k) : TupsIn rest (.ref a :: l) (.tuple ds :: k)
theorem TupsIn.sub {r r' : List (Addr × Obj)} (h : ∀ q ∈ r, q ∈ r') {l : List Value} {k : List PyData} (H : TupsIn r l k) : TupsIn r' l k := by
  induction H with
  | nil => exact .nil
  | cons ha hs t ih => exact .cons (h _ ha) hs ih
theorem TupsIn.take {r : List (Addr × Obj)} {l : List Value} {k : List PyData} (n : Nat) (H : TupsIn r l k) : TupsIn r (l.take n) (k.take n) := by
  induction H generalizing n with
  | nil => cases n <;> exact .nil
  | cons ha hs t ih =>
    cases n with
    | zero => exact .nil
    | succ n => exact .cons ha hs (ih n)
theorem TupsIn.app {r : List (Addr × Obj)} {l l' : List Value} {k k' : List PyData} (H : TupsIn r l k) (h : TupsIn r l' k') : TupsIn r (l ++ l') (k ++ k') := by
  induction H with
  | nil => exact h
  | cons ha hs t ih => exact .cons ha hs ih
theorem PlainV.reads {h : Heap} {v : Value} {d : PyData} (H : PlainV v d) : Reads h v d [] := by
  cases H with
  | none => exact .none
  | int k t => exact .int k t
  | str x t => exact .str x t
theorem PlainVs.reads {h : Heap} {v : List Value} {d : List PyData} (H : PlainVs v d) : ∃ as, ReadsAll h v d as := by
  induction H with
  | nil => exact ⟨_, .nil⟩
  | cons x t ih => obtain ⟨as, r⟩ := ih; exact ⟨_, .cons x.reads r⟩
theorem TupsIn.reads {h₀ h : Heap} {L : Addr} {rest : List (Addr × Obj)} (N : News h₀ L h rest) : ∀ {l : List Value} {k : List PyData}, TupsIn rest l k → ∃ as, ReadsAll h l k as
  | _, _, .nil => ⟨_, .nil⟩
  | _, _, .cons ha hs t => let ⟨as, r⟩ := hs.reads (h := h); let ⟨bs, q⟩ := t.reads N; ⟨_, .cons (.tuple (N _ ha).1 rfl rfl (by simpa using r)) q⟩
noncomputable def extD : Ext → Option PyData
  | .none => some .none
  | .int v => some (.int v)
  | .bytes _ => none
noncomputable def wdD (wd : Wd) : PyData := .tuple [.str wd.kind, .str wd.txt, .int wd.spot, (extD wd.ext).getD .none]
theorem wds_in {wds : List Wd} {its : List (Addr × Obj)} (H : WdsAre wds its) : (∀ wd ∈ wds, (extD wd.ext).isSome = true) → TupsIn its (rowsV its) (wds.reverse.map wdD) := by
  induction H with
  | nil => exact fun _ => .nil
  | @cons wd x ob wds its h t ih =>
    intro hw
    obtain ⟨kind, txt, spot, ext, t1, t2, t3, v, hv⟩ := h
    have ih := (ih fun w hw' => hw w (.tail _ hw')).sub (r' := (x, tupO [.str kind t1, .str txt t2, .int spot t3, v]) :: its) fun q hq => .tail _ hq
    have e : rowsV ((x, tupO [.str kind t1, .str txt t2, .int spot t3, v]) :: its) = rowsV its ++ [.ref x] := by simp [rowsV]
    rw [e, List.reverse_cons, List.map_append]
    refine ih.app (.cons (.head _) ?_ .nil)
    refine .cons (.str _ _) (.cons (.str _ _) (.cons (.int _ _) (.cons ?_ .nil)))
    have := hw _ (.head _)
    cases hv with
    | none => exact .none
    | int v t => exact .int _ _
    | bytes ns t => cases this
theorem wds_at {wds : List Wd} {its : List (Addr × Obj)} (H : WdsAre wds its) : ∀ (i : Nat) (wd : Wd), wds.reverse[i]? = some wd → ∃ (x : Addr) (t : Tok) (v2 v3 v4 : Value), (rowsV its)[i]? = some (Value.ref x) ∧ (x, tupO [.str wd.kind t, v2, v3, v4]) ∈ its := by
  induction H with
  | nil => intro i wd h; simp at h
  | @cons w0 x ob wds its h t ih =>
    intro i wd hi
    have hlen : ∀ {wds : List Wd} {its : List (Addr × Obj)}, WdsAre wds its → its.length = wds.length := by
      intro wds its h
      induction h with
      | nil => rfl
      | cons _ _ ih => simp [ih]
    have e : rowsV ((x, ob) :: its) = rowsV its ++ [.ref x] := by simp [rowsV]
    have hl : (rowsV its).length = wds.reverse.length := by simp [rowsV, hlen t]
    rw [List.reverse_cons] at hi
    rw [e]
    rcases Nat.lt_or_ge i wds.reverse.length with q | q
    · rw [List.getElem?_append_left q] at hi
      obtain ⟨y, t1, v2, v3, v4, h1, h2⟩ := ih i wd hi
      exact ⟨y, t1, v2, v3, v4, by rw [List.getElem?_append_left (hl ▸ q)]; exact h1, .tail _ h2⟩
    · rw [List.getElem?_append_right q] at hi
      have h0 : i - wds.reverse.length = 0 := by
        cases hk : i - wds.reverse.length with
        | zero => rfl
        | succ k => rw [hk] at hi; simp at hi
      rw [h0] at hi
      simp only [List.getElem?_cons_zero, Option.some.injEq] at hi
      subst hi
      obtain ⟨kind, txt, spot, ext, t1, t2, t3, v, hv⟩ := h
      exact ⟨x, t1, _, _, _, by rw [List.getElem?_append_right (hl ▸ q), hl, h0]; rfl, .head _⟩

end
section
theorem all_app3 {α : Type} {P : α → Prop} {xs ls T : List α} (h1 : ∀ q ∈ xs, P q) (h2 : ∀ q ∈ ls, P q) (h3 : ∀ q ∈ T, P q) : ∀ q ∈ xs ++ (ls ++ T), P q := fun q hq =>
  (List.mem_append.mp hq).elim (h1 q) fun hq => (List.mem_append.mp hq).elim (h2 q) (h3 q)
theorem row_led {h₀ h : Heap} {L d Y Rr x6 x5 x4 x3 x2 x1 l D4 D3 D2 D1 X X1 C C1 : Addr} {od oy orr o6 o5 o4 o3 o2 o1 ol e4 e3 e2 e1 ox ox1 oc oc1 : Obj} {up : List (Addr × Obj)}
    (N : News h₀ L h ((d, od) :: (Y, oy) :: (Rr, orr) :: (x6, o6) :: (x5, o5) :: (x4, o4) :: (x3, o3) :: (x2, o2) :: (x1, o1) :: (l, ol) :: (D4, e4) :: (D3, e3) :: (D2, e2) :: (D1, e1) :: (X, ox) :: (X1, ox1) :: (C, oc) :: (C1, oc1) :: up))
    (l1 : ∀ q ∈ (l, ol) :: (D4, e4) :: (D3, e3) :: (D2, e2) :: (D1, e1) :: (X, ox) :: (X1, ox1) :: (C, oc) :: (C1, oc1) :: up, ∀ p ∈ (d, od) :: (Y, oy) :: (Rr, orr) :: [(x6, o6), (x5, o5), (x4, o4), (x3, o3), (x2, o2), (x1, o1)], q.1 < p.1)
    (q1 : d < Y) (q2 : Y < Rr) (q3 : ∀ q ∈ [(x6, o6), (x5, o5), (x4, o4), (x3, o3), (x2, o2), (x1, o1)], q.1 < d)
    (cl : C < l) (c4 : C < D4) (c3 : C < D3) (c2 : C < D2) (c1 : C < D1) (lS : ∀ q ∈ up, q.1 < C) :
    News h₀ L h ((C, oc) :: (d, od) :: (Y, oy) :: (Rr, orr) :: (x6, o6) :: (x5, o5) :: (x4, o4) :: (x3, o3) :: (x2, o2) :: (x1, o1) :: (l, ol) :: (D4, e4) :: (D3, e3) :: (D2, e2) :: (D1, e1) :: up) ∧
    (∀ q ∈ (Y, oy) :: (Rr, orr) :: (x6, o6) :: (x5, o5) :: (x4, o4) :: (x3, o3) :: (x2, o2) :: (x1, o1) :: (l, ol) :: (D4, e4) :: (D3, e3) :: (D2, e2) :: (D1, e1) :: up, q.1 ≠ d) ∧ C ≠ d ∧
    (∀ q ∈ (d, od) :: (Y, oy) :: (Rr, orr) :: (x6, o6) :: (x5, o5) :: (x4, o4) :: (x3, o3) :: (x2, o2) :: (x1, o1) :: (l, ol) :: (D4, e4) :: (D3, e3) :: (D2, e2) :: (D1, e1) :: up, q.1 ≠ C) ∧ x1 ≠ D1 ∧ x2 ≠ D2 ∧ x3 ≠ D3 ∧ x4 ≠ D4 := by
  have old : ∀ q ∈ [(l, ol), (D4, e4), (D3, e3), (D2, e2), (D1, e1)] ++ (X, ox) :: (X1, ox1) :: (C, oc) :: (C1, oc1) :: up, q.1 < d := fun q hq => l1 q hq _ (.head _)
  have mC : (C, oc) ∈ (X, ox) :: (X1, ox1) :: (C, oc) :: (C1, oc1) :: up := .tail _ (.tail _ (.head _))
  have hC : C < d := old (C, oc) (List.mem_append_right _ mC)
  have new : ∀ p ∈ (d, od) :: (Y, oy) :: (Rr, orr) :: [(x6, o6), (x5, o5), (x4, o4), (x3, o3), (x2, o2), (x1, o1)], p.1 ≠ C := fun p hp => Nat.ne_of_gt (l1 (C, oc) (List.mem_append_right [(l, ol), (D4, e4), (D3, e3), (D2, e2), (D1, e1)] mC) p hp)
  have x1d : ∀ {D : Addr} {e : Obj}, (D, e) ∈ [(l, ol), (D4, e4), (D3, e3), (D2, e2), (D1, e1)] → ∀ {x : Addr} {ob : Obj}, (x, ob) ∈ [(x6, o6), (x5, o5), (x4, o4), (x3, o3), (x2, o2), (x1, o1)] → x ≠ D := fun {_ _} hD {_ _} hx => Nat.ne_of_gt (l1 _ (List.mem_append_left _ hD) _ (.tail _ (.tail _ (.tail _ hx))))
  refine ⟨fun q hq => ?_, ?_, Nat.ne_of_lt hC, ?_, @x1d D1 e1 ?_ x1 o1 ?_, @x1d D2 e2 ?_ x2 o2 ?_, @x1d D3 e3 ?_ x3 o3 ?_, @x1d D4 e4 ?_ x4 o4 ?_⟩
  · rcases List.mem_cons.mp hq with rfl | hq
    · exact N _ (List.mem_append_right [(d, od), (Y, oy), (Rr, orr), (x6, o6), (x5, o5), (x4, o4), (x3, o3), (x2, o2), (x1, o1), (l, ol), (D4, e4), (D3, e3), (D2, e2), (D1, e1)] mC)
    · have hq2 : q ∈ [(d, od), (Y, oy), (Rr, orr), (x6, o6), (x5, o5), (x4, o4), (x3, o3), (x2, o2), (x1, o1), (l, ol), (D4, e4), (D3, e3), (D2, e2), (D1, e1)] ++ up := hq
      exact N q ((List.mem_append.mp hq2).elim (fun hq => List.mem_append_left ((X, ox) :: (X1, ox1) :: (C, oc) :: (C1, oc1) :: up) hq) fun hq => List.mem_append_right [(d, od), (Y, oy), (Rr, orr), (x6, o6), (x5, o5), (x4, o4), (x3, o3), (x2, o2), (x1, o1), (l, ol), (D4, e4), (D3, e3), (D2, e2), (D1, e1)] (.tail _ (.tail _ (.tail _ (.tail _ hq)))))
  · exact List.forall_mem_cons.mpr ⟨Nat.ne_of_gt q1, List.forall_mem_cons.mpr ⟨Nat.ne_of_gt (Nat.lt_trans q1 q2), all_app3 (xs := [(x6, o6), (x5, o5), (x4, o4), (x3, o3), (x2, o2), (x1, o1)]) (ls := [(l, ol), (D4, e4), (D3, e3), (D2, e2), (D1, e1)]) (fun q hq => Nat.ne_of_lt (q3 q hq)) (fun q hq => Nat.ne_of_lt (old q (List.mem_append_left _ hq))) fun q hq => Nat.ne_of_lt (old q (List.mem_append_right _ (.tail _ (.tail _ (.tail _ (.tail _ hq))))))⟩⟩
  · exact all_app3 (xs := [(d, od), (Y, oy), (Rr, orr), (x6, o6), (x5, o5), (x4, o4), (x3, o3), (x2, o2), (x1, o1)]) (ls := [(l, ol), (D4, e4), (D3, e3), (D2, e2), (D1, e1)]) new (by
      simp only [List.forall_mem_cons, List.not_mem_nil, false_implies, implies_true, and_true]
      exact ⟨Nat.ne_of_gt cl, Nat.ne_of_gt c4, Nat.ne_of_gt c3, Nat.ne_of_gt c2, Nat.ne_of_gt c1⟩) fun q hq => Nat.ne_of_lt (lS q hq)
  · exact .tail _ (.tail _ (.tail _ (.tail _ (.head _))))
  · exact .tail _ (.tail _ (.tail _ (.tail _ (.tail _ (.head _)))))
  · exact .tail _ (.tail _ (.tail _ (.head _)))
  · exact .tail _ (.tail _ (.tail _ (.tail _ (.head _))))
  · exact .tail _ (.tail _ (.head _))
  · exact .tail _ (.tail _ (.tail _ (.head _)))
  · exact .tail _ (.head _)
  · exact .tail _ (.tail _ (.head _))

end
section
example : True := by
  w_top off
  k_with_none
  (k_with "exec Raise some none" => (k_here; k_dflt (refine' Raise_fault ?k1 ?k2 ?_; (case k1 => k_asm); (case k2 => k_asm); k_whole)))
  (k_with "call ref" => (k_here; (with_reducible show wpAny _ _ (call (Value.ref 52) _) _ _ _); k_dflt (refine' fault ?k1 ?k2 ?k3 ?k4 ?k5 ?k6 ?k7 ?k8 ?_; (case k1 => k_asm); (case k2 => k_asm); (case k3 => k_asm); (case k4 => k_asm); (case k5 => k_asm); (case k6 => first | assumption | exact rfl); (case k7 => k_extra "my_room"); (case k8 => k_extra "my_room"); k_whole); intro h' e' tk' F' M'; (try k_sweep)))
  (k_with "FaultQ" => (refine ⟨_, _, _, _, rfl, by assumption, by assumption, ?_⟩))
  (k_with "leaving ref" => (k_here; first | (refine' leave_first ?k1 ?k2 ?k3 ?k4 ?_; (case k3 => assumption); (case k1 => assumption); (case k2 => assumption); (case k4 => exact rfl); k_whole; intro h' R') | (refine' leave_next ?k1 ?k2 ?k3 ?_; (case k3 => assumption); (case k1 => assumption); (case k2 => assumption); k_whole; intro h' R')))
  (k_with "k_ne" => first | with_reducible assumption | exact Ne.symm (by with_reducible assumption) | exact Nat.ne_of_gt (by with_reducible assumption) | exact Nat.ne_of_lt (by with_reducible assumption) | exact Ne.symm (And.left (by k_extra "k_cj0")) | exact Nat.ne_of_gt (And.left (by k_extra "k_cj0")) | exact And.left (by k_extra "k_cj0"))
  (k_with "k_cj0" => first | with_reducible assumption | exact And.right (by k_extra "k_cj1"))
  (k_with "k_cj1" => first | with_reducible assumption | exact And.right (by k_extra "k_cj2"))
  (k_with "k_cj2" => first | with_reducible assumption | exact And.right (by k_extra "k_cj3"))
  (k_with "k_cj3" => first | with_reducible assumption | exact And.right (by k_extra "k_cj4"))
  (k_with "k_cj4" => first | with_reducible assumption | exact And.right (by k_extra "k_cj5"))
  (k_with "k_cj5" => first | with_reducible assumption | exact And.right (by k_extra "k_cj6"))
  (k_with "k_cj6" => first | with_reducible assumption | exact And.right (by k_extra "k_cj7"))
  (k_with "k_cj7" => first | with_reducible assumption | exact And.right (by k_extra "k_cj8"))
  (k_with "k_cj8" => first | with_reducible assumption | exact And.right (by k_extra "k_cj9"))
  (k_with "k_cj9" => first | with_reducible assumption | exact And.right (by with_reducible assumption))
  (k_with "my_args" => ((case kB => k_asm); (case kF => k_asm); (case kX => k_asm); (case kN => k_asm); (case kT => k_asm); (case kK => first | assumption | exact rfl); (case kd => k_extra "my_room"); (case ku => k_extra "my_room")))
  (k_with "my_room" => first | exact room9 (by with_reducible assumption) (by exact rfl) | exact room8 (by with_reducible assumption) (by exact rfl) | exact room7 (by with_reducible assumption) | ktr_room | ktr_units)
  trivial
example : True := by
  (k_with "eval ListComp" => (k_here; k_dflt (refine LCg.ListComp_U (F₀ := by k_asm) (by rfl) (by decide) (by rfl) (by decide) (by rfl) ?_)))
  (k_with "CompSrc" => (with_reducible refine Hold.out ?_))
  (k_with "FinE" => ((unfold LCg.FinE); intro D' h' tk' F' N' o1'; (try simp only [LCg.Off1, off1_app, and_true] at o1'); (try simp only [List.nil_append, List.cons_append] at N'); (try dsimp only)))
  (k_with "compareOp NotEq ref ref" => (with_reducible refine Hold.out ?_))
  (k_with "call ref" => ((with_reducible show wpAny _ _ (call (Value.ref 236) _) _ _ _); with_reducible refine Hold.out ?_))
  (k_with "k_mem" => first | exact List.Mem.head _ | (refine' List.Mem.tail _ ?_; k_mem) | (show _ ∈ (_ : List (Addr × Obj)); with_reducible assumption))
  trivial
theorem WdsAre.len {wds : List Wd} {its : List (Addr × Obj)} (H : WdsAre wds its) : its.length = wds.length := by
  induction H with
  | nil => rfl
  | cons _ _ ih => exact congrArg (· + 1) ih
theorem turn_led {h₀ h : Heap} {L d Y Rr C : Addr} {od oy orr oc : Obj} {its rest : List (Addr × Obj)}
    (N : News h₀ L h (((d, od) :: (Y, oy) :: (Rr, orr) :: its) ++ (C, oc) :: rest)) (l1 : ∀ q ∈ (C, oc) :: rest, ∀ p ∈ (d, od) :: (Y, oy) :: (Rr, orr) :: its, q.1 < p.1) (q1 : d < Y) (q2 : Y < Rr) (q3 : ∀ q ∈ its, q.1 < d) (neC : ∀ q ∈ rest, q.1 ≠ C) :
    News h₀ L h ((C, oc) :: (d, od) :: (Y, oy) :: (Rr, orr) :: (its ++ rest)) ∧ (∀ q ∈ (Y, oy) :: (Rr, orr) :: (its ++ rest), q.1 ≠ d) ∧ C ≠ d ∧ (∀ q ∈ (d, od) :: (Y, oy) :: (Rr, orr) :: (its ++ rest), q.1 ≠ C) := by
  have hC : ∀ p ∈ (d, od) :: (Y, oy) :: (Rr, orr) :: its, C < p.1 := l1 _ (.head _)
  have hold : ∀ q ∈ rest, q.1 < d := fun q hq => l1 q (.tail _ hq) _ (.head _)
  refine ⟨fun q hq => N q ?_, fun q hq => ?_, Nat.ne_of_lt (hC _ (.head _)), fun q hq => ?_⟩
  · rcases List.mem_cons.mp hq with rfl | hq
    · exact List.mem_append_right _ (.head _)
    · have hq : q ∈ ((d, od) :: (Y, oy) :: (Rr, orr) :: its) ++ rest := hq
      exact (List.mem_append.mp hq).elim (List.mem_append_left _) fun h => List.mem_append_right _ (.tail _ h)
  · rcases List.mem_cons.mp hq with rfl | hq
    · exact Nat.ne_of_gt q1
    · rcases List.mem_cons.mp hq with rfl | hq
      · exact Nat.ne_of_gt (Nat.lt_trans q1 q2)
      · rcases List.mem_append.mp hq with hq | hq
        · exact Nat.ne_of_lt (q3 q hq)
        · exact Nat.ne_of_lt (hold q hq)
  · rcases List.mem_cons.mp hq with rfl | hq
    · exact Nat.ne_of_gt (hC _ (.head _))
    · rcases List.mem_cons.mp hq with rfl | hq
      · exact Nat.ne_of_gt (hC _ (.tail _ (.head _)))
      · rcases List.mem_cons.mp hq with rfl | hq
        · exact Nat.ne_of_gt (hC _ (.tail _ (.tail _ (.head _))))
        · rcases List.mem_append.mp hq with hq | hq
          · exact Nat.ne_of_gt (hC _ (.tail _ (.tail _ (.tail _ hq))))
          · exact neC q hq
noncomputable def turnBody : List Stmt → List Stmt
  | _ :: _ :: Stmt.For _ _ b _ _ :: _ => b
  | _ => []
noncomputable abbrev rowTD (T D : Value) (m : PySem.Str → Option Value) : PySem.Str → Option Value := fun y => if y = Str.ofString "due" then some D else if y = Str.ofString "text" then some T else m y
structure TurnOk (T : PySem.Str) (rest : List (Addr × Obj)) (ys : List Value) : Prop where
  hl : T.length ≤ 1000
  hraw : ∀ i : Int, 0 ≤ i → i < T.length → (Txt.item T i == Str.ofString "`") = true → rawBad T i
  h : ∃ wds ds, rowsRead T = .ok wds ∧ TupsIn rest ys ds ∧ (∀ wd ∈ wds, (extD wd.ext).isSome = true) ∧ (wds.reverse.map wdD).take ys.length = ds ∧ ys.length < wds.length ∧ wds.length ≤ 100 ∧ (∀ (i : Nat) wd, wds.reverse[i]? = some wd → i < ys.length → (wd.kind == Str.ofString "end") = false) ∧
    PyData.eqv (.list ds) (.list ds) = true ∧ PySem.SeqAt.shaped (.list ds) = true
theorem law_turn (w : World) {oc : Value} {od an : Option Addr} {name qual : PySem.Str} {params : Arguments} {body : List Stmt} {scope : Scope} {dV kV doc pm cdv ct : Value} {osl : Array (Option Value)}
    (ho : (Mine.hd.heap_39 w.params).lookup 338 = some ⟨oc, od, .func (fnOf name qual params body scope dV kV doc pm an cdv ct), osl⟩)
    {p : Program} {loose : List PySem.Str} {mean : ExcName → Option Value} {mg mb : PySem.Str → Option Value} {dp un : Nat} {gd : Option (List Code)} {g : Heap} {L fa D : Addr} {ccd : Value} {m : PySem.Str → Option Value} {s : Shared} {Q : Flow → Shared → Prop} {E : Value → Shared → Prop}
    {T : PySem.Str} {tT : Tok} {ys : List Value} {nY : Nat} {oh : Obj} {v0 : Option Value} {rest : List (Addr × Obj)}
    (X : (Mine.hd.heap_39 w.params).In g) (Tp : Top p loose mean mg mb g) (hd : dp + 90 < recursionLimit) (hu : un + 1000 < cLine) (dh : oh.data = .cell v0)
    (F : Fr g L s.heap (rowTD (.str T tT) (.ref D) m)) (N : News g L s.heap ((L + 1, oh) :: rest)) (neC : ∀ q ∈ rest, q.1 ≠ L + 1) (hD : (D, W.listOf ys.toArray nY) ∈ rest) (H : TurnOk T rest ys)
    (hnext : ∀ h' tk oc' v, Fr g L h' (rowTD (.str T tT) (.ref D) m) → News g L h' ((L + 1, oc') :: rest) → oc'.data = .cell v → Q .next { s with heap := h', toks := tk }) :
    wpR (model PySem.Challenge.pw_pf0076_01 w) (ktrTop dp un gd qual scope L fa ccd [(Str.ofString "here", L + 1)] []) (execs (turnBody body) (envX qual scope L fa ccd [(Str.ofString "here", L + 1)])) Q E s := by
  obtain ⟨f2, f4, f5⟩ := fn_inj ho (show (Mine.hd.heap_39 w.params).lookup 338 = some ⟨_, _, .func (fnOf _ _ _ _ _ _ _ _ _ _ _ _), _⟩ by k_is)
  subst f2 f4 f5
  clear ho
  dsimp only [turnBody]
  obtain ⟨hl, hraw, wds, ds, hrow, hds, hext, htake, hz, hz2, hkind, heqv, hshape⟩ := H
  have B := below_caller g
  refine wpR_execs_cons (wpR_Assign_Name (wpR_Call ?_ (by rfl)) (by rfl))
  k_steps
  refine wpR_callWith_K (by k_asm) (by k_is) ?_ (by rfl) (by rfl)
  k_steps
  refine' CtrR.use (read_words_c _ _ _ (Nat.le_trans hl (Nat.le_of_ble_eq_true rfl)) hraw) ?kB ?kF ?kX ?kN ?kT ?kK ?kd ?ku ?kL ?_ ?_
  k_extra "my_args"
  (case kL => exact fun _ h => nomatch h)
  · intro e' sp' h' tk' g' hX' FG' R'
    rw [hrow] at hX'
    cases hX'
  · intro v' nw' h' tk' hR' F' N' l1
    obtain ⟨Y, d, Rr, its, wds', n', b1, b2, b3, b4, b5, hr', hw', hz', q1', q2', q3'⟩ := hR'
    rw [hrow] at hr'
    injection hr' with hr'
    subst hr'
    obtain ⟨N50, ne50, ned50, neC50⟩ := turn_led N' l1 q1' q2' q3' neC
    clear N' l1 hraw hrow
    have hlen := hw'.len
    have htup := ((wds_in hw' hext).take ys.length).sub (r' := (Y, instObj 261 d) :: (Rr, W.listOf (rowsV its).toArray n') :: (its ++ rest)) (fun q hq => .tail _ (.tail _ (List.mem_append.mpr (.inl hq))))
    rw [htake] at htup
    have hdue := hds.sub (r' := (Y, instObj 261 d) :: (Rr, W.listOf (rowsV its).toArray n') :: (its ++ rest)) (fun q hq => .tail _ (.tail _ (List.mem_append.mpr (.inr hq))))
    have hD2 : (D, W.listOf ys.toArray nY) ∈ (Y, instObj 261 d) :: (Rr, W.listOf (rowsV its).toArray n') :: (its ++ rest) := .tail _ (.tail _ (List.mem_append.mpr (.inr hD)))
    have hY2 : (Y, instObj 261 d) ∈ (Y, instObj 261 d) :: (Rr, W.listOf (rowsV its).toArray n') :: (its ++ rest) := .head _
    have hR2 : (Rr, W.listOf (rowsV its).toArray n') ∈ (Y, instObj 261 d) :: (Rr, W.listOf (rowsV its).toArray n') :: (its ++ rest) := .tail _ (.head _)
    have hits : ∀ q ∈ its, q ∈ (Y, instObj 261 d) :: (Rr, W.listOf (rowsV its).toArray n') :: (its ++ rest) := fun q hq => .tail _ (.tail _ (List.mem_append.mpr (.inl hq)))
    have hrest : ∀ q ∈ rest, q ∈ (Y, instObj 261 d) :: (Rr, W.listOf (rowsV its).toArray n') :: (its ++ rest) := fun q hq => .tail _ (.tail _ (List.mem_append.mpr (.inr hq)))
    generalize (Y, instObj 261 d) :: (Rr, W.listOf (rowsV its).toArray n') :: (its ++ rest) = big at *
    k_here
    k_dflt (refine' storeX_C ?zF ?zN ?zc ?zU ?zd ?_ ?za ?zb; (case za => rfl); (case zb => rfl); (case zF => exact F'); (case zN => exact N50); (case zc => rfl); (case zU => exact .head neC50); (case zd => exact dh); k_whole)
    clear N50 F' neC50
    intro h70 o7 F7 N7 d7
    (try dsimp only at N7)
    refine wpR_clean ?_
    k_steps
    refine Hold.mk ?_
    refine LCg.CompSrc.ledger (by rfl) (by k_asm) (by k_asm) (by k_mem) (by rw [List.size_toArray, sizeLine_eq]; exact Nat.le_trans (Nat.le_of_lt hz) (Nat.le_trans hz2 (Nat.le_of_ble_eq_true rfl))) ?_
    intro g9
    have hxz : (rowsV its).toArray.size = wds.length := by simp [rowsV, hlen]
    refine comp_take (d := d) (R := Rr) (Pm := w.params) (g := fun od => (L + 1, o7) :: (d, od) :: big) (.tail ned50 (.head ne50)) (fun _ => .inr ⟨_, .tail _ (.tail _ hD2), rfl, _, rfl⟩) (rowsV its) (by rw [List.size_toArray] at hxz ⊢; rw [hxz]; exact Nat.le_of_lt hz) ?_ ?_
    · intro i y hy hi ys' b c I oI C oC D2 m2 h9 tk9 E9 hC9 F9 N9 U9 n9
      rw [List.size_toArray] at hi
      have hil : i < wds.reverse.length := by rw [List.length_reverse]; exact Nat.lt_trans hi hz
      obtain ⟨x, t, v2, v3, v4, hx, hm⟩ := wds_at hw' i _ (List.getElem?_eq_getElem hil)
      have hkd := hkind i _ (List.getElem?_eq_getElem hil) hi
      rw [hx] at hy
      injection hy with hy
      subst hy
      have hm2 := hits _ hm
      generalize (wds.reverse[i]).kind = kind at *
      have N10 : News g L h9 ((Y, instObj 261 d) :: (I, oI) :: (C, oC) :: (D2, LCg.lst ys') :: (d, wordsD w.params Rr i b1 b c b4 b5) :: (L + 1, o7) :: (d, wordsD w.params Rr i b1 b c b4 b5) :: big) := all5 (N9 _ (by k_mem)) (N9 _ (by k_mem)) (N9 _ (by k_mem)) (N9 _ (by k_mem)) (N9 _ (by k_mem)) fun q hq => N9 q (.tail _ (.tail _ (.tail _ hq)))
      clear N9
      k_steps
      refine Hold.mk ?_
      refine' CtrS.use (take_c w Y d Rr x (rowsV its) n' wds.length i b1 b c b4 b5 t kind v2 v3 v4 (Int.natCast_nonneg i) (Int.ofNat_lt.mpr (Nat.lt_of_lt_of_le (Nat.lt_trans hi hz) (Nat.le_trans hz2 (Nat.le_of_ble_eq_true rfl)))) hxz (Nat.lt_of_le_of_lt (Nat.zero_le _) (Nat.lt_trans hi hz)) (Nat.le_trans hz2 (Nat.le_of_ble_eq_true rfl)) (at_i hx (Nat.lt_of_le_of_lt hi hz))) ?kB ?kF ?kX ?kN ?kT ?kK ?kd ?ku ?kU ?kG ?kL ?_
      k_extra "my_args"
      (case kU => with_reducible exact U9)
      (case kG => exact .tail (ne50 _ hY2) (.tail n9.1 (.tail n9.2.1 (.tail n9.2.2 .head))))
      (case kL => exact List.forall_mem_cons.mpr ⟨⟨by k_mem, ne50 _ hY2⟩, List.forall_mem_cons.mpr ⟨⟨by k_mem, ne50 _ hR2⟩, List.forall_mem_cons.mpr ⟨⟨by k_mem, ne50 _ hm2⟩, List.forall_mem_nil _⟩⟩⟩)
      intro v' nw' o' h' tk' hR' F' N' U' l1
      obtain ⟨rfl, rfl, b', c', rfl⟩ := take_i hR' hkd
      exact Hold.mk ⟨h', tk', _, b', c', rfl, rfl, F', N', fun q hq => by
        rcases List.mem_cons.mp hq with rfl | hq
        · k_mem
        · rcases List.mem_cons.mp hq with rfl | hq
          · k_mem
          · rcases List.mem_cons.mp hq with rfl | hq
            · k_mem
            · exact .tail _ (.tail _ (.tail _ (.tail _ (.tail _ hq))))⟩
    · intro b c
      k_steps
      refine Hold.mk ?_
      (rename News _ _ _ _ => N11)
      obtain ⟨as1, ra1⟩ := htup.reads (h := _) (fun q hq => N11 q (.tail _ (.tail _ (.tail _ hq))))
      obtain ⟨as2, ra2⟩ := hdue.reads (h := _) (fun q hq => N11 q (.tail _ (.tail _ (.tail _ hq))))
      have r1 := Reads.list (N11 _ (.head _)).1 rfl rfl (by simpa using ra1)
      have r2 := Reads.list (N11 _ (.tail _ (.tail _ (.tail _ hD2)))).1 rfl rfl (by simpa using ra2)
      refine ne_dataH r1 r2 hshape hshape (by k_extra "my_room") ?_
      rw [heqv]
      clear r1 r2 ra1 ra2
      k_steps
      dsimp only [ThenR]
      refine wpR_execs_nil ?_
      exact hnext _ _ _ _ (by assumption) (fun q hq => N11 q (by
        rcases List.mem_cons.mp hq with rfl | hq
        · exact .tail _ (.head _)
        · exact .tail _ (.tail _ (.tail _ (hrest q hq))))) d7

end
section
noncomputable def LitAt (o : Obj) (ax : Addr) (i : Nat) : Prop := o.cls = .type "list_iterator" ∧ o.data = .fields #[.ref ax, rawInt i]
theorem news_step {h₀ h h' : Heap} {L I : Addr} {news : List (Addr × Obj)} {oI oI' : Obj} (N : News h₀ L h ((I, oI) :: news)) (hs : Heap.SameBut I h h') (ne : ∀ q ∈ news, q.1 ≠ I) (ho : h'.get? I = some oI') : News h₀ L h' ((I, oI') :: news) := fun q hq => by
  rcases List.mem_cons.mp hq with rfl | hq
  · exact ⟨ho, (N _ (.head _)).2⟩
  · have z := N q (.tail _ hq)
    exact ⟨(hs.2 q.1 (ne q hq)).trans z.1, z.2⟩
section
variable {prog : Program} {w : World} {A : Around} {E : Value → Shared → Prop} {s : Shared} {R : Result → Shared → Prop} {env : Env} {h₀ : Heap} {L I ax : Addr} {m : PySem.Str → Option Value} {news : List (Addr × Obj)} {oI : Obj}
theorem for_turnL {target body} {items : List Value} {n i : Nat} {v : Value} (F : Fr h₀ L s.heap m) (N : News h₀ L s.heap ((I, oI) :: news)) (hI : LitAt oI ax i) (hax : (ax, W.listOf items.toArray n) ∈ news) (ne : ∀ q ∈ news, q.1 ≠ I) (hx : items[i]? = some v)
    (h : ∀ h' oI', Fr h₀ L h' m → News h₀ L h' ((I, oI') :: news) → LitAt oI' ax (i + 1) → wpAny (model prog w) A (letOwnedTupleGo target (.ref I) v) (fun _ s₁' =>
          wpAny (model prog w) A (assign target env v) (fun _ s₂ => wpR (model prog w) A (execs body env) (fun f s₃ => match f with
            | .next | .cont => codeR (model prog w) A (.forLoop target (.ref I) body [] env) R s₃
            | .brk => R (.ok .next) s₃
            | .ret v => R (.ok (.ret v)) s₃) (notedBy (model prog w) A env fun e s' => R (.error e) s') s₂) (notedBy (model prog w) A env fun e s' => R (.error e) s') s₁') (notedBy (model prog w) A env fun e s' => R (.error e) s') { s with heap := h' }) :
    codeR (model prog w) A (.forLoop target (.ref I) body [] env) R s := by
  have hn := N _ (.head _)
  refine codeR_forTurn (wpAny_pyNext_list_item (items := items.toArray) (x := v) ⟨_, hn.1, hI.1, hI.2⟩ ⟨_, (N _ (.tail _ hax)).1, rfl, _, rfl⟩ (by simpa using hx) fun h' hit hs => ?_)
  obtain ⟨o', ho', hc', hd'⟩ := hit
  exact h h' o' (F.change hs hn.2.1 hn.2.2) (news_step N hs ne ho') ⟨hc', hd'⟩
theorem for_endL {target body} {items : List Value} {n i : Nat} (hh : A.handled = none) (F : Fr h₀ L s.heap m) (N : News h₀ L s.heap ((I, oI) :: news)) (hI : LitAt oI ax i) (hax : (ax, W.listOf items.toArray n) ∈ news) (ne : ∀ q ∈ news, q.1 ≠ I) (hx : items[i]? = none)
    (h : ∀ h', Fr h₀ L h' m → News h₀ L h' news → R (.ok .next) { s with heap := h' }) :
    codeR (model prog w) A (.forLoop target (.ref I) body [] env) R s := by
  have hn := N _ (.head _)
  refine codeR_forTurn (wpAny_pyNext_list_end (items := items.toArray) hh ⟨_, hn.1, hI.1, hI.2⟩ ⟨_, (N _ (.tail _ hax)).1, rfl, _, rfl⟩ (by simpa using hx) fun h' hs => ?_)
  refine wpAny_execs_nil ?_
  refine h h' (LCg.fr_but F (fun b o hb e => hs b o (fun q => hb (List.mem_singleton.mpr q)) e) (Ne.symm hn.2.1) hn.2.2) (LCg.news_but (fun q hq => N q (.tail _ hq)) (fun b o hb e => hs b o (fun q => hb (List.mem_singleton.mpr q)) e) ne)
theorem iter_L {items : List Value} {n : Nat} {Q : Value → Shared → Prop} (F : Fr h₀ L s.heap m) (N : News h₀ L s.heap news) (hax : (ax, W.listOf items.toArray n) ∈ news)
    (h : ∀ I oI h', Fr h₀ L h' m → News h₀ L h' ((I, oI) :: news) → LitAt oI ax 0 → (∀ q ∈ news, q.1 < I) → Q (.ref I) { s with heap := h' }) : wpAny (model prog w) A (pyIter (.ref ax)) Q E s :=
  wpAny_pyIter_list (items := items.toArray) ⟨_, (N _ hax).1, rfl, _, rfl⟩ (h s.heap.objs.size _ _ (F.push _) (N.push F _) ⟨rfl, rfl⟩ fun q hq => Heap.lt_size (N q hq).1)
noncomputable def RitAt (o : Obj) (x left : Int) : Prop := o = { cls := .type "range_iterator", data := .fields #[rawInt x, rawInt left, rawInt 1] }
theorem for_turnR {target body} {x left : Int} (F : Fr h₀ L s.heap m) (N : News h₀ L s.heap ((I, oI) :: news)) (hI : RitAt oI x left) (ne : ∀ q ∈ news, q.1 ≠ I) (hx : 0 < left)
    (h : ∀ h' oI' t, Fr h₀ L h' m → News h₀ L h' ((I, oI') :: news) → RitAt oI' (x + 1) (left - 1) → wpAny (model prog w) A (letOwnedTupleGo target (.ref I) (.int x t)) (fun _ s₁' =>
          wpAny (model prog w) A (assign target env (.int x t)) (fun _ s₂ => wpR (model prog w) A (execs body env) (fun f s₃ => match f with
            | .next | .cont => codeR (model prog w) A (.forLoop target (.ref I) body [] env) R s₃
            | .brk => R (.ok .next) s₃
            | .ret v => R (.ok (.ret v)) s₃) (notedBy (model prog w) A env fun e s' => R (.error e) s') s₂) (notedBy (model prog w) A env fun e s' => R (.error e) s') s₁') (notedBy (model prog w) A env fun e s' => R (.error e) s') { s with heap := h', toks := s.toks + 1 }) :
    codeR (model prog w) A (.forLoop target (.ref I) body [] env) R s := by
  subst hI
  have hn := N _ (.head _)
  refine codeR_forTurn (wpAny_pyNext_range_item (step := 1) hn.1 hx fun h' hit hs => ?_)
  exact h h' _ _ (F.change hs hn.2.1 hn.2.2) (news_step N hs ne hit) rfl
theorem for_endR {target body} {x left : Int} (hh : A.handled = none) (F : Fr h₀ L s.heap m) (N : News h₀ L s.heap ((I, oI) :: news)) (hI : RitAt oI x left) (ne : ∀ q ∈ news, q.1 ≠ I) (hx : left ≤ 0)
    (h : ∀ h', Fr h₀ L h' m → News h₀ L h' news → R (.ok .next) { s with heap := h' }) :
    codeR (model prog w) A (.forLoop target (.ref I) body [] env) R s := by
  subst hI
  have hn := N _ (.head _)
  refine codeR_forTurn (wpAny_pyNext_range_end (step := 1) hh hn.1 hx fun h' hs => ?_)
  refine wpAny_execs_nil ?_
  refine h h' (LCg.fr_but F (fun b o hb e => hs b o (fun q => hb (List.mem_singleton.mpr q)) e) (Ne.symm hn.2.1) hn.2.2) (LCg.news_but (fun q hq => N q (.tail _ hq)) (fun b o hb e => hs b o (fun q => hb (List.mem_singleton.mpr q)) e) ne)
theorem iter_R {r : Addr} {b : Int} {t u v : Tok} {Q : Value → Shared → Prop} (F : Fr h₀ L s.heap m) (N : News h₀ L s.heap news) (hr : IsRange s.heap r 0 b 1 t u v) (h0 : 0 ≤ b) (h1 : b ≤ 1000)
    (h : ∀ I oI h', Fr h₀ L h' m → News h₀ L h' ((I, oI) :: news) → RitAt oI 0 b → (∀ q ∈ news, q.1 < I) → Q (.ref I) { s with heap := h' }) : wpAny (model prog w) A (pyIter (.ref r)) Q E s := by
  have e : Builtin.Range.rangeSize 0 b 1 = b := by unfold Builtin.Range.rangeSize; rw [if_pos (by decide)]; split <;> omega
  refine wpAny_pyIter_range hr (small_one (by omega) (by omega) (by omega) (by omega)) ?_
  rw [e]
  exact h s.heap.objs.size _ _ (F.push _) (N.push F _) rfl fun q hq => Heap.lt_size (N q hq).1
end
theorem turn_nil {g g' h' : Heap} {L : Addr} {m : PySem.Str → Option Value} (T : KtsTurn [] g g') (F : Fr g' L h' m) : Fr g L h' m :=
  ⟨F.ns, fun b o e => F.keep b o (T.other b o e (fun h => nomatch h)), T.size ▸ F.above⟩
theorem news_nil {g g' h' : Heap} {L : Addr} {news : List (Addr × Obj)} (T : KtsTurn [] g g') (N : News g' L h' news) : News g L h' news := fun q hq => by
  have z := N q hq
  refine ⟨z.1, z.2.1, ?_⟩
  cases e : g.get? q.1 with
  | none => rfl
  | some o => have := T.other _ o e (fun h => nomatch h); rw [z.2.2] at this; cases this

end
section
inductive PairsE : List Expr → List (PySem.Str × Int) → Prop
  | nil : PairsE [] []
  | cons {x : PySem.Str} {n : Int} {k1 k2 k : Nat} {p1 p2 p3 : Pos} {es : List Expr} {ps : List (PySem.Str × Int)} (h : PairsE es ps) : PairsE (.Tuple [.Constant (.str x) k1 p1, .Constant (.int n) k2 p2] k p3 :: es) ((x, n) :: ps)
noncomputable abbrev pairO (x : PySem.Str) (n : Int) (t u : Tok) : Obj := { cls := .type "tuple", data := .seq [Value.str x t, Value.int n u].toArray }
inductive PairsAre : List (PySem.Str × Int) → List (Addr × Obj) → Prop
  | nil : PairsAre [] []
  | cons {x : PySem.Str} {n : Int} {t u : Tok} {a : Addr} {ps : List (PySem.Str × Int)} {its : List (Addr × Obj)} (h : PairsAre ps its) : PairsAre ((x, n) :: ps) ((a, pairO x n t u) :: its)
theorem pairs_list {M : Model} {A : Around} {E : Value → Shared → Prop} {h₀ : Heap} {L : Addr} {m : PySem.Str → Option Value} {env : Env} {pos : Pos} {es : List Expr} {ps : List (PySem.Str × Int)} (he : PairsE es ps) :
    ∀ (news : List (Addr × Obj)) (s : Shared) (Q : List Value → Shared → Prop), Fr h₀ L s.heap m → News h₀ L s.heap news →
      (∀ its h' tk, PairsAre ps its → Fr h₀ L h' m → News h₀ L h' (its ++ news) → (∀ q ∈ news, ∀ p ∈ its, q.1 < p.1) → Q (its.map fun p => Value.ref p.1) { s with heap := h', toks := tk }) →
      wpAny M A (spliced (backTo pos (starEach es env))) Q E s := by
  induction he with
  | nil =>
    intro news s Q F N h
    refine wpAny_pure ?_
    exact h [] s.heap s.toks .nil F N (fun _ _ _ h => nomatch h)
  | @cons x n k1 k2 k p1 p2 p3 es ps h2 ih =>
    intro news s Q F N h
    show wpAny M A (spliced ((false, eval (.Tuple [.Constant (.str x) k1 p1, .Constant (.int n) k2 p2] k p3) env) :: backTo pos (starEach es env))) Q E s
    refine spliced_cons ?_
    refine Tuple_ ?_
    show wpAny M A (spliced [(false, eval (.Constant (.str x) k1 p1) env), (false, eval (.Constant (.int n) k2 p2) env)]) _ E s
    refine spliced_cons ?_
    refine Calls.Constant_str ?_
    refine spliced_cons ?_
    refine wpAny_Constant_int ?_
    refine spliced_nil ?_
    refine newTuple_N F N (fun h' F' N' => ?_) (by rw [sizeLine_eq]; exact Nat.le_of_ble_eq_true rfl)
    have lt : ∀ q ∈ news, q.1 < s.heap.objs.size := fun q hq => Heap.lt_size (N q hq).1
    refine ih _ _ _ F' N' fun its h2 tk P2 F2 N2 l2 => ?_
    refine h ((_, pairO x n s.toks (s.toks + 1)) :: its) h2 tk (.cons (t := s.toks) (u := s.toks + 1) P2) F2 (fun q hq => N2 q ?_) (fun q hq r hr => ?_)
    · rcases List.mem_cons.mp hq with rfl | hq
      · exact List.mem_append.mpr (.inr (.head _))
      · rcases List.mem_append.mp hq with hq | hq
        · exact List.mem_append.mpr (.inl hq)
        · exact List.mem_append.mpr (.inr (.tail _ hq))
    · rcases List.mem_cons.mp hr with rfl | hr
      · exact lt q hq
      · exact l2 q (.tail _ hq) r hr
theorem PairsAre.mem {ps : List (PySem.Str × Int)} {its : List (Addr × Obj)} (P : PairsAre ps its) : ∀ v ∈ its.map (fun p => Value.ref p.1), ∃ a x n t u, v = .ref a ∧ (a, pairO x n t u) ∈ its ∧ (x, n) ∈ ps := by
  induction P with
  | nil => exact fun _ h => nomatch h
  | @cons x n t u a ps its h ih =>
    intro v hv
    rcases List.mem_cons.mp hv with rfl | hv
    · exact ⟨a, x, n, _, _, rfl, .head _, .head _⟩
    · obtain ⟨a, x, n, t, u, e, h1, h2⟩ := ih v hv
      exact ⟨a, x, n, t, u, e, .tail _ h1, .tail _ h2⟩
theorem PairsAre.len {ps : List (PySem.Str × Int)} {its : List (Addr × Obj)} (P : PairsAre ps its) : its.length = ps.length := by
  induction P with
  | nil => rfl
  | cons h ih => exact congrArg (· + 1) ih

end
section
noncomputable def aheads : List PySem.Str := [⟨#[]⟩, ⟨#[97, 32]⟩, ⟨#[47, 42, 47, 32, 42, 47]⟩, ⟨#[49, 10]⟩, ⟨#[39, 92, 110, 39, 9]⟩]
noncomputable def wrongs : List (PySem.Str × Int) := [(⟨#[39, 92, 120, 52]⟩, 1), (⟨#[34, 92, 120, 52]⟩, 1), (⟨#[34, 92, 85, 48, 48, 49, 49, 48, 48, 48, 48, 34]⟩, 1), (⟨#[39, 10, 39]⟩, 0), (⟨#[34, 92, 117, 49, 50, 34]⟩, 1), (⟨#[39, 92, 48, 56, 39]⟩, 1), (⟨#[39, 55296, 39]⟩, 1), (⟨#[34, 97, 57343, 34]⟩, 2), (⟨#[96, 55296, 96]⟩, 1), (⟨#[55296]⟩, 0), (⟨#[233]⟩, 0), (⟨#[47, 42, 47]⟩, 0), (⟨#[47, 42, 32, 42]⟩, 0), (⟨#[48, 98]⟩, 0), (⟨#[48, 111]⟩, 0), (⟨#[48, 88]⟩, 0), (⟨#[48, 120, 95]⟩, 0), (⟨#[48, 48, 95]⟩, 0), (⟨#[48, 95]⟩, 0), (⟨#[48, 111, 56]⟩, 0), (⟨#[48, 120, 103]⟩, 0), (⟨#[49, 95, 97]⟩, 0), (⟨#[49, 46, 48]⟩, 0), (⟨#[39, 97]⟩, 0), (⟨#[39, 92, 39]⟩, 0), (⟨#[39, 92, 39, 97]⟩, 0), (⟨#[34, 92, 34]⟩, 0), (⟨#[34, 92]⟩, 1), (⟨#[39, 92, 56, 39]⟩, 1), (⟨#[34, 92, 52, 48, 48, 34]⟩, 1), (⟨#[96]⟩, 0), (⟨#[39, 92, 85, 48, 48, 48, 48, 100, 56, 48, 48, 39]⟩, 1), (⟨#[34, 92, 117, 68, 70, 70, 70, 34]⟩, 1), (⟨#[39, 92]⟩, 1), (⟨#[48, 120, 95, 95, 49]⟩, 0), (⟨#[34, 97, 10, 34]⟩, 0)]
noncomputable def isErr (o : Except Int (List Wd)) (e : Int) : Bool := match o with
  | .error x => x == e
  | .ok _ => false
theorem isErr_eq {o : Except Int (List Wd)} {e : Int} (h : isErr o e = true) : o = .error e := by
  cases o with
  | error x => exact congrArg _ (eq_of_beq (show (x == e) = true from h))
  | ok _ => cases h
noncomputable def wrongB (a : PySem.Str) (l : List (PySem.Str × Int)) : Bool := l.all fun p => isErr (rowsRead (a ++ p.1)) (a.length + p.2)
theorem wrong_of {a : PySem.Str} (h : wrongB a (wrongs.take 18) = true) (h' : wrongB a (wrongs.drop 18) = true) : ∀ p ∈ wrongs, isErr (rowsRead (a ++ p.1)) (a.length + p.2) = true := fun p hp => by
  rw [← List.take_append_drop 18 wrongs] at hp
  exact (List.mem_append.mp hp).elim (List.all_eq_true.mp h p) (List.all_eq_true.mp h' p)
theorem wrong_1 : wrongB ⟨#[]⟩ (wrongs.take 18) = true := by decide +kernel
theorem wrong_2 : wrongB ⟨#[]⟩ (wrongs.drop 18) = true := by decide +kernel
theorem wrong_3 : wrongB ⟨#[97, 32]⟩ (wrongs.take 18) = true := by decide +kernel
theorem wrong_4 : wrongB ⟨#[97, 32]⟩ (wrongs.drop 18) = true := by decide +kernel
theorem wrong_5 : wrongB ⟨#[47, 42, 47, 32, 42, 47]⟩ (wrongs.take 18) = true := by decide +kernel
theorem wrong_6 : wrongB ⟨#[47, 42, 47, 32, 42, 47]⟩ (wrongs.drop 18) = true := by decide +kernel
theorem wrong_7 : wrongB ⟨#[49, 10]⟩ (wrongs.take 18) = true := by decide +kernel
theorem wrong_8 : wrongB ⟨#[49, 10]⟩ (wrongs.drop 18) = true := by decide +kernel
theorem wrong_9 : wrongB ⟨#[39, 92, 110, 39, 9]⟩ (wrongs.take 18) = true := by decide +kernel
theorem wrong_10 : wrongB ⟨#[39, 92, 110, 39, 9]⟩ (wrongs.drop 18) = true := by decide +kernel
theorem wrong_all : ∀ a ∈ aheads, ∀ p ∈ wrongs, isErr (rowsRead (a ++ p.1)) (a.length + p.2) = true :=
  List.forall_mem_cons.mpr ⟨wrong_of wrong_1 wrong_2, List.forall_mem_cons.mpr ⟨wrong_of wrong_3 wrong_4, List.forall_mem_cons.mpr ⟨wrong_of wrong_5 wrong_6, List.forall_mem_cons.mpr ⟨wrong_of wrong_7 wrong_8, List.forall_mem_cons.mpr ⟨wrong_of wrong_9 wrong_10, List.forall_mem_nil _⟩⟩⟩⟩⟩

end
section
theorem raw_none {T : PySem.Str} (h : 96 ∉ T.cps.toList) : ∀ i : Int, 0 ≤ i → i < T.length → (Txt.item T i == Str.ofString "`") = true → rawBad T i := fun i h0 h1 e => by
  exfalso
  rw [item_eq T i h0 h1, show Str.ofString "`" = ⟨#[96]⟩ by decide +kernel, str1] at e
  have e : cpA T i.toNat = 96 := by simpa using e
  apply h
  rw [← e]
  unfold cpA
  rw [List.getElem?_eq_getElem (by have := len_eq T; omega)]
  exact List.getElem_mem _
theorem flat_no96 : ∀ ps : List (List Nat × Int × Bool), (∀ p ∈ ps, Unit1 34 p.1 p.2.1 p.2.2) → 96 ∉ flatT ps
  | [], _ => by simp
  | p :: ps, h => by
    have h1 := (h p (.head _)).no96
    have h2 := flat_no96 ps fun q hq => h q (.tail _ hq)
    simp only [flatT, List.flatMap_cons, List.mem_append, not_or] at h2 ⊢
    exact ⟨h1, h2⟩
theorem hx_no96 {b : Int} {l : List Nat} (h : ∀ x ∈ l, ∃ n : _root_.Fin 16, x = hx n.val ∧ (n.val : Int) < b) : 96 ∉ l := fun hm => by
  obtain ⟨n, e, _⟩ := h 96 hm
  revert e
  exact (by decide : ∀ n : _root_.Fin 16, 96 = hx n.val → False) n
theorem ahead96 {ah : List Nat} {b : Int} (A : Ahead ah b) : 96 ∉ ah := by cases A <;> decide
theorem RowT.Ok.no96 {R : RowT} (H : R.Ok) : 96 ∉ R.text := by
  obtain ⟨hu, hr, n0, hz, hn, A, hc, hl, h10⟩ := H
  have h1 := flat_no96 R.ps hu
  have h2 := hr.no96
  have h3 : 96 ∉ R.nm := fun h => by have := hn 96 h; revert this; decide +kernel
  have h4 : 96 ∉ R.c :: R.l := hx_no96 (b := R.b) fun x hx => by
    rcases List.mem_cons.mp hx with rfl | hx
    · obtain ⟨n, a, _, c⟩ := hc; exact ⟨n, a, c⟩
    · exact hl x hx
  have h5 : 96 ∉ R.ah := ahead96 A
  unfold RowT.text
  simp only [List.mem_append, List.mem_cons, not_or] at h4 ⊢
  simp [h1, h2, h3, h4, h5]

end
section
noncomputable def rawB (T : PySem.Str) (i : Int) : Bool := decide (Txt.find3 T (Str.ofString "`") (i + 1) < 0) ||
  (decide (i + 1 < Txt.find3 T (Str.ofString "`") (i + 1)) && decide (i + 1 < T.length) && decide (Txt.find3 T (Str.ofString "`") (i + 1) < T.length) && (Txt.item T (i + 1) != Str.ofString "\r") && !rightI (((Txt.item T (i + 1)).cps.getD 0 0 : Nat) : Int))
theorem rawB_eq {T : PySem.Str} {i : Int} (h : rawB T i = true) : rawBad T i := by
  unfold rawB at h
  unfold rawBad
  simp only [Bool.or_eq_true, Bool.and_eq_true, decide_eq_true_eq, Bool.not_eq_true'] at h
  rcases h with h | ⟨⟨⟨⟨h1, h2⟩, h3⟩, h4⟩, h5⟩
  · exact .inl h
  · exact .inr ⟨h1, h2, h3, h4, h5⟩
noncomputable def rawAll (T : PySem.Str) : Bool := (List.range T.length).all fun n => !(Txt.item T (n : Int) == Str.ofString "`") || rawB T (n : Int)
theorem raw_all {T : PySem.Str} (h : rawAll T = true) : ∀ i : Int, 0 ≤ i → i < T.length → (Txt.item T i == Str.ofString "`") = true → rawBad T i := fun i h0 h1 e => by
  have h2 := List.all_eq_true.mp h i.toNat (List.mem_range.mpr (by omega))
  rw [Int.toNat_of_nonneg h0, e] at h2
  exact rawB_eq (by simpa using h2)
noncomputable def no96 (T : PySem.Str) : Bool := T.cps.toList.all fun c => c != 96
theorem wrong_raw : ∀ a ∈ aheads, ∀ p ∈ wrongs, rawAll (a ++ p.1) = true := by decide +kernel
theorem wrong_sz : (∀ a ∈ aheads, a.length ≤ 20) ∧ ∀ p ∈ wrongs, p.1.length ≤ 20 ∧ 0 ≤ p.2 ∧ p.2 ≤ 2 := by decide +kernel

end
section
example : True := by
  w_top off
  k_with_none
  (k_with "exec Raise some none" => (k_here; k_dflt (refine' Raise_fault ?k1 ?k2 ?_; (case k1 => k_asm); (case k2 => k_asm); k_whole)))
  (k_with "call ref" => (k_here; (with_reducible show wpAny _ _ (call (Value.ref 52) _) _ _ _); k_dflt (refine' fault ?k1 ?k2 ?k3 ?k4 ?k5 ?k6 ?k7 ?k8 ?_; (case k1 => k_asm); (case k2 => k_asm); (case k3 => k_asm); (case k4 => k_asm); (case k5 => k_asm); (case k6 => first | assumption | exact rfl); (case k7 => k_extra "my_room"); (case k8 => k_extra "my_room"); k_whole); intro h' e' tk' F' M'; (try k_sweep)))
  (k_with "FaultQ" => (refine ⟨_, _, _, _, rfl, by assumption, by assumption, ?_⟩))
  (k_with "leaving ref" => (k_here; first | (refine' leave_first ?k1 ?k2 ?k3 ?k4 ?_; (case k3 => assumption); (case k1 => assumption); (case k2 => assumption); (case k4 => exact rfl); k_whole; intro h' R') | (refine' leave_next ?k1 ?k2 ?k3 ?_; (case k3 => assumption); (case k1 => assumption); (case k2 => assumption); k_whole; intro h' R')))
  (k_with "k_ne" => first | with_reducible assumption | exact Ne.symm (by with_reducible assumption) | exact Nat.ne_of_gt (by with_reducible assumption) | exact Nat.ne_of_lt (by with_reducible assumption) | exact Ne.symm (And.left (by k_extra "k_cj0")) | exact Nat.ne_of_gt (And.left (by k_extra "k_cj0")) | exact And.left (by k_extra "k_cj0"))
  (k_with "k_cj0" => first | with_reducible assumption | exact And.right (by k_extra "k_cj1"))
  (k_with "k_cj1" => first | with_reducible assumption | exact And.right (by k_extra "k_cj2"))
  (k_with "k_cj2" => first | with_reducible assumption | exact And.right (by k_extra "k_cj3"))
  (k_with "k_cj3" => first | with_reducible assumption | exact And.right (by k_extra "k_cj4"))
  (k_with "k_cj4" => first | with_reducible assumption | exact And.right (by k_extra "k_cj5"))
  (k_with "k_cj5" => first | with_reducible assumption | exact And.right (by k_extra "k_cj6"))
  (k_with "k_cj6" => first | with_reducible assumption | exact And.right (by k_extra "k_cj7"))
  (k_with "k_cj7" => first | with_reducible assumption | exact And.right (by k_extra "k_cj8"))
  (k_with "k_cj8" => first | with_reducible assumption | exact And.right (by k_extra "k_cj9"))
  (k_with "k_cj9" => first | with_reducible assumption | exact And.right (by with_reducible assumption))
  (k_with "my_args" => ((case kB => k_asm); (case kF => k_asm); (case kX => k_asm); (case kN => k_asm); (case kT => k_asm); (case kK => first | assumption | exact rfl); (case kd => k_extra "my_room"); (case ku => k_extra "my_room")))
  (k_with "my_updG" => first | exact UpdG.head | (refine' UpdG.tail ?a ?b; (case a => k_ne); (case b => k_extra "my_updG")))
  (k_with "my_ledS" => first | exact List.forall_mem_nil _ | (refine List.forall_mem_cons.mpr ⟨⟨?a, ?b⟩, List.forall_mem_nil _⟩; (case a => k_mem); (case b => k_ne)))
  (k_with "my_backS" => (intro v' nw' o' h' tk' hR' F' N' U' l1; cases hR'; (try dsimp only at N'); (try simp only [List.nil_append, List.cons_append] at N'); (try k_sweep); (try k_fold)))
  (k_with "my_sideS" => first | with_reducible assumption | omega | decide)
  (k_with "my_mem" => first | (with_reducible exact List.mem_cons_self) | (with_reducible refine List.mem_cons_of_mem _ ?_; k_extra "my_mem"))
  (k_with "my_room" => first | exact room9 (by with_reducible assumption) (by exact rfl) | exact room8 (by with_reducible assumption) (by exact rfl) | exact room7 (by with_reducible assumption) | ktr_room | ktr_units)
  trivial
example : True := by
  (k_with "my_enterT" => (refine' code_defT ?k1 ?k2 ?k3 ?k4 ?k5 ?kXB ?kTB ?kD ?kT0 ?kA ?kF ?kK ?k6 ?k7 ?k8 ?k9 ?kB ?_ ?c2 ?c3 ?c4 ?c5; (case kA => exact rfl); (case kF => exact rfl); (case kK => first | assumption | exact rfl); (case k1 => k_asm); (case k2 => k_asm); (case k3 => k_asm); (case k4 => k_asm); (case k5 => k_asm); (case kXB => assumption); (case kTB => assumption); (case kD => assumption); (case kT0 => first | assumption | exact KtsTurn.refl); (case k6 => k_is); (case k7 => k_is); (case k8 => k_extra "my_room"); (case k9 => first | exact BindsTo.of_eq rfl | exact binds_K (by k_in) rfl (by k_is) rfl rfl rfl); (case c5 => decide); (case kB => exact locs rfl); (case c2 => exact rfl); (case c3 => exact rfl); (case c4 => exact rfl); k_whole; intro g' L' h' FG' F' N' B' X' T' D' l1; (try dsimp only); (try k_fold)))
  trivial
inductive IsAhead : Value → Prop
  | mk (x : PySem.Str) (t : Tok) (h : x ∈ aheads) (hl : x.length ≤ 20) : IsAhead (.str x t)
theorem isAhead {t1 t2 t3 t4 t5 : Tok} : ∀ v ∈ [Value.str (Str.ofString "") t1, .str (Str.ofString "a ") t2, .str (Str.ofString "/*/ */") t3, .str (Str.ofString "1\n") t4, .str (Str.ofString "'\\n'\t") t5], IsAhead v := fun v hv => by
  have key : ∀ x ∈ [Str.ofString "", Str.ofString "a ", Str.ofString "/*/ */", Str.ofString "1\n", Str.ofString "'\\n'\t"], x ∈ aheads ∧ x.length ≤ 20 := by decide +kernel
  simp only [List.mem_cons, List.not_mem_nil, or_false] at hv
  rcases hv with rfl | rfl | rfl | rfl | rfl <;> exact .mk _ _ (key _ (by simp)).1 (key _ (by simp)).2
inductive IsWrong (its : List (Addr × Obj)) : Value → Prop
  | mk (x : Addr) (y : PySem.Str) (k : Int) (t u : Tok) (hm : (x, pairO y k t u) ∈ its) (h : (y, k) ∈ wrongs) : IsWrong its (.ref x)
theorem isWrong {its : List (Addr × Obj)} (P : PairsAre wrongs its) : ∀ v ∈ its.map (fun p => Value.ref p.1), IsWrong its v := fun v hv => by
  obtain ⟨a, x, n, t, u, rfl, h1, h2⟩ := P.mem v hv
  exact .mk _ _ _ _ _ h1 h2
theorem PairsE.to {es : List Expr} {ps ps' : List (PySem.Str × Int)} (h : PairsE es ps') (e : ps' = ps) : PairsE es ps := e ▸ h
theorem pairs_made {M : Model} {A : Around} {E : Value → Shared → Prop} {h₀ : Heap} {L : Addr} {m : PySem.Str → Option Value} {env : Env} {pos : Pos} {es : List Expr} {ps : List (PySem.Str × Int)} {news : List (Addr × Obj)} {s : Shared} {Q : Value → Shared → Prop} (he : PairsE es ps) (hz : ps.length ≤ 1000) (F : Fr h₀ L s.heap m) (N : News h₀ L s.heap news)
    (h : ∀ D its h' tk, PairsAre ps its → Fr h₀ L h' m → News h₀ L h' ((D, W.listOf (its.map fun p => Value.ref p.1).toArray 0) :: (its ++ news)) → (∀ q ∈ news, ∀ p ∈ its, q.1 < p.1) → (∀ q ∈ its ++ news, q.1 < D) → Q (.ref D) { s with heap := h', toks := tk }) :
    wpAny M A (eval (.List es pos) env) Q E s := by
  refine List_ (pairs_list he news s _ F N fun its h' tk P F' N' l => ?_)
  refine newList_N F' N' (fun h2 F2 N2 => h _ its h2 tk P F2 N2 l fun q hq => Heap.lt_size (N' q hq).1) ?_
  rw [List.length_map, P.len, sizeLine_eq]
  omega
example : True := by
  (k_with "eval List" => ((with_reducible show wpAny _ _ (eval (Expr.List (Expr.Tuple _ _ _ :: _) _) _) _ _ _); with_reducible refine Hold.out ?_))
  (k_with "call ref" => (k_here; (with_reducible show wpAny _ _ (call (Value.ref 286) _) _ _ _); first | (k_dflt (refine' CtrS.use (law_oneP_c _ IsAhead _ _ _ _ _ _ _ _ _ ?s1 ?s2 ?s3 ?s4 ?s5) ?kB ?kF ?kX ?kN ?kT ?kK ?kd ?ku ?kU ?kG ?kL ?_; k_extra "my_args"; (case kL => k_extra "my_ledS"); (case kU => with_reducible assumption); (case kG => k_extra "my_updG"); (case s1 => k_extra "my_sideS"); (case s2 => k_extra "my_sideS"); (case s3 => exact Nat.le_of_ble_eq_true rfl); (case s4 => exact Nat.le_of_ble_eq_true rfl); (case s5 => exact isAhead); k_extra "my_backS"; (rename IsAhead _ => hp8); cases hp8)) | (with_reducible refine Hold.out ?_)))
  (k_with "my_updG" => first | exact UpdG.head | (refine' UpdG.tail ?a ?b; (case a => first | with_reducible assumption | k_ne); (case b => k_extra "my_updG")) | (refine' UpdG.app ?a ?b; (case a => with_reducible assumption); (case b => k_extra "my_updG")))
  trivial
theorem wrong_right_c (w : World) (S : Addr) (a b : Int) (t1 t2 : Tok) (n : Nat) (ha : 0 ≤ a) (hb : 0 ≤ b) : CtrTS w 333 [.ref S] 70 900 S (W.listOf #[.int a t1, .int b t2] n) RTrue := by
  intro p loose mean mg mb dp un gd cn cs a' ccd cl outer A₀ base' h₀ g₀ L m news upd s Q E B F X XB N0 T TB D T0 hk hd hu U0 hret
  have N : News h₀ L s.heap ((S, W.listOf #[.int a t1, .int b t2] n) :: news) := fun q hq => (List.mem_cons.mp hq).elim (fun e => e ▸ N0 _ (UpdF.mem U0)) (N0 q)
  clear N0
  have U := U0
  refine wpR_call ?_
  k_dflt k_extra "my_enterT"
  refine gen_QER ?_
  intro Q9 E9 hq9 he9
  refine wpR_clean ?_
  k_steps
  dsimp only [ThenR]
  refine wpR_clean ?_
  k_steps
  refine Hold.mk ?_
  (rename News _ _ _ _ => N9)
  (rename Fr _ _ _ _ => F9)
  with_reducible refine' pairs_made (ps := wrongs) ?he ?hz ?F ?N ?_
  (case he => exact PairsE.to (.cons (.cons (.cons (.cons (.cons (.cons (.cons (.cons (.cons (.cons (.cons (.cons (.cons (.cons (.cons (.cons (.cons (.cons (.cons (.cons (.cons (.cons (.cons (.cons (.cons (.cons (.cons (.cons (.cons (.cons (.cons (.cons (.cons (.cons (.cons (.cons .nil)))))))))))))))))))))))))))))))))))) (by decide +kernel))
  (case hz => exact Nat.le_of_ble_eq_true rfl)
  (case F => with_reducible exact F9)
  (case N => with_reducible exact N9)
  intro D2 its h2 tk2 P2 F2 N2 l2 l3
  clear F9 N9
  have hS : ∀ p ∈ its, p.1 ≠ S := fun p hp => Nat.ne_of_gt (l2 (S, _) (by k_extra "my_mem") p hp)
  have hDS : @Ne Nat D2 S := Nat.ne_of_gt (l3 (S, _) (by with_reducible refine List.mem_append.mpr (.inr ?_); k_extra "my_mem"))
  clear l2 l3
  k_steps
  refine Hold.mk ?_
  refine' CtrS.use (law_oneP_c _ (IsWrong its) _ _ _ _ _ _ _ 0 (its.map fun p => Value.ref p.1) ?s1 ?s2 ?s3 ?s4 ?s5) ?kB ?kF ?kX ?kN ?kT ?kK ?kd ?ku ?kU ?kG ?kL ?_
  k_extra "my_args"
  (case kU => with_reducible assumption)
  (case kG => k_extra "my_updG")
  (case s1 => k_extra "my_sideS")
  (case s2 => k_extra "my_sideS")
  (case s3 => rw [List.length_map, P2.len]; exact Nat.le_of_ble_eq_true rfl)
  (case s4 => rw [List.length_map, P2.len]; exact Nat.le_of_ble_eq_true rfl)
  (case s5 => exact isWrong P2)
  (case kL => exact fun q hq => by rw [List.mem_singleton.mp hq]; exact ⟨.head _, hDS⟩)
  intro v' nw' o' h' tk' hR' F' N' U' l1
  obtain ⟨a9, b9, u1, u2, c9, hw9, ha9, hb9⟩ := hR'
  obtain ⟨X9, y9, k9, t9, u9, hm9, hwr9⟩ := hw9
  have N9 : News _ _ h' ((X9, tupO [.str y9 t9, .int k9 u9]) :: (S, W.listOf #[.int a9 u1, .int b9 u2] c9) :: upd (W.listOf #[.int a9 u1, .int b9 u2] c9)) := news_sub N' fun q hq => by
    rcases List.mem_cons.mp hq with hq | hq
    · rw [hq]; exact .tail _ (List.mem_append.mpr (.inl hm9))
    · exact .tail _ (List.mem_append.mpr (.inr (.tail _ hq)))
  clear N' l1 F2 N2 hS hDS P2 hm9
  (rename _ ∈ aheads => hah9)
  have hz9 := (wrong_sz.2 _ hwr9).1
  have hz1 := (wrong_sz.2 _ hwr9).2.1
  have hz2 := (wrong_sz.2 _ hwr9).2.2
  dsimp only at hz9 hz1 hz2
  k_steps
  dsimp only [ThenR]
  (try clear U')
  refine wpR_execs_cons (wpR_Return (wpR_Compare1 (wpR_Call ?_ (by rfl)) (by with_unfolding_all rfl)))
  k_steps
  refine wpR_callWith_K (by k_asm) (by k_is) ?_ (by rfl) (by rfl)
  k_steps
  have hraw := raw_all (wrong_raw _ hah9 _ hwr9)
  have herr := isErr_eq (wrong_all _ hah9 _ hwr9)
  dsimp only at hraw herr
  refine' CtrT.use (law_fault_c _ _ _ (by omega) hraw) ?kB ?kF ?kX ?kXB ?kN ?kT ?kTB ?kD ?kK ?kd ?ku ?kL ?_
  k_extra "my_args"
  (case kXB => assumption)
  (case kTB => assumption)
  (case kD => assumption)
  (case kL => exact fun _ h => nomatch h)
  clear hraw
  intro v' nw' h' tk' h1 hR' T1 F' N' l1' B1 X1 TT1 D1
  cases hR' with
  | none wds h => rw [herr] at h; cases h
  | some sp t h => ?_
  rw [herr] at h
  injection h with h
  subst h
  clear herr
  (try simp only [List.nil_append] at N')
  k_steps
  simp only [beq_self_eq_true]
  refine hq9 _ _ ?_
  refine ⟨_, _, _, _, T1, by assumption, by assumption, fun h₁ T₁ F₁ N₁ B₁ X₁ TT₁ D₁ => hret _ [] _ _ _ h₁ (.mk _ _ _ _ _ ha9 hb9) T₁ F₁ (news_tl (news_tl N₁)) (fun _ _ _ h => nomatch h) B₁ X₁ TT₁ D₁⟩

end
section
example : True := by
  w_top off
  k_with_none
  trivial
theorem UpdF.fst {d : Addr} {o o' : Obj} {l : List (Addr × Obj)} {g : Obj → List (Addr × Obj)} (U : UpdF d o l g) : (g o').map (·.1) = l.map (·.1) := by
  induction U with
  | head h => rfl
  | tail h r ih => exact congrArg (List.cons _) ih
theorem UpdF.eqO {d : Addr} {o : Obj} {l : List (Addr × Obj)} {g : Obj → List (Addr × Obj)} (U : UpdF d o l g) : g o = l := by
  induction U with
  | head h => rfl
  | tail h r ih => exact congrArg _ ih
theorem UpdF.app {d : Addr} {o : Obj} {l : List (Addr × Obj)} {g : Obj → List (Addr × Obj)} (U : UpdF d o l g) : ∀ {n : List (Addr × Obj)}, (∀ p ∈ n, p.1 ≠ d) → UpdF d o (n ++ l) (fun o' => n ++ g o')
  | [], _ => U
  | _ :: _, h => .tail (h _ (.head _)) (UpdF.app U fun p hp => h p (.tail _ hp))
noncomputable def SrcO (o : Obj) : Prop := ∃ (a b : Int) (t1 t2 : Tok) (n : Nat), 0 ≤ a ∧ 0 ≤ b ∧ o = W.listOf #[.int a t1, .int b t2] n
noncomputable def CtrV (w : World) (f : Addr) (vs : List Value) (d u : Nat) (S : Addr) (led : List (Addr × Obj)) (R : Value → List (Addr × Obj) → Prop) : Prop := ∀ o, SrcO o → CtrS w f vs d u S o led (fun v nw o' => R v nw ∧ SrcO o')
section
variable {cs : Scope} {ns : List PySem.Str} {d u : Nat} {RX : Value → List (Addr × Obj) → Prop} {XX : Int → Prop}
noncomputable def HasS (C : Bx cs ns d u RX XX) (S : Addr) : Prop := ∃ upd : Obj → List (Addr × Obj), (∀ l, C.Pn l → ∃ o, SrcO o ∧ UpdF S o l upd) ∧ ∀ o, SrcO o → C.Pn (upd o)
end
theorem CtrV.of_body {w : World} {f : Addr} {vs : List Value} {d u : Nat} {S : Addr} {RX : Value → List (Addr × Obj) → Prop}
    {name qual : PySem.Str} {params : Arguments} {body : List Stmt} {cs : Scope} {dV kV doc pm cdv ct oc : Value} {an od : Option Addr} {osl : Array (Option Value)} {binds : List (PySem.Str × Value)} (ns : List PySem.Str) (us : List Vl)
    (ho : (Mine.hd.heap_39 w.params).lookup f = some ⟨oc, od, .func (fnOf name qual params body cs dV kV doc pm an cdv ct), osl⟩) (hcd : codeIn (Mine.hd.heap_39 w.params) cdv qual = true)
    (hbind : bindArgs (fnOf name qual params body cs dV kV doc pm an cdv ct) ⟨vs, []⟩ = pure binds) (hloc : ∀ y ∈ binds, cs.names.lookup y.1 = some .local)
    (hnd : ns.Nodup) (hus : ∀ (i : Nat) (x : PySem.Str) (u : Vl), ns[i]? = some x → us[i]? = some u → u.Is (binds.reverse.lookup x))
    (hco : cs.isCoroutine = false) (hgen : cs.isGenerator = false) (hk : cs.kind = .function) (hcell : ∀ x ∈ cs.names, x.2 ≠ .cell)
    (hb : ∀ C : Bx cs ns d u RX (fun _ => False), C.w = w → HasS C S → Ex C us [] body (fun _ nw => RX .none nw)) : CtrV w f vs (d + 1) (u + 3) S [] RX := by
  intro o hSo p loose mean mg mb dp un gd cn cs' a ccd cl outer A₀ base h₀ L m news upd s Q E B F X N T hk' hd hu U hled hret
  refine wpAny_call ?_
  refine code_def B F X N T rfl rfl hk' ho hcd (Nat.lt_of_le_of_lt (Nat.le_add_right _ _) hd) (BindsTo.of_eq hbind) hloc (fun g L' h₁ FG F' N' B' X' T' => ?_) hco hgen hk hcell
  have hd' : dp + 1 + d < recursionLimit := by omega
  have hu' : un + 3 + u < cLine := by omega
  have hA : (ktrTop dp un gd cn cs' L a ccd cl outer).deeper (envOf qual cs L' f cdv) = ktrTop (dp + 1) (un + 3) gd qual cs L' f cdv [] (envX cn cs' L a ccd cl :: outer) := rfl
  have hf : ∀ {l}, (∃ o, SrcO o ∧ UpdF S o l upd) → l.map (·.1) = news.map (·.1) := fun ⟨o', _, U'⟩ => by rw [← UpdF.eqO U']; exact UpdF.fst U
  let C : Bx cs ns d u RX (fun _ => False) := ⟨w, p, loose, mean, mg, mb, dp + 1, un + 3, gd, qual, L', f, cdv, envX cn cs' L a ccd cl :: outer, ktrTop dp un gd cn cs' L a ccd cl outer, base, g, (fun l => ∃ o, SrcO o ∧ UpdF S o l upd), s, [], .inr ⟨rfl, hA⟩, B', X', T', hk, hd', hu', hnd, fun _ _ h h' => (hf h).trans (hf h').symm⟩
  have hst : St C us [] { s with heap := h₁, toks := s.toks + binds.length } := ⟨news, ⟨o, hSo, U⟩, ⟨rfl, rfl, rfl⟩, ⟨_, F', hus⟩, N', fun _ _ _ h => nomatch h⟩
  have h1 := hb C rfl ⟨upd, fun _ h => h, fun o' h => ⟨o', h, UpdF.again U⟩⟩ _ hst
  show wpAny (model PySem.Challenge.pw_pf0076_01 w) (ktrTop (dp + 1) (un + 3) gd qual cs L' f cdv [] (envX cn cs' L a ccd cl :: outer)) _ _ _ _
  refine wpAny_mono h1 (fun fl s' h => ?_) (fun e s' h => ?_)
  · have key : ∀ v us nw, RX v nw → St C us nw s' → LeaveK h₀ L m g (fun r s' => match r with | .ok (.ret v) => Q v s' | .ok _ => False | .error e => E e s') v s' := fun v us nw hr hs => by
      obtain ⟨l, ⟨o', hSo', U'⟩, hsame, ⟨m', Fm', _⟩, hn, hab⟩ := hs
      refine leaveK_ Fm' hn fun F9 N9 => ?_
      have h9 := hret v nw o' s'.heap s'.toks ⟨hr, hSo'⟩ F9 (by rw [UpdF.eqO U']; exact N9) fun q hq p' hp' => by
        have hq' : q.1 ∈ l.map (·.1) := by rw [hf ⟨o', hSo', U'⟩]; exact List.mem_map_of_mem hq
        obtain ⟨q', hq1, hq2⟩ := List.mem_map.mp hq'
        rw [← hq2]; exact hab q' hq1 p' hp'
      rw [hsame.eq]
      exact h9
    cases fl with
    | next => obtain ⟨us', nw, hr, hs⟩ := h; exact key _ _ _ hr hs
    | ret v => obtain ⟨us', nw, hr, hs⟩ := h; exact key _ _ _ hr hs
    | brk => exact h.elim
    | cont => exact h.elim
  · refine wpAny_mono h (fun _ s'' h' => ?_) (fun _ _ h' => h'.elim)
    obtain ⟨x, sp, rfl, hx, _⟩ := h'
    exact hx.elim
section
variable {cs : Scope} {ns : List PySem.Str} {d u : Nat} {RX : Value → List (Addr × Obj) → Prop} {XX : Int → Prop} {C : Bx cs ns d u RX XX} {us : List Vl} {nw : List (Addr × Obj)} {K : List Vl → List (Addr × Obj) → Prop} {rest : List Stmt} {pos : Pos}
theorem EvG.callV {x : PySem.Str} {p : Pos} {e : PySem.Expr} {es : List PySem.Expr} {f S : Addr} {d' u' : Nat} {Pa : List Value → List (Addr × Obj) → Prop} {P : Value → List (Addr × Obj) → Prop} (hS9 : HasS C S) (ho : okGlob cs x = true) (hv : nsIn (Mine.hd.heap_39 C.w.params) mainGlobals x = some (some (.ref f))) (hk : keepIn (Mine.hd.heap_39 C.w.params) (.ref f) = true)
    (ha : EvA C us nw (e :: es) Pa) (hc : ∀ vs n1, Pa vs n1 → ∃ led R', (∀ q ∈ led, q ∈ n1) ∧ CtrV C.w f vs d' u' S led R' ∧ ∀ v n2, R' v n2 → P v (n2 ++ n1)) (hd : d' ≤ d) (hu : u' ≤ u)
    (he : ∀ env, starEach (e :: es) env = (false, eval e env) :: starEach es env) (hpl : ∀ env, (backTo pos (starEach es env)).any (·.1) = false)
    (hcall : ∀ env, eval (.Call (.Name x p) (e :: es) [] pos) env = (do callWith pos (← eval (.Name x p) env) [] (backTo pos (starEach (e :: es) env)) (backToKw pos (keywordEach [] env)))) :
    EvG C us nw (.Call (.Name x p) (e :: es) [] pos) P := fun s Q E hS hQ hE => by
  refine Call_ (Ev.glob ho hv _ _ _ hS (fun f' s₁ hf hS₁ => ?_) hE) (hcall _)
  obtain rfl := Vl.val_is hf
  refine callWith_K C.K hk (ha _ _ _ _ hS₁ (fun vs n1 s₂ hvs hS₂ => ?_) hE) (he _) (hpl _)
  obtain ⟨l, hl⟩ := id hS₂
  obtain ⟨m, F, hm⟩ := hS₂.fr
  obtain ⟨upd, hu1, hu2⟩ := hS9
  obtain ⟨o, hSo, U⟩ := hu1 l hl.pn
  obtain ⟨led, R', hled, hC, hR⟩ := hc vs n1 hvs
  refine ⟨C.K.keeps F.keep, ?_⟩
  have hne : ∀ q ∈ n1, q.1 ≠ S := fun q hq => Nat.ne_of_gt (hl.above _ (UpdF.mem U) q hq)
  refine hC o hSo C.p C.loose C.mean C.mg C.mb C.dp C.un C.gd C.cn cs C.a C.ccd C.cl C.outer C.Ao C.base C.h₀ C.L m (n1 ++ l) (fun o' => n1 ++ upd o') s₂ Q E C.B F C.K hl.news C.T C.hk (Nat.lt_of_le_of_lt (Nat.add_le_add_left hd _) C.hd) (Nat.lt_of_le_of_lt (Nat.add_le_add_left hu _) C.hu) (UpdF.app U hne) (fun q hq => ⟨List.mem_append_left _ (hled q hq), hne q (hled q hq)⟩) fun v n2 o' h' tk hr F' N' hlt => ?_
  refine hQ v (n2 ++ n1) _ (hR v n2 hr.1) ⟨upd o', hu2 o' hr.2, hS₂.same, ⟨m, F', hm⟩, by rw [List.append_assoc]; exact N', fun q hq q' hq' => ?_⟩
  obtain ⟨q₂, hq2, e2⟩ := UpdF.addr U q hq
  rw [← e2]
  exact (List.mem_append.mp hq').elim (fun h9 => hlt q₂ (List.mem_append_right _ hq2) q' h9) (fun h9 => hl.above q₂ hq2 q' h9)
noncomputable def EvAll (C : Bx cs ns d u RX XX) (us : List Vl) (es : List PySem.Expr) (Pv : List (Addr × Obj) → Value → Prop) : Prop := ∀ nw, EvA C us nw es (fun vs n1 => (∃ n2, n1 = n2 ++ nw) ∧ vs.length = es.length ∧ ∀ v ∈ vs, Pv n1 v)
noncomputable def Mono (Pv : List (Addr × Obj) → Value → Prop) : Prop := ∀ n1 n2 v, Pv n1 v → Pv (n2 ++ n1) v
variable {Pv : List (Addr × Obj) → Value → Prop}
theorem EvAll.nil : EvAll C us [] Pv := fun nw => EvA.nil ⟨⟨[], rfl⟩, rfl, fun _ h => nomatch h⟩
theorem EvAll.cons {e : PySem.Expr} {es : List PySem.Expr} (hm : Mono Pv) (h : ∀ nw, EvG C us nw e (fun v n1 => (∃ n2, n1 = n2 ++ nw) ∧ Pv n1 v)) (hs : EvAll C us es Pv) (he : ∀ env, starEach (e :: es) env = (false, eval e env) :: starEach es env) : EvAll C us (e :: es) Pv := fun nw =>
  EvA.cons (h nw) (fun v n1 hv => by
    obtain ⟨⟨n2, rfl⟩, hv⟩ := hv
    intro p s Q E hS hQ hE
    refine hs _ p s Q E hS (fun vs n3 s' h3 hS' => hQ vs n3 s' ?_ hS') hE
    obtain ⟨⟨n4, rfl⟩, hlen, hall⟩ := h3
    exact ⟨⟨n4 ++ n2, (List.append_assoc _ _ _).symm⟩, by rw [List.length_cons, hlen, List.length_cons], fun x hx => (List.mem_cons.mp hx).elim (fun e => e ▸ hm _ _ _ hv) (hall x)⟩) he
theorem EvG.of {e : PySem.Expr} {x : Vl} (h : ∀ nw, Ev C us nw e x) (hx : ∀ nw v, x.Is (some v) → Pv nw v) (nw : List (Addr × Obj)) : EvG C us nw e (fun v n1 => (∃ n2, n1 = n2 ++ nw) ∧ Pv n1 v) :=
  (h nw).g.mono fun v n1 hv => by obtain ⟨hv, rfl⟩ := hv; exact ⟨⟨[], rfl⟩, hx _ _ hv⟩
theorem EvG.keep {e : PySem.Expr} {Pv' : Value → Prop} (h : ∀ nw, EvG C us nw e (fun v n1 => Pv' v ∧ n1 = nw)) (hx : ∀ nw v, Pv' v → Pv nw v) (nw : List (Addr × Obj)) : EvG C us nw e (fun v n1 => (∃ n2, n1 = n2 ++ nw) ∧ Pv n1 v) :=
  (h nw).mono fun v n1 hv => by obtain ⟨hv, rfl⟩ := hv; exact ⟨⟨[], rfl⟩, hx _ _ hv⟩
theorem EvG.forget {e : PySem.Expr} {Pv' : Value → Prop} (h : EvG C us nw e (fun v n1 => Pv' v ∧ ∃ n2, n1 = n2 ++ nw)) : EvG C us nw e (fun v n1 => Pv' v ∧ n1 = nw) := fun s Q E hS hQ hE => h s Q E hS (fun v n1 s' hv hS' => by obtain ⟨hv, n2, rfl⟩ := hv; exact hQ v nw s' ⟨hv, rfl⟩ hS'.drop) hE
noncomputable def AnI (P : Int → Prop) (v : Value) : Prop := ∃ k t, v = .int k t ∧ P k
noncomputable def AnS (P : PySem.Str → Prop) (v : Value) : Prop := ∃ x t, v = .str x t ∧ P x
theorem Ex.setDI (i : Nat) {x : PySem.Str} {p : Pos} {e : PySem.Expr} {P : Int → Prop} (ho : okLoc cs ns i x = true) (hs : ∀ env, swapsWith e (some (.Name x p)) pos.line env = pure false) (he : EvG C us nw e (fun v n1 => AnI P v ∧ n1 = nw))
    (hr : ∀ k, P k → Ex C (us.set i (.int k)) nw rest K) : Ex C us nw (.Assign [.Name x p] e pos :: rest) K := fun s hS =>
  wpAny_execs_cons (wpAny_Assign_Name (he _ _ _ hS (fun v nw' s' hv hS' => by
    obtain ⟨⟨k, t, rfl, hk⟩, rfl⟩ := hv
    exact hS'.store ho (y := .int k) ⟨t, rfl⟩ fun s'' hS'' => hr k hk _ hS'') fun _ _ h => h) (hs _))
theorem Ex.setDS (i : Nat) {x : PySem.Str} {p : Pos} {e : PySem.Expr} {P : PySem.Str → Prop} (ho : okLoc cs ns i x = true) (hs : ∀ env, swapsWith e (some (.Name x p)) pos.line env = pure false) (he : EvG C us nw e (fun v n1 => AnS P v ∧ n1 = nw))
    (hr : ∀ k, P k → Ex C (us.set i (.str k)) nw rest K) : Ex C us nw (.Assign [.Name x p] e pos :: rest) K := fun s hS =>
  wpAny_execs_cons (wpAny_Assign_Name (he _ _ _ hS (fun v nw' s' hv hS' => by
    obtain ⟨⟨k, t, rfl, hk⟩, rfl⟩ := hv
    exact hS'.store ho (y := .str k) ⟨t, rfl⟩ fun s'' hS'' => hr k hk _ hS'') fun _ _ h => h) (hs _))
theorem EvG.catG {l r : PySem.Expr} {x : PySem.Str} {P : PySem.Str → Prop} (ha : Ev C us nw l (.str x)) (hb : EvG C us nw r (fun v n1 => AnS P v ∧ n1 = nw)) (hz : ∀ y, P y → x.length + y.length ≤ 1048576) : EvG C us nw (.BinOp l .Add r pos) (fun v n1 => AnS (fun z => ∃ y, P y ∧ z = x ++ y) v ∧ n1 = nw) := fun s Q E hS hQ hE => by
  refine wpAny_BinOp (ha _ _ _ hS (fun v s' hv hS' => hb _ _ _ hS' (fun v' n1 s'' hv' hS'' => ?_) hE) hE)
  obtain ⟨t, rfl⟩ := Vl.str_is hv
  obtain ⟨⟨y, t', rfl, hy⟩, rfl⟩ := hv'
  exact SBL.add (fun t' k _ => hQ _ _ _ ⟨⟨_, _, rfl, y, hy, rfl⟩, rfl⟩ (hS''.toks _)) (Nat.le_trans (hz y hy) (by rw [sizeLine_eq]; decide))
theorem EvG.addG {l r : PySem.Expr} {x : Int} {P : Int → Prop} (ha : Ev C us nw l (.int x)) (hb : EvG C us nw r (fun v n1 => AnI P v ∧ n1 = nw)) : EvG C us nw (.BinOp l .Add r pos) (fun v n1 => AnI (fun z => ∃ y, P y ∧ z = x + y) v ∧ n1 = nw) := fun s Q E hS hQ hE => by
  refine wpAny_BinOp (ha _ _ _ hS (fun v s' hv hS' => hb _ _ _ hS' (fun v' n1 s'' hv' hS'' => ?_) hE) hE)
  obtain ⟨t, rfl⟩ := Vl.int_is hv
  obtain ⟨⟨y, t', rfl, hy⟩, rfl⟩ := hv'
  exact PyProof.Rows.add_int (hQ _ _ _ ⟨⟨_, _, rfl, y, hy, rfl⟩, rfl⟩ (hS''.toks _))
theorem Ev.s {e : PySem.Expr} {x : PySem.Str} (h : Ev C us nw e (.str x)) : EvG C us nw e (fun v n1 => AnS (· = x) v ∧ n1 = nw) := h.g.mono fun v n1 hv => by
  obtain ⟨⟨t, e⟩, rfl⟩ := hv
  exact ⟨⟨x, t, Option.some.inj e, rfl⟩, rfl⟩
theorem EvG.piece {e1 e2 e3 : PySem.Expr} {k' : Nat} {P : PySem.Str → Prop} {k : Int} {fl : Bool} (h1 : EvG C us [] e1 (fun v n1 => AnS P v ∧ n1 = [])) (h2 : Ev C us [] e2 (.int k)) (h3 : Ev C us [] e3 (.val (.bool fl)))
    (he : ∀ env, starEach [e1, e2, e3] env = (false, eval e1 env) :: starEach [e2, e3] env) (he2 : ∀ env, starEach [e2, e3] env = (false, eval e2 env) :: starEach [e3] env) (he3 : ∀ env, starEach [e3] env = (false, eval e3 env) :: starEach [] env) :
    EvG C us [] (.Tuple [e1, e2, e3] k' pos) (fun v nw' => ∃ X T t1 t2, P T ∧ v = .ref X ∧ nw' = [(X, tupO [.str T t1, .int k t2, .bool fl])]) := by
  refine EvG.tupA (Pa := fun vs n1 => ∃ T t1 t2, P T ∧ vs = [.str T t1, .int k t2, .bool fl] ∧ n1 = []) (EvA.cons h1 (fun v n1 hv => ?_) he) (Nat.le_of_ble_eq_true rfl) (fun vs n1 h => by obtain ⟨_, _, _, _, rfl, _⟩ := h; rfl) fun vs n1 D h => by obtain ⟨T, t1, t2, hT, rfl, rfl⟩ := h; exact ⟨D, T, t1, t2, hT, rfl, rfl⟩
  obtain ⟨⟨T, t1, rfl, hT⟩, rfl⟩ := hv
  refine EvA.consV h2 (fun v hv => ?_) he2
  obtain ⟨t2, rfl⟩ := Vl.int_is hv
  refine EvA.consV h3 (fun v hv => ?_) he3
  obtain rfl := Vl.val_is hv
  exact EvA.nil ⟨T, t1, t2, hT, rfl, rfl⟩
end

end
section
example : True := by
  w_top off
  trivial
theorem up_len {f : PySem.Str} {k : Nat} {i : Int} (hf : f = (figA 16 k i).1) : (Txt.upper f).length = f.length := by
  subst hf
  have e := fig_fst (base := 16) (by decide) (by decide) i k
  have h16 : ∀ d ∈ dg 16 k i, d < 16 := dg_lt (b := 16) rfl (by decide) i k
  have e2 : (figA 16 k i).1 = ⟨((dg 16 k i).map hx).toArray⟩ := str_ext (by rw [e])
  rw [e2, up_map _ h16, len_eq, len_eq]
  simp
theorem right_lo {k : Int} (h0 : 0 ≤ k) (h1 : k < 55296) : rightI k = true := by
  unfold rightI
  simp only [Bool.and_eq_true, decide_eq_true_eq, Bool.not_eq_true', Bool.and_eq_false_iff, decide_eq_false_iff_not]
  omega
structure SgnOk (qc : Nat) (T : PySem.Str) (k : Int) : Prop where
  h : Unit1 qc (Str.ofString "\\" ++ T).cps.toList k false
  h0 : 0 ≤ k
  h1 : k ≤ 1114111
  hl : (Str.ofString "\\" ++ T).length ≤ 10
theorem sgn_short {qc : Nat} {T : PySem.Str} {k : Int} (h : shortOk (Str.ofString "\\" ++ T) k = true) (h2 : (decide (0 ≤ k) && decide (k ≤ 1114111) && decide ((Str.ofString "\\" ++ T).length ≤ 10)) = true) : SgnOk qc T k := by
  simp only [Bool.and_eq_true, decide_eq_true_eq] at h2
  exact ⟨unit_shortS h, h2.1.1, h2.1.2, h2.2⟩
theorem len_app10 {a b : PySem.Str} (ha : a.length ≤ 2) (hb : b.length ≤ 8) : (a ++ b).length ≤ 10 := by
  have := app_list a b
  have h := congrArg List.length this
  rw [List.length_append, ← len_eq, ← len_eq, ← len_eq] at h
  omega
theorem g_take (w : World) : nsIn (Mine.hd.heap_39 w.params) mainGlobals (Str.ofString "_law_take") = some (some (.ref 279)) := by k_is
theorem k_take (w : World) : keepIn (Mine.hd.heap_39 w.params) (.ref 279) = true := by k_is
theorem g_one (w : World) : nsIn (Mine.hd.heap_39 w.params) mainGlobals (Str.ofString "_law_one") = some (some (.ref 286)) := by k_is
theorem k_one (w : World) : keepIn (Mine.hd.heap_39 w.params) (.ref 286) = true := by k_is
theorem g_lfigs (w : World) : nsIn (Mine.hd.heap_39 w.params) mainGlobals (Str.ofString "_law_figures") = some (some (.ref 300)) := by k_is
theorem k_lfigs (w : World) : keepIn (Mine.hd.heap_39 w.params) (.ref 300) = true := by k_is
theorem g_chr (w : World) : nsIn (Mine.hd.heap_39 w.params) mainGlobals (Str.ofString "chr") = some none := by k_is
theorem take_v (w : World) (S : Addr) (top : Int) (tt : Tok) (ht : 0 < top) (hT : top < 1073741824) : CtrV w 279 [.ref S, .int top tt] 1 30 S [] (fun v nw => AnI (fun k => 0 ≤ k ∧ k < top) v ∧ nw = []) := fun o h => by
  obtain ⟨a, b, t1, t2, n, ha, hb, rfl⟩ := h
  refine (law_take_c w S a b top t1 t2 tt n ha hb ht hT).mono fun v nw o' h => ?_
  cases h with
  | mk k t a b t1 t2 n h0 h1 ha hb => exact ⟨⟨⟨k, t, rfl, h0, h1⟩, rfl⟩, a, b, t1, t2, n, ha, hb, rfl⟩
theorem one_v (w : World) (Pv : Value → Prop) (S M : Addr) (c : Nat) (vs : List Value) (h0 : 0 < vs.length) (h1 : vs.length ≤ 1000) (hP : ∀ v ∈ vs, Pv v) : CtrV w 286 [.ref S, .ref M] 3 60 S [(M, W.listOf vs.toArray c)] (fun v nw => Pv v ∧ nw = []) := fun o h => by
  obtain ⟨a, b, t1, t2, n, ha, hb, rfl⟩ := h
  refine (law_oneP_c w Pv S M a b t1 t2 n c vs ha hb h0 h1 hP).mono fun v nw o' h => ?_
  cases h with
  | mk a b t1 t2 n h0 ha hb => exact ⟨⟨h0, rfl⟩, a, b, t1, t2, n, ha, hb, rfl⟩
theorem star_tup (elts : List PySem.Expr) (k : Nat) (pos : Pos) (rest : List PySem.Expr) (env : Env) : starEach (.Tuple elts k pos :: rest) env = (false, eval (.Tuple elts k pos) env) :: starEach rest env := rfl
theorem star_lst (elts : List PySem.Expr) (pos : Pos) (rest : List PySem.Expr) (env : Env) : starEach (.List elts pos :: rest) env = (false, eval (.List elts pos) env) :: starEach rest env := rfl
theorem star_name (x : PySem.Str) (pos : Pos) (rest : List PySem.Expr) (env : Env) : starEach (.Name x pos :: rest) env = (false, eval (.Name x pos) env) :: starEach rest env := rfl
section
variable {cs : Scope} {ns : List PySem.Str} {d u : Nat} {RX : Value → List (Addr × Obj) → Prop} {XX : Int → Prop} {C : Bx cs ns d u RX XX} {us : List Vl} {nw : List (Addr × Obj)} {K : List Vl → List (Addr × Obj) → Prop} {rest : List Stmt} {pos : Pos}
theorem EvG.take {p q : Pos} {x : PySem.Str} {e : PySem.Expr} {S : Addr} {top : Int} (hS : HasS C S) (ho : okGlob cs (Str.ofString "_law_take") = true) (hs : Ev C us nw (.Name x q) (.val (.ref S))) (he : Ev C us nw e (.int top)) (ht : 0 < top) (hT : top < 1073741824) (hd : 1 ≤ d) (hu : 30 ≤ u)
    (h1 : ∀ env, starEach [.Name x q, e] env = (false, eval (.Name x q) env) :: starEach [e] env) (h2 : ∀ env, starEach [e] env = (false, eval e env) :: starEach [] env) (hpl : ∀ env, (backTo pos (starEach [e] env)).any (·.1) = false)
    (hcall : ∀ env, eval (.Call (.Name (Str.ofString "_law_take") p) [.Name x q, e] [] pos) env = (do callWith pos (← eval (.Name (Str.ofString "_law_take") p) env) [] (backTo pos (starEach [.Name x q, e] env)) (backToKw pos (keywordEach [] env)))) :
    EvG C us nw (.Call (.Name (Str.ofString "_law_take") p) [.Name x q, e] [] pos) (fun v n1 => AnI (fun k => 0 ≤ k ∧ k < top) v ∧ n1 = nw) := by
  refine EvG.callV (Pa := fun vs n1 => ∃ tt, vs = [.ref S, .int top tt] ∧ n1 = nw) hS ho (g_take _) (k_take _) (EvA.consV hs (fun v hv => EvA.consV he (fun v' hv' => ?_) h2) h1) (fun vs n1 h => ?_) hd hu h1 hpl hcall
  · obtain rfl := Vl.val_is hv
    obtain ⟨t, rfl⟩ := Vl.int_is hv'
    exact EvA.nil ⟨t, rfl, rfl⟩
  · obtain ⟨tt, rfl, rfl⟩ := h
    exact ⟨[], _, (fun _ h => nomatch h), take_v _ _ _ _ ht hT, fun v n2 h => ⟨h.1, by rw [h.2]; rfl⟩⟩
theorem EvG.one {p q lp : Pos} {x : PySem.Str} {es : List PySem.Expr} {S : Addr} {Pv : List (Addr × Obj) → Value → Prop} (hS : HasS C S) (ho : okGlob cs (Str.ofString "_law_one") = true) (hs : Ev C us nw (.Name x q) (.val (.ref S))) (hl : EvAll C us es Pv) (hm : Mono Pv) (h0 : 0 < es.length) (hz : es.length ≤ 1000) (hd : 3 ≤ d) (hu : 60 ≤ u) :
    EvG C us nw (.Call (.Name (Str.ofString "_law_one") p) [.Name x q, .List es lp] [] pos) (fun v n1 => Pv n1 v ∧ ∃ n2, n1 = n2 ++ nw) := by
  refine EvG.callV (Pa := fun vs n1 => ∃ (M : Addr) (n0 : List (Addr × Obj)) (ws : List Value), vs = [.ref S, .ref M] ∧ n1 = (M, W.listOf ws.toArray 0) :: n0 ∧ (∃ n2, n0 = n2 ++ nw) ∧ ws.length = es.length ∧ ∀ v ∈ ws, Pv n0 v) hS ho (g_one _) (k_one _) (EvA.consV hs (fun v hv => EvA.cons (EvG.listA (P := fun v n1 => ∃ (M : Addr) (n0 : List (Addr × Obj)) (ws : List Value), v = .ref M ∧ n1 = (M, W.listOf ws.toArray 0) :: n0 ∧ (∃ n2, n0 = n2 ++ nw) ∧ ws.length = es.length ∧ ∀ v ∈ ws, Pv n0 v) (hl nw) hz (fun vs n1 h => h.2.1) fun vs n1 D h => ⟨D, n1, vs, rfl, rfl, h.1, h.2⟩) (fun v' n1 h => EvA.nil ?_) fun env => star_lst _ _ _ env) fun env => star_name _ _ _ env) (fun vs n1 h => ?_) hd hu (fun env => star_name _ _ _ env) (fun env => by rw [star_lst]; rfl) fun _ => rfl
  · obtain rfl := Vl.val_is hv
    obtain ⟨M, n0, ws, rfl, h⟩ := h
    exact ⟨M, n0, ws, rfl, h⟩
  · obtain ⟨M, n0, ws, rfl, rfl, ⟨n2, rfl⟩, hlen, hall⟩ := h
    exact ⟨_, _, (fun q hq => by rw [List.mem_singleton.mp hq]; exact .head _), one_v _ (Pv (n2 ++ nw)) S M 0 ws (hlen ▸ h0) (hlen ▸ hz) hall, fun v n3 h => ⟨by rw [h.2]; exact hm _ [_] _ h.1, ⟨n3 ++ (M, W.listOf ws.toArray 0) :: n2, by rw [List.append_assoc]; rfl⟩⟩⟩
theorem mono_i {P : Value → Prop} : Mono (fun _ v => P v) := fun _ _ _ h => h
theorem EvAll.i {e : PySem.Expr} {es : List PySem.Expr} {P : Int → Prop} {k : Int} (h : ∀ nw, Ev C us nw e (.int k)) (hk : P k) (hs : EvAll C us es (fun _ => AnI P)) (he : ∀ env, starEach (e :: es) env = (false, eval e env) :: starEach es env) : EvAll C us (e :: es) (fun _ => AnI P) :=
  EvAll.cons mono_i (EvG.of h fun _ _ hv => hv.elim fun t e => ⟨k, t, Option.some.inj e, hk⟩) hs he
theorem EvAll.s {e : PySem.Expr} {es : List PySem.Expr} {P : PySem.Str → Prop} {k : PySem.Str} (h : ∀ nw, Ev C us nw e (.str k)) (hk : P k) (hs : EvAll C us es (fun _ => AnS P)) (he : ∀ env, starEach (e :: es) env = (false, eval e env) :: starEach es env) : EvAll C us (e :: es) (fun _ => AnS P) :=
  EvAll.cons mono_i (EvG.of h fun _ _ hv => hv.elim fun t e => ⟨k, t, Option.some.inj e, hk⟩) hs he
noncomputable def TupP (P : PySem.Str → Int → Prop) (nw : List (Addr × Obj)) (v : Value) : Prop := ∃ X T k t1 t2, v = .ref X ∧ (X, tupO [.str T t1, .int k t2]) ∈ nw ∧ P T k
theorem TupP.mono {P : PySem.Str → Int → Prop} : Mono (TupP P) := fun _ _ _ h => by
  obtain ⟨X, T, k, t1, t2, e, h, hp⟩ := h
  exact ⟨X, T, k, t1, t2, e, List.mem_append_right _ h, hp⟩
theorem EvAll.pair {e1 e2 : PySem.Expr} {k' : Nat} {q : Pos} {es : List PySem.Expr} {P : PySem.Str → Int → Prop} {T : PySem.Str} {k : Int} (h1 : ∀ nw, Ev C us nw e1 (.str T)) (h2 : ∀ nw, Ev C us nw e2 (.int k)) (hk : P T k) (hs : EvAll C us es (TupP P))
    (h3 : ∀ env, starEach [e1, e2] env = (false, eval e1 env) :: starEach [e2] env) (h4 : ∀ env, starEach [e2] env = (false, eval e2 env) :: starEach [] env) : EvAll C us (.Tuple [e1, e2] k' q :: es) (TupP P) :=
  EvAll.cons TupP.mono (fun nw => EvG.tup (EvL.cons (h1 nw) (EvL.cons (h2 nw) EvL.nil h4) h3) (Nat.le_of_ble_eq_true rfl) fun D _ t1 t2 => ⟨⟨[_], rfl⟩, D, T, k, t1, t2, rfl, .head _, hk⟩) hs fun env => star_tup _ _ _ _ env
theorem EvAll.pairC {p q r : Pos} {k1 k2 k3 : Nat} {es : List PySem.Expr} {P : PySem.Str → Int → Prop} {T : PySem.Str} {k : Int} (hk : P T k) (hs : EvAll C us es (TupP P)) : EvAll C us (.Tuple [.Constant (.str T) k1 p, .Constant (.int k) k2 q] k3 r :: es) (TupP P) :=
  EvAll.pair (fun _ => Ev.cstr) (fun _ => Ev.cint) hk hs (fun _ => rfl) fun _ => rfl
theorem EvAll.iC {p : Pos} {k1 : Nat} {es : List PySem.Expr} {P : Int → Prop} {k : Int} (hk : P k) (hs : EvAll C us es (fun _ => AnI P)) : EvAll C us (.Constant (.int k) k1 p :: es) (fun _ => AnI P) :=
  EvAll.i (fun _ => Ev.cint) hk hs fun _ => rfl
theorem EvAll.sC {p : Pos} {k1 : Nat} {es : List PySem.Expr} {P : PySem.Str → Prop} {k : PySem.Str} (hk : P k) (hs : EvAll C us es (fun _ => AnS P)) : EvAll C us (.Constant (.str k) k1 p :: es) (fun _ => AnS P) :=
  EvAll.s (fun _ => Ev.cstr) hk hs fun _ => rfl
theorem Ev.figs {p : Pos} {e1 e2 e3 : PySem.Expr} {i base many : Int} (ho : okGlob cs (Str.ofString "_law_figures") = true) (h1 : Ev C us nw e1 (.int i)) (h2 : Ev C us nw e2 (.int base)) (h3 : Ev C us nw e3 (.int many)) (h0 : 0 ≤ i) (hb0 : 2 ≤ base) (hb : base ≤ 16) (hm0 : 0 ≤ many) (hm : many ≤ 1000) (hd : 5 ≤ d) (hu : 80 ≤ u)
    (s1 : ∀ env, starEach [e1, e2, e3] env = (false, eval e1 env) :: starEach [e2, e3] env) (s2 : ∀ env, starEach [e2, e3] env = (false, eval e2 env) :: starEach [e3] env) (s3 : ∀ env, starEach [e3] env = (false, eval e3 env) :: starEach [] env) (hpl : ∀ env, (backTo pos (starEach [e2, e3] env)).any (·.1) = false)
    (hcall : ∀ env, eval (.Call (.Name (Str.ofString "_law_figures") p) [e1, e2, e3] [] pos) env = (do callWith pos (← eval (.Name (Str.ofString "_law_figures") p) env) [] (backTo pos (starEach [e1, e2, e3] env)) (backToKw pos (keywordEach [] env)))) :
    Ev C us nw (.Call (.Name (Str.ofString "_law_figures") p) [e1, e2, e3] [] pos) (.str (figA base many.toNat i).1) :=
  EvG.ev (EvG.call (R' := RFigs base many i) ho (g_lfigs _) (k_lfigs _) (EvL.cons h1 (EvL.cons h2 (EvL.cons h3 EvL.nil s3) s2) s1) (fun t1 t2 t3 => law_figures_c _ _ _ _ t1 t2 t3 h0 hb0 hb hm0 hm) hd hu (fun _ h => h.elim) s1 hpl hcall) fun v nw' h => by
    obtain ⟨n2, hr, rfl⟩ := h
    cases hr with
    | mk f t hf hl => exact ⟨⟨t, by rw [hf]⟩, rfl⟩
theorem Ev.chr {p : Pos} {e : PySem.Expr} {i : Int} (ho : okBi cs (Str.ofString "chr") = true) (ha : Ev C us nw e (.int i)) (h0 : 0 ≤ i) (h1 : i ≤ 1114111) (he : ∀ env, backTo pos (starEach [e] env) = [(false, eval e env)])
    (hcall : ∀ env, eval (.Call (.Name (Str.ofString "chr") p) [e] [] pos) env = (do callWith pos (← eval (.Name (Str.ofString "chr") p) env) [] (backTo pos (starEach [e] env)) (backToKw pos (keywordEach [] env)))) :
    Ev C us nw (.Call (.Name (Str.ofString "chr") p) [e] [] pos) (.str ⟨#[i.toNat]⟩) :=
  Ev.bi1 (id := "chr") ho (g_chr _) rfl ha (fun s Q E v hv hS hQ => by obtain ⟨t, rfl⟩ := Vl.int_is hv; exact chr_of_range h0 h1 (hQ _ _ ⟨_, rfl⟩ (hS.toks _))) he hcall
theorem upper_g {M : Model} {A : Around} {x : PySem.Str} (s : Shared) (t : Tok) (pl : Sem Bool) (Q : Value × List Value → Shared → Prop) (E : Value → Shared → Prop) (h : Q (.builtin "str.upper", [.str x t]) s) : wpAny M A (getMethod (.str x t) (Str.ofString "upper") pl) Q E s := PySem.GM.upper h
theorem Ev.upper {o : PySem.Expr} {ap : Pos} {x : PySem.Str} {pl : Env → Sem Bool} (ho : Ev C us nw o (.str x)) (hl : x.length ≤ 1000)
    (hc : ∀ env, eval (.Call (.Attribute o (Str.ofString "upper") ap) [] [] pos) env = (do
      let ov ← eval o env
      standAt ap.atName
      let (f, first) ← holding [ov] (getMethod ov (Str.ofString "upper") (pl env))
      callWith pos f first (backTo pos (starEach [] env)) [])) : Ev C us nw (.Call (.Attribute o (Str.ofString "upper") ap) [] [] pos) (.str (Txt.upper x)) :=
  Ev.meth0 ho upper_g (fun s Q E t hS hQ => PyProof.Rows.SCL.upper (by omega) fun _ => hQ _ _ ⟨_, rfl⟩ (hS.toks _)) hc
end

end
section
example : True := by
  w_top off
  k_with_none
  (k_with "bx" => ((case ho => k_is); (case hcd => k_is); (case hb => exact rfl); (case hl => exact locs rfl); (case hu => k_extra "bx_hu"); (case c1 => exact rfl); (case c2 => exact rfl); (case c3 => exact rfl); (case c4 => decide)))
  (k_with "bx_hu" => (repeat (first | exact trivial | (refine And.intro ?_ ?_; first | exact trivial | exact rfl | exact Exists.intro _ rfl))))
  trivial
theorem fig_len {base : Int} (hb : 0 < base) (hb2 : base ≤ 16) (i : Int) (k : Nat) : (figA base k i).1.length = k := by rw [len_eq, fig_fst hb hb2, List.length_map, dg_len]
theorem fm (n : Int) : n % 55296 = n.fmod 55296 := (Int.fmod_eq_emod_of_nonneg _ (by decide)).symm
noncomputable def RPieceV (qc : Nat) (v : Value) (nw : List (Addr × Obj)) : Prop := ∃ (X : Addr) (T : PySem.Str) (k : Int) (fl : Bool) (t1 t2 : Tok), v = .ref X ∧ nw = [(X, tupO [.str T t1, .int k t2, .bool fl])] ∧ Unit1 qc T.cps.toList k fl ∧ 0 ≤ k ∧ k ≤ 1114111 ∧ (fl = true → k ≤ 255) ∧ T.length ≤ 10
theorem piece_of {qc : Nat} {v : Value} {nw : List (Addr × Obj)} {P : PySem.Str → Prop} {k : Int} {fl : Bool} (h : ∃ X T t1 t2, P T ∧ v = .ref X ∧ nw = [(X, tupO [.str T t1, .int k t2, .bool fl])]) (hP : ∀ T, P T → Unit1 qc T.cps.toList k fl ∧ T.length ≤ 10) (h0 : 0 ≤ k) (h1 : k ≤ 1114111) (h2 : fl = true → k ≤ 255) : RPieceV qc v nw := by
  obtain ⟨X, T, t1, t2, hT, e, e'⟩ := h
  exact ⟨X, T, k, fl, t1, t2, e, e', (hP T hT).1, h0, h1, h2, (hP T hT).2⟩
theorem sgn_q {qc : Nat} {q : PySem.Str} (hq : q = ⟨#[qc]⟩) (hqc : qc = 34 ∨ qc = 39) : SgnOk qc q ((q.cps.getD 0 0 : Nat) : Int) := by
  refine ⟨unit_quoteS hq hqc, Int.natCast_nonneg _, ?_, ?_⟩
  · subst hq; rcases hqc with h9 | h9 <;> subst h9 <;> decide
  · subst hq; rcases hqc with h9 | h9 <;> subst h9 <;> decide +kernel
theorem le_app {a b : PySem.Str} {n : Nat} (h : (a ++ b).length ≤ n) : b.length ≤ n := by
  have := congrArg List.length (app_list a b)
  rw [List.length_append, ← len_eq, ← len_eq, ← len_eq] at this
  omega
theorem unit_uE {qc : Nat} {n : Int} (hqc : qc = 34 ∨ qc = 39) : Unit1 qc (Str.ofString "\\u" ++ Txt.upper (figA 16 (Int.toNat 4) (n % 55296)).1).cps.toList (n % 55296) false := by
  rw [fm]
  exact unit_uF rfl hqc
theorem sg_a (qc : Nat) : SgnOk qc (Str.ofString "a") 7 := sgn_short (by decide +kernel) (by decide +kernel)
theorem sg_b (qc : Nat) : SgnOk qc (Str.ofString "b") 8 := sgn_short (by decide +kernel) (by decide +kernel)
theorem sg_f (qc : Nat) : SgnOk qc (Str.ofString "f") 12 := sgn_short (by decide +kernel) (by decide +kernel)
theorem sg_n (qc : Nat) : SgnOk qc (Str.ofString "n") 10 := sgn_short (by decide +kernel) (by decide +kernel)
theorem sg_r (qc : Nat) : SgnOk qc (Str.ofString "r") 13 := sgn_short (by decide +kernel) (by decide +kernel)
theorem sg_t (qc : Nat) : SgnOk qc (Str.ofString "t") 9 := sgn_short (by decide +kernel) (by decide +kernel)
theorem sg_v (qc : Nat) : SgnOk qc (Str.ofString "v") 11 := sgn_short (by decide +kernel) (by decide +kernel)
theorem sg_bs (qc : Nat) : SgnOk qc (Str.ofString "\\") 92 := sgn_short (by decide +kernel) (by decide +kernel)
set_option maxHeartbeats 2000000 in
theorem law_piece_v (w : World) (S : Addr) (q : PySem.Str) (qc : Nat) (tq : Tok) (hq : q = ⟨#[qc]⟩) (hqc : qc = 34 ∨ qc = 39) : CtrV w 307 [.ref S, .str q tq] 8 120 S [] (RPieceV qc) := by
  have hq1 : q.length = 1 := by rw [hq]; rfl
  refine' CtrV.of_body [Str.ofString "source", Str.ofString "quote", Str.ofString "way", Str.ofString "sign", Str.ofString "number", Str.ofString "figures", Str.ofString "rune", Str.ofString "plain"] [.val (.ref S), .str q, .no, .no, .no, .no, .no, .no] ?ho ?hcd ?hb ?hl (by decide +kernel) (slots _ _ ?hu) ?c1 ?c2 ?c3 ?c4 ?_
  k_extra "bx"
  intro C _ hS
  refine Ex.setDI 2 rfl (fun _ => rfl) (EvG.take hS rfl (Ev.loc 0 rfl rfl rfl) Ev.cint (by decide) (by decide) (by decide) (by decide) (fun _ => rfl) (fun _ => rfl) (fun _ => rfl) fun _ => rfl) fun way _ => ?_
  refine Ex.ite (Tst.cm (Cm.eqI (Ev.loc 2 rfl rfl rfl) Ev.cint)) (fun c => ?_) fun c => Ex.nil ?_
  · refine Ex.unpack2 3 4 (R' := fun v n2 => TupP (SgnOk qc) n2 v) rfl rfl ((EvG.one hS rfl (Ev.loc 0 rfl rfl rfl) (Pv := TupP (SgnOk qc)) ?_ TupP.mono (by decide) (by decide) (by decide) (by decide)).mono fun v n1 h => ⟨n1, h.1, (List.append_nil _).symm⟩) (fun v n2 h => ?_) (fun _ => rfl) fun _ => rfl
    · refine EvAll.pairC (P := SgnOk qc) ?x1 ?_
      (case x1 => exact sg_a qc)
      refine EvAll.pairC (P := SgnOk qc) ?x1 ?_
      (case x1 => exact sg_b qc)
      refine EvAll.pairC (P := SgnOk qc) ?x1 ?_
      (case x1 => exact sg_f qc)
      refine EvAll.pairC (P := SgnOk qc) ?x1 ?_
      (case x1 => exact sg_n qc)
      refine EvAll.pairC (P := SgnOk qc) ?x1 ?_
      (case x1 => exact sg_r qc)
      refine EvAll.pairC (P := SgnOk qc) ?x1 ?_
      (case x1 => exact sg_t qc)
      refine EvAll.pairC (P := SgnOk qc) ?x1 ?_
      (case x1 => exact sg_v qc)
      refine EvAll.pairC (P := SgnOk qc) ?x1 ?_
      (case x1 => exact sg_bs qc)
      refine EvAll.pair (P := SgnOk qc) (fun _ => Ev.loc 1 rfl rfl rfl) (fun _ => Ev.ord rfl (Ev.loc 1 rfl rfl rfl) hq1 (fun _ => rfl) fun _ => rfl) ?x1 EvAll.nil (fun _ => rfl) fun _ => rfl
      (case x1 => exact sgn_q hq hqc)
    · obtain ⟨X, T, k, t1, t2, rfl, hm, hp⟩ := h
      refine ⟨X, _, _, .str T, .int k, rfl, hm, ⟨_, rfl⟩, ⟨_, rfl⟩, Ex.ret (EvG.piece (Ev.s (Ev.cat Ev.cstr (Ev.loc 3 rfl rfl rfl) ?_)) (Ev.loc 4 rfl rfl rfl) Ev.bool (fun _ => rfl) (fun _ => rfl) fun _ => rfl) fun v nw' h => piece_of h (fun T' e => e ▸ ⟨hp.h, hp.hl⟩) hp.h0 hp.h1 nofun⟩
      have := hp.hl
      exact Nat.le_trans (Nat.add_le_add_left (le_app this) _) (by decide +kernel)
  refine Ex.setDI 4 (P := fun k => 0 ≤ k ∧ k ≤ 255) rfl (fun _ => rfl) (EvG.forget (EvG.one hS rfl (Ev.loc 0 rfl rfl rfl) (Pv := fun _ => AnI fun k => 0 ≤ k ∧ k ≤ 255) ?e mono_i (by decide) (by decide) (by decide) (by decide))) fun number hn => ?_
  (case e =>
    refine EvAll.iC ⟨by decide, by decide⟩ ?_
    refine EvAll.iC ⟨by decide, by decide⟩ ?_
    refine EvAll.iC ⟨by decide, by decide⟩ ?_
    refine EvAll.iC ⟨by decide, by decide⟩ ?_
    refine EvAll.iC ⟨by decide, by decide⟩ ?_
    exact EvAll.cons mono_i (EvG.keep (fun nw => EvG.take hS rfl (Ev.loc 0 rfl rfl rfl) Ev.cint (by decide) (by decide) (by decide) (by decide) (fun _ => rfl) (fun _ => rfl) (fun _ => rfl) fun _ => rfl) fun _ v h => by obtain ⟨k, t, e, h⟩ := h; exact ⟨k, t, e, h.1, Int.le_of_lt_add_one h.2⟩) EvAll.nil fun _ => rfl)
  refine Ex.ite (Tst.cm (Cm.eqI (Ev.loc 2 rfl rfl rfl) Ev.cint)) (fun c => ?_) fun c => Ex.nil ?_
  · refine Ex.ret (EvG.piece (Ev.s (Ev.cat Ev.cstr (Ev.figs rfl (Ev.loc 4 rfl rfl rfl) Ev.cint Ev.cint hn.1 (by decide) (by decide) (by decide) (by decide) (by decide) (by decide) (fun _ => rfl) (fun _ => rfl) (fun _ => rfl) (fun _ => rfl) fun _ => rfl) ?z)) (Ev.loc 4 rfl rfl rfl) Ev.bool (fun _ => rfl) (fun _ => rfl) fun _ => rfl) fun v nw' h => piece_of h ?u hn.1 (Int.le_trans hn.2 (by decide)) fun _ => hn.2
    (case z => rw [fig_len (by decide) (by decide)]; decide +kernel)
    (case u => intro T e; subst e; exact ⟨unit_octF rfl hn.1 hn.2 hqc, len_app10 (by decide +kernel) (by rw [fig_len (by decide) (by decide)]; decide)⟩)
  refine Ex.ite (Tst.cm (Cm.eqI (Ev.loc 2 rfl rfl rfl) Ev.cint)) (fun c => ?_) fun c => Ex.nil ?_
  · refine Ex.set 5 rfl (fun _ => rfl) (Ev.figs rfl (Ev.loc 4 rfl rfl rfl) Ev.cint Ev.cint hn.1 (by decide) (by decide) (by decide) (by decide) (by decide) (by decide) (fun _ => rfl) (fun _ => rfl) (fun _ => rfl) (fun _ => rfl) fun _ => rfl) ?_
    have hl2 : (figA 16 (Int.toNat 2) number).1.length = 2 := fig_len (by decide) (by decide) _ _
    have hl3 : (Txt.upper (figA 16 (Int.toNat 2) number).1).length = 2 := (up_len rfl).trans hl2
    refine Ex.ret (EvG.piece (EvG.catG Ev.cstr (EvG.forget (EvG.one hS rfl (Ev.loc 0 rfl rfl rfl) (Pv := fun _ => AnS fun c => (c = (figA 16 (Int.toNat 2) number).1 ∨ c = Txt.upper (figA 16 (Int.toNat 2) number).1) ∧ c.length = 2) ?e mono_i (by decide) (by decide) (by decide) (by decide))) ?z) (Ev.loc 4 rfl rfl rfl) Ev.bool (fun _ => rfl) (fun _ => rfl) fun _ => rfl) fun v nw' h => piece_of h ?u hn.1 (Int.le_trans hn.2 (by decide)) fun _ => hn.2
    (case e =>
      refine EvAll.s (fun _ => Ev.loc 5 rfl rfl rfl) ⟨.inl rfl, hl2⟩ ?_ fun _ => rfl
      exact EvAll.s (fun _ => Ev.upper (Ev.loc 5 rfl rfl rfl) (by rw [hl2]; decide) fun _ => rfl) ⟨.inr rfl, hl3⟩ EvAll.nil fun _ => rfl)
    (case z => intro y hy; rw [hy.2]; decide +kernel)
    (case u => intro T hT; obtain ⟨y, hy, rfl⟩ := hT; exact ⟨unit_xF rfl hy.1 hn.1 hn.2 hqc, len_app10 (by decide +kernel) (by rw [hy.2]; decide)⟩)
  refine Ex.setDI 6 (P := fun k => 0 ≤ k ∧ k ≤ 1114111 ∧ rightI k = true) rfl (fun _ => rfl) (EvG.forget (EvG.one hS rfl (Ev.loc 0 rfl rfl rfl) (Pv := fun _ => AnI fun k => 0 ≤ k ∧ k ≤ 1114111 ∧ rightI k = true) ?e mono_i (by decide) (by decide) (by decide) (by decide))) fun rune hr => ?_
  (case e =>
    iterate 8 refine EvAll.iC ⟨by decide, by decide, by decide⟩ ?_
    exact EvAll.cons mono_i (EvG.keep (fun nw => EvG.take hS rfl (Ev.loc 0 rfl rfl rfl) Ev.cint (by decide) (by decide) (by decide) (by decide) (fun _ => rfl) (fun _ => rfl) (fun _ => rfl) fun _ => rfl) fun _ v h => by obtain ⟨k, t, e, h⟩ := h; exact ⟨k, t, e, h.1, Int.le_trans (Int.le_of_lt h.2) (by decide), right_lo h.1 h.2⟩) EvAll.nil fun _ => rfl)
  refine Ex.ite (Tst.cm (Cm.eqI (Ev.loc 2 rfl rfl rfl) Ev.cint)) (fun c => ?_) fun c => Ex.nil ?_
  · refine Ex.ret (EvG.piece (Ev.s (Ev.cat Ev.cstr (Ev.figs rfl (Ev.loc 6 rfl rfl rfl) Ev.cint Ev.cint hr.1 (by decide) (by decide) (by decide) (by decide) (by decide) (by decide) (fun _ => rfl) (fun _ => rfl) (fun _ => rfl) (fun _ => rfl) fun _ => rfl) ?z)) (Ev.loc 6 rfl rfl rfl) Ev.bool (fun _ => rfl) (fun _ => rfl) fun _ => rfl) fun v nw' h => piece_of h ?u hr.1 hr.2.1 nofun
    (case z => rw [fig_len (by decide) (by decide)]; decide +kernel)
    (case u => intro T e; subst e; exact ⟨unit_UF rfl hr.1 hr.2.1 hr.2.2 hqc, len_app10 (by decide +kernel) (by rw [fig_len (by decide) (by decide)]; decide)⟩)
  refine Ex.ite (Tst.cm (Cm.eqI (Ev.loc 2 rfl rfl rfl) Ev.cint)) (fun c => ?_) fun c => Ex.nil ?_
  · have h0 : 0 ≤ rune % 55296 := Int.emod_nonneg _ (by decide)
    have h1 : rune % 55296 < 55296 := Int.emod_lt_of_pos _ (by decide)
    have hl4 : (figA 16 (Int.toNat 4) (rune % 55296)).1.length = 4 := fig_len (by decide) (by decide) _ _
    have hl5 : (Txt.upper (figA 16 (Int.toNat 4) (rune % 55296)).1).length = 4 := (up_len rfl).trans hl4
    refine Ex.ret (EvG.piece (Ev.s (Ev.cat Ev.cstr (Ev.upper (Ev.figs rfl (Ev.fmod (Ev.loc 6 rfl rfl rfl) Ev.cint (by decide)) Ev.cint Ev.cint h0 (by decide) (by decide) (by decide) (by decide) (by decide) (by decide) (fun _ => rfl) (fun _ => rfl) (fun _ => rfl) (fun _ => rfl) fun _ => rfl) ?y fun _ => rfl) ?z)) (Ev.fmod (Ev.loc 6 rfl rfl rfl) Ev.cint (by decide)) Ev.bool (fun _ => rfl) (fun _ => rfl) fun _ => rfl) fun v nw' h => piece_of h ?u h0 (Int.le_trans (Int.le_of_lt h1) (by decide)) nofun
    (case y => rw [hl4]; decide)
    (case z => rw [hl5]; decide +kernel)
    (case u => intro T e; subst e; exact ⟨unit_uE hqc, len_app10 (by decide +kernel) (by rw [hl5]; decide)⟩)
  have kp : ∀ c : PySem.Str, (plainOk 34 c && plainOk 39 c && c.length == 1) = true → plainOk qc c = true ∧ c.length = 1 := fun c h => by
    simp only [Bool.and_eq_true, beq_iff_eq] at h
    rcases hqc with e | e <;> subst e
    · exact ⟨h.1.1, h.2⟩
    · exact ⟨h.1.2, h.2⟩
  refine Ex.setDS 7 (P := fun c => plainOk qc c = true ∧ c.length = 1) rfl (fun _ => rfl) (EvG.forget (EvG.one hS rfl (Ev.loc 0 rfl rfl rfl) (Pv := fun _ => AnS fun c => plainOk qc c = true ∧ c.length = 1) ?e mono_i (by decide) (by decide) (by decide) (by decide))) fun plain hp => ?_
  (case e =>
    refine EvAll.sC ?x ?_
    (case x => exact kp (Str.ofString "b") (by decide +kernel))
    refine EvAll.sC ?x ?_
    (case x => exact kp (Str.ofString " ") (by decide +kernel))
    refine EvAll.sC ?x ?_
    (case x => exact kp (Str.ofString "/") (by decide +kernel))
    refine EvAll.s (fun _ => Ev.ifS (Tst.cm (Cm.eqS (Ev.loc 1 rfl rfl rfl) Ev.cstr)) Ev.cstr Ev.cstr) ?x ?_ fun _ => rfl
    (case x => subst hq; rcases hqc with e | e <;> subst e <;> decide +kernel)
    refine EvAll.s (fun _ => Ev.chr rfl Ev.cint (by decide) (by decide) (fun _ => rfl) fun _ => rfl) ?x ?_ fun _ => rfl
    (case x => exact kp ⟨#[Int.toNat 2047]⟩ (by decide +kernel))
    refine EvAll.s (fun _ => Ev.chr rfl Ev.cint (by decide) (by decide) (fun _ => rfl) fun _ => rfl) ?x ?_ fun _ => rfl
    (case x => exact kp ⟨#[Int.toNat 55295]⟩ (by decide +kernel))
    refine EvAll.s (fun _ => Ev.chr rfl Ev.cint (by decide) (by decide) (fun _ => rfl) fun _ => rfl) ?x ?_ fun _ => rfl
    (case x => exact kp ⟨#[Int.toNat 57344]⟩ (by decide +kernel))
    refine EvAll.s (fun _ => Ev.chr rfl Ev.cint (by decide) (by decide) (fun _ => rfl) fun _ => rfl) ?x EvAll.nil fun _ => rfl
    exact kp ⟨#[Int.toNat 1114111]⟩ (by decide +kernel))
  have hU := unit_plain (qc := qc) (c := plain) (l := [plain]) (.head _) (by rw [List.all_cons, hp.1]; rfl)
  exact Ex.ret (EvG.piece (Ev.s (Ev.loc 7 rfl rfl rfl)) (Ev.ord rfl (Ev.loc 7 rfl rfl rfl) hp.2 (fun _ => rfl) fun _ => rfl) Ev.bool (fun _ => rfl) (fun _ => rfl) fun _ => rfl) fun v nw' h => piece_of h (by intro T e; subst e; exact ⟨hU, by rw [hp.2]; decide⟩) (plain_range hU (by rw [← len_eq]; exact hp.2)).1 (plain_range hU (by rw [← len_eq]; exact hp.2)).2 nofun
theorem law_piece_c (w : World) (S : Addr) (q : PySem.Str) (qc : Nat) (a b : Int) (t1 t2 tq : Tok) (n : Nat) (ha : 0 ≤ a) (hb : 0 ≤ b) (hq : q = ⟨#[qc]⟩) (hqc : qc = 34 ∨ qc = 39) : CtrS w 307 [.ref S, .str q tq] 8 120 S (W.listOf #[.int a t1, .int b t2] n) [] (RPiece qc) :=
  (law_piece_v w S q qc tq hq hqc _ ⟨a, b, t1, t2, n, ha, hb, rfl⟩).mono fun v nw o' h => by
    obtain ⟨⟨X, T, k, fl, u1, u2, rfl, rfl, h1, h2, h3, h4, h5⟩, a', b', t3, t4, n', ha', hb', rfl⟩ := h
    exact .mk _ _ _ _ _ _ _ _ _ _ _ h1 h2 h3 h4 h5 ha' hb'

end
section
example : True := by
  w_top off
  trivial
theorem powTop0 {b : Int} (h : 2 ≤ b) {k : Nat} : 0 < b ^ k := Int.pow_pos (by omega)
theorem powTop1 {b m : Int} (h : 2 ≤ b) (hb : b ≤ 16) : b ^ (if 5 < m then 5 else m).toNat < 1073741824 := by
  have hk5 : (if 5 < m then 5 else m).toNat ≤ 5 := by split <;> omega
  have key : ∀ b : _root_.Fin 17, ∀ k : _root_.Fin 6, ((b.val : Nat) : Int) ^ k.val < 1073741824 := by decide +kernel
  have := key ⟨b.toNat, by omega⟩ ⟨(if 5 < m then 5 else m).toNat, by omega⟩
  simp only at this
  rwa [Int.toNat_of_nonneg (by omega)] at this
theorem num0 {b k k' : Int} {j : Nat} (h : 2 ≤ b) (h0 : 0 ≤ k) (h1 : 0 ≤ k') : 0 ≤ (1 + k) * b ^ j + k' := Int.add_nonneg (Int.mul_nonneg (by omega) (Int.le_of_lt (powTop0 h))) h1
theorem g_min (w : World) : nsIn (Mine.hd.heap_39 w.params) mainGlobals (Str.ofString "min") = some none := by k_is
section
variable {cs : Scope} {ns : List PySem.Str} {d u : Nat} {RX : Value → List (Addr × Obj) → Prop} {XX : Int → Prop} {C : Bx cs ns d u RX XX} {us : List Vl} {nw : List (Addr × Obj)} {K : List Vl → List (Addr × Obj) → Prop} {rest : List Stmt} {pos : Pos}
theorem Ev.min2 {p : Pos} {e1 e2 : PySem.Expr} {a b : Int} (ho : okBi cs (Str.ofString "min") = true) (h1 : Ev C us nw e1 (.int a)) (h2 : Ev C us nw e2 (.int b))
    (s1 : ∀ env, starEach [e1, e2] env = (false, eval e1 env) :: starEach [e2] env) (s2 : ∀ env, starEach [e2] env = (false, eval e2 env) :: starEach [] env) (hpl : ∀ env, (backTo pos (starEach [e2] env)).any (·.1) = false)
    (hcall : ∀ env, eval (.Call (.Name (Str.ofString "min") p) [e1, e2] [] pos) env = (do callWith pos (← eval (.Name (Str.ofString "min") p) env) [] (backTo pos (starEach [e1, e2] env)) (backToKw pos (keywordEach [] env)))) :
    Ev C us nw (.Call (.Name (Str.ofString "min") p) [e1, e2] [] pos) (.int (if b < a then b else a)) := fun s Q E hS hQ hE => by
  refine Call_ (Ev.bi ho (g_min _) (rfl : bootBuiltins (Str.ofString "min") = some (.builtin "min")) _ _ _ hS (fun f' s₁ hf hS₁ => ?_) hE) (hcall _)
  obtain rfl := Vl.val_is hf
  refine PyProof.Rows.callWith_builtin1 (EvL.cons h1 (EvL.cons h2 EvL.nil s2) s1 _ _ _ _ hS₁ (fun vs s₂ hvs hS₂ => ?_) hE) (s1 _) (hpl _)
  refine forA_of [.int a, .int b] (P := fun vs => wpAny C.M C.A (call (.builtin "min") vs) Q E s₂) (fun t1 t2 => ?_) vs hvs
  refine min_two_ints rfl fun h' tk hk => hQ _ _ ?_ ?_
  · split
    · exact ⟨_, rfl⟩
    · exact ⟨_, rfl⟩
  · obtain ⟨l, hl⟩ := id hS₂
    obtain ⟨m, F, hm⟩ := hS₂.fr
    exact ⟨l, hl.pn, hl.same, ⟨m, F.grownK hk, hm⟩, hl.news.grown hk, hl.above⟩
theorem Ev.mulL {l r : PySem.Expr} {i j : Int} (ha : Ev C us nw l (.int i)) (hb : Ev C us nw r (.int j)) (h0 : 0 ≤ i) (h1 : i ≤ 1000000) : Ev C us nw (.BinOp l .Mult r pos) (.int (i * j)) := Ev.op (fun _ _ _ _ _ h => PyProof.Rows.mul_int h (PySem.IntMulOk.of_left (PySem.intBits_le_64 (by omega) (by omega)))) ha hb
theorem Ex.swap2I (i j : Nat) {x z : PySem.Str} {p q tp vp : Pos} {e1 e2 : PySem.Expr} {k k' : Nat} {P1 P2 : Int → Prop} (ho : okLoc cs ns i x = true) (ho' : okLoc cs ns j z = true)
    (h1 : EvG C us nw e1 (fun v n1 => AnI P1 v ∧ n1 = nw)) (h2 : EvG C us nw e2 (fun v n1 => AnI P2 v ∧ n1 = nw)) (hr : ∀ a b, P1 a → P2 b → Ex C ((us.set j (.int b)).set i (.int a)) nw rest K)
    (he : ∀ env, starEach [e1, e2] env = (false, eval e1 env) :: starEach [e2] env) (he' : ∀ env, starEach [e2] env = (false, eval e2 env) :: starEach [] env)
    (hs : ∀ env, swapsWithSole [.Tuple [.Name x p, .Name z q] k tp] (.Tuple [e1, e2] k' vp) pos.line env = pure false) (hw : ∀ cn L a ccd cl, swappedStores [.Tuple [.Name x p, .Name z q] k tp] (.Tuple [e1, e2] k' vp) (envX cn cs L a ccd cl) = pure (some [x, z])) :
    Ex C us nw (.Assign [.Tuple [.Name x p, .Name z q] k tp] (.Tuple [e1, e2] k' vp) pos :: rest) K := fun s hS => by
  have ha : EvA C us nw [e1, e2] (fun vs n1 => ∃ a b t t', vs = [.int a t, .int b t'] ∧ P1 a ∧ P2 b ∧ n1 = nw) := EvA.cons h1 (fun v n1 hv => by
    obtain ⟨⟨a, t, rfl, g1⟩, rfl⟩ := hv
    exact EvA.cons h2 (fun v n1 hv => by
      obtain ⟨⟨b, t', rfl, g2⟩, rfl⟩ := hv
      exact EvA.nil ⟨a, b, t, t', rfl, g1, g2, rfl⟩) he') he
  refine wpAny_execs_cons (Assign_Tuple_swapped (Tuple_ (ha _ _ _ _ hS (fun vs n1 s'' hvs hS'' => ?_) fun _ _ h => h)) (hs _) (hw _ _ _ _ _))
  obtain ⟨a, b, t, t', rfl, g1, g2, rfl⟩ := hvs
  obtain ⟨l'', hl''⟩ := id hS''
  obtain ⟨m, F, hm⟩ := hS''.fr
  refine kup_newTuple F hl''.news (fun D h' F' N' hlt => ?_) (Nat.le_trans (Nat.le_of_ble_eq_true rfl : 2 ≤ 1000) (by size_fits))
  refine unpackItemsN_ F' N' (N'.isTup (.head _)) rfl rfl fun h'' F'' N'' => ?_
  refine St.bind (us := us) (y := .int b) ho' ⟨l'', hl''.pn, hS''.same, ⟨m, F'', hm⟩, fun q hq => N'' q (.tail _ hq), hl''.above⟩ ⟨_, rfl⟩ fun s3 hS3 => ?_
  exact St.bind (y := .int a) ho hS3 ⟨_, rfl⟩ fun s4 hS4 => assignInOrder_nil (hr a b g1 g2 _ hS4)
end
noncomputable def AhP (T : PySem.Str) (k : Int) : Prop := Ahead T.cps.toList k
theorem ah_ten : AhP (Str.ofString "") 10 := by
  unfold AhP
  rw [show (Str.ofString "").cps.toList = [] by decide +kernel]
  exact .ten
theorem ah_six : AhP (Str.ofString "0x") 16 := by
  unfold AhP
  rw [show (Str.ofString "0x").cps.toList = [48, 120] by decide +kernel]
  exact .six
theorem ah_two : AhP (Str.ofString "0B") 2 := by
  unfold AhP
  rw [show (Str.ofString "0B").cps.toList = [48, 66] by decide +kernel]
  exact .two
theorem ah_eight : AhP (Str.ofString "0") 8 := by
  unfold AhP
  rw [show (Str.ofString "0").cps.toList = [48] by decide +kernel]
  exact .eight
theorem ah_bd {l : List Nat} {k : Int} (A : Ahead l k) : 2 ≤ k ∧ k ≤ 16 ∧ l.length ≤ 2 := by cases A <;> decide
noncomputable def RNumV (v : Value) (nw : List (Addr × Obj)) : Prop := ∃ (X : Addr) (T : PySem.Str) (k : Int) (fl : Bool) (t1 t2 : Tok) (ah : List Nat) (bs : Int), v = .ref X ∧ nw = [(X, tupO [.str T t1, .int k t2, .bool fl])] ∧ ∃ c l, NumT T k fl ah bs c l
set_option maxHeartbeats 2000000 in
theorem law_number_v (w : World) (S : Addr) : CtrV w 314 [.ref S] 8 120 S [] RNumV := by
  refine' CtrV.of_body [Str.ofString "source", Str.ofString "ahead", Str.ofString "base", Str.ofString "many", Str.ofString "first", Str.ofString "number"] [.val (.ref S), .no, .no, .no, .no, .no] ?ho ?hcd ?hb ?hl (by decide +kernel) (slots _ _ ?hu) ?c1 ?c2 ?c3 ?c4 ?_
  k_extra "bx"
  intro C _ hS
  refine Ex.unpack2 1 2 (R' := fun v n2 => TupP AhP n2 v) rfl rfl ((EvG.one hS rfl (Ev.loc 0 rfl rfl rfl) (Pv := TupP AhP) ?e TupP.mono (by decide) (by decide) (by decide) (by decide)).mono fun v n1 h => ⟨n1, h.1, (List.append_nil _).symm⟩) (fun v n2 h => ?_) (fun _ => rfl) fun _ => rfl
  (case e =>
    refine EvAll.pairC (P := AhP) ?x1 ?_
    (case x1 => exact ah_ten)
    refine EvAll.pairC (P := AhP) ?x1 ?_
    (case x1 => exact ah_six)
    refine EvAll.pairC (P := AhP) ?x1 ?_
    (case x1 => exact ah_two)
    refine EvAll.pairC (P := AhP) ?x1 EvAll.nil
    exact ah_eight)
  obtain ⟨X, AH, base, t1, t2, rfl, hm, A⟩ := h
  have A : Ahead AH.cps.toList base := A
  obtain ⟨hb0, hb1, hal⟩ := ah_bd A
  refine ⟨X, _, _, .str AH, .int base, rfl, hm, ⟨_, rfl⟩, ⟨_, rfl⟩, ?_⟩
  refine Ex.swap2I 3 4 (P1 := fun k => 1 ≤ k ∧ k ≤ 101) rfl rfl (EvG.forget (EvG.one hS rfl (Ev.loc 0 rfl rfl rfl) (Pv := fun _ => AnI fun k => 1 ≤ k ∧ k ≤ 101) ?e mono_i (by decide) (by decide) (by decide) (by decide)))
    (EvG.addG Ev.cint (EvG.take hS rfl (Ev.loc 0 rfl rfl rfl) (Ev.min2 rfl (Ev.sub (Ev.loc 2 rfl rfl rfl) Ev.cint) Ev.cint (fun _ => rfl) (fun _ => rfl) (fun _ => rfl) fun _ => rfl) ?t1 ?t2 (by decide) (by decide) (fun _ => rfl) (fun _ => rfl) (fun _ => rfl) fun _ => rfl)) (fun many first hmany hfirst => ?_) (fun _ => rfl) (fun _ => rfl) (fun _ => rfl) fun _ _ _ _ _ => rfl
  (case e =>
    refine EvAll.iC ⟨by decide, by decide⟩ ?_
    refine EvAll.iC ⟨by decide, by decide⟩ ?_
    refine EvAll.iC ⟨by decide, by decide⟩ ?_
    exact EvAll.iC ⟨by decide, by decide⟩ EvAll.nil)
  (case t1 => split <;> omega)
  (case t2 => split <;> omega)
  obtain ⟨k, hk, rfl⟩ := hfirst
  have hk8 : k < 7 := by have := hk.2; split at this <;> omega
  refine Ex.setDI 5 rfl (fun _ => rfl) (EvG.addG (Ev.mulL (Ev.loc 4 rfl rfl rfl) (Ev.pow (Ev.loc 2 rfl rfl rfl) (Ev.sub (Ev.loc 3 rfl rfl rfl) Ev.cint) ?p1 ?p2 ?p3) ?p4 ?p5) (EvG.take hS rfl (Ev.loc 0 rfl rfl rfl) (Ev.pow (Ev.loc 2 rfl rfl rfl) (Ev.min2 rfl (Ev.sub (Ev.loc 3 rfl rfl rfl) Ev.cint) Ev.cint (fun _ => rfl) (fun _ => rfl) (fun _ => rfl) fun _ => rfl) ?p6 ?p7 ?p8) (powTop0 hb0) (powTop1 hb0 hb1) (by decide) (by decide) (fun _ => rfl) (fun _ => rfl) (fun _ => rfl) fun _ => rfl)) fun number hn => ?_
  (case p1 => omega)
  (case p2 => omega)
  (case p3 => omega)
  (case p4 => omega)
  (case p5 => omega)
  (case p6 => split <;> omega)
  (case p7 => split <;> omega)
  (case p8 => omega)
  obtain ⟨k', hk', rfl⟩ := hn
  have hf := num_of (base := base) (b := base.toNat) A (Int.toNat_of_nonneg (by omega)).symm rfl hmany.1 hmany.2 hk.1 hk.2 hk'.1 hk'.2 rfl
  have hfl := fig_len (base := base) (by omega) hb1 ((1 + k) * base ^ (many - 1).toNat + k') many.toNat
  refine Ex.ret (EvG.piece (Ev.s (Ev.cat (Ev.loc 1 rfl rfl rfl) (Ev.figs rfl (Ev.loc 5 rfl rfl rfl) (Ev.loc 2 rfl rfl rfl) (Ev.loc 3 rfl rfl rfl) (num0 hb0 hk.1 hk'.1) hb0 hb1 ?q1 ?q2 (by decide) (by decide) (fun _ => rfl) (fun _ => rfl) (fun _ => rfl) (fun _ => rfl) fun _ => rfl) ?q3)) (Ev.loc 5 rfl rfl rfl) (Ev.cm (Cm.gt (Ev.loc 3 rfl rfl rfl) Ev.cint)) (fun _ => rfl) (fun _ => rfl) fun _ => rfl) fun v nw' h => ?_
  (case q1 => omega)
  (case q2 => omega)
  (case q3 => rw [hfl, len_eq]; omega)
  obtain ⟨X, T, u1, u2, rfl, rfl, rfl⟩ := h
  exact ⟨X, _, _, _, u1, u2, _, _, rfl, rfl, hf⟩
theorem law_number_c (w : World) (S : Addr) (a b : Int) (t1 t2 : Tok) (n : Nat) (ha : 0 ≤ a) (hb : 0 ≤ b) : CtrS w 314 [.ref S] 8 120 S (W.listOf #[.int a t1, .int b t2] n) [] RNum :=
  (law_number_v w S _ ⟨a, b, t1, t2, n, ha, hb, rfl⟩).mono fun v nw o' h => by
    obtain ⟨⟨X, T, k, fl, u1, u2, ah, bs, rfl, rfl, h1⟩, a', b', t3, t4, n', ha', hb', rfl⟩ := h
    exact .mk _ _ _ _ _ _ _ _ _ _ _ _ _ h1 ha' hb'

end
section
inductive BytesAre : List Value → List (Array UInt8) → Prop
  | nil : BytesAre [] []
  | cons {vs : List Value} {bs : List (Array UInt8)} (b : Array UInt8) (t : Tok) (h : BytesAre vs bs) : BytesAre (.bytes b t :: vs) (b :: bs)
theorem BytesAre.length {vs : List Value} {bs : List (Array UInt8)} (H : BytesAre vs bs) : vs.length = bs.length := by
  induction H with
  | nil => rfl
  | cons b t h ih => exact congrArg (· + 1) ih
theorem BytesAre.at {vs : List Value} {bs : List (Array UInt8)} (i : Nat) (H : BytesAre vs bs) : i < vs.length → ∃ b t, vs[i]? = some (.bytes b t) ∧ bs[i]? = some b := by
  induction H generalizing i with
  | nil => intro h; exact absurd h (Nat.not_lt_zero _)
  | cons b t h ih =>
    intro hi
    cases i with
    | zero => exact ⟨b, t, rfl, rfl⟩
    | succ i =>
      obtain ⟨c, u, h1, h2⟩ := ih i (by simpa using hi)
      exact ⟨c, u, by simpa using h1, by simpa using h2⟩
namespace F
theorem slot_by_join : Slot "bytes" "join" "bytes.join" :=
  .of (owner := "bytes") (n := "join") (by rw [typeLookup_type, builtinLookup_eq_fast]; kernel_rfl) (by decide +kernel) (by decide +kernel) (by decide +kernel)
    (by first | exact .inl (by decide +kernel) | exact .inr (by decide +kernel)) (by rw [isSubtype_type]; kernel_rfl)
theorem entry_by_join : entryFor table "bytes.join" = some Builtin.«bytes.join» := by first | exact entryFor_of_fast (by kernel_rfl) | exact entryFor_of_tree (by kernel_rfl)
theorem plainAttrs_by : PlainAttrs "bytes" :=
  ⟨⟨"bytes.__getattribute__", by rw [typeLookup_type, builtinLookup_eq_fast]; kernel_rfl, by decide +kernel⟩, by rw [typeLookup_type, builtinLookup_eq_fast]; kernel_rfl⟩
theorem type_by_join : typeOf (.builtin "bytes.join") = pure (.type "method_descriptor") := by show builtinType _ = _; rw [builtinType_eq_fast]; kernel_rfl
theorem args_by_join {x y : Value} : argsOk "bytes.join" ⟨[x, y], []⟩ := by kernel_rfl
end F
section
variable {prog : Program} {w : World} {M : Model} {A : Around} {E : Value → Shared → Prop} {s : Shared} {b c : Array UInt8} {t : Tok}
theorem letGo_any {keep : List Value} {Q : Unit → Shared → Prop} (h : Q () s) : ∀ l : List Value, wpAny M A (letGo l keep) Q E s
  | [] => wpAny_pure h
  | x :: l => by
    unfold letGo
    exact wpAny_bind (wpAny_holding (wpAny_point (letGo_any h l)))
theorem joinLetGo_any {Q : Unit → Shared → Prop} {keep : List Value} (h : Q () s) : ∀ l : List Value, wpAny M A (Builtin.Bytes.joinLetGo (l.map fun x => (x, none)) keep) Q E s
  | [] => wpAny_pure h
  | x :: l => by
    exact wpAny_bind (letGo_any (joinLetGo_any h l) _)
theorem meth_by_join {pl : Sem Bool} {Q : Value × List Value → Shared → Prop} (h : Q (.builtin "bytes.join", [.bytes c t]) s) : wpAny M A (getMethod (.bytes c t) "join" pl) Q E s :=
  getMethod_builtin by_type F.plainAttrs_by F.slot_by_join F.type_by_join (fun _ e => nomatch e) h
theorem arr_one {items : Array Value} (h : items.size = 1) : ∃ x, items = #[x] := by
  obtain ⟨l⟩ := items
  cases l with
  | nil => cases h
  | cons x l =>
    cases l with
    | nil => exact ⟨x, rfl⟩
    | cons y l => simp at h
theorem join_tree {D : Addr} {items : Array Value} {bs : List (Array UInt8)} {t0 : Tok} {Q : Fin → Shared → Prop} (hl : s.heap.IsList D items) (hb : BytesAre items.toList bs) (hz : (Builtin.Bytes.joined #[] bs).size ≤ sizeLine)
    (hz2 : (bs.toArray.foldl (fun x y => x + y.size) 0) ≤ sizeLine)
    (h : ∀ t k, Q (.done (.ret (.bytes (Builtin.Bytes.joined #[] bs) t))) { s with toks := k }) :
    wpAny M A (Builtin.«bytes.join» ⟨[.bytes #[] t0, .ref D], []⟩) Q E s := by
  obtain ⟨o, ho, hc, n, hd⟩ := id hl
  have hsz : items.size = bs.length := by rw [← hb.length]; simp
  unfold Builtin.«bytes.join» Builtin.Bytes.joinM
  refine wpAny_bind (wpAny_of_eq (a := (.bytes #[] t0, .ref D)) rfl ?_)
  dsimp only
  rw [if_pos (by decide)]
  refine wpAny_bind ?_
  unfold Builtin.Bytes.joinItems
  refine wpAny_bind (wpAny_typeOf (T := "list") hl.typeIs ?_)
  rw [if_pos (by decide +kernel)]
  refine wpAny_pure ?_
  refine wpAny_bind (wpAny_seqItems ho hd ?_)
  dsimp only
  rw [if_pos (by decide)]
  by_cases hone : items.size = 1
  · obtain ⟨x, rfl⟩ := arr_one hone
    obtain ⟨b, t, h1, h2⟩ := hb.at 0 (by simp)
    have hx : x = .bytes b t := by simpa using h1
    subst hx
    have hbs : bs = [b] := by
      cases bs with
      | nil => simp at h2
      | cons c r =>
        simp at h2
        subst h2
        simp at hsz
        rw [hsz]
    subst hbs
    refine wpAny_bind (wpAny_typeOf (T := "bytes") by_type ?_)
    rw [if_pos (by decide +kernel)]
    have hj : Builtin.Bytes.joined #[] [b] = b := by simp [Builtin.Bytes.joined]
    have := h t s.toks
    rw [hj] at this
    exact wpAny_bind (wpAny_rule (wpAny_pure this))
  · delta Builtin.Bytes.joinM.match_1
    dsimp only
    rw [dif_neg hone]
    refine wpAny_bind ?_
    rw [Std.Legacy.Range.forIn_eq_forIn_range']
    refine wpAny_forIn_list _ (fun l st s' => s' = s ∧ ∃ i, i + l.length = bs.length ∧ l = List.range' i l.length ∧ st = ((bs.take i).toArray, (items.toList.take i).map fun x => (x, none))) _ ?_ ?_ _ _ ⟨rfl, 0, ?_⟩
    · rintro i l st s' ⟨rfl, k, hk, hl', rfl⟩
      have hik : i = k := by simp [List.range'_succ] at hl'; exact hl'.1
      have hll : l = List.range' (k + 1) l.length := by simp [List.range'_succ] at hl'; exact hl'.2
      subst hik
      dsimp only
      refine wpAny_bind (wpAny_seqItems ho hd ?_)
      dsimp only
      have hlt : i < items.toList.length := by simp at hk ⊢; omega
      obtain ⟨b, t, h1, h2⟩ := hb.at i hlt
      have hget : items.getD i .none = .bytes b t := by
        rw [Array.getD_eq_getD_getElem?, ← Array.getElem?_toList, h1]; rfl
      have hany : ((items.toList.take i).map fun x => (x, (none : Option Value))).any (fun x => x.1.onHeap) = false := by
        rw [List.any_eq_false]
        intro p hp
        obtain ⟨x, hx, rfl⟩ := List.mem_map.mp hp
        obtain ⟨j, hj, hjx⟩ := List.mem_iff_getElem.mp (List.mem_of_mem_take hx)
        obtain ⟨c, u, h3, _⟩ := hb.at j hj
        rw [List.getElem?_eq_getElem hj, hjx] at h3
        rw [Option.some.inj h3]
        exact Bool.false_ne_true
      rw [if_neg (by rw [hany]; decide), hget]
      refine wpAny_bind (wpAny_holding (takeQ ?_))
      dsimp only
      refine wpAny_bind (wpAny_seqItems ho hd ?_)
      dsimp only
      rw [if_neg (by simp)]
      refine wpAny_pure ⟨rfl, i + 1, by simp at hk; omega, hll, ?_⟩
      rw [List.take_add_one, h2, List.take_add_one, h1]
      simp
    · rintro st s' ⟨rfl, k, hk, _, rfl⟩
      have hk' : k = bs.length := by simpa using hk
      subst hk'
      dsimp only
      unfold Builtin.Bytes.payload Builtin.Bytes.payload?
      refine wpAny_bind (wpAny_bind (wpAny_pure (wpAny_pure ?_)))
      rw [List.take_length]
      rw [if_neg (by unfold Builtin.Bytes.tooLong; simp only [decide_eq_true_eq]; simp at hz2 ⊢; omega)]
      refine wpAny_bind ?_
      show wpAny _ _ (mkBytes _) _ _ _
      unfold mkBytes
      rw [if_neg (by simp; exact hz)]
      refine wpAny_bind (wpAny_fresh (wpAny_pure ?_))
      refine wpAny_bind (wpAny_holding (wpAny_point ?_))
      refine wpAny_bind (joinLetGo_any ?_ _)
      exact wpAny_pure (by simpa using h _ _)
    · simp [hsz, List.range'_eq_nil_iff]
theorem join_bytes {D : Addr} {items : Array Value} {bs : List (Array UInt8)} {t0 : Tok} {Q : Value → Shared → Prop} (hl : s.heap.IsList D items) (hb : BytesAre items.toList bs) (hz : (Builtin.Bytes.joined #[] bs).size ≤ sizeLine)
    (hz2 : (bs.toArray.foldl (fun x y => x + y.size) 0) ≤ sizeLine)
    (h : ∀ t k, Q (.bytes (Builtin.Bytes.joined #[] bs) t) { s with toks := k }) :
    wpAny (model prog w) A (call (.builtin "bytes.join") [.bytes #[] t0, .ref D]) Q E s :=
  call_meetsIn F.slot_by_join (by exact by_type) F.entry_by_join F.args_by_join
    (S := fun A R s' => s' = s ∧ ∀ t k, R (.ok (.ret (.bytes (Builtin.Bytes.joined #[] bs) t))) { s with toks := k })
    (fun A R s' ⟨e, hR⟩ => by subst e; exact join_tree hl hb hz hz2 hR) ⟨rfl, h⟩
end

end
section
example : True := by
  w_top off
  k_with_none
  trivial
section
variable {cs : Scope} {ns : List PySem.Str} {d u : Nat} {C : Bx cs ns d u (fun _ _ => False) (fun _ => False)} {us : List Vl} {nw : List (Addr × Obj)} {K : List Vl → List (Addr × Obj) → Prop} {rest : List Stmt} {pos : Pos} {Q : Flow → Shared → Prop} {E : Value → Shared → Prop}
noncomputable def ExW (C : Bx cs ns d u (fun _ _ => False) (fun _ => False)) (us : List Vl) (nw : List (Addr × Obj)) (ss : List Stmt) (Q : Flow → Shared → Prop) (E : Value → Shared → Prop) : Prop := ∀ s, St C us nw s → wpR C.M C.A (execs ss C.env) Q E s
theorem ExW.cons {st : Stmt} (hE : ∀ e s', C.E e s' → E e s') (h : Ex C us nw [st] (fun us' nw' => ExW C us' nw' rest Q E)) : ExW C us nw (st :: rest) Q E := fun s hS =>
  wpR_clean (wpAny_mono (wpAny_execs_one (h s hS)) (fun f s' hf => by
    cases f with
    | next => obtain ⟨us', nw', hk, hs⟩ := hf; exact hk _ hs
    | ret v => obtain ⟨_, _, hk, _⟩ := hf; exact hk.elim
    | brk => exact hf.elim
    | cont => exact hf.elim) hE)
end
section
variable {cs : Scope} {ns : List PySem.Str} {d u : Nat} {RX : Value → List (Addr × Obj) → Prop} {XX : Int → Prop} {C : Bx cs ns d u RX XX} {us : List Vl} {nw : List (Addr × Obj)} {K : List Vl → List (Addr × Obj) → Prop} {rest : List Stmt} {pos : Pos}
theorem Ev.tupI {e : PySem.Expr} {k j : Nat} {p : Pos} {D : Addr} {vs : List Value} {i : Int} {v : Value} {y : Vl} (ha : Ev C us nw e (.val (.ref D))) (hm : C.Has nw (D, tupO vs)) (h0 : -(2 ^ 63) ≤ i ∧ i < 2 ^ 63) (hj : seqIndex? i vs.length = some j) (hx : vs[j]? = some v) (hy : y.Is (some v)) :
    Ev C us nw (.Subscript e (.Constant (.int i) k p) pos) y := fun s Q E hS hQ hE => by
  refine Subscript_ (ha _ _ _ hS (fun v1 s' hv hS' => Ev.cint _ _ _ hS' (fun v2 s'' hv' hS'' => ?_) hE) hE)
  obtain rfl := Vl.val_is hv
  obtain ⟨t, rfl⟩ := Vl.int_is hv'
  obtain ⟨l', hl'⟩ := id hS''
  exact tupK hl'.news (hm.at hl'.pn) h0.1 h0.2 hj hx (hQ _ _ hy hS'') (by with_unfolding_all rfl)
theorem Ev.lstI {e : PySem.Expr} {k n : Nat} {p : Pos} {D : Addr} {vs : List Value} {i : Int} {v : Value} (ha : Ev C us nw e (.val (.ref D))) (hm : C.Has nw (D, W.listOf vs.toArray n)) (h0 : 0 ≤ i ∧ i < 2 ^ 63) (hx : vs[i.toNat]? = some v) :
    Ev C us nw (.Subscript e (.Constant (.int i) k p) pos) (.val v) := fun s Q E hS hQ hE => by
  refine Subscript_ (ha _ _ _ hS (fun v1 s' hv hS' => Ev.cint _ _ _ hS' (fun v2 s'' hv' hS'' => ?_) hE) hE)
  obtain rfl := Vl.val_is hv
  obtain ⟨t, rfl⟩ := Vl.int_is hv'
  obtain ⟨l', hl'⟩ := id hS''
  exact pickR hl'.news (hm.at hl'.pn) h0.1 h0.2 hx (hQ _ _ rfl hS'') (by with_unfolding_all rfl)
theorem ForA.imp : ∀ (xs : List Vl) {P P' : List Value → Prop}, (∀ vs, P vs → P' vs) → ForA xs P → ForA xs P' := fun xs => by
  induction xs with
  | nil => intro P P' h h'; exact h _ h'
  | cons x xs ih =>
    intro P P' h h'
    cases x with
    | no => exact h'.elim
    | val v => exact ih (fun vs => h _) h'
    | int i => exact fun t => ih (fun vs => h _) (h' t)
    | str i => exact fun t => ih (fun vs => h _) (h' t)
    | byt i => exact fun t => ih (fun vs => h _) (h' t)
theorem Ex.appWd {x : PySem.Str} {p ap cp tp : Pos} {k n : Nat} {es : List PySem.Expr} {D : Addr} {vs : List Value} {nw0 : List (Addr × Obj)} {xs : List Vl} (wd : Wd) (ho : ∀ nw, Ev C us nw (.Name x p) (.val (.ref D))) (hne : ∀ q ∈ nw0, @Ne Nat q.1 D) (hv : vs.length ≤ 16777216)
    (hl : EvL C us ((D, W.listOf vs.toArray n) :: nw0) es xs) (hz : xs.length ≤ 1000) (hw : ForA xs (fun ws => IsWd wd (tupO ws)))
    (hr : ∀ D' ob, IsWd wd ob → @LT.lt Nat _ D D' → (∀ q ∈ nw0, @LT.lt Nat _ q.1 D') → (∀ q ∈ (D', ob) :: nw0, @Ne Nat q.1 D) → Ex C us ((D, W.listOf (vs ++ [Value.ref D']).toArray (n + 1)) :: (D', ob) :: nw0) rest K)
    (hst : ∀ env, starEach [.Tuple es k tp] env = (false, eval (.Tuple es k tp) env) :: starEach [] env) (hsw : ∀ env, swapsWith (.Call (.Attribute (.Name x p) (Str.ofString "append") ap) [.Tuple es k tp] [] cp) none pos.line env = pure false)
    (hc : ∀ env, ∃ pl, eval (.Call (.Attribute (.Name x p) (Str.ofString "append") ap) [.Tuple es k tp] [] cp) env = (do
      let ov ← eval (.Name x p) env
      standAt ap.atName
      let (f, first) ← holding [ov] (getMethod ov (Str.ofString "append") pl)
      callWith cp f first (backTo cp (starEach [.Tuple es k tp] env)) [])) :
    Ex C us ((D, W.listOf vs.toArray n) :: nw0) (.Expr (.Call (.Attribute (.Name x p) (Str.ofString "append") ap) [.Tuple es k tp] [] cp) pos :: rest) K :=
  Ex.append (ho _) ⟨_, _, .head _⟩ (P := fun v n1 => ∃ D' ob, v = .ref D' ∧ n1 = (D', ob) :: (D, W.listOf vs.toArray n) :: nw0 ∧ IsWd wd ob ∧ ∀ q ∈ (D, W.listOf vs.toArray n) :: nw0, @LT.lt Nat _ q.1 D')
    (EvG.tup hl hz fun D' h => ForA.imp xs (fun ws hw' => ⟨D', _, rfl, rfl, hw', h⟩) hw)
    (fun v n1 ⟨D', ob, e1, e2, h1, h2⟩ => by
      subst e1 e2
      have hlt := h2 _ (.head _)
      have hne2 : ∀ q ∈ (D', ob) :: nw0, @Ne Nat q.1 D := List.forall_mem_cons.mpr ⟨Nat.ne_of_gt hlt, hne⟩
      exact ⟨vs, n, (D', ob) :: nw0, .tail _ (.head _), List.forall_mem_cons.mpr ⟨.head _, fun q hq => .tail _ (.tail _ hq)⟩, hne2, hv, hr D' ob h1 hlt (fun q hq => h2 q (.tail _ hq)) hne2⟩) hst hsw hc
end
theorem IsExt.same {e : Ext} {v v' : Value} (h : IsExt e v) (h' : IsExt e v') : SameV v v' := by
  cases h with
  | none => cases h'; exact .none
  | int k t => cases h'; exact .int _ _ _
  | bytes b t => cases h'; exact .bytes _ _ _
theorem SameIn.wd {rest : List (Addr × Obj)} {a b : Addr} {oa ob : Obj} {wd : Wd} {l k : List Value} (h : IsWd wd oa) (h' : IsWd wd ob) (ha : (a, oa) ∈ rest) (hb : (b, ob) ∈ rest) (hn : a ≠ b) (t : SameIn rest l k) : SameIn rest (.ref a :: l) (.ref b :: k) := by
  cases h with
  | mk kind txt spot ext t1 t2 t3 v h =>
    cases h' with
    | mk _ _ _ _ u1 u2 u3 v' h' => exact .cons ha hb hn (.cons (.str _ _ _) (.cons (.str _ _ _) (.cons (.int _ _ _) (.cons (h.same h') .nil)))) t
theorem IsWd.found {rest : List (Addr × Obj)} {x : Addr} {ob : Obj} {wd : Wd} (h : IsWd wd ob) (hm : (x, ob) ∈ rest) (hk : (wd.kind == Str.ofString "end") = false) : ∃ (y : Addr) (kind : PySem.Str) (t : Tok) (v2 v3 v4 : Value), Value.ref x = .ref y ∧ (y, tupO [.str kind t, v2, v3, v4]) ∈ rest ∧ (kind == Str.ofString "end") = false := by
  cases h with
  | mk kind txt spot ext t1 t2 t3 v h => exact ⟨x, kind, t1, _, _, _, rfl, hm, hk⟩
theorem Same.with {s s' : Shared} (x : Same s s') (h : Heap) (k : Nat) : { s' with heap := h, toks := k } = { s with heap := h, toks := k } := by rw [x.eq]
theorem fr_due {h₀ h : Heap} {L : Addr} {v : Value} {m : PySem.Str → Option Value} (F : Fr h₀ L h m) (hv : m (Str.ofString "due") = some v) : Fr h₀ L h (rowD v m) := by
  have e : m = rowD v m := by
    funext y
    by_cases hy : y = Str.ofString "due"
    · rw [hy, hv]; exact (if_pos rfl).symm
    · exact (if_neg hy).symm
  rw [← e]
  exact F

end
section
example : True := by
  w_top off
  trivial
theorem q39 : (Str.ofString "'").cps.toList = [39] := by decide +kernel
theorem q32 : (Str.ofString " ").cps.toList = [32] := by decide +kernel
theorem q32l : (Str.ofString " ").length = 1 := by decide +kernel
theorem app_len (a b : PySem.Str) : (a ++ b).length = a.length + b.length := by rw [len_eq, app_list, List.length_append, ← len_eq, ← len_eq]
noncomputable abbrev rowNs : List PySem.Str := [Str.ofString "due", Str.ofString "text", Str.ofString "name", Str.ofString "value", Str.ofString "told", Str.ofString "rune", Str.ofString "number"]
theorem WdsAre.inv {wd : Wd} {wds : List Wd} {its : List (Addr × Obj)} (h : WdsAre (wd :: wds) its) : ∃ x ob its', its = (x, ob) :: its' ∧ IsWd wd ob ∧ WdsAre wds its' := by
  cases h with
  | cons hw t => exact ⟨_, _, _, rfl, hw, t⟩
theorem WdsAre.inv0 {its : List (Addr × Obj)} (h : WdsAre [] its) : its = [] := by cases h; rfl
theorem IsWd.inv {kind txt : PySem.Str} {spot : Int} {ext : Ext} {ob : Obj} (h : IsWd ⟨kind, txt, spot, ext⟩ ob) : ∃ t1 t2 t3 v, ob = tupO [.str kind t1, .str txt t2, .int spot t3, v] := by
  cases h with
  | mk _ _ _ _ t1 t2 t3 v h => exact ⟨t1, t2, t3, v, rfl⟩
inductive Wds6 (w0 w1 w2 w3 w4 w5 : Wd) : List (Addr × Obj) → Prop
  | mk (x0 x1 x2 x3 x4 x5 : Addr) (o0 o1 o2 o3 o4 o5 : Obj) (h0 : IsWd w0 o0) (h1 : IsWd w1 o1) (h2 : IsWd w2 o2) (h3 : IsWd w3 o3) (h4 : IsWd w4 o4) (h5 : IsWd w5 o5) : Wds6 w0 w1 w2 w3 w4 w5 [(x0, o0), (x1, o1), (x2, o2), (x3, o3), (x4, o4), (x5, o5)]
theorem wds6 {w0 w1 w2 w3 w4 w5 : Wd} {its : List (Addr × Obj)} (h : WdsAre [w0, w1, w2, w3, w4, w5] its) : Wds6 w0 w1 w2 w3 w4 w5 its := by
  obtain ⟨_, _, _, rfl, h0, h⟩ := h.inv
  obtain ⟨_, _, _, rfl, h1, h⟩ := h.inv
  obtain ⟨_, _, _, rfl, h2, h⟩ := h.inv
  obtain ⟨_, _, _, rfl, h3, h⟩ := h.inv
  obtain ⟨_, _, _, rfl, h4, h⟩ := h.inv
  obtain ⟨_, _, _, rfl, h5, h⟩ := h.inv
  obtain rfl := h.inv0
  exact .mk _ _ _ _ _ _ _ _ _ _ _ _ h0 h1 h2 h3 h4 h5
theorem four_at {P : Value → Prop} {a b c e : Value} {r : List Value} (h1 : P a) (h2 : P b) (h3 : P c) (h4 : P e) : ∀ i y, (a :: b :: c :: e :: r)[i]? = some y → i < 4 → P y := by
  intro i y hy hi
  rcases i with _ | _ | _ | _ | i
  · exact Option.some.inj hy ▸ h1
  · exact Option.some.inj hy ▸ h2
  · exact Option.some.inj hy ▸ h3
  · exact Option.some.inj hy ▸ h4
  · exact absurd hi (Nat.not_lt.mpr (Nat.le_add_left 4 i))
theorem g_rwords (w : World) : nsIn (Mine.hd.heap_39 w.params) mainGlobals (Str.ofString "read_words") = some (some (.ref 207)) := by k_is
theorem k_rwords (w : World) : keepIn (Mine.hd.heap_39 w.params) (.ref 207) = true := by k_is
theorem g_lfault (w : World) : nsIn (Mine.hd.heap_39 w.params) mainGlobals (Str.ofString "_law_fault") = some (some (.ref 321)) := by k_is
theorem k_lfault (w : World) : keepIn (Mine.hd.heap_39 w.params) (.ref 321) = true := by k_is
theorem row_fin {oc : Value} {od an : Option Addr} {name qual : PySem.Str} {params : Arguments} {body : List Stmt} {scope : Scope} {dV kV doc pm cdv ct : Value} {osl : Array (Option Value)}
    {C : Bx scope rowNs 69 897 (fun _ _ => False) (fun _ => False)} (ho : (Mine.hd.heap_39 C.w.params).lookup 326 = some ⟨oc, od, .func (fnOf name qual params body scope dV kV doc pm an cdv ct), osl⟩)
    {Q : Flow → Shared → Prop} {E : Value → Shared → Prop} (hE : ∀ e s', C.E e s' → E e s') (hcl : C.cl = [(Str.ofString "here", C.L + 1 + 1), (Str.ofString "source", C.L + 1)]) (R : RowT)
    {l D1 D2 D3 X X1 : Addr} {tx Tn : PySem.Str} {kn : Int} {n0 : Nat} {e1 e2 e3 oh os oX1 : Obj} {u7 u8 : Tok} {vh : Option Value} {tl : List (Addr × Obj)} {vx : Vl} {vn : Vl}
    (hP : ∀ l', C.Pn l' → l' = (X, tupO [.str Tn u7, .int kn u8, .bool false]) :: (X1, oX1) :: (C.L + 1 + 1, oh) :: (C.L + 1, os) :: tl) (dh : oh.data = .cell vh) (lS : ∀ q ∈ tl, @LT.lt Nat _ q.1 (C.L + 1 + 1))
    (hne : ∀ q ∈ [(D3, e3), (D2, e2), (D1, e1)], @Ne Nat q.1 l)
    (w1 : IsWd ⟨Str.ofString "text", ⟨(34 :: flatT R.ps ++ [34]).toArray⟩, 0, .bytes (flatB R.ps)⟩ e1) (w2 : IsWd ⟨Str.ofString "rune", ⟨(39 :: R.rl ++ [39]).toArray⟩, R.p1, .int R.rv⟩ e2) (w3 : IsWd ⟨Str.ofString "name", ⟨R.nm.toArray⟩, R.p2, .none⟩ e3)
    (h5 : Tn = ⟨(R.ah ++ R.c :: R.l).toArray⟩) (h8 : kn = valOf R.b (R.c :: R.l)) (hp4 : (tx.length : Int) = R.p3) (hz : tx.length + Tn.length ≤ 100000) (hraw : ∀ i : Int, 0 ≤ i → i < (tx ++ Tn).length → (Txt.item (tx ++ Tn) i == Str.ofString "`") = true → rawBad (tx ++ Tn) i)
    (hrow : rowsRead (tx ++ Tn) = .ok (⟨Str.ofString "end", Str.ofString "", R.text.length, .none⟩ :: ⟨Str.ofString "sign", Str.ofString ";", R.text.length, .none⟩ :: R.due.reverse))
    (hfin : ∀ h' tk m' news', Fr C.h₀ C.L h' m' → News C.h₀ C.L h' news' → (∀ q ∈ tl, q ∈ news') → Q (.ret (.bool true)) { C.s₀ with heap := h', toks := tk }) :
    ExW C [.val (.ref l), .str tx, vn, .no, .no, vx, .val (.ref X)] ((l, W.listOf [Value.ref D1, .ref D2, .ref D3].toArray n0) :: [(D3, e3), (D2, e2), (D1, e1)]) (body.drop 10) Q E := by
  obtain ⟨-, f4, f5⟩ := fn_inj ho (show (Mine.hd.heap_39 C.w.params).lookup 326 = some ⟨_, _, .func (fnOf _ _ _ _ _ _ _ _ _ _ _ _), _⟩ by k_is)
  subst f4 f5
  dsimp only [List.drop]
  have zX : ∀ {nw}, C.Has nw (X, tupO [.str Tn u7, .int kn u8, .bool false]) := .inr fun l' h => hP l' h ▸ .head _
  have z1 : tx.length ≤ 1048576 := by omega
  refine ExW.cons hE (Ex.appWd ⟨Str.ofString "int", Tn, tx.length, .int kn⟩ (fun nw => Ev.loc 0 rfl rfl rfl) hne (Nat.le_of_ble_eq_true rfl) (EvL.cons Ev.cstr (EvL.cons (Ev.tupI (y := .str Tn) (Ev.loc 6 rfl rfl rfl) zX (by decide) rfl rfl ⟨_, rfl⟩) (EvL.cons (Ev.len rfl (Ev.loc 1 rfl rfl rfl) z1 (fun _ => rfl) fun _ => rfl) (EvL.cons (Ev.tupI (y := .int kn) (Ev.loc 6 rfl rfl rfl) zX (by decide) rfl rfl ⟨_, rfl⟩) EvL.nil fun _ => rfl) fun _ => rfl) fun _ => rfl) fun _ => rfl) (Nat.le_of_ble_eq_true rfl) (fun _ _ _ _ => .mk _ _ _ _ _ _ _ _ (.int _ _)) (fun D4 e4 w4 o1 o2 hne4 => Ex.nil ?_) (fun _ => rfl) (fun _ => rfl) fun _ => ⟨_, rfl⟩)
  intro s2 hS2
  refine wpR_execs_cons (wpR_Assign_Name (wpR_Call (Ev.glob rfl (g_rwords _) _ _ _ hS2 (fun f' s3 hf hS3 => ?_) hE) rfl) rfl)
  obtain rfl := Vl.val_is hf
  refine wpR_callWith_K C.K (k_rwords _) (EvL.cons (Ev.cat (Ev.loc 1 rfl rfl rfl) (Ev.tupI (y := .str Tn) (Ev.loc 6 rfl rfl rfl) zX (by decide) rfl rfl ⟨_, rfl⟩) (by omega)) EvL.nil (fun _ => rfl) _ _ _ _ hS3 (fun vs s4 hvs hS4 => ?_) hE) rfl rfl
  obtain ⟨l4, hl4⟩ := id hS4
  obtain ⟨m, F, hm⟩ := hS4.fr
  obtain rfl := hP _ hl4.pn
  refine ⟨C.K.keeps F.keep, ?_⟩
  refine forA_of [.str (tx ++ Tn)] (P := fun vs => wpR C.M C.A (call (.ref 207) vs) _ _ s4) (fun t => ?_) vs hvs
  refine (read_words_c _ _ t (by rw [app_len]; omega) hraw).use C.B F C.K hl4.news C.T C.hk (Nat.lt_of_le_of_lt (Nat.add_le_add_left (Nat.le_of_ble_eq_true rfl) _) C.hd) (Nat.lt_of_le_of_lt (Nat.add_le_add_left (Nat.le_of_ble_eq_true rfl) _) C.hu) (fun _ h => nomatch h) (fun e' sp' h' tk' g' hX' FG' R' => by rw [hrow] at hX'; cases hX') ?_
  intro v' nw' h' tk' hR' F' N' l1
  obtain ⟨W', d', R', its', wds', n', b1, b2, b3, b4, b5, hr', hw', hz', q1', q2', q3'⟩ := hR'
  rw [hrow] at hr'
  injection hr' with hr'
  subst hr'
  obtain ⟨x6, x5, x4, x3, x2, x1, o6, o5, o4, o3, o2, o1, i6, i5, i4, i3, i2, i1⟩ := wds6 hw'
  obtain ⟨t5, t6, t7, v5, rfl⟩ := i5.inv
  have ab := hl4.above _ (.tail _ (.tail _ (.head _)))
  obtain ⟨N50, ne50, ned50, neC50, g1, g2, g3, g4⟩ := row_led N' l1 q1' q2' q3' (ab _ (.head _)) (ab _ (.tail _ (.head _))) (ab _ (.tail _ (.tail _ (.head _)))) (ab _ (.tail _ (.tail _ (.tail _ (.head _))))) (ab _ (.tail _ (.tail _ (.tail _ (.tail _ (.head _)))))) lS
  clear N' l1 hw' hrow hraw
  refine storeX_C F' N50 (by rw [hcl]; rfl) (.head neC50) dh (fun h70 o7 F7 N7 d7 => ?_) C.hk rfl
  refine wpR_of ?_
  rw [h5, hp4, h8] at w4
  refine row_ret _ ho hcl C.B C.K C.T C.hd C.hu d7 (fr_due F7 (hm 0 _ _ rfl rfl)) N7 ne50 ned50 (.head _) (.tail _ (.head _)) rfl (.tail _ (.tail _ (.tail _ (.tail _ (.tail _ (.tail _ (.tail _ (.tail _ (.head _))))))))) (.tail _ (.tail _ (.tail _ (.head _)))) rfl (by decide +kernel)
    (four_at (i1.found (.tail _ (.tail _ (.tail _ (.tail _ (.tail _ (.tail _ (.tail _ (.head _)))))))) (show (Str.ofString "text" == Str.ofString "end") = false by decide +kernel)) (i2.found (.tail _ (.tail _ (.tail _ (.tail _ (.tail _ (.tail _ (.head _))))))) (show (Str.ofString "rune" == Str.ofString "end") = false by decide +kernel)) (i3.found (.tail _ (.tail _ (.tail _ (.tail _ (.tail _ (.head _)))))) (show (Str.ofString "name" == Str.ofString "end") = false by decide +kernel)) (i4.found (.tail _ (.tail _ (.tail _ (.tail _ (.head _))))) (show (Str.ofString "int" == Str.ofString "end") = false by decide +kernel))) ?_
    (tl := tl) (fun q hq => ?_) fun h' tk m' news' F9 N9 hs => by rw [Same.with hl4.same]; exact hfin h' tk m' news' F9 N9 hs
  · exact SameIn.wd i1 w1 (.tail _ (.tail _ (.tail _ (.tail _ (.tail _ (.tail _ (.tail _ (.head _)))))))) (.tail _ (.tail _ (.tail _ (.tail _ (.tail _ (.tail _ (.tail _ (.tail _ (.tail _ (.tail _ (.tail _ (.tail _ (.head _))))))))))))) g1
      (SameIn.wd i2 w2 (.tail _ (.tail _ (.tail _ (.tail _ (.tail _ (.tail _ (.head _))))))) (.tail _ (.tail _ (.tail _ (.tail _ (.tail _ (.tail _ (.tail _ (.tail _ (.tail _ (.tail _ (.tail _ (.head _)))))))))))) g2
      (SameIn.wd i3 w3 (.tail _ (.tail _ (.tail _ (.tail _ (.tail _ (.head _)))))) (.tail _ (.tail _ (.tail _ (.tail _ (.tail _ (.tail _ (.tail _ (.tail _ (.tail _ (.tail _ (.head _))))))))))) g3
      (SameIn.wd i4 w4 (.tail _ (.tail _ (.tail _ (.tail _ (.head _))))) (.tail _ (.tail _ (.tail _ (.tail _ (.tail _ (.tail _ (.tail _ (.tail _ (.tail _ (.head _)))))))))) g4 .nil)))
  · exact .tail _ (.tail _ (.tail _ (.tail _ (.tail _ (.tail _ (.tail _ (.tail _ (.tail _ (.tail _ (.tail _ (.tail _ (.tail _ hq))))))))))))
theorem if_f {P P' : Prop} (h : P') : if false = true then P else P' := by rw [if_neg Bool.false_ne_true]; exact h
theorem if_t {P P' : Prop} (h : P) : if true = true then P else P' := by rw [if_pos rfl]; exact h
theorem app3_len {a b c : PySem.Str} {i j k : Nat} (h1 : a.length ≤ i) (h2 : b.length ≤ j) (h3 : c.length ≤ k) : (a ++ b ++ c).length ≤ i + j + k := by
  rw [app_len, app_len]; exact Nat.add_le_add (Nat.add_le_add h1 h2) h3
theorem row_go {oc : Value} {od an : Option Addr} {name qual : PySem.Str} {params : Arguments} {body : List Stmt} {scope : Scope} {dV kV doc pm cdv ct : Value} {osl : Array (Option Value)}
    {C : Bx scope rowNs 69 897 (fun _ _ => False) (fun _ => False)} (ho : (Mine.hd.heap_39 C.w.params).lookup 326 = some ⟨oc, od, .func (fnOf name qual params body scope dV kV doc pm an cdv ct), osl⟩)
    {Q : Flow → Shared → Prop} {E : Value → Shared → Prop} (hE : ∀ e s', C.E e s' → E e s') (hcl : C.cl = [(Str.ofString "here", C.L + 1 + 1), (Str.ofString "source", C.L + 1)]) (R : RowT) (H : R.Ok) (XB : (Mine.hd.heap_39 C.w.params).In C.base) (TB : Top C.p C.loose C.mean C.mg C.mb C.base) (D : KtsDicts (C.outer.filterMap (·.frame)) C.h₀)
    {l D1 X X1 : Addr} {told text nm Tr Tn : PySem.Str} {kr kn : Int} {flr fln : Bool} {n0 : Nat} {e1 oh os : Obj} {u7 u8 u9 u10 : Tok} {vh : Option Value} {tl : List (Addr × Obj)}
    (hP : ∀ l', C.Pn l' → l' = (X, tupO [.str Tn u7, .int kn u8, .bool fln]) :: (X1, tupO [.str Tr u9, .int kr u10, .bool flr]) :: (C.L + 1 + 1, oh) :: (C.L + 1, os) :: tl) (dh : oh.data = .cell vh) (lS : ∀ q ∈ tl, @LT.lt Nat _ q.1 (C.L + 1 + 1))
    (hne : @Ne Nat D1 l)
    (w1 : IsWd ⟨Str.ofString "text", told, 0, .bytes (flatB R.ps)⟩ e1)
    (h1 : told.cps.toList = 34 :: flatT R.ps ++ [34]) (h2 : text.cps.toList = 34 :: flatT R.ps ++ [34, 32]) (h3 : nm.cps.toList = R.nm) (h4 : Tr.cps.toList = R.rl) (h5 : Tn.cps.toList = R.ah ++ R.c :: R.l) (h7 : kr = R.rv) (h8 : kn = valOf R.b (R.c :: R.l)) (h9 : fln = decide (100 < R.l.length + 1))
    (z2 : text.length ≤ 1020) (z3 : nm.length ≤ 1010) (z4 : Tr.length ≤ 10) (z5 : Tn.length ≤ 103)
    (hfin : ∀ h' tk g' m' news', KtsTurn (C.outer.filterMap (·.frame)) C.h₀ g' → Fr g' C.L h' m' → News g' C.L h' news' → (∀ q ∈ tl, q ∈ news') → Q (.ret (.bool true)) { C.s₀ with heap := h', toks := tk }) :
    ExW C [.val (.ref l), .str text, .str nm, .no, .no, .val (.ref X1), .val (.ref X)] ((l, W.listOf [Value.ref D1].toArray n0) :: [(D1, e1)]) (body.drop 5) Q E := by
  have ho2 := ho
  obtain ⟨-, f4, f5⟩ := fn_inj ho (show (Mine.hd.heap_39 C.w.params).lookup 326 = some ⟨_, _, .func (fnOf _ _ _ _ _ _ _ _ _ _ _ _), _⟩ by k_is)
  subst f4 f5
  clear ho
  dsimp only [List.drop]
  have zX : ∀ {nw}, C.Has nw (X, tupO [.str Tn u7, .int kn u8, .bool fln]) := .inr fun l' h => hP l' h ▸ .head _
  have zX1 : ∀ {nw}, C.Has nw (X1, tupO [.str Tr u9, .int kr u10, .bool flr]) := .inr fun l' h => hP l' h ▸ .tail _ (.head _)
  have hq1 : (Str.ofString "'").length ≤ 1 := by decide +kernel
  have hq2 : (Str.ofString " ").length ≤ 1 := by decide +kernel
  have hJ1 : (Str.ofString "'" ++ Tr ++ Str.ofString "'").cps.toList = 39 :: R.rl ++ [39] := by rw [app_list, app_list, h4, q39]; rfl
  have hJz : (Str.ofString "'" ++ Tr ++ Str.ofString "'").length ≤ 12 := app3_len hq1 z4 hq1
  have zq : (Str.ofString "'").length + Tr.length ≤ 1048576 := Nat.le_trans (Nat.add_le_add hq1 z4) (by decide)
  have zJ : (Str.ofString "'" ++ Tr).length + (Str.ofString "'").length ≤ 1048576 := by rw [← app_len]; exact Nat.le_trans hJz (by decide)
  have zt : text.length ≤ 1048576 := Nat.le_trans z2 (by decide)
  refine ExW.cons hE (Ex.appWd ⟨Str.ofString "rune", Str.ofString "'" ++ Tr ++ Str.ofString "'", text.length, .int kr⟩ (fun nw => Ev.loc 0 rfl rfl rfl) (List.forall_mem_cons.mpr ⟨hne, List.forall_mem_nil _⟩) (Nat.le_of_ble_eq_true rfl) (EvL.cons Ev.cstr (EvL.cons (Ev.cat (Ev.cat Ev.cstr (Ev.tupI (y := .str Tr) (Ev.loc 5 rfl rfl rfl) zX1 (by decide) rfl rfl ⟨_, rfl⟩) zq) Ev.cstr zJ) (EvL.cons (Ev.len rfl (Ev.loc 1 rfl rfl rfl) zt (fun _ => rfl) fun _ => rfl) (EvL.cons (Ev.tupI (y := .int kr) (Ev.loc 5 rfl rfl rfl) zX1 (by decide) rfl rfl ⟨_, rfl⟩) EvL.nil fun _ => rfl) fun _ => rfl) fun _ => rfl) fun _ => rfl) (Nat.le_of_ble_eq_true rfl) (fun _ _ _ _ => .mk _ _ _ _ _ _ _ _ (.int _ _)) (fun D2 e2 w2 o1 o2 hne2 => Ex.nil ?_) (fun _ => rfl) (fun _ => rfl) fun _ => ⟨_, rfl⟩)
  clear hne zq zJ
  generalize Str.ofString "'" ++ Tr ++ Str.ofString "'" = J at *
  have zt2 : (text ++ J).length ≤ 1032 := by rw [app_len]; exact Nat.add_le_add z2 hJz
  have hT1 : (text ++ J ++ Str.ofString " ").cps.toList = 34 :: flatT R.ps ++ [34, 32] ++ (39 :: R.rl ++ [39]) ++ [32] := by rw [app_list, app_list, h2, hJ1, q32]
  have hTz : (text ++ J ++ Str.ofString " ").length ≤ 1033 := app3_len z2 hJz hq2
  obtain ⟨t1, t2, t3, v4, hob⟩ := w2.inv
  refine ExW.cons hE (Ex.set 1 rfl (fun _ => rfl) (Ev.cat (Ev.cat (Ev.loc 1 rfl rfl rfl) (Ev.tupI (y := .str J) (vs := [.str (Str.ofString "rune") t1, .str J t2, .int text.length t3, v4]) (Ev.lstI (Ev.loc 0 rfl rfl rfl) (.inl (.head _)) (by decide) rfl) (.inl (by rw [← hob]; exact .tail _ (.head _))) (by decide) rfl rfl ⟨_, rfl⟩) (Nat.le_trans (by rw [← app_len]; exact zt2) (by decide))) Ev.cstr (Nat.le_trans (by rw [← app_len]; exact hTz) (by decide))) (Ex.nil ?_))
  clear hob zt2 zt
  generalize text ++ J ++ Str.ofString " " = tx2 at *
  have zt : tx2.length ≤ 1048576 := Nat.le_trans hTz (by decide)
  refine ExW.cons hE (Ex.appWd ⟨Str.ofString "name", nm, tx2.length, .none⟩ (fun nw => Ev.loc 0 rfl rfl rfl) hne2 (Nat.le_of_ble_eq_true rfl) (EvL.cons Ev.cstr (EvL.cons (Ev.loc 2 rfl rfl rfl) (EvL.cons (Ev.len rfl (Ev.loc 1 rfl rfl rfl) zt (fun _ => rfl) fun _ => rfl) (EvL.cons Ev.non EvL.nil fun _ => rfl) fun _ => rfl) fun _ => rfl) fun _ => rfl) (Nat.le_of_ble_eq_true rfl) (fun _ _ _ => .mk _ _ _ _ _ _ _ _ .none) (fun D3 e3 w3 o3 o4 hne3 => Ex.nil ?_) (fun _ => rfl) (fun _ => rfl) fun _ => ⟨_, rfl⟩)
  clear hne2
  have hU1 : (tx2 ++ nm ++ Str.ofString " ").cps.toList = 34 :: flatT R.ps ++ [34, 32] ++ (39 :: R.rl ++ [39]) ++ [32] ++ R.nm ++ [32] := by rw [app_list, app_list, hT1, h3, q32]
  have hUz : (tx2 ++ nm ++ Str.ofString " ").length ≤ 2044 := app3_len hTz z3 hq2
  refine ExW.cons hE (Ex.set 1 rfl (fun _ => rfl) (Ev.cat (Ev.cat (Ev.loc 1 rfl rfl rfl) (Ev.loc 2 rfl rfl rfl) (Nat.le_trans (Nat.add_le_add hTz z3) (by decide))) Ev.cstr (Nat.le_trans (by rw [← app_len]; exact hUz) (by decide))) (Ex.nil ?_))
  generalize tx2 ++ nm ++ Str.ofString " " = tx3 at *
  have hW1 : (tx3 ++ Tn).cps.toList = R.text := by rw [app_list, hU1, h5]; simp [RowT.text]
  have hW2 : tx3 ++ Tn = ⟨R.text.toArray⟩ := str_ext hW1
  have hrow := rows_of R H
  rw [← hW2] at hrow
  have hraw := raw_none (T := tx3 ++ Tn) (by rw [hW1]; exact H.no96)
  have hp2 : (text.length : Int) = R.p1 := by rw [len_eq, h2]; simp [RowT.p1]; omega
  have hp3 : (tx2.length : Int) = R.p2 := by rw [len_eq, hT1]; simp [RowT.p2, RowT.p1]; omega
  have hp4 : (tx3.length : Int) = R.p3 := by rw [len_eq, hU1]; simp [RowT.p3, RowT.p2, RowT.p1]; omega
  have hz : tx3.length + Tn.length ≤ 2147 := Nat.add_le_add hUz z5
  intro s1 hS1
  refine wpR_execs_cons (wpR_If (Tst.plain (Ev.tupI (y := .val (.bool fln)) (Ev.loc 6 rfl rfl rfl) zX (by decide) rfl rfl rfl) (fun _ _ => rfl) _ _ _ hS1 (fun s2 hS2 => ?_) hE))
  cases fln with
  | true =>
    rw [if_pos (of_decide_eq_true h9.symm)] at hrow
    refine if_t (wpR_execs_cons (wpR_Return (wpR_Compare1 (wpR_Call (Ev.glob rfl (g_lfault _) _ _ _ hS2 (fun f' s3 hf hS3 => ?_) hE) rfl) (by with_unfolding_all rfl))))
    obtain rfl := Vl.val_is hf
    refine wpR_callWith_K C.K (k_lfault _) (EvL.cons (Ev.cat (Ev.loc 1 rfl rfl rfl) (Ev.tupI (y := .str Tn) (Ev.loc 6 rfl rfl rfl) zX (by decide) rfl rfl ⟨_, rfl⟩) (Nat.le_trans hz (by decide))) EvL.nil (fun _ => rfl) _ _ _ _ hS3 (fun vs s4 hvs hS4 => ?_) hE) rfl rfl
    obtain ⟨l4, hl4⟩ := id hS4
    obtain ⟨m, F, hm⟩ := hS4.fr
    obtain rfl := hP _ hl4.pn
    refine ⟨C.K.keeps F.keep, ?_⟩
    refine forA_of [.str (tx3 ++ Tn)] (P := fun vs => wpR C.M C.A (call (.ref 321) vs) _ _ s4) (fun t => ?_) vs hvs
    refine (law_fault_c _ _ t (by rw [app_len]; exact Nat.le_trans hz (by decide)) hraw).use C.B F C.K XB hl4.news C.T TB D C.hk (Nat.lt_of_le_of_lt (Nat.add_le_add_left (Nat.le_of_ble_eq_true rfl) _) C.hd) (Nat.lt_of_le_of_lt (Nat.add_le_add_left (Nat.le_of_ble_eq_true rfl) _) C.hu) (fun _ h => nomatch h) ?_
    intro v' nw' h' tk' g1 hR' T1 F' N' l1' B1 X1' TT1 D1'
    cases hR' with
    | none wds h => rw [hrow] at h; cases h
    | some sp t h =>
      rw [hrow] at h
      injection h with h
      subst h
      let C1 : Bx _ rowNs 69 897 (fun _ _ => False) (fun _ => False) := { C with h₀ := g1, B := B1, K := X1', T := TT1, hA := .inl fun _ h => h }
      have hS5 : St C1 [.val (.ref l), .str tx3, .str nm, .no, .no, .val (.ref X1), .val (.ref X)] _ { s4 with heap := h', toks := tk' } := ⟨_, hl4.pn, hl4.same, ⟨m, F', hm⟩, N', hl4.above⟩
      refine Ev.len (C := C1) rfl (Ev.loc 1 rfl rfl rfl) (Nat.le_trans hUz (by decide)) (fun _ => rfl) (fun _ => rfl) _ _ _ hS5 (fun v s6 hv hS6 => ?_) fun e s' h => hE e s' (wpAny_mono h (fun _ _ h => by obtain ⟨_, _, _, h, _⟩ := h; exact h.elim) fun _ _ h => h)
      obtain ⟨t6, rfl⟩ := Vl.int_is hv
      obtain ⟨l6, hl6⟩ := id hS6
      obtain ⟨m6, F6, _⟩ := hS6.fr
      obtain rfl := hP _ hl6.pn
      refine PyProof.Rows.eq_int ?_
      rw [hp4, beq_self_eq_true, hl6.same.eq]
      exact hfin _ _ _ _ _ T1 F6 hl6.news fun q hq => List.mem_append_right _ (.tail _ (.tail _ (.tail _ (.tail _ hq))))
  | false =>
    rw [if_neg (of_decide_eq_false h9.symm)] at hrow
    refine if_f (wpR_execs_nil ?_)
    rw [str_ext (show told.cps.toList = (⟨(34 :: flatT R.ps ++ [34]).toArray⟩ : PySem.Str).cps.toList from h1)] at w1
    rw [str_ext (show J.cps.toList = (⟨(39 :: R.rl ++ [39]).toArray⟩ : PySem.Str).cps.toList from hJ1), hp2, h7] at w2
    rw [str_ext (show nm.cps.toList = (⟨R.nm.toArray⟩ : PySem.Str).cps.toList from h3), hp3] at w3
    exact row_fin ho2 hE hcl R hP dh lS hne3 w1 w2 w3 (str_ext h5) h8 hp4 (Nat.le_trans hz (by decide)) hraw hrow (fun h' tk m' news' F N hs => hfin h' tk _ m' news' KtsTurn.refl F N hs) s2 hS2
noncomputable abbrev rowM (due name value told rune number text : Value) (m0 : PySem.Str → Option Value) : PySem.Str → Option Value := fun y => if y = Str.ofString "due" then some due else if y = Str.ofString "text" then some text else if y = Str.ofString "name" then some name else if y = Str.ofString "value" then some value else if y = Str.ofString "told" then some told else if y = Str.ofString "rune" then some rune else if y = Str.ofString "number" then some number else m0 y
theorem rowNs_nodup : rowNs.Nodup := by decide +kernel
theorem row_slots {due name value told rune number text : Value} {m0 : PySem.Str → Option Value} {u1 u2 u6 u7 : Vl} (h1 : u1.Is (some due)) (h2 : u2.Is (some text)) (h3 : u6.Is (some name)) (h4 : u7.Is (some rune)) {u8 : Vl} (h5 : u8.Is (some number)) :
    ∀ (i : Nat) (x : PySem.Str) (u : Vl), rowNs[i]? = some x → [u1, u2, u6, .no, .no, u7, u8][i]? = some u → u.Is (rowM due name value told rune number text m0 x) :=
  slots _ _ ⟨h1, h2, h3, trivial, trivial, h4, h5, trivial⟩
theorem row_rest (w : World) (R : RowT) (H : R.Ok) {oc : Value} {od an : Option Addr} {name qual : PySem.Str} {params : Arguments} {body : List Stmt} {scope : Scope} {dV kV doc pm cdv ct : Value} {osl : Array (Option Value)}
    (ho : (Mine.hd.heap_39 w.params).lookup 326 = some ⟨oc, od, .func (fnOf name qual params body scope dV kV doc pm an cdv ct), osl⟩)
    {p : Program} {loose : List PySem.Str} {mean : ExcName → Option Value} {mg mb : PySem.Str → Option Value} {dp un : Nat} {gd : Option (List Code)} {cn : PySem.Str} {cs : Scope} {a : Addr} {ccd : Value} {cl : List (PySem.Str × Addr)}
    {outer : List Env} {base g : Heap} {L L0 l D1 X X1 S : Addr} {m0 : PySem.Str → Option Value} {upd : Obj → List (Addr × Obj)} {s : Shared} {Q : Flow → Shared → Prop} {E : Value → Shared → Prop}
    {told text nm Tr Tn : PySem.Str} {kr kn : Int} {flr fln : Bool} {u1 u2 u3 u4 u5 u6 u7 u8 u9 u10 : Tok} {n0 : Nat} {val : Array UInt8} {oh os o : Obj} {vh : Option Value}
    (B : Below (ktrTop dp un gd cn cs L0 a ccd cl outer) base (envX cn cs L0 a ccd cl :: outer) g) (Xk : (Mine.hd.heap_39 w.params).In g) (T : Top p loose mean mg mb g) (XB : (Mine.hd.heap_39 w.params).In base) (TB : Top p loose mean mg mb base) (D : KtsDicts ((envX cn cs L0 a ccd cl :: outer).filterMap (·.frame)) g)
    (hd : dp + 70 < recursionLimit) (hu : un + 900 < cLine) (dh : oh.data = Data.cell vh)
    (F : Fr g L s.heap (rowM (.ref l) (.str nm u1) (.bytes val u2) (.str told u3) (.ref X1) (.ref X) (.str text u4) m0))
    (N : News g L s.heap ((l, W.listOf #[.ref D1] n0) :: (D1, tupO [.str (Str.ofString "text") u5, .str told u3, .int 0 u6, .bytes val u2]) :: (X, tupO [.str Tn u7, .int kn u8, .bool fln]) :: (X1, tupO [.str Tr u9, .int kr u10, .bool flr]) :: (L + 1 + 1, oh) :: (L + 1, os) :: (S, o) :: upd o))
    (lt : ∀ q ∈ (D1, tupO [.str (Str.ofString "text") u5, .str told u3, .int 0 u6, .bytes val u2]) :: (X, tupO [.str Tn u7, .int kn u8, .bool fln]) :: (X1, tupO [.str Tr u9, .int kr u10, .bool flr]) :: (L + 1 + 1, oh) :: (L + 1, os) :: (S, o) :: upd o, @LT.lt Nat _ q.1 l)
    (b1 : ∀ q ∈ (X, tupO [.str Tn u7, .int kn u8, .bool fln]) :: (X1, tupO [.str Tr u9, .int kr u10, .bool flr]) :: (L + 1 + 1, oh) :: (L + 1, os) :: (S, o) :: upd o, @LT.lt Nat _ q.1 D1) (lS : ∀ q ∈ (S, o) :: upd o, @LT.lt Nat _ q.1 (L + 1 + 1))
    (h1 : told.cps.toList = 34 :: flatT R.ps ++ [34]) (h2 : text.cps.toList = 34 :: flatT R.ps ++ [34, 32]) (h3 : nm.cps.toList = R.nm) (h4 : Tr.cps.toList = R.rl) (h5 : Tn.cps.toList = R.ah ++ R.c :: R.l) (h6 : val = bts (flatB R.ps)) (h7 : kr = R.rv) (h8 : kn = valOf R.b (R.c :: R.l)) (h9 : fln = decide (100 < R.l.length + 1))
    (z2 : text.length ≤ 1020) (z3 : nm.length ≤ 1010) (z4 : Tr.length ≤ 10) (z5 : Tn.length ≤ 103)
    (hE : ∀ e s', wpAny (model PySem.Challenge.pw_pf0076_01 w) ((ktrTop dp un gd cn cs L0 a ccd cl outer).deeper (envOfC qual scope L 326 cdv)) (leaving (envOfC qual scope L 326 cdv) e) (fun _ _ => False) (fun _ _ => False) s' → E e s')
    (hfin : ∀ h' tk g' m' news', KtsTurn ((envX cn cs L0 a ccd cl :: outer).filterMap (·.frame)) g g' → Fr g' L h' m' → News g' L h' news' → (∀ q ∈ (S, o) :: upd o, q ∈ news') → Q (.ret (.bool true)) { s with heap := h', toks := tk }) :
    wpR (model PySem.Challenge.pw_pf0076_01 w) ((ktrTop dp un gd cn cs L0 a ccd cl outer).deeper (envOfC qual scope L 326 cdv)) (execs (body.drop 5) (envOfC qual scope L 326 cdv)) Q E s := by
  have ho2 := ho
  obtain ⟨-, -, f5⟩ := fn_inj ho (show (Mine.hd.heap_39 w.params).lookup 326 = some ⟨_, _, .func (fnOf _ _ _ _ _ _ _ _ _ _ _ _), _⟩ by k_is)
  have he : envOfC qual scope L 326 cdv = envX qual scope L 326 cdv [(Str.ofString "here", L + 1 + 1), (Str.ofString "source", L + 1)] := by subst f5; rfl
  rw [he] at hE ⊢
  subst f5
  clear he
  clear ho
  have hkd : ∀ l' l'' : List (Addr × Obj), l' = (X, tupO [.str Tn u7, .int kn u8, .bool fln]) :: (X1, tupO [.str Tr u9, .int kr u10, .bool flr]) :: (L + 1 + 1, oh) :: (L + 1, os) :: (S, o) :: upd o → l'' = (X, tupO [.str Tn u7, .int kn u8, .bool fln]) :: (X1, tupO [.str Tr u9, .int kr u10, .bool flr]) :: (L + 1 + 1, oh) :: (L + 1, os) :: (S, o) :: upd o → l'.map (·.1) = l''.map (·.1) := fun _ _ h h' => h ▸ h' ▸ rfl
  refine row_go (C := ⟨w, p, loose, mean, mg, mb, dp + 1, un + 3, gd, qual, L, 326, cdv, envX cn cs L0 a ccd cl :: outer, ktrTop dp un gd cn cs L0 a ccd cl outer, base, g, (fun l' => l' = (X, tupO [.str Tn u7, .int kn u8, .bool fln]) :: (X1, tupO [.str Tr u9, .int kr u10, .bool flr]) :: (L + 1 + 1, oh) :: (L + 1, os) :: (S, o) :: upd o), s, [(Str.ofString "here", L + 1 + 1), (Str.ofString "source", L + 1)], .inl fun _ h => h, B, Xk, T, rfl, by omega, by omega, rowNs_nodup, hkd⟩) ho2 (fun e s' h => hE e s' (wpAny_mono h (fun _ _ h => by obtain ⟨_, _, _, h, _⟩ := h; exact h.elim) fun _ _ h => h)) rfl R H XB TB D (fun _ h => h) dh lS
    (Nat.ne_of_lt (lt _ (.head _))) (h6 ▸ .mk _ _ _ _ _ _ _ _ (.bytes _ _)) h1 h2 h3 h4 h5 h7 h8 h9 z2 z3 z4 z5 hfin s ⟨_, rfl, ⟨rfl, rfl, rfl⟩, ⟨_, F, row_slots (u1 := .val (.ref l)) (u2 := .str text) (u6 := .str nm) (u7 := .val (.ref X1)) (u8 := .val (.ref X)) rfl ⟨_, rfl⟩ ⟨_, rfl⟩ rfl rfl⟩, N, fun q hq => ?_⟩
  exact List.forall_mem_cons.mpr ⟨lt q (.tail _ hq), List.forall_mem_cons.mpr ⟨b1 q hq, List.forall_mem_nil _⟩⟩

end
section
noncomputable abbrev lettersS : PySem.Str := Str.ofString "GHIJLNOPRSTUVYACDEFabcdefghijklmnopqrstuvwxyz_"
noncomputable abbrev pcB (p : Pc) : List Int := if p.fl = true then [p.k] else octs p.k
noncomputable abbrev pcU (p : Pc) : List Nat × Int × Bool := (p.T.cps.toList, p.k, p.fl)
theorem flatT_pcs : ∀ ps : List Pc, flatT (ps.map pcU) = (ps.map Pc.T).flatMap fun x => x.cps.toList
  | [] => rfl
  | p :: ps => by
    have := flatT_pcs ps
    simp only [flatT, List.map_cons, List.flatMap_cons] at this ⊢
    rw [this]
theorem flatB_pcs : ∀ ps : List Pc, flatB (ps.map pcU) = (ps.map pcB).flatten
  | [] => rfl
  | p :: ps => by
    have := flatB_pcs ps
    simp only [flatB, List.map_cons, List.flatMap_cons, List.flatten_cons] at this ⊢
    rw [this]
theorem flat_ones : ∀ cs : List Nat, ((cs.map fun c => (⟨#[c]⟩ : PySem.Str)).flatMap fun x => x.cps.toList) = cs
  | [] => rfl
  | c :: cs => by rw [List.map_cons, List.flatMap_cons, flat_ones cs]; rfl
theorem row_ok {ps : List Pc} (hok : ∀ p ∈ ps, p.Ok 34) {T1 : PySem.Str} {k1 : Int} {f1 : Bool} (h1 : Unit1 39 T1.cps.toList k1 f1) {cs : List Nat} (hn : cs.length = 5) (hcs : ∀ c ∈ cs, c ∈ lettersS.cps.toList) {J : PySem.Str} (hJ : J.cps.toList = (cs.map fun c => (⟨#[c]⟩ : PySem.Str)).flatMap fun x => x.cps.toList)
    {T : PySem.Str} {k : Int} {fl : Bool} {ah : List Nat} {bs : Int} {c : Nat} {l : List Nat} (hnum : NumT T k fl ah bs c l) :
    RowT.Ok { ps := ps.map pcU, rl := T1.cps.toList, rv := k1, rb := f1, nm := (J ++ Str.ofString "Z").cps.toList, ah := ah, b := bs, c := c, l := l } := by
  have hJ2 : (J ++ Str.ofString "Z").cps.toList = cs ++ [90] := by rw [app_list, hJ, flat_ones, show (Str.ofString "Z").cps.toList = [90] by decide +kernel]
  have key : ∀ c ∈ lettersS.cps.toList, c ∈ beginS.cps.toList ∧ c ∈ nameS.cps.toList := by decide +kernel
  refine ⟨?_, h1, ?_, ?_, ?_, hnum.A, hnum.hc, hnum.hl, hnum.h10⟩
  · intro p hp
    obtain ⟨q, hq, rfl⟩ := List.mem_map.mp hp
    exact (hok q hq).h
  · dsimp only
    rw [hJ2]
    cases cs with
    | nil => cases hn
    | cons d r => exact ⟨d, r ++ [90], rfl, (key d (hcs d (.head _))).1⟩
  · dsimp only
    rw [hJ2]
    simp
  · dsimp only
    rw [hJ2]
    intro d hd
    rcases List.mem_append.mp hd with hd | hd
    · exact (key d (hcs d hd)).2
    · rw [List.mem_singleton.mp hd]; decide +kernel
theorem upd_low {S : Addr} {o : Obj} {news : List (Addr × Obj)} {upd : Obj → List (Addr × Obj)} {o' : Obj} {L : Addr} (U : UpdF S o news upd) (h0 : @LT.lt Nat _ S L) (h : AllLt L news) : ∀ q ∈ (S, o') :: upd o', @LT.lt Nat _ q.1 L := fun q hq => by
  rcases List.mem_cons.mp hq with rfl | hq
  · exact h0
  · obtain ⟨r, hr, er⟩ := UpdF.addr U q hq
    exact er ▸ ktn_ltOf h r hr

end
section
example : True := by
  w_top off
  k_with_none
  (k_with "exec Raise some none" => (k_here; k_dflt (refine' Raise_fault ?k1 ?k2 ?_; (case k1 => k_asm); (case k2 => k_asm); k_whole)))
  (k_with "call ref" => (k_here; (with_reducible show wpAny _ _ (call (Value.ref 52) _) _ _ _); k_dflt (refine' fault ?k1 ?k2 ?k3 ?k4 ?k5 ?k6 ?k7 ?k8 ?_; (case k1 => k_asm); (case k2 => k_asm); (case k3 => k_asm); (case k4 => k_asm); (case k5 => k_asm); (case k6 => first | assumption | exact rfl); (case k7 => k_extra "my_room"); (case k8 => k_extra "my_room"); k_whole); intro h' e' tk' F' M'; (try k_sweep)))
  (k_with "FaultQ" => (refine ⟨_, _, _, _, rfl, by assumption, by assumption, ?_⟩))
  (k_with "leaving ref" => (k_here; first | (refine' leave_first ?k1 ?k2 ?k3 ?k4 ?_; (case k3 => assumption); (case k1 => assumption); (case k2 => assumption); (case k4 => exact rfl); k_whole; intro h' R') | (refine' leave_next ?k1 ?k2 ?k3 ?_; (case k3 => assumption); (case k1 => assumption); (case k2 => assumption); k_whole; intro h' R')))
  (k_with "k_ne" => first | with_reducible assumption | exact Ne.symm (by with_reducible assumption) | exact Nat.ne_of_gt (by with_reducible assumption) | exact Nat.ne_of_lt (by with_reducible assumption) | exact Ne.symm (And.left (by k_extra "k_cj0")) | exact Nat.ne_of_gt (And.left (by k_extra "k_cj0")) | exact And.left (by k_extra "k_cj0"))
  (k_with "k_cj0" => first | with_reducible assumption | exact And.right (by k_extra "k_cj1"))
  (k_with "k_cj1" => first | with_reducible assumption | exact And.right (by k_extra "k_cj2"))
  (k_with "k_cj2" => first | with_reducible assumption | exact And.right (by k_extra "k_cj3"))
  (k_with "k_cj3" => first | with_reducible assumption | exact And.right (by k_extra "k_cj4"))
  (k_with "k_cj4" => first | with_reducible assumption | exact And.right (by k_extra "k_cj5"))
  (k_with "k_cj5" => first | with_reducible assumption | exact And.right (by k_extra "k_cj6"))
  (k_with "k_cj6" => first | with_reducible assumption | exact And.right (by k_extra "k_cj7"))
  (k_with "k_cj7" => first | with_reducible assumption | exact And.right (by k_extra "k_cj8"))
  (k_with "k_cj8" => first | with_reducible assumption | exact And.right (by k_extra "k_cj9"))
  (k_with "k_cj9" => first | with_reducible assumption | exact And.right (by with_reducible assumption))
  (k_with "my_args" => ((case kB => k_asm); (case kF => k_asm); (case kX => k_asm); (case kN => k_asm); (case kT => k_asm); (case kK => first | assumption | exact rfl); (case kd => k_extra "my_room"); (case ku => k_extra "my_room")))
  (k_with "my_back" => (intro v' nw' h' tk' hR' F' N' l1; cases hR'; (try simp only [List.nil_append, List.cons_append] at N'); (try k_sweep); (try k_fold)))
  (k_with "my_side" => first | assumption | omega | exact rfl | (show (1 : Nat) ≤ 1048576; decide))
  (k_with "my_led" => (refine List.forall_mem_cons.mpr ⟨?a, List.forall_mem_nil _⟩; k_mem))
  (k_with "my_updG" => first | exact UpdG.head | (refine' UpdG.tail ?a ?b; (case a => k_ne); (case b => k_extra "my_updG")))
  (k_with "my_ledS" => first | exact List.forall_mem_nil _ | (refine List.forall_mem_cons.mpr ⟨⟨?a, ?b⟩, List.forall_mem_nil _⟩; (case a => k_mem); (case b => k_ne)))
  (k_with "my_backS" => (intro v' nw' o' h' tk' hR' F' N' U' l1; cases hR'; (try dsimp only at N'); (try simp only [List.nil_append, List.cons_append] at N'); (try k_sweep); (try k_fold)))
  (k_with "my_sideS" => first | with_reducible assumption | omega | decide)
  (k_with "my_andR" => first | exact by with_reducible assumption | exact And.right (by with_reducible assumption) | exact And.right (And.right (by with_reducible assumption)) | exact And.right (And.right (And.right (by with_reducible assumption))) | exact And.right (And.right (And.right (And.right (by with_reducible assumption)))) | exact And.right (And.right (And.right (And.right (And.right (by with_reducible assumption))))) | exact And.right (And.right (And.right (And.right (And.right (And.right (by with_reducible assumption)))))) | exact And.right (And.right (And.right (And.right (And.right (And.right (And.right (by with_reducible assumption))))))) | exact And.right (And.right (And.right (And.right (And.right (And.right (And.right (And.right (by with_reducible assumption)))))))) | exact And.right (And.right (And.right (And.right (And.right (And.right (And.right (And.right (And.right (by with_reducible assumption))))))))) | exact And.right (And.right (And.right (And.right (And.right (And.right (And.right (And.right (And.right (And.right (by with_reducible assumption)))))))))) | exact And.right (And.right (And.right (And.right (And.right (And.right (And.right (And.right (And.right (And.right (And.right (by with_reducible assumption))))))))))) | exact And.right (And.right (And.right (And.right (And.right (And.right (And.right (And.right (And.right (And.right (And.right (And.right (by with_reducible assumption)))))))))))) | exact And.right (And.right (And.right (And.right (And.right (And.right (And.right (And.right (And.right (And.right (And.right (And.right (And.right (by with_reducible assumption))))))))))))) | exact And.right (And.right (And.right (And.right (And.right (And.right (And.right (And.right (And.right (And.right (And.right (And.right (And.right (And.right (by with_reducible assumption)))))))))))))) | exact And.right (And.right (And.right (And.right (And.right (And.right (And.right (And.right (And.right (And.right (And.right (And.right (And.right (And.right (And.right (by with_reducible assumption))))))))))))))))
  (k_with "my_enterTC" => (refine' code_defTC ?k1 ?k2 ?k3 ?k4 ?k5 ?kXB ?kTB ?kDD ?kT0 ?kA ?kF ?kK ?k6 ?k7 ?k8 ?k9 ?kB ?kD ?_ ?c2 ?c3 ?c4; (case kA => exact rfl); (case kF => exact rfl); (case kK => first | assumption | exact rfl); (case k1 => k_asm); (case k2 => k_asm); (case k3 => k_asm); (case k4 => k_asm); (case k5 => k_asm); (case kXB => assumption); (case kTB => assumption); (case kDD => assumption); (case kT0 => first | assumption | exact KtsTurn.refl); (case k6 => k_is); (case k7 => k_is); (case k8 => k_extra "my_room"); (case k9 => first | exact BindsTo.of_eq rfl | exact binds_K (by k_in) rfl (by k_is) rfl rfl rfl); (case kB => exact rfl); (case kD => decide +kernel); (case c2 => exact rfl); (case c3 => exact rfl); (case c4 => exact rfl); k_whole; intro g' L' h' tk' cells' FG' F' N' Y' B' X' T' D' l1; (try k_lt l1); k_cells Y'; (try simp only [List.cons_append, List.nil_append] at N'); (try dsimp only); (try k_fold)))
  (k_with "my_backX" => (intro v' nw' o' h' tk' hR' F' N' U' l1; cases hR'; (try dsimp only at N'); (try simp only [List.nil_append, List.cons_append] at N'); (try simp only [List.forall_mem_cons, List.not_mem_nil, false_implies, implies_true, and_true] at l1); (try k_sweep); (try k_fold)))
  (k_with "my_room" => first | exact room9 (by with_reducible assumption) (by exact rfl) | exact room8 (by with_reducible assumption) (by exact rfl) | exact room7 (by with_reducible assumption) | ktr_room | ktr_units)
  trivial
example : True := by
  (k_with "call ref" => (k_here; (with_reducible show wpAny _ _ (call (Value.ref 279) _) _ _ _); k_dflt (refine' CtrS.use (law_take_c _ _ _ _ _ _ _ _ _ ?s1 ?s2 ?s3 ?s4) ?kB ?kF ?kX ?kN ?kT ?kK ?kd ?ku ?kU ?kG ?kL ?_; k_extra "my_args"; (case kU => with_reducible assumption); (case kG => k_extra "my_updG"); (case kL => k_extra "my_ledS"); (case s1 => k_extra "my_sideS"); (case s2 => k_extra "my_sideS"); (case s3 => k_extra "my_sideS"); (case s4 => k_extra "my_sideS"); k_extra "my_backS")))
  trivial
theorem law_piece34_c (w : World) (S : Addr) (a b : Int) (t1 t2 tq : Tok) (n : Nat) (ha : 0 ≤ a) (hb : 0 ≤ b) : CtrS w 307 [.ref S, .str (Str.ofString "\"") tq] 8 120 S (W.listOf #[.int a t1, .int b t2] n) [] (RPiece 34) := law_piece_c w S _ 34 a b t1 t2 tq n ha hb (by decide +kernel) (.inl rfl)
theorem law_piece39_c (w : World) (S : Addr) (a b : Int) (t1 t2 tq : Tok) (n : Nat) (ha : 0 ≤ a) (hb : 0 ≤ b) : CtrS w 307 [.ref S, .str (Str.ofString "'") tq] 8 120 S (W.listOf #[.int a t1, .int b t2] n) [] (RPiece 39) := law_piece_c w S _ 39 a b t1 t2 tq n ha hb (by decide +kernel) (.inr rfl)
theorem law_letter_c (w : World) (S : Addr) (a b : Int) (t1 t2 t3 : Tok) (n : Nat) (ha : 0 ≤ a) (hb : 0 ≤ b) : CtrS w 286 [.ref S, .str (Str.ofString "GHIJLNOPRSTUVYACDEFabcdefghijklmnopqrstuvwxyz_") t3] 3 60 S (W.listOf #[.int a t1, .int b t2] n) [] (RPickS lettersS) := law_oneS_c w S _ a b t1 t2 t3 n ha hb (by decide +kernel) (by decide +kernel)
example : True := by
  (k_with "call ref" => (k_here; (with_reducible show wpAny _ _ (call (Value.ref 286) _) _ _ _); k_dflt (refine' CtrS.useX (law_letter_c _ _ _ _ _ _ _ _ ?s1 ?s2) ?kB ?kF ?kX ?kN ?kT ?kK ?kd ?ku ?kU ?kG ?kL ?_; k_extra "my_args"; (case kU => with_reducible assumption); (case kG => k_extra "my_updG"); (case kL => k_extra "my_ledS"); (case s1 => k_extra "my_sideS"); (case s2 => k_extra "my_sideS"); k_extra "my_backX")))
  (k_with "call ref" => (k_here; (with_reducible show wpAny _ _ (call (Value.ref 314) _) _ _ _); k_dflt (refine' CtrS.useX (law_number_c _ _ _ _ _ _ _ ?s1 ?s2) ?kB ?kF ?kX ?kN ?kT ?kK ?kd ?ku ?kU ?kG ?kL ?_; k_extra "my_args"; (case kU => with_reducible assumption); (case kG => k_extra "my_updG"); (case kL => k_extra "my_ledS"); (case s1 => k_extra "my_sideS"); (case s2 => k_extra "my_sideS"); k_extra "my_backX")))
  (k_with "call ref" => (k_here; (with_reducible show wpAny _ _ (call (Value.ref 307) _) _ _ _); k_dflt (refine' CtrS.useX (law_piece39_c _ _ _ _ _ _ _ _ ?s1 ?s2) ?kB ?kF ?kX ?kN ?kT ?kK ?kd ?ku ?kU ?kG ?kL ?_; k_extra "my_args"; (case kU => with_reducible assumption); (case kG => k_extra "my_updG"); (case kL => k_extra "my_ledS"); (case s1 => k_extra "my_sideS"); (case s2 => k_extra "my_sideS"); k_extra "my_backX")))
  (k_with "call ref" => (k_here; (with_reducible show wpAny _ _ (call (Value.ref 307) _) _ _ _); k_dflt (refine' CtrS.use (law_piece34_c _ _ _ _ _ _ _ _ ?s1 ?s2) ?kB ?kF ?kX ?kN ?kT ?kK ?kd ?ku ?kU ?kG ?kL ?_; k_extra "my_args"; (case kU => with_reducible assumption); (case kG => k_extra "my_updG"); (case kL => k_extra "my_ledS"); (case s1 => k_extra "my_sideS"); (case s2 => k_extra "my_sideS"); k_extra "my_backS")))
  (k_with "k_mem" => first | exact List.Mem.head _ | (refine' List.Mem.tail _ ?_; k_mem) | (refine List.mem_append_right _ ?_; k_mem))
  (k_with "my_updG" => first | exact UpdG.head | (refine' UpdG.tail ?a ?b; (case a => k_ne); (case b => k_extra "my_updG")) | (refine' UpdG.app ?a ?b; (case a => with_reducible assumption); (case b => k_extra "my_updG")))
  (k_with "exec Assign cons ListComp" => (k_here; k_dflt (refine Assign_ListComp_D (F₀ := by k_asm) (by rfl) (by with_unfolding_all rfl) (by with_unfolding_all rfl) (by decide) (by rfl) (by decide) (by rfl) (by rfl) (by rfl) ?_ (by intro _; rfl))))
  (k_with "call ref" => (k_here; (with_reducible show wpAny _ _ (call (Value.ref 293) _) _ _ _); k_dflt (refine' Ctr.use (law_octets_c _ _ _ ?s1 ?s2) ?kB ?kF ?kX ?kN ?kT ?kK ?kd ?ku ?kL ?_ ?_; k_extra "my_args"; (case kL => first | exact List.forall_mem_nil _ | k_extra "my_led"); (case s1 => k_extra "my_side"); (case s2 => k_extra "my_side"); (exact fun _ _ _ _ _ hX => hX.elim)); k_extra "my_back"))
  (k_with "my_side" => with_reducible assumption)
  (k_with "getMethod bytes" => (k_here; with_reducible refine meth_by_join ?_))
  trivial
theorem joined_bts (l : List (List Int)) : Builtin.Bytes.joined #[] (l.map bts) = bts l.flatten := by
  have key : ∀ (l : List (List Int)) (k : Nat) (acc : List Int), ((l.map bts).zipIdx k).foldl (fun out (x : Array UInt8 × Nat) => (if x.2 > 0 then out ++ (#[] : Array UInt8) else out) ++ x.1) (bts acc) = bts (acc ++ l.flatten) := by
    intro l
    induction l with
    | nil => intro k acc; simp
    | cons a l ih =>
      intro k acc
      rw [List.map_cons, List.zipIdx_cons, List.foldl_cons]
      have e : (if (bts a, k).2 > 0 then bts acc ++ (#[] : Array UInt8) else bts acc) ++ (bts a, k).1 = bts (acc ++ a) := by
        simp [bts]
      rw [e, ih]
      simp
  have := key l 0 []
  unfold Builtin.Bytes.joined
  simpa [bts] using this
theorem sizes_bts (l : List (List Int)) : (l.map bts).toArray.foldl (fun x y => x + y.size) 0 = l.flatten.length := by
  have key : ∀ (l : List (List Int)) (k : Nat), (l.map bts).foldl (fun x y => x + y.size) k = k + l.flatten.length := by
    intro l
    induction l with
    | nil => intro k; simp
    | cons a l ih => intro k; rw [List.map_cons, List.foldl_cons, ih]; simp [bts]; omega
  simpa using key l 0
theorem join_bytesK {prog : Program} {w : World} {A : Around} {E : Value → Shared → Prop} {s : Shared} {h₀ : Heap} {L D : Addr} {news : List (Addr × Obj)} {ys : List Value} {l : List (List Int)} {t : Tok} {n : Nat} {Q : Value → Shared → Prop} (N : News h₀ L s.heap news) (hm : (D, W.listOf ys.toArray n) ∈ news) (hs : BytesAre ys (l.map bts)) (hB : l.flatten.length ≤ 1000)
    (h : ∀ t k, Q (.bytes (bts l.flatten) t) { s with toks := k }) : wpAny (model prog w) A (call (.builtin "bytes.join") [.bytes #[] t, .ref D]) Q E s :=
  join_bytes (items := ys.toArray) ⟨_, (N _ hm).1, rfl, _, rfl⟩ (by simpa using hs) (by rw [joined_bts, bts_size, sizeLine_eq]; omega) (by rw [sizes_bts, sizeLine_eq]; omega) (by rw [joined_bts]; exact h)
theorem pcB_len (p : Pc) : (pcB p).length ≤ 4 := by unfold pcB; split; (· exact Nat.le_of_ble_eq_true rfl); exact octs_len _
theorem pcs_len : ∀ ps : List Pc, (ps.map pcB).flatten.length ≤ 4 * ps.length
  | [] => by simp
  | p :: ps => by have := pcs_len ps; have := pcB_len p; rw [List.map_cons, List.flatten_cons, List.length_append, List.length_cons]; omega
theorem all2_bytes {ps : List Pc} {ys : List Value} (H : All2 (fun (p : Pc) y => ∃ t, y = .bytes (bts (pcB p)) t) ps ys) : BytesAre ys ((ps.map pcB).map bts) := by
  induction H with
  | nil => exact .nil
  | cons h t ih => obtain ⟨u, rfl⟩ := h; exact .cons _ _ ih
theorem one_byte {k : Int} (h0 : 0 ≤ k) (h1 : k ≤ 255) : ∀ n ∈ [k], 0 ≤ n ∧ n < 256 := fun n hn => by rw [List.mem_singleton.mp hn]; omega
example : True := by
  (k_with "subscriptTail" => (k_here; (with_reducible show wpAny _ _ (subscriptTail _ _ (Value.ref _) (Value.int _ _)) _ _ _); k_dflt (first | (refine' tupK ?N ?m ?a ?b ?j ?x ?_ (by with_unfolding_all rfl); (case N => k_asm); (case m => k_mem); (case a => decide); (case b => decide); (case j => rfl); (case x => rfl)) | (refine' pickR ?N ?m ?a ?b ?v ?_ (by with_unfolding_all rfl); (case N => k_asm); (case m => k_mem); (case a => decide); (case b => decide); (case v => rfl)))))
  (k_with "subscriptTail Name" => (k_here; (with_reducible show wpAny _ _ (subscriptTail _ _ (Value.ref _) (Value.int _ _)) _ _ _); k_dflt (first | (refine' tupK ?N ?m ?a ?b ?j ?x ?_ (by with_unfolding_all rfl); (case N => k_asm); (case m => k_mem); (case a => decide); (case b => decide); (case j => rfl); (case x => rfl)) | (refine' pickR ?N ?m ?a ?b ?v ?_ (by with_unfolding_all rfl); (case N => k_asm); (case m => k_mem); (case a => decide); (case b => decide); (case v => rfl)))))
  (k_with "subscriptTail Subscript" => (k_here; (with_reducible show wpAny _ _ (subscriptTail _ _ (Value.ref _) (Value.int _ _)) _ _ _); k_dflt (first | (refine' tupK ?N ?m ?a ?b ?j ?x ?_ (by with_unfolding_all rfl); (case N => k_asm); (case m => k_mem); (case a => decide); (case b => decide); (case j => rfl); (case x => rfl)) | (refine' pickR ?N ?m ?a ?b ?v ?_ (by with_unfolding_all rfl); (case N => k_asm); (case m => k_mem); (case a => decide); (case b => decide); (case v => rfl)))))
  (k_with "call builtin:list.append" => (with_reducible refine Hold.out ?_))
  (k_with "exec Assign" => ((with_reducible show wpAny _ _ (exec (Stmt.Assign [Expr.Tuple _ _ _] _ _) _) _ _ _); refine Assign_Tuple_swapped ?_ (by exact rfl) (by exact rfl)))
  (k_with "eval ListComp" => (k_here; k_dflt (refine LCg.ListComp_U (F₀ := by k_asm) (by rfl) (by decide) (by rfl) (by decide) (by rfl) ?_)))
  (k_with "CompSrc" => (k_here; k_dflt (first | (refine LCg.CompSrc.ledger (by rfl) (by k_asm) (by k_asm) (by k_mem) (by rw [List.size_toArray, List.length_map, sizeLine_eq]; first | exact len4 (by with_reducible assumption) | omega) ?_; intro g') | (refine LCg.CompSrc.range (by rfl) (by k_asm) (by k_asm) (by assumption) (by first | decide | rfl) (by first | rfl | decide) (by first | size_fits | exact Nat.le_of_ble_eq_true rfl) ?_; intro g'; with_reducible refine Hold.out ?_))))
  (k_with "call builtin:str.join" => (k_here; (with_reducible rename StrsAre _ _ => hs9); k_dflt (refine' join_gen ?N ?m hs9 10 ?b ?c ?_; (case N => k_asm); (case m => k_mem); (case b => k_extra "my_joinB"); (case c => k_extra "my_joinC")); intro J' t' k' hJ' hJl'))
  (k_with "my_joinB" => (intro x hx; obtain ⟨q, hq, hqe⟩ := List.mem_map.mp hx; rw [← hqe]; (first | exact Nat.le_of_ble_eq_true rfl | exact (‹∀ p ∈ _, Pc.Ok 34 p› q hq).hl)))
  (k_with "my_joinC" => (rw [List.length_map]; first | exact Nat.le_trans (Nat.mul_le_mul_right 10 (by with_reducible assumption)) (Nat.le_of_ble_eq_true rfl) | omega))
  (k_with "FinE" => ((unfold LCg.FinE); intro D' h' tk' F' N' o1'; (try simp only [LCg.Off1, off1_app, and_true] at o1'); (try simp only [List.nil_append, List.cons_append] at N'); (try dsimp only)))
  (k_with "FinA" => ((unfold LCg.FinA); intro D' h' tk' F' N' o1'; (try simp only [LCg.Off1, off1_app, and_true] at o1'); (try simp only [List.nil_append, List.cons_append] at N'); (try dsimp only)))
  (k_with "call type:bytes" => (k_here; (with_reducible show wpAny _ _ (call (Value.type _) [Value.ref _]) _ _ _); k_dflt (refine' bytes_K (ns := [_]) ?F ?N ?l ?i ?r ?z ?h ?_; (case F => k_asm); (case N => k_asm); (case l => is_list); (case i => exact IntsAre.cons _ _ IntsAre.nil); (case r => exact one_byte (by with_reducible assumption) (by with_reducible assumption)); (case z => size_fits); (case h => with_unfolding_all rfl); k_whole); intro h' t' k' F' N' hB'; (try k_sweep)))
  (k_with "call builtin:bytes.join" => (k_here; (with_reducible rename BytesAre _ _ => hs9); k_dflt (refine' join_bytesK ?N ?m hs9 ?b ?_; (case N => k_asm); (case m => k_mem); (case b => with_reducible assumption)); intro t' k'))
  trivial
theorem q34 : (Str.ofString "\"").cps.toList = [34] := by decide +kernel
theorem q34l : (Str.ofString "\"").length = 1 := by decide +kernel
theorem len5 {n : Nat} {k : Int} (h0 : 0 ≤ k) (h1 : k < 5) (h : n = k.toNat) : n ≤ 4 := by omega
theorem len4 {n : Nat} (h : n ≤ 4) : n ≤ 16777216 := Nat.le_trans h (Nat.le_of_ble_eq_true rfl)
theorem row_right_c (w : World) (S : Addr) (a b : Int) (t1 t2 : Tok) (n : Nat) (ha : 0 ≤ a) (hb : 0 ≤ b) : CtrTS w 326 [.ref S] 70 900 S (W.listOf #[.int a t1, .int b t2] n) RTrue := by
  intro p loose mean mg mb dp un gd cn cs a' ccd cl outer A₀ base' h₀ g₀ L m news upd s Q E B F X XB N0 T TB D T0 hk hd hu U0 hret
  have N : News h₀ L s.heap ((S, W.listOf #[.int a t1, .int b t2] n) :: news) := fun q hq => (List.mem_cons.mp hq).elim (fun e => e ▸ N0 _ (UpdF.mem U0)) (N0 q)
  clear N0
  have U := U0
  refine wpR_call ?_
  k_dflt k_extra "my_enterTC"
  (rename _ ∧ AllLt _ news => hSL0)
  have hS1 := Nat.ne_of_gt (Nat.lt_succ_of_lt hSL0.1)
  have hS2 := Nat.ne_of_gt (Nat.lt_succ_of_lt (Nat.lt_succ_of_lt hSL0.1))
  refine gen_QER ?_
  intro Q9 E9 hq9 he9
  refine wpR_clean ?_
  k_steps
  (rename IsRange _ _ _ _ _ _ _ _ => hR9)
  refine SrcD.up (by rfl) (by k_asm) (by k_asm) hR9 (by with_reducible assumption) (by omega) ?_
  intro g9
  refine comp_pieces 34 (by with_reducible assumption) (by with_reducible assumption) (by with_reducible assumption) ?_ ?_
  · intro ps a9 b9 t9 u9 c9 I oI C oC D m₂ h9 tk9 E9 ha9 hb9 U9 hS9 hC9 F9 N9 off9 ne9 nS9
    k_steps
    exact pc_end U9 (by with_reducible assumption) off9 (by with_reducible assumption) (by assumption) (by assumption) (by with_reducible assumption) (by with_reducible assumption) (by with_reducible assumption) (by with_reducible assumption) (by with_reducible assumption) (by with_reducible assumption) (by with_reducible assumption)
  · intro ps a9 b9 t9 u9 c9 hn9 hok9 hS9 ha9 hb9 U9
    have hn5 : ps.length ≤ 4 := len5 (by with_reducible assumption) (by with_reducible assumption) hn9
    k_steps
    dsimp only [ThenR]
    refine wpR_clean ?_
    k_steps
    refine comp_over (fun (p : Pc) y => ∃ t, y = .str p.T t) (.inr ⟨_, by k_mem, rfl, _, rfl⟩) (fun q9 hq9 => List.mem_cons_of_mem _ (List.mem_append.mpr (.inl (List.mem_map_of_mem hq9)))) ?_ ?_
    · intro p9 hp9 ys I oI C oC D m₂ h9 tk9 E9 hC9 hx9 F9 N9 off9 ne9
      k_steps
      exact Hold.mk ⟨_, _, _, rfl, by with_reducible assumption, by with_reducible assumption, fun q9 hq9 => List.mem_cons_of_mem _ hq9, _, rfl⟩
    · intro ys hys
      have hstr := all2_strs hys
      k_steps
      dsimp only [ThenR]
      refine wpR_clean ?_
      k_steps
      refine comp_over (fun (p : Pc) y => ∃ t, y = .bytes (bts (pcB p)) t) (.inr ⟨_, by k_mem, rfl, _, rfl⟩) (fun q9 hq9 => by (repeat' (first | (exact List.mem_append.mpr (.inl (List.mem_map_of_mem hq9))) | refine List.mem_cons_of_mem _ ?_))) ?_ ?_
      · intro p9 hp9 ys I oI C oC D m₂ h9 tk9 E9 hC9 hx9 F9 N9 off9 ne9
        have hok := hok9 p9 hp9
        obtain ⟨X9, T9, k9, fl9, u1, u2⟩ := p9
        have hk0 : 0 ≤ k9 := hok.h0
        have hk1 : k9 ≤ 1114111 := hok.h1
        have hk2 : fl9 = true → k9 ≤ 255 := hok.h2
        clear hok
        dsimp only [Pc.led] at hx9 N9
        cases fl9
        · clear hk2
          k_steps
          exact Hold.mk ⟨_, _, _, rfl, by with_reducible assumption, by with_reducible assumption, (fun q9 hq9 => by (repeat' (first | (with_reducible exact hq9) | refine List.mem_cons_of_mem _ ?_))), _, rfl⟩
        · have hk3 := hk2 rfl
          clear hk2
          k_steps
          exact Hold.mk ⟨_, _, _, rfl, by with_reducible assumption, by with_reducible assumption, (fun q9 hq9 => by (repeat' (first | (with_reducible exact hq9) | refine List.mem_cons_of_mem _ ?_))), _, rfl⟩
      · intro ys hys
        have hby := all2_bytes hys
        have hbl : (ps.map pcB).flatten.length ≤ 1000 := Nat.le_trans (pcs_len ps) (Nat.le_trans (Nat.mul_le_mul_left 4 hn5) (Nat.le_of_ble_eq_true rfl))
        k_steps
        dsimp only [ThenR]
        refine wpR_clean ?_
        k_steps
        refine Hold.mk ?_
        refine' comp_S (S := S) (upd := upd) (isOne lettersS) ?U ?G ?ha ?hb ?_ ?_
        (case G => k_extra "my_updG")
        (case U => with_reducible assumption)
        (case ha => with_reducible assumption)
        (case hb => with_reducible assumption)
        · intro ys a10 b10 t10 u10 c10 I oI C oC D m₂ h9 tk9 E9 ha10 hb10 U10 hC9 F9 N9 nS9
          (try dsimp only at N9)
          k_steps
          exact Hold.mk ⟨_, _, _, _, _, _, _, _, rfl, by with_reducible assumption, by with_reducible assumption, (fun q9 hq9 => hq9), by with_reducible assumption, by with_reducible assumption, by with_reducible assumption, by refine one_of ?_ ?_ <;> with_reducible assumption⟩
        · intro ys a10 b10 t10 u10 c10 hn10 hr10 ha10 hb10 U10
          obtain ⟨chs, hcs1, hcs2, hcs3⟩ := ones_strs hr10
          have hn11 : chs.length = 5 := hcs1.trans hn10
          clear hn10 hcs1
          (try dsimp only)
          k_steps
          dsimp only [ThenR]
          refine wpR_clean ?_
          k_steps
          dsimp only [ThenR]
          (rename News _ _ _ _ => N19)
          obtain ⟨N20, lt20⟩ := shrinkL N19 (by k_extra "my_andR") (by first | exact And.left (by k_extra "k_cj0") | omega) (by first | exact And.left (by k_extra "k_cj0") | omega) (by first | exact And.left (by k_extra "k_cj0") | omega)
          clear N19
          (rename ∃ c l, NumT _ _ _ _ _ c l => hnum0)
          (rename Unit1 39 _ _ _ => hru)
          (rename _ ∧ AllLt _ news => hSL)
          (rename _ = List.flatMap _ (List.map Pc.T ps) => hJt)
          (rename _ = List.flatMap _ (List.map _ chs) => hJn)
          (rename Fr _ _ _ _ => F20)
          obtain ⟨c9, l9, hnum⟩ := hnum0
          have Hok := row_ok hok9 hru hn11 hcs3 hJn hnum
          have lS20 := upd_low (o' := loO a10 b10 t10 u10 c10) U0 hSL.1 hSL.2
          (rename_i h20)
          refine' row_rest (s := { s with heap := h20, toks := _ }) w _ Hok (show (Mine.hd.heap_39 w.params).lookup 326 = some _ by k_is) (by assumption) (by assumption) (by assumption) XB TB (by assumption) hd hu (by assumption) F20 N20 lt20 ?zc ?zs ?z1 ?z2 rfl rfl ?z5 ?z6 rfl hnum.hv hnum.hf ?y2 ?y3 (by assumption) hnum.hlen ?zE ?zF
          (case zF =>
            intro h9 tk9 g9 m9 news9 T9 F9 N9 hs9
            refine hq9 _ _ ?_
            exact ⟨g9, _, m9, news9, T9, F9, N9, fun h₁ T₁ F₁ N₁ B₁ X₁ TT₁ D₁ => hret _ [] _ _ _ h₁ (.mk _ _ _ _ _ ha10 hb10) T₁ F₁ (news_sub N₁ fun q hq => hs9 q (.tail _ hq)) (fun _ _ _ h => nomatch h) B₁ X₁ TT₁ D₁⟩)
          (case zc => exact List.forall_mem_cons.mpr ⟨by first | exact And.left (by k_extra "k_cj0") | omega, List.forall_mem_cons.mpr ⟨by first | exact And.left (by k_extra "k_cj0") | omega, fun q hq => ktn_ltOf (l := pcL ps ++ _) (by k_extra "my_andR") q (List.mem_append_right _ hq)⟩⟩)
          (case zs => exact fun q hq => Nat.lt_trans (lS20 q hq) (Nat.lt_succ_of_lt (Nat.lt_succ_self _)))
          (case z1 => rw [app_list, app_list, hJt, flatT_pcs, q34]; rfl)
          (case z2 => rw [app_list, app_list, app_list, hJt, flatT_pcs, q34, q32]; simp)
          (case z5 => rw [hnum.hT])
          (case z6 => exact congrArg bts (flatB_pcs ps).symm)
          (case y2 => rw [app_len, app_len, app_len, q34l, q32l]; omega)
          (case y3 => rw [app_len, show (Str.ofString "Z").length = 1 by decide +kernel]; omega)
          (case zE => exact fun e s' h => he9 e s' (wpAny_mono h (fun _ _ h => h.elim) fun _ _ h => h.elim))

end
section
example : True := by
  w_top off
  k_with_none
  (k_with "bx" => ((case ho => k_is); (case hcd => k_is); (case hb => exact rfl); (case hl => exact locs rfl); (case hu => k_extra "bx_hu"); (case c1 => exact rfl); (case c2 => exact rfl); (case c3 => exact rfl); (case c4 => decide)))
  (k_with "bx_hu" => (repeat (first | exact trivial | (refine And.intro ?_ ?_; first | exact trivial | exact rfl | exact Exists.intro _ rfl))))
  trivial
inductive RPool : Value → List (Addr × Obj) → Prop
  | mk (S : Addr) (a b : Int) (t1 t2 : Tok) (n : Nat) (ha : 0 ≤ a) (hb : 0 ≤ b) : RPool (.ref S) [(S, W.listOf #[.int a t1, .int b t2] n)]
theorem g_max (w : World) : nsIn (Mine.hd.heap_39 w.params) mainGlobals (Str.ofString "max") = some none := by k_is
section
variable {cs : Scope} {ns : List PySem.Str} {d u : Nat} {RX : Value → List (Addr × Obj) → Prop} {XX : Int → Prop} {C : Bx cs ns d u RX XX} {us : List Vl} {nw : List (Addr × Obj)} {pos : Pos}
theorem Ev.lenL {p : Pos} {e : PySem.Expr} {M : Addr} {vs : List Value} (hM : C.h₀.IsList M vs.toArray) (ho : okBi cs (Str.ofString "len") = true) (ha : Ev C us nw e (.val (.ref M))) (hl : vs.length ≤ 1000) (he : ∀ env, backTo pos (starEach [e] env) = [(false, eval e env)])
    (hcall : ∀ env, eval (.Call (.Name (Str.ofString "len") p) [e] [] pos) env = (do callWith pos (← eval (.Name (Str.ofString "len") p) env) [] (backTo pos (starEach [e] env)) (backToKw pos (keywordEach [] env)))) :
    Ev C us nw (.Call (.Name (Str.ofString "len") p) [e] [] pos) (.int vs.length) :=
  Ev.bi1 (id := "len") ho (g_len _) rfl ha (fun s Q E v hv hS hQ => by
    obtain rfl := Vl.val_is hv
    obtain ⟨m, F, _⟩ := hS.fr
    exact PyProof.Rows.len_list (F.lst hM) (by rw [List.size_toArray]; omega) (hQ _ _ ⟨_, by rw [List.size_toArray]⟩ (hS.toks _))) he hcall
theorem Ev.itemB {n : PySem.Str} {p : Pos} {sl : PySem.Expr} {M : Addr} {vs : List Value} {zs : List Int} {i : Int} (hM : C.h₀.IsList M vs.toArray) (hI : IntsAre vs zs) (ha : Ev C us nw (.Name n p) (.val (.ref M))) (hb : Ev C us nw sl (.int i)) (h0 : 0 ≤ i) (h1 : i < vs.length) (hz : vs.length ≤ 1000)
    (hs : ∀ a k t, subscripted sl false (.ref a) (.int k t) = operate [.ref a, .int k t] (getItem (.ref a) (.int k t))) : Ev C us nw (.Subscript (.Name n p) sl pos) (.int (zs.getD i.toNat 0)) := fun s Q E hS hQ hE => by
  refine Subscript_ (ha _ _ _ hS (fun v s' hv hS' => hb _ _ _ hS' (fun v' s'' hv' hS'' => ?_) hE) hE)
  obtain rfl := Vl.val_is hv
  obtain ⟨t, rfl⟩ := Vl.int_is hv'
  obtain ⟨m, F, _⟩ := hS''.fr
  have hj : i.toNat < vs.length := by omega
  obtain ⟨k, t', e, e'⟩ := IntsAre.at hI i.toNat _ (List.getElem?_eq_getElem hj)
  exact item_listL (F.lst hM) h0 (by omega) (List.getElem?_eq_getElem hj) (hQ _ _ (by rw [e, List.getD_eq_getElem?_getD, e']; exact ⟨t', rfl⟩) hS'') (hs _ _ _) (by intro _; with_unfolding_all rfl)
theorem Ev.max {p : Pos} {e f : PySem.Expr} {i j : Int} (ho : okBi cs (Str.ofString "max") = true) (h1 : Ev C us nw e (.int i)) (h2 : Ev C us nw f (.int j))
    (he : ∀ env, starEach [e, f] env = (false, eval e env) :: starEach [f] env) (he' : ∀ env, starEach [f] env = (false, eval f env) :: starEach [] env)
    (hcall : ∀ env, eval (.Call (.Name (Str.ofString "max") p) [e, f] [] pos) env = (do callWith pos (← eval (.Name (Str.ofString "max") p) env) [] (backTo pos (starEach [e, f] env)) (backToKw pos (keywordEach [] env)))) :
    Ev C us nw (.Call (.Name (Str.ofString "max") p) [e, f] [] pos) (.int (if j > i then j else i)) := fun s Q E hS hQ hE => by
  refine Call_ (Ev.bi ho (g_max _) (rfl : bootBuiltins (Str.ofString "max") = some (.builtin "max")) _ _ _ hS (fun f' s₁ hf hS₁ => ?_) hE) (hcall _)
  obtain rfl := Vl.val_is hf
  refine PyProof.Rows.callWith_builtin1 (EvL.cons h1 (EvL.cons h2 EvL.nil he') he _ _ _ _ hS₁ (fun vs s₃ hvs hS₃ => ?_) hE) (he _) (by rw [he']; rfl)
  obtain ⟨l, hl⟩ := id hS₃
  obtain ⟨m, F, hm⟩ := hS₃.fr
  refine forA_of [.int i, .int j] (P := fun vs => wpAny C.M C.A (call (.builtin "max") vs) Q E s₃) (fun t t' => ?_) vs hvs
  exact max_two_N rfl F hl.news fun h' tk F' N' => hQ _ _ ⟨_, rfl⟩ ⟨l, hl.pn, hl.same, ⟨m, F', hm⟩, N', hl.above⟩
end
theorem law_pool_c (w : World) (M : Addr) (vs : List Value) (zs : List Int) (k : Int) (t1 : Tok) (hI : IntsAre vs zs) (hn : zs.length ≤ 63) (h0 : 0 ≤ k) (hk3 : k ≤ 3)
   (p : Program) (loose : List PySem.Str) (mean : ExcName → Option Value) (mg mb : PySem.Str → Option Value) (dp un : Nat) (gd : Option (List Code)) (cn : PySem.Str) (cs : Scope) (a : Addr) (ccd : Value) (cl : List (PySem.Str × Addr))
    (outer : List Env) (A₀ : Around) (base h₀ : Heap) (L : Addr) (m : PySem.Str → Option Value) (news : List (Addr × Obj)) (s : Shared) (Q E : Value → Shared → Prop)
    (B : Below A₀ base outer h₀) (F : Fr h₀ L s.heap m) (X : (Mine.hd.heap_39 w.params).In h₀) (N : News h₀ L s.heap news) (T : Top p loose mean mg mb h₀) (hk : cs.kind = .function) (hd : dp + 3 < recursionLimit) (hu : un + 60 < cLine)
    (hM : h₀.IsList M vs.toArray)
    (hret : ∀ v nw h' tk, RPool v nw → Fr h₀ L h' m → News h₀ L h' (nw ++ news) → (∀ q ∈ news, ∀ p ∈ nw, q.1 < p.1) → Q v { s with heap := h', toks := tk }) :
    wpAny (model PySem.Challenge.pw_pf0076_01 w) (ktrTop dp un gd cn cs L a ccd cl outer) (call (.ref 272) [.ref M, .int k t1]) Q E s := by
  have hz : vs.length ≤ 1000 := by rw [hI.length]; omega
  refine' Ctr.of_body0 (d := 2) (u := 57) (RX := RPool) (XX := fun _ => False) [Str.ofString "script", Str.ofString "k", Str.ofString "cell", Str.ofString "big", Str.ofString "blend"] [.val (.ref M), .int k, .no, .no, .no] ?ho ?hcd ?hb ?hl (by decide +kernel) (slots _ _ ?hu) ?c1 ?c2 ?c3 ?c4 B F X N T hk hd hu hret (fun _ _ _ _ _ h => h.elim) fun C _ FG => ?_
  k_extra "bx"
  have hM9 : C.h₀.IsList M vs.toArray := FG.lst hM
  refine Ex.set 2 rfl (fun _ => rfl) (y := .int (if k < (vs.length : Int) then zs.getD k.toNat 0 else 0)) (Ev.ife (Tst.cm (Cm.lt (Ev.loc 1 rfl rfl rfl) (Ev.lenL hM9 rfl (Ev.loc 0 rfl rfl rfl) hz (fun _ => rfl) fun _ => rfl))) (fun h => ?_) fun h => ?_) ?_
  · rw [if_pos (of_decide_eq_true h)]
    exact Ev.itemB hM9 hI (Ev.loc 0 rfl rfl rfl) (Ev.loc 1 rfl rfl rfl) h0 (of_decide_eq_true h) hz fun _ _ _ => by with_unfolding_all rfl
  · rw [if_neg (of_decide_eq_false h)]
    exact Ev.cint
  generalize (if k < (vs.length : Int) then zs.getD k.toNat 0 else 0) = cell
  refine Ex.set 3 rfl (fun _ => rfl) (Ev.max rfl (Ev.loc 2 rfl rfl rfl) (Ev.sub (Ev.neg Ev.cint) (Ev.loc 2 rfl rfl rfl)) (fun _ => rfl) (fun _ => rfl) fun _ => rfl) ?_
  generalize (if -1 - cell > cell then -1 - cell else cell) = big
  refine Ex.set 4 rfl (fun _ => rfl) (Ev.fmod (Ev.mul (Ev.add (Ev.add (Ev.add (Ev.fmod (Ev.loc 3 rfl rfl rfl) Ev.cint (by decide)) (Ev.mul (Ev.mul Ev.cint (Ev.loc 1 rfl rfl rfl) h0 (by omega)) (Ev.loc 1 rfl rfl rfl) h0 (by omega))) (Ev.mul Ev.cint (Ev.loc 1 rfl rfl rfl) h0 (by omega))) Ev.cint) Ev.cint (by decide) (by decide)) Ev.cint (by decide)) ?_
  refine Ex.ret (EvG.listA (Pa := fun vs n1 => ∃ a b t1 t2, 0 ≤ a ∧ 0 ≤ b ∧ vs = [.int a t1, .int b t2] ∧ n1 = []) (EvA.consV (Ev.ifI (Tst.cm (Cm.ge (Ev.loc 3 rfl rfl rfl) (Ev.pow Ev.cint Ev.cint (by decide) (by decide) (by decide)))) (Ev.loc 3 rfl rfl rfl) Ev.cint) (fun v hv => EvA.consV (Ev.loc 4 rfl rfl rfl) (fun v' hv' => ?_) fun _ => rfl) fun _ => rfl) (Nat.le_of_ble_eq_true rfl) (fun vs n1 h => by obtain ⟨_, _, _, _, _, _, rfl, _⟩ := h; rfl) (P := RPool) fun vs n1 D h => by obtain ⟨a, b, t1, t2, ha, hb, rfl, rfl⟩ := h; exact .mk _ _ _ _ _ _ ha hb) fun _ _ h => h
  obtain ⟨t, rfl⟩ := Vl.int_is hv
  obtain ⟨t', rfl⟩ := Vl.int_is hv'
  refine EvA.nil ⟨_, _, _, _, ?_, Int.emod_nonneg _ (by decide), rfl, rfl⟩
  split
  · rename_i h; exact Int.le_trans (Int.pow_nonneg (by decide)) (of_decide_eq_true h)
  · exact Int.le_refl 0

end
section
example : True := by
  w_top off
  k_with_none
  (k_with "exec Raise some none" => (k_here; k_dflt (refine' Raise_fault ?k1 ?k2 ?_; (case k1 => k_asm); (case k2 => k_asm); k_whole)))
  (k_with "call ref" => (k_here; (with_reducible show wpAny _ _ (call (Value.ref 52) _) _ _ _); k_dflt (refine' fault ?k1 ?k2 ?k3 ?k4 ?k5 ?k6 ?k7 ?k8 ?_; (case k1 => k_asm); (case k2 => k_asm); (case k3 => k_asm); (case k4 => k_asm); (case k5 => k_asm); (case k6 => first | assumption | exact rfl); (case k7 => k_extra "my_room"); (case k8 => k_extra "my_room"); k_whole); intro h' e' tk' F' M'; (try k_sweep)))
  (k_with "FaultQ" => (refine ⟨_, _, _, _, rfl, by assumption, by assumption, ?_⟩))
  (k_with "leaving ref" => (k_here; first | (refine' leave_first ?k1 ?k2 ?k3 ?k4 ?_; (case k3 => assumption); (case k1 => assumption); (case k2 => assumption); (case k4 => exact rfl); k_whole; intro h' R') | (refine' leave_next ?k1 ?k2 ?k3 ?_; (case k3 => assumption); (case k1 => assumption); (case k2 => assumption); k_whole; intro h' R')))
  (k_with "my_room" => first | exact room9 (by with_reducible assumption) (by exact rfl) | exact room8 (by with_reducible assumption) (by exact rfl) | exact room7 (by with_reducible assumption) | ktr_room | ktr_units)
  trivial
example : True := by
  (k_with "pyIter ref" => (with_reducible refine Hold.out ?_))
  (k_with "k_mem" => first | exact List.Mem.head _ | (refine' List.Mem.tail _ ?_; k_mem) | (show _ ∈ (_ : List (Addr × Obj)); with_reducible assumption))
  trivial
noncomputable def okB (o : Except Int (List Wd)) (wds : List Wd) : Bool := match o with
  | .ok w => decide (w = wds)
  | .error _ => false
theorem okB_eq {o : Except Int (List Wd)} {wds : List Wd} (h : okB o wds = true) : o = .ok wds := by
  cases o with
  | ok w => exact congrArg _ (of_decide_eq_true h)
  | error e => cases h
theorem kind_of {wds : List Wd} {n : Nat} (h : (wds.reverse.take n).all (fun wd => !(wd.kind == Str.ofString "end")) = true) : ∀ (i : Nat) wd, wds.reverse[i]? = some wd → i < n → (wd.kind == Str.ofString "end") = false := fun i wd hi hn => by
  have := List.all_eq_true.mp h wd (List.mem_of_getElem? (i := i) (by rw [List.getElem?_take_of_lt hn]; exact hi))
  simpa using this
noncomputable abbrev tupD (k t : PySem.Str) (p : Int) (e : PyData) : PyData := .tuple [.str k, .str t, .int p, e]
noncomputable abbrev dsA : List PyData := [tupD (Str.ofString "name") (Str.ofString "a") 6 .none, tupD (Str.ofString "sign") (Str.ofString ";") 7 .none]
noncomputable abbrev dsB : List PyData := [tupD (Str.ofString "int") (Str.ofString "1") 0 (.int 1), tupD (Str.ofString "sign") (Str.ofString ".") 1 .none]
noncomputable abbrev dsC : List PyData := [tupD (Str.ofString "name") (Str.ofString "a") 0 .none, tupD (Str.ofString "sign") (Str.ofString ";") 1 .none, tupD (Str.ofString "name") (Str.ofString "b") 6 .none]
noncomputable abbrev wdsA : List Wd := [⟨Str.ofString "end", Str.ofString "", 7, .none⟩, ⟨Str.ofString "sign", Str.ofString ";", 7, .none⟩, ⟨Str.ofString "name", Str.ofString "a", 6, .none⟩]
noncomputable abbrev wdsB : List Wd := [⟨Str.ofString "end", Str.ofString "", 2, .none⟩, ⟨Str.ofString "sign", Str.ofString ".", 1, .none⟩, ⟨Str.ofString "int", Str.ofString "1", 0, .int 1⟩]
noncomputable abbrev wdsC : List Wd := [⟨Str.ofString "end", Str.ofString "", 7, .none⟩, ⟨Str.ofString "sign", Str.ofString ";", 7, .none⟩, ⟨Str.ofString "name", Str.ofString "b", 6, .none⟩, ⟨Str.ofString "sign", Str.ofString ";", 1, .none⟩, ⟨Str.ofString "name", Str.ofString "a", 0, .none⟩]
theorem turnA {rest : List (Addr × Obj)} {ys : List Value} (h : TupsIn rest ys dsA) (hy : ys.length = 2) : TurnOk (Str.ofString "/*/ */a") rest ys :=
  ⟨by decide +kernel, raw_none (by decide +kernel), wdsA, dsA, okB_eq (by decide +kernel), h, by decide +kernel, by rw [hy]; rfl, by rw [hy]; decide, by decide, by rw [hy]; exact kind_of (by decide +kernel), by decide +kernel, by decide +kernel⟩
theorem turnB {rest : List (Addr × Obj)} {ys : List Value} (h : TupsIn rest ys dsB) (hy : ys.length = 2) : TurnOk (Str.ofString "1.") rest ys :=
  ⟨by decide +kernel, raw_none (by decide +kernel), wdsB, dsB, okB_eq (by decide +kernel), h, by decide +kernel, by rw [hy]; rfl, by rw [hy]; decide, by decide, by rw [hy]; exact kind_of (by decide +kernel), by decide +kernel, by decide +kernel⟩
theorem turnC {rest : List (Addr × Obj)} {ys : List Value} (h : TupsIn rest ys dsC) (hy : ys.length = 3) : TurnOk (Str.ofString "a/*\n*/b") rest ys :=
  ⟨by decide +kernel, raw_none (by decide +kernel), wdsC, dsC, okB_eq (by decide +kernel), h, by decide +kernel, by rw [hy]; rfl, by rw [hy]; decide, by decide, by rw [hy]; exact kind_of (by decide +kernel), by decide +kernel, by decide +kernel⟩
noncomputable abbrev rowR (v M : Value) : PySem.Str → Option Value := fun y => if y = Str.ofString "rows" then some v else if y = Str.ofString "script" then some M else none
noncomputable def forTarget : List Stmt → Expr
  | _ :: _ :: Stmt.For t _ _ _ _ :: _ => t
  | _ => .Constant .none 0 default
theorem loop_turn (w : World) {oc : Value} {od an : Option Addr} {name qual : PySem.Str} {params : Arguments} {body : List Stmt} {scope : Scope} {dV kV doc pm cdv ct : Value} {osl : Array (Option Value)}
    (ho : (Mine.hd.heap_39 w.params).lookup 338 = some ⟨oc, od, .func (fnOf name qual params body scope dV kV doc pm an cdv ct), osl⟩)
    {p : Program} {loose : List PySem.Str} {mean : ExcName → Option Value} {mg mb : PySem.Str → Option Value} {dp un : Nat} {gd : Option (List Code)} {g : Heap} {L fa ra I : Addr} {ccd : Value} {s : Shared} {R : Result → Shared → Prop}
    {oh oI : Obj} {v0 : Option Value} {big : List (Addr × Obj)} {nr n1 i : Nat} {p1 D1 : Addr} {u1 : Tok} {ys1 items : List Value} {T : PySem.Str} {m : PySem.Str → Option Value}
    (X : (Mine.hd.heap_39 w.params).In g) (Tp : Top p loose mean mg mb g) (hd : dp + 90 < recursionLimit) (hu : un + 1000 < cLine) (dh : oh.data = .cell v0)
    (F : Fr g L s.heap m) (N : News g L s.heap ((I, oI) :: (L + 1, oh) :: big)) (hI : LitAt oI ra i) (neI : ∀ q ∈ (L + 1, oh) :: big, q.1 ≠ I) (neC : ∀ q ∈ big, q.1 ≠ L + 1) (hr : (ra, W.listOf items.toArray nr) ∈ big) (hx : items[i]? = some (.ref p1))
    (h1 : (p1, tupO [.str T u1, .ref D1]) ∈ big) (k1 : (D1, W.listOf ys1.toArray n1) ∈ big) (H : TurnOk T big ys1)
    (hnext : ∀ h' tk oI' oc' v, Fr g L h' (rowTD (.str T u1) (.ref D1) m) → News g L h' ((I, oI') :: (L + 1, oc') :: big) → LitAt oI' ra (i + 1) → oc'.data = .cell v →
      codeR (model PySem.Challenge.pw_pf0076_01 w) (ktrTop dp un gd qual scope L fa ccd [(Str.ofString "here", L + 1)] []) (.forLoop (forTarget body) (.ref I) (turnBody body) [] (envX qual scope L fa ccd [(Str.ofString "here", L + 1)])) R { s with heap := h', toks := tk }) :
    codeR (model PySem.Challenge.pw_pf0076_01 w) (ktrTop dp un gd qual scope L fa ccd [(Str.ofString "here", L + 1)] []) (.forLoop (forTarget body) (.ref I) (turnBody body) [] (envX qual scope L fa ccd [(Str.ofString "here", L + 1)])) R s := by
  have ho2 := ho
  obtain ⟨f2, f4, f5⟩ := fn_inj ho (show (Mine.hd.heap_39 w.params).lookup 338 = some ⟨_, _, .func (fnOf _ _ _ _ _ _ _ _ _ _ _ _), _⟩ by k_is)
  subst f2 f4 f5
  clear ho
  refine for_turnL F N hI (.tail _ hr) neI hx ?_
  clear N F
  intro h91 oI1 F91 N91 hI91
  refine wpAny_letOwnedTupleGo_listiter ⟨_, (N91 _ (.head _)).1, hI91.1, hI91.2⟩ ?_
  have N92 : News g L h91 ((p1, tupO [.str T u1, .ref D1]) :: (L + 1, oh) :: (I, oI1) :: big) := fun q hq => by
    rcases List.mem_cons.mp hq with rfl | hq
    · exact N91 _ (.tail _ (.tail _ h1))
    · rcases List.mem_cons.mp hq with rfl | hq
      · exact N91 _ (.tail _ (.head _))
      · rcases List.mem_cons.mp hq with rfl | hq
        · exact N91 _ (.head _)
        · exact N91 q (.tail _ (.tail _ hq))
  clear N91
  dsimp only [forTarget]
  k_steps
  (rename News _ _ _ _ => N93)
  (rename Fr _ _ _ _ => F93)
  obtain ⟨hl, hraw, wds, ds, hrow, hds, hrest⟩ := H
  refine law_turn w ho2 X Tp hd hu dh F93 (news_tl N93) (fun q hq => ?_) (.tail _ k1) ⟨hl, hraw, wds, ds, hrow, hds.sub fun q hq => .tail _ hq, hrest⟩ ?_
  · rcases List.mem_cons.mp hq with rfl | hq
    · exact Ne.symm (neI (L + 1, oh) (.head _))
    · exact neC q hq
  · intro h' tk oc' v F' N' d'
    exact hnext h' tk oI1 oc' v F' (fun q hq => by
      rcases List.mem_cons.mp hq with rfl | hq
      · exact N' _ (.tail _ (.head _))
      · rcases List.mem_cons.mp hq with rfl | hq
        · exact N' _ (.head _)
        · exact N' q (.tail _ (.tail _ hq))) hI91 d'

end
section
example : True := by
  w_top off
  k_with_none
  (k_with "exec Raise some none" => (k_here; k_dflt (refine' Raise_fault ?k1 ?k2 ?_; (case k1 => k_asm); (case k2 => k_asm); k_whole)))
  (k_with "call ref" => (k_here; (with_reducible show wpAny _ _ (call (Value.ref 52) _) _ _ _); k_dflt (refine' fault ?k1 ?k2 ?k3 ?k4 ?k5 ?k6 ?k7 ?k8 ?_; (case k1 => k_asm); (case k2 => k_asm); (case k3 => k_asm); (case k4 => k_asm); (case k5 => k_asm); (case k6 => first | assumption | exact rfl); (case k7 => k_extra "my_room"); (case k8 => k_extra "my_room"); k_whole); intro h' e' tk' F' M'; (try k_sweep)))
  (k_with "FaultQ" => (refine ⟨_, _, _, _, rfl, by assumption, by assumption, ?_⟩))
  (k_with "leaving ref" => (k_here; first | (refine' leave_first ?k1 ?k2 ?k3 ?k4 ?_; (case k3 => assumption); (case k1 => assumption); (case k2 => assumption); (case k4 => exact rfl); k_whole; intro h' R') | (refine' leave_next ?k1 ?k2 ?k3 ?_; (case k3 => assumption); (case k1 => assumption); (case k2 => assumption); k_whole; intro h' R')))
  (k_with "k_ne" => first | with_reducible assumption | exact Ne.symm (by with_reducible assumption) | exact Nat.ne_of_gt (by with_reducible assumption) | exact Nat.ne_of_lt (by with_reducible assumption) | exact Ne.symm (And.left (by k_extra "k_cj0")) | exact Nat.ne_of_gt (And.left (by k_extra "k_cj0")) | exact And.left (by k_extra "k_cj0"))
  (k_with "k_cj0" => first | with_reducible assumption | exact And.right (by k_extra "k_cj1"))
  (k_with "k_cj1" => first | with_reducible assumption | exact And.right (by k_extra "k_cj2"))
  (k_with "k_cj2" => first | with_reducible assumption | exact And.right (by k_extra "k_cj3"))
  (k_with "k_cj3" => first | with_reducible assumption | exact And.right (by k_extra "k_cj4"))
  (k_with "k_cj4" => first | with_reducible assumption | exact And.right (by k_extra "k_cj5"))
  (k_with "k_cj5" => first | with_reducible assumption | exact And.right (by k_extra "k_cj6"))
  (k_with "k_cj6" => first | with_reducible assumption | exact And.right (by k_extra "k_cj7"))
  (k_with "k_cj7" => first | with_reducible assumption | exact And.right (by k_extra "k_cj8"))
  (k_with "k_cj8" => first | with_reducible assumption | exact And.right (by k_extra "k_cj9"))
  (k_with "k_cj9" => first | with_reducible assumption | exact And.right (by with_reducible assumption))
  (k_with "my_args" => ((case kB => k_asm); (case kF => k_asm); (case kX => k_asm); (case kN => k_asm); (case kT => k_asm); (case kK => first | assumption | exact rfl); (case kd => k_extra "my_room"); (case ku => k_extra "my_room")))
  (k_with "my_room" => first | exact room9 (by with_reducible assumption) (by exact rfl) | exact room8 (by with_reducible assumption) (by exact rfl) | exact room7 (by with_reducible assumption) | ktr_room | ktr_units)
  trivial
example : True := by
  (k_with "call ref" => ((with_reducible show wpAny _ _ (call (Value.ref 272) _) _ _ _); with_reducible refine Hold.out ?_))
  trivial
noncomputable def kTarget : List Stmt → Expr
  | _ :: _ :: _ :: _ :: Stmt.For t _ _ _ _ :: _ => t
  | _ => .Constant .none 0 default
noncomputable def kBody : List Stmt → List Stmt
  | _ :: _ :: _ :: _ :: Stmt.For _ _ b _ _ :: _ => b
  | _ => []
noncomputable abbrev rowS (v : Value) (m : PySem.Str → Option Value) : PySem.Str → Option Value := fun y => if y = Str.ofString "script" then some v else m y
noncomputable abbrev rowKS (v1 v2 : Option Value) (m : PySem.Str → Option Value) : PySem.Str → Option Value := fun y => if y = Str.ofString "source" then v1 else if y = Str.ofString "k" then v2 else m y
theorem fr_script {h₀ h : Heap} {L : Addr} {v : Value} {m : PySem.Str → Option Value} (e : m (Str.ofString "script") = some v) (F : Fr h₀ L h m) : Fr h₀ L h (rowS v m) := by
  have : m = rowS v m := by
    funext y
    unfold rowS
    split
    · rename_i hy; rw [hy, e]
    · rfl
  rw [← this]; exact F
theorem fr_ks0 {h₀ h : Heap} {L : Addr} {m : PySem.Str → Option Value} (F : Fr h₀ L h m) : Fr h₀ L h (rowKS (m (Str.ofString "source")) (m (Str.ofString "k")) m) := by
  have : m = rowKS (m (Str.ofString "source")) (m (Str.ofString "k")) m := by
    funext y
    unfold rowKS
    split
    · rename_i hy; rw [hy]
    · split
      · rename_i hy; rw [hy]
      · rfl
  rw [← this]; exact F
theorem fr_ks {h₀ h : Heap} {L : Addr} {v1 v2 : Option Value} {a b : Value} {m : PySem.Str → Option Value} (F : Fr h₀ L h (fun y => if y = Str.ofString "source" then some a else if y = Str.ofString "k" then some b else rowKS v1 v2 m y)) : Fr h₀ L h (rowKS (some a) (some b) m) := by
  have : (fun y => if y = Str.ofString "source" then some a else if y = Str.ofString "k" then some b else rowKS v1 v2 m y) = rowKS (some a) (some b) m := by
    funext y
    unfold rowKS
    split
    · rfl
    · split
      · rfl
      · rfl
  rw [← this]; exact F
theorem k_turn (w : World) {oc : Value} {od an : Option Addr} {name qual : PySem.Str} {params : Arguments} {body : List Stmt} {scope : Scope} {dV kV doc pm cdv ct : Value} {osl : Array (Option Value)}
    (ho : (Mine.hd.heap_39 w.params).lookup 338 = some ⟨oc, od, .func (fnOf name qual params body scope dV kV doc pm an cdv ct), osl⟩)
    {p : Program} {loose : List PySem.Str} {mean : ExcName → Option Value} {mg mb : PySem.Str → Option Value} {dp un : Nat} {gd : Option (List Code)} {g : Heap} {L fa I M : Addr} {ccd : Value} {s : Shared} {R : Result → Shared → Prop}
    {oI : Obj} {vs : List Value} {ns : List Int} {v1 v2 : Option Value} {i b : Int} {m : PySem.Str → Option Value}
    (X : (Mine.hd.heap_39 w.params).In g) (Tp : Top p loose mean mg mb g) (hd : dp + 90 < recursionLimit) (hu : un + 1000 < cLine) (hM : g.IsList M vs.toArray) (hI : IntsAre vs ns) (hn : ns.length ≤ 63)
    (F : Fr g L s.heap (rowKS v1 v2 (rowS (.ref M) m))) (N : News g L s.heap [(I, oI)]) (hIt : RitAt oI i (b - i)) (h0 : 0 ≤ i) (hib : i < b) (hb : b ≤ 3)
    (hnext : ∀ h' tk oI' v1' v2', Fr g L h' (rowKS v1' v2' (rowS (.ref M) m)) → News g L h' [(I, oI')] → RitAt oI' (i + 1) (b - (i + 1)) →
      codeR (model PySem.Challenge.pw_pf0076_01 w) (ktrTop dp un gd qual scope L fa ccd [(Str.ofString "here", L + 1)] []) (.forLoop (kTarget body) (.ref I) (kBody body) [] (envX qual scope L fa ccd [(Str.ofString "here", L + 1)])) R { s with heap := h', toks := tk }) :
    codeR (model PySem.Challenge.pw_pf0076_01 w) (ktrTop dp un gd qual scope L fa ccd [(Str.ofString "here", L + 1)] []) (.forLoop (kTarget body) (.ref I) (kBody body) [] (envX qual scope L fa ccd [(Str.ofString "here", L + 1)])) R s := by
  obtain ⟨f2, f4, f5⟩ := fn_inj ho (show (Mine.hd.heap_39 w.params).lookup 338 = some ⟨_, _, .func (fnOf _ _ _ _ _ _ _ _ _ _ _ _), _⟩ by k_is)
  subst f2 f4 f5
  clear ho
  have B := below_caller g
  have DD : KtsDicts ([].filterMap fun e : Env => e.frame) g := fun _ h => nomatch h
  refine for_turnR F N hIt (fun _ h => nomatch h) (by omega) ?_
  clear F N hIt
  intro h91 oI1 t1 F91 N91 hI91
  dsimp only [kTarget]
  refine wpAny_of_eq rfl ?_
  k_steps
  dsimp only [kBody]
  refine wpR_clean ?_
  k_steps
  refine Hold.mk ?_
  have hi3 : i ≤ 3 := by omega
  refine law_pool_c w M vs ns i _ hI hn h0 hi3 _ _ _ _ _ _ _ _ _ _ _ _ _ _ _ _ _ _ _ _ _ _ _ B (by k_asm) X (by k_asm) Tp rfl (by omega) (by omega) hM ?_
  intro v' nw' h' tk' hR' F' N' l'
  obtain ⟨S, a9, b9, u1, u2, n9, ha9, hb9⟩ := hR'
  (try simp only [List.cons_append, List.nil_append] at N')
  k_steps
  dsimp only [ThenR]
  have neS : I ≠ S := Nat.ne_of_lt (l' _ (.head _) _ (.head _))
  clear l'
  refine wpR_execs_cons (wpR_IfR (wpR_isTrue_Or2 (wpR_isTrue_Not (wpR_isTrue_Call (wpR_Call ?_ (by rfl))))))
  k_steps
  refine wpR_callWith_K (by k_asm) (by k_is) ?_ (by rfl) (by rfl)
  k_steps
  refine' CtrTS.use (row_right_c w S a9 b9 u1 u2 n9 ha9 hb9) (upd := fun o => [(S, o), (I, oI1)]) ?kB ?kF ?kX ?kXB ?kN ?kT ?kTB ?kD ?kK ?kd ?ku ?kU ?_
  k_extra "my_args"
  (case kXB => assumption)
  (case kTB => assumption)
  (case kD => assumption)
  (case kU => exact .head (fun q hq => by rw [List.mem_singleton.mp hq]; exact neS))
  intro v' nw' o' h' tk' hh1 hR' T1 F' N' l1' B1 X1 TT1 D1'
  obtain ⟨a8, b8, u3, u4, n8, ha8, hb8⟩ := hR'
  (rename Fr g L _ _ => F70)
  (rename News g L _ _ => N70)
  clear F70 N70
  have F16 := turn_nil T1 F'
  have N16 := news_nil T1 N'
  (try simp only [List.nil_append] at N16)
  clear F' N' l1' B1 X1 TT1 D1' T1
  k_steps
  refine wpR_isTrue_Not (wpR_isTrue_Call (wpR_Call ?_ (by rfl)))
  k_steps
  refine wpR_callWith_K (by k_asm) (by k_is) ?_ (by rfl) (by rfl)
  k_steps
  refine' CtrTS.use (wrong_right_c w S a8 b8 u3 u4 n8 ha8 hb8) (upd := fun o => [(S, o), (I, oI1)]) ?kB2 ?kF2 ?kX2 ?kXB2 ?kN2 ?kT2 ?kTB2 ?kD2 ?kK2 ?kd2 ?ku2 ?kU2 ?_
  (case kB2 => k_asm)
  (case kF2 => k_asm)
  (case kX2 => k_asm)
  (case kN2 => k_asm)
  (case kT2 => k_asm)
  (case kK2 => first | assumption | exact rfl)
  (case kd2 => k_extra "my_room")
  (case ku2 => k_extra "my_room")
  (case kXB2 => assumption)
  (case kTB2 => assumption)
  (case kD2 => assumption)
  (case kU2 => exact .head (fun q hq => by rw [List.mem_singleton.mp hq]; exact neS))
  intro v' nw' o' h'' tk'' hh2 hR' T2 F' N' l1' B1 X1 TT1 D1'
  obtain ⟨a7, b7, u5, u6, n7, ha7, hb7⟩ := hR'
  clear F16 N16
  have F17 := turn_nil T2 F'
  have N17 := news_nil T2 N'
  (try simp only [List.nil_append] at N17)
  clear F' N' l1' B1 X1 TT1 D1' T2
  k_steps
  refine wpR_execs_nil ?_
  dsimp only
  refine wpR_execs_nil ?_
  dsimp only
  have e9 : b - i - 1 = b - (i + 1) := by omega
  exact hnext _ _ _ _ _ (fr_ks F17) (news_tl N17) (e9 ▸ hI91)
theorem k_loop (w : World) {oc : Value} {od an : Option Addr} {name qual : PySem.Str} {params : Arguments} {body : List Stmt} {scope : Scope} {dV kV doc pm cdv ct : Value} {osl : Array (Option Value)}
    (ho : (Mine.hd.heap_39 w.params).lookup 338 = some ⟨oc, od, .func (fnOf name qual params body scope dV kV doc pm an cdv ct), osl⟩)
    {p : Program} {loose : List PySem.Str} {mean : ExcName → Option Value} {mg mb : PySem.Str → Option Value} {dp un : Nat} {gd : Option (List Code)} {g : Heap} {L fa I M : Addr} {ccd : Value} {R : Result → Shared → Prop}
    {vs : List Value} {ns : List Int} {b : Int} {m : PySem.Str → Option Value} (s₀ : Shared)
    (X : (Mine.hd.heap_39 w.params).In g) (Tp : Top p loose mean mg mb g) (hd : dp + 90 < recursionLimit) (hu : un + 1000 < cLine) (hM : g.IsList M vs.toArray) (hI : IntsAre vs ns) (hn : ns.length ≤ 63) (hb : b ≤ 3)
    (hend : ∀ h' tk m', Fr g L h' m' → R (.ok .next) { s₀ with heap := h', toks := tk }) :
    ∀ (j : Nat) (i : Int) (h : Heap) (tk : Nat) (oI : Obj) (v1 v2 : Option Value), i + (j : Int) = b → 0 ≤ i → Fr g L h (rowKS v1 v2 (rowS (.ref M) m)) → News g L h [(I, oI)] → RitAt oI i (b - i) →
    codeR (model PySem.Challenge.pw_pf0076_01 w) (ktrTop dp un gd qual scope L fa ccd [(Str.ofString "here", L + 1)] []) (.forLoop (kTarget body) (.ref I) (kBody body) [] (envX qual scope L fa ccd [(Str.ofString "here", L + 1)])) R { s₀ with heap := h, toks := tk }
  | 0, i, h, tk, oI, v1, v2, hj, h0, F, N, hIt => by
    refine for_endR rfl F N hIt (fun _ h => nomatch h) (by omega) ?_
    intro h' F' N'
    exact hend _ _ _ F'
  | j + 1, i, h, tk, oI, v1, v2, hj, h0, F, N, hIt => by
    refine k_turn w ho (s := { s₀ with heap := h, toks := tk }) X Tp hd hu hM hI hn F N hIt h0 (by omega) hb ?_
    intro h' tk' oI' v1' v2' F' N' hI'
    exact k_loop w ho s₀ X Tp hd hu hM hI hn hb hend j (i + 1) h' tk' oI' v1' v2' (by omega) (by omega) F' N' hI'

end
section
example : True := by
  w_top off
  k_with_none
  (k_with "exec Raise some none" => (k_here; k_dflt (refine' Raise_fault ?k1 ?k2 ?_; (case k1 => k_asm); (case k2 => k_asm); k_whole)))
  (k_with "call ref" => (k_here; (with_reducible show wpAny _ _ (call (Value.ref 52) _) _ _ _); k_dflt (refine' fault ?k1 ?k2 ?k3 ?k4 ?k5 ?k6 ?k7 ?k8 ?_; (case k1 => k_asm); (case k2 => k_asm); (case k3 => k_asm); (case k4 => k_asm); (case k5 => k_asm); (case k6 => first | assumption | exact rfl); (case k7 => k_extra "my_room"); (case k8 => k_extra "my_room"); k_whole); intro h' e' tk' F' M'; (try k_sweep)))
  (k_with "FaultQ" => (refine ⟨_, _, _, _, rfl, by assumption, by assumption, ?_⟩))
  (k_with "leaving ref" => (k_here; first | (refine' leave_first ?k1 ?k2 ?k3 ?k4 ?_; (case k3 => assumption); (case k1 => assumption); (case k2 => assumption); (case k4 => exact rfl); k_whole; intro h' R') | (refine' leave_next ?k1 ?k2 ?k3 ?_; (case k3 => assumption); (case k1 => assumption); (case k2 => assumption); k_whole; intro h' R')))
  (k_with "k_ne" => first | with_reducible assumption | exact Ne.symm (by with_reducible assumption) | exact Nat.ne_of_gt (by with_reducible assumption) | exact Nat.ne_of_lt (by with_reducible assumption) | exact Ne.symm (And.left (by k_extra "k_cj0")) | exact Nat.ne_of_gt (And.left (by k_extra "k_cj0")) | exact And.left (by k_extra "k_cj0"))
  (k_with "k_cj0" => first | with_reducible assumption | exact And.right (by k_extra "k_cj1"))
  (k_with "k_cj1" => first | with_reducible assumption | exact And.right (by k_extra "k_cj2"))
  (k_with "k_cj2" => first | with_reducible assumption | exact And.right (by k_extra "k_cj3"))
  (k_with "k_cj3" => first | with_reducible assumption | exact And.right (by k_extra "k_cj4"))
  (k_with "k_cj4" => first | with_reducible assumption | exact And.right (by k_extra "k_cj5"))
  (k_with "k_cj5" => first | with_reducible assumption | exact And.right (by k_extra "k_cj6"))
  (k_with "k_cj6" => first | with_reducible assumption | exact And.right (by k_extra "k_cj7"))
  (k_with "k_cj7" => first | with_reducible assumption | exact And.right (by k_extra "k_cj8"))
  (k_with "k_cj8" => first | with_reducible assumption | exact And.right (by k_extra "k_cj9"))
  (k_with "k_cj9" => first | with_reducible assumption | exact And.right (by with_reducible assumption))
  (k_with "my_args" => ((case kB => k_asm); (case kF => k_asm); (case kX => k_asm); (case kN => k_asm); (case kT => k_asm); (case kK => first | assumption | exact rfl); (case kd => k_extra "my_room"); (case ku => k_extra "my_room")))
  (k_with "my_room" => first | exact room9 (by with_reducible assumption) (by exact rfl) | exact room8 (by with_reducible assumption) (by exact rfl) | exact room7 (by with_reducible assumption) | ktr_room | ktr_units)
  trivial
example : True := by
  (k_with "pyIter ref" => (with_reducible refine Hold.out ?_))
  (k_with "k_mem" => first | exact List.Mem.head _ | (refine' List.Mem.tail _ ?_; k_mem) | (show _ ∈ (_ : List (Addr × Obj)); with_reducible assumption))
  trivial
theorem law_rest (w : World) {oc : Value} {od an : Option Addr} {name qual : PySem.Str} {params : Arguments} {body : List Stmt} {scope : Scope} {dV kV doc pm cdv ct : Value} {osl : Array (Option Value)}
    (ho : (Mine.hd.heap_39 w.params).lookup 338 = some ⟨oc, od, .func (fnOf name qual params body scope dV kV doc pm an cdv ct), osl⟩)
    {p : Program} {loose : List PySem.Str} {mean : ExcName → Option Value} {mg mb : PySem.Str → Option Value} {dp un : Nat} {gd : Option (List Code)} {g : Heap} {L fa ra M : Addr} {ccd : Value} {s : Shared} {Q : Flow → Shared → Prop} {E : Value → Shared → Prop}
    {oh : Obj} {v0 : Option Value} {big : List (Addr × Obj)} {nr n1 n2 n3 : Nat} {p1 p2 p3 D1 D2 D3 : Addr} {u1 u2 u3 : Tok} {ys1 ys2 ys3 vs : List Value} {ns : List Int}
    (X : (Mine.hd.heap_39 w.params).In g) (Tp : Top p loose mean mg mb g) (hd : dp + 90 < recursionLimit) (hu : un + 1000 < cLine) (hM : g.IsList M vs.toArray) (hI : IntsAre vs ns) (hn : ns.length ≤ 63) (dh : oh.data = .cell v0)
    (F : Fr g L s.heap (rowR (.ref ra) (.ref M))) (N : News g L s.heap ((L + 1, oh) :: big)) (neC : ∀ q ∈ big, q.1 ≠ L + 1) (hr : (ra, W.listOf [Value.ref p1, .ref p2, .ref p3].toArray nr) ∈ big)
    (h1 : (p1, tupO [.str (Str.ofString "/*/ */a") u1, .ref D1]) ∈ big) (h2 : (p2, tupO [.str (Str.ofString "1.") u2, .ref D2]) ∈ big) (h3 : (p3, tupO [.str (Str.ofString "a/*\n*/b") u3, .ref D3]) ∈ big)
    (k1 : (D1, W.listOf ys1.toArray n1) ∈ big) (k2 : (D2, W.listOf ys2.toArray n2) ∈ big) (k3 : (D3, W.listOf ys3.toArray n3) ∈ big) (t1 : TupsIn big ys1 dsA) (t2 : TupsIn big ys2 dsB) (t3 : TupsIn big ys3 dsC) (z1 : ys1.length = 2) (z2 : ys2.length = 2) (z3 : ys3.length = 3)
    (hfin : ∀ h' tk m', Fr g L h' m' → Q (.ret (.bool true)) { s with heap := h', toks := tk }) :
    wpR (model PySem.Challenge.pw_pf0076_01 w) (ktrTop dp un gd qual scope L fa ccd [(Str.ofString "here", L + 1)] []) (execs (body.drop 2) (envX qual scope L fa ccd [(Str.ofString "here", L + 1)])) Q E s := by
  have ho2 := ho
  obtain ⟨f2, f4, f5⟩ := fn_inj ho (show (Mine.hd.heap_39 w.params).lookup 338 = some ⟨_, _, .func (fnOf _ _ _ _ _ _ _ _ _ _ _ _), _⟩ by k_is)
  subst f2 f4 f5
  clear ho
  dsimp only [List.drop]
  have B := below_caller g
  refine wpR_execs_cons (wpR_For ?_ (by intro _; rfl))
  k_steps
  refine Hold.mk ?_
  refine iter_L (by k_asm) (by k_asm) (.tail _ hr) ?_
  intro I oI h9 F9 N9 hI9 lI
  have neI : ∀ q ∈ (L + 1, oh) :: big, q.1 ≠ I := fun q hq => Nat.ne_of_lt (lI q hq)
  refine loop_turn w ho2 X Tp hd hu dh F9 N9 hI9 neI neC hr rfl h1 k1 (turnA t1 z1) ?_
  clear N9 F9 hI9
  intro h10 tk10 oI10 oc10 v10 F10 N10 hI10 d10
  have neI10 : ∀ q ∈ (L + 1, oc10) :: big, q.1 ≠ I := fun q hq => (List.mem_cons.mp hq).elim (fun e => e ▸ neI (L + 1, oh) (.head _)) fun hq => neI q (.tail _ hq)
  refine loop_turn w ho2 X Tp hd hu d10 F10 N10 hI10 neI10 neC hr rfl h2 k2 (turnB t2 z2) ?_
  clear N10 F10 hI10
  intro h11 tk11 oI11 oc11 v11 F11 N11 hI11 d11
  have neI11 : ∀ q ∈ (L + 1, oc11) :: big, q.1 ≠ I := fun q hq => (List.mem_cons.mp hq).elim (fun e => e ▸ neI (L + 1, oh) (.head _)) fun hq => neI q (.tail _ hq)
  refine loop_turn w ho2 X Tp hd hu d11 F11 N11 hI11 neI11 neC hr rfl h3 k3 (turnC t3 z3) ?_
  clear N11 F11 hI11
  intro h12 tk12 oI12 oc12 v12 F12 N12 hI12 d12
  have neI12 : ∀ q ∈ (L + 1, oc12) :: big, q.1 ≠ I := fun q hq => (List.mem_cons.mp hq).elim (fun e => e ▸ neI (L + 1, oh) (.head _)) fun hq => neI q (.tail _ hq)
  refine for_endL rfl F12 N12 hI12 (.tail _ hr) neI12 rfl ?_
  clear N12 F12 hI12
  intro h13 F13 N13
  dsimp only
  clear hr h1 h2 h3 k1 k2 k3 t1 t2 t3 z1 z2 z3 neC neI neI10 neI11 neI12 lI dh d10 d11 d12 N
  have N14 : News g L h13 [] := fun _ h => nomatch h
  clear N13
  have herr : rowsRead (Str.ofString "/*/") = .error 0 := isErr_eq (by decide +kernel)
  have DD : KtsDicts ([].filterMap fun e : Env => e.frame) g := fun _ h => nomatch h
  refine wpR_execs_cons (wpR_IfR (wpR_isTrue_Compare1 (wpR_Call ?_ (by rfl)) (by with_unfolding_all rfl)))
  k_steps
  refine wpR_callWith_K (by k_asm) (by k_is) ?_ (by rfl) (by rfl)
  k_steps
  refine' CtrT.use (law_fault_c w (Str.ofString "/*/") _ (by decide +kernel) (raw_none (by decide +kernel))) ?kB ?kF ?kX ?kXB ?kN ?kT ?kTB ?kD ?kK ?kd ?ku ?kL ?_
  k_extra "my_args"
  (case kXB => assumption)
  (case kTB => assumption)
  (case kD => assumption)
  (case kL => exact fun _ h => nomatch h)
  intro v' nw' h' tk' hh1 hR' T1 F' N' l1' B1 X1 TT1 D1'
  cases hR' with
  | none wds h => rw [herr] at h; cases h
  | some sp t h => ?_
  rw [herr] at h
  injection h with h
  subst h
  have F15 := turn_nil T1 F'
  have N15 := news_nil T1 N'
  (try simp only [List.nil_append] at N15)
  clear F' N' l1' B1 X1 TT1 D1' T1 herr
  k_steps
  refine wpR_execs_nil ?_
  dsimp only
  clear F13 N14
  refine wpR_execs_cons (wpR_For ?_ (by intro _; rfl))
  k_steps
  refine Hold.mk ?_
  (rename IsRange _ _ _ _ _ _ _ _ => hR)
  have hb0 : (0 : Int) ≤ (if (if 3 < (ns.length : Int) then 3 else (ns.length : Int)) > 1 then if 3 < (ns.length : Int) then 3 else (ns.length : Int) else 1) := by split <;> (try split) <;> omega
  have hb3 : (if (if 3 < (ns.length : Int) then 3 else (ns.length : Int)) > 1 then if 3 < (ns.length : Int) then 3 else (ns.length : Int) else 1) ≤ 3 := by split <;> (try split) <;> omega
  generalize (if (if 3 < (ns.length : Int) then 3 else (ns.length : Int)) > 1 then if 3 < (ns.length : Int) then 3 else (ns.length : Int) else 1) = b at hR hb0 hb3
  refine iter_R (by k_asm) (by k_asm) hR hb0 (by omega) ?_
  intro I2 oI2 h20 F20 N20 hI20 _
  refine k_loop w ho2 s X Tp hd hu hM hI hn hb3 ?_ b.toNat 0 h20 _ oI2 _ _ (by omega) (by omega) (fr_ks0 (fr_script rfl F20)) N20 (by rw [Int.sub_zero]; exact hI20)
  intro h' tk m' F'
  dsimp only
  have N' : News g L h' [] := fun _ h => nomatch h
  refine wpR_clean ?_
  clear N20 F20
  k_steps
  dsimp only [ThenR]
  exact hfin _ _ _ F'

end
section
example : True := by
  w_top off
  k_with_none
  (k_with "exec Raise some none" => (k_here; k_dflt (refine' Raise_fault ?k1 ?k2 ?_; (case k1 => k_asm); (case k2 => k_asm); k_whole)))
  (k_with "call ref" => (k_here; (with_reducible show wpAny _ _ (call (Value.ref 52) _) _ _ _); k_dflt (refine' fault ?k1 ?k2 ?k3 ?k4 ?k5 ?k6 ?k7 ?k8 ?_; (case k1 => k_asm); (case k2 => k_asm); (case k3 => k_asm); (case k4 => k_asm); (case k5 => k_asm); (case k6 => first | assumption | exact rfl); (case k7 => k_extra "my_room"); (case k8 => k_extra "my_room"); k_whole); intro h' e' tk' F' M'; (try k_sweep)))
  (k_with "FaultQ" => (refine ⟨_, _, _, _, rfl, by assumption, by assumption, ?_⟩))
  (k_with "leaving ref" => (k_here; first | (refine' leave_first ?k1 ?k2 ?k3 ?k4 ?_; (case k3 => assumption); (case k1 => assumption); (case k2 => assumption); (case k4 => exact rfl); k_whole; intro h' R') | (refine' leave_next ?k1 ?k2 ?k3 ?_; (case k3 => assumption); (case k1 => assumption); (case k2 => assumption); k_whole; intro h' R')))
  (k_with "k_ne" => first | with_reducible assumption | exact Ne.symm (by with_reducible assumption) | exact Nat.ne_of_gt (by with_reducible assumption) | exact Nat.ne_of_lt (by with_reducible assumption) | exact Ne.symm (And.left (by k_extra "k_cj0")) | exact Nat.ne_of_gt (And.left (by k_extra "k_cj0")) | exact And.left (by k_extra "k_cj0"))
  (k_with "k_cj0" => first | with_reducible assumption | exact And.right (by k_extra "k_cj1"))
  (k_with "k_cj1" => first | with_reducible assumption | exact And.right (by k_extra "k_cj2"))
  (k_with "k_cj2" => first | with_reducible assumption | exact And.right (by k_extra "k_cj3"))
  (k_with "k_cj3" => first | with_reducible assumption | exact And.right (by k_extra "k_cj4"))
  (k_with "k_cj4" => first | with_reducible assumption | exact And.right (by k_extra "k_cj5"))
  (k_with "k_cj5" => first | with_reducible assumption | exact And.right (by k_extra "k_cj6"))
  (k_with "k_cj6" => first | with_reducible assumption | exact And.right (by k_extra "k_cj7"))
  (k_with "k_cj7" => first | with_reducible assumption | exact And.right (by k_extra "k_cj8"))
  (k_with "k_cj8" => first | with_reducible assumption | exact And.right (by k_extra "k_cj9"))
  (k_with "k_cj9" => first | with_reducible assumption | exact And.right (by with_reducible assumption))
  (k_with "my_mem" => first | (with_reducible exact List.mem_cons_self) | (with_reducible refine List.mem_cons_of_mem _ ?_; k_extra "my_mem"))
  (k_with "my_room" => first | exact room9 (by with_reducible assumption) (by exact rfl) | exact room8 (by with_reducible assumption) (by exact rfl) | exact room7 (by with_reducible assumption) | ktr_room | ktr_units)
  trivial
example : True := by
  (k_with "call builtin:list.append" => (with_reducible refine Hold.out ?_))
  (k_with "k_mem" => first | exact List.Mem.head _ | (refine' List.Mem.tail _ ?_; k_mem) | (show _ ∈ (_ : List (Addr × Obj)); with_reducible assumption))
  (k_with "callWith" => (with_reducible refine Hold.out ?_))
  trivial
theorem star_tuple (elts : List Expr) (k : Nat) (pos : Pos) (rest : List Expr) (env : Env) : starEach (.Tuple elts k pos :: rest) env = (false, eval (.Tuple elts k pos) env) :: starEach rest env := rfl
theorem append_sub {prog : Program} {w : World} {A : Around} {E : Value → Shared → Prop} {s : Shared} {h₀ : Heap} {L l : Addr} {m : PySem.Str → Option Value} {vs : List Value} {n : Nat} {x : Value} {big rest : List (Addr × Obj)} {Q : Value → Shared → Prop} (F : Fr h₀ L s.heap m) (N : News h₀ L s.heap big) (hm : (l, W.listOf vs.toArray n) ∈ big) (sub : ∀ q ∈ rest, q ∈ big) (ne : ∀ q ∈ rest, q.1 ≠ l) (hz : vs.length ≤ 1000)
    (h : ∀ h', Fr h₀ L h' m → News h₀ L h' ((l, W.listOf (vs ++ [x]).toArray (n + 1)) :: rest) → Q .none { s with heap := h' }) : wpAny (model prog w) A (call (.builtin "list.append") [.ref l, x]) Q E s := by
  have z := N _ hm
  refine append_at (hsz := by rw [List.size_toArray, sizeLine_eq]; omega) z.1 fun h' hs ho' => h h' (F.change hs z.2.1 z.2.2) (fun q hq => ?_)
  rcases List.mem_cons.mp hq with rfl | hq
  · exact ⟨by rw [show (vs ++ [x]).toArray = vs.toArray.push x by simp]; exact ho', z.2⟩
  · have := N q (sub q hq)
    exact ⟨(hs.2 q.1 (ne q hq)).trans this.1, this.2⟩
theorem news_swap {h₀ h : Heap} {L : Addr} {a b : Addr × Obj} {l : List (Addr × Obj)} (N : News h₀ L h (a :: b :: l)) : News h₀ L h (b :: a :: l) := fun q hq => by
  rcases List.mem_cons.mp hq with rfl | hq
  · exact N _ (.tail _ (.head _))
  · rcases List.mem_cons.mp hq with rfl | hq
    · exact N _ (.head _)
    · exact N q (.tail _ (.tail _ hq))
theorem app_led {h₀ h : Heap} {L pp dl c3 c2 c1 ra C : Addr} {o1 o2 o3 o4 o5 o6 o7 : Obj} {big : List (Addr × Obj)} (N : News h₀ L h ((pp, o1) :: (dl, o2) :: (c3, o3) :: (c2, o4) :: (c1, o5) :: (ra, o6) :: (C, o7) :: big)) (neC : ∀ q ∈ big, q.1 ≠ C) (neR : ∀ q ∈ (C, o7) :: big, q.1 ≠ ra)
    (a1 : ra < c1) (b1 : C < c1) (a2 : ra < c2) (b2 : C < c2) (a3 : ra < c3) (b3 : C < c3) (a4 : ra < dl) (b4 : C < dl) (a5 : ra < pp) (b5 : C < pp) :
    (∀ q ∈ (C, o7) :: (pp, o1) :: (dl, o2) :: (c3, o3) :: (c2, o4) :: (c1, o5) :: big, q ∈ (pp, o1) :: (dl, o2) :: (c3, o3) :: (c2, o4) :: (c1, o5) :: (ra, o6) :: (C, o7) :: big) ∧
    (∀ q ∈ (C, o7) :: (pp, o1) :: (dl, o2) :: (c3, o3) :: (c2, o4) :: (c1, o5) :: big, q.1 ≠ ra) ∧ (∀ q ∈ (ra, o6) :: (pp, o1) :: (dl, o2) :: (c3, o3) :: (c2, o4) :: (c1, o5) :: big, q.1 ≠ C) := by
  refine ⟨fun q hq => ?_, ?_, ?_⟩
  · rcases List.mem_cons.mp hq with rfl | hq
    · exact List.mem_append_right [(pp, o1), (dl, o2), (c3, o3), (c2, o4), (c1, o5)] (.tail _ (.head _))
    · have hq : q ∈ [(pp, o1), (dl, o2), (c3, o3), (c2, o4), (c1, o5)] ++ big := hq
      exact (List.mem_append.mp hq).elim (List.mem_append_left _) fun h => List.mem_append_right [(pp, o1), (dl, o2), (c3, o3), (c2, o4), (c1, o5)] (.tail _ (.tail _ h))
  · refine List.forall_mem_cons.mpr ⟨neR _ (.head _), List.forall_mem_cons.mpr ⟨Nat.ne_of_gt a5, List.forall_mem_cons.mpr ⟨Nat.ne_of_gt a4, List.forall_mem_cons.mpr ⟨Nat.ne_of_gt a3, List.forall_mem_cons.mpr ⟨Nat.ne_of_gt a2, List.forall_mem_cons.mpr ⟨Nat.ne_of_gt a1, fun q hq => neR q (.tail _ hq)⟩⟩⟩⟩⟩⟩
  · refine List.forall_mem_cons.mpr ⟨Ne.symm (neR _ (.head _)), List.forall_mem_cons.mpr ⟨Nat.ne_of_gt b5, List.forall_mem_cons.mpr ⟨Nat.ne_of_gt b4, List.forall_mem_cons.mpr ⟨Nat.ne_of_gt b3, List.forall_mem_cons.mpr ⟨Nat.ne_of_gt b2, List.forall_mem_cons.mpr ⟨Nat.ne_of_gt b1, neC⟩⟩⟩⟩⟩⟩
theorem law_app (w : World) {oc : Value} {od an : Option Addr} {name qual : PySem.Str} {params : Arguments} {body : List Stmt} {scope : Scope} {dV kV doc pm cdv ct : Value} {osl : Array (Option Value)}
    (ho : (Mine.hd.heap_39 w.params).lookup 338 = some ⟨oc, od, .func (fnOf name qual params body scope dV kV doc pm an cdv ct), osl⟩)
    {p : Program} {loose : List PySem.Str} {mean : ExcName → Option Value} {mg mb : PySem.Str → Option Value} {dp un : Nat} {gd : Option (List Code)} {g : Heap} {L fa ra M : Addr} {ccd : Value} {s : Shared} {Q : Flow → Shared → Prop} {E : Value → Shared → Prop}
    {oh : Obj} {v0 : Option Value} {big : List (Addr × Obj)} {nr n1 n2 : Nat} {p1 p2 D1 D2 : Addr} {u1 u2 : Tok} {ys1 ys2 vs : List Value} {ns : List Int}
    (X : (Mine.hd.heap_39 w.params).In g) (Tp : Top p loose mean mg mb g) (hd : dp + 90 < recursionLimit) (hu : un + 1000 < cLine) (hM : g.IsList M vs.toArray) (hI : IntsAre vs ns) (hn : ns.length ≤ 63) (dh : oh.data = .cell v0)
    (F : Fr g L s.heap (rowR (.ref ra) (.ref M))) (N : News g L s.heap ((ra, W.listOf [Value.ref p1, .ref p2].toArray nr) :: (L + 1, oh) :: big)) (neC : ∀ q ∈ big, q.1 ≠ L + 1) (neR : ∀ q ∈ (L + 1, oh) :: big, q.1 ≠ ra)
    (h1 : (p1, tupO [.str (Str.ofString "/*/ */a") u1, .ref D1]) ∈ big) (h2 : (p2, tupO [.str (Str.ofString "1.") u2, .ref D2]) ∈ big)
    (k1 : (D1, W.listOf ys1.toArray n1) ∈ big) (k2 : (D2, W.listOf ys2.toArray n2) ∈ big) (t1 : TupsIn big ys1 dsA) (t2 : TupsIn big ys2 dsB) (z1 : ys1.length = 2) (z2 : ys2.length = 2)
    (hfin : ∀ h' tk m', Fr g L h' m' → Q (.ret (.bool true)) { s with heap := h', toks := tk }) :
    wpR (model PySem.Challenge.pw_pf0076_01 w) (ktrTop dp un gd qual scope L fa ccd [(Str.ofString "here", L + 1)] []) (execs (body.drop 1) (envX qual scope L fa ccd [(Str.ofString "here", L + 1)])) Q E s := by
  have ho2 := ho
  obtain ⟨f2, f4, f5⟩ := fn_inj ho (show (Mine.hd.heap_39 w.params).lookup 338 = some ⟨_, _, .func (fnOf _ _ _ _ _ _ _ _ _ _ _ _), _⟩ by k_is)
  subst f2 f4 f5
  clear ho
  dsimp only [List.drop]
  have B := below_caller g
  refine wpR_clean ?_
  k_steps
  refine Hold.mk ?_
  with_reducible refine callWith_method1 ?_ (star_tuple _ _ _ _ _) rfl
  k_steps
  refine Hold.mk ?_
  (rename News _ _ _ _ => N30)
  (rename_i c1 hh1 l1 c2 hh2 l2 c3 hh3 l3 dl hh4 l4 pp hh5 FF l5)
  obtain ⟨sub, ner, nec⟩ := app_led N30 neC neR l1.1 l1.2.1 l2.2.1 l2.2.2.1 l3.2.2.1 l3.2.2.2.1 l4.2.2.2.1 l4.2.2.2.2.1 l5.2.2.2.2.1 l5.2.2.2.2.2.1
  refine append_sub FF N30 (.tail _ (.tail _ (.tail _ (.tail _ (.tail _ (.head _)))))) sub ner (Nat.le_of_ble_eq_true rfl) ?_
  clear sub ner N30 FF l1 l2 l3 l4 l5
  intro h40 F40 N40
  k_steps
  dsimp only [ThenR]
  have N41 := news_swap N40
  clear N40
  have RR := fun (tk20 : Nat) (Q20 : Flow → Shared → Prop) (E20 : Value → Shared → Prop) => law_rest (s := { s with heap := h40, toks := tk20 }) (Q := Q20) (E := E20) (fa := fa) (ccd := ccd) (dp := dp) (un := un) (gd := gd) (p3 := pp) (D3 := dl) (ys3 := [.ref c1, .ref c2, .ref c3]) w ho2 X Tp hd hu hM hI hn dh F40 N41 ?y0 (.head _) (.tail _ (.tail _ (.tail _ (.tail _ (.tail _ (.tail _ h1)))))) (.tail _ (.tail _ (.tail _ (.tail _ (.tail _ (.tail _ h2)))))) (.tail _ (.head _)) (.tail _ (.tail _ (.tail _ (.tail _ (.tail _ (.tail _ k1)))))) (.tail _ (.tail _ (.tail _ (.tail _ (.tail _ (.tail _ k2)))))) (.tail _ (.tail _ (.head _))) ?y5 ?y6 ?y7 z1 z2 rfl
  exact RR _ _ _ hfin
  (case y0 => have hra := nec _ (List.Mem.head _); exact List.forall_mem_cons.mpr ⟨hra, fun q hq => nec q (.tail _ hq)⟩)
  (case y5 => exact t1.sub fun q hq => .tail _ (.tail _ (.tail _ (.tail _ (.tail _ (.tail _ hq))))))
  (case y6 => exact t2.sub fun q hq => .tail _ (.tail _ (.tail _ (.tail _ (.tail _ (.tail _ hq))))))
  (case y7 =>
    refine' TupsIn.cons ?m1 ?v1 ?_
    (case m1 => k_extra "my_mem")
    (case v1 => exact .cons (.str _ _) (.cons (.str _ _) (.cons (.int _ _) (.cons .none .nil))))
    refine' TupsIn.cons ?m2 ?v2 ?_
    (case m2 => k_extra "my_mem")
    (case v2 => exact .cons (.str _ _) (.cons (.str _ _) (.cons (.int _ _) (.cons .none .nil))))
    refine' TupsIn.cons ?m3 ?v3 .nil
    (case m3 => k_extra "my_mem")
    (case v3 => exact .cons (.str _ _) (.cons (.str _ _) (.cons (.int _ _) (.cons .none .nil)))))

end
section
example : True := by
  w_top off
  k_with_none
  (k_with "exec Raise some none" => (k_here; k_dflt (refine' Raise_fault ?k1 ?k2 ?_; (case k1 => k_asm); (case k2 => k_asm); k_whole)))
  (k_with "call ref" => (k_here; (with_reducible show wpAny _ _ (call (Value.ref 52) _) _ _ _); k_dflt (refine' fault ?k1 ?k2 ?k3 ?k4 ?k5 ?k6 ?k7 ?k8 ?_; (case k1 => k_asm); (case k2 => k_asm); (case k3 => k_asm); (case k4 => k_asm); (case k5 => k_asm); (case k6 => first | assumption | exact rfl); (case k7 => k_extra "my_room"); (case k8 => k_extra "my_room"); k_whole); intro h' e' tk' F' M'; (try k_sweep)))
  (k_with "FaultQ" => (refine ⟨_, _, _, _, rfl, by assumption, by assumption, ?_⟩))
  (k_with "leaving ref" => (k_here; first | (refine' leave_first ?k1 ?k2 ?k3 ?k4 ?_; (case k3 => assumption); (case k1 => assumption); (case k2 => assumption); (case k4 => exact rfl); k_whole; intro h' R') | (refine' leave_next ?k1 ?k2 ?k3 ?_; (case k3 => assumption); (case k1 => assumption); (case k2 => assumption); k_whole; intro h' R')))
  (k_with "k_ne" => first | with_reducible assumption | exact Ne.symm (by with_reducible assumption) | exact Nat.ne_of_gt (by with_reducible assumption) | exact Nat.ne_of_lt (by with_reducible assumption) | exact Ne.symm (And.left (by k_extra "k_cj0")) | exact Nat.ne_of_gt (And.left (by k_extra "k_cj0")) | exact And.left (by k_extra "k_cj0"))
  (k_with "k_cj0" => first | with_reducible assumption | exact And.right (by k_extra "k_cj1"))
  (k_with "k_cj1" => first | with_reducible assumption | exact And.right (by k_extra "k_cj2"))
  (k_with "k_cj2" => first | with_reducible assumption | exact And.right (by k_extra "k_cj3"))
  (k_with "k_cj3" => first | with_reducible assumption | exact And.right (by k_extra "k_cj4"))
  (k_with "k_cj4" => first | with_reducible assumption | exact And.right (by k_extra "k_cj5"))
  (k_with "k_cj5" => first | with_reducible assumption | exact And.right (by k_extra "k_cj6"))
  (k_with "k_cj6" => first | with_reducible assumption | exact And.right (by k_extra "k_cj7"))
  (k_with "k_cj7" => first | with_reducible assumption | exact And.right (by k_extra "k_cj8"))
  (k_with "k_cj8" => first | with_reducible assumption | exact And.right (by k_extra "k_cj9"))
  (k_with "k_cj9" => first | with_reducible assumption | exact And.right (by with_reducible assumption))
  (k_with "my_mem" => first | (with_reducible exact List.mem_cons_self) | (with_reducible refine List.mem_cons_of_mem _ ?_; k_extra "my_mem"))
  (k_with "my_room" => first | exact room9 (by with_reducible assumption) (by exact rfl) | exact room8 (by with_reducible assumption) (by exact rfl) | exact room7 (by with_reducible assumption) | ktr_room | ktr_units)
  trivial
theorem rows_led {h₀ h : Heap} {L ra p2 dB b2 b1 p1 dA a2 a1 C : Addr} {o1 o2 o3 o4 o5 o6 o7 o8 o9 o10 : Obj} (N : News h₀ L h [(ra, o1), (p2, o2), (dB, o3), (b2, o4), (b1, o5), (p1, o6), (dA, o7), (a2, o8), (a1, o9), (C, o10)])
    (l1 : C < a1) (l2 : C < a2) (l3 : C < dA) (l4 : C < p1) (l5 : C < b1) (l6 : C < b2) (l7 : C < dB) (l8 : C < p2) (l9 : p2 < ra ∧ dB < ra ∧ b2 < ra ∧ b1 < ra ∧ p1 < ra ∧ dA < ra ∧ a2 < ra ∧ a1 < ra ∧ C < ra) :
    News h₀ L h ((ra, o1) :: (C, o10) :: [(p2, o2), (dB, o3), (b2, o4), (b1, o5), (p1, o6), (dA, o7), (a2, o8), (a1, o9)]) ∧ (∀ q ∈ [(p2, o2), (dB, o3), (b2, o4), (b1, o5), (p1, o6), (dA, o7), (a2, o8), (a1, o9)], q.1 ≠ C) ∧
    (∀ q ∈ (C, o10) :: [(p2, o2), (dB, o3), (b2, o4), (b1, o5), (p1, o6), (dA, o7), (a2, o8), (a1, o9)], q.1 ≠ ra) := by
  refine ⟨fun q hq => N q ((List.mem_cons.mp hq).elim (fun e => e ▸ .head _) fun hq => .tail _ ((List.mem_cons.mp hq).elim (fun e => e ▸ List.mem_append_right [(p2, o2), (dB, o3), (b2, o4), (b1, o5), (p1, o6), (dA, o7), (a2, o8), (a1, o9)] (.head _)) (List.mem_append_left [(C, o10)]))), ?_, ?_⟩
  · simp only [List.forall_mem_cons, List.not_mem_nil, false_implies, implies_true, and_true]
    exact ⟨Nat.ne_of_gt l8, Nat.ne_of_gt l7, Nat.ne_of_gt l6, Nat.ne_of_gt l5, Nat.ne_of_gt l4, Nat.ne_of_gt l3, Nat.ne_of_gt l2, Nat.ne_of_gt l1⟩
  · simp only [List.forall_mem_cons, List.not_mem_nil, false_implies, implies_true, and_true]
    obtain ⟨m1, m2, m3, m4, m5, m6, m7, m8, m9⟩ := l9
    exact ⟨Nat.ne_of_lt m9, Nat.ne_of_lt m1, Nat.ne_of_lt m2, Nat.ne_of_lt m3, Nat.ne_of_lt m4, Nat.ne_of_lt m5, Nat.ne_of_lt m6, Nat.ne_of_lt m7, Nat.ne_of_lt m8⟩
theorem law_body (w : World) {oc : Value} {od an : Option Addr} {name qual : PySem.Str} {params : Arguments} {body : List Stmt} {scope : Scope} {dV kV doc pm cdv ct : Value} {osl : Array (Option Value)}
    (ho : (Mine.hd.heap_39 w.params).lookup 338 = some ⟨oc, od, .func (fnOf name qual params body scope dV kV doc pm an cdv ct), osl⟩)
    {p : Program} {loose : List PySem.Str} {mean : ExcName → Option Value} {mg mb : PySem.Str → Option Value} {dp un : Nat} {gd : Option (List Code)} {g : Heap} {L fa M : Addr} {ccd : Value} {s : Shared} {Q : Flow → Shared → Prop} {E : Value → Shared → Prop}
    {oh : Obj} {v0 : Option Value} {vs : List Value} {ns : List Int}
    (X : (Mine.hd.heap_39 w.params).In g) (Tp : Top p loose mean mg mb g) (hd : dp + 90 < recursionLimit) (hu : un + 1000 < cLine) (hM : g.IsList M vs.toArray) (hI : IntsAre vs ns) (hn : ns.length ≤ 63) (dh : oh.data = .cell v0)
    (F : Fr g L s.heap (fun y => if y = Str.ofString "script" then some (.ref M) else none)) (N : News g L s.heap [(L + 1, oh)])
    (hfin : ∀ h' tk m', Fr g L h' m' → Q (.ret (.bool true)) { s with heap := h', toks := tk }) :
    wpR (model PySem.Challenge.pw_pf0076_01 w) (ktrTop dp un gd qual scope L fa ccd [(Str.ofString "here", L + 1)] []) (execs body (envX qual scope L fa ccd [(Str.ofString "here", L + 1)])) Q E s := by
  have ho2 := ho
  obtain ⟨f2, f4, f5⟩ := fn_inj ho (show (Mine.hd.heap_39 w.params).lookup 338 = some ⟨_, _, .func (fnOf _ _ _ _ _ _ _ _ _ _ _ _), _⟩ by k_is)
  subst f2 f4 f5
  clear ho
  have B := below_caller g
  refine wpR_clean ?_
  k_steps
  dsimp only [ThenR]
  (rename News _ _ _ _ => N30)
  (rename_i a1 g1 l1 a2 g2 l2 dA g3 l3 p1 g4 l4 b1 g5 l5 b2 g6 l6 dB g7 l7 p2 g8 l8 ra g9 l9 gg FF)
  clear B
  obtain ⟨N41, neC, neR⟩ := rows_led N30 l1 l2.2 l3.2.2 l4.2.2.2 l5.2.2.2.2 l6.2.2.2.2.2 l7.2.2.2.2.2.2 l8.2.2.2.2.2.2.2 l9
  clear N30
  have RR := fun (tk20 : Nat) (Q20 : Flow → Shared → Prop) (E20 : Value → Shared → Prop) => law_app (s := { s with heap := gg, toks := tk20 }) (Q := Q20) (E := E20) (fa := fa) (ccd := ccd) (dp := dp) (un := un) (gd := gd) (ys1 := [.ref a1, .ref a2]) (ys2 := [.ref b1, .ref b2]) (u1 := s.toks) w ho2 X Tp hd hu hM hI hn dh FF N41 neC neR (.tail _ (.tail _ (.tail _ (.tail _ (.head _))))) (.head _) (.tail _ (.tail _ (.tail _ (.tail _ (.tail _ (.head _)))))) (.tail _ (.head _)) ?y5 ?y6 rfl rfl
  exact RR _ _ _ hfin
  (case y5 =>
    refine' TupsIn.cons ?m1 ?v1 ?_
    (case m1 => k_extra "my_mem")
    (case v1 => exact .cons (.str _ _) (.cons (.str _ _) (.cons (.int _ _) (.cons .none .nil))))
    refine' TupsIn.cons ?m2 ?v2 .nil
    (case m2 => k_extra "my_mem")
    (case v2 => exact .cons (.str _ _) (.cons (.str _ _) (.cons (.int _ _) (.cons .none .nil)))))
  (case y6 =>
    refine' TupsIn.cons ?m3 ?v3 ?_
    (case m3 => k_extra "my_mem")
    (case v3 => exact .cons (.str _ _) (.cons (.str _ _) (.cons (.int _ _) (.cons (.int _ _) .nil))))
    refine' TupsIn.cons ?m4 ?v4 .nil
    (case m4 => k_extra "my_mem")
    (case v4 => exact .cons (.str _ _) (.cons (.str _ _) (.cons (.int _ _) (.cons .none .nil)))))

end
section
example : True := by
  w_top off
  k_with_none
  trivial
theorem wpAny_guard {α : Type} {M : Model} {A : Around} {t d : Sem α} {Q : α → Shared → Prop} {E : Value → Shared → Prop} {s : Shared} (h : wpR M A t Q E s) (h' : wpAny M A d Q E s) : wpAny M A (guardR t d) Q E s := fun Γ p hΓ => wp_guardR.mpr ⟨fun r => h Γ p hΓ r, fun _ => h' Γ p hΓ⟩
theorem wpR_prog {p q : Program} {w : World} {A : Around} {t : Sem Flow} {Q : Flow → Shared → Prop} {E : Value → Shared → Prop} {s : Shared} (e : q = p) (h : wpR (model p w) A t Q E s) : wpR (model q w) A t Q E s := e ▸ h
theorem prog_eq : PySem.Challenge.rw_pf0076_01.row.prog = PySem.Challenge.pw_pf0076_01 := by
  unfold PySem.W.OpenLaw.row
  dsimp only
  unfold PySem.Challenge.rw_pf0076_01
  with_reducible rfl
theorem post_true (ns : List Int) : PySem.Challenge.rw_pf0076_01.row.claim.post [ofPy (PyData.list (List.map PyData.int ns))] (WData.bool true) [ofPy (PyData.list (List.map PyData.int ns))] = true :=
  postW_of (r := PySem.Challenge.rw_pf0076_01.row.toRowW) (X := true) (by wrow_shape) (by wtm_val) rfl
theorem callA (name : PySem.Str) (scope : Scope) (L a : Addr) (cd : Value) (cells : List (PySem.Str × Addr)) : callerA.deeper (envX name scope L a cd cells) = ktrTop (callerA.depth + 1) 7 (some []) name scope L a cd cells [] := rfl
theorem law_holds : PySem.Challenge.rw_pf0076_01.Holds := by
  refine hd ?_
  k_fill
  intro w s₀ s₁ mg mb G Y fa o pm cd doc dV kV ho hd hcd hD hmg hg args vals as hpre hlay hrd hwl hlo
  have KX := kIn_of Y
  have X := (Ground.X G).1
  have V := (Ground.X G).2
  try w_nolog (first | (have GL := glob_more (Ground.glob G (by first | k_qdec | decide +kernel) (by first | k_qdec | decide +kernel)) V) | (have GL := glob_more (Ground.glob G (by decide +kernel)) V))
  refine Ground.open G ?_
  intro T B D TE TW
  try (refine guard_noD D (by decide +kernel) ?_; clear D)
  obtain ⟨_, _, M⟩ := bmod_of_top T
  have TA := at_of_top T
  try (obtain ⟨_, _, he, B0⟩ := based_of_top T rfl hmg ho hd; have he' : cd = _ := he; subst he'; clear he)
  clear hmg
  wrow_args hpre hlay hrd hwl hlo
  (rename List Int => ns)
  (rename IntsAre _ _ => hI)
  (rename Heap.IsList _ _ _ => hLi)
  have hn63 : ns.length ≤ 63 := by omega
  have hgood : ∀ s' : Shared, (∀ b o, s₁.heap.get? b = some o → s'.heap.get? b = some o) → s'.os = s₁.os → s'.gens = s₁.gens → GoodWG Challenge.rw_pf0076_01.row.claim (classAt s₀.heap) (ExcName.means s₀.heap) [ofPy (PyData.list (List.map PyData.int ns))] s₁ (Except.ok (Flow.ret (.bool true))) s' := fun s' h1 h2 h3 =>
    GoodW.toG ⟨.inl ⟨_, .bool true, [], rfl, fun _ => rfl, (.bool true), post_true ns, fun _ => ⟨List.nodup_nil, fun _ h => nomatch h⟩⟩, h1, h2, h3.trans hg⟩
  refine wpAny_guard ?_ (wpAny_pure (hgood s₁ (fun _ _ e => e) rfl rfl))
  refine wpR_call ?_
  have he := Dflts.none hD rfl
  subst he
  have he := Dflts.noKw hD
  subst he
  refine code_topC (K := Mine.hd.heap_39 w.params) KX T (by decide) ho (fd_plain hd) hcd rfl rfl rfl (BindsTo.of_eq rfl) (by rfl) (by show ([Str.ofString "here"] : List PySem.Str).Nodup; decide +kernel) ?_ rfl rfl rfl
  intro L' h1 tk1 cells env' he' F0 N0 Y0
  have henv : env' = envX (Str.ofString "law") _ L' fa _ [(Str.ofString "here", L' + 1)] := he'
  clear he'
  subst henv
  dsimp only at Y0
  k_cells Y0
  (rename_i o7 d7)
  have F1 : Fr s₁.heap L' h1 (fun y => if y = Str.ofString "script" then some (.ref _) else none) := F0
  clear F0
  rw [callA]
  dsimp only [docDef]
  with_reducible refine wpR_prog prog_eq ?_
  have RR := fun (ccd : Value) (Q20 : Flow → Shared → Prop) (E20 : Value → Shared → Prop) => law_body (s := { s₁ with heap := h1, toks := tk1 }) (Q := Q20) (E := E20) (fa := fa) (ccd := ccd) (dp := callerA.depth + 1) (un := 7) (gd := some []) w (show (Mine.hd.heap_39 w.params).lookup 338 = some _ by k_is) KX T (by decide) (by decide) hLi hI hn63 d7 F1 N0
  with_reducible refine RR _ _ _ ?_
  intro h' tk m' F'
  exact hgood _ (fun b o e => F'.keep b o e) rfl rfl

end
end Internal
end Mine
set_option maxRecDepth 100000 in
set_option maxHeartbeats 8000000 in
theorem PySem.Challenge.cw_pf0076_01_holds : PySem.Challenge.rw_pf0076_01.Holds := by
  exact Mine.Internal.law_holds
