import PyProof.Rows.All
import Wide.All
import OpenK.AllK
import Wide.FinOn
import Lean
import PySem.Challenge.RW_sa0339_01
set_option Elab.async false
set_option maxRecDepth 100000
set_option compiler.extract_closed false
namespace Mine
section
open PySem PySem.W PyProof.Rows
set_option maxRecDepth 100000
set_option maxHeartbeats 8000000
theorem sSelf : PySem.W.openSeen = PySem.W.openSeen := rfl
name_quick tw7232422423428716515 for PySem.W.openSeen by Mine.sSelf
name_quick tw6004533443673955352 for PySem.W.openSeen by Mine.sSelf
name_quick tw219737044198020058 for PySem.W.openSeen by Mine.sSelf
name_quick tw7250012664060256230 for PySem.W.openSeen by Mine.sSelf
name_quick tw43969757491396457 for PySem.W.openSeen by Mine.sSelf
name_quick tw1291980286583624508 for PySem.W.openSeen by Mine.sSelf
name_quick tw1258717718454355964 for PySem.W.openSeen by Mine.sSelf
name_quick tw16145008321745377990 for PySem.W.openSeen by Mine.sSelf
name_quick tw4636218855388986860 for PySem.W.openSeen by Mine.sSelf
name_quick tw282004115355043989 for PySem.W.openSeen by Mine.sSelf
name_quick tw3093977132361051618 for PySem.W.openSeen by Mine.sSelf
name_quick tw7275051467321613617 for PySem.W.openSeen by Mine.sSelf
name_quick tw10528696920762540405 for PySem.W.openSeen by Mine.sSelf
name_quick tw12233582284571471492 for PySem.W.openSeen by Mine.sSelf
name_quick tw17730448691065144110 for PySem.W.openSeen by Mine.sSelf
name_quick tw3619232141914619222 for PySem.W.openSeen by Mine.sSelf
name_quick tw1829445100760108279 for PySem.W.openSeen by Mine.sSelf
name_quick tw1355338860687761863 for PySem.W.openSeen by Mine.sSelf
name_quick tw682011567655089306 for PySem.W.openSeen by Mine.sSelf
name_quick tw11306939235166856333 for PySem.W.openSeen by Mine.sSelf
name_quick tw4011157648589011858 for PySem.W.openSeen by Mine.sSelf
name_quick tw13180171748994924942 for PySem.W.openSeen by Mine.sSelf
name_quick tw12268644228514654432 for PySem.W.openSeen by Mine.sSelf
name_quick tw460243522976405022 for PySem.W.openSeen by Mine.sSelf
name_quick tw5978237884098788730 for PySem.W.openSeen by Mine.sSelf
name_quick tw704327219915372674 for PySem.W.openSeen by Mine.sSelf
name_quick tw18350330562280901221 for PySem.W.openSeen by Mine.sSelf
name_quick tw10010936943081839664 for PySem.W.openSeen by Mine.sSelf
name_quick tw12723771616468540681 for PySem.W.openSeen by Mine.sSelf
name_quick tw151948405760981731 for PySem.W.openSeen by Mine.sSelf
name_quick tw9759809726879904816 for PySem.W.openSeen by Mine.sSelf
name_quick tw13607416678640721797 for PySem.W.openSeen by Mine.sSelf
name_quick tw11277716924127702174 for PySem.W.openSeen by Mine.sSelf
name_quick tw13215998728584607739 for PySem.W.openSeen by Mine.sSelf
name_quick tw16741492637210864865 for PySem.W.openSeen by Mine.sSelf
name_quick tw9285146279643344392 for PySem.W.openSeen by Mine.sSelf
name_quick tw11130039905162102590 for PySem.W.openSeen by Mine.sSelf
name_quick tw18101931140130867144 for PySem.W.openSeen by Mine.sSelf
name_quick tw15168306246750427876 for PySem.W.openSeen by Mine.sSelf
name_quick tw951843321253372498 for PySem.W.openSeen by Mine.sSelf
name_quick tw14386061602966655976 for PySem.W.openSeen by Mine.sSelf
name_quick tw3891137856419664920 for PySem.W.openSeen by Mine.sSelf
name_quick tw13789449189825218787 for PySem.W.openSeen by Mine.sSelf
name_quick tw16643379632663270332 for PySem.W.openSeen by Mine.sSelf
name_quick tw4658958612460137192 for PySem.W.openSeen by Mine.sSelf
name_quick tw9029142643779711378 for PySem.W.openSeen by Mine.sSelf
name_quick tw17964007177503468958 for PySem.W.openSeen by Mine.sSelf
name_quick tw17888162413812561239 for PySem.W.openSeen by Mine.sSelf
name_quick tw14537914154153760125 for PySem.W.openSeen by Mine.sSelf
name_quick tw11682034243073823630 for PySem.W.openSeen by Mine.sSelf
name_quick tw14108194823987119177 for PySem.W.openSeen by Mine.sSelf
name_quick tw3577408171920636059 for PySem.W.openSeen by Mine.sSelf
name_quick tw17164873540382356111 for PySem.W.openSeen by Mine.sSelf
name_quick tw18260038339965228139 for PySem.W.openSeen by Mine.sSelf
name_quick tw14126943448341045398 for PySem.W.openSeen by Mine.sSelf
name_quick tw6589095468515690095 for PySem.W.openSeen by Mine.sSelf
name_quick tw11270796479367742343 for PySem.W.openSeen by Mine.sSelf
name_quick tw17975652961387846372 for PySem.W.openSeen by Mine.sSelf
name_quick tw3698559305507148144 for PySem.W.openSeen by Mine.sSelf
name_quick tw3803298628253846420 for PySem.W.openSeen by Mine.sSelf
name_quick tw4527066259768149269 for PySem.W.openSeen by Mine.sSelf
name_quick tw5357591511691535388 for PySem.W.openSeen by Mine.sSelf
name_quick tw14333388528381170442 for PySem.W.openSeen by Mine.sSelf
name_quick tw3362959441861295915 for PySem.W.openSeen by Mine.sSelf
name_quick tw8579058602437062094 for PySem.W.openSeen by Mine.sSelf
name_quick tw17111948838632640456 for PySem.W.openSeen by Mine.sSelf
name_quick tw16817318245366136608 for PySem.W.openSeen by Mine.sSelf
name_quick tw16548257151911338427 for PySem.W.openSeen by Mine.sSelf
name_quick tw17552769576498331613 for PySem.W.openSeen by Mine.sSelf
name_quick tw4978915544186085027 for PySem.W.openSeen by Mine.sSelf
name_quick tw10007627690174824804 for PySem.W.openSeen by Mine.sSelf
name_quick tw4292500188555128830 for PySem.W.openSeen by Mine.sSelf
name_quick tw16531745337717519161 for PySem.W.openSeen by Mine.sSelf
name_quick tw14884601019740666482 for PySem.W.openSeen by Mine.sSelf
name_quick tw14834023430324568649 for PySem.W.openSeen by Mine.sSelf
name_quick tw1503297043503765363 for PySem.W.openSeen by Mine.sSelf
name_quick tw13016732220969518872 for PySem.W.openSeen by Mine.sSelf
name_quick tw15263041282635125899 for PySem.W.openSeen by Mine.sSelf
name_quick tw12659028871203227004 for PySem.W.openSeen by Mine.sSelf
name_quick tw2905824091091238844 for PySem.W.openSeen by Mine.sSelf
name_quick tw5721027456603625697 for PySem.W.openSeen by Mine.sSelf
name_quick tw13317431791736044220 for PySem.W.openSeen by Mine.sSelf
name_quick tw12290603225136948437 for PySem.W.openSeen by Mine.sSelf
name_quick tw6122645084068987007 for PySem.W.openSeen by Mine.sSelf
name_quick tw1537898542681612871 for PySem.W.openSeen by Mine.sSelf
name_quick tw14714103240675001986 for PySem.W.openSeen by Mine.sSelf
name_quick tw8860024209350480642 for PySem.W.openSeen by Mine.sSelf
name_quick tw8719427161674164953 for PySem.W.openSeen by Mine.sSelf
name_quick tw636462944352149979 for PySem.W.openSeen by Mine.sSelf
name_quick tw3778451253796500701 for PySem.W.openSeen by Mine.sSelf
name_quick tw17476080006546285661 for PySem.W.openSeen by Mine.sSelf
name_quick tw11333186260410459676 for PySem.W.openSeen by Mine.sSelf
name_quick tw9501820088010722379 for PySem.W.openSeen by Mine.sSelf
name_quick tw3282434896037501709 for PySem.W.openSeen by Mine.sSelf
name_quick tw2627984346626558326 for PySem.W.openSeen by Mine.sSelf
name_quick tw2283851925072248500 for PySem.W.openSeen by Mine.sSelf
name_quick tw17954471519018878134 for PySem.W.openSeen by Mine.sSelf
name_quick tw4302124980754421698 for PySem.W.openSeen by Mine.sSelf
name_quick tw11588390666370768167 for PySem.W.openSeen by Mine.sSelf
name_quick tw5529568453561195837 for PySem.W.openSeen by Mine.sSelf
name_quick tw17000155066101142889 for PySem.W.openSeen by Mine.sSelf
name_quick tw16593013826814733010 for PySem.W.openSeen by Mine.sSelf
name_quick tw15490439104401381959 for PySem.W.openSeen by Mine.sSelf
name_quick tw16643706677886111943 for PySem.W.openSeen by Mine.sSelf
name_quick tw10887116778572429059 for PySem.W.openSeen by Mine.sSelf
name_quick tw10323183001455561277 for PySem.W.openSeen by Mine.sSelf
name_quick tw5349121933718820234 for PySem.W.openSeen by Mine.sSelf
name_quick tw9136488742655976645 for PySem.W.openSeen by Mine.sSelf
name_quick tw15980859228951719591 for PySem.W.openSeen by Mine.sSelf
name_quick tw17532440430192770315 for PySem.W.openSeen by Mine.sSelf
name_quick tw2670528217467546775 for PySem.W.openSeen by Mine.sSelf
name_quick tw2478078296215019888 for PySem.W.openSeen by Mine.sSelf
name_quick tw2949557819572172630 for PySem.W.openSeen by Mine.sSelf
name_quick tw8206430501311747189 for PySem.W.openSeen by Mine.sSelf
name_quick tw1402947280878808549 for PySem.W.openSeen by Mine.sSelf
name_quick tw3976722010076183465 for PySem.W.openSeen by Mine.sSelf
name_quick tw17988542015724977305 for PySem.W.openSeen by Mine.sSelf
name_quick tw16846860572762119324 for PySem.W.openSeen by Mine.sSelf
name_quick tw3972328310683599613 for PySem.W.openSeen by Mine.sSelf
name_quick tw5396446701170858492 for PySem.W.openSeen by Mine.sSelf
name_quick tw6679490504615227074 for PySem.W.openSeen by Mine.sSelf
name_quick tw9763268239775435451 for PySem.W.openSeen by Mine.sSelf
name_quick tw14168537005229113720 for PySem.W.openSeen by Mine.sSelf
name_quick tw7392212959928792091 for PySem.W.openSeen by Mine.sSelf
name_quick tw8693227569615203950 for PySem.W.openSeen by Mine.sSelf
name_quick tw14821650378409806113 for PySem.W.openSeen by Mine.sSelf
name_quick tw8753696776887207221 for PySem.W.openSeen by Mine.sSelf
name_quick tw932993149863042379 for PySem.W.openSeen by Mine.sSelf
name_quick tw6380047634161181297 for PySem.W.openSeen by Mine.sSelf
name_quick tw13678640442995254988 for PySem.W.openSeen by Mine.sSelf
name_quick tw11543547407058413889 for PySem.W.openSeen by Mine.sSelf
name_quick tw1702518465993881591 for PySem.W.openSeen by Mine.sSelf
name_quick tw4549333791460862111 for PySem.W.openSeen by Mine.sSelf
name_quick tw13123762751457820565 for PySem.W.openSeen by Mine.sSelf
name_quick tw8075568018651887793 for PySem.W.openSeen by Mine.sSelf
name_quick tw14433975572909055671 for PySem.W.openSeen by Mine.sSelf
name_quick tw5268983451555188008 for PySem.W.openSeen by Mine.sSelf
name_quick tw3094477031063562474 for PySem.W.openSeen by Mine.sSelf
name_quick tw17100903815162463580 for PySem.W.openSeen by Mine.sSelf
name_quick tw4090926877573551719 for PySem.W.openSeen by Mine.sSelf
name_quick tw16018607276475445134 for PySem.W.openSeen by Mine.sSelf
name_quick tw3152983702415266003 for PySem.W.openSeen by Mine.sSelf
name_quick tw10942035263794033107 for PySem.W.openSeen by Mine.sSelf
name_quick tw13254397897704925713 for PySem.W.openSeen by Mine.sSelf
name_quick tw7269565832213808900 for PySem.W.openSeen by Mine.sSelf
name_quick tw11186114360453789277 for PySem.W.openSeen by Mine.sSelf
name_quick tw900395245841561262 for PySem.W.openSeen by Mine.sSelf
name_quick tw11445135464325071761 for PySem.W.openSeen by Mine.sSelf
name_quick tw11788150170368784547 for PySem.W.openSeen by Mine.sSelf
name_quick tw12945451867199242903 for PySem.W.openSeen by Mine.sSelf
name_quick tw5770868932273138760 for PySem.W.openSeen by Mine.sSelf
name_quick tw16241802466949684156 for PySem.W.openSeen by Mine.sSelf
name_quick tw9315938663221665524 for PySem.W.openSeen by Mine.sSelf
name_quick tw10996506086634736982 for PySem.W.openSeen by Mine.sSelf
name_quick tw1333364371103165705 for PySem.W.openSeen by Mine.sSelf
name_quick tw8603108125212654177 for PySem.W.openSeen by Mine.sSelf
name_quick tw14559557019303687921 for PySem.W.openSeen by Mine.sSelf
name_quick tw10205541121877940668 for PySem.W.openSeen by Mine.sSelf
name_quick tw7299303143086499733 for PySem.W.openSeen by Mine.sSelf
name_quick tw16916688483869632129 for PySem.W.openSeen by Mine.sSelf
name_quick tw17828083071136270317 for PySem.W.openSeen by Mine.sSelf
name_quick tw8703263022893421829 for PySem.W.openSeen by Mine.sSelf
name_quick tw6434138532213402376 for PySem.W.openSeen by Mine.sSelf
name_quick tw1620339239838986703 for PySem.W.openSeen by Mine.sSelf
name_quick tw2660918139993853925 for PySem.W.openSeen by Mine.sSelf
name_quick tw9137105182441381901 for PySem.W.openSeen by Mine.sSelf
name_quick tw10833955939284561965 for PySem.W.openSeen by Mine.sSelf
name_quick tw17532718790514356516 for PySem.W.openSeen by Mine.sSelf
name_quick tw9948023125614773506 for PySem.W.openSeen by Mine.sSelf
name_quick tw4933834842325187142 for PySem.W.openSeen by Mine.sSelf
name_quick tw10938465397075749097 for PySem.W.openSeen by Mine.sSelf
name_quick tw17730428716208468724 for PySem.W.openSeen by Mine.sSelf
name_quick tw11784535905851794696 for PySem.W.openSeen by Mine.sSelf
name_quick tw1414301608579184545 for PySem.W.openSeen by Mine.sSelf
name_quick tw14223099787259518943 for PySem.W.openSeen by Mine.sSelf
name_quick tw17018628822417861297 for PySem.W.openSeen by Mine.sSelf
name_quick tw15475462885187679331 for PySem.W.openSeen by Mine.sSelf
name_quick tw5706481520468235054 for PySem.W.openSeen by Mine.sSelf
name_quick tw8595292554425487202 for PySem.W.openSeen by Mine.sSelf
name_quick tw11985326045990495214 for PySem.W.openSeen by Mine.sSelf
name_quick tw6929956602132211858 for PySem.W.openSeen by Mine.sSelf
name_quick tw13236226663087606529 for PySem.W.openSeen by Mine.sSelf
name_quick tw17057272898397164401 for PySem.W.openSeen by Mine.sSelf
name_quick tw392140993173905013 for PySem.W.openSeen by Mine.sSelf
name_quick tw18056578402003937789 for PySem.W.openSeen by Mine.sSelf
name_quick tw10029231156530900338 for PySem.W.openSeen by Mine.sSelf
name_quick tw18416463498863911781 for PySem.W.openSeen by Mine.sSelf
name_quick tw8537084889766193716 for PySem.W.openSeen by Mine.sSelf
name_quick tw17497748084772794779 for PySem.W.openSeen by Mine.sSelf
name_quick tw662354867322794072 for PySem.W.openSeen by Mine.sSelf
name_quick tw15112985482279097393 for PySem.W.openSeen by Mine.sSelf
name_quick tw12635297910168745909 for PySem.W.openSeen by Mine.sSelf
name_quick tw18340240734955500558 for PySem.W.openSeen by Mine.sSelf
name_quick tw13559156169165276386 for PySem.W.openSeen by Mine.sSelf
name_quick tw4558998842232669794 for PySem.W.openSeen by Mine.sSelf
name_quick tw7892128664451923741 for PySem.W.openSeen by Mine.sSelf
name_quick tw2664551874359636763 for PySem.W.openSeen by Mine.sSelf
name_quick tw18220123701641295943 for PySem.W.openSeen by Mine.sSelf
name_quick tw4552823106982906706 for PySem.W.openSeen by Mine.sSelf
name_quick tw13759679279233594173 for PySem.W.openSeen by Mine.sSelf
name_quick tw2039238271031011813 for PySem.W.openSeen by Mine.sSelf
name_quick tw10706342367453228570 for PySem.W.openSeen by Mine.sSelf
name_quick tw6448080314894763839 for PySem.W.openSeen by Mine.sSelf
name_quick tw4679858250743294509 for PySem.W.openSeen by Mine.sSelf
name_quick tw14725528821904125628 for PySem.W.openSeen by Mine.sSelf
name_quick tw13145125596335152023 for PySem.W.openSeen by Mine.sSelf
name_quick tw9908251947323293946 for PySem.W.openSeen by Mine.sSelf
name_quick tw18345786424863182364 for PySem.W.openSeen by Mine.sSelf
name_quick tw505943868828395459 for PySem.W.openSeen by Mine.sSelf
name_quick tw9407582987413476825 for PySem.W.openSeen by Mine.sSelf
name_quick tw6792406925840432001 for PySem.W.openSeen by Mine.sSelf
name_quick tw11317593695737139937 for PySem.W.openSeen by Mine.sSelf
name_quick tw6817277305950994716 for PySem.W.openSeen by Mine.sSelf
name_quick tw11420187438672877268 for PySem.W.openSeen by Mine.sSelf
name_quick tw5111356299099525756 for PySem.W.openSeen by Mine.sSelf
name_quick tw7745614565497352828 for PySem.W.openSeen by Mine.sSelf
name_quick tw7914648769195401137 for PySem.W.openSeen by Mine.sSelf
name_quick tw6683783046931543321 for PySem.W.openSeen by Mine.sSelf
name_quick tw4797165386629745026 for PySem.W.openSeen by Mine.sSelf
name_quick tw8727135674562949291 for PySem.W.openSeen by Mine.sSelf
name_quick tw14979626087600564940 for PySem.W.openSeen by Mine.sSelf
name_quick tw2408619945344806742 for PySem.W.openSeen by Mine.sSelf
name_quick tw11452132507678324671 for PySem.W.openSeen by Mine.sSelf
name_quick tw3560238982266916124 for PySem.W.openSeen by Mine.sSelf
name_quick tw8424611434330503625 for PySem.W.openSeen by Mine.sSelf
name_quick tw13900631225919944168 for PySem.W.openSeen by Mine.sSelf
name_quick tw14023627001141898710 for PySem.W.openSeen by Mine.sSelf
name_quick tw9862997608875712007 for PySem.W.openSeen by Mine.sSelf
name_quick tw8376441433122354887 for PySem.W.openSeen by Mine.sSelf
name_quick tw15894407043143930727 for PySem.W.openSeen by Mine.sSelf
name_quick tw7304268236622374541 for PySem.W.openSeen by Mine.sSelf
name_quick tw13358618909089187005 for PySem.W.openSeen by Mine.sSelf
name_quick tw11729385059970357855 for PySem.W.openSeen by Mine.sSelf
name_quick tw10227693086864044499 for PySem.W.openSeen by Mine.sSelf
name_quick tw6245536207120538393 for PySem.W.openSeen by Mine.sSelf
name_quick tw16414604833108395602 for PySem.W.openSeen by Mine.sSelf
name_quick tw16349804527192203551 for PySem.W.openSeen by Mine.sSelf
name_quick tw5200128776193632040 for PySem.W.openSeen by Mine.sSelf
name_quick tw1377046205977697930 for PySem.W.openSeen by Mine.sSelf
name_quick tw9564595351457756722 for PySem.W.openSeen by Mine.sSelf
name_quick tw387338674003428930 for PySem.W.openSeen by Mine.sSelf
name_quick tw17000458434675057986 for PySem.W.openSeen by Mine.sSelf
name_quick tw2719445374943340272 for PySem.W.openSeen by Mine.sSelf
name_quick tw15480198773659482676 for PySem.W.openSeen by Mine.sSelf
name_quick tw16049961110935095269 for PySem.W.openSeen by Mine.sSelf
name_quick tw9467589175468403638 for PySem.W.openSeen by Mine.sSelf
name_quick tw117213463901210413 for PySem.W.openSeen by Mine.sSelf
name_quick tw15742981410569661332 for PySem.W.openSeen by Mine.sSelf
name_quick tw4775785305629353868 for PySem.W.openSeen by Mine.sSelf
name_quick tw5902227825499142635 for PySem.W.openSeen by Mine.sSelf
name_quick tw3764465048917985505 for PySem.W.openSeen by Mine.sSelf
name_quick tw17279654841073493023 for PySem.W.openSeen by Mine.sSelf
name_quick tw11566699232636054958 for PySem.W.openSeen by Mine.sSelf
name_quick tw13512673800721320934 for PySem.W.openSeen by Mine.sSelf
open_top hd for PySem.Challenge.rw_sa0339_01
end
section
open PySem PySem.W PyProof.Rows PySem.Calls
set_option maxRecDepth 100000
theorem top_Base : True := by
  w_top off
  trivial



/-- a frame's surroundings: nothing handled -/
abbrev AR (dp un : Nat) (gd : Option (List Code)) (env : Env) (outer : List Env) : Around := { handled := none, depth := dp, frames := some (env :: outer), guards := gd, units := un }

theorem ar_depth {dp un : Nat} {gd : Option (List Code)} {env : Env} {outer : List Env} : (AR dp un gd env outer).depth = dp := rfl

/-- what a caller has at hand -/
structure Cal (w : World) (env : Env) (outer : List Env) (h₀ : Heap) (L : Addr) (m : Str → Option Value) (news : List (Addr × Obj)) (h : Heap) : Prop where
  ex : ∃ (A₀ : Around) (base : Heap) (p : Program) (loose : List Str) (mean : ExcName → Option Value) (mg mb : Str → Option Value),
    Below A₀ base outer h₀ ∧ Fr h₀ L h m ∧ (hd.heap_39 w.params).In h₀ ∧ Top p loose mean mg mb h₀ ∧ env.frame = some L ∧ env.scope.kind = .function
  led : News h₀ L h news
theorem Cal.mk' {w : World} {env : Env} {outer : List Env} {h₀ h : Heap} {L : Addr} {m : Str → Option Value} {news : List (Addr × Obj)} {A₀ : Around} {base : Heap} {p : Program} {loose : List Str} {mean : ExcName → Option Value} {mg mb : Str → Option Value}
    (B : Below A₀ base outer h₀) (F : Fr h₀ L h m) (X : (hd.heap_39 w.params).In h₀) (T : Top p loose mean mg mb h₀) (N : News h₀ L h news) (hf : env.frame = some L) (hk : env.scope.kind = .function) : Cal w env outer h₀ L m news h :=
  ⟨⟨_, _, _, _, _, _, _, B, F, X, T, hf, hk⟩, N⟩

theorem Fr.grown {h₀ h h' : Heap} {L : Addr} {m : Str → Option Value} (F : Fr h₀ L h m) (k : h.StaysIn h') : Fr h₀ L h' m := Fr.after F k
theorem News.grown {h₀ h h' : Heap} {L : Addr} {news : List (Addr × Obj)} (N : News h₀ L h news) (k : h.StaysIn h') : News h₀ L h' news :=
  fun p hp => ⟨k _ _ (N p hp).1, (N p hp).2⟩

section
variable {w : World} {env : Env} {outer : List Env} {h₀ h h' : Heap} {L L' r : Addr} {m m' : Str → Option Value} {news news' : List (Addr × Obj)} {o : Obj}
theorem Cal.fr (C : Cal w env outer h₀ L m news h) : Fr h₀ L h m := let ⟨_, _, _, _, _, _, _, _, F, _⟩ := C.ex; F
theorem Cal.old (C : Cal w env outer h₀ L m news h) (F' : Fr h L' h' m') : News h₀ L h' news := News.grown C.led F'.keep
theorem Cal.off (C : Cal w env outer h₀ L m news h) (N' : News h L' h' news') (hm : (r, o) ∈ news') : ∀ p ∈ news, p.1 ≠ r := fun p hp e => by
  have h1 := (C.led p hp).1
  rw [e, (N' _ hm).2.2] at h1; cases h1
theorem Cal.one (C : Cal w env outer h₀ L m news h) (N' : News h L' h' news') (hm : (r, o) ∈ news') : h'.get? r = some o ∧ r ≠ L ∧ h₀.get? r = none := by
  refine ⟨(N' _ hm).1, fun e => ?_, ?_⟩
  · obtain ⟨oL, _, _, hL, _⟩ := C.fr.ns
    have := (N' _ hm).2.2
    rw [e, hL] at this; cases this
  · cases e : h₀.get? r with
    | none => rfl
    | some o => have := (N' _ hm).2.2; rw [C.fr.keep _ _ e] at this; cases this
theorem Cal.leave {g : Heap} {s' : Shared} {R : Result → Shared → Prop} {v : Value} (C : Cal w env outer h₀ L m news g) (F' : Fr g L' s'.heap m') (N' : News g L' s'.heap news')
    (k : Fr h₀ L s'.heap m → News h₀ L s'.heap (news' ++ news) → (∀ (q : Addr) (o : Obj), (q, o) ∈ news' → ∀ p ∈ news, p.1 ≠ q) → R (.ok (.ret v)) s') : LeaveK h₀ L m g R v s' :=
  leaveK_ F' N' fun kF kN => k kF (News.append kN (C.old F')) fun q o hq => C.off N' hq
theorem News.pick {a : Addr} {o : Obj} {own : List (Addr × Obj)} (hm : (a, o) ∈ own) (N : News h₀ L h (own ++ news)) : News h₀ L h ((a, o) :: news) := fun p hp => by
  rcases List.mem_cons.mp hp with rfl | hp
  · exact N _ (List.mem_append_left _ hm)
  · exact N p (List.mem_append_right _ hp)
theorem News.pick2 {a b : Addr} {o o' : Obj} {own : List (Addr × Obj)} (hm : (a, o) ∈ own) (hm' : (b, o') ∈ own) (N : News h₀ L h (own ++ news)) : News h₀ L h ((a, o) :: (b, o') :: news) := fun p hp => by
  rcases List.mem_cons.mp hp with rfl | hp
  · exact N _ (List.mem_append_left _ hm)
  · exact News.pick hm' N p hp
theorem News.pickC {a : Addr} {o : Obj} {own rest : List (Addr × Obj)} (hm : (a, o) ∈ own) (N : News h₀ L h (own ++ news)) (R : News h₀ L h rest) : News h₀ L h ((a, o) :: rest) := fun p hp => by
  rcases List.mem_cons.mp hp with rfl | hp
  · exact N _ (List.mem_append_left _ hm)
  · exact R p hp
theorem News.pickD {a : Addr} {o : Obj} {own rest : List (Addr × Obj)} (hm : (a, o) ∈ own) (N : News h₀ L h own) (R : News h₀ L h rest) : News h₀ L h ((a, o) :: rest) := fun p hp => by
  rcases List.mem_cons.mp hp with rfl | hp
  · exact N _ hm
  · exact R p hp
theorem News.cons {a : Addr} {o : Obj} (x : h.get? a = some o ∧ a ≠ L ∧ h₀.get? a = none) (N : News h₀ L h news) : News h₀ L h ((a, o) :: news) := fun p hp => by
  rcases List.mem_cons.mp hp with rfl | hp
  · exact x
  · exact N p hp
end

/-- a plain def is entered; its base is the whole heap of the call -/
theorem enter {prog : Program} {w : World} {dp un : Nat} {gd : Option (List Code)} {env : Env} {outer : List Env} {s : Shared} {h₀ : Heap} {L : Addr} {m : Str → Option Value} {news : List (Addr × Obj)} {R : Result → Shared → Prop}
    {name qual : Str} {params : Arguments} {body : List Stmt} {scope : Scope} {dV kV doc pm cdv ct oc : Value} {an od : Option Addr} {osl : Array (Option Value)} {f : Addr} {args : Args} {binds : List (Str × Value)}
    (C : Cal w env outer h₀ L m news s.heap)
    (ho : (hd.heap_39 w.params).lookup f = some ⟨oc, od, .func (fnOf name qual params body scope dV kV doc pm an cdv ct), osl⟩) (hcd : codeIn (hd.heap_39 w.params) cdv qual = true) (hroom : dp < recursionLimit)
    (hbind : BindsTo s (fnOf name qual params body scope dV kV doc pm an cdv ct) args binds) (hloc : ∀ y ∈ binds, scope.names.lookup y.1 = some .local)
    (h : ∀ (L' : Addr) (h₁ : Heap) (base : Heap) (p : Program) (loose : List Str) (mean : ExcName → Option Value) (mg mb : Str → Option Value),
      Fr s.heap L' h₁ (fun y => binds.reverse.lookup y) → News s.heap L' h₁ [] → Below (AR dp un gd env outer) base (env :: outer) s.heap → (hd.heap_39 w.params).In s.heap → Top p loose mean mg mb s.heap →
      wpAny (model prog w) ((AR dp un gd env outer).deeper (envOf qual scope L' f cdv)) (execs body (envOf qual scope L' f cdv))
        (fun fl s' => LeaveK h₀ L m s.heap R (match fl with | .ret v => v | _ => .none) s')
        (fun e s' => wpAny (model prog w) ((AR dp un gd env outer).deeper (envOf qual scope L' f cdv)) (leaving (envOf qual scope L' f cdv) e) (fun _ s'' => R (.error e) s'') (fun e' s'' => R (.error e') s'') s')
        { s with heap := h₁, toks := s.toks + binds.length })
    (hco : scope.isCoroutine = false) (hgen : scope.isGenerator = false) (hk : scope.kind = .function)
    (hcell : ∀ x ∈ scope.names, x.2 ≠ .cell) : codeAny (model prog w) (AR dp un gd env outer) (.call (.ref f) args) R s := by
  obtain ⟨⟨A₀, base, p, loose, mean, mg, mb, B, F, X, T, hf, hke⟩, _⟩ := C
  have st : h₀.StaysIn s.heap := F.keep
  refine codeAny_call_def (fd := fnOf name qual params body scope dV kV doc pm an cdv ct) (body := body) (binds := binds) hroom ((X.keeps st) _ _ ho) rfl (T.nolimit.keeps st) (codeRec_of (X.keeps st) hcd) rfl hbind hcell hloc (fun h₁ hns hk₁ => ?_) hco hgen hk
  have B₁ := pushX B F hf hke
  have B₂ : Below (AR dp un gd env outer) base (env :: outer) s.heap := ⟨rfl, B₁.stays, B₁.frames⟩
  refine wpAny_mono (h _ h₁ base p loose mean mg mb ⟨hns, hk₁, Nat.le_refl _⟩ News.nil B₂ (X.keeps st) (T.keeps st)) (fun fl s' hl => ?_) (fun _ _ y => y)
  obtain ⟨L', m', news', F', N', k⟩ := hl
  refine k (Fr.grown F F'.keep) fun q hq => ⟨(N' q hq).1, fun e => ?_, ?_⟩
  · obtain ⟨oL, _, _, hL, _⟩ := F.ns
    have := (N' q hq).2.2
    rw [e, hL] at this; cases this
  · cases e : h₀.get? q.1 with
    | none => rfl
    | some o => have := (N' q hq).2.2; rw [st _ _ e] at this; cases this

/-- a plain def is entered; some of the caller's objects come along in the ledger -/
theorem enterO {prog : Program} {w : World} {dp un : Nat} {gd : Option (List Code)} {env : Env} {outer : List Env} {s : Shared} {h₀ : Heap} {L : Addr} {m : Str → Option Value} {news : List (Addr × Obj)} {R : Result → Shared → Prop}
    {name qual : Str} {params : Arguments} {body : List Stmt} {scope : Scope} {dV kV doc pm cdv ct oc : Value} {an od : Option Addr} {osl : Array (Option Value)} {f : Addr} {args : Args} {binds : List (Str × Value)} (own : List (Addr × Obj))
    (C : Cal w env outer h₀ L m news s.heap) (NO : News h₀ L s.heap own)
    (ho : (hd.heap_39 w.params).lookup f = some ⟨oc, od, .func (fnOf name qual params body scope dV kV doc pm an cdv ct), osl⟩) (hcd : codeIn (hd.heap_39 w.params) cdv qual = true) (hroom : dp < recursionLimit)
    (hbind : BindsTo s (fnOf name qual params body scope dV kV doc pm an cdv ct) args binds) (hloc : ∀ y ∈ binds, scope.names.lookup y.1 = some .local)
    (h : ∀ (g : Heap) (L' : Addr) (h₁ : Heap) (base : Heap) (p : Program) (loose : List Str) (mean : ExcName → Option Value) (mg mb : Str → Option Value),
      Fr g L' h₁ (fun y => binds.reverse.lookup y) → News g L' h₁ own → Below (AR dp un gd env outer) base (env :: outer) g → (hd.heap_39 w.params).In g → Top p loose mean mg mb g → GSub s.heap g (own.map (·.1)) →
      wpAny (model prog w) ((AR dp un gd env outer).deeper (envOf qual scope L' f cdv)) (execs body (envOf qual scope L' f cdv))
        (fun fl s' => LeaveK h₀ L m g R (match fl with | .ret v => v | _ => .none) s')
        (fun e s' => wpAny (model prog w) ((AR dp un gd env outer).deeper (envOf qual scope L' f cdv)) (leaving (envOf qual scope L' f cdv) e) (fun _ s'' => R (.error e) s'') (fun e' s'' => R (.error e') s'') s')
        { s with heap := h₁, toks := s.toks + binds.length })
    (hco : scope.isCoroutine = false) (hgen : scope.isGenerator = false) (hk : scope.kind = .function)
    (hcell : ∀ x ∈ scope.names, x.2 ≠ .cell) : codeAny (model prog w) (AR dp un gd env outer) (.call (.ref f) args) R s := by
  obtain ⟨⟨A₀, base, p, loose, mean, mg, mb, B, F, X, T, hf, hke⟩, _⟩ := C
  exact code_defG B F X NO T rfl hf hke ho hcd hroom hbind hloc (fun g L' h₁ _ F' N' B' X' T' G => h g L' h₁ base p loose mean mg mb F' N' B' X' T' G) hco hgen hk hcell
/-- what the caller kept to itself stands behind the call -/
theorem News.rest {h₀ g h h' : Heap} {L L' : Addr} {m' : Str → Option Value} {own : List Addr} {news : List (Addr × Obj)} (N : News h₀ L h news) (G : GSub h g own) (F' : Fr g L' h' m') (off : ∀ p ∈ news, p.1 ∉ own) : News h₀ L h' news :=
  fun p hp => ⟨F'.keep _ _ (G _ _ (N p hp).1 (off p hp)), (N p hp).2⟩
theorem GSub.list {h g : Heap} {own : List Addr} {l : Addr} {items : Array Value} (G : GSub h g own) (x : h.IsList l items) (off : l ∉ own) : g.IsList l items := let ⟨o, ho, r⟩ := x; ⟨o, G l o ho off, r⟩

theorem stays_of {g₀ H g h : Heap} {L lb : Addr} {m : Str → Option Value} {news : List (Addr × Obj)} {o : Obj} (hg : g₀.StaysIn H) (G : GSub H g [lb]) (hlb : H.get? lb = some o) (F : Fr g L h m) (N : News g L h news) (hm : (lb, o) ∈ news) : g₀.StaysIn h := fun b x e => by
  have e1 := hg b x e
  by_cases hb : b = lb
  · rw [hb, hlb] at e1
    rw [hb, ← e1]
    exact (N _ hm).1
  · exact F.keep _ _ (G _ _ e1 (by simpa using hb))
theorem stays_fr {g₀ g h : Heap} {L : Addr} {m : Str → Option Value} (hg : g₀.StaysIn g) (F : Fr g L h m) : g₀.StaysIn h := fun b x e => F.keep _ _ (hg b x e)

/-- a def whose names are captured is entered -/
theorem enterC {prog : Program} {w : World} {dp un : Nat} {gd : Option (List Code)} {env : Env} {outer : List Env} {s : Shared} {h₀ : Heap} {L : Addr} {m : Str → Option Value} {news : List (Addr × Obj)} {R : Result → Shared → Prop}
    {name qual : Str} {params : Arguments} {body : List Stmt} {scope : Scope} {dV kV doc pm cdv ct oc : Value} {an od : Option Addr} {osl : Array (Option Value)} {f : Addr} {args : Args} {binds : List (Str × Value)}
    (C : Cal w env outer h₀ L m news s.heap)
    (ho : (hd.heap_39 w.params).lookup f = some ⟨oc, od, .func (fnOf name qual params body scope dV kV doc pm an cdv ct), osl⟩) (hcd : codeIn (hd.heap_39 w.params) cdv qual = true) (hroom : dp < recursionLimit)
    (hbind : BindsTo s (fnOf name qual params body scope dV kV doc pm an cdv ct) args binds)
    (hkind : (binds.all fun y => scope.names.lookup y.1 == some .local || scope.names.lookup y.1 == some .cell) = true) (hnd : ((cellsFrom 0 scope.names []).map (·.1)).Nodup)
    (h : ∀ (L' : Addr) (h₁ : Heap) (tk : Nat) (cells : List (Addr × Obj)) (base : Heap) (p : Program) (loose : List Str) (mean : ExcName → Option Value) (mg mb : Str → Option Value),
      Fr s.heap L' h₁ (bindL (envOfC qual scope L' f cdv).kindOf binds fun _ => none) → News s.heap L' h₁ cells → CellsAre (bindC (envOfC qual scope L' f cdv).kindOf binds fun _ => none) (cellsFrom (L' + 1) scope.names []) cells →
      Below (AR dp un gd env outer) base (env :: outer) s.heap → (hd.heap_39 w.params).In s.heap → Top p loose mean mg mb s.heap →
      wpAny (model prog w) ((AR dp un gd env outer).deeper (envOfC qual scope L' f cdv)) (execs body (envOfC qual scope L' f cdv))
        (fun fl s' => LeaveK h₀ L m s.heap R (match fl with | .ret v => v | _ => .none) s')
        (fun e s' => wpAny (model prog w) ((AR dp un gd env outer).deeper (envOfC qual scope L' f cdv)) (leaving (envOfC qual scope L' f cdv) e) (fun _ s'' => R (.error e) s'') (fun e' s'' => R (.error e') s'') s')
        { s with heap := h₁, toks := tk })
    (hco : scope.isCoroutine = false) (hgen : scope.isGenerator = false) (hk : scope.kind = .function) : codeAny (model prog w) (AR dp un gd env outer) (.call (.ref f) args) R s := by
  obtain ⟨⟨A₀, base, p, loose, mean, mg, mb, B, F, X, T, hf, hke⟩, _⟩ := C
  have st : h₀.StaysIn s.heap := F.keep
  refine codeAny_call_function hroom ((X.keeps st) _ _ ho) rfl hco hgen rfl (codeRec_of (X.keeps st) hcd) (hbind _ _ _ _ ?_)
  refine wpAny_newFunctionEnv_cells hk (kindsX hkind _) fun env' he s' x => ?_
  subst he
  refine ⟨(T.nolimit.keeps st).keeps x.toInCall.keep, codeAny_func ?_⟩
  obtain ⟨h₁, tk, rfl, _⟩ := x.done
  have hk₁ := x.toInCall.keep
  obtain ⟨cells, NC, Y⟩ := Cl.news (h₀ := s.heap) (Nat.le_refl _) fun n c hm => ⟨x.cell n c (lookup_of_mem_nodup (cellsFrom_names scope.names 0 (s.heap.objs.size + 1) [] [] rfl ▸ hnd) hm), x.above n c hm⟩
  have B₁ := pushX B F hf hke
  have B₂ : Below (AR dp un gd env outer) base (env :: outer) s.heap := ⟨rfl, B₁.stays, B₁.frames⟩
  refine wpAny_mono (h _ h₁ tk cells base p loose mean mg mb ⟨x.toInCall.ns, hk₁, Nat.le_refl _⟩ NC Y B₂ (X.keeps st) (T.keeps st)) (fun fl s' hl => ?_) (fun _ _ y => y)
  obtain ⟨L', m', news', F', N', k⟩ := hl
  refine k (Fr.grown F F'.keep) fun q hq => ⟨(N' q hq).1, fun e => ?_, ?_⟩
  · obtain ⟨oL, _, _, hL, _⟩ := F.ns
    have := (N' q hq).2.2
    rw [e, hL] at this; cases this
  · cases e : h₀.get? q.1 with
    | none => rfl
    | some o => have := (N' q hq).2.2; rw [st _ _ e] at this; cases this

def FunAt (h : Heap) (f : Addr) : Prop := ∃ o fd, h.get? f = some o ∧ o.data = .func fd
theorem FunAt.stays {g h : Heap} {f : Addr} (x : FunAt g f) (k : g.StaysIn h) : FunAt h f := let ⟨o, fd, a, b⟩ := x; ⟨o, fd, k _ _ a, b⟩
section
variable {M : Model} {A : Around} {E : Value → Shared → Prop} {s : Shared} {env : Env} {pos : Pos} {f : Addr} {first : List Value} {Q : Value → Shared → Prop}
theorem callWith_F {e : PySem.Expr} {rest : List PySem.Expr} (h : wpAny M A (spliced (backTo pos (starEach (e :: rest) env))) (fun vs s₁ => FunAt s₁.heap f ∧ wpAny M A (call (.ref f) (first ++ vs)) Q E s₁) E s)
    (he : starEach (e :: rest) env = (false, eval e env) :: starEach rest env := by rfl) (hplain : (backTo pos (starEach rest env)).any (·.1) = false := by rfl) :
    wpAny M A (callWith pos (.ref f) first (backTo pos (starEach (e :: rest) env)) []) Q E s := by
  rw [he] at h ⊢
  refine callWith_of (P := fun h => FunAt h f) (by show ((false || (backTo pos (starEach rest env)).any (·.1)) || false) = false; rw [hplain]; rfl) (fun h x => ?_) (evalArgs_plain h)
  obtain ⟨⟨oc, od, dt, sl⟩, fd, ho, hdt⟩ : ∃ o fd, h.get? f = some o ∧ o.data = .func fd := x
  dsimp only at hdt
  subst hdt
  exact ⟨.frame, .inl rfl, (Looks.ld (part := none) ho).andThen .now⟩
end

def AllNe (d : Addr) : List (Addr × Obj) → Prop
  | [] => True
  | p :: r => @Ne Nat p.1 d ∧ AllNe d r
theorem allNe_of {d : Addr} : ∀ {l : List (Addr × Obj)}, (∀ p ∈ l, p.1 ≠ d) → AllNe d l
  | [], _ => trivial
  | p :: _, h => ⟨h p (.head _), allNe_of fun q hq => h q (.tail _ hq)⟩

def rowI (x : Int) : List Int := if x = 0 then [] else [x]
/-- what a product function promises, from the heap g on -/
def TimesOk (w : World) (g : Heap) (f : Addr) (n : Int) : Prop :=
  FunAt g f ∧ ∀ {prog : Program} {dp un : Nat} {gd : Option (List Code)} {env : Env} {outer : List Env} {h₀ : Heap} {L : Addr} {m : Str → Option Value} {news : List (Addr × Obj)} {s : Shared} {Q E : Value → Shared → Prop} {l l2 : Addr} {wx wy : List Value} {x y : Int},
    Cal w env outer h₀ L m news s.heap → g.StaysIn s.heap → dp + 10 < recursionLimit → s.heap.IsList l wx.toArray → IntsAre wx (rowI x) → s.heap.IsList l2 wy.toArray → IntsAre wy (rowI y) →
    0 ≤ x → x < n → 0 ≤ y → y < n →
    (∀ r ws k h' tk', IntsAre ws (rowI (x * y % n)) → 0 ≤ x * y % n → x * y % n < n → Fr h₀ L h' m → News h₀ L h' ((r, W.listOf ws.toArray k) :: news) → (∀ p ∈ news, p.1 ≠ r) → Q (.ref r) { s with heap := h', toks := tk' }) →
    wpAny (model prog w) (AR dp un gd env outer) (call (.ref f) [.ref l, .ref l2]) Q E s

def row2 (w : Int) (v : Int) : List Int := if v = 0 then [] else if v / 2 ^ w.toNat = 0 then [v % 2 ^ w.toNat] else [v % 2 ^ w.toNat, v / 2 ^ w.toNat]
theorem row2_of {v w : Int} (hv : 0 < v) : (if v / 2 ^ w.toNat = 0 then rowI (v % 2 ^ w.toNat) else [v % 2 ^ w.toNat, v / 2 ^ w.toNat]) = row2 w v := by
  unfold row2 rowI
  rw [if_neg (show ¬ v = 0 by omega)]
  split
  · rename_i h
    have := Int.mul_ediv_add_emod v (2 ^ w.toNat)
    rw [h] at this
    rw [if_neg (by simp at this; omega)]
  · rfl
theorem cast_row {ws : List Value} {b n : Int} {i j : Nat} (h : IntsAre ws (rowI (b ^ i % n))) (e : i = j) : IntsAre ws (rowI (b ^ j % n)) := e ▸ h
theorem ints_nil {vs : List Value} (h : IntsAre vs []) : vs = [] := by
  cases vs with
  | nil => rfl
  | cons a r => have := h.length; simp at this
theorem ints_one {vs : List Value} {x : Int} (h : IntsAre vs [x]) : ∃ t, vs = [.int x t] := by
  cases h with
  | cons _ _ h => cases h; exact ⟨_, rfl⟩
theorem ints_two {vs : List Value} {x y : Int} (h : IntsAre vs [x, y]) : ∃ t u, vs = [.int x t, .int y u] := by
  cases h with
  | cons _ _ h => obtain ⟨u, rfl⟩ := ints_one h; exact ⟨_, _, rfl⟩
theorem fill_frag : PySem.Challenge.rw_sa0339_01 = PySem.Challenge.rw_sa0339_01 ∧ hd.heap_39 = hd.heap_39 := by
  k_fill
  exact ⟨rfl, rfl⟩

end
open PySem PySem.W PyProof.Rows PySem.Calls
theorem dlt {a n k R : Nat} (h : a + n < R) (e : Nat.ble k n = true) : a + k < R := Nat.lt_of_le_of_lt (Nat.add_le_add_left (Nat.le_of_ble_eq_true e) a) h
theorem dlt1 {a j n k R : Nat} (h : a + n < R) (e : Nat.ble (j + k) n = true) : a + j + k < R := by
  rw [Nat.add_assoc]
  exact dlt h e
theorem ile {a b c : Int} (h : b ≤ c) (e : a ≤ b) : a ≤ c := Int.le_trans e h
theorem ilt {a b c : Int} (h : a < b) (e : b ≤ c) : a < c := Int.lt_of_lt_of_le h e
local macro_rules | `(tactic| kat_tups) => `(tactic| exact Cal.mk' (by k_asm) (by k_asm) (by k_asm) (by k_asm) (by k_asm) rfl rfl)
local macro_rules | `(tactic| kaf_pre) => `(tactic| (first | assumption | exact Int.le_of_lt (by assumption) | exact ile (by assumption) (by decide) | exact ilt (by assumption) (by decide) | omega | (simp only [List.getD_cons_zero, List.getD_cons_succ, Int.toNat_zero, Int.toNat_one, Int.natCast_add, Int.cast_ofNat_Int] at *; omega) | (simp at *; first | assumption | omega)))
local macro_rules | `(tactic| kaf_suf) => `(tactic| (first | exact Int.emod_nonneg _ (by omega) | exact Int.emod_lt_of_pos _ (by omega) | kaf_pre))
local macro_rules | `(tactic| nest_cls) => `(tactic| ((try dsimp only); first | exact dlt (by assumption) rfl | exact dlt1 (by assumption) rfl | omega))
local macro_rules | `(tactic| tb_start) => `(tactic| ((repeat (rename _ ∧ _ => hz'; clear hz')); (repeat (rename @Ne Nat _ _ => hz'; clear hz')); omega))
local macro_rules | `(tactic| kd_adr) => `(tactic| (first | nest_cls | ((try dsimp only); (repeat (rename _ ∧ _ => hz'; clear hz')); (repeat (rename @Ne Nat _ _ => hz'; clear hz')); omega) | decide))
local macro_rules | `(tactic| kxt_pos) => `(tactic| (first | assumption | omega | decide))
local macro_rules | `(tactic| regstrif_slice) => `(tactic| (first | omega | (simp only [List.getD_cons_zero, List.getD_cons_succ, Int.toNat_zero, Int.toNat_one, Int.natCast_add, Int.cast_ofNat_Int] at *; omega) | (simp at *; omega)))
local macro_rules | `(tactic| k_ne) => `(tactic| (refine neN ?_; (try dsimp only); first | (with_reducible assumption) | (refine Ne.symm ?_; with_reducible assumption) | (refine Nat.ne_of_lt ?_; with_reducible assumption) | (refine Nat.ne_of_gt ?_; with_reducible assumption) | ((repeat (rename _ ∧ _ => hz'; with_reducible first | exact hz'.1 | exact hz'.2 | exact hz'.2.1 | exact hz'.2.2 | exact hz'.2.2.1 | exact hz'.2.2.2 | exact hz'.2.2.2.1 | exact hz'.2.2.2.2 | exact Ne.symm hz'.1 | exact Ne.symm hz'.2 | exact Ne.symm hz'.2.1 | exact Ne.symm hz'.2.2 | exact Ne.symm hz'.2.2.1 | exact Ne.symm hz'.2.2.2 | exact Ne.symm hz'.2.2.2.1 | exact Ne.symm hz'.2.2.2.2 | exact Nat.ne_of_lt hz'.1 | exact Nat.ne_of_gt hz'.1 | exact Nat.ne_of_lt hz'.2 | exact Nat.ne_of_gt hz'.2 | exact Nat.ne_of_lt hz'.2.1 | exact Nat.ne_of_gt hz'.2.1 | exact Nat.ne_of_lt hz'.2.2 | exact Nat.ne_of_gt hz'.2.2 | exact Nat.ne_of_lt hz'.2.2.1 | exact Nat.ne_of_gt hz'.2.2.1 | exact Nat.ne_of_lt hz'.2.2.2 | exact Nat.ne_of_gt hz'.2.2.2 | exact Nat.ne_of_lt hz'.2.2.2.1 | exact Nat.ne_of_gt hz'.2.2.2.1 | exact Nat.ne_of_lt hz'.2.2.2.2 | exact Nat.ne_of_gt hz'.2.2.2.2 | clear hz')); done)))
local macro_rules | `(tactic| walk_at $s:str) => `(tactic| k_extra $s)
local macro_rules | `(tactic| walk_at "pp") => `(tactic| ((all_goals skip); show (_ : Prop)))
local macro_rules | `(tactic| walk_at "hd1") => `(tactic| rename TimesOk _ _ _ _ => hTi)
section
open PySem PySem.W PyProof.Rows PySem.Calls
theorem top_Arith : True := by
  w_top off
  trivial

theorem or_shift {r y : Int} {k : Nat} (h0 : 0 ≤ r) (h1 : 0 ≤ y) (h2 : y < 2 ^ k) : Builtin.bitOr (r * 2 ^ k) y = r * 2 ^ k + y := by
  have hp := kbt_pos k
  have ha : 0 ≤ r * 2 ^ k := Int.mul_nonneg h0 (Int.le_of_lt hp)
  unfold Builtin.bitOr
  rw [bitAnd_nn (by unfold Builtin.bitNot; omega) (by unfold Builtin.bitNot; omega)]
  have e1 : (Builtin.bitNot (Builtin.bitNot (r * 2 ^ k))) = r * 2 ^ k := by unfold Builtin.bitNot; omega
  have e2 : (Builtin.bitNot (Builtin.bitNot y)) = y := by unfold Builtin.bitNot; omega
  rw [e1, e2]
  have e3 : (r * 2 ^ k).toNat = 2 ^ k * r.toNat := by
    have hc := kbt_cast k
    have : ((2 ^ k * r.toNat : Nat) : Int) = r * 2 ^ k := by
      rw [Int.natCast_mul, hc, Int.toNat_of_nonneg h0, Int.mul_comm]
    omega
  have e4 : y.toNat < 2 ^ k := by have hc := kbt_cast k; omega
  rw [e3, ← Nat.two_pow_add_eq_or_of_lt e4]
  have e5 : ((2 ^ k * r.toNat + y.toNat : Nat) : Int) = r * 2 ^ k + y := by
    rw [Int.natCast_add, Int.natCast_mul, kbt_cast, Int.toNat_of_nonneg h0, Int.toNat_of_nonneg h1, Int.mul_comm]
  rw [e5]
  unfold Builtin.bitNot
  omega
theorem fdiv_small {n w : Int} (h0 : 0 ≤ n) (h1 : n < w) : n.fdiv w = 0 := by
  rw [Int.fdiv_eq_ediv_of_nonneg _ (by omega)]; exact Int.ediv_eq_zero_of_lt h0 h1
theorem fmod_small {n w : Int} (h0 : 0 ≤ n) (h1 : n < w) : n.fmod w = n := by
  rw [Int.fmod_eq_emod_of_nonneg _ (by omega)]; exact Int.emod_eq_of_lt h0 h1
theorem fdiv_pow (x : Int) (k : Nat) : x.fdiv (2 ^ k) = x / 2 ^ k := Int.fdiv_eq_ediv_of_nonneg _ (Int.le_of_lt (kbt_pos k))

section
variable {prog : Program} {w : World} {A : Around} {E : Value → Shared → Prop} {s : Shared} {a b : Int} {t u : Tok} {Q : Value → Shared → Prop}
theorem or_shl {k : Nat} {r y : Int} (h0 : 0 ≤ r) (h1 : 0 ≤ y) (h2 : y < 2 ^ k) (hB : r * 2 ^ k + y < 2 ^ 40) (h : ∀ c, c = r * 2 ^ k + y → 0 ≤ c → c < 2 ^ 40 → Q (.int c s.toks) { s with toks := s.toks + 1 }) :
    wpAny (model prog w) A (binaryOp .BitOr (.int (r * 2 ^ k) t) (.int y u)) Q E s := by
  refine or_int ?_
  rw [or_shift h0 h1 h2]
  exact h _ rfl (Int.add_nonneg (Int.mul_nonneg h0 (Int.le_of_lt (kbt_pos k))) h1) hB
theorem item_lit {value slice : PySem.Expr} {l : Addr} {vs : List Value} {k : Int} {v : Value} (hl : s.heap.IsList l vs.toArray) (h0 : 0 ≤ k) (hhi : k < 2 ^ 63) (hx : vs[k.toNat]? = some v) (h : Q v s)
    (hs : subscripted slice false (.ref l) (.int k u) = operate [.ref l, .int k u] (getItem (.ref l) (.int k u)) := by with_unfolding_all rfl) :
    wpAny (model prog w) A (subscriptTail value slice (.ref l) (.int k u)) Q E s :=
  tail_any hl.typeIs slot_list_getitem.lookup (wpAny_getItem_list hl h0 hhi (by simpa using hx) h) hs
theorem eq1_nil {l l2 : Addr} {x : Int} (ha : s.heap.IsList l #[.int x t]) (hb : s.heap.IsList l2 #[]) (hu : A.units + 64 < cLine) (h : Q (.bool false) s) : wpAny (model prog w) A (compareOp .Eq (.ref l) (.ref l2)) Q E s :=
  ke_eq_ints (xs := [.int x t]) (ys := []) (ns := [x]) (ms := []) ha hb (.cons _ _ .nil) .nil hu (by simpa using h)
theorem eq1_one {l l2 : Addr} {x y : Int} (ha : s.heap.IsList l #[.int x t]) (hb : s.heap.IsList l2 #[.int y u]) (hu : A.units + 64 < cLine) (h : Q (.bool (decide (x = y))) s) : wpAny (model prog w) A (compareOp .Eq (.ref l) (.ref l2)) Q E s :=
  ke_eq_ints (xs := [.int x t]) (ys := [.int y u]) (ns := [x]) (ms := [y]) ha hb (.cons _ _ .nil) (.cons _ _ .nil) hu (by simpa using h)
theorem div_gen (hb : 0 < b) (hb1 : b < 2 ^ 30) (ha : 0 ≤ a) (ha1 : a < 2 ^ 40) (h : ∀ c, c = a / b → 0 ≤ c → c ≤ a → Q (.int c s.toks) { s with toks := s.toks + 1 }) :
    wpAny (model prog w) A (binaryOp .FloorDiv (.int a t) (.int b u)) Q E s := by
  refine floordiv_int (by omega) ?_ (Or.inl (PyProof.noPylong_small (by omega)))
  rw [Int.fdiv_eq_ediv_of_nonneg _ (by omega)]
  exact h _ rfl (Int.ediv_nonneg ha (by omega)) (Int.ediv_le_self _ ha)
theorem imod_gen (hb : 0 < b) (hb1 : b < 2 ^ 30) (ha : 0 ≤ a) (ha1 : a < 2 ^ 40) (h : ∀ c, c = a % b → 0 ≤ c → c < b → Q (.int c s.toks) { s with toks := s.toks + 1 }) :
    wpAny (model prog w) A (inplaceOp .Mod (.int a t) (.int b u)) Q E s := by
  refine imod_int (by omega) ?_
  rw [Int.fmod_eq_emod_of_nonneg _ (by omega)]
  exact h _ rfl (Int.emod_nonneg _ (by omega)) (Int.emod_lt_of_pos _ hb)
end
theorem pow_le_2048 {w : Int} (h : w < 12) : (2 : Int) ^ w.toNat ≤ 2048 := by
  have h1 : w.toNat ≤ 11 := by omega
  have h2 : 2 ^ w.toNat ≤ 2 ^ 11 := Nat.pow_le_pow_right (by decide) h1
  have h3 := kbt_cast w.toNat
  omega
theorem pow_ge_512 {w : Int} (h : 9 ≤ w) : (512 : Int) ≤ 2 ^ w.toNat := by
  have h1 : 9 ≤ w.toNat := by omega
  have h2 : 2 ^ 9 ≤ 2 ^ w.toNat := Nat.pow_le_pow_right (by decide) h1
  have h3 := kbt_cast w.toNat
  omega
theorem shl_bound {r y w : Int} (h0 : 0 ≤ r) (h1 : r < 1024) (h3 : y < 2 ^ w.toNat) (hw : w < 12) : r * 2 ^ w.toNat + y < 2 ^ 40 := by
  have h4 := pow_le_2048 hw
  have h5 : r * 2 ^ w.toNat ≤ 1024 * 2048 := Int.mul_le_mul (by omega) h4 (Int.le_of_lt (kbt_pos _)) (by omega)
  omega
theorem bits_pow (k : Nat) : Builtin.Int.intBits (2 ^ k) = k + 1 := by
  have hp := kbt_pos k
  unfold Builtin.Int.intBits
  rw [if_neg (by simp; omega), Int.natAbs_pow]
  show (2 ^ k).log2 + 1 = k + 1
  rw [Nat.log2_two_pow]
theorem trail_val {x wd : Int} {k : Nat} {a : Int} (h : x = 2 ^ k * (2 * a + 1)) : ((0 : Nat) : Int) * wd + (Builtin.Int.intBits (Builtin.bitAnd x (-x)) : Int) - 1 = k := by
  subst h
  rw [kbt_low, bits_pow]
  simp
theorem shift_val {x n wd : Int} (h0 : 0 ≤ x) (h1 : x < 512) (hw : 9 ≤ wd) (e : Nat) : Builtin.bitAnd (Builtin.bitOr (x.fdiv (2 ^ n.toNat)) (0 * 2 ^ e)) (1 * 2 ^ wd.toNat - 1) = x / 2 ^ n.toNat := by
  rw [fdiv_pow, Int.zero_mul, Int.one_mul, bitOr_and, bitAnd_zero, kbt_mask]
  have h2 : 0 ≤ x / 2 ^ n.toNat := Int.ediv_nonneg h0 (Int.le_of_lt (kbt_pos _))
  have h3 : x / 2 ^ n.toNat ≤ x := Int.ediv_le_self _ h0
  have h4 := pow_ge_512 hw
  have h5 : x / 2 ^ n.toNat + 0 - 0 = x / 2 ^ n.toNat := by omega
  rw [h5]
  exact Int.emod_eq_of_lt h2 (by omega)
theorem ediv_zero {v P : Int} (h : v / P = 0) : v % P = v := by
  have := Int.mul_ediv_add_emod v P
  rw [h] at this; simp at this; exact this
theorem win_step {x va v : Int} {e len : Nat} (hl : len < 3) (h1 : va = x / 2 ^ (e + 1) % 2 ^ len) (h2 : v = x / 2 ^ e % 2) : 2 * va + v = x / 2 ^ e % 2 ^ (len + 1) := by
  have h3 : x / 2 ^ (e + 1) = x / 2 ^ e / 2 := by
    rw [Int.pow_succ, Int.ediv_ediv_of_nonneg (Int.le_of_lt (kbt_pos e))]
  rw [h3] at h1
  generalize x / 2 ^ e = A at *
  have : len = 0 ∨ len = 1 ∨ len = 2 := by omega
  rcases this with rfl | rfl | rfl <;> simp only [Int.pow_zero, Int.pow_succ, Int.one_mul] at * <;> omega
theorem win_odd {A v : Int} {q : Nat} (h1 : 1 ≤ q) (h3 : q ≤ 3) (hA : A % 2 = 1) (hv : v = A % 2 ^ q) : v % 2 = 1 ∧ 0 ≤ v ∧ v < 8 := by
  have : q = 1 ∨ q = 2 ∨ q = 3 := by omega
  rcases this with rfl | rfl | rfl <;> simp only [Int.pow_zero, Int.pow_succ, Int.one_mul] at hv <;> omega
theorem step_mod (hi P lo n : Int) : (hi % n * P + lo) % n = (hi * P + lo) % n := by
  rw [Int.add_emod, Int.mul_emod, Int.emod_emod_of_dvd _ (Int.dvd_refl n), ← Int.mul_emod, ← Int.add_emod]
end
section
open PySem PySem.W PyProof.Rows PySem.Calls
theorem top_Arith2 : True := by
  w_top off
  trivial
theorem pw_mul (b n : Int) (i j : Nat) : b ^ i % n * (b ^ j % n) % n = b ^ (i + j) % n := by
  rw [← Int.mul_emod, Int.pow_add]
theorem ediv_pow_succ (x : Int) (k : Nat) : x / 2 ^ (k + 1) = x / 2 ^ k / 2 := by
  rw [Int.pow_succ, Int.ediv_ediv_of_nonneg (Int.le_of_lt (kbt_pos k))]
theorem top_bit {e : Int} (h0 : 0 < e) (h1 : e < 512) : ∃ t : Nat, (Builtin.Int.intBits e : Int) - 1 = t ∧ t < 9 ∧ e / 2 ^ t % 2 = 1 ∧ e / 2 ^ (t + 1) = 0 := by
  refine ⟨e.natAbs.log2, ?_, ?_, ?_⟩
  · unfold Builtin.Int.intBits
    rw [if_neg (by simp; omega)]
    simp
  · rw [Nat.log2_lt (by omega)]
    omega
  · have hn : e.natAbs ≠ 0 := by omega
    have a1 := Nat.log2_self_le hn
    have a2 := @Nat.lt_log2_self e.natAbs
    rw [ediv_pow_succ]
    generalize e.natAbs.log2 = t at *
    have hc := kbt_cast t
    have hp := kbt_pos t
    rw [Nat.pow_succ] at a2
    have b1 : e / 2 ^ t = 1 := by
      have c1 : (1 : Int) ≤ e / 2 ^ t := by
        rw [Int.le_ediv_iff_mul_le hp]; omega
      have c2 : e / 2 ^ t < 2 := by
        rw [Int.ediv_lt_iff_lt_mul hp]; omega
      omega
    rw [b1]
    decide
theorem win_cases1 {e top q v : Int} (h1 : 1 ≤ q) (h2 : q ≤ 1) (hv : v = e / 2 ^ (top + 1 - q).toNat % 2 ^ q.toNat) (ho : v % 2 = 1) : q = 1 ∧ v = 1 := by
  have : q = 1 := by omega
  subst this
  refine ⟨rfl, ?_⟩
  simp only [show (1 : Int).toNat = 1 from rfl, Int.pow_succ, Int.pow_zero, Int.one_mul] at hv
  omega
theorem win_cases2 {e top q v : Int} (h1 : 1 ≤ q) (h2 : q ≤ 2) (h3 : q ≤ top + 1) (hb : e / 2 ^ top.toNat % 2 = 1) (hv : v = e / 2 ^ (top + 1 - q).toNat % 2 ^ q.toNat) (ho : v % 2 = 1) : (q = 1 ∧ v = 1) ∨ (q = 2 ∧ v = 3) := by
  have : q = 1 ∨ q = 2 := by omega
  rcases this with rfl | rfl
  · exact .inl (win_cases1 (by omega) (by omega) hv ho)
  · refine .inr ⟨rfl, ?_⟩
    have e1 : top.toNat = (top + 1 - 2).toNat + 1 := by omega
    rw [e1, ediv_pow_succ] at hb
    simp only [show (2 : Int).toNat = 2 from rfl, Int.pow_succ, Int.pow_zero, Int.one_mul] at hv
    omega
theorem win_cases3 {e top q v : Int} (h1 : 1 ≤ q) (h2 : q ≤ 3) (h3 : q ≤ top + 1) (hb : e / 2 ^ top.toNat % 2 = 1) (hv : v = e / 2 ^ (top + 1 - q).toNat % 2 ^ q.toNat) (ho : v % 2 = 1) : (q = 1 ∧ v = 1) ∨ (q = 2 ∧ v = 3) ∨ (q = 3 ∧ v = 5) ∨ (q = 3 ∧ v = 7) := by
  by_cases hq : q ≤ 2
  · rcases win_cases2 h1 hq h3 hb hv ho with h | h
    · exact .inl h
    · exact .inr (.inl h)
  · have : q = 3 := by omega
    subst this
    have e1 : top.toNat = (top + 1 - 3).toNat + 1 + 1 := by omega
    rw [e1, ediv_pow_succ, ediv_pow_succ] at hb
    simp only [show (3 : Int).toNat = 3 from rfl, Int.pow_succ, Int.pow_zero, Int.one_mul] at hv
    omega
theorem exp_step1 {e spot v : Int} (he : 0 ≤ e) (hs : 0 ≤ spot) (hv : v = e / 2 ^ (spot + 1 - 1).toNat % 2 ^ (1 : Int).toNat) : (e / 2 ^ (spot - 1 + 1).toNat).toNat = 2 * (e / 2 ^ (spot + 1).toNat).toNat + v.toNat := by
  have e1 : (spot + 1).toNat = (spot - 1 + 1).toNat + 1 := by omega
  have e2 : (spot + 1 - 1).toNat = (spot - 1 + 1).toNat := by omega
  rw [e1, ediv_pow_succ]
  rw [e2] at hv
  have := Int.ediv_nonneg he (Int.le_of_lt (kbt_pos (spot - 1 + 1).toNat))
  simp only [show (1 : Int).toNat = 1 from rfl, Int.pow_succ, Int.pow_zero, Int.one_mul] at hv
  obtain ⟨N, hN⟩ : ∃ N : Nat, e / 2 ^ (spot - 1 + 1).toNat = (N : Int) := ⟨_, (Int.toNat_of_nonneg this).symm⟩
  rw [hN] at hv ⊢
  rw [hv]
  exact (Nat.div_add_mod N 2).symm
theorem exp_step2 {e spot v : Int} (he : 0 ≤ e) (hs : 1 ≤ spot) (hv : v = e / 2 ^ (spot + 1 - 2).toNat % 2 ^ (2 : Int).toNat) : (e / 2 ^ (spot - 2 + 1).toNat).toNat = 4 * (e / 2 ^ (spot + 1).toNat).toNat + v.toNat := by
  have e1 : (spot + 1).toNat = (spot - 2 + 1).toNat + 1 + 1 := by omega
  have e2 : (spot + 1 - 2).toNat = (spot - 2 + 1).toNat := by omega
  rw [e1, ediv_pow_succ, ediv_pow_succ]
  rw [e2] at hv
  have := Int.ediv_nonneg he (Int.le_of_lt (kbt_pos (spot - 2 + 1).toNat))
  simp only [show (2 : Int).toNat = 2 from rfl, Int.pow_succ, Int.pow_zero, Int.one_mul] at hv
  obtain ⟨N, hN⟩ : ∃ N : Nat, e / 2 ^ (spot - 2 + 1).toNat = (N : Int) := ⟨_, (Int.toNat_of_nonneg this).symm⟩
  rw [hN] at hv ⊢
  rw [hv]
  show N = 4 * (N / 2 / 2) + N % 4
  rw [Nat.div_div_eq_div_mul]
  exact (Nat.div_add_mod N 4).symm
theorem exp_step3 {e spot v : Int} (he : 0 ≤ e) (hs : 2 ≤ spot) (hv : v = e / 2 ^ (spot + 1 - 3).toNat % 2 ^ (3 : Int).toNat) : (e / 2 ^ (spot - 3 + 1).toNat).toNat = 8 * (e / 2 ^ (spot + 1).toNat).toNat + v.toNat := by
  have e1 : (spot + 1).toNat = (spot - 3 + 1).toNat + 1 + 1 + 1 := by omega
  have e2 : (spot + 1 - 3).toNat = (spot - 3 + 1).toNat := by omega
  rw [e1, ediv_pow_succ, ediv_pow_succ, ediv_pow_succ]
  rw [e2] at hv
  have := Int.ediv_nonneg he (Int.le_of_lt (kbt_pos (spot - 3 + 1).toNat))
  simp only [show (3 : Int).toNat = 3 from rfl, Int.pow_succ, Int.pow_zero, Int.one_mul] at hv
  obtain ⟨N, hN⟩ : ∃ N : Nat, e / 2 ^ (spot - 3 + 1).toNat = (N : Int) := ⟨_, (Int.toNat_of_nonneg this).symm⟩
  rw [hN] at hv ⊢
  rw [hv]
  show N = 8 * (N / 2 / 2 / 2) + N % 8
  rw [Nat.div_div_eq_div_mul, Nat.div_div_eq_div_mul]
  exact (Nat.div_add_mod N 8).symm
theorem exp_step0 {e spot : Int} (he : 0 ≤ e) (hs : 0 ≤ spot) (hv : e / 2 ^ spot.toNat % 2 = 0) : (e / 2 ^ (spot - 1 + 1).toNat).toNat = 2 * (e / 2 ^ (spot + 1).toNat).toNat := by
  have e1 : (spot + 1).toNat = (spot - 1 + 1).toNat + 1 := by omega
  have e2 : spot.toNat = (spot - 1 + 1).toNat := by omega
  rw [e1, ediv_pow_succ]
  rw [e2] at hv
  have := Int.ediv_nonneg he (Int.le_of_lt (kbt_pos (spot - 1 + 1).toNat))
  omega
end
section
open PySem PySem.W PyProof.Rows PySem.Calls PyProof.V PySem.Spec
set_option maxRecDepth 100000
theorem top_EnumB : True := by
  w_top off
  trivial
section
variable {prog : Program} {w : World} {A : Around} {E : Value → Shared → Prop} {s : Shared} {env : Env} {h₀ : Heap} {body : List Stmt} {Q : Flow → Shared → Prop}

/-- enumerate over a list that the callee did not make: turn by turn -/
theorem enum_base {elts : List PySem.Expr} {k : Nat} {pos : Pos} {l : Addr} {vs : List Value} {xs : List Itm} {m₀ : Str → Option Value} {news : List (Addr × Obj)}
    (hh : A.handled = none) (F : Fr h₀ env.locals s.heap m₀) (N : News h₀ env.locals s.heap news) (hl₀ : h₀.IsList l vs.toArray) (hx : enumItems 0 vs = xs)
    (rest₀ : ∀ I : Addr, (∀ p ∈ news, p.1 < I) → ItemsRest prog w A E h₀ env (.Tuple elts k pos) body Q s [(I + 1, "enumerate"), (I, "list_iterator")] [] xs m₀ news) :
    wpAny (model prog w) A (call (.type "enumerate") [.ref l]) (fun xv s₁ => wpAny (model prog w) A (pyIter xv) (fun it s₂ => TurnsAt prog w A h₀ env (.Tuple elts k pos) body Q E it s₂) E s₁) E s := by
  subst hx
  have hl : s.heap.IsList l vs.toArray := Fr.lst F hl₀
  obtain ⟨lo, hlo, _⟩ := hl₀
  have hlL : l < env.locals := Nat.lt_of_lt_of_le (Heap.lt_size hlo) F.above
  have hLs : env.locals < s.heap.objs.size := F.ns.lt
  have hlt : l < s.heap.objs.size := Nat.lt_trans hlL hLs
  have rest := rest₀ s.heap.objs.size fun p hp => Heap.lt_size (N p hp).1
  generalize hI : s.heap.objs.size = I at *
  refine call_enumerate_list hl fun h' hE hIt hsz hk => ?_
  rw [hI] at hE hIt ⊢
  refine wpAny_pyIter_enum hE ?_
  have W := KTurns.ofWalksU (elts := elts) (k := k) (pos := pos) (WalksT.enumerate (prog := prog) (w := w) hh (I + 1) I l (Nat.succ_ne_self _) (ktu_ne 1 hlt) (Nat.ne_of_lt hlt) vs.toArray).toU
  have fresh : ∀ b, I ≤ b → h₀.get? b = none := fun b hb => ktu_new F (hI ▸ hb)
  have inw : ∀ b, b ∈ [I + 1, I] → h₀.get? b = none := fun b hb => by
    rcases List.mem_cons.mp hb with rfl | hb
    · exact fresh _ (Nat.le_succ _)
    · rw [List.mem_singleton.mp hb]; exact fresh _ (Nat.le_refl _)
  have hlw : h₀.get? l ≠ none := by rw [hlo]; simp
  refine ⟨I + 1, _, _, _, _, _, _, m₀, news, fun i m₁ news₁ => ItemsRest prog w A E h₀ env (.Tuple elts k pos) body Q s [(I + 1, "enumerate"), (I, "list_iterator")] [] ((enumItems 0 vs).drop i) m₁ news₁, rfl, W, ?_, ?_, ?_,
    ⟨⟨.none, hE⟩, hIt, hl.at fun o e => hk l o e⟩, F.keeps hk, News.grown N hk, by exact rest, ?_, ?_⟩
  · intro hm
    have hm' : env.locals = I + 1 ∨ env.locals = I ∨ env.locals = l := by simpa using hm
    rcases hm' with e | e | e
    · exact ktu_ne 1 hLs e
    · exact Nat.ne_of_lt hLs e
    · exact Nat.ne_of_gt hlL e
  · intro b hb
    exact inw b (by simpa using hb)
  · intro p hp hm
    have hm' : p.1 = I + 1 ∨ p.1 = I := by simpa using hm
    have hlp : p.1 < I := hI ▸ Heap.lt_size (N p hp).1
    rcases hm' with e | e
    · exact ktu_ne 1 hlp e
    · exact Nat.ne_of_lt hlp e
  · rintro i v m₁ news₁ h₁ tk₁ own hin ⟨T, vals, rfl, ⟨t, x, hx, rfl⟩, hT⟩ hJ hoff hown hget hall ⟨⟨old, he⟩, ⟨oi, hoi, hic, _⟩, _⟩ F₁ N₁
    have hin' : i < (enumItems 0 vs).length := by rw [enumItems_length]; simpa using hin
    have hgx : (enumItems 0 vs)[i]? = some (.pair (fun t => .int ((0 + i : Nat) : Int) t) x) := enumItems_get vs 0 i (by simpa using hx)
    have hd : (enumItems 0 vs).drop i = .pair (fun t => .int ((0 + i : Nat) : Int) t) x :: (enumItems 0 vs).drop (i + 1) := by
      rw [List.drop_eq_getElem_cons hin']
      congr 1
      exact Option.some.inj ((List.getElem?_eq_getElem hin').symm.trans hgx)
    rw [hd] at hJ
    obtain ⟨oe, h1, h2⟩ : ∃ oe : Obj, h₁.get? (I + 1) = some oe ∧ oe.cls = .type "enumerate" := ⟨_, he, rfl⟩
    have ho1 : (I + 1, oe) ∈ own := hall (I + 1) (by simp) (inw _ (by simp)) oe h1
    have ho2 : (I, oi) ∈ own := hall I (by simp) (inw _ (by simp)) oi hoi
    have hobj : Objs [(I + 1, "enumerate"), (I, "list_iterator")] [(I + 1, oe), (I, oi)] := ⟨⟨rfl, h2⟩, ⟨rfl, hic⟩, trivial⟩
    have N₂ : News h₀ env.locals h₁ ([(I + 1, oe), (I, oi)] ++ news₁) := fun p hp => by
      rcases List.mem_cons.mp hp with rfl | hp
      · exact N₁ _ (List.mem_append_left _ ho1)
      · rcases List.mem_cons.mp hp with rfl | hp
        · exact N₁ _ (List.mem_append_left _ ho2)
        · exact N₁ _ (List.mem_append_right _ hp)
    have hT' : IsTup h₁ T #[.int ((0 + i : Nat) : Int) t, x] := by rw [Nat.zero_add]; exact hT
    have go := (hJ (.ref T) h₁ tk₁ ⟨T, t, rfl, hT'⟩ F₁).at hobj N₂
    have fin : ∀ s₃, UnrEndW h₀ env.locals { s with heap := h₁, toks := tk₁ } [(I + 1, oe), (I, oi)] (fun m' n' => SubL [] n' ∧ ItemsRest prog w A E h₀ env (.Tuple elts k pos) body Q s [(I + 1, "enumerate"), (I, "list_iterator")] [] ((enumItems 0 vs).drop (i + 1)) m' n') s₃ →
        LoopStepU h₀ env.locals [I + 1, I] own (fun m₂ news₂ => ItemsRest prog w A E h₀ env (.Tuple elts k pos) body Q s [(I + 1, "enumerate"), (I, "list_iterator")] [] ((enumItems 0 vs).drop (i + 1)) m₂ news₂) { s with heap := h₁, toks := tk₁ } .next s₃ := by
      rintro s₃ ⟨h', tk, m', news', e, F', N', ho, _, r⟩
      refine ⟨rfl, h', tk, m', news', e, F', fun p hp => ?_, fun p hp hm => ?_, r⟩
      · rcases List.mem_append.mp hp with hp | hp
        · have hf : p.1 = I + 1 ∨ p.1 = I ∨ p.1 = l := by simpa using hown p hp
          have hg := hget p hp
          rcases hf with e | e | e
          · have e2 : p = (I + 1, oe) := Prod.ext e (Option.some.inj ((e ▸ hg).symm.trans h1))
            rw [e2]; exact N' _ (by simp)
          · have e2 : p = (I, oi) := Prod.ext e (Option.some.inj ((e ▸ hg).symm.trans hoi))
            rw [e2]; exact N' _ (by simp)
          · exact absurd (e ▸ (N₁ p (List.mem_append_left _ hp)).2.2) hlw
        · exact N' _ (List.mem_append_right _ hp)
      · have hm' : p.1 = I + 1 ∨ p.1 = I := by simpa using hm
        rcases hm' with e | e
        · exact ho p hp (I + 1, oe) (by simp) e
        · exact ho p hp (I, oi) (by simp) e
    refine wpAny_mono go (fun _ s₂ h₂ => wpAny_mono h₂ (fun f s₃ p => ?_) fun _ _ e => e) fun _ _ e => e
    cases f with
    | ret v => exact .ret p
    | brk => exact .brk p
    | next => exact .next (fin _ p)
    | cont => exact .cont (fin _ p)
  · intro h'' tk m' news' F' N' _ hJ
    have z : (enumItems 0 vs).drop vs.toArray.size = [] := List.drop_eq_nil_of_le (by rw [enumItems_length]; simp)
    rw [z] at hJ
    exact hJ h'' tk F' N'
end
end
section
open PySem PySem.W PyProof.Rows PySem.Calls
set_option maxRecDepth 100000
theorem top_C1 : True := by
  w_top off
  trivial

local macro_rules | `(tactic| walk_at "pyIter ref") => `(tactic| ((with_reducible show wpAny _ _ (pyIter (Value.ref _)) (fun it s₂ => LoopAtV _ _ _ _ _ _ _ _ _ it s₂) _ _); k_here; krs_unr))
theorem kw_1 : True := by
  k_with_none
  k_with "execs cons" => (focus (dsimp only at *))
  k_with "LeaveK" => (focus (refine' leaveK_ ?_ ?_ ?_; walk_at "pp"; (· k_asm); walk_at "pp"; (· first | k_asm | exact News.nil); walk_at "pp"; intro _ _; (try dsimp only)))
  trivial
set_option maxHeartbeats 4000000 in
theorem is_even_spec {prog : Program} {w : World} {dp un : Nat} {gd : Option (List Code)} {env : Env} {outer : List Env} {h₀ : Heap} {L : Addr} {m : Str → Option Value} {news : List (Addr × Obj)} {s : Shared} {Q E : Value → Shared → Prop} {l : Addr} {n : Int} {t : Tok}
    (C : Cal w env outer h₀ L m news s.heap) (hd : dp + 1 < recursionLimit) (hl : s.heap.IsList l #[.int n t])
    (ret : ∀ v h' tk', v = (n % 2 == 0) → Fr h₀ L h' m → News h₀ L h' news → Q (.bool v) { s with heap := h', toks := tk' }) :
    wpAny (model prog w) (AR dp un gd env outer) (call (.ref 65) [.ref l]) Q E s := by
  refine wpAny_call ?_
  k_dflt (refine' enter C ?k6 ?k7 ?k8 ?k9 ?kB ?_ ?c2 ?c3 ?c4 ?c5; (case k6 => k_is); (case k7 => k_is); (case k8 => nest_cls); (case k9 => exact BindsTo.of_eq rfl); (case c5 => decide); (case kB => exact locs rfl); (case c2 => exact rfl); (case c3 => exact rfl); (case c4 => exact rfl); k_whole)
  intro L' h₁ base p loose mean mg mb F N B X T
  dsimp only
  k_fold
  k_steps
  all_goals (first | (exact ret _ _ _ (by show (Builtin.bitAnd n 1 == 0) = _; rw [bitAnd_m1]) (by assumption) (C.old (by assumption))))

set_option maxHeartbeats 4000000 in
theorem bit1_spec {prog : Program} {w : World} {dp un : Nat} {gd : Option (List Code)} {env : Env} {outer : List Env} {h₀ : Heap} {L : Addr} {m : Str → Option Value} {news : List (Addr × Obj)} {s : Shared} {Q E : Value → Shared → Prop} {l : Addr} {n x wd : Int} {t u v : Tok}
    (C : Cal w env outer h₀ L m news s.heap) (hd : dp + 1 < recursionLimit) (hl : s.heap.IsList l #[.int x t]) (h0 : 0 ≤ n) (h1 : n < wd) (hw : 0 < wd) (hw2 : wd < 12)
    (ret : ∀ v t h' tk', v = x / 2 ^ n.toNat % 2 → Fr h₀ L h' m → News h₀ L h' news → Q (.int v t) { s with heap := h', toks := tk' }) :
    wpAny (model prog w) (AR dp un gd env outer) (call (.ref 107) [.ref l, .int n u, .int wd v]) Q E s := by
  have hq := fdiv_small h0 h1
  have hr := fmod_small h0 h1
  refine wpAny_call ?_
  k_dflt (refine' enter C ?k6 ?k7 ?k8 ?k9 ?kB ?_ ?c2 ?c3 ?c4 ?c5; (case k6 => k_is); (case k7 => k_is); (case k8 => nest_cls); (case k9 => exact BindsTo.of_eq rfl); (case c5 => decide); (case kB => exact locs rfl); (case c2 => exact rfl); (case c3 => exact rfl); (case c4 => exact rfl); k_whole)
  intro L' h₁ base p loose mean mg mb F N B X T
  dsimp only
  k_fold
  k_steps
  all_goals (first | (exact ret _ _ _ _ (by rw [hq, hr, fdiv_pow, bitAnd_m1]; rfl) (by assumption) (C.old (by assumption))))

set_option maxHeartbeats 4000000 in
theorem bits1_spec {prog : Program} {w : World} {dp un : Nat} {gd : Option (List Code)} {env : Env} {outer : List Env} {h₀ : Heap} {L : Addr} {m : Str → Option Value} {news : List (Addr × Obj)} {s : Shared} {Q E : Value → Shared → Prop} {l : Addr} {x wd : Int} {t v : Tok}
    (C : Cal w env outer h₀ L m news s.heap) (hd : dp + 1 < recursionLimit) (hl : s.heap.IsList l #[.int x t]) (hw0 : 0 ≤ wd) (hw1 : wd < 12)
    (ret : ∀ v t h' tk', v = (Builtin.Int.intBits x : Int) → Fr h₀ L h' m → News h₀ L h' news → Q (.int v t) { s with heap := h', toks := tk' }) :
    wpAny (model prog w) (AR dp un gd env outer) (call (.ref 100) [.ref l, .int wd v]) Q E s := by
  refine wpAny_call ?_
  k_dflt (refine' enter C ?k6 ?k7 ?k8 ?k9 ?kB ?_ ?c2 ?c3 ?c4 ?c5; (case k6 => k_is); (case k7 => k_is); (case k8 => nest_cls); (case k9 => exact BindsTo.of_eq rfl); (case c5 => decide); (case kB => exact locs rfl); (case c2 => exact rfl); (case c3 => exact rfl); (case c4 => exact rfl); k_whole)
  intro L' h₁ base p loose mean mg mb F N B X T
  dsimp only
  k_fold
  k_steps
  all_goals (first | (exact ret _ _ _ _ (by simp) (by assumption) (C.old (by assumption))))

set_option maxHeartbeats 4000000 in
theorem compare11_spec {prog : Program} {w : World} {dp un : Nat} {gd : Option (List Code)} {env : Env} {outer : List Env} {h₀ : Heap} {L : Addr} {m : Str → Option Value} {news : List (Addr × Obj)} {s : Shared} {Q E : Value → Shared → Prop} {l l2 : Addr} {x y: Int} {t u : Tok}
    (C : Cal w env outer h₀ L m news s.heap) (hd : dp + 1 < recursionLimit) (hl : s.heap.IsList l #[.int x t]) (hl2 : s.heap.IsList l2 #[.int y u])
    (ret : ∀ v t h' tk', v = (if x < y then -1 else if x = y then 0 else 1) → Fr h₀ L h' m → News h₀ L h' news → Q (.int v t) { s with heap := h', toks := tk' }) :
    wpAny (model prog w) (AR dp un gd env outer) (call (.ref 72) [.ref l, .ref l2]) Q E s := by
  refine wpAny_call ?_
  k_dflt (refine' enter C ?k6 ?k7 ?k8 ?k9 ?kB ?_ ?c2 ?c3 ?c4 ?c5; (case k6 => k_is); (case k7 => k_is); (case k8 => nest_cls); (case k9 => exact BindsTo.of_eq rfl); (case c5 => decide); (case kB => exact locs rfl); (case c2 => exact rfl); (case c3 => exact rfl); (case c4 => exact rfl); k_whole)
  intro L' h₁ base p loose mean mg mb F N B X T
  dsimp only
  k_fold
  k_steps
  all_goals (first | (((try dsimp only); first | (show LeaveK _ _ _ _ _ _ _; refine' leaveK_ ?k1 ?k2 ?_; (case k1 => k_asm); (case k2 => first | k_asm | exact News.nil); intro kF kN; (try dsimp only)) | skip); exact ret _ _ _ _ (by simp at *; (repeat' split) <;> omega) (by assumption) (C.old (by assumption))))

end
section
open PySem PySem.W PyProof.Rows PySem.Calls
set_option maxRecDepth 100000
section
open PySem PySem.W PyProof.Rows PySem.Calls
set_option maxRecDepth 100000
theorem top_C2 : True := by
  w_top off
  trivial
local macro_rules | `(tactic| walk_at "pyIter ref") => `(tactic| ((with_reducible show wpAny _ _ (pyIter (Value.ref _)) (fun it s₂ => LoopAtV _ _ _ _ _ _ _ _ _ it s₂) _ _); k_here; krs_unr))

theorem kw_2 : True := by
  k_with_none
  k_with "execs cons" => (focus (dsimp only at *))
  k_with "exec While" => (focus (refine whl_start 100 ?_))
  k_with "WhlRest" => (focus (refine whl_turn (by passes_own) ?_))
  k_with "WhlIf" => (focus (unfold WhlIf))
  k_with "WhlPost" => (focus (unfold WhlPost; dsimp only))
  k_with "subscriptTail Name Constant ref int" => (focus (k_here; (with_reducible show wpAny _ _ (subscriptTail _ _ (Value.ref _) (Value.int _ _)) _ _ _); k_dflt (refine' item_lit ?_ ?_ ?_ ?_ ?_; walk_at "pp"; (· is_list); walk_at "pp"; (· first | decide | assumption); walk_at "pp"; (· first | decide | assumption); walk_at "pp"; (· first | rfl | assumption); walk_at "pp"; k_whole)))
  k_with "subscriptTail Name Name ref int" => (focus (k_here; (with_reducible show wpAny _ _ (subscriptTail _ _ (Value.ref _) (Value.int _ _)) _ _ _); k_dflt (refine' item_lit ?_ ?_ ?_ ?_ ?_; walk_at "pp"; (· is_list); walk_at "pp"; (· first | decide | assumption); walk_at "pp"; (· first | decide | assumption); walk_at "pp"; (· first | rfl | assumption); walk_at "pp"; k_whole)))
  k_with "subscriptTail Name BinOp ref int" => (focus (k_here; (with_reducible show wpAny _ _ (subscriptTail _ _ (Value.ref _) (Value.int _ _)) _ _ _); k_dflt (refine' item_lit ?_ ?_ ?_ ?_ ?_; walk_at "pp"; (· is_list); walk_at "pp"; (· first | decide | assumption); walk_at "pp"; (· first | decide | assumption); walk_at "pp"; (· first | rfl | assumption); walk_at "pp"; k_whole)))
  k_with "subscriptTail" => (focus (k_here; (with_reducible show wpAny _ _ (subscriptTail _ _ (Value.ref _) (Value.int _ _)) _ _ _); k_dflt (refine' item_lit ?_ ?_ ?_ ?_ ?_; walk_at "pp"; (· is_list); walk_at "pp"; (· first | decide | assumption); walk_at "pp"; (· first | decide | assumption); walk_at "pp"; (· first | rfl | assumption); walk_at "pp"; k_whole)))
  k_with "LeaveK" => (focus (refine' Cal.leave ?_ ?_ ?_ ?_; walk_at "pp"; (· k_asm); walk_at "pp"; (· k_asm); walk_at "pp"; (· first | k_asm | exact News.nil); walk_at "pp"; intro _ _ _; (try dsimp only)))
  trivial
set_option maxHeartbeats 4000000 in
theorem normal0_spec {prog : Program} {w : World} {dp un : Nat} {gd : Option (List Code)} {env : Env} {outer : List Env} {h₀ : Heap} {L : Addr} {m : Str → Option Value} {news : List (Addr × Obj)} {s : Shared} {Q E : Value → Shared → Prop} {l : Addr}
    (C : Cal w env outer h₀ L m news s.heap) (hd : dp + 1 < recursionLimit) (hl : s.heap.IsList l #[])
    (ret : ∀ r ws k h' tk', IntsAre ws ([]) → Fr h₀ L h' m → News h₀ L h' ((r, W.listOf ws.toArray k) :: news) → (∀ p ∈ news, p.1 ≠ r) → Q (.ref r) { s with heap := h', toks := tk' }) :
    wpAny (model prog w) (AR dp un gd env outer) (call (.ref 58) [.ref l]) Q E s := by
  refine wpAny_call ?_
  k_dflt (refine' enter C ?k6 ?k7 ?k8 ?k9 ?kB ?_ ?c2 ?c3 ?c4 ?c5; (case k6 => k_is); (case k7 => k_is); (case k8 => nest_cls); (case k9 => exact BindsTo.of_eq rfl); (case c5 => decide); (case kB => exact locs rfl); (case c2 => exact rfl); (case c3 => exact rfl); (case c4 => exact rfl); k_whole)
  intro L' h₁ base p loose mean mg mb F N B X T
  dsimp only
  k_fold
  k_steps
  all_goals (first | (rename_i kF kN kO; refine ret _ _ _ _ _ ?_ kF kN (kO _ _ (.head _)); exact .nil))

set_option maxHeartbeats 4000000 in
theorem normal1_spec {prog : Program} {w : World} {dp un : Nat} {gd : Option (List Code)} {env : Env} {outer : List Env} {h₀ : Heap} {L : Addr} {m : Str → Option Value} {news : List (Addr × Obj)} {s : Shared} {Q E : Value → Shared → Prop} {l : Addr} {x : Int} {t : Tok}
    (C : Cal w env outer h₀ L m news s.heap) (hd : dp + 1 < recursionLimit) (hl : s.heap.IsList l #[.int x t])
    (ret : ∀ r ws k h' tk', IntsAre ws (rowI x) → Fr h₀ L h' m → News h₀ L h' ((r, W.listOf ws.toArray k) :: news) → (∀ p ∈ news, p.1 ≠ r) → Q (.ref r) { s with heap := h', toks := tk' }) :
    wpAny (model prog w) (AR dp un gd env outer) (call (.ref 58) [.ref l]) Q E s := by
  refine wpAny_call ?_
  k_dflt (refine' enter C ?k6 ?k7 ?k8 ?k9 ?kB ?_ ?c2 ?c3 ?c4 ?c5; (case k6 => k_is); (case k7 => k_is); (case k8 => nest_cls); (case k9 => exact BindsTo.of_eq rfl); (case c5 => decide); (case kB => exact locs rfl); (case c2 => exact rfl); (case c3 => exact rfl); (case c4 => exact rfl); k_whole)
  intro L' h₁ base p loose mean mg mb F N B X T
  dsimp only
  k_fold
  k_steps
  all_goals (first | (rename_i kF kN kO; refine ret _ _ _ _ _ ?_ kF kN (kO _ _ (.head _)); simp at *; simp [rowI, *]; first | exact .nil | exact .cons _ _ .nil))

set_option maxHeartbeats 4000000 in
theorem normal2_spec {prog : Program} {w : World} {dp un : Nat} {gd : Option (List Code)} {env : Env} {outer : List Env} {h₀ : Heap} {L : Addr} {m : Str → Option Value} {news : List (Addr × Obj)} {s : Shared} {Q E : Value → Shared → Prop} {l : Addr} {x y : Int} {t u : Tok}
    (C : Cal w env outer h₀ L m news s.heap) (hd : dp + 1 < recursionLimit) (hl : s.heap.IsList l #[.int x t, .int y u])
    (ret : ∀ r ws k h' tk', IntsAre ws (if y = 0 then rowI x else [x, y]) → Fr h₀ L h' m → News h₀ L h' ((r, W.listOf ws.toArray k) :: news) → (∀ p ∈ news, p.1 ≠ r) → Q (.ref r) { s with heap := h', toks := tk' }) :
    wpAny (model prog w) (AR dp un gd env outer) (call (.ref 58) [.ref l]) Q E s := by
  refine wpAny_call ?_
  k_dflt (refine' enter C ?k6 ?k7 ?k8 ?k9 ?kB ?_ ?c2 ?c3 ?c4 ?c5; (case k6 => k_is); (case k7 => k_is); (case k8 => nest_cls); (case k9 => exact BindsTo.of_eq rfl); (case c5 => decide); (case kB => exact locs rfl); (case c2 => exact rfl); (case c3 => exact rfl); (case c4 => exact rfl); k_whole)
  intro L' h₁ base p loose mean mg mb F N B X T
  dsimp only
  k_fold
  k_steps
  all_goals (first | (rename_i kF kN kO; refine ret _ _ _ _ _ ?_ kF kN (kO _ _ (.head _)); simp at *; simp [rowI, *]; first | exact .nil | exact .cons _ _ .nil | exact .cons _ _ (.cons _ _ .nil)))

end
section
open PySem PySem.W PyProof.Rows PySem.Calls
set_option maxRecDepth 100000
theorem top_C3 : True := by
  w_top off
  trivial
local macro_rules | `(tactic| walk_at "pyIter ref") => `(tactic| ((with_reducible show wpAny _ _ (pyIter (Value.ref _)) (fun it s₂ => LoopAtV _ _ _ _ _ _ _ _ _ it s₂) _ _); k_here; krs_unr))

local macro_rules | `(tactic| walk_at "binaryOp BitOr int int") => `(tactic| (k_here; (refine' or_shl ?a ?b ?c ?d ?_; (case a | b => regstrif_slice); (case c => first | regstrif_slice | (simp at *; assumption)); (case d => refine shl_bound ?x ?y ?z ?u; (case x | y => regstrif_slice); (case z => first | regstrif_slice | (simp at *; assumption)); (case u => assumption)); intro c' hc' hc0' hc1')))
local macro_rules | `(tactic| walk_at "inplaceOp Mod int int") => `(tactic| (k_here; (refine' imod_gen ?a ?b ?c ?d ?_; (case a | b | c | d => regstrif_slice); intro c' hc' hc0' hc1')))
local macro_rules | `(tactic| walk_at "binaryOp FloorDiv int int") => `(tactic| (k_here; (refine' div_gen ?a ?b ?c ?d ?_; (case a | b | c | d => regstrif_slice); intro c' hc' hc0' hc1')))

theorem kw_3 : True := by
  k_with_none
  k_with "execs cons" => (focus (dsimp only at *))
  k_with "exec While" => (focus (refine whl_start 100 ?_))
  k_with "WhlRest" => (focus (refine whl_turn (by passes_own) ?_))
  k_with "WhlIf" => (focus (unfold WhlIf))
  k_with "WhlPost" => (focus (unfold WhlPost; dsimp only))
  k_with "subscriptTail Name Constant ref int" => (focus (k_here; (with_reducible show wpAny _ _ (subscriptTail _ _ (Value.ref _) (Value.int _ _)) _ _ _); k_dflt (refine' item_lit ?_ ?_ ?_ ?_ ?_; walk_at "pp"; (· is_list); walk_at "pp"; (· first | decide | assumption); walk_at "pp"; (· first | decide | assumption); walk_at "pp"; (· first | rfl | assumption); walk_at "pp"; k_whole)))
  k_with "subscriptTail Name Name ref int" => (focus (k_here; (with_reducible show wpAny _ _ (subscriptTail _ _ (Value.ref _) (Value.int _ _)) _ _ _); k_dflt (refine' item_lit ?_ ?_ ?_ ?_ ?_; walk_at "pp"; (· is_list); walk_at "pp"; (· first | decide | assumption); walk_at "pp"; (· first | decide | assumption); walk_at "pp"; (· first | rfl | assumption); walk_at "pp"; k_whole)))
  k_with "subscriptTail Name BinOp ref int" => (focus (k_here; (with_reducible show wpAny _ _ (subscriptTail _ _ (Value.ref _) (Value.int _ _)) _ _ _); k_dflt (refine' item_lit ?_ ?_ ?_ ?_ ?_; walk_at "pp"; (· is_list); walk_at "pp"; (· first | decide | assumption); walk_at "pp"; (· first | decide | assumption); walk_at "pp"; (· first | rfl | assumption); walk_at "pp"; k_whole)))
  k_with "subscriptTail" => (focus (k_here; (with_reducible show wpAny _ _ (subscriptTail _ _ (Value.ref _) (Value.int _ _)) _ _ _); k_dflt (refine' item_lit ?_ ?_ ?_ ?_ ?_; walk_at "pp"; (· is_list); walk_at "pp"; (· first | decide | assumption); walk_at "pp"; (· first | decide | assumption); walk_at "pp"; (· first | rfl | assumption); walk_at "pp"; k_whole)))
  k_with "call ref" => (focus (k_here; (with_reducible show wpAny _ _ (call (Value.ref 58) _) _ _ _); k_dflt (first | (refine' normal0_spec ?_ ?_ ?_ ?_; walk_at "pp"; (· kat_tups); walk_at "pp"; rotate_left; walk_at "pp"; (· is_list); walk_at "pp"; rotate_left; walk_at "pp"; (· nest_cls); walk_at "pp") | (refine' normal1_spec ?_ ?_ ?_ ?_; walk_at "pp"; (· kat_tups); walk_at "pp"; rotate_left; walk_at "pp"; (· is_list); walk_at "pp"; rotate_left; walk_at "pp"; (· nest_cls); walk_at "pp") | (refine' normal2_spec ?_ ?_ ?_ ?_; walk_at "pp"; (· kat_tups); walk_at "pp"; rotate_left; walk_at "pp"; (· is_list); walk_at "pp"; rotate_left; walk_at "pp"; (· nest_cls); walk_at "pp")); intro _ _ _ _ _ _ _ _ _; (try dsimp only)))
  k_with "LeaveK" => (focus (refine' Cal.leave ?_ ?_ ?_ ?_; walk_at "pp"; (· k_asm); walk_at "pp"; (· k_asm); walk_at "pp"; (· first | k_asm | exact News.nil); walk_at "pp"; intro _ _ _; (try dsimp only)))
  trivial
set_option maxHeartbeats 4000000 in
theorem divrem_limb1_spec {prog : Program} {w : World} {dp un : Nat} {gd : Option (List Code)} {env : Env} {outer : List Env} {h₀ : Heap} {L : Addr} {m : Str → Option Value} {news : List (Addr × Obj)} {s : Shared} {Q E : Value → Shared → Prop} {l : Addr} {x n wd : Int} {t u v : Tok}
    (C : Cal w env outer h₀ L m news s.heap) (hd : dp + 3 < recursionLimit) (hl : s.heap.IsList l #[.int x t]) (hw0 : 9 ≤ wd) (hw1 : wd < 12) (hx0 : 0 ≤ x) (hx : x < 2 ^ wd.toNat) (hn0 : 0 < n) (hn : n < 512)
    (ret : ∀ T q v t k h' tk', v = x % n → 0 ≤ v → v < n → Fr h₀ L h' m → News h₀ L h' ((T, ({ cls := .type "tuple", data := .seq #[.ref q, .int v t] k } : Obj)) :: news) → (∀ p ∈ news, p.1 ≠ T) → Q (.ref T) { s with heap := h', toks := tk' }) :
    wpAny (model prog w) (AR dp un gd env outer) (call (.ref 79) [.ref l, .int n u, .int wd v]) Q E s := by
  refine wpAny_call ?_
  k_dflt (refine' enter C ?k6 ?k7 ?k8 ?k9 ?kB ?_ ?c2 ?c3 ?c4 ?c5; (case k6 => k_is); (case k7 => k_is); (case k8 => nest_cls); (case k9 => exact BindsTo.of_eq rfl); (case c5 => decide); (case kB => exact locs rfl); (case c2 => exact rfl); (case c3 => exact rfl); (case c4 => exact rfl); k_whole)
  intro L' h₁ base p loose mean mg mb F N B X T
  dsimp only
  k_fold
  k_steps
  all_goals (first | (exfalso; omega) | (rename_i kF kN kO; refine ret _ _ _ _ _ _ _ ?_ (by omega) (by omega) kF (News.pick (by k_mem) kN) (kO _ _ (by k_mem)); simp at *; subst_vars; rfl) | (rename_i kF kN kO; refine ret _ _ _ _ _ _ _ ?_ (by omega) (by omega) kF (News.pick (by k_mem) kN) (kO _ _ (by k_mem)); simp at *; subst_vars; fail "open"))

set_option maxHeartbeats 4000000 in
theorem divrem_limb2_spec {prog : Program} {w : World} {dp un : Nat} {gd : Option (List Code)} {env : Env} {outer : List Env} {h₀ : Heap} {L : Addr} {m : Str → Option Value} {news : List (Addr × Obj)} {s : Shared} {Q E : Value → Shared → Prop} {l : Addr} {lo hi n wd : Int} {t t2 u v : Tok}
    (C : Cal w env outer h₀ L m news s.heap) (hd : dp + 3 < recursionLimit) (hl : s.heap.IsList l #[.int lo t, .int hi t2]) (hw0 : 9 ≤ wd) (hw1 : wd < 12) (hx0 : 0 ≤ lo) (hx : lo < 2 ^ wd.toNat) (hy0 : 0 ≤ hi) (hy : hi < 2 ^ wd.toNat) (hn0 : 0 < n) (hn : n < 512)
    (ret : ∀ T q v t k h' tk', v = (hi * 2 ^ wd.toNat + lo) % n → 0 ≤ v → v < n → Fr h₀ L h' m → News h₀ L h' ((T, ({ cls := .type "tuple", data := .seq #[.ref q, .int v t] k } : Obj)) :: news) → (∀ p ∈ news, p.1 ≠ T) → Q (.ref T) { s with heap := h', toks := tk' }) :
    wpAny (model prog w) (AR dp un gd env outer) (call (.ref 79) [.ref l, .int n u, .int wd v]) Q E s := by
  refine wpAny_call ?_
  k_dflt (refine' enter C ?k6 ?k7 ?k8 ?k9 ?kB ?_ ?c2 ?c3 ?c4 ?c5; (case k6 => k_is); (case k7 => k_is); (case k8 => nest_cls); (case k9 => exact BindsTo.of_eq rfl); (case c5 => decide); (case kB => exact locs rfl); (case c2 => exact rfl); (case c3 => exact rfl); (case c4 => exact rfl); k_whole)
  intro L' h₁ base p loose mean mg mb F N B X T
  dsimp only
  k_fold
  k_steps
  all_goals (first | (exfalso; omega) | (rename_i kF kN kO; refine ret _ _ _ _ _ _ _ ?_ (by omega) (by omega) kF (News.pick (by k_mem) kN) (kO _ _ (by k_mem)); simp at *; subst_vars; exact step_mod _ _ _ _) | (rename_i kF kN kO; refine ret _ _ _ _ _ _ _ ?_ (by omega) (by omega) kF (News.pick (by k_mem) kN) (kO _ _ (by k_mem)); simp at *; subst_vars; fail "open"))

end
section
open PySem PySem.W PyProof.Rows PySem.Calls
set_option maxRecDepth 100000
theorem top_C4 : True := by
  w_top off
  trivial
local macro_rules | `(tactic| walk_at "pyIter ref") => `(tactic| ((with_reducible show wpAny _ _ (pyIter (Value.ref _)) (fun it s₂ => LoopAtV _ _ _ _ _ _ _ _ _ it s₂) _ _); k_here; krs_unr))

theorem kw_4 : True := by
  k_with_none
  k_with "execs cons" => (focus (dsimp only at *))
  k_with "exec While" => (focus (refine whl_start 100 ?_))
  k_with "WhlRest" => (focus (refine whl_turn (by passes_own) ?_))
  k_with "WhlIf" => (focus (unfold WhlIf))
  k_with "WhlPost" => (focus (unfold WhlPost; dsimp only))
  k_with "subscriptTail Name Constant ref int" => (focus (k_here; (with_reducible show wpAny _ _ (subscriptTail _ _ (Value.ref _) (Value.int _ _)) _ _ _); k_dflt (refine' item_lit ?_ ?_ ?_ ?_ ?_; walk_at "pp"; (· is_list); walk_at "pp"; (· first | decide | assumption); walk_at "pp"; (· first | decide | assumption); walk_at "pp"; (· first | rfl | assumption); walk_at "pp"; k_whole)))
  k_with "subscriptTail Name Name ref int" => (focus (k_here; (with_reducible show wpAny _ _ (subscriptTail _ _ (Value.ref _) (Value.int _ _)) _ _ _); k_dflt (refine' item_lit ?_ ?_ ?_ ?_ ?_; walk_at "pp"; (· is_list); walk_at "pp"; (· first | decide | assumption); walk_at "pp"; (· first | decide | assumption); walk_at "pp"; (· first | rfl | assumption); walk_at "pp"; k_whole)))
  k_with "subscriptTail Name BinOp ref int" => (focus (k_here; (with_reducible show wpAny _ _ (subscriptTail _ _ (Value.ref _) (Value.int _ _)) _ _ _); k_dflt (refine' item_lit ?_ ?_ ?_ ?_ ?_; walk_at "pp"; (· is_list); walk_at "pp"; (· first | decide | assumption); walk_at "pp"; (· first | decide | assumption); walk_at "pp"; (· first | rfl | assumption); walk_at "pp"; k_whole)))
  k_with "subscriptTail" => (focus (k_here; (with_reducible show wpAny _ _ (subscriptTail _ _ (Value.ref _) (Value.int _ _)) _ _ _); k_dflt (refine' item_lit ?_ ?_ ?_ ?_ ?_; walk_at "pp"; (· is_list); walk_at "pp"; (· first | decide | assumption); walk_at "pp"; (· first | decide | assumption); walk_at "pp"; (· first | rfl | assumption); walk_at "pp"; k_whole)))
  k_with "call ref" => (focus (k_here; (with_reducible show wpAny _ _ (call (Value.ref 58) _) _ _ _); k_dflt (first | (refine' normal0_spec ?_ ?_ ?_ ?_; walk_at "pp"; (· kat_tups); walk_at "pp"; rotate_left; walk_at "pp"; (· is_list); walk_at "pp"; rotate_left; walk_at "pp"; (· nest_cls); walk_at "pp") | (refine' normal1_spec ?_ ?_ ?_ ?_; walk_at "pp"; (· kat_tups); walk_at "pp"; rotate_left; walk_at "pp"; (· is_list); walk_at "pp"; rotate_left; walk_at "pp"; (· nest_cls); walk_at "pp") | (refine' normal2_spec ?_ ?_ ?_ ?_; walk_at "pp"; (· kat_tups); walk_at "pp"; rotate_left; walk_at "pp"; (· is_list); walk_at "pp"; rotate_left; walk_at "pp"; (· nest_cls); walk_at "pp")); intro _ _ _ _ _ _ _ _ _; (try dsimp only)))
  k_with "LeaveK" => (focus (refine' Cal.leave ?_ ?_ ?_ ?_; walk_at "pp"; (· k_asm); walk_at "pp"; (· k_asm); walk_at "pp"; (· first | k_asm | exact News.nil); walk_at "pp"; intro _ _ _; (try dsimp only)))
  trivial
set_option maxHeartbeats 4000000 in
theorem compare01_spec {prog : Program} {w : World} {dp un : Nat} {gd : Option (List Code)} {env : Env} {outer : List Env} {h₀ : Heap} {L : Addr} {m : Str → Option Value} {news : List (Addr × Obj)} {s : Shared} {Q E : Value → Shared → Prop} {l l2 : Addr} {y: Int} {u : Tok}
    (C : Cal w env outer h₀ L m news s.heap) (hd : dp + 1 < recursionLimit) (hl : s.heap.IsList l #[]) (hl2 : s.heap.IsList l2 #[.int y u])
    (ret : ∀ v t h' tk', v = -1 → Fr h₀ L h' m → News h₀ L h' news → Q (.int v t) { s with heap := h', toks := tk' }) :
    wpAny (model prog w) (AR dp un gd env outer) (call (.ref 72) [.ref l, .ref l2]) Q E s := by
  refine wpAny_call ?_
  k_dflt (refine' enter C ?k6 ?k7 ?k8 ?k9 ?kB ?_ ?c2 ?c3 ?c4 ?c5; (case k6 => k_is); (case k7 => k_is); (case k8 => nest_cls); (case k9 => exact BindsTo.of_eq rfl); (case c5 => decide); (case kB => exact locs rfl); (case c2 => exact rfl); (case c3 => exact rfl); (case c4 => exact rfl); k_whole)
  intro L' h₁ base p loose mean mg mb F N B X T
  dsimp only
  k_fold
  k_steps
  all_goals (first | (exfalso; omega) | (rename_i kF kN kO; refine ret _ _ _ _ ?_ kF (News.right kN); rfl) | (trace_state; rename_i kF kN kO; refine ret _ _ _ _ ?_ kF (News.right kN); rfl))

set_option maxHeartbeats 4000000 in
theorem compare21_spec {prog : Program} {w : World} {dp un : Nat} {gd : Option (List Code)} {env : Env} {outer : List Env} {h₀ : Heap} {L : Addr} {m : Str → Option Value} {news : List (Addr × Obj)} {s : Shared} {Q E : Value → Shared → Prop} {l l2 : Addr} {x x2 y: Int} {t t2 u : Tok}
    (C : Cal w env outer h₀ L m news s.heap) (hd : dp + 1 < recursionLimit) (hl : s.heap.IsList l #[.int x t, .int x2 t2]) (hl2 : s.heap.IsList l2 #[.int y u])
    (ret : ∀ v t h' tk', v = 1 → Fr h₀ L h' m → News h₀ L h' news → Q (.int v t) { s with heap := h', toks := tk' }) :
    wpAny (model prog w) (AR dp un gd env outer) (call (.ref 72) [.ref l, .ref l2]) Q E s := by
  refine wpAny_call ?_
  k_dflt (refine' enter C ?k6 ?k7 ?k8 ?k9 ?kB ?_ ?c2 ?c3 ?c4 ?c5; (case k6 => k_is); (case k7 => k_is); (case k8 => nest_cls); (case k9 => exact BindsTo.of_eq rfl); (case c5 => decide); (case kB => exact locs rfl); (case c2 => exact rfl); (case c3 => exact rfl); (case c4 => exact rfl); k_whole)
  intro L' h₁ base p loose mean mg mb F N B X T
  dsimp only
  k_fold
  k_steps
  all_goals (first | (exfalso; omega) | (rename_i kF kN kO; refine ret _ _ _ _ ?_ kF (News.right kN); rfl) | (trace_state; rename_i kF kN kO; refine ret _ _ _ _ ?_ kF (News.right kN); rfl))

theorem kw_5 : True := by
  k_with_none
  k_with "execs cons" => (focus (dsimp only at *))
  k_with "exec While" => (focus (refine whl_start 100 ?_))
  k_with "WhlRest" => (focus (refine whl_turn (by passes_own) ?_))
  k_with "WhlIf" => (focus (unfold WhlIf))
  k_with "WhlPost" => (focus (unfold WhlPost; dsimp only))
  k_with "subscriptTail Name Constant ref int" => (focus (k_here; (with_reducible show wpAny _ _ (subscriptTail _ _ (Value.ref _) (Value.int _ _)) _ _ _); k_dflt (refine' item_lit ?_ ?_ ?_ ?_ ?_; walk_at "pp"; (· is_list); walk_at "pp"; (· first | decide | assumption); walk_at "pp"; (· first | decide | assumption); walk_at "pp"; (· first | rfl | assumption); walk_at "pp"; k_whole)))
  k_with "subscriptTail Name Name ref int" => (focus (k_here; (with_reducible show wpAny _ _ (subscriptTail _ _ (Value.ref _) (Value.int _ _)) _ _ _); k_dflt (refine' item_lit ?_ ?_ ?_ ?_ ?_; walk_at "pp"; (· is_list); walk_at "pp"; (· first | decide | assumption); walk_at "pp"; (· first | decide | assumption); walk_at "pp"; (· first | rfl | assumption); walk_at "pp"; k_whole)))
  k_with "subscriptTail Name BinOp ref int" => (focus (k_here; (with_reducible show wpAny _ _ (subscriptTail _ _ (Value.ref _) (Value.int _ _)) _ _ _); k_dflt (refine' item_lit ?_ ?_ ?_ ?_ ?_; walk_at "pp"; (· is_list); walk_at "pp"; (· first | decide | assumption); walk_at "pp"; (· first | decide | assumption); walk_at "pp"; (· first | rfl | assumption); walk_at "pp"; k_whole)))
  k_with "subscriptTail" => (focus (k_here; (with_reducible show wpAny _ _ (subscriptTail _ _ (Value.ref _) (Value.int _ _)) _ _ _); k_dflt (refine' item_lit ?_ ?_ ?_ ?_ ?_; walk_at "pp"; (· is_list); walk_at "pp"; (· first | decide | assumption); walk_at "pp"; (· first | decide | assumption); walk_at "pp"; (· first | rfl | assumption); walk_at "pp"; k_whole)))
  k_with "call ref" => (focus (k_here; (with_reducible show wpAny _ _ (call (Value.ref 58) _) _ _ _); k_dflt (first | (refine' normal0_spec ?_ ?_ ?_ ?_; walk_at "pp"; (· kat_tups); walk_at "pp"; rotate_left; walk_at "pp"; (· is_list); walk_at "pp"; rotate_left; walk_at "pp"; (· nest_cls); walk_at "pp") | (refine' normal1_spec ?_ ?_ ?_ ?_; walk_at "pp"; (· kat_tups); walk_at "pp"; rotate_left; walk_at "pp"; (· is_list); walk_at "pp"; rotate_left; walk_at "pp"; (· nest_cls); walk_at "pp") | (refine' normal2_spec ?_ ?_ ?_ ?_; walk_at "pp"; (· kat_tups); walk_at "pp"; rotate_left; walk_at "pp"; (· is_list); walk_at "pp"; rotate_left; walk_at "pp"; (· nest_cls); walk_at "pp")); intro _ _ _ _ _ _ _ _ _; (try dsimp only)))
  k_with "LeaveK" => (focus (refine' Cal.leave ?_ ?_ ?_ ?_; walk_at "pp"; (· k_asm); walk_at "pp"; (· k_asm); walk_at "pp"; (· first | k_asm | exact News.nil); walk_at "pp"; intro _ _ _; (try dsimp only)))
  k_with "call ref" => (focus (k_here; (with_reducible show wpAny _ _ (call (Value.ref 79) _) _ _ _); k_dflt (first | (refine' divrem_limb1_spec ?_ ?_ ?_ ?_ ?_ ?_ ?_ ?_ ?_ ?_; walk_at "pp"; (· kat_tups); walk_at "pp"; rotate_left; walk_at "pp"; (· is_list); walk_at "pp"; rotate_left; walk_at "pp"; rotate_left; walk_at "pp"; rotate_left; walk_at "pp"; rotate_left; walk_at "pp"; rotate_left; walk_at "pp"; rotate_left; walk_at "pp"; rotate_left; walk_at "pp"; (· nest_cls); walk_at "pp"; (· kaf_pre); walk_at "pp"; (· kaf_pre); walk_at "pp"; (· kaf_pre); walk_at "pp"; (· kaf_pre); walk_at "pp"; (· kaf_pre); walk_at "pp"; (· kaf_pre); walk_at "pp") | (refine' divrem_limb2_spec ?_ ?_ ?_ ?_ ?_ ?_ ?_ ?_ ?_ ?_ ?_ ?_; walk_at "pp"; (· kat_tups); walk_at "pp"; rotate_left; walk_at "pp"; (· is_list); walk_at "pp"; rotate_left; walk_at "pp"; rotate_left; walk_at "pp"; rotate_left; walk_at "pp"; rotate_left; walk_at "pp"; rotate_left; walk_at "pp"; rotate_left; walk_at "pp"; rotate_left; walk_at "pp"; rotate_left; walk_at "pp"; rotate_left; walk_at "pp"; (· nest_cls); walk_at "pp"; (· kaf_pre); walk_at "pp"; (· kaf_pre); walk_at "pp"; (· kaf_pre); walk_at "pp"; (· kaf_pre); walk_at "pp"; (· kaf_pre); walk_at "pp"; (· kaf_pre); walk_at "pp"; (· kaf_pre); walk_at "pp"; (· kaf_pre); walk_at "pp")); intro _ _ _ _ _ _ _ _ _ _ _ _ _; (try dsimp only)))
  trivial
set_option maxHeartbeats 4000000 in
theorem divrem_small1_spec {prog : Program} {w : World} {dp un : Nat} {gd : Option (List Code)} {env : Env} {outer : List Env} {h₀ : Heap} {L : Addr} {m : Str → Option Value} {news : List (Addr × Obj)} {s : Shared} {Q E : Value → Shared → Prop} {l l2 : Addr} {x n wd : Int} {t u v : Tok}
    (C : Cal w env outer h₀ L m news s.heap) (hd : dp + 4 < recursionLimit) (hl : s.heap.IsList l #[.int x t]) (hl2 : s.heap.IsList l2 #[.int n u]) (hw0 : 9 ≤ wd) (hw1 : wd < 12) (hx0 : 0 ≤ x) (hx : x < 2 ^ wd.toNat) (hn0 : 0 < n) (hn : n < 512)
    (ret : ∀ T q r ws k c h' tk', IntsAre ws (rowI (x % n)) → Fr h₀ L h' m → News h₀ L h' ((T, ({ cls := .type "tuple", data := .seq #[.ref q, .ref r] k } : Obj)) :: (r, W.listOf ws.toArray c) :: news) → (∀ p ∈ news, p.1 ≠ T) → (∀ p ∈ news, p.1 ≠ r) → Q (.ref T) { s with heap := h', toks := tk' }) :
    wpAny (model prog w) (AR dp un gd env outer) (call (.ref 196) [.ref l, .ref l2, .int wd v]) Q E s := by
  refine wpAny_call ?_
  k_dflt (refine' enter C ?k6 ?k7 ?k8 ?k9 ?kB ?_ ?c2 ?c3 ?c4 ?c5; (case k6 => k_is); (case k7 => k_is); (case k8 => nest_cls); (case k9 => exact BindsTo.of_eq rfl); (case c5 => decide); (case kB => exact locs rfl); (case c2 => exact rfl); (case c3 => exact rfl); (case c4 => exact rfl); k_whole)
  intro L' h₁ base p loose mean mg mb F N B X T
  dsimp only
  k_fold
  k_steps
  all_goals (first | (exfalso; omega) | (rename_i kF kN kO; refine ret _ _ _ _ _ _ _ _ ?_ kF (News.pick2 (by k_mem) (by k_mem) kN) (kO _ _ (by k_mem)) (kO _ _ (by k_mem)); unfold rowI; split; (first | exact .nil | (exfalso; omega)); (first | exact .nil | (exfalso; omega) | (subst_vars; exact .cons _ _ .nil))) | (trace_state; rename_i kF kN kO; refine ret _ _ _ _ _ _ _ _ ?_ kF (News.pick2 (by k_mem) (by k_mem) kN) (kO _ _ (by k_mem)) (kO _ _ (by k_mem)); unfold rowI; split; (first | exact .nil | (exfalso; omega)); (first | exact .nil | (exfalso; omega) | (subst_vars; exact .cons _ _ .nil))))

set_option maxHeartbeats 4000000 in
theorem divrem_small2_spec {prog : Program} {w : World} {dp un : Nat} {gd : Option (List Code)} {env : Env} {outer : List Env} {h₀ : Heap} {L : Addr} {m : Str → Option Value} {news : List (Addr × Obj)} {s : Shared} {Q E : Value → Shared → Prop} {l l2 : Addr} {lo hi n wd : Int} {t t2 u v : Tok}
    (C : Cal w env outer h₀ L m news s.heap) (hd : dp + 4 < recursionLimit) (hl : s.heap.IsList l #[.int lo t, .int hi t2]) (hl2 : s.heap.IsList l2 #[.int n u])  (hw0 : 9 ≤ wd) (hw1 : wd < 12) (hx0 : 0 ≤ lo) (hx : lo < 2 ^ wd.toNat) (hy0 : 0 ≤ hi) (hy : hi < 2 ^ wd.toNat) (hn0 : 0 < n) (hn : n < 512)
    (ret : ∀ T q r ws k c h' tk', IntsAre ws (rowI ((hi * 2 ^ wd.toNat + lo) % n)) → Fr h₀ L h' m → News h₀ L h' ((T, ({ cls := .type "tuple", data := .seq #[.ref q, .ref r] k } : Obj)) :: (r, W.listOf ws.toArray c) :: news) → (∀ p ∈ news, p.1 ≠ T) → (∀ p ∈ news, p.1 ≠ r) → Q (.ref T) { s with heap := h', toks := tk' }) :
    wpAny (model prog w) (AR dp un gd env outer) (call (.ref 196) [.ref l, .ref l2, .int wd v]) Q E s := by
  refine wpAny_call ?_
  k_dflt (refine' enter C ?k6 ?k7 ?k8 ?k9 ?kB ?_ ?c2 ?c3 ?c4 ?c5; (case k6 => k_is); (case k7 => k_is); (case k8 => nest_cls); (case k9 => exact BindsTo.of_eq rfl); (case c5 => decide); (case kB => exact locs rfl); (case c2 => exact rfl); (case c3 => exact rfl); (case c4 => exact rfl); k_whole)
  intro L' h₁ base p loose mean mg mb F N B X T
  dsimp only
  k_fold
  k_steps
  all_goals (first | (exfalso; omega) | (rename_i kF kN kO; refine ret _ _ _ _ _ _ _ _ ?_ kF (News.pick2 (by k_mem) (by k_mem) kN) (kO _ _ (by k_mem)) (kO _ _ (by k_mem)); unfold rowI; split; (first | exact .nil | (exfalso; omega)); (first | exact .nil | (exfalso; omega) | (subst_vars; exact .cons _ _ .nil))) | (trace_state; rename_i kF kN kO; refine ret _ _ _ _ _ _ _ _ ?_ kF (News.pick2 (by k_mem) (by k_mem) kN) (kO _ _ (by k_mem)) (kO _ _ (by k_mem)); unfold rowI; split; (first | exact .nil | (exfalso; omega)); (first | exact .nil | (exfalso; omega) | (subst_vars; exact .cons _ _ .nil))))

end
section
open PySem PySem.W PyProof.Rows PySem.Calls
set_option maxRecDepth 100000
theorem top_C5 : True := by
  w_top off
  trivial
local macro_rules | `(tactic| walk_at "pyIter ref") => `(tactic| ((with_reducible show wpAny _ _ (pyIter (Value.ref _)) (fun it s₂ => LoopAtV _ _ _ _ _ _ _ _ _ it s₂) _ _); k_here; krs_unr))

theorem kw_6 : True := by
  k_with_none
  k_with "execs cons" => (focus (dsimp only at *))
  k_with "exec While" => (focus (refine whl_start 100 ?_))
  k_with "WhlRest" => (focus (refine whl_turn (by passes_own) ?_))
  k_with "WhlIf" => (focus (unfold WhlIf))
  k_with "WhlPost" => (focus (unfold WhlPost; dsimp only))
  k_with "subscriptTail Name Constant ref int" => (focus (k_here; (with_reducible show wpAny _ _ (subscriptTail _ _ (Value.ref _) (Value.int _ _)) _ _ _); k_dflt (refine' item_lit ?_ ?_ ?_ ?_ ?_; walk_at "pp"; (· is_list); walk_at "pp"; (· first | decide | assumption); walk_at "pp"; (· first | decide | assumption); walk_at "pp"; (· first | rfl | assumption); walk_at "pp"; k_whole)))
  k_with "subscriptTail Name Name ref int" => (focus (k_here; (with_reducible show wpAny _ _ (subscriptTail _ _ (Value.ref _) (Value.int _ _)) _ _ _); k_dflt (refine' item_lit ?_ ?_ ?_ ?_ ?_; walk_at "pp"; (· is_list); walk_at "pp"; (· first | decide | assumption); walk_at "pp"; (· first | decide | assumption); walk_at "pp"; (· first | rfl | assumption); walk_at "pp"; k_whole)))
  k_with "subscriptTail Name BinOp ref int" => (focus (k_here; (with_reducible show wpAny _ _ (subscriptTail _ _ (Value.ref _) (Value.int _ _)) _ _ _); k_dflt (refine' item_lit ?_ ?_ ?_ ?_ ?_; walk_at "pp"; (· is_list); walk_at "pp"; (· first | decide | assumption); walk_at "pp"; (· first | decide | assumption); walk_at "pp"; (· first | rfl | assumption); walk_at "pp"; k_whole)))
  k_with "subscriptTail" => (focus (k_here; (with_reducible show wpAny _ _ (subscriptTail _ _ (Value.ref _) (Value.int _ _)) _ _ _); k_dflt (refine' item_lit ?_ ?_ ?_ ?_ ?_; walk_at "pp"; (· is_list); walk_at "pp"; (· first | decide | assumption); walk_at "pp"; (· first | decide | assumption); walk_at "pp"; (· first | rfl | assumption); walk_at "pp"; k_whole)))
  k_with "call ref" => (focus (k_here; (with_reducible show wpAny _ _ (call (Value.ref 58) _) _ _ _); k_dflt (first | (refine' normal0_spec ?_ ?_ ?_ ?_; walk_at "pp"; (· kat_tups); walk_at "pp"; rotate_left; walk_at "pp"; (· is_list); walk_at "pp"; rotate_left; walk_at "pp"; (· nest_cls); walk_at "pp") | (refine' normal1_spec ?_ ?_ ?_ ?_; walk_at "pp"; (· kat_tups); walk_at "pp"; rotate_left; walk_at "pp"; (· is_list); walk_at "pp"; rotate_left; walk_at "pp"; (· nest_cls); walk_at "pp") | (refine' normal2_spec ?_ ?_ ?_ ?_; walk_at "pp"; (· kat_tups); walk_at "pp"; rotate_left; walk_at "pp"; (· is_list); walk_at "pp"; rotate_left; walk_at "pp"; (· nest_cls); walk_at "pp")); intro _ _ _ _ _ _ _ _ _; (try dsimp only)))
  k_with "call ref" => (focus (k_here; (with_reducible show wpAny _ _ (call (Value.ref 72) _) _ _ _); k_dflt (first | (refine' compare01_spec ?_ ?_ ?_ ?_ ?_; walk_at "pp"; (· kat_tups); walk_at "pp"; rotate_left; walk_at "pp"; (· is_list); walk_at "pp"; (· is_list); walk_at "pp"; rotate_left; walk_at "pp"; (· nest_cls); walk_at "pp") | (refine' compare21_spec ?_ ?_ ?_ ?_ ?_; walk_at "pp"; (· kat_tups); walk_at "pp"; rotate_left; walk_at "pp"; (· is_list); walk_at "pp"; (· is_list); walk_at "pp"; rotate_left; walk_at "pp"; (· nest_cls); walk_at "pp") | (refine' compare11_spec ?_ ?_ ?_ ?_ ?_; walk_at "pp"; (· kat_tups); walk_at "pp"; rotate_left; walk_at "pp"; (· is_list); walk_at "pp"; (· is_list); walk_at "pp"; rotate_left; walk_at "pp"; (· nest_cls); walk_at "pp")); intro _ _ _ _ _ _ _; (try dsimp only)))
  k_with "LeaveK" => (focus (refine' Cal.leave ?_ ?_ ?_ ?_; walk_at "pp"; (· k_asm); walk_at "pp"; (· k_asm); walk_at "pp"; (· first | k_asm | exact News.nil); walk_at "pp"; intro _ _ _; (try dsimp only)))
  k_with "call ref" => (focus (k_here; (with_reducible show wpAny _ _ (call (Value.ref 196) _) _ _ _); k_dflt (first | (refine' divrem_small1_spec ?_ ?_ ?_ ?_ ?_ ?_ ?_ ?_ ?_ ?_ ?_; walk_at "pp"; (· kat_tups); walk_at "pp"; rotate_left; walk_at "pp"; (· is_list); walk_at "pp"; (· is_list); walk_at "pp"; rotate_left; walk_at "pp"; rotate_left; walk_at "pp"; rotate_left; walk_at "pp"; rotate_left; walk_at "pp"; rotate_left; walk_at "pp"; rotate_left; walk_at "pp"; rotate_left; walk_at "pp"; (· nest_cls); walk_at "pp"; (· kaf_pre); walk_at "pp"; (· kaf_pre); walk_at "pp"; (· kaf_pre); walk_at "pp"; (· kaf_pre); walk_at "pp"; (· kaf_pre); walk_at "pp"; (· kaf_pre); walk_at "pp") | (refine' divrem_small2_spec ?_ ?_ ?_ ?_ ?_ ?_ ?_ ?_ ?_ ?_ ?_ ?_ ?_; walk_at "pp"; (· kat_tups); walk_at "pp"; rotate_left; walk_at "pp"; (· is_list); walk_at "pp"; (· is_list); walk_at "pp"; rotate_left; walk_at "pp"; rotate_left; walk_at "pp"; rotate_left; walk_at "pp"; rotate_left; walk_at "pp"; rotate_left; walk_at "pp"; rotate_left; walk_at "pp"; rotate_left; walk_at "pp"; rotate_left; walk_at "pp"; rotate_left; walk_at "pp"; (· nest_cls); walk_at "pp"; (· kaf_pre); walk_at "pp"; (· kaf_pre); walk_at "pp"; (· kaf_pre); walk_at "pp"; (· kaf_pre); walk_at "pp"; (· kaf_pre); walk_at "pp"; (· kaf_pre); walk_at "pp"; (· kaf_pre); walk_at "pp"; (· kaf_pre); walk_at "pp")); intro _ _ _ _ _ _ _ _ _ _ _ _ _; (try dsimp only)))
  trivial
set_option maxHeartbeats 4000000 in
theorem school0_spec {prog : Program} {w : World} {dp un : Nat} {gd : Option (List Code)} {env : Env} {outer : List Env} {h₀ : Heap} {L : Addr} {m : Str → Option Value} {news : List (Addr × Obj)} {s : Shared} {Q E : Value → Shared → Prop} {l l2 : Addr} {n wd : Int} {u v : Tok}
    (C : Cal w env outer h₀ L m news s.heap) (hd : dp + 6 < recursionLimit) (hl : s.heap.IsList l #[]) (hl2 : s.heap.IsList l2 #[.int n u])
    (ret : ∀ T q r ws k c h' tk', IntsAre ws ([]) → Fr h₀ L h' m → News h₀ L h' ((T, ({ cls := .type "tuple", data := .seq #[.ref q, .ref r] k } : Obj)) :: (r, W.listOf ws.toArray c) :: news) → (∀ p ∈ news, p.1 ≠ T) → (∀ p ∈ news, p.1 ≠ r) → Q (.ref T) { s with heap := h', toks := tk' }) :
    wpAny (model prog w) (AR dp un gd env outer) (call (.ref 231) [.ref l, .ref l2, .int wd v]) Q E s := by
  refine wpAny_call ?_
  k_dflt (refine' enter C ?k6 ?k7 ?k8 ?k9 ?kB ?_ ?c2 ?c3 ?c4 ?c5; (case k6 => k_is); (case k7 => k_is); (case k8 => nest_cls); (case k9 => exact BindsTo.of_eq rfl); (case c5 => decide); (case kB => exact locs rfl); (case c2 => exact rfl); (case c3 => exact rfl); (case c4 => exact rfl); k_whole)
  intro L' h₁ base p loose mean mg mb F N B X T
  dsimp only
  k_fold
  k_steps
  all_goals (first | (exfalso; omega) | (rename_i kF kN kO; refine ret _ _ _ _ _ _ _ _ ?_ kF (News.pick2 (by k_mem) (by k_mem) kN) (kO _ _ (by k_mem)) (kO _ _ (by k_mem)); first | assumption | exact .nil))

set_option maxHeartbeats 4000000 in
theorem school1_spec {prog : Program} {w : World} {dp un : Nat} {gd : Option (List Code)} {env : Env} {outer : List Env} {h₀ : Heap} {L : Addr} {m : Str → Option Value} {news : List (Addr × Obj)} {s : Shared} {Q E : Value → Shared → Prop} {l l2 : Addr} {x n wd : Int} {t u v : Tok}
    (C : Cal w env outer h₀ L m news s.heap) (hd : dp + 6 < recursionLimit) (hl : s.heap.IsList l #[.int x t]) (hl2 : s.heap.IsList l2 #[.int n u]) (hw0 : 9 ≤ wd) (hw1 : wd < 12) (hx0 : 0 < x) (hx : x < 2 ^ wd.toNat) (hn0 : 0 < n) (hn : n < 512)
    (ret : ∀ T q r ws k c h' tk', IntsAre ws (rowI (x % n)) → Fr h₀ L h' m → News h₀ L h' ((T, ({ cls := .type "tuple", data := .seq #[.ref q, .ref r] k } : Obj)) :: (r, W.listOf ws.toArray c) :: news) → (∀ p ∈ news, p.1 ≠ T) → (∀ p ∈ news, p.1 ≠ r) → Q (.ref T) { s with heap := h', toks := tk' }) :
    wpAny (model prog w) (AR dp un gd env outer) (call (.ref 231) [.ref l, .ref l2, .int wd v]) Q E s := by
  refine wpAny_call ?_
  k_dflt (refine' enter C ?k6 ?k7 ?k8 ?k9 ?kB ?_ ?c2 ?c3 ?c4 ?c5; (case k6 => k_is); (case k7 => k_is); (case k8 => nest_cls); (case k9 => exact BindsTo.of_eq rfl); (case c5 => decide); (case kB => exact locs rfl); (case c2 => exact rfl); (case c3 => exact rfl); (case c4 => exact rfl); k_whole)
  intro L' h₁ base p loose mean mg mb F N B X T
  dsimp only
  k_fold
  k_steps
  all_goals (first | (exfalso; omega) | (rename_i kF kN kO; refine ret _ _ _ _ _ _ _ _ ?_ kF (News.pick2 (by k_mem) (by k_mem) kN) (kO _ _ (by k_mem)) (kO _ _ (by k_mem)); first | assumption | (have e1 : x < n := (by split at * <;> omega); rw [Int.emod_eq_of_lt (by omega) e1]; rw [rowI, if_neg (by omega)]; first | assumption | exact .cons _ _ .nil)))

set_option maxHeartbeats 4000000 in
theorem school2_spec {prog : Program} {w : World} {dp un : Nat} {gd : Option (List Code)} {env : Env} {outer : List Env} {h₀ : Heap} {L : Addr} {m : Str → Option Value} {news : List (Addr × Obj)} {s : Shared} {Q E : Value → Shared → Prop} {l l2 : Addr} {lo hi n wd : Int} {t t2 u v : Tok}
    (C : Cal w env outer h₀ L m news s.heap) (hd : dp + 6 < recursionLimit) (hl : s.heap.IsList l #[.int lo t, .int hi t2]) (hl2 : s.heap.IsList l2 #[.int n u])  (hw0 : 9 ≤ wd) (hw1 : wd < 12) (hx0 : 0 ≤ lo) (hx : lo < 2 ^ wd.toNat) (hy0 : 0 ≤ hi) (hy : hi < 2 ^ wd.toNat) (hn0 : 0 < n) (hn : n < 512)
    (ret : ∀ T q r ws k c h' tk', IntsAre ws (rowI ((hi * 2 ^ wd.toNat + lo) % n)) → Fr h₀ L h' m → News h₀ L h' ((T, ({ cls := .type "tuple", data := .seq #[.ref q, .ref r] k } : Obj)) :: (r, W.listOf ws.toArray c) :: news) → (∀ p ∈ news, p.1 ≠ T) → (∀ p ∈ news, p.1 ≠ r) → Q (.ref T) { s with heap := h', toks := tk' }) :
    wpAny (model prog w) (AR dp un gd env outer) (call (.ref 231) [.ref l, .ref l2, .int wd v]) Q E s := by
  refine wpAny_call ?_
  k_dflt (refine' enter C ?k6 ?k7 ?k8 ?k9 ?kB ?_ ?c2 ?c3 ?c4 ?c5; (case k6 => k_is); (case k7 => k_is); (case k8 => nest_cls); (case k9 => exact BindsTo.of_eq rfl); (case c5 => decide); (case kB => exact locs rfl); (case c2 => exact rfl); (case c3 => exact rfl); (case c4 => exact rfl); k_whole)
  intro L' h₁ base p loose mean mg mb F N B X T
  dsimp only
  k_fold
  k_steps
  all_goals (first | (exfalso; omega) | (rename_i kF kN kO; refine ret _ _ _ _ _ _ _ _ ?_ kF (News.pick2 (by k_mem) (by k_mem) kN) (kO _ _ (by k_mem)) (kO _ _ (by k_mem)); assumption))

end
local macro_rules | `(tactic| walk_at "call type:enumerate") => `(tactic| (k_here; (with_reducible show wpAny _ _ (call (Value.type _) [Value.ref _]) (fun xv s₁ => wpAny _ _ (pyIter xv) (fun it s₂ => TurnsAt _ _ _ _ _ _ _ _ _ it s₂) _ s₁) _ _); (rename Fr _ _ _ _ => lF'); (rename News _ _ _ _ => lN'); (with_unfolding_all refine enum_base (by rfl) lF' lN' (by assumption) (by rfl) ?_); clear lF'; intro i' l1; (try k_lt l1)))
section
open PySem PySem.W PyProof.Rows PySem.Calls
set_option maxRecDepth 100000
theorem top_C6 : True := by
  w_top off
  trivial
local macro_rules | `(tactic| walk_at "pyIter ref") => `(tactic| ((with_reducible show wpAny _ _ (pyIter (Value.ref _)) (fun it s₂ => LoopAtV _ _ _ _ _ _ _ _ _ it s₂) _ _); k_here; krs_unr))
local macro_rules | `(tactic| walk_at "exec For Tuple Call cons nil") => `(tactic| (k_here; (rename Fr _ _ _ _ => lF'); (with_unfolding_all refine' For_turns lF' ?_; k_whole)))

theorem kw_7 : True := by
  k_with_none
  k_with "execs cons" => (focus (dsimp only at *))
  k_with "exec While" => (focus (refine whl_start 100 ?_))
  k_with "WhlRest" => (focus (refine whl_turn (by passes_own) ?_))
  k_with "WhlIf" => (focus (unfold WhlIf))
  k_with "WhlPost" => (focus (unfold WhlPost; dsimp only))
  k_with "subscriptTail Name Constant ref int" => (focus (k_here; (with_reducible show wpAny _ _ (subscriptTail _ _ (Value.ref _) (Value.int _ _)) _ _ _); k_dflt (refine' item_lit ?_ ?_ ?_ ?_ ?_; walk_at "pp"; (· is_list); walk_at "pp"; (· first | decide | assumption); walk_at "pp"; (· first | decide | assumption); walk_at "pp"; (· first | rfl | assumption); walk_at "pp"; k_whole)))
  k_with "subscriptTail Name Name ref int" => (focus (k_here; (with_reducible show wpAny _ _ (subscriptTail _ _ (Value.ref _) (Value.int _ _)) _ _ _); k_dflt (refine' item_lit ?_ ?_ ?_ ?_ ?_; walk_at "pp"; (· is_list); walk_at "pp"; (· first | decide | assumption); walk_at "pp"; (· first | decide | assumption); walk_at "pp"; (· first | rfl | assumption); walk_at "pp"; k_whole)))
  k_with "subscriptTail Name BinOp ref int" => (focus (k_here; (with_reducible show wpAny _ _ (subscriptTail _ _ (Value.ref _) (Value.int _ _)) _ _ _); k_dflt (refine' item_lit ?_ ?_ ?_ ?_ ?_; walk_at "pp"; (· is_list); walk_at "pp"; (· first | decide | assumption); walk_at "pp"; (· first | decide | assumption); walk_at "pp"; (· first | rfl | assumption); walk_at "pp"; k_whole)))
  k_with "subscriptTail" => (focus (k_here; (with_reducible show wpAny _ _ (subscriptTail _ _ (Value.ref _) (Value.int _ _)) _ _ _); k_dflt (refine' item_lit ?_ ?_ ?_ ?_ ?_; walk_at "pp"; (· is_list); walk_at "pp"; (· first | decide | assumption); walk_at "pp"; (· first | decide | assumption); walk_at "pp"; (· first | rfl | assumption); walk_at "pp"; k_whole)))
  k_with "call ref" => (focus (k_here; (with_reducible show wpAny _ _ (call (Value.ref 58) _) _ _ _); k_dflt (first | (refine' normal0_spec ?_ ?_ ?_ ?_; walk_at "pp"; (· kat_tups); walk_at "pp"; rotate_left; walk_at "pp"; (· is_list); walk_at "pp"; rotate_left; walk_at "pp"; (· nest_cls); walk_at "pp") | (refine' normal1_spec ?_ ?_ ?_ ?_; walk_at "pp"; (· kat_tups); walk_at "pp"; rotate_left; walk_at "pp"; (· is_list); walk_at "pp"; rotate_left; walk_at "pp"; (· nest_cls); walk_at "pp") | (refine' normal2_spec ?_ ?_ ?_ ?_; walk_at "pp"; (· kat_tups); walk_at "pp"; rotate_left; walk_at "pp"; (· is_list); walk_at "pp"; rotate_left; walk_at "pp"; (· nest_cls); walk_at "pp")); intro _ _ _ _ _ _ _ _ _; (try dsimp only)))
  k_with "call ref" => (focus (k_here; (with_reducible show wpAny _ _ (call (Value.ref 72) _) _ _ _); k_dflt (first | (refine' compare01_spec ?_ ?_ ?_ ?_ ?_; walk_at "pp"; (· kat_tups); walk_at "pp"; rotate_left; walk_at "pp"; (· is_list); walk_at "pp"; (· is_list); walk_at "pp"; rotate_left; walk_at "pp"; (· nest_cls); walk_at "pp") | (refine' compare21_spec ?_ ?_ ?_ ?_ ?_; walk_at "pp"; (· kat_tups); walk_at "pp"; rotate_left; walk_at "pp"; (· is_list); walk_at "pp"; (· is_list); walk_at "pp"; rotate_left; walk_at "pp"; (· nest_cls); walk_at "pp") | (refine' compare11_spec ?_ ?_ ?_ ?_ ?_; walk_at "pp"; (· kat_tups); walk_at "pp"; rotate_left; walk_at "pp"; (· is_list); walk_at "pp"; (· is_list); walk_at "pp"; rotate_left; walk_at "pp"; (· nest_cls); walk_at "pp")); intro _ _ _ _ _ _ _; (try dsimp only)))
  k_with "LeaveK" => (focus (refine' Cal.leave ?_ ?_ ?_ ?_; walk_at "pp"; (· k_asm); walk_at "pp"; (· k_asm); walk_at "pp"; (· first | k_asm | exact News.nil); walk_at "pp"; intro _ _ _; (try dsimp only)))
  trivial
set_option maxHeartbeats 4000000 in
theorem mul00_spec {prog : Program} {w : World} {dp un : Nat} {gd : Option (List Code)} {env : Env} {outer : List Env} {h₀ : Heap} {L : Addr} {m : Str → Option Value} {news : List (Addr × Obj)} {s : Shared} {Q E : Value → Shared → Prop} {l l2 : Addr} {wd : Int} {v : Tok}
    (C : Cal w env outer h₀ L m news s.heap) (hd : dp + 3 < recursionLimit) (hl : s.heap.IsList l #[]) (hl2 : s.heap.IsList l2 #[]) (hw0 : 9 ≤ wd) (hw1 : wd < 12)
    (ret : ∀ r ws k h' tk', IntsAre ws ([]) → Fr h₀ L h' m → News h₀ L h' ((r, W.listOf ws.toArray k) :: news) → (∀ p ∈ news, p.1 ≠ r) → Q (.ref r) { s with heap := h', toks := tk' }) :
    wpAny (model prog w) (AR dp un gd env outer) (call (.ref 189) [.ref l, .ref l2, .int wd v]) Q E s := by
  refine wpAny_call ?_
  k_dflt (refine' enter C ?k6 ?k7 ?k8 ?k9 ?kB ?_ ?c2 ?c3 ?c4 ?c5; (case k6 => k_is); (case k7 => k_is); (case k8 => nest_cls); (case k9 => exact BindsTo.of_eq rfl); (case c5 => decide); (case kB => exact locs rfl); (case c2 => exact rfl); (case c3 => exact rfl); (case c4 => exact rfl); k_whole)
  intro L' h₁ base p loose mean mg mb F N B X T
  dsimp only
  k_fold
  k_steps
  all_goals (first | (exfalso; omega) | (rename_i kF kN kO; refine ret _ _ _ _ _ ?_ kF (News.pick (by k_mem) kN) (kO _ _ (by k_mem)); assumption))

set_option maxHeartbeats 4000000 in
theorem mul01_spec {prog : Program} {w : World} {dp un : Nat} {gd : Option (List Code)} {env : Env} {outer : List Env} {h₀ : Heap} {L : Addr} {m : Str → Option Value} {news : List (Addr × Obj)} {s : Shared} {Q E : Value → Shared → Prop} {l l2 : Addr} {y wd : Int} {u v : Tok}
    (C : Cal w env outer h₀ L m news s.heap) (hd : dp + 3 < recursionLimit) (hl : s.heap.IsList l #[]) (hl2 : s.heap.IsList l2 #[.int y u]) (hw0 : 9 ≤ wd) (hw1 : wd < 12)
    (ret : ∀ r ws k h' tk', IntsAre ws ([]) → Fr h₀ L h' m → News h₀ L h' ((r, W.listOf ws.toArray k) :: news) → (∀ p ∈ news, p.1 ≠ r) → Q (.ref r) { s with heap := h', toks := tk' }) :
    wpAny (model prog w) (AR dp un gd env outer) (call (.ref 189) [.ref l, .ref l2, .int wd v]) Q E s := by
  refine wpAny_call ?_
  k_dflt (refine' enter C ?k6 ?k7 ?k8 ?k9 ?kB ?_ ?c2 ?c3 ?c4 ?c5; (case k6 => k_is); (case k7 => k_is); (case k8 => nest_cls); (case k9 => exact BindsTo.of_eq rfl); (case c5 => decide); (case kB => exact locs rfl); (case c2 => exact rfl); (case c3 => exact rfl); (case c4 => exact rfl); k_whole)
  intro L' h₁ base p loose mean mg mb F N B X T
  dsimp only
  k_fold
  k_steps
  all_goals (first | (exfalso; omega) | (rename_i kF kN kO; refine ret _ _ _ _ _ ?_ kF (News.pick (by k_mem) kN) (kO _ _ (by k_mem)); simp [rowI] at *; assumption))

set_option maxHeartbeats 4000000 in
theorem mul10_spec {prog : Program} {w : World} {dp un : Nat} {gd : Option (List Code)} {env : Env} {outer : List Env} {h₀ : Heap} {L : Addr} {m : Str → Option Value} {news : List (Addr × Obj)} {s : Shared} {Q E : Value → Shared → Prop} {l l2 : Addr} {x wd : Int} {t v : Tok}
    (C : Cal w env outer h₀ L m news s.heap) (hd : dp + 3 < recursionLimit) (hl : s.heap.IsList l #[.int x t]) (hl2 : s.heap.IsList l2 #[]) (hw0 : 9 ≤ wd) (hw1 : wd < 12)
    (ret : ∀ r ws k h' tk', IntsAre ws ([]) → Fr h₀ L h' m → News h₀ L h' ((r, W.listOf ws.toArray k) :: news) → (∀ p ∈ news, p.1 ≠ r) → Q (.ref r) { s with heap := h', toks := tk' }) :
    wpAny (model prog w) (AR dp un gd env outer) (call (.ref 189) [.ref l, .ref l2, .int wd v]) Q E s := by
  refine wpAny_call ?_
  k_dflt (refine' enter C ?k6 ?k7 ?k8 ?k9 ?kB ?_ ?c2 ?c3 ?c4 ?c5; (case k6 => k_is); (case k7 => k_is); (case k8 => nest_cls); (case k9 => exact BindsTo.of_eq rfl); (case c5 => decide); (case kB => exact locs rfl); (case c2 => exact rfl); (case c3 => exact rfl); (case c4 => exact rfl); k_whole)
  intro L' h₁ base p loose mean mg mb F N B X T
  dsimp only
  k_fold
  k_steps
  all_goals (first | (exfalso; omega) | (rename_i kF kN kO; refine ret _ _ _ _ _ ?_ kF (News.pick (by k_mem) kN) (kO _ _ (by k_mem)); simp [rowI] at *; assumption))

set_option maxHeartbeats 4000000 in
theorem mul11_spec {prog : Program} {w : World} {dp un : Nat} {gd : Option (List Code)} {env : Env} {outer : List Env} {h₀ : Heap} {L : Addr} {m : Str → Option Value} {news : List (Addr × Obj)} {s : Shared} {Q E : Value → Shared → Prop} {l l2 : Addr} {x y wd : Int} {t u v : Tok}
    (C : Cal w env outer h₀ L m news s.heap) (hd : dp + 3 < recursionLimit) (hl : s.heap.IsList l #[.int x t]) (hl2 : s.heap.IsList l2 #[.int y u]) (hx0 : 0 < x) (hx1 : x < 512) (hy0 : 0 < y) (hy1 : y < 512)(hw0 : 9 ≤ wd) (hw1 : wd < 12)
    (ret : ∀ r ws k h' tk', IntsAre ws (row2 wd (x * y)) → Fr h₀ L h' m → News h₀ L h' ((r, W.listOf ws.toArray k) :: news) → (∀ p ∈ news, p.1 ≠ r) → Q (.ref r) { s with heap := h', toks := tk' }) :
    wpAny (model prog w) (AR dp un gd env outer) (call (.ref 189) [.ref l, .ref l2, .int wd v]) Q E s := by
  refine wpAny_call ?_
  k_dflt (refine' enter C ?k6 ?k7 ?k8 ?k9 ?kB ?_ ?c2 ?c3 ?c4 ?c5; (case k6 => k_is); (case k7 => k_is); (case k8 => nest_cls); (case k9 => exact BindsTo.of_eq rfl); (case c5 => decide); (case kB => exact locs rfl); (case c2 => exact rfl); (case c3 => exact rfl); (case c4 => exact rfl); k_whole)
  intro L' h₁ base p loose mean mg mb F N B X T
  dsimp only
  k_fold
  k_steps
  all_goals (first | (exfalso; omega) | (rename_i kF kN kO; refine ret _ _ _ _ _ ?_ kF (News.pick (by k_mem) kN) (kO _ _ (by k_mem)); rw [← row2_of (Int.mul_pos hx0 hy0)]; simp only [Int.zero_add, Int.one_mul, kbt_mask, fdiv_pow] at *; assumption))

end
section
open PySem PySem.W PyProof.Rows PySem.Calls
set_option maxRecDepth 100000
theorem top_C7 : True := by
  w_top off
  trivial
local macro_rules | `(tactic| walk_at "pyIter ref") => `(tactic| ((with_reducible show wpAny _ _ (pyIter (Value.ref _)) (fun it s₂ => LoopAtV _ _ _ _ _ _ _ _ _ it s₂) _ _); k_here; krs_unr))
local macro_rules | `(tactic| walk_at "exec For Tuple Call cons nil") => `(tactic| (k_here; (rename Fr _ _ _ _ => lF'); (with_unfolding_all refine' For_turns lF' ?_; k_whole)))

theorem kw_8 : True := by
  k_with_none
  k_with "execs cons" => (focus (dsimp only at *))
  k_with "exec While" => (focus (refine whl_start 100 ?_))
  k_with "WhlRest" => (focus (refine whl_turn (by passes_own) ?_))
  k_with "WhlIf" => (focus (unfold WhlIf))
  k_with "WhlPost" => (focus (unfold WhlPost; dsimp only))
  k_with "subscriptTail Name Constant ref int" => (focus (k_here; (with_reducible show wpAny _ _ (subscriptTail _ _ (Value.ref _) (Value.int _ _)) _ _ _); k_dflt (refine' item_lit ?_ ?_ ?_ ?_ ?_; walk_at "pp"; (· is_list); walk_at "pp"; (· first | decide | assumption); walk_at "pp"; (· first | decide | assumption); walk_at "pp"; (· first | rfl | assumption); walk_at "pp"; k_whole)))
  k_with "subscriptTail Name Name ref int" => (focus (k_here; (with_reducible show wpAny _ _ (subscriptTail _ _ (Value.ref _) (Value.int _ _)) _ _ _); k_dflt (refine' item_lit ?_ ?_ ?_ ?_ ?_; walk_at "pp"; (· is_list); walk_at "pp"; (· first | decide | assumption); walk_at "pp"; (· first | decide | assumption); walk_at "pp"; (· first | rfl | assumption); walk_at "pp"; k_whole)))
  k_with "subscriptTail Name BinOp ref int" => (focus (k_here; (with_reducible show wpAny _ _ (subscriptTail _ _ (Value.ref _) (Value.int _ _)) _ _ _); k_dflt (refine' item_lit ?_ ?_ ?_ ?_ ?_; walk_at "pp"; (· is_list); walk_at "pp"; (· first | decide | assumption); walk_at "pp"; (· first | decide | assumption); walk_at "pp"; (· first | rfl | assumption); walk_at "pp"; k_whole)))
  k_with "subscriptTail" => (focus (k_here; (with_reducible show wpAny _ _ (subscriptTail _ _ (Value.ref _) (Value.int _ _)) _ _ _); k_dflt (refine' item_lit ?_ ?_ ?_ ?_ ?_; walk_at "pp"; (· is_list); walk_at "pp"; (· first | decide | assumption); walk_at "pp"; (· first | decide | assumption); walk_at "pp"; (· first | rfl | assumption); walk_at "pp"; k_whole)))
  k_with "call ref" => (focus (k_here; (with_reducible show wpAny _ _ (call (Value.ref 58) _) _ _ _); k_dflt (first | (refine' normal0_spec ?_ ?_ ?_ ?_; walk_at "pp"; (· kat_tups); walk_at "pp"; rotate_left; walk_at "pp"; (· is_list); walk_at "pp"; rotate_left; walk_at "pp"; (· nest_cls); walk_at "pp") | (refine' normal1_spec ?_ ?_ ?_ ?_; walk_at "pp"; (· kat_tups); walk_at "pp"; rotate_left; walk_at "pp"; (· is_list); walk_at "pp"; rotate_left; walk_at "pp"; (· nest_cls); walk_at "pp") | (refine' normal2_spec ?_ ?_ ?_ ?_; walk_at "pp"; (· kat_tups); walk_at "pp"; rotate_left; walk_at "pp"; (· is_list); walk_at "pp"; rotate_left; walk_at "pp"; (· nest_cls); walk_at "pp")); intro _ _ _ _ _ _ _ _ _; (try dsimp only)))
  k_with "call ref" => (focus (k_here; (with_reducible show wpAny _ _ (call (Value.ref 72) _) _ _ _); k_dflt (first | (refine' compare01_spec ?_ ?_ ?_ ?_ ?_; walk_at "pp"; (· kat_tups); walk_at "pp"; rotate_left; walk_at "pp"; (· is_list); walk_at "pp"; (· is_list); walk_at "pp"; rotate_left; walk_at "pp"; (· nest_cls); walk_at "pp") | (refine' compare21_spec ?_ ?_ ?_ ?_ ?_; walk_at "pp"; (· kat_tups); walk_at "pp"; rotate_left; walk_at "pp"; (· is_list); walk_at "pp"; (· is_list); walk_at "pp"; rotate_left; walk_at "pp"; (· nest_cls); walk_at "pp") | (refine' compare11_spec ?_ ?_ ?_ ?_ ?_; walk_at "pp"; (· kat_tups); walk_at "pp"; rotate_left; walk_at "pp"; (· is_list); walk_at "pp"; (· is_list); walk_at "pp"; rotate_left; walk_at "pp"; (· nest_cls); walk_at "pp")); intro _ _ _ _ _ _ _; (try dsimp only)))
  k_with "LeaveK" => (focus (refine' Cal.leave ?_ ?_ ?_ ?_; walk_at "pp"; (· k_asm); walk_at "pp"; (· k_asm); walk_at "pp"; (· first | k_asm | exact News.nil); walk_at "pp"; intro _ _ _; (try dsimp only)))
  trivial
set_option maxHeartbeats 4000000 in
theorem trailing_spec {prog : Program} {w : World} {dp un : Nat} {gd : Option (List Code)} {env : Env} {outer : List Env} {h₀ : Heap} {L : Addr} {m : Str → Option Value} {news : List (Addr × Obj)} {s : Shared} {Q E : Value → Shared → Prop} {l : Addr} {x wd : Int} {t v : Tok} {k a : Nat}
    (C : Cal w env outer h₀ L m news s.heap) (hd : dp + 1 < recursionLimit) (hl : s.heap.IsList l #[.int x t]) (hx0 : 0 < x) (hx1 : x < 512) (hx : x = 2 ^ k * (2 * a + 1)) (hw0 : 9 ≤ wd) (hw1 : wd < 12)
    (ret : ∀ v t h' tk', v = (k : Int) → Fr h₀ L h' m → News h₀ L h' news → Q (.int v t) { s with heap := h', toks := tk' }) :
    wpAny (model prog w) (AR dp un gd env outer) (call (.ref 114) [.ref l, .int wd v]) Q E s := by
  refine wpAny_call ?_
  k_dflt (refine' enter C ?k6 ?k7 ?k8 ?k9 ?kB ?_ ?c2 ?c3 ?c4 ?c5; (case k6 => k_is); (case k7 => k_is); (case k8 => nest_cls); (case k9 => exact BindsTo.of_eq rfl); (case c5 => decide); (case kB => exact locs rfl); (case c2 => exact rfl); (case c3 => exact rfl); (case c4 => exact rfl); k_whole)
  intro L' h₁ base p loose mean mg mb F N B X T
  dsimp only
  k_fold
  k_steps
  all_goals (first | (exfalso; omega) | (rename_i kF kN kO; refine ret _ _ _ _ ?_ kF (News.right kN); exact trail_val hx))

theorem odd_lt {x : Int} {k b : Nat} (hx : x = 2 ^ k * (2 * b + 1)) (h : x < 512) : k < 9 := by
  by_cases hk : k < 9
  · exact hk
  · exfalso
    have h1 : 2 ^ 9 ≤ 2 ^ k := Nat.pow_le_pow_right (by decide) (by omega)
    have h2 := kbt_cast k
    have h3 : (2 : Int) ^ k * 1 ≤ 2 ^ k * (2 * b + 1) := Int.mul_le_mul_of_nonneg_left (by omega) (by omega)
    omega
section
variable {prog : Program} {w : World} {A : Around} {E : Value → Shared → Prop} {s : Shared} {a b : Int} {t u : Tok} {Q : Value → Shared → Prop}
theorem div_zero (ha : 0 ≤ a) (hb : a < b) (hB : b < 2 ^ 30) (h : Q (.int 0 s.toks) { s with toks := s.toks + 1 }) :
    wpAny (model prog w) A (binaryOp .FloorDiv (.int a t) (.int b u)) Q E s := by
  refine floordiv_int (by omega) ?_ (Or.inl (PyProof.noPylong_small (by omega)))
  rw [fdiv_small ha hb]; exact h
theorem mod_self (ha : 0 ≤ a) (hb : a < b) (h : Q (.int a s.toks) { s with toks := s.toks + 1 }) :
    wpAny (model prog w) A (binaryOp .Mod (.int a t) (.int b u)) Q E s := by
  refine mod_int' (by omega) ?_
  rw [fmod_small ha hb]; exact h
end

theorem kw_9 : True := by
  k_with_none
  k_with "execs cons" => (focus (dsimp only at *))
  k_with "exec While" => (focus (refine whl_start 100 ?_))
  k_with "WhlRest" => (focus (refine whl_turn (by passes_own) ?_))
  k_with "WhlIf" => (focus (unfold WhlIf))
  k_with "WhlPost" => (focus (unfold WhlPost; dsimp only))
  k_with "subscriptTail Name Constant ref int" => (focus (k_here; (with_reducible show wpAny _ _ (subscriptTail _ _ (Value.ref _) (Value.int _ _)) _ _ _); k_dflt (refine' item_lit ?_ ?_ ?_ ?_ ?_; walk_at "pp"; (· is_list); walk_at "pp"; (· first | decide | assumption); walk_at "pp"; (· first | decide | assumption); walk_at "pp"; (· first | rfl | assumption); walk_at "pp"; k_whole)))
  k_with "subscriptTail Name Name ref int" => (focus (k_here; (with_reducible show wpAny _ _ (subscriptTail _ _ (Value.ref _) (Value.int _ _)) _ _ _); k_dflt (refine' item_lit ?_ ?_ ?_ ?_ ?_; walk_at "pp"; (· is_list); walk_at "pp"; (· first | decide | assumption); walk_at "pp"; (· first | decide | assumption); walk_at "pp"; (· first | rfl | assumption); walk_at "pp"; k_whole)))
  k_with "subscriptTail Name BinOp ref int" => (focus (k_here; (with_reducible show wpAny _ _ (subscriptTail _ _ (Value.ref _) (Value.int _ _)) _ _ _); k_dflt (refine' item_lit ?_ ?_ ?_ ?_ ?_; walk_at "pp"; (· is_list); walk_at "pp"; (· first | decide | assumption); walk_at "pp"; (· first | decide | assumption); walk_at "pp"; (· first | rfl | assumption); walk_at "pp"; k_whole)))
  k_with "subscriptTail" => (focus (k_here; (with_reducible show wpAny _ _ (subscriptTail _ _ (Value.ref _) (Value.int _ _)) _ _ _); k_dflt (refine' item_lit ?_ ?_ ?_ ?_ ?_; walk_at "pp"; (· is_list); walk_at "pp"; (· first | decide | assumption); walk_at "pp"; (· first | decide | assumption); walk_at "pp"; (· first | rfl | assumption); walk_at "pp"; k_whole)))
  k_with "call ref" => (focus (k_here; (with_reducible show wpAny _ _ (call (Value.ref 58) _) _ _ _); k_dflt (first | (refine' normal0_spec ?_ ?_ ?_ ?_; walk_at "pp"; (· kat_tups); walk_at "pp"; rotate_left; walk_at "pp"; (· is_list); walk_at "pp"; rotate_left; walk_at "pp"; (· nest_cls); walk_at "pp") | (refine' normal1_spec ?_ ?_ ?_ ?_; walk_at "pp"; (· kat_tups); walk_at "pp"; rotate_left; walk_at "pp"; (· is_list); walk_at "pp"; rotate_left; walk_at "pp"; (· nest_cls); walk_at "pp") | (refine' normal2_spec ?_ ?_ ?_ ?_; walk_at "pp"; (· kat_tups); walk_at "pp"; rotate_left; walk_at "pp"; (· is_list); walk_at "pp"; rotate_left; walk_at "pp"; (· nest_cls); walk_at "pp")); intro _ _ _ _ _ _ _ _ _; (try dsimp only)))
  k_with "call ref" => (focus (k_here; (with_reducible show wpAny _ _ (call (Value.ref 72) _) _ _ _); k_dflt (first | (refine' compare01_spec ?_ ?_ ?_ ?_ ?_; walk_at "pp"; (· kat_tups); walk_at "pp"; rotate_left; walk_at "pp"; (· is_list); walk_at "pp"; (· is_list); walk_at "pp"; rotate_left; walk_at "pp"; (· nest_cls); walk_at "pp") | (refine' compare21_spec ?_ ?_ ?_ ?_ ?_; walk_at "pp"; (· kat_tups); walk_at "pp"; rotate_left; walk_at "pp"; (· is_list); walk_at "pp"; (· is_list); walk_at "pp"; rotate_left; walk_at "pp"; (· nest_cls); walk_at "pp") | (refine' compare11_spec ?_ ?_ ?_ ?_ ?_; walk_at "pp"; (· kat_tups); walk_at "pp"; rotate_left; walk_at "pp"; (· is_list); walk_at "pp"; (· is_list); walk_at "pp"; rotate_left; walk_at "pp"; (· nest_cls); walk_at "pp")); intro _ _ _ _ _ _ _; (try dsimp only)))
  k_with "LeaveK" => (focus (refine' Cal.leave ?_ ?_ ?_ ?_; walk_at "pp"; (· k_asm); walk_at "pp"; (· k_asm); walk_at "pp"; (· first | k_asm | exact News.nil); walk_at "pp"; intro _ _ _; (try dsimp only)))
  k_with "binaryOp FloorDiv int int" => (focus (k_here; (refine' div_zero ?_ ?_ ?_ ?_; walk_at "pp"; (· omega); walk_at "pp"; (· omega); walk_at "pp"; (· omega); walk_at "pp")))
  k_with "binaryOp Mod int int" => (focus (k_here; (refine' mod_self ?_ ?_ ?_; walk_at "pp"; (· omega); walk_at "pp"; (· omega); walk_at "pp")))
  trivial
set_option maxHeartbeats 4000000 in
theorem shift_right_spec {prog : Program} {w : World} {dp un : Nat} {gd : Option (List Code)} {env : Env} {outer : List Env} {h₀ : Heap} {L : Addr} {m : Str → Option Value} {news : List (Addr × Obj)} {s : Shared} {Q E : Value → Shared → Prop} {l : Addr} {x n wd : Int} {t u v : Tok}
    (C : Cal w env outer h₀ L m news s.heap) (hd : dp + 3 < recursionLimit) (hl : s.heap.IsList l #[.int x t]) (hx0 : 0 ≤ x) (hx1 : x < 512) (hn0 : 0 ≤ n) (hn1 : n < 9) (hw0 : 9 ≤ wd) (hw1 : wd < 12)
    (ret : ∀ r ws k h' tk', IntsAre ws (rowI (x / 2 ^ n.toNat)) → Fr h₀ L h' m → News h₀ L h' ((r, W.listOf ws.toArray k) :: news) → (∀ p ∈ news, p.1 ≠ r) → Q (.ref r) { s with heap := h', toks := tk' }) :
    wpAny (model prog w) (AR dp un gd env outer) (call (.ref 93) [.ref l, .int n u, .int wd v]) Q E s := by
  refine wpAny_call ?_
  k_dflt (refine' enter C ?k6 ?k7 ?k8 ?k9 ?kB ?_ ?c2 ?c3 ?c4 ?c5; (case k6 => k_is); (case k7 => k_is); (case k8 => nest_cls); (case k9 => exact BindsTo.of_eq rfl); (case c5 => decide); (case kB => exact locs rfl); (case c2 => exact rfl); (case c3 => exact rfl); (case c4 => exact rfl); k_whole)
  intro L' h₁ base p loose mean mg mb F N B X T
  dsimp only
  k_fold
  k_steps
  all_goals (first | (exfalso; omega) | (rename_i kF kN kO; refine ret _ _ _ _ _ ?_ kF (News.pick (by k_mem) kN) (kO _ _ (by k_mem)); rw [shift_val hx0 hx1 hw0] at *; assumption))

set_option maxHeartbeats 4000000 in
theorem shift_odd_spec {prog : Program} {w : World} {dp un : Nat} {gd : Option (List Code)} {env : Env} {outer : List Env} {h₀ : Heap} {L : Addr} {m : Str → Option Value} {news : List (Addr × Obj)} {s : Shared} {Q E : Value → Shared → Prop} {l : Addr} {x wd : Int} {t u v : Tok} {k b : Nat}
    (C : Cal w env outer h₀ L m news s.heap) (hd : dp + 3 < recursionLimit) (hl : s.heap.IsList l #[.int x t]) (hx0 : 0 ≤ x) (hx1 : x < 512) (hx : x = 2 ^ k * (2 * b + 1)) (hw0 : 9 ≤ wd) (hw1 : wd < 12)
    (ret : ∀ r t c h' tk', Fr h₀ L h' m → News h₀ L h' ((r, W.listOf #[.int (2 * (b : Int) + 1) t] c) :: news) → (∀ p ∈ news, p.1 ≠ r) → Q (.ref r) { s with heap := h', toks := tk' }) :
    wpAny (model prog w) (AR dp un gd env outer) (call (.ref 93) [.ref l, .int (k : Int) u, .int wd v]) Q E s := by
  have hk : k < 9 := odd_lt hx hx1
  refine shift_right_spec C hd hl hx0 hx1 (by omega) (by omega) hw0 hw1 fun r ws c h' tk' hI F N o => ?_
  have e : x / 2 ^ (k : Int).toNat = 2 * (b : Int) + 1 := by
    rw [Int.toNat_natCast, hx]
    exact Int.mul_ediv_cancel_left _ (by have := kbt_pos k; omega)
  rw [e, rowI, if_neg (by omega)] at hI
  obtain ⟨t', rfl⟩ := ints_one hI
  exact ret _ _ _ _ _ F N o

end
section
open PySem PySem.W PyProof.Rows PySem.Calls
set_option maxRecDepth 100000
theorem top_C8 : True := by
  w_top off
  trivial
theorem lb2 (x : Int) : x % 2 + x / 2 % 2 * 2 = x % 4 := by omega
theorem lb3 (x : Int) : x % 2 + (x / 2 % 2 * 2 + x / 4 % 2 * 4) = x % 8 := by omega
local macro_rules | `(tactic| walk_at "pyIter ref") => `(tactic| ((with_reducible show wpAny _ _ (pyIter (Value.ref _)) (fun it s₂ => LoopAtV _ _ _ _ _ _ _ _ _ it s₂) _ _); k_here; krs_unr))

theorem kw_10 : True := by
  k_with_none
  k_with "execs cons" => (focus (dsimp only at *))
  k_with "exec While" => (focus (refine whl_start 100 ?_))
  k_with "WhlRest" => (focus (refine whl_turn (by passes_own) ?_))
  k_with "WhlIf" => (focus (unfold WhlIf))
  k_with "WhlPost" => (focus (unfold WhlPost; dsimp only))
  k_with "subscriptTail Name Constant ref int" => (focus (k_here; (with_reducible show wpAny _ _ (subscriptTail _ _ (Value.ref _) (Value.int _ _)) _ _ _); k_dflt (refine' item_lit ?_ ?_ ?_ ?_ ?_; walk_at "pp"; (· is_list); walk_at "pp"; (· first | decide | assumption); walk_at "pp"; (· first | decide | assumption); walk_at "pp"; (· first | rfl | assumption); walk_at "pp"; k_whole)))
  k_with "subscriptTail Name Name ref int" => (focus (k_here; (with_reducible show wpAny _ _ (subscriptTail _ _ (Value.ref _) (Value.int _ _)) _ _ _); k_dflt (refine' item_lit ?_ ?_ ?_ ?_ ?_; walk_at "pp"; (· is_list); walk_at "pp"; (· first | decide | assumption); walk_at "pp"; (· first | decide | assumption); walk_at "pp"; (· first | rfl | assumption); walk_at "pp"; k_whole)))
  k_with "subscriptTail Name BinOp ref int" => (focus (k_here; (with_reducible show wpAny _ _ (subscriptTail _ _ (Value.ref _) (Value.int _ _)) _ _ _); k_dflt (refine' item_lit ?_ ?_ ?_ ?_ ?_; walk_at "pp"; (· is_list); walk_at "pp"; (· first | decide | assumption); walk_at "pp"; (· first | decide | assumption); walk_at "pp"; (· first | rfl | assumption); walk_at "pp"; k_whole)))
  k_with "subscriptTail" => (focus (k_here; (with_reducible show wpAny _ _ (subscriptTail _ _ (Value.ref _) (Value.int _ _)) _ _ _); k_dflt (refine' item_lit ?_ ?_ ?_ ?_ ?_; walk_at "pp"; (· is_list); walk_at "pp"; (· first | decide | assumption); walk_at "pp"; (· first | decide | assumption); walk_at "pp"; (· first | rfl | assumption); walk_at "pp"; k_whole)))
  k_with "call ref" => (focus (k_here; (with_reducible show wpAny _ _ (call (Value.ref 58) _) _ _ _); k_dflt (first | (refine' normal0_spec ?_ ?_ ?_ ?_; walk_at "pp"; (· kat_tups); walk_at "pp"; rotate_left; walk_at "pp"; (· is_list); walk_at "pp"; rotate_left; walk_at "pp"; (· nest_cls); walk_at "pp") | (refine' normal1_spec ?_ ?_ ?_ ?_; walk_at "pp"; (· kat_tups); walk_at "pp"; rotate_left; walk_at "pp"; (· is_list); walk_at "pp"; rotate_left; walk_at "pp"; (· nest_cls); walk_at "pp") | (refine' normal2_spec ?_ ?_ ?_ ?_; walk_at "pp"; (· kat_tups); walk_at "pp"; rotate_left; walk_at "pp"; (· is_list); walk_at "pp"; rotate_left; walk_at "pp"; (· nest_cls); walk_at "pp")); intro _ _ _ _ _ _ _ _ _; (try dsimp only)))
  k_with "call ref" => (focus (k_here; (with_reducible show wpAny _ _ (call (Value.ref 72) _) _ _ _); k_dflt (first | (refine' compare01_spec ?_ ?_ ?_ ?_ ?_; walk_at "pp"; (· kat_tups); walk_at "pp"; rotate_left; walk_at "pp"; (· is_list); walk_at "pp"; (· is_list); walk_at "pp"; rotate_left; walk_at "pp"; (· nest_cls); walk_at "pp") | (refine' compare21_spec ?_ ?_ ?_ ?_ ?_; walk_at "pp"; (· kat_tups); walk_at "pp"; rotate_left; walk_at "pp"; (· is_list); walk_at "pp"; (· is_list); walk_at "pp"; rotate_left; walk_at "pp"; (· nest_cls); walk_at "pp") | (refine' compare11_spec ?_ ?_ ?_ ?_ ?_; walk_at "pp"; (· kat_tups); walk_at "pp"; rotate_left; walk_at "pp"; (· is_list); walk_at "pp"; (· is_list); walk_at "pp"; rotate_left; walk_at "pp"; (· nest_cls); walk_at "pp")); intro _ _ _ _ _ _ _; (try dsimp only)))
  k_with "LeaveK" => (focus (refine' Cal.leave ?_ ?_ ?_ ?_; walk_at "pp"; (· k_asm); walk_at "pp"; (· k_asm); walk_at "pp"; (· first | k_asm | exact News.nil); walk_at "pp"; intro _ _ _; (try dsimp only)))
  k_with "call ref" => (focus (k_here; (with_reducible show wpAny _ _ (call (Value.ref 107) _) _ _ _); k_dflt ((refine' bit1_spec ?_ ?_ ?_ ?_ ?_ ?_ ?_ ?_; walk_at "pp"; (· kat_tups); walk_at "pp"; rotate_left; walk_at "pp"; (· is_list); walk_at "pp"; rotate_left; walk_at "pp"; rotate_left; walk_at "pp"; rotate_left; walk_at "pp"; rotate_left; walk_at "pp"; rotate_left; walk_at "pp"; (· nest_cls); walk_at "pp"; (· kaf_pre); walk_at "pp"; (· kaf_pre); walk_at "pp"; (· kaf_pre); walk_at "pp"; (· kaf_pre); walk_at "pp")); intro _ _ _ _ hv' _ _; subst hv'; (try dsimp only)))
  trivial
set_option maxHeartbeats 4000000 in
theorem last_bits2_spec {prog : Program} {w : World} {dp un : Nat} {gd : Option (List Code)} {env : Env} {outer : List Env} {h₀ : Heap} {L : Addr} {m : Str → Option Value} {news : List (Addr × Obj)} {s : Shared} {Q E : Value → Shared → Prop} {l : Addr} {x wd : Int} {t u v : Tok}
    (C : Cal w env outer h₀ L m news s.heap) (hd : dp + 3 < recursionLimit) (hl : s.heap.IsList l #[.int x t]) (hx0 : 0 ≤ x) (hx1 : x < 512) (hw0 : 9 ≤ wd) (hw1 : wd < 12)
    (ret : ∀ v t h' tk', v = x % 4 → Fr h₀ L h' m → News h₀ L h' news → Q (.int v t) { s with heap := h', toks := tk' }) :
    wpAny (model prog w) (AR dp un gd env outer) (call (.ref 119) [.ref l, .int 2 u, .int wd v]) Q E s := by
  refine wpAny_call ?_
  k_dflt (refine' enterC C ?k6 ?k7 ?k8 ?k9 ?kB ?kD ?_ ?c2 ?c3 ?c4; (case k6 => k_is); (case k7 => k_is); (case k8 => nest_cls); (case k9 => exact BindsTo.of_eq rfl); (case kB => exact rfl); (case kD => decide +kernel); (case c2 => exact rfl); (case c3 => exact rfl); (case c4 => exact rfl); k_whole)
  intro L' h₁ tk cells base p loose mean mg mb F N Y B X T
  k_cells Y
  (try simp only [List.cons_append, List.nil_append] at N)
  dsimp only
  (try k_unmd)
  k_fold
  k_steps
  all_goals (first | (exfalso; omega) | (rename_i kF kN kO; refine ret _ _ _ _ ?_ kF (News.right kN); simp [rangeKs, List.range, List.range.loop]; first | exact lb2 _ | exact lb3 _))

set_option maxHeartbeats 4000000 in
theorem last_bits3_spec {prog : Program} {w : World} {dp un : Nat} {gd : Option (List Code)} {env : Env} {outer : List Env} {h₀ : Heap} {L : Addr} {m : Str → Option Value} {news : List (Addr × Obj)} {s : Shared} {Q E : Value → Shared → Prop} {l : Addr} {x wd : Int} {t u v : Tok}
    (C : Cal w env outer h₀ L m news s.heap) (hd : dp + 3 < recursionLimit) (hl : s.heap.IsList l #[.int x t]) (hx0 : 0 ≤ x) (hx1 : x < 512) (hw0 : 9 ≤ wd) (hw1 : wd < 12)
    (ret : ∀ v t h' tk', v = x % 8 → Fr h₀ L h' m → News h₀ L h' news → Q (.int v t) { s with heap := h', toks := tk' }) :
    wpAny (model prog w) (AR dp un gd env outer) (call (.ref 119) [.ref l, .int 3 u, .int wd v]) Q E s := by
  refine wpAny_call ?_
  k_dflt (refine' enterC C ?k6 ?k7 ?k8 ?k9 ?kB ?kD ?_ ?c2 ?c3 ?c4; (case k6 => k_is); (case k7 => k_is); (case k8 => nest_cls); (case k9 => exact BindsTo.of_eq rfl); (case kB => exact rfl); (case kD => decide +kernel); (case c2 => exact rfl); (case c3 => exact rfl); (case c4 => exact rfl); k_whole)
  intro L' h₁ tk cells base p loose mean mg mb F N Y B X T
  k_cells Y
  (try simp only [List.cons_append, List.nil_append] at N)
  dsimp only
  (try k_unmd)
  k_fold
  k_steps
  all_goals (first | (exfalso; omega) | (rename_i kF kN kO; refine ret _ _ _ _ ?_ kF (News.right kN); simp [rangeKs, List.range, List.range.loop]; first | exact lb2 _ | exact lb3 _))

theorem kw_11 : True := by
  k_with_none
  k_with "execs cons" => (focus (dsimp only at *))
  k_with "exec While" => (focus (refine whl_start 100 ?_))
  k_with "WhlRest" => (focus (refine whl_turn (by passes_own) ?_))
  k_with "WhlIf" => (focus (unfold WhlIf))
  k_with "WhlPost" => (focus (unfold WhlPost; dsimp only))
  k_with "subscriptTail Name Constant ref int" => (focus (k_here; (with_reducible show wpAny _ _ (subscriptTail _ _ (Value.ref _) (Value.int _ _)) _ _ _); k_dflt (refine' item_lit ?_ ?_ ?_ ?_ ?_; walk_at "pp"; (· is_list); walk_at "pp"; (· first | decide | assumption); walk_at "pp"; (· first | decide | assumption); walk_at "pp"; (· first | rfl | assumption); walk_at "pp"; k_whole)))
  k_with "subscriptTail Name Name ref int" => (focus (k_here; (with_reducible show wpAny _ _ (subscriptTail _ _ (Value.ref _) (Value.int _ _)) _ _ _); k_dflt (refine' item_lit ?_ ?_ ?_ ?_ ?_; walk_at "pp"; (· is_list); walk_at "pp"; (· first | decide | assumption); walk_at "pp"; (· first | decide | assumption); walk_at "pp"; (· first | rfl | assumption); walk_at "pp"; k_whole)))
  k_with "subscriptTail Name BinOp ref int" => (focus (k_here; (with_reducible show wpAny _ _ (subscriptTail _ _ (Value.ref _) (Value.int _ _)) _ _ _); k_dflt (refine' item_lit ?_ ?_ ?_ ?_ ?_; walk_at "pp"; (· is_list); walk_at "pp"; (· first | decide | assumption); walk_at "pp"; (· first | decide | assumption); walk_at "pp"; (· first | rfl | assumption); walk_at "pp"; k_whole)))
  k_with "subscriptTail" => (focus (k_here; (with_reducible show wpAny _ _ (subscriptTail _ _ (Value.ref _) (Value.int _ _)) _ _ _); k_dflt (refine' item_lit ?_ ?_ ?_ ?_ ?_; walk_at "pp"; (· is_list); walk_at "pp"; (· first | decide | assumption); walk_at "pp"; (· first | decide | assumption); walk_at "pp"; (· first | rfl | assumption); walk_at "pp"; k_whole)))
  k_with "call ref" => (focus (k_here; (with_reducible show wpAny _ _ (call (Value.ref 58) _) _ _ _); k_dflt (first | (refine' normal0_spec ?_ ?_ ?_ ?_; walk_at "pp"; (· kat_tups); walk_at "pp"; rotate_left; walk_at "pp"; (· is_list); walk_at "pp"; rotate_left; walk_at "pp"; (· nest_cls); walk_at "pp") | (refine' normal1_spec ?_ ?_ ?_ ?_; walk_at "pp"; (· kat_tups); walk_at "pp"; rotate_left; walk_at "pp"; (· is_list); walk_at "pp"; rotate_left; walk_at "pp"; (· nest_cls); walk_at "pp") | (refine' normal2_spec ?_ ?_ ?_ ?_; walk_at "pp"; (· kat_tups); walk_at "pp"; rotate_left; walk_at "pp"; (· is_list); walk_at "pp"; rotate_left; walk_at "pp"; (· nest_cls); walk_at "pp")); intro _ _ _ _ _ _ _ _ _; (try dsimp only)))
  k_with "call ref" => (focus (k_here; (with_reducible show wpAny _ _ (call (Value.ref 72) _) _ _ _); k_dflt (first | (refine' compare01_spec ?_ ?_ ?_ ?_ ?_; walk_at "pp"; (· kat_tups); walk_at "pp"; rotate_left; walk_at "pp"; (· is_list); walk_at "pp"; (· is_list); walk_at "pp"; rotate_left; walk_at "pp"; (· nest_cls); walk_at "pp") | (refine' compare21_spec ?_ ?_ ?_ ?_ ?_; walk_at "pp"; (· kat_tups); walk_at "pp"; rotate_left; walk_at "pp"; (· is_list); walk_at "pp"; (· is_list); walk_at "pp"; rotate_left; walk_at "pp"; (· nest_cls); walk_at "pp") | (refine' compare11_spec ?_ ?_ ?_ ?_ ?_; walk_at "pp"; (· kat_tups); walk_at "pp"; rotate_left; walk_at "pp"; (· is_list); walk_at "pp"; (· is_list); walk_at "pp"; rotate_left; walk_at "pp"; (· nest_cls); walk_at "pp")); intro _ _ _ _ _ _ _; (try dsimp only)))
  k_with "LeaveK" => (focus (refine' Cal.leave ?_ ?_ ?_ ?_; walk_at "pp"; (· k_asm); walk_at "pp"; (· k_asm); walk_at "pp"; (· first | k_asm | exact News.nil); walk_at "pp"; intro _ _ _; (try dsimp only)))
  k_with "call ref" => (focus (k_here; (with_reducible show wpAny _ _ (call (Value.ref 107) _) _ _ _); k_dflt ((refine' bit1_spec ?_ ?_ ?_ ?_ ?_ ?_ ?_ ?_; walk_at "pp"; (· kat_tups); walk_at "pp"; rotate_left; walk_at "pp"; (· is_list); walk_at "pp"; rotate_left; walk_at "pp"; rotate_left; walk_at "pp"; rotate_left; walk_at "pp"; rotate_left; walk_at "pp"; rotate_left; walk_at "pp"; (· nest_cls); walk_at "pp"; (· kaf_pre); walk_at "pp"; (· kaf_pre); walk_at "pp"; (· kaf_pre); walk_at "pp"; (· kaf_pre); walk_at "pp")); intro _ _ _ _ hv' _ _; subst hv'; (try dsimp only)))
  k_with "call ref" => (focus (k_here; (with_reducible show wpAny _ _ (call (Value.ref 119) _) _ _ _); k_dflt (first | (refine' last_bits2_spec ?_ ?_ ?_ ?_ ?_ ?_ ?_ ?_; walk_at "pp"; (· kat_tups); walk_at "pp"; rotate_left; walk_at "pp"; (· is_list); walk_at "pp"; rotate_left; walk_at "pp"; rotate_left; walk_at "pp"; rotate_left; walk_at "pp"; rotate_left; walk_at "pp"; rotate_left; walk_at "pp"; (· nest_cls); walk_at "pp"; (· kaf_pre); walk_at "pp"; (· kaf_pre); walk_at "pp"; (· kaf_pre); walk_at "pp"; (· kaf_pre); walk_at "pp") | (refine' last_bits3_spec ?_ ?_ ?_ ?_ ?_ ?_ ?_ ?_; walk_at "pp"; (· kat_tups); walk_at "pp"; rotate_left; walk_at "pp"; (· is_list); walk_at "pp"; rotate_left; walk_at "pp"; rotate_left; walk_at "pp"; rotate_left; walk_at "pp"; rotate_left; walk_at "pp"; rotate_left; walk_at "pp"; (· nest_cls); walk_at "pp"; (· kaf_pre); walk_at "pp"; (· kaf_pre); walk_at "pp"; (· kaf_pre); walk_at "pp"; (· kaf_pre); walk_at "pp")); intro _ _ _ _ hv' _ _; subst hv'; (try dsimp only)))
  trivial
set_option maxHeartbeats 4000000 in
theorem two_sign_spec {prog : Program} {w : World} {dp un : Nat} {gd : Option (List Code)} {env : Env} {outer : List Env} {h₀ : Heap} {L : Addr} {m : Str → Option Value} {news : List (Addr × Obj)} {s : Shared} {Q E : Value → Shared → Prop} {l : Addr} {x k wd : Int} {t u v : Tok}
    (C : Cal w env outer h₀ L m news s.heap) (hd : dp + 6 < recursionLimit) (hl : s.heap.IsList l #[.int x t]) (hx0 : 0 ≤ x) (hx1 : x < 512) (hw0 : 9 ≤ wd) (hw1 : wd < 12)
    (ret : ∀ v t h' tk', v = (if k % 2 = 1 ∧ (x % 8 = 3 ∨ x % 8 = 5) then -1 else 1) → Fr h₀ L h' m → News h₀ L h' news → Q (.int v t) { s with heap := h', toks := tk' }) :
    wpAny (model prog w) (AR dp un gd env outer) (call (.ref 126) [.int k u, .ref l, .int wd v]) Q E s := by
  refine wpAny_call ?_
  k_dflt (refine' enter C ?k6 ?k7 ?k8 ?k9 ?kB ?_ ?c2 ?c3 ?c4 ?c5; (case k6 => k_is); (case k7 => k_is); (case k8 => nest_cls); (case k9 => exact BindsTo.of_eq rfl); (case c5 => decide); (case kB => exact locs rfl); (case c2 => exact rfl); (case c3 => exact rfl); (case c4 => exact rfl); k_whole)
  intro L' h₁ base p loose mean mg mb F N B X T
  dsimp only
  k_fold
  k_steps
  all_goals (first | (exfalso; omega) | (rename_i kF kN kO; refine ret _ _ _ _ ?_ kF (News.right kN); simp only [Int.fmod_eq_emod_of_nonneg _ (show (0:Int) ≤ 2 by decide)] at *; simp at *; (try split) <;> omega))

end
section
open PySem PySem.W PyProof.Rows PySem.Calls
set_option maxRecDepth 100000
theorem top_C9 : True := by
  w_top off
  trivial
theorem row2_small {w x : Int} (h0 : 0 ≤ x) (h1 : x < 512) (hw : 9 ≤ w) : row2 w x = rowI x := by
  have h2 := pow_ge_512 hw
  unfold row2 rowI
  split
  · rfl
  · rw [if_pos (Int.ediv_eq_zero_of_lt h0 (by omega)), Int.emod_eq_of_lt h0 (by omega)]

theorem divrem_spec {prog : Program} {w : World} {dp un : Nat} {gd : Option (List Code)} {env : Env} {outer : List Env} {h₀ : Heap} {L : Addr} {m : Str → Option Value} {news : List (Addr × Obj)} {s : Shared} {Q E : Value → Shared → Prop} {l l2 : Addr} {ws : List Value} {x n wd : Int} {u v : Tok}
    (C : Cal w env outer h₀ L m news s.heap) (hd : dp + 6 < recursionLimit) (hl : s.heap.IsList l ws.toArray) (hI : IntsAre ws (row2 wd x)) (hl2 : s.heap.IsList l2 #[.int n u]) (hw0 : 9 ≤ wd) (hw1 : wd < 12) (hx0 : 0 ≤ x) (hx : x < 2 ^ 18) (hn0 : 0 < n) (hn : n < 512)
    (ret : ∀ T q r ws k c h' tk', IntsAre ws (rowI (x % n)) → Fr h₀ L h' m → News h₀ L h' ((T, ({ cls := .type "tuple", data := .seq #[.ref q, .ref r] k } : Obj)) :: (r, W.listOf ws.toArray c) :: news) → (∀ p ∈ news, p.1 ≠ T) → (∀ p ∈ news, p.1 ≠ r) → Q (.ref T) { s with heap := h', toks := tk' }) :
    wpAny (model prog w) (AR dp un gd env outer) (call (.ref 231) [.ref l, .ref l2, .int wd v]) Q E s := by
  have hp := kbt_pos wd.toNat
  have hp9 := pow_ge_512 hw0
  unfold row2 at hI
  split at hI
  · rename_i h0
    subst h0
    have e := ints_nil hI
    subst e
    refine school0_spec C hd hl hl2 fun T q r ws k c h' tk' hI => ret T q r ws k c h' tk' ?_
    rw [Int.zero_emod]
    exact hI
  · split at hI
    · rename_i h0 h1
      rw [ediv_zero h1] at hI
      obtain ⟨t, rfl⟩ := ints_one hI
      have hlt : x < 2 ^ wd.toNat := by
        have := Int.emod_lt_of_pos x hp
        rw [ediv_zero h1] at this
        exact this
      exact school1_spec C hd hl hl2 hw0 hw1 (by omega) hlt hn0 hn ret
    · rename_i h0 h1
      obtain ⟨t, t2, rfl⟩ := ints_two hI
      have e : x / 2 ^ wd.toNat * 2 ^ wd.toNat + x % 2 ^ wd.toNat = x := by rw [Int.mul_comm]; exact Int.mul_ediv_add_emod x _
      have hq : x / 2 ^ wd.toNat < 2 ^ wd.toNat := by
        have h2 : (2 ^ 18 : Int) ≤ 2 ^ wd.toNat * 2 ^ wd.toNat := by
          have := Int.mul_le_mul hp9 hp9 (by decide) (by omega)
          have e2 : (2 ^ 18 : Int) = 512 * 512 := by decide
          rw [e2]; exact this
        exact Int.ediv_lt_of_lt_mul hp (by omega)
      refine school2_spec C hd hl hl2 hw0 hw1 (Int.emod_nonneg _ (by omega)) (Int.emod_lt_of_pos _ hp) (Int.ediv_nonneg hx0 (by omega)) hq hn0 hn fun T q r ws k c h' tk' hI => ret T q r ws k c h' tk' ?_
      rw [e] at hI
      exact hI

theorem mul_spec {prog : Program} {w : World} {dp un : Nat} {gd : Option (List Code)} {env : Env} {outer : List Env} {h₀ : Heap} {L : Addr} {m : Str → Option Value} {news : List (Addr × Obj)} {s : Shared} {Q E : Value → Shared → Prop} {l l2 : Addr} {wx wy : List Value} {x y wd : Int} {v : Tok}
    (C : Cal w env outer h₀ L m news s.heap) (hd : dp + 3 < recursionLimit) (hl : s.heap.IsList l wx.toArray) (hI : IntsAre wx (rowI x)) (hl2 : s.heap.IsList l2 wy.toArray) (hI2 : IntsAre wy (rowI y)) (hw0 : 9 ≤ wd) (hw1 : wd < 12) (hx0 : 0 ≤ x) (hx : x < 512) (hy0 : 0 ≤ y) (hy : y < 512)
    (ret : ∀ r ws k h' tk', IntsAre ws (row2 wd (x * y)) → Fr h₀ L h' m → News h₀ L h' ((r, W.listOf ws.toArray k) :: news) → (∀ p ∈ news, p.1 ≠ r) → Q (.ref r) { s with heap := h', toks := tk' }) :
    wpAny (model prog w) (AR dp un gd env outer) (call (.ref 189) [.ref l, .ref l2, .int wd v]) Q E s := by
  have e0 : row2 wd 0 = [] := by unfold row2; rw [if_pos rfl]
  unfold rowI at hI hI2
  by_cases h1 : x = 0
  · rw [if_pos h1] at hI
    have e := ints_nil hI; subst e; subst h1
    rw [Int.zero_mul, e0] at ret
    by_cases h2 : y = 0
    · rw [if_pos h2] at hI2
      have e := ints_nil hI2; subst e
      exact mul00_spec C hd hl hl2 hw0 hw1 ret
    · rw [if_neg h2] at hI2
      obtain ⟨t, rfl⟩ := ints_one hI2
      exact mul01_spec C hd hl hl2 hw0 hw1 ret
  · rw [if_neg h1] at hI
    obtain ⟨t, rfl⟩ := ints_one hI
    by_cases h2 : y = 0
    · rw [if_pos h2] at hI2
      have e := ints_nil hI2; subst e; subst h2
      rw [Int.mul_zero, e0] at ret
      exact mul10_spec C hd hl hl2 hw0 hw1 ret
    · rw [if_neg h2] at hI2
      obtain ⟨t, rfl⟩ := ints_one hI2
      exact mul11_spec C hd hl hl2 (by omega) hx (by omega) hy hw0 hw1 ret
end
section
open PySem PySem.W PyProof.Rows PySem.Calls
set_option maxRecDepth 100000
theorem top_C10 : True := by
  w_top off
  trivial

inductive Jac : Int → Int → Int → Int → Prop
  | done (f n : Int) : Jac f 0 n (if n = 1 then f else 0)
  | step (k b : Nat) (f n R g h : Int) : g = f * (if (k : Int) % 2 = 1 ∧ (n % 8 = 3 ∨ n % 8 = 5) then -1 else 1) → h = (if (2 * (b : Int) + 1) % 4 = 3 ∧ n % 4 = 3 then -g else g) → Jac h (n % (2 * b + 1)) (2 * b + 1) R → Jac f (2 ^ k * (2 * b + 1)) n R
theorem Jac.inv0 {f a n R : Int} (h : Jac f a n R) (ha : a = 0) : R = if n = 1 then f else 0 := by
  cases h with
  | done => rfl
  | step k b _ _ _ g h =>
    exfalso
    have h1 := Int.mul_pos (kbt_pos k) (show (0 : Int) < 2 * b + 1 by omega)
    omega
theorem Jac.inv1 {f a n R : Int} (h : Jac f a n R) (ha : 0 < a) : ∃ (k b : Nat) (g h : Int), a = 2 ^ k * (2 * b + 1) ∧ g = f * (if (k : Int) % 2 = 1 ∧ (n % 8 = 3 ∨ n % 8 = 5) then -1 else 1) ∧ h = (if (2 * (b : Int) + 1) % 4 = 3 ∧ n % 4 = 3 then -g else g) ∧ Jac h (n % (2 * b + 1)) (2 * b + 1) R := by
  cases h with
  | done => omega
  | step k b _ _ _ g h h1 h2 h3 => exact ⟨k, b, g, h, rfl, h1, h2, h3⟩
structure JS where
  f : Int
  tf : Tok
  a : Int
  ra : Addr
  wa : List Value
  ca : Nat
  n : Int
  tn : Tok
  rn : Addr
  cn : Nat
def Hold (P : Prop) : Prop := P
theorem Hold.intro {P : Prop} (h : Hold P) : P := h
local macro_rules | `(tactic| walk_at "pyIter ref") => `(tactic| ((with_reducible show wpAny _ _ (pyIter (Value.ref _)) (fun it s₂ => LoopAtV _ _ _ _ _ _ _ _ _ it s₂) _ _); k_here; krs_unr))


def JHold : Prop := True
theorem Fr.again {h₀ h : Heap} {L : Addr} {m : Str → Option Value} {x : Str} {v : Value} (F : Fr h₀ L h m) (e : m x = some v) : Fr h₀ L h (fun y => if y = x then some v else m y) := by
  have q : (fun y => if y = x then some v else m y) = m := by
    funext y
    by_cases c : y = x
    · rw [if_pos c, c, e]
    · rw [if_neg c]
  rw [q]
  exact F
def JEnd (s : Shared) (g : Heap) (L : Addr) (x : Str) (v : Int) (m : Str → Option Value) (news : List (Addr × Obj)) (fl : Flow) (s' : Shared) : Prop :=
  fl = .next ∧ ∃ h' tk' t', s' = { s with heap := h', toks := tk' } ∧ Fr g L h' (fun y => if y = x then some (.int v t') else m y) ∧ News g L h' news
theorem jend_same {s : Shared} {g h : Heap} {L : Addr} {x : Str} {v : Int} {t : Tok} {m : Str → Option Value} {news : List (Addr × Obj)} {k : Nat} (F : Fr g L h m) (N : News g L h news) (e : m x = some (.int v t)) : JEnd s g L x v m news .next { s with heap := h, toks := k } := ⟨rfl, _, _, t, rfl, Fr.again F e, N⟩
theorem jend_new {s : Shared} {g h : Heap} {L : Addr} {x : Str} {v : Int} {t : Tok} {m : Str → Option Value} {news : List (Addr × Obj)} {k : Nat} (F : Fr g L h (fun y => if y = x then some (.int v t) else m y)) (N : News g L h news) : JEnd s g L x v m news .next { s with heap := h, toks := k } := ⟨rfl, _, _, t, rfl, F, N⟩
theorem if_join {p : Program} {w : World} {A : Around} {t : Sem Flow} {Q : Flow → Shared → Prop} {E : Value → Shared → Prop} {s : Shared} {g h : Heap} {L : Addr} {m : Str → Option Value} {news : List (Addr × Obj)} {x : Str} (v : Int)
    (_F : Fr g L h m) (_N : News g L h news)
    (step : wpAny (model p w) A t (JEnd s g L x v m news) E s)
    (rest : ∀ h' tk' t', Fr g L h' (fun y => if y = x then some (.int v t') else m y) → News g L h' news → Q .next { s with heap := h', toks := tk' }) : wpAny (model p w) A t Q E s :=
  wpAny_mono step (by rintro fl s' ⟨rfl, h', tk', t', rfl, F, N⟩; exact rest _ _ _ F N) (fun _ _ x => x)
theorem kw_12 : True := by
  k_with_none
  k_with "execs cons" => (focus (dsimp only at *))
  k_with "exec While" => (focus (refine whl_start 100 ?_))
  k_with "WhlRest" => (focus (refine whl_turn (by passes_own) ?_))
  k_with "WhlIf" => (focus (unfold WhlIf))
  k_with "WhlPost" => (focus (unfold WhlPost; dsimp only))
  k_with "subscriptTail Name Constant ref int" => (focus (k_here; (with_reducible show wpAny _ _ (subscriptTail _ _ (Value.ref _) (Value.int _ _)) _ _ _); k_dflt (refine' item_lit ?_ ?_ ?_ ?_ ?_; walk_at "pp"; (· is_list); walk_at "pp"; (· first | decide | assumption); walk_at "pp"; (· first | decide | assumption); walk_at "pp"; (· first | rfl | assumption); walk_at "pp"; k_whole)))
  k_with "subscriptTail Name Name ref int" => (focus (k_here; (with_reducible show wpAny _ _ (subscriptTail _ _ (Value.ref _) (Value.int _ _)) _ _ _); k_dflt (refine' item_lit ?_ ?_ ?_ ?_ ?_; walk_at "pp"; (· is_list); walk_at "pp"; (· first | decide | assumption); walk_at "pp"; (· first | decide | assumption); walk_at "pp"; (· first | rfl | assumption); walk_at "pp"; k_whole)))
  k_with "subscriptTail Name BinOp ref int" => (focus (k_here; (with_reducible show wpAny _ _ (subscriptTail _ _ (Value.ref _) (Value.int _ _)) _ _ _); k_dflt (refine' item_lit ?_ ?_ ?_ ?_ ?_; walk_at "pp"; (· is_list); walk_at "pp"; (· first | decide | assumption); walk_at "pp"; (· first | decide | assumption); walk_at "pp"; (· first | rfl | assumption); walk_at "pp"; k_whole)))
  k_with "subscriptTail" => (focus (k_here; (with_reducible show wpAny _ _ (subscriptTail _ _ (Value.ref _) (Value.int _ _)) _ _ _); k_dflt (refine' item_lit ?_ ?_ ?_ ?_ ?_; walk_at "pp"; (· is_list); walk_at "pp"; (· first | decide | assumption); walk_at "pp"; (· first | decide | assumption); walk_at "pp"; (· first | rfl | assumption); walk_at "pp"; k_whole)))
  k_with "call ref" => (focus (k_here; (with_reducible show wpAny _ _ (call (Value.ref 58) _) _ _ _); k_dflt (first | (refine' normal0_spec ?_ ?_ ?_ ?_; walk_at "pp"; (· kat_tups); walk_at "pp"; rotate_left; walk_at "pp"; (· is_list); walk_at "pp"; rotate_left; walk_at "pp"; (· nest_cls); walk_at "pp") | (refine' normal1_spec ?_ ?_ ?_ ?_; walk_at "pp"; (· kat_tups); walk_at "pp"; rotate_left; walk_at "pp"; (· is_list); walk_at "pp"; rotate_left; walk_at "pp"; (· nest_cls); walk_at "pp") | (refine' normal2_spec ?_ ?_ ?_ ?_; walk_at "pp"; (· kat_tups); walk_at "pp"; rotate_left; walk_at "pp"; (· is_list); walk_at "pp"; rotate_left; walk_at "pp"; (· nest_cls); walk_at "pp")); intro _ _ _ _ _ _ _ _ _; (try dsimp only)))
  k_with "call ref" => (focus (k_here; (with_reducible show wpAny _ _ (call (Value.ref 72) _) _ _ _); k_dflt (first | (refine' compare01_spec ?_ ?_ ?_ ?_ ?_; walk_at "pp"; (· kat_tups); walk_at "pp"; rotate_left; walk_at "pp"; (· is_list); walk_at "pp"; (· is_list); walk_at "pp"; rotate_left; walk_at "pp"; (· nest_cls); walk_at "pp") | (refine' compare21_spec ?_ ?_ ?_ ?_ ?_; walk_at "pp"; (· kat_tups); walk_at "pp"; rotate_left; walk_at "pp"; (· is_list); walk_at "pp"; (· is_list); walk_at "pp"; rotate_left; walk_at "pp"; (· nest_cls); walk_at "pp") | (refine' compare11_spec ?_ ?_ ?_ ?_ ?_; walk_at "pp"; (· kat_tups); walk_at "pp"; rotate_left; walk_at "pp"; (· is_list); walk_at "pp"; (· is_list); walk_at "pp"; rotate_left; walk_at "pp"; (· nest_cls); walk_at "pp")); intro _ _ _ _ _ _ _; (try dsimp only)))
  k_with "call ref" => (focus (k_here; (with_reducible show wpAny _ _ (call (Value.ref 119) _) _ _ _); k_dflt (first | (refine' last_bits2_spec ?_ ?_ ?_ ?_ ?_ ?_ ?_ ?_; walk_at "pp"; (· kat_tups); walk_at "pp"; rotate_left; walk_at "pp"; (· is_list); walk_at "pp"; rotate_left; walk_at "pp"; rotate_left; walk_at "pp"; rotate_left; walk_at "pp"; rotate_left; walk_at "pp"; rotate_left; walk_at "pp"; (· nest_cls); walk_at "pp"; (· kaf_pre); walk_at "pp"; (· kaf_pre); walk_at "pp"; (· kaf_pre); walk_at "pp"; (· kaf_pre); walk_at "pp") | (refine' last_bits3_spec ?_ ?_ ?_ ?_ ?_ ?_ ?_ ?_; walk_at "pp"; (· kat_tups); walk_at "pp"; rotate_left; walk_at "pp"; (· is_list); walk_at "pp"; rotate_left; walk_at "pp"; rotate_left; walk_at "pp"; rotate_left; walk_at "pp"; rotate_left; walk_at "pp"; rotate_left; walk_at "pp"; (· nest_cls); walk_at "pp"; (· kaf_pre); walk_at "pp"; (· kaf_pre); walk_at "pp"; (· kaf_pre); walk_at "pp"; (· kaf_pre); walk_at "pp")); intro _ _ _ _ hv' _ _; subst hv'; (try dsimp only)))
  k_with "LeaveK" => (focus (refine' leaveK_ ?_ ?_ ?_; walk_at "pp"; (· k_asm); walk_at "pp"; (· k_asm); walk_at "pp"; intro _ _; (try dsimp only)))
  k_with "call ref" => (focus (k_here; (with_reducible show wpAny _ _ (call (Value.ref 231) _) _ _ _); k_dflt ((refine' divrem_spec ?_ ?_ ?_ ?_ ?_ ?_ ?_ ?_ ?_ ?_ ?_ ?_; walk_at "pp"; (· kat_tups); walk_at "pp"; rotate_left; walk_at "pp"; (· is_list); walk_at "pp"; (· first | assumption | exact .nil | exact .cons _ _ .nil); walk_at "pp"; (· is_list); walk_at "pp"; rotate_left; walk_at "pp"; rotate_left; walk_at "pp"; rotate_left; walk_at "pp"; rotate_left; walk_at "pp"; rotate_left; walk_at "pp"; rotate_left; walk_at "pp"; rotate_left; walk_at "pp"; (· nest_cls); walk_at "pp"; (· kaf_pre); walk_at "pp"; (· kaf_pre); walk_at "pp"; (· kaf_pre); walk_at "pp"; (· kaf_pre); walk_at "pp"; (· kaf_pre); walk_at "pp"; (· kaf_pre); walk_at "pp")); intro _ _ _ _ _ _ _ _ _ _ _ o1' o2'; clear o1'; clear o2'; (try dsimp only)))
  k_with "call ref" => (focus (k_here; (with_reducible show wpAny _ _ (call (Value.ref 114) _) _ _ _); k_dflt ((refine' trailing_spec ?_ ?_ ?_ ?_ ?_ ?_ ?_ ?_ ?_; walk_at "pp"; (· kat_tups); walk_at "pp"; rotate_left; walk_at "pp"; (· is_list); walk_at "pp"; (· kaf_pre); walk_at "pp"; (· kaf_pre); walk_at "pp"; (· kaf_pre); walk_at "pp"; (· kaf_pre); walk_at "pp"; (· kaf_pre); walk_at "pp"; rotate_left; walk_at "pp"; (· nest_cls); walk_at "pp")); intro _ _ _ _ hv' _ _; subst hv'; (try dsimp only)))
  k_with "call ref" => (focus (k_here; (with_reducible show wpAny _ _ (call (Value.ref 93) _) _ _ _); k_dflt ((refine' shift_odd_spec ?_ ?_ ?_ ?_ ?_ ?_ ?_ ?_ ?_; walk_at "pp"; (· kat_tups); walk_at "pp"; rotate_left; walk_at "pp"; (· is_list); walk_at "pp"; (· kaf_pre); walk_at "pp"; (· kaf_pre); walk_at "pp"; (· kaf_pre); walk_at "pp"; (· kaf_pre); walk_at "pp"; (· kaf_pre); walk_at "pp"; rotate_left; walk_at "pp"; (· nest_cls); walk_at "pp")); intro _ _ _ _ _ _ _ _; (try dsimp only)))
  k_with "call ref" => (focus (k_here; (with_reducible show wpAny _ _ (call (Value.ref 126) _) _ _ _); k_dflt ((refine' two_sign_spec ?_ ?_ ?_ ?_ ?_ ?_ ?_ ?_; walk_at "pp"; (· kat_tups); walk_at "pp"; rotate_left; walk_at "pp"; (· is_list); walk_at "pp"; rotate_left; walk_at "pp"; rotate_left; walk_at "pp"; rotate_left; walk_at "pp"; rotate_left; walk_at "pp"; rotate_left; walk_at "pp"; (· nest_cls); walk_at "pp"; (· kaf_pre); walk_at "pp"; (· kaf_pre); walk_at "pp"; (· kaf_pre); walk_at "pp"; (· kaf_pre); walk_at "pp")); intro _ _ _ _ hv' _ _; subst hv'; (try dsimp only)))
  k_with "call ref" => (focus (k_here; (with_reducible show wpAny _ _ (call (Value.ref 65) _) _ _ _); k_dflt ((refine' is_even_spec ?_ ?_ ?_ ?_; walk_at "pp"; (· kat_tups); walk_at "pp"; rotate_left; walk_at "pp"; (· is_list); walk_at "pp"; rotate_left; walk_at "pp"; (· nest_cls); walk_at "pp")); intro _ _ _ hv' _ _; subst hv'; (try dsimp only)))
  k_with "exec While" => (focus (refine Hold.intro ?_))
  k_with "exec While Compare" => (focus (refine Hold.intro ?_))
  k_with "exec While Compare cons nil" => (focus (refine Hold.intro ?_))
  k_with "KswEnd" => (focus (refine Hold.intro ?_))
  k_with "InvEndN" => (focus (refine Hold.intro ?_))
  k_with "exec If" => (focus (k_here; (with_reducible show wpAny _ _ (exec (Stmt.If (Expr.BoolOp _ _ _) _ _ _) _) _ _ _); (rename JHold => hz'; clear hz'); refine Hold.intro ?_))
  trivial
set_option maxHeartbeats 4000000 in
theorem jacobi_spec {prog : Program} {w : World} {dp un : Nat} {gd : Option (List Code)} {env : Env} {outer : List Env} {h₀ : Heap} {L : Addr} {m : Str → Option Value} {news : List (Addr × Obj)} {s : Shared} {Q E : Value → Shared → Prop} {l l2 : Addr} {ws : List Value} {cn0 : Nat} {x n wd R : Int} {u v : Tok}
    (C : Cal w env outer h₀ L m news s.heap) (hd : dp + 9 < recursionLimit) (hl : s.heap.IsList l ws.toArray) (hI : IntsAre ws (row2 wd x)) (NO : News h₀ L s.heap [(l2, W.listOf #[.int n u] cn0)]) (hne : l ≠ l2) (hx0 : 0 ≤ x) (hx1 : x < 2 ^ 18) (hn0 : 0 < n) (hn1 : n < 512) (ho : n % 2 = 1) (hJ : Jac 1 (x % n) n R) (hw0 : 9 ≤ wd) (hw1 : wd < 12)
    (ret : ∀ v t h' tk', v = R → Fr h₀ L h' m → News h₀ L h' news → Q (.int v t) { s with heap := h', toks := tk' }) :
    wpAny (model prog w) (AR dp un gd env outer) (call (.ref 133) [.ref l, .ref l2, .int wd v, .ref 231]) Q E s := by
  refine wpAny_call ?_
  k_dflt (refine' enterO [(l2, W.listOf #[.int n u] cn0)] C NO ?k6 ?k7 ?k8 ?k9 ?kB ?_ ?c2 ?c3 ?c4 ?c5; (case k6 => k_is); (case k7 => k_is); (case k8 => nest_cls); (case k9 => exact BindsTo.of_eq rfl); (case c5 => decide); (case kB => exact locs rfl); (case c2 => exact rfl); (case c3 => exact rfl); (case c4 => exact rfl); k_whole)
  intro g0 L' h₁ base p loose mean mg mb F N B X T G
  have hle := GSub.list G hl (by simpa using hne)
  have hlb := (NO _ (.head _)).1
  (try dsimp only [List.map_cons, List.map_nil] at G)
  dsimp only
  (try k_unmd)
  k_fold
  k_steps
  · exfalso; simp at *; omega
  rename_i tkf hodd T1 q1 r1 w1 k1 c1 h4 tk1 hIa D1 h3 l1 h2 h1' h' F1 N1
  unfold Hold
  refine ksw_while (fun c : JS => [(c.ra, W.listOf c.wa.toArray c.ca), (c.rn, W.listOf #[.int c.n c.tn] c.cn), (l2, W.listOf #[.int n u] cn0)]) (fun c => [(Str.ofString "found", .int c.f c.tf), (Str.ofString "a", .ref c.ra), (Str.ofString "n", .ref c.rn)])
    (fun _ => True) [Str.ofString "twos"]
    (fun c => IntsAre c.wa (rowI c.a) ∧ 0 ≤ c.a ∧ c.a < 512 ∧ 0 < c.n ∧ c.n < 512 ∧ c.n % 2 = 1 ∧ -1 ≤ c.f ∧ c.f ≤ 1 ∧ Jac c.f c.a c.n R) (fun c => c.a.toNat)
    ⟨1, tkf, x % n, r1, w1, c1, n, u, l2, cn0⟩ F1 (News.perm N1 (by intro p hp; simp only [List.mem_cons, List.not_mem_nil, or_false] at hp; rcases hp with rfl | rfl | rfl <;> k_mem)) trivial ?hk ?hP ?turn
  case hk =>
    intro p hp
    simp only [List.mem_cons, List.not_mem_nil, or_false] at hp
    rcases hp with rfl | rfl | rfl <;> rfl
  case hP =>
    have e1 := Int.emod_nonneg x (show n ≠ 0 by omega)
    have e2 := Int.emod_lt_of_pos x hn0
    refine ⟨hIa, e1, ?_, hn0, hn1, ho, ?_, ?_, hJ⟩ <;> dsimp only <;> omega
  case turn =>
    rintro ⟨f, tf, a, ra, wa, ca, n', tn, rn, cn⟩ u' h tk _ hP F2 N2
    obtain ⟨hIa', ha0, ha1, hn0', hn1', ho', hf0, hf1, hJ'⟩ := hP
    dsimp only at hIa' ha0 ha1 hn0' hn1' ho' hf0 hf1 hJ' F2 N2
    by_cases hz : a = 0
    · have hR := hJ'.inv0 hz
      rw [rowI, if_pos hz] at hIa'
      have e := ints_nil hIa'
      subst e
      all_goals (
        (try k_unmd)
        (try k_fold)
        k_steps
        all_goals (first | (rename_i kF kN; refine ret _ _ _ _ ?_ kF (News.grown C.led (stays_of (fun _ _ e => e) G hlb (by assumption) (by assumption) (by k_mem))); simp only [hR]; (repeat' split at *) <;> omega)))
    · obtain ⟨k, b, g, hh, hk, hg, hh', hJ2⟩ := hJ'.inv1 (by omega)
      rw [rowI, if_neg hz] at hIa'
      obtain ⟨ta, rfl⟩ := ints_one hIa'
      have hk9 := odd_lt hk ha1
      have hIn : IntsAre [Value.int n' tn] (row2 wd n') := by
        rw [row2_small (by omega) hn1' hw0, rowI, if_neg (by omega)]
        exact .cons _ _ .nil
      have hb : 2 * (b : Int) + 1 ≤ a := by
        have h1 := kbt_pos k
        have h2 : (1 : Int) * (2 * b + 1) ≤ 2 ^ k * (2 * b + 1) := Int.mul_le_mul_of_nonneg_right (by omega) (by omega)
        omega
      have hg1 : -1 ≤ g ∧ g ≤ 1 := by rw [hg]; split <;> omega
      have he0 := Int.emod_nonneg n' (show (2 * (b : Int) + 1) ≠ 0 by omega)
      have he1 := Int.emod_lt_of_pos n' (show 0 < 2 * (b : Int) + 1 by omega)
      have hJH : JHold := trivial
      (try k_unmd)
      (try k_fold)
      k_steps
      rename_i h9 F9 N9
      rw [← hg] at F9
      unfold Hold
      refine if_join (x := Str.ofString "found") hh F9 N9 ?step ?rest
      case step =>
        (try k_unmd)
        (try k_fold)
        k_steps
        all_goals (first
          | (rw [show hh = g from by rw [hh', if_neg (by omega)]]; exact jend_same (by assumption) (by assumption) rfl)
          | (rw [show hh = -g from by rw [hh', if_pos ⟨by omega, by omega⟩]]; exact jend_new (by assumption) (by assumption)))
      clear F9 N9
      intro h9 tk9 t9 F9 N9
      dsimp only
      have hhb : -1 ≤ hh ∧ hh ≤ 1 := by rw [hh']; split <;> omega
      clear hh' hg
      (try k_unmd)
      (try k_fold)
      k_steps
      all_goals (
          unfold Hold
          refine' ksw_end ⟨_, _, n' % (2 * (b : Int) + 1), _, _, _, 2 * (b : Int) + 1, _, _, _⟩ (by assumption) (by assumption) ?hn trivial ?hk ?hr ?hp ?hm
          case hk =>
            intro p hp
            simp only [List.mem_cons, List.not_mem_nil, or_false] at hp
            rcases hp with rfl | rfl | rfl <;> rfl
          case hn =>
            intro p hp
            simp only [cond_false, List.mem_cons, List.not_mem_nil, or_false] at hp
            rcases hp with rfl | rfl | rfl <;> k_mem
          case hr =>
            intro z hz hs
            have z1 : z ≠ Str.ofString "found" := hz _ (.head _)
            have z2 : z ≠ Str.ofString "a" := hz _ (.tail _ (.head _))
            have z3 : z ≠ Str.ofString "n" := hz _ (.tail _ (.tail _ (.head _)))
            have z4 : z ≠ Str.ofString "twos" := by simpa using hs
            simp only [kstB, if_neg z1, if_neg z2, if_neg z3, if_neg z4, hs]
            try rfl
          case hp =>
            refine ⟨by assumption, he0, by dsimp only; omega, by dsimp only; omega, by dsimp only; omega, by dsimp only; omega, hhb.1, hhb.2, hJ2⟩
          case hm => dsimp only; omega)

end
section
open PySem PySem.W PyProof.Rows PySem.Calls
set_option maxRecDepth 100000
theorem top_C11 : True := by
  w_top off
  trivial
local macro_rules | `(tactic| walk_at "zz pad") => `(tactic| skip)



local macro_rules | `(tactic| walk_at "pyIter ref") => `(tactic| ((with_reducible show wpAny _ _ (pyIter (Value.ref _)) (fun it s₂ => LoopAtV _ _ _ _ _ _ _ _ _ it s₂) _ _); k_here; refine Hold.intro ?_))
structure LS where
  v : Int
  t : Tok

theorem kw_13 : True := by
  k_with_none
  k_with "execs cons" => (focus (dsimp only at *))
  k_with "exec While" => (focus (refine whl_start 100 ?_))
  k_with "WhlRest" => (focus (refine whl_turn (by passes_own) ?_))
  k_with "WhlIf" => (focus (unfold WhlIf))
  k_with "WhlPost" => (focus (unfold WhlPost; dsimp only))
  k_with "subscriptTail Name Constant ref int" => (focus (k_here; (with_reducible show wpAny _ _ (subscriptTail _ _ (Value.ref _) (Value.int _ _)) _ _ _); k_dflt (refine' item_lit ?_ ?_ ?_ ?_ ?_; walk_at "pp"; (· is_list); walk_at "pp"; (· first | decide | assumption); walk_at "pp"; (· first | decide | assumption); walk_at "pp"; (· first | rfl | assumption); walk_at "pp"; k_whole)))
  k_with "subscriptTail Name Name ref int" => (focus (k_here; (with_reducible show wpAny _ _ (subscriptTail _ _ (Value.ref _) (Value.int _ _)) _ _ _); k_dflt (refine' item_lit ?_ ?_ ?_ ?_ ?_; walk_at "pp"; (· is_list); walk_at "pp"; (· first | decide | assumption); walk_at "pp"; (· first | decide | assumption); walk_at "pp"; (· first | rfl | assumption); walk_at "pp"; k_whole)))
  k_with "subscriptTail Name BinOp ref int" => (focus (k_here; (with_reducible show wpAny _ _ (subscriptTail _ _ (Value.ref _) (Value.int _ _)) _ _ _); k_dflt (refine' item_lit ?_ ?_ ?_ ?_ ?_; walk_at "pp"; (· is_list); walk_at "pp"; (· first | decide | assumption); walk_at "pp"; (· first | decide | assumption); walk_at "pp"; (· first | rfl | assumption); walk_at "pp"; k_whole)))
  k_with "subscriptTail" => (focus (k_here; (with_reducible show wpAny _ _ (subscriptTail _ _ (Value.ref _) (Value.int _ _)) _ _ _); k_dflt (refine' item_lit ?_ ?_ ?_ ?_ ?_; walk_at "pp"; (· is_list); walk_at "pp"; (· first | decide | assumption); walk_at "pp"; (· first | decide | assumption); walk_at "pp"; (· first | rfl | assumption); walk_at "pp"; k_whole)))
  k_with "call ref" => (focus (k_here; (with_reducible show wpAny _ _ (call (Value.ref 58) _) _ _ _); k_dflt (first | (refine' normal0_spec ?_ ?_ ?_ ?_; walk_at "pp"; (· kat_tups); walk_at "pp"; rotate_left; walk_at "pp"; (· is_list); walk_at "pp"; rotate_left; walk_at "pp"; (· nest_cls); walk_at "pp") | (refine' normal1_spec ?_ ?_ ?_ ?_; walk_at "pp"; (· kat_tups); walk_at "pp"; rotate_left; walk_at "pp"; (· is_list); walk_at "pp"; rotate_left; walk_at "pp"; (· nest_cls); walk_at "pp") | (refine' normal2_spec ?_ ?_ ?_ ?_; walk_at "pp"; (· kat_tups); walk_at "pp"; rotate_left; walk_at "pp"; (· is_list); walk_at "pp"; rotate_left; walk_at "pp"; (· nest_cls); walk_at "pp")); intro _ _ _ _ _ _ _ _ _; (try dsimp only)))
  k_with "call ref" => (focus (k_here; (with_reducible show wpAny _ _ (call (Value.ref 72) _) _ _ _); k_dflt (first | (refine' compare01_spec ?_ ?_ ?_ ?_ ?_; walk_at "pp"; (· kat_tups); walk_at "pp"; rotate_left; walk_at "pp"; (· is_list); walk_at "pp"; (· is_list); walk_at "pp"; rotate_left; walk_at "pp"; (· nest_cls); walk_at "pp") | (refine' compare21_spec ?_ ?_ ?_ ?_ ?_; walk_at "pp"; (· kat_tups); walk_at "pp"; rotate_left; walk_at "pp"; (· is_list); walk_at "pp"; (· is_list); walk_at "pp"; rotate_left; walk_at "pp"; (· nest_cls); walk_at "pp") | (refine' compare11_spec ?_ ?_ ?_ ?_ ?_; walk_at "pp"; (· kat_tups); walk_at "pp"; rotate_left; walk_at "pp"; (· is_list); walk_at "pp"; (· is_list); walk_at "pp"; rotate_left; walk_at "pp"; (· nest_cls); walk_at "pp")); intro _ _ _ _ _ _ _; (try dsimp only)))
  k_with "call ref" => (focus (k_here; (with_reducible show wpAny _ _ (call (Value.ref 119) _) _ _ _); k_dflt (first | (refine' last_bits2_spec ?_ ?_ ?_ ?_ ?_ ?_ ?_ ?_; walk_at "pp"; (· kat_tups); walk_at "pp"; rotate_left; walk_at "pp"; (· is_list); walk_at "pp"; rotate_left; walk_at "pp"; rotate_left; walk_at "pp"; rotate_left; walk_at "pp"; rotate_left; walk_at "pp"; rotate_left; walk_at "pp"; (· nest_cls); walk_at "pp"; (· kaf_pre); walk_at "pp"; (· kaf_pre); walk_at "pp"; (· kaf_pre); walk_at "pp"; (· kaf_pre); walk_at "pp") | (refine' last_bits3_spec ?_ ?_ ?_ ?_ ?_ ?_ ?_ ?_; walk_at "pp"; (· kat_tups); walk_at "pp"; rotate_left; walk_at "pp"; (· is_list); walk_at "pp"; rotate_left; walk_at "pp"; rotate_left; walk_at "pp"; rotate_left; walk_at "pp"; rotate_left; walk_at "pp"; rotate_left; walk_at "pp"; (· nest_cls); walk_at "pp"; (· kaf_pre); walk_at "pp"; (· kaf_pre); walk_at "pp"; (· kaf_pre); walk_at "pp"; (· kaf_pre); walk_at "pp")); intro _ _ _ _ hv' _ _; subst hv'; (try dsimp only)))
  k_with "call ref" => (focus (k_here; (with_reducible show wpAny _ _ (call (Value.ref 107) _) _ _ _); k_dflt ((refine' bit1_spec ?_ ?_ ?_ ?_ ?_ ?_ ?_ ?_; walk_at "pp"; (· kat_tups); walk_at "pp"; rotate_left; walk_at "pp"; (· is_list); walk_at "pp"; rotate_left; walk_at "pp"; rotate_left; walk_at "pp"; rotate_left; walk_at "pp"; rotate_left; walk_at "pp"; rotate_left; walk_at "pp"; (· nest_cls); walk_at "pp"; (· kaf_pre); walk_at "pp"; (· kaf_pre); walk_at "pp"; (· kaf_pre); walk_at "pp"; (· kaf_pre); walk_at "pp")); intro _ _ _ _ _ _ _; (try dsimp only)))
  k_with "LeaveK" => (focus (refine' Cal.leave ?_ ?_ ?_ ?_; walk_at "pp"; (· k_asm); walk_at "pp"; (· k_asm); walk_at "pp"; (· first | k_asm | exact News.nil); walk_at "pp"; intro _ _ _; (try dsimp only)))
  k_with "exec While" => (focus (refine Hold.intro ?_))
  k_with "exec While Compare" => (focus (refine Hold.intro ?_))
  k_with "exec While Compare cons nil" => (focus (refine Hold.intro ?_))
  k_with "KswEnd" => (focus (refine Hold.intro ?_))
  k_with "InvEndN" => (focus (refine Hold.intro ?_))
  trivial
set_option maxHeartbeats 4000000 in
theorem window_at_spec {prog : Program} {w : World} {dp un : Nat} {gd : Option (List Code)} {env : Env} {outer : List Env} {h₀ : Heap} {L : Addr} {m : Str → Option Value} {news : List (Addr × Obj)} {s : Shared} {Q E : Value → Shared → Prop} {l : Addr} {x top size wd : Int} {t u v y : Tok}
    (C : Cal w env outer h₀ L m news s.heap) (hd : dp + 4 < recursionLimit) (hl : s.heap.IsList l #[.int x t]) (hx0 : 0 ≤ x) (hx1 : x < 512) (ht0 : 0 ≤ top) (ht1 : top < 9) (hs0 : 1 ≤ size) (hs1 : size ≤ 3) (hb : x / 2 ^ top.toNat % 2 = 1) (hw0 : 9 ≤ wd) (hw1 : wd < 12)
    (ret : ∀ T q v t u k h' tk', 1 ≤ q → q ≤ size → q ≤ top + 1 → v = x / 2 ^ (top + 1 - q).toNat % 2 ^ q.toNat → v % 2 = 1 → 0 ≤ v → v < 8 → Fr h₀ L h' m → News h₀ L h' ((T, ({ cls := .type "tuple", data := .seq #[.int v t, .int q u] k } : Obj)) :: news) → (∀ p ∈ news, p.1 ≠ T) → Q (.ref T) { s with heap := h', toks := tk' }) :
    wpAny (model prog w) (AR dp un gd env outer) (call (.ref 147) [.ref l, .int top u, .int size y, .int wd v]) Q E s := by
  refine wpAny_call ?_
  k_dflt (refine' enter C ?k6 ?k7 ?k8 ?k9 ?kB ?_ ?c2 ?c3 ?c4 ?c5; (case k6 => k_is); (case k7 => k_is); (case k8 => nest_cls); (case k9 => exact BindsTo.of_eq rfl); (case c5 => decide); (case kB => exact locs rfl); (case c2 => exact rfl); (case c3 => exact rfl); (case c4 => exact rfl); k_whole)
  intro L' h₁ base p loose mean mg mb F N B X T
  dsimp only
  k_fold
  k_steps
  unfold Hold
  rename_i Fa Na
  refine' ksw_while (fun _ : LS => []) (fun c => [(Str.ofString "last", .int c.v c.t)]) (fun _ => True) [] (fun c => 0 ≤ c.v ∧ top - size + 1 ≤ c.v ∧ c.v ≤ top) (fun c => (top - c.v).toNat) ⟨if 0 > top - size + 1 then 0 else top - size + 1, _⟩ Fa Na trivial ?hk ?hP ?turn
  case hk =>
    intro p hp
    rcases List.mem_singleton.mp hp with rfl
    rfl
  case hP => refine ⟨?_, ?_, ?_⟩ <;> dsimp only <;> split <;> omega
  case turn =>
    rintro ⟨la, tl⟩ u' h tk _ ⟨hl0, hl1, hl2⟩ F2 N2
    dsimp only at hl0 hl1 hl2 F2 N2
    (try k_unmd)
    (try k_fold)
    k_steps
    · rename_i v1 t1 h1 tk1 hv1 hz h2 F3 N3
      have hne : la ≠ top := fun e => by rw [e] at hv1; omega
      unfold Hold
      refine' ksw_end ⟨la + 1, _⟩ (by assumption) (by assumption) (fun _ hp => nomatch hp) trivial ?hk ?hr ?hp ?hm
      case hk =>
        intro p hp
        rcases List.mem_singleton.mp hp with rfl
        rfl
      case hr =>
        intro z hz hs
        have z1 : z ≠ Str.ofString "last" := hz _ (.head _)
        simp only [kstB, if_neg z1, hs]
        try rfl
      case hp => refine ⟨?_, ?_, ?_⟩ <;> dsimp only <;> omega
      case hm => dsimp only; omega
    · rename_i v1 t1 h1 tk1 hv1 hz h2 F3 N3 h4 tk4 t2 u2 v2 hR F5 N5 K5
      unfold Hold
      have hbl : x / 2 ^ la.toNat % 2 = 1 := by omega
      refine' kst_rangeD (fun _ : LS => []) (fun c => [(Str.ofString "value", .int c.v c.t)]) (fun _ => True) [] (fun pre c => c.v = x / 2 ^ (top + 1 - (pre.length : Int)).toNat % 2 ^ pre.length) ⟨0, _⟩ rfl hR
        (small_down (by omega) (by omega) (by omega) (by omega)) (rangeSize_downNat _ _) F5 N5 trivial ?hk ?hp ?turn ?done
      case hk =>
        intro p hp
        rcases List.mem_singleton.mp hp with rfl
        rfl
      case hp => simp [Int.emod_one]
      case turn =>
        rintro ⟨va, tv⟩ pre k tk u9 h tk9 own hk hlen hoff _ hP F6 N6
        dsimp only at hP F6 N6
        have hs0' : 0 ≤ k := by clear hP hbl hv1; omega
        have hs9' : k < 9 := by clear hP hbl hv1; omega
        (try k_unmd)
        (try k_fold)
        k_steps
        rename_i v7 t7 h7 tk7 hv7 h8 F8 N8
        unfold Hold
        refine' kst_end ⟨2 * va + v7, _⟩ (by assumption) (by assumption) (fun _ hp => nomatch hp) (fun p hp => by simpa using hp) rfl trivial ?hk ?hr ?hp
        case hk =>
          intro p hp
          rcases List.mem_singleton.mp hp with rfl
          rfl
        case hr =>
          intro z hz0 hz hs
          have z1 : z ≠ Str.ofString "value" := hz _ (.head _)
          simp only [kstB, if_neg z1, if_neg hz0, hs]
          try rfl
        case hp =>
          dsimp only
          have e1 : (top + 1 - (pre.length : Int)).toNat = k.toNat + 1 := by clear hP hbl hv1 hv7; omega
          have e2 : (top + 1 - ((pre ++ [k]).length : Int)).toNat = k.toNat := by clear hP hbl hv1 hv7 e1; rw [List.length_append]; simp; omega
          rw [e1] at hP
          rw [e2, List.length_append]
          exact win_step (by clear hP hbl hv1 hv7 e1 e2; omega) hP hv7
      case done =>
        rintro ⟨va, tv⟩ u9 h tk9 _ hP F6 N6
        dsimp only at hP F6 N6
        rw [downKs_length] at hP
        (try k_unmd)
        (try k_fold)
        k_steps
        rename_i kF kN kO
        clear hv1
        have e1 : top - (la - 1) = top - la + 1 := by clear hP hbl; omega
        rw [e1] at hP
        have e2 : (top + 1 - ((top - la + 1).toNat : Int)).toNat = (top + 1 - (top - la + 1)).toNat := by clear hP hbl; omega
        have e3 : (top + 1 - (top - la + 1)).toNat = la.toNat := by clear hP hbl; omega
        rw [e2] at hP
        have hw := win_odd (q := (top - la + 1).toNat) (by clear hP hbl e2 e3; omega) (by clear hP hbl e2 e3; omega) (by rw [e3]; exact hbl) hP
        exact ret _ _ _ _ _ _ _ _ (by clear hP hbl e2 e3 hw; omega) (by clear hP hbl e2 e3 hw; omega) (by clear hP hbl e2 e3 hw; omega) hP hw.1 hw.2.1 hw.2.2 kF (News.pick (by k_mem) kN) (kO _ _ (by k_mem))

end
section
open PySem PySem.W PyProof.Rows PySem.Calls
set_option maxRecDepth 100000
theorem top_C12 : True := by
  w_top off
  trivial
local macro_rules | `(tactic| walk_at "zz pad") => `(tactic| skip)


local macro_rules | `(tactic| walk_at "callWith ref") => `(tactic| (k_here; (with_reducible show wpAny _ _ (callWith _ (Value.ref _) _ _ _) _ _ _); (rename FunAt _ _ => hFu); k_dflt (first | (refine' callWith_K ?k1 ?k2 ?_; (case k1 => k_asm); (case k2 => k_is); k_whole) | (refine' callWith_F ?_; k_whole))))
local macro_rules | `(tactic| walk_at "And") => `(tactic| ((with_reducible show FunAt _ _ ∧ _); refine ⟨?fu, ?_⟩; (case fu => refine' FunAt.stays ?f1 ?f2; (case f1 => assumption); (case f2 => (refine' stays_fr ?s1 ?s2; (case s1 => assumption); (case s2 => k_asm)))); (try dsimp only [List.nil_append, List.cons_append])))

theorem kw_14 : True := by
  k_with_none
  k_with "execs cons" => (focus (dsimp only at *))
  k_with "exec While" => (focus (refine whl_start 100 ?_))
  k_with "WhlRest" => (focus (refine whl_turn (by passes_own) ?_))
  k_with "WhlIf" => (focus (unfold WhlIf))
  k_with "WhlPost" => (focus (unfold WhlPost; dsimp only))
  k_with "subscriptTail Name Constant ref int" => (focus (k_here; (with_reducible show wpAny _ _ (subscriptTail _ _ (Value.ref _) (Value.int _ _)) _ _ _); k_dflt (refine' item_lit ?_ ?_ ?_ ?_ ?_; walk_at "pp"; (· is_list); walk_at "pp"; (· first | decide | assumption); walk_at "pp"; (· first | decide | assumption); walk_at "pp"; (· first | rfl | assumption); walk_at "pp"; k_whole)))
  k_with "subscriptTail Name Name ref int" => (focus (k_here; (with_reducible show wpAny _ _ (subscriptTail _ _ (Value.ref _) (Value.int _ _)) _ _ _); k_dflt (refine' item_lit ?_ ?_ ?_ ?_ ?_; walk_at "pp"; (· is_list); walk_at "pp"; (· first | decide | assumption); walk_at "pp"; (· first | decide | assumption); walk_at "pp"; (· first | rfl | assumption); walk_at "pp"; k_whole)))
  k_with "subscriptTail Name BinOp ref int" => (focus (k_here; (with_reducible show wpAny _ _ (subscriptTail _ _ (Value.ref _) (Value.int _ _)) _ _ _); k_dflt (refine' item_lit ?_ ?_ ?_ ?_ ?_; walk_at "pp"; (· is_list); walk_at "pp"; (· first | decide | assumption); walk_at "pp"; (· first | decide | assumption); walk_at "pp"; (· first | rfl | assumption); walk_at "pp"; k_whole)))
  k_with "subscriptTail" => (focus (k_here; (with_reducible show wpAny _ _ (subscriptTail _ _ (Value.ref _) (Value.int _ _)) _ _ _); k_dflt (refine' item_lit ?_ ?_ ?_ ?_ ?_; walk_at "pp"; (· is_list); walk_at "pp"; (· first | decide | assumption); walk_at "pp"; (· first | decide | assumption); walk_at "pp"; (· first | rfl | assumption); walk_at "pp"; k_whole)))
  k_with "call ref" => (focus (k_here; (with_reducible show wpAny _ _ (call (Value.ref 58) _) _ _ _); k_dflt (first | (refine' normal0_spec ?_ ?_ ?_ ?_; walk_at "pp"; (· kat_tups); walk_at "pp"; rotate_left; walk_at "pp"; (· is_list); walk_at "pp"; rotate_left; walk_at "pp"; (· nest_cls); walk_at "pp") | (refine' normal1_spec ?_ ?_ ?_ ?_; walk_at "pp"; (· kat_tups); walk_at "pp"; rotate_left; walk_at "pp"; (· is_list); walk_at "pp"; rotate_left; walk_at "pp"; (· nest_cls); walk_at "pp") | (refine' normal2_spec ?_ ?_ ?_ ?_; walk_at "pp"; (· kat_tups); walk_at "pp"; rotate_left; walk_at "pp"; (· is_list); walk_at "pp"; rotate_left; walk_at "pp"; (· nest_cls); walk_at "pp")); intro _ _ _ _ _ _ _ _ _; (try dsimp only)))
  k_with "call ref" => (focus (k_here; (with_reducible show wpAny _ _ (call (Value.ref 72) _) _ _ _); k_dflt (first | (refine' compare01_spec ?_ ?_ ?_ ?_ ?_; walk_at "pp"; (· kat_tups); walk_at "pp"; rotate_left; walk_at "pp"; (· is_list); walk_at "pp"; (· is_list); walk_at "pp"; rotate_left; walk_at "pp"; (· nest_cls); walk_at "pp") | (refine' compare21_spec ?_ ?_ ?_ ?_ ?_; walk_at "pp"; (· kat_tups); walk_at "pp"; rotate_left; walk_at "pp"; (· is_list); walk_at "pp"; (· is_list); walk_at "pp"; rotate_left; walk_at "pp"; (· nest_cls); walk_at "pp") | (refine' compare11_spec ?_ ?_ ?_ ?_ ?_; walk_at "pp"; (· kat_tups); walk_at "pp"; rotate_left; walk_at "pp"; (· is_list); walk_at "pp"; (· is_list); walk_at "pp"; rotate_left; walk_at "pp"; (· nest_cls); walk_at "pp")); intro _ _ _ _ _ _ _; (try dsimp only)))
  k_with "call ref" => (focus (k_here; (with_reducible show wpAny _ _ (call (Value.ref 119) _) _ _ _); k_dflt (first | (refine' last_bits2_spec ?_ ?_ ?_ ?_ ?_ ?_ ?_ ?_; walk_at "pp"; (· kat_tups); walk_at "pp"; rotate_left; walk_at "pp"; (· is_list); walk_at "pp"; rotate_left; walk_at "pp"; rotate_left; walk_at "pp"; rotate_left; walk_at "pp"; rotate_left; walk_at "pp"; rotate_left; walk_at "pp"; (· nest_cls); walk_at "pp"; (· kaf_pre); walk_at "pp"; (· kaf_pre); walk_at "pp"; (· kaf_pre); walk_at "pp"; (· kaf_pre); walk_at "pp") | (refine' last_bits3_spec ?_ ?_ ?_ ?_ ?_ ?_ ?_ ?_; walk_at "pp"; (· kat_tups); walk_at "pp"; rotate_left; walk_at "pp"; (· is_list); walk_at "pp"; rotate_left; walk_at "pp"; rotate_left; walk_at "pp"; rotate_left; walk_at "pp"; rotate_left; walk_at "pp"; rotate_left; walk_at "pp"; (· nest_cls); walk_at "pp"; (· kaf_pre); walk_at "pp"; (· kaf_pre); walk_at "pp"; (· kaf_pre); walk_at "pp"; (· kaf_pre); walk_at "pp")); intro _ _ _ _ hv' _ _; subst hv'; (try dsimp only)))
  k_with "call ref" => (focus (k_here; (with_reducible show wpAny _ _ (call (Value.ref 107) _) _ _ _); k_dflt ((refine' bit1_spec ?_ ?_ ?_ ?_ ?_ ?_ ?_ ?_; walk_at "pp"; (· kat_tups); walk_at "pp"; rotate_left; walk_at "pp"; (· is_list); walk_at "pp"; rotate_left; walk_at "pp"; rotate_left; walk_at "pp"; rotate_left; walk_at "pp"; rotate_left; walk_at "pp"; rotate_left; walk_at "pp"; (· nest_cls); walk_at "pp"; (· kaf_pre); walk_at "pp"; (· kaf_pre); walk_at "pp"; (· kaf_pre); walk_at "pp"; (· kaf_pre); walk_at "pp")); intro _ _ _ _ _ _ _; (try dsimp only)))
  k_with "LeaveK" => (focus (refine' Cal.leave ?_ ?_ ?_ ?_; walk_at "pp"; (· k_asm); walk_at "pp"; (· k_asm); walk_at "pp"; (· first | k_asm | exact News.nil); walk_at "pp"; intro _ _ _; (try dsimp only)))
  k_with "call ref" => (focus (k_here; (with_reducible show wpAny _ _ (call (Value.ref _) [Value.ref _, Value.ref _]) _ _ _); (rename TimesOk _ _ _ _ => hTi); k_dflt (refine' hTi.2 ?_ ?_ ?_ ?_ ?_ ?_ ?_ ?_ ?_ ?_ ?_ ?_; walk_at "pp"; (· kat_tups); walk_at "pp"; (· (refine' stays_fr ?_ ?_; walk_at "pp"; (· assumption); walk_at "pp"; (· k_asm))); walk_at "pp"; rotate_left; walk_at "pp"; (· is_list); walk_at "pp"; (· assumption); walk_at "pp"; (· is_list); walk_at "pp"; (· assumption); walk_at "pp"; rotate_left; walk_at "pp"; rotate_left; walk_at "pp"; rotate_left; walk_at "pp"; rotate_left; walk_at "pp"; rotate_left; walk_at "pp"; (· nest_cls); walk_at "pp"; (· kaf_suf); walk_at "pp"; (· kaf_suf); walk_at "pp"; (· kaf_suf); walk_at "pp"; (· kaf_suf); walk_at "pp"); intro _ _ _ _ _ hI' z0' z1' F' N' o'; simp only [pw_mul, Nat.reduceAdd] at hI' z0' z1'; replace o' := allNe_of o'; (try simp only [AllNe, and_true] at o'); revert hI' z0' z1' F' N' o'; intro _ _ _ _ _ _; (try dsimp only); walk_at "hd1"))
  trivial
set_option maxHeartbeats 4000000 in
theorem odd_powers1_spec {prog : Program} {w : World} {dp un : Nat} {gd : Option (List Code)} {env : Env} {outer : List Env} {h₀ : Heap} {L : Addr} {m : Str → Option Value} {news : List (Addr × Obj)} {s : Shared} {Q E : Value → Shared → Prop} {lb f : Addr} {wb : List Value} {b n : Int} {u : Tok} {g₀ : Heap}
    (C : Cal w env outer h₀ L m news s.heap) (hd : dp + 12 < recursionLimit) (hl : s.heap.IsList lb wb.toArray) (hI : IntsAre wb (rowI (b ^ 1 % n))) (hn0 : 0 < n) (hT : TimesOk w g₀ f n) (hg : g₀.StaysIn s.heap)
    (ret : ∀ T k h' tk', Fr h₀ L h' m → News h₀ L h' ((T, W.listOf #[.ref lb] k) :: news) → (∀ p ∈ news, p.1 ≠ T) → Q (.ref T) { s with heap := h', toks := tk' }) :
    wpAny (model prog w) (AR dp un gd env outer) (call (.ref 140) [.ref lb, .int 1 u, .ref f]) Q E s := by
  have hFu := hT.1
  refine wpAny_call ?_
  k_dflt (refine' enter C ?k6 ?k7 ?k8 ?k9 ?kB ?_ ?c2 ?c3 ?c4 ?c5; (case k6 => k_is); (case k7 => k_is); (case k8 => nest_cls); (case k9 => exact BindsTo.of_eq rfl); (case c5 => decide); (case kB => exact locs rfl); (case c2 => exact rfl); (case c3 => exact rfl); (case c4 => exact rfl); k_whole)
  intro L' h₁ base p loose mean mg mb F N B X T
  dsimp only
  k_fold
  k_steps
  all_goals (first | (exfalso; omega) | (rename_i kF kN kO; refine ret _ _ _ _ kF (News.pickC (by k_mem) kN (News.right kN)) (kO _ _ (by k_mem))))

set_option maxHeartbeats 4000000 in
theorem odd_powers2_spec {prog : Program} {w : World} {dp un : Nat} {gd : Option (List Code)} {env : Env} {outer : List Env} {h₀ : Heap} {L : Addr} {m : Str → Option Value} {news : List (Addr × Obj)} {s : Shared} {Q E : Value → Shared → Prop} {lb f : Addr} {wb : List Value} {b n : Int} {u : Tok} {g₀ : Heap}
    (C : Cal w env outer h₀ L m news s.heap) (hd : dp + 12 < recursionLimit) (hl : s.heap.IsList lb wb.toArray) (hI : IntsAre wb (rowI (b ^ 1 % n))) (hn0 : 0 < n) (hT : TimesOk w g₀ f n) (hg : g₀.StaysIn s.heap)
    (ret : ∀ T r1 w1 c1 k h' tk', IntsAre w1 (rowI (b ^ 3 % n)) → Fr h₀ L h' m → News h₀ L h' ((T, W.listOf #[.ref lb, .ref r1] k) :: (r1, W.listOf w1.toArray c1) :: news) → (∀ p ∈ news, p.1 ≠ T) → (∀ p ∈ news, p.1 ≠ r1) → Q (.ref T) { s with heap := h', toks := tk' }) :
    wpAny (model prog w) (AR dp un gd env outer) (call (.ref 140) [.ref lb, .int 2 u, .ref f]) Q E s := by
  have hFu := hT.1
  refine wpAny_call ?_
  k_dflt (refine' enter C ?k6 ?k7 ?k8 ?k9 ?kB ?_ ?c2 ?c3 ?c4 ?c5; (case k6 => k_is); (case k7 => k_is); (case k8 => nest_cls); (case k9 => exact BindsTo.of_eq rfl); (case c5 => decide); (case kB => exact locs rfl); (case c2 => exact rfl); (case c3 => exact rfl); (case c4 => exact rfl); k_whole)
  intro L' h₁ base p loose mean mg mb F N B X T
  dsimp only
  k_fold
  k_steps
  all_goals (first | (exfalso; omega) | (rename_i kF kN kO; refine ret _ _ _ _ _ _ _ ?_ kF (News.pickC (by k_mem) kN (News.pickC (by k_mem) kN (News.right kN))) (kO _ _ (by k_mem)) (kO _ _ (by k_mem)); all_goals assumption))

set_option maxHeartbeats 4000000 in
theorem odd_powers3_spec {prog : Program} {w : World} {dp un : Nat} {gd : Option (List Code)} {env : Env} {outer : List Env} {h₀ : Heap} {L : Addr} {m : Str → Option Value} {news : List (Addr × Obj)} {s : Shared} {Q E : Value → Shared → Prop} {lb f : Addr} {wb : List Value} {b n : Int} {u : Tok} {g₀ : Heap}
    (C : Cal w env outer h₀ L m news s.heap) (hd : dp + 12 < recursionLimit) (hl : s.heap.IsList lb wb.toArray) (hI : IntsAre wb (rowI (b ^ 1 % n))) (hn0 : 0 < n) (hT : TimesOk w g₀ f n) (hg : g₀.StaysIn s.heap)
    (ret : ∀ T r1 w1 c1 r2 w2 c2 r3 w3 c3 k h' tk', IntsAre w1 (rowI (b ^ 3 % n)) → IntsAre w2 (rowI (b ^ 5 % n)) → IntsAre w3 (rowI (b ^ 7 % n)) → Fr h₀ L h' m → News h₀ L h' ((T, W.listOf #[.ref lb, .ref r1, .ref r2, .ref r3] k) :: (r1, W.listOf w1.toArray c1) :: (r2, W.listOf w2.toArray c2) :: (r3, W.listOf w3.toArray c3) :: news) → (∀ p ∈ news, p.1 ≠ T) → (∀ p ∈ news, p.1 ≠ r1) → (∀ p ∈ news, p.1 ≠ r2) → (∀ p ∈ news, p.1 ≠ r3) → Q (.ref T) { s with heap := h', toks := tk' }) :
    wpAny (model prog w) (AR dp un gd env outer) (call (.ref 140) [.ref lb, .int 3 u, .ref f]) Q E s := by
  have hFu := hT.1
  refine wpAny_call ?_
  k_dflt (refine' enter C ?k6 ?k7 ?k8 ?k9 ?kB ?_ ?c2 ?c3 ?c4 ?c5; (case k6 => k_is); (case k7 => k_is); (case k8 => nest_cls); (case k9 => exact BindsTo.of_eq rfl); (case c5 => decide); (case kB => exact locs rfl); (case c2 => exact rfl); (case c3 => exact rfl); (case c4 => exact rfl); k_whole)
  intro L' h₁ base p loose mean mg mb F N B X T
  dsimp only
  k_fold
  k_steps
  all_goals (first | (exfalso; omega) | (rename_i kF kN kO; refine ret _ _ _ _ _ _ _ _ _ _ _ _ _ ?_ ?_ ?_ kF (News.pickC (by k_mem) kN (News.pickC (by k_mem) kN (News.pickC (by k_mem) kN (News.pickC (by k_mem) kN (News.right kN))))) (kO _ _ (by k_mem)) (kO _ _ (by k_mem)) (kO _ _ (by k_mem)) (kO _ _ (by k_mem)); all_goals assumption))

end
section
open PySem PySem.W PyProof.Rows PySem.Calls
set_option maxRecDepth 100000
theorem top_C13 : True := by
  w_top off
  trivial



local macro_rules | `(tactic| walk_at "callWith ref") => `(tactic| (k_here; (with_reducible show wpAny _ _ (callWith _ (Value.ref _) _ _ _) _ _ _); (rename FunAt _ _ => hFu); k_dflt (first | (refine' callWith_K ?k1 ?k2 ?_; (case k1 => k_asm); (case k2 => k_is); k_whole) | (refine' callWith_F ?_; k_whole))))
local macro_rules | `(tactic| walk_at "And") => `(tactic| ((with_reducible show FunAt _ _ ∧ _); refine ⟨?fu, ?_⟩; (case fu => k_dflt (refine' FunAt.stays ?f1 ?f2; (case f1 => assumption); (case f2 => (refine' stays_of ?s1 ?s2 ?s3 ?s4 ?s5 ?s6; (case s1 | s2 | s3 => assumption); (case s4 | s5 => k_asm); (case s6 => k_mem))))); (try dsimp only [List.nil_append, List.cons_append])))



def Hold2 (P : Prop) : Prop := P
theorem Hold2.intro {P : Prop} (h : Hold2 P) : P := h
structure WS where
  spot : Int
  ts : Tok
  no : Bool
  rf : Addr
  wf : List Value
  cf : Nat
def TabOk (n b : Int) (lb : Addr) (size : Int) (tl : List Value) (r1 r2 r3 : Addr) (w1 w2 w3 : List Value) : Prop :=
  tl[0]? = some (.ref lb) ∧ (2 ≤ size → tl[1]? = some (.ref r1) ∧ IntsAre w1 (rowI (b ^ 3 % n))) ∧ (3 ≤ size → tl[2]? = some (.ref r2) ∧ tl[3]? = some (.ref r3) ∧ IntsAre w2 (rowI (b ^ 5 % n)) ∧ IntsAre w3 (rowI (b ^ 7 % n)))
theorem tab_get {n b size e spot q v : Int} {lb r1 r2 r3 : Addr} {tl wb w1 w2 w3 : List Value} {cb c1 c2 c3 : Nat} (hT : TabOk n b lb size tl r1 r2 r3 w1 w2 w3) (hI : IntsAre wb (rowI (b ^ 1 % n))) (hq1 : 1 ≤ q) (hq2 : q ≤ size) (hs : size ≤ 3) (hq3 : q ≤ spot + 1) (hb : e / 2 ^ spot.toNat % 2 = 1) (hv : v = e / 2 ^ (spot + 1 - q).toNat % 2 ^ q.toNat) (ho : v % 2 = 1) :
    ∃ (rX : Addr) (wX : List Value) (cX : Nat), tl[(v.fdiv 2).toNat]? = some (.ref rX) ∧ IntsAre wX (rowI (b ^ v.toNat % n)) ∧ ∀ A : List (Addr × Obj), (lb, W.listOf wb.toArray cb) ∈ A → (r1, W.listOf w1.toArray c1) ∈ A → (r2, W.listOf w2.toArray c2) ∈ A → (r3, W.listOf w3.toArray c3) ∈ A → (rX, W.listOf wX.toArray cX) ∈ A := by
  rcases win_cases3 hq1 (by omega) hq3 hb hv ho with ⟨h, rfl⟩ | ⟨h, rfl⟩ | ⟨h, rfl⟩ | ⟨h, rfl⟩
  · exact ⟨lb, wb, cb, hT.1, hI, fun A a _ _ _ => a⟩
  · obtain ⟨x, y⟩ := hT.2.1 (by omega)
    exact ⟨r1, w1, c1, x, y, fun A _ a _ _ => a⟩
  · obtain ⟨x, _, y, _⟩ := hT.2.2 (by omega)
    exact ⟨r2, w2, c2, x, y, fun A _ _ a _ => a⟩
  · obtain ⟨_, x, _, y⟩ := hT.2.2 (by omega)
    exact ⟨r3, w3, c3, x, y, fun A _ _ _ a => a⟩
theorem exp_stepQ {e spot q v : Int} (he : 0 ≤ e) (h1 : 1 ≤ q) (h2 : q ≤ 3) (hs : q ≤ spot + 1) (hv : v = e / 2 ^ (spot + 1 - q).toNat % 2 ^ q.toNat) (hz : e / 2 ^ (spot + 1).toNat = 0) : (e / 2 ^ (spot - q + 1).toNat).toNat = v.toNat := by
  have : q = 1 ∨ q = 2 ∨ q = 3 := by omega
  rcases this with rfl | rfl | rfl
  · rw [exp_step1 he (by omega) hv, hz]; exact Nat.zero_add _
  · rw [exp_step2 he (by omega) hv, hz]; exact Nat.zero_add _
  · rw [exp_step3 he (by omega) hv, hz]; exact Nat.zero_add _
theorem odd_powers_spec {prog : Program} {w : World} {dp un : Nat} {gd : Option (List Code)} {env : Env} {outer : List Env} {h₀ : Heap} {L : Addr} {m : Str → Option Value} {news : List (Addr × Obj)} {s : Shared} {Q E : Value → Shared → Prop} {lb f : Addr} {wb : List Value} {cb : Nat} {b n size : Int} {u : Tok} {g₀ : Heap}
    (C : Cal w env outer h₀ L m news s.heap) (hd : dp + 12 < recursionLimit) (hsz : size = 1 ∨ size = 2 ∨ size = 3) (hb : (lb, W.listOf wb.toArray cb) ∈ news) (hl : s.heap.IsList lb wb.toArray) (hI : IntsAre wb (rowI (b ^ 1 % n))) (hn0 : 0 < n) (hT : TimesOk w g₀ f n) (hg : g₀.StaysIn s.heap)
    (ret : ∀ T tl r1 w1 c1 r2 w2 c2 r3 w3 c3 k h' tk', TabOk n b lb size tl r1 r2 r3 w1 w2 w3 → Fr h₀ L h' m → News h₀ L h' ((T, W.listOf tl.toArray k) :: (r1, W.listOf w1.toArray c1) :: (r2, W.listOf w2.toArray c2) :: (r3, W.listOf w3.toArray c3) :: news) → Q (.ref T) { s with heap := h', toks := tk' }) :
    wpAny (model prog w) (AR dp un gd env outer) (call (.ref 140) [.ref lb, .int size u, .ref f]) Q E s := by
  rcases hsz with rfl | rfl | rfl
  · exact odd_powers1_spec C hd hl hI hn0 hT hg fun T k h' tk' F N _ => ret T [.ref lb] lb wb cb lb wb cb lb wb cb k h' tk' ⟨rfl, fun h => absurd h (by decide), fun h => absurd h (by decide)⟩ F (News.pickD (.head _) N (News.pickD (.tail _ hb) N (News.pickD (.tail _ hb) N (News.pickD (.tail _ hb) N fun p hp => N p (.tail _ hp)))))
  · exact odd_powers2_spec C hd hl hI hn0 hT hg fun T r1 w1 c1 k h' tk' i1 F N _ _ => ret T [.ref lb, .ref r1] r1 w1 c1 lb wb cb lb wb cb k h' tk' ⟨rfl, fun _ => ⟨rfl, i1⟩, fun h => absurd h (by decide)⟩ F (News.pickD (.head _) N (News.pickD (.tail _ (.head _)) N (News.pickD (.tail _ (.tail _ hb)) N (News.pickD (.tail _ (.tail _ hb)) N fun p hp => N p (.tail _ (.tail _ hp))))))
  · exact odd_powers3_spec C hd hl hI hn0 hT hg fun T r1 w1 c1 r2 w2 c2 r3 w3 c3 k h' tk' i1 i2 i3 F N _ _ _ _ => ret T [.ref lb, .ref r1, .ref r2, .ref r3] r1 w1 c1 r2 w2 c2 r3 w3 c3 k h' tk' ⟨rfl, fun _ => ⟨rfl, i1⟩, fun _ => ⟨rfl, rfl, i2, i3⟩⟩ F N
theorem kw_15 : True := by
  k_with_none
  k_with "execs cons" => (focus (dsimp only at *))
  k_with "exec While" => (focus (refine whl_start 100 ?_))
  k_with "WhlRest" => (focus (refine whl_turn (by passes_own) ?_))
  k_with "WhlIf" => (focus (unfold WhlIf))
  k_with "WhlPost" => (focus (unfold WhlPost; dsimp only))
  k_with "subscriptTail Name Constant ref int" => (focus (k_here; (with_reducible show wpAny _ _ (subscriptTail _ _ (Value.ref _) (Value.int _ _)) _ _ _); k_dflt (refine' item_lit ?_ ?_ ?_ ?_ ?_; walk_at "pp"; (· is_list); walk_at "pp"; (· first | decide | assumption); walk_at "pp"; (· first | decide | assumption); walk_at "pp"; (· first | rfl | assumption); walk_at "pp"; k_whole)))
  k_with "subscriptTail Name Name ref int" => (focus (k_here; (with_reducible show wpAny _ _ (subscriptTail _ _ (Value.ref _) (Value.int _ _)) _ _ _); k_dflt (refine' item_lit ?_ ?_ ?_ ?_ ?_; walk_at "pp"; (· is_list); walk_at "pp"; (· first | decide | assumption); walk_at "pp"; (· first | decide | assumption); walk_at "pp"; (· first | rfl | assumption); walk_at "pp"; k_whole)))
  k_with "subscriptTail Name BinOp ref int" => (focus (k_here; (with_reducible show wpAny _ _ (subscriptTail _ _ (Value.ref _) (Value.int _ _)) _ _ _); k_dflt (refine' item_lit ?_ ?_ ?_ ?_ ?_; walk_at "pp"; (· is_list); walk_at "pp"; (· first | decide | assumption); walk_at "pp"; (· first | decide | assumption); walk_at "pp"; (· first | rfl | assumption); walk_at "pp"; k_whole)))
  k_with "subscriptTail" => (focus (k_here; (with_reducible show wpAny _ _ (subscriptTail _ _ (Value.ref _) (Value.int _ _)) _ _ _); k_dflt (refine' item_lit ?_ ?_ ?_ ?_ ?_; walk_at "pp"; (· is_list); walk_at "pp"; (· first | decide | assumption); walk_at "pp"; (· first | decide | assumption); walk_at "pp"; (· first | rfl | assumption); walk_at "pp"; k_whole)))
  k_with "call ref" => (focus (k_here; (with_reducible show wpAny _ _ (call (Value.ref 58) _) _ _ _); k_dflt (first | (refine' normal0_spec ?_ ?_ ?_ ?_; walk_at "pp"; (· kat_tups); walk_at "pp"; rotate_left; walk_at "pp"; (· is_list); walk_at "pp"; rotate_left; walk_at "pp"; (· nest_cls); walk_at "pp") | (refine' normal1_spec ?_ ?_ ?_ ?_; walk_at "pp"; (· kat_tups); walk_at "pp"; rotate_left; walk_at "pp"; (· is_list); walk_at "pp"; rotate_left; walk_at "pp"; (· nest_cls); walk_at "pp") | (refine' normal2_spec ?_ ?_ ?_ ?_; walk_at "pp"; (· kat_tups); walk_at "pp"; rotate_left; walk_at "pp"; (· is_list); walk_at "pp"; rotate_left; walk_at "pp"; (· nest_cls); walk_at "pp")); intro _ _ _ _ _ _ _ _ _; (try dsimp only)))
  k_with "call ref" => (focus (k_here; (with_reducible show wpAny _ _ (call (Value.ref 72) _) _ _ _); k_dflt (first | (refine' compare01_spec ?_ ?_ ?_ ?_ ?_; walk_at "pp"; (· kat_tups); walk_at "pp"; rotate_left; walk_at "pp"; (· is_list); walk_at "pp"; (· is_list); walk_at "pp"; rotate_left; walk_at "pp"; (· nest_cls); walk_at "pp") | (refine' compare21_spec ?_ ?_ ?_ ?_ ?_; walk_at "pp"; (· kat_tups); walk_at "pp"; rotate_left; walk_at "pp"; (· is_list); walk_at "pp"; (· is_list); walk_at "pp"; rotate_left; walk_at "pp"; (· nest_cls); walk_at "pp") | (refine' compare11_spec ?_ ?_ ?_ ?_ ?_; walk_at "pp"; (· kat_tups); walk_at "pp"; rotate_left; walk_at "pp"; (· is_list); walk_at "pp"; (· is_list); walk_at "pp"; rotate_left; walk_at "pp"; (· nest_cls); walk_at "pp")); intro _ _ _ _ _ _ _; (try dsimp only)))
  k_with "call ref" => (focus (k_here; (with_reducible show wpAny _ _ (call (Value.ref 119) _) _ _ _); k_dflt (first | (refine' last_bits2_spec ?_ ?_ ?_ ?_ ?_ ?_ ?_ ?_; walk_at "pp"; (· kat_tups); walk_at "pp"; rotate_left; walk_at "pp"; (· is_list); walk_at "pp"; rotate_left; walk_at "pp"; rotate_left; walk_at "pp"; rotate_left; walk_at "pp"; rotate_left; walk_at "pp"; rotate_left; walk_at "pp"; (· nest_cls); walk_at "pp"; (· kaf_pre); walk_at "pp"; (· kaf_pre); walk_at "pp"; (· kaf_pre); walk_at "pp"; (· kaf_pre); walk_at "pp") | (refine' last_bits3_spec ?_ ?_ ?_ ?_ ?_ ?_ ?_ ?_; walk_at "pp"; (· kat_tups); walk_at "pp"; rotate_left; walk_at "pp"; (· is_list); walk_at "pp"; rotate_left; walk_at "pp"; rotate_left; walk_at "pp"; rotate_left; walk_at "pp"; rotate_left; walk_at "pp"; rotate_left; walk_at "pp"; (· nest_cls); walk_at "pp"; (· kaf_pre); walk_at "pp"; (· kaf_pre); walk_at "pp"; (· kaf_pre); walk_at "pp"; (· kaf_pre); walk_at "pp")); intro _ _ _ _ hv' _ _; subst hv'; (try dsimp only)))
  k_with "call ref" => (focus (k_here; (with_reducible show wpAny _ _ (call (Value.ref 107) _) _ _ _); k_dflt ((refine' bit1_spec ?_ ?_ ?_ ?_ ?_ ?_ ?_ ?_; walk_at "pp"; (· kat_tups); walk_at "pp"; rotate_left; walk_at "pp"; (· is_list); walk_at "pp"; rotate_left; walk_at "pp"; rotate_left; walk_at "pp"; rotate_left; walk_at "pp"; rotate_left; walk_at "pp"; rotate_left; walk_at "pp"; (· nest_cls); walk_at "pp"; (· kaf_pre); walk_at "pp"; (· kaf_pre); walk_at "pp"; (· kaf_pre); walk_at "pp"; (· kaf_pre); walk_at "pp")); intro _ _ _ _ _ _ _; (try dsimp only)))
  k_with "compareOp Eq ref ref" => (focus (k_here; (with_reducible show wpAny _ _ (compareOp CmpOp.Eq (Value.ref _) (Value.ref _)) _ _ _); k_dflt (first | (refine' eq1_nil ?_ ?_ ?_ ?_; walk_at "pp"; (· is_list); walk_at "pp"; (· is_list); walk_at "pp"; (· (first | omega | (simp only [units_deeper, Around.deeper_units]; dsimp only; omega))); walk_at "pp") | (refine' eq1_one ?_ ?_ ?_ ?_; walk_at "pp"; (· is_list); walk_at "pp"; (· is_list); walk_at "pp"; (· (first | omega | (simp only [units_deeper, Around.deeper_units]; dsimp only; omega))); walk_at "pp"))))
  k_with "call ref" => (focus (k_here; (with_reducible show wpAny _ _ (call (Value.ref _) [Value.ref _, Value.ref _]) _ _ _); (rename TimesOk _ _ _ _ => hTi); k_dflt (refine' hTi.2 ?_ ?_ ?_ ?_ ?_ ?_ ?_ ?_ ?_ ?_ ?_ ?_; walk_at "pp"; (· kat_tups); walk_at "pp"; (· (refine' stays_of ?_ ?_ ?_ ?_ ?_ ?_; walk_at "pp"; (· assumption); walk_at "pp"; (· assumption); walk_at "pp"; (· assumption); walk_at "pp"; (· k_asm); walk_at "pp"; (· k_asm); walk_at "pp"; (· k_mem))); walk_at "pp"; rotate_left; walk_at "pp"; (· is_list); walk_at "pp"; (· assumption); walk_at "pp"; (· is_list); walk_at "pp"; (· assumption); walk_at "pp"; rotate_left; walk_at "pp"; rotate_left; walk_at "pp"; rotate_left; walk_at "pp"; rotate_left; walk_at "pp"; rotate_left; walk_at "pp"; (· nest_cls); walk_at "pp"; (· kaf_suf); walk_at "pp"; (· kaf_suf); walk_at "pp"; (· kaf_suf); walk_at "pp"; (· kaf_suf); walk_at "pp"); intro _ _ _ _ _ hI' z0' z1' F' N' o'; simp only [pw_mul, Nat.reduceAdd] at hI' z0' z1'; replace o' := allNe_of o'; (try simp only [AllNe, and_true] at o'); revert hI' z0' z1' F' N' o'; intro _ _ _ _ _ _; (try dsimp only); walk_at "hd1"))
  k_with "call ref" => (focus (k_here; (with_reducible show wpAny _ _ (call (Value.ref 100) _) _ _ _); k_dflt ((refine' bits1_spec ?_ ?_ ?_ ?_ ?_ ?_; walk_at "pp"; (· kat_tups); walk_at "pp"; rotate_left; walk_at "pp"; (· is_list); walk_at "pp"; rotate_left; walk_at "pp"; rotate_left; walk_at "pp"; rotate_left; walk_at "pp"; (· nest_cls); walk_at "pp"; (· kaf_pre); walk_at "pp"; (· kaf_pre); walk_at "pp")); intro _ _ _ _ _ _ _; (try dsimp only)))
  k_with "exec While" => (focus (refine Hold.intro ?_))
  k_with "exec While Compare" => (focus (refine Hold.intro ?_))
  k_with "exec While Compare cons nil" => (focus (refine Hold.intro ?_))
  k_with "KswEnd" => (focus (refine Hold.intro ?_))
  k_with "InvEndN" => (focus (refine Hold.intro ?_))
  k_with "LeaveK" => (focus (refine' leaveK_ ?_ ?_ ?_; walk_at "pp"; (· k_asm); walk_at "pp"; (· k_asm); walk_at "pp"; intro _ _; (try dsimp only)))
  k_with "call ref" => (focus (k_here; (with_reducible show wpAny _ _ (call (Value.ref 140) _) _ _ _); k_dflt ((refine' odd_powers_spec ?_ ?_ ?_ ?_ ?_ ?_ ?_ ?_ ?_ ?_; walk_at "pp"; (· kat_tups); walk_at "pp"; rotate_left; walk_at "pp"; rotate_left; walk_at "pp"; rotate_left; walk_at "pp"; (· is_list); walk_at "pp"; rotate_left; walk_at "pp"; rotate_left; walk_at "pp"; rotate_left; walk_at "pp"; rotate_left; walk_at "pp"; rotate_left; walk_at "pp"; rotate_left; walk_at "pp"; (· assumption); walk_at "pp"; (· k_mem); walk_at "pp"; (· assumption); walk_at "pp"; (· omega); walk_at "pp"; (· assumption); walk_at "pp"; (· (refine' stays_of ?_ ?_ ?_ ?_ ?_ ?_; walk_at "pp"; (· assumption); walk_at "pp"; (· assumption); walk_at "pp"; (· assumption); walk_at "pp"; (· k_asm); walk_at "pp"; (· k_asm); walk_at "pp"; (· k_mem))); walk_at "pp"; rotate_left; walk_at "pp"; (· nest_cls); walk_at "pp")); intro _ _ _ _ _ _ _ _ _ _ _ _ _ _ _ _ _; (try dsimp only)))
  k_with "call ref" => (focus (k_here; (with_reducible show wpAny _ _ (call (Value.ref 147) _) _ _ _); k_dflt ((refine' window_at_spec ?_ ?_ ?_ ?_ ?_ ?_ ?_ ?_ ?_ ?_ ?_ ?_ ?_; walk_at "pp"; (· kat_tups); walk_at "pp"; rotate_left; walk_at "pp"; (· is_list); walk_at "pp"; rotate_left; walk_at "pp"; rotate_left; walk_at "pp"; rotate_left; walk_at "pp"; rotate_left; walk_at "pp"; rotate_left; walk_at "pp"; rotate_left; walk_at "pp"; rotate_left; walk_at "pp"; rotate_left; walk_at "pp"; rotate_left; walk_at "pp"; rotate_left; walk_at "pp"; (· nest_cls); walk_at "pp"; (· kaf_pre); walk_at "pp"; (· kaf_pre); walk_at "pp"; (· kaf_pre); walk_at "pp"; (· kaf_pre); walk_at "pp"; (· kaf_pre); walk_at "pp"; (· kaf_pre); walk_at "pp"; (· kaf_pre); walk_at "pp"; (· kaf_pre); walk_at "pp"; (· kaf_pre); walk_at "pp")); intro _ _ _ _ _ _ _ _ _ _ _ _ _ _ _ _ _ _; refine Hold2.intro ?_))
  trivial
set_option maxHeartbeats 4000000 in
theorem by_windows_spec {prog : Program} {w : World} {dp un : Nat} {gd : Option (List Code)} {env : Env} {outer : List Env} {h₀ : Heap} {L : Addr} {m : Str → Option Value} {news : List (Addr × Obj)} {s : Shared} {Q E : Value → Shared → Prop} {lb le lo f : Addr} {wb : List Value} {cb : Nat} {b e n wd size : Int} {u te v : Tok} {g₀ : Heap}
    (C : Cal w env outer h₀ L m news s.heap) (hd : dp + 14 < recursionLimit) (hsz : size = 1 ∨ size = 2 ∨ size = 3) (NO : News h₀ L s.heap [(lb, W.listOf wb.toArray cb)]) (hI : IntsAre wb (rowI (b ^ 1 % n))) (hn0 : 0 < n) (hl2 : s.heap.IsList le #[.int e te]) (hne : le ≠ lb) (he0 : 0 < e) (he1 : e < 512) (hT : TimesOk w g₀ f n) (hg : g₀.StaysIn s.heap) (hw0 : 9 ≤ wd) (hw1 : wd < 12) (hu : un + 100 < cLine)
    (ret : ∀ r ws k h' tk', IntsAre ws (rowI (b ^ e.toNat % n)) → s.heap.StaysIn h' → Fr h₀ L h' m → News h₀ L h' ((r, W.listOf ws.toArray k) :: news) → Q (.ref r) { s with heap := h', toks := tk' }) :
    wpAny (model prog w) (AR dp un gd env outer) (call (.ref 154) [.ref lb, .ref le, .int size u, .int wd v, .ref lo, .ref f]) Q E s := by
  refine wpAny_call ?_
  k_dflt (refine' enterO [(lb, W.listOf wb.toArray cb)] C NO ?k6 ?k7 ?k8 ?k9 ?kB ?_ ?c2 ?c3 ?c4 ?c5; (case k6 => k_is); (case k7 => k_is); (case k8 => nest_cls); (case k9 => exact BindsTo.of_eq rfl); (case c5 => decide); (case kB => exact locs rfl); (case c2 => exact rfl); (case c3 => exact rfl); (case c4 => exact rfl); k_whole)
  intro g L' h₁ base p loose mean mg mb F N B X T G
  have hle := GSub.list G hl2 (by simpa using hne)
  have hlb := (NO _ (.head _)).1
  have hFu := hT.1
  (try dsimp only [List.map_cons, List.map_nil] at G)
  dsimp only
  (try k_unmd)
  k_fold
  k_steps
  · exfalso; simp_all
  rename_i T1 tl r1 w1 c1 r2 w2 c2 r3 w3 c3 k1 h6 tk6 hTab D1 h5 l1 h4 h3 h2 tk0 v1 t1 h1' tk1 hv1 h' F1 N1
  obtain ⟨tp, htp, htp9, hb1, hb0⟩ := top_bit he0 he1
  unfold Hold
  refine' ksw_while (fun c : WS => [(T1, W.listOf tl.toArray k1), (r1, W.listOf w1.toArray c1), (r2, W.listOf w2.toArray c2), (r3, W.listOf w3.toArray c3), (lb, W.listOf wb.toArray cb)] ++ (bif c.no then [] else [(c.rf, W.listOf c.wf.toArray c.cf)])) (fun c => [(Str.ofString "found", bif c.no then .none else .ref c.rf), (Str.ofString "spot", .int c.spot c.ts)]) (fun _ => True) [Str.ofString "value", Str.ofString "many", Str.ofString "turn"]
    (fun c => -1 ≤ c.spot ∧ c.spot < 9 ∧ (c.no = true → 0 ≤ c.spot ∧ e / 2 ^ c.spot.toNat % 2 = 1 ∧ e / 2 ^ (c.spot + 1).toNat = 0) ∧ (c.no = false → IntsAre c.wf (rowI (b ^ (e / 2 ^ (c.spot + 1).toNat).toNat % n)))) (fun c => (c.spot + 1).toNat)
    ⟨v1 - 1, _, true, 0, [], 0⟩ F1 (News.perm N1 (by intro p hp; simp only [cond_true, List.append_nil, List.mem_cons, List.not_mem_nil, or_false] at hp; rcases hp with rfl | rfl | rfl | rfl | rfl <;> k_mem)) trivial ?hk ?hP ?turn
  case hk =>
    intro p hp
    simp only [List.mem_cons, List.not_mem_nil, or_false] at hp
    rcases hp with rfl | rfl <;> rfl
  case hP =>
    have e1 : v1 - 1 = tp := by omega
    have e2 : (v1 - 1).toNat = tp := by omega
    have e3 : (v1 - 1 + 1).toNat = tp + 1 := by omega
    refine ⟨by dsimp only; omega, by dsimp only; omega, fun _ => ⟨by dsimp only; omega, ?_, ?_⟩, fun h => nomatch h⟩
    · dsimp only; rw [e2]; exact hb1
    · dsimp only; rw [e3]; exact hb0
  case turn =>
    have hz0 : 1 ≤ size := by omega
    have hz3 : size ≤ 3 := by omega
    rintro ⟨spot, ts, no, rf, wf, cf⟩ u' h tk _ ⟨hs0, hs1, hno, hye⟩ F2 N2
    dsimp only at hs0 hs1 hno hye F2 N2
    cases no
    case' false => have hIf := hye rfl
    case' true => obtain ⟨hsp, hbb, hbz⟩ := hno rfl
    all_goals (clear hno hye; simp only [cond_true, cond_false, List.append_nil, List.cons_append, List.nil_append] at N2 F2)
    all_goals (
      (try k_unmd)
      (try k_fold)
      k_steps)
    all_goals (try (
      show Hold2 _
      rename_i Tv q9 v9 t9 u9 k9 h9 tk9 hq1 hq2 hq3 hw9 ho9 hv0 hv9 F9 N9 o9
      unfold Hold2
      have hbt : e / 2 ^ spot.toNat % 2 = 1 := by omega
      obtain ⟨rX, wX, cX, hx, hy, hm⟩ := tab_get (cb := cb) (c1 := c1) (c2 := c2) (c3 := c3) hTab hI hq1 hq2 hz3 hq3 hbt hw9 ho9
      have N10 := News.pickD (hm _ (by k_mem) (by k_mem) (by k_mem) (by k_mem)) N9 N9
      have hf0 : 0 ≤ v9.fdiv 2 := by rw [Int.fdiv_eq_ediv_of_nonneg _ (by decide)]; omega
      have hf1 : v9.fdiv 2 < 2 ^ 63 := by rw [Int.fdiv_eq_ediv_of_nonneg _ (by decide)]; omega
      clear N9 hm hbt o9 ho9
      have hq9 : q9 ≤ 3 := by omega
      clear hq2
      first
        | (have hx9 := exp_stepQ (Int.le_of_lt he0) hq1 hq9 hq3 hw9 hbz
           clear hw9
           (try dsimp only)
           k_steps)
        | (rcases (show q9 = 1 ∨ q9 = 2 ∨ q9 = 3 by omega) with h9 | h9 | h9
           all_goals (subst h9)
           all_goals (
             (try dsimp only)
             k_steps))))
    all_goals (first
      | (exfalso; omega)
      | (unfold Hold; refine' ksw_end ⟨_, _, false, _, _, _⟩ (by assumption) (by assumption) ?hn trivial ?hk ?hr ?hp ?hm
         case hk =>
           intro p hp
           simp only [List.mem_cons, List.not_mem_nil, or_false] at hp
           rcases hp with rfl | rfl <;> rfl
         case hn =>
           intro p hp
           simp only [cond_false, List.cons_append, List.nil_append, List.mem_cons, List.not_mem_nil, or_false] at hp
           rcases hp with rfl | rfl | rfl | rfl | rfl | rfl <;> k_mem
         case hr =>
           intro z hz hs
           have z1 : z ≠ Str.ofString "found" := hz _ (.head _)
           have z2 : z ≠ Str.ofString "spot" := hz _ (.tail _ (.head _))
           simp only [List.contains_cons, List.contains_nil, Bool.or_false, Bool.or_eq_false_iff, beq_eq_false_iff_ne, ne_eq] at hs
           obtain ⟨z3, z4, z5⟩ := hs
           simp only [kstB, if_neg z1, if_neg z2, if_neg z3, if_neg z4, if_neg z5, List.contains_cons, List.contains_nil, beq_eq_false_iff_ne.mpr z3, beq_eq_false_iff_ne.mpr z4, beq_eq_false_iff_ne.mpr z5, Bool.or_false, Bool.false_eq_true, if_false]
           try rfl
         case hp =>
           refine ⟨by dsimp only; omega, by dsimp only; omega, (fun h => Bool.noConfusion (show false = true from h)), ?_⟩
           intro _
           dsimp only
           first
             | (refine cast_row (by assumption) ?_; exact (Eq.symm (by assumption)))
             | (have hx := exp_step0 (spot := spot) (by omega : (0 : Int) ≤ e) (by omega) (by omega); refine cast_row (by assumption) ?_; omega)
             | (have hx := exp_step1 (spot := spot) (by omega : (0 : Int) ≤ e) (by omega) (by assumption); refine cast_row (by assumption) ?_; omega)
             | (have hx := exp_step2 (spot := spot) (by omega : (0 : Int) ≤ e) (by omega) (by assumption); refine cast_row (by assumption) ?_; omega)
             | (have hx := exp_step3 (spot := spot) (by omega : (0 : Int) ≤ e) (by omega) (by assumption); refine cast_row (by assumption) ?_; omega)
         case hm => dsimp only; omega)
      | (rename_i kF kN
         have e0 : spot = -1 := by omega
         subst e0
         have st : s.heap.StaysIn _ := stays_of (fun _ _ e => e) G hlb (by assumption) (by assumption) (by k_mem)
         exact ret _ _ _ _ _ (cast_row hIf (by simp)) st kF (News.pickD (by k_mem) kN (News.grown C.led st))))

end
section
open PySem PySem.W PyProof.Rows PySem.Calls
set_option maxRecDepth 100000
theorem top_Base2 : True := by
  w_top off
  trivial

def tq : Str := Str.ofString "divided_times.<locals>.multiplied"
/-- the table of nested code: empty, or with the code of the product function -/
def tabOf : Option Addr → Array Value
  | none => #[]
  | some c' => #[rawInt 116, rawInt 4, .ref c']
def TabSt (S : Option Addr) (h : Heap) : Prop := match S with
  | none => True
  | some c' => h.CodeRec (.ref c') tq
def Keep170 (h h' : Heap) : Prop := ∀ b o, b ≠ 170 → h.get? b = some o → h'.get? b = some o
theorem Keep170.list {h h' : Heap} {l : Addr} {items : Array Value} (k : Keep170 h h') (x : h.IsList l items) (ne : l ≠ 170) : h'.IsList l items := let ⟨o, ho, r⟩ := x; ⟨o, k l o ne ho, r⟩
theorem Keep170.trans {h h' h'' : Heap} (k : Keep170 h h') (k' : Keep170 h' h'') : Keep170 h h'' := fun b o n e => k' b o n (k b o n e)
theorem keep170_of {h g h' : Heap} {L : Addr} {m : Str → Option Value} (G : GSub h g [170]) (F : Fr g L h' m) : Keep170 h h' := fun b o n e => F.keep _ _ (G b o e (by simpa using n))
theorem News.keep170 {h₀ h h' : Heap} {L : Addr} {news : List (Addr × Obj)} (N : News h₀ L h news) (k : Keep170 h h') (off : ∀ p ∈ news, p.1 ≠ 170) : News h₀ L h' news :=
  fun p hp => ⟨k _ _ (off p hp) (N p hp).1, (N p hp).2⟩
theorem coderec_170 {h h' : Heap} {c : Addr} {q : Str} {ps : Array Value} (x : h.CodeRec (.ref c) q) (hP : h.get? 170 = some (tabObj ps)) (k : Keep170 h h') (hs : ∀ t, ps[1]? ≠ some (.str q t)) : h'.CodeRec (.ref c) q := by
  obtain ⟨c₂, oc, vs, t, e, hoc, hd, hv⟩ := x
  cases e
  refine ⟨c, oc, vs, t, rfl, k _ _ (fun q => ?_) hoc, hd, hv⟩
  subst q
  rw [hP] at hoc
  cases hoc
  cases hd
  exact hs t hv
theorem TabSt.keep {S : Option Addr} {h h' : Heap} (x : TabSt S h) (hP : h.get? 170 = some (tabObj (tabOf S))) (k : Keep170 h h') : TabSt S h' := by
  cases S with
  | none => trivial
  | some c => exact coderec_170 (ps := tabOf (some c)) x hP k (fun t e => by simp [tabOf, rawInt] at e)
theorem TabSt.code {S : Option Addr} {h : Heap} (x : TabSt S h) (c : Addr) (e : S = some c) : h.CodeRec (.ref c) tq := by subst e; exact x

/-- the code of the product function: known before, or new in the caller's eyes -/
def CodeNew (S : Option Addr) (c' : Addr) (h₀ : Heap) (L : Addr) (h' : Heap) : Prop :=
  S = some c' ∨ (S = none ∧ ∃ oc vs t, oc.data = .fields vs ∧ vs[1]? = some (.str tq t) ∧ News h₀ L h' [(c', oc)])
theorem CodeNew.rec {S : Option Addr} {c' : Addr} {h₀ h : Heap} {L : Addr} (x : CodeNew S c' h₀ L h) (y : TabSt S h) : h.CodeRec (.ref c') tq := by
  rcases x with rfl | ⟨rfl, oc, vs, t, h1, h2, N⟩
  · exact y
  · exact ⟨c', oc, vs, t, rfl, (N _ (.head _)).1, h1, h2⟩

/-- a cell stands in a heap -/
def CellAt (g : Heap) (c : Addr) (v : Value) : Prop := ∃ o, g.get? c = some o ∧ o.data = .cell (some v)
theorem CellAt.keeps {g h : Heap} {c : Addr} {v : Value} (x : CellAt g c v) (k : g.StaysIn h) : CellAt h c v := let ⟨o, a, b⟩ := x; ⟨o, k _ _ a, b⟩
theorem nameF_B {M : Model} {A : Around} {E : Value → Shared → Prop} {s : Shared} {h₀ : Heap} {L a : Addr} {m : Str → Option Value} {cn : Str} {cs : Scope} {ccd : Value} {cl : List (Str × Addr)} {x : Str} {pos : Pos} {v : Value} {Q : Value → Shared → Prop} {c : Addr}
    (F : Fr h₀ L s.heap m) (hc : cl.lookup x = some c) (hm : CellAt h₀ c v) (h : Q v s)
    (hk : cs.kind = .function) (hx : (envX cn cs L a ccd cl).kindOf x = some .free) (hb : (x == ("__debug__" : Str)) = false := by decide) (hn : (x == ("__classdict__" : Str)) = false := by decide) :
    wpAny M A (eval (.Name x pos) (envX cn cs L a ccd cl)) Q E s := let ⟨o, ho, hd⟩ := hm.keeps F.keep; wpAny_Name (wpAny_loadName_free hk hx hc ⟨o, ho, hd⟩ h hn) hb

theorem leave_enter {h₀ h : Heap} {L : Addr} {m : Str → Option Value} {R : Result → Shared → Prop} {v : Value} {s' : Shared} (F : Fr h₀ L h m) (hl : LeaveK h₀ L m h R v s') : R (.ok (.ret v)) s' := by
  obtain ⟨L', m', news', F', N', k⟩ := hl
  refine k (Fr.grown F F'.keep) fun q hq => ⟨(N' q hq).1, fun e => ?_, ?_⟩
  · obtain ⟨oL, _, _, hL, _⟩ := F.ns
    have := (N' q hq).2.2
    rw [e, hL] at this; cases this
  · cases e : h₀.get? q.1 with
    | none => rfl
    | some o => have := (N' q hq).2.2; rw [F.keep _ _ e] at this; cases this

/-- a def that a def has made is entered; its base is the whole heap of the call -/
theorem enterF {prog : Program} {w : World} {dp un : Nat} {gd : Option (List Code)} {env : Env} {outer : List Env} {s : Shared} {h₀ : Heap} {L : Addr} {m : Str → Option Value} {news : List (Addr × Obj)} {R : Result → Shared → Prop}
    {name qual : Str} {params : Arguments} {body : List Stmt} {scope : Scope} {cl : List (Str × Addr)} {doc pm ctv : Value} {c' f : Addr} {args : Args} {binds : List (Str × Value)}
    (C : Cal w env outer h₀ L m news s.heap)
    (ho : s.heap.get? f = some (fnMade name qual params body scope cl doc pm c' ctv)) (hcd : s.heap.CodeRec (.ref c') qual) (hroom : dp < recursionLimit)
    (hbind : BindsTo s (fnX name qual params body scope cl .none .none doc pm none (.ref c') ctv) args binds) (hloc : ∀ y ∈ binds, scope.names.lookup y.1 = some .local)
    (h : ∀ (L' : Addr) (h₁ : Heap) (base : Heap) (p : Program) (loose : List Str) (mean : ExcName → Option Value) (mg mb : Str → Option Value),
      Fr s.heap L' h₁ (fun y => binds.reverse.lookup y) → News s.heap L' h₁ [] → Below (AR dp un gd env outer) base (env :: outer) s.heap → (hd.heap_39 w.params).In s.heap → Top p loose mean mg mb s.heap →
      wpAny (model prog w) ((AR dp un gd env outer).deeper (envX qual scope L' f (.ref c') cl)) (execs body (envX qual scope L' f (.ref c') cl))
        (fun fl s' => LeaveK h₀ L m s.heap R (match fl with | .ret v => v | _ => .none) s')
        (fun e s' => wpAny (model prog w) ((AR dp un gd env outer).deeper (envX qual scope L' f (.ref c') cl)) (leaving (envX qual scope L' f (.ref c') cl) e) (fun _ s'' => R (.error e) s'') (fun e' s'' => R (.error e') s'') s')
        { s with heap := h₁, toks := s.toks + binds.length })
    (hco : scope.isCoroutine = false) (hgen : scope.isGenerator = false) (hk : scope.kind = .function)
    (hcell : ∀ x ∈ scope.names, x.2 ≠ .cell) : codeAny (model prog w) (AR dp un gd env outer) (.call (.ref f) args) R s := by
  obtain ⟨⟨A₀, base, p, loose, mean, mg, mb, B, F, X, T, hf, hke⟩, _⟩ := C
  have st : h₀.StaysIn s.heap := F.keep
  refine codeAny_call_def (fd := fnX name qual params body scope cl .none .none doc pm none (.ref c') ctv) (body := body) (binds := binds) hroom ho rfl (T.nolimit.keeps st) hcd rfl hbind hcell hloc (fun h₁ hns hk₁ => ?_) hco hgen hk
  have B₁ := pushX B F hf hke
  have B₂ : Below (AR dp un gd env outer) base (env :: outer) s.heap := ⟨rfl, B₁.stays, B₁.frames⟩
  exact wpAny_mono (h _ h₁ base p loose mean mg mb ⟨hns, hk₁, Nat.le_refl _⟩ News.nil B₂ (X.keeps st) (T.keeps st)) (fun fl s' hl => leave_enter F hl) (fun _ _ y => y)

/-- a def whose names are captured is entered; some of the caller's objects come along in the ledger -/
theorem enterOC {prog : Program} {w : World} {dp un : Nat} {gd : Option (List Code)} {env : Env} {outer : List Env} {s : Shared} {h₀ : Heap} {L : Addr} {m : Str → Option Value} {news : List (Addr × Obj)} {R : Result → Shared → Prop}
    {name qual : Str} {params : Arguments} {body : List Stmt} {scope : Scope} {dV kV doc pm cdv ct oc : Value} {an od : Option Addr} {osl : Array (Option Value)} {f : Addr} {args : Args} {binds : List (Str × Value)} (own : List (Addr × Obj))
    (C : Cal w env outer h₀ L m news s.heap) (NO : News h₀ L s.heap own)
    (ho : (hd.heap_39 w.params).lookup f = some ⟨oc, od, .func (fnOf name qual params body scope dV kV doc pm an cdv ct), osl⟩) (hcd : codeIn (hd.heap_39 w.params) cdv qual = true) (hroom : dp < recursionLimit)
    (hbind : BindsTo s (fnOf name qual params body scope dV kV doc pm an cdv ct) args binds)
    (hkind : (binds.all fun y => scope.names.lookup y.1 == some .local || scope.names.lookup y.1 == some .cell) = true) (hnd : ((cellsFrom 0 scope.names []).map (·.1)).Nodup)
    (h : ∀ (g : Heap) (L' : Addr) (h₁ : Heap) (tk : Nat) (cells : List (Addr × Obj)) (base : Heap) (p : Program) (loose : List Str) (mean : ExcName → Option Value) (mg mb : Str → Option Value),
      Fr g L' h₁ (bindL (envOfC qual scope L' f cdv).kindOf binds fun _ => none) → News g L' h₁ (cells ++ own) → CellsAre (bindC (envOfC qual scope L' f cdv).kindOf binds fun _ => none) (cellsFrom (L' + 1) scope.names []) cells →
      Below (AR dp un gd env outer) base (env :: outer) g → (hd.heap_39 w.params).In g → Top p loose mean mg mb g → GSub s.heap g (own.map (·.1)) → (∀ p ∈ own, p.1 < L') →
      wpAny (model prog w) ((AR dp un gd env outer).deeper (envOfC qual scope L' f cdv)) (execs body (envOfC qual scope L' f cdv))
        (fun fl s' => LeaveK h₀ L m g R (match fl with | .ret v => v | _ => .none) s')
        (fun e s' => wpAny (model prog w) ((AR dp un gd env outer).deeper (envOfC qual scope L' f cdv)) (leaving (envOfC qual scope L' f cdv) e) (fun _ s'' => R (.error e) s'') (fun e' s'' => R (.error e') s'') s')
        { s with heap := h₁, toks := tk })
    (hco : scope.isCoroutine = false) (hgen : scope.isGenerator = false) (hk : scope.kind = .function) : codeAny (model prog w) (AR dp un gd env outer) (.call (.ref f) args) R s := by
  obtain ⟨⟨A₀, base, p, loose, mean, mg, mb, B, F, X, T, hf, hke⟩, _⟩ := C
  obtain ⟨FG, BG, st, lv⟩ := groundX (A := AR dp un gd env outer) (R := R) B F NO rfl hf hke
  refine codeAny_call_function hroom ((X.keeps F.keep) _ _ ho) rfl hco hgen rfl (codeRec_of (X.keeps F.keep) hcd) (hbind _ _ _ _ ?_)
  refine wpAny_newFunctionEnv_cells hk (kindsX hkind _) fun env' he s' x => ?_
  subst he
  refine ⟨(T.nolimit.keeps F.keep).keeps x.toInCall.keep, codeAny_func ?_⟩
  obtain ⟨h₁, tk, rfl, _⟩ := x.done
  have hk₁ := x.toInCall.keep
  obtain ⟨cells, NC, Y⟩ := Cl.news (h₀ := s.heap) (Nat.le_refl _) fun n c hm => ⟨x.cell n c (lookup_of_mem_nodup (cellsFrom_names scope.names 0 (s.heap.objs.size + 1) [] [] rfl ▸ hnd) hm), x.above n c hm⟩
  refine wpAny_mono (h _ s.heap.objs.size h₁ tk cells base p loose mean mg mb ⟨x.toInCall.ns, fun b o e => hk₁ b o (of_hideAll _ e), Nat.le_of_eq (hideAll_size _ _)⟩ (fun p hp => ?_) Y BG (X.keeps st) (T.keeps st) (fun b o e n => hideAll_get _ e n) (fun p hp => Heap.lt_size (NO p hp).1)) (fun fl s' hl => lv _ _ hl) fun _ _ y => y
  rcases List.mem_append.mp hp with hp | hp
  · refine ⟨(NC p hp).1, (NC p hp).2.1, ?_⟩
    cases q : (hideAll s.heap (own.map (·.1))).get? p.1 with
    | none => rfl
    | some o => have := of_hideAll _ q; rw [(NC p hp).2.2] at this; cases this
  · exact ⟨hk₁ _ _ (NO p hp).1, Nat.ne_of_lt (Heap.lt_size (NO p hp).1), hideAll_none _ (List.mem_map_of_mem hp)⟩

theorem hcode_of {w : World} {h : Heap} (X : (hd.heap_39 w.params).In h) : CodeHd h 174 170 :=
  ⟨_, _, _, _, _, _, _, _, _, X 174 _ rfl, rfl, rfl, rfl, rfl, rfl, rfl, rfl, rfl, by decide⟩
end
section
open PySem PySem.W PyProof.Rows PySem.Calls
set_option maxRecDepth 100000
theorem top_C14 : True := by
  w_top off
  trivial



theorem kw_16 : True := by
  k_with_none
  k_with "execs cons" => (focus (dsimp only at *))
  k_with "exec While" => (focus (refine whl_start 100 ?_))
  k_with "WhlRest" => (focus (refine whl_turn (by passes_own) ?_))
  k_with "WhlIf" => (focus (unfold WhlIf))
  k_with "WhlPost" => (focus (unfold WhlPost; dsimp only))
  k_with "subscriptTail Name Constant ref int" => (focus (k_here; (with_reducible show wpAny _ _ (subscriptTail _ _ (Value.ref _) (Value.int _ _)) _ _ _); k_dflt (refine' item_lit ?_ ?_ ?_ ?_ ?_; walk_at "pp"; (· is_list); walk_at "pp"; (· first | decide | assumption); walk_at "pp"; (· first | decide | assumption); walk_at "pp"; (· first | rfl | assumption); walk_at "pp"; k_whole)))
  k_with "subscriptTail Name Name ref int" => (focus (k_here; (with_reducible show wpAny _ _ (subscriptTail _ _ (Value.ref _) (Value.int _ _)) _ _ _); k_dflt (refine' item_lit ?_ ?_ ?_ ?_ ?_; walk_at "pp"; (· is_list); walk_at "pp"; (· first | decide | assumption); walk_at "pp"; (· first | decide | assumption); walk_at "pp"; (· first | rfl | assumption); walk_at "pp"; k_whole)))
  k_with "subscriptTail Name BinOp ref int" => (focus (k_here; (with_reducible show wpAny _ _ (subscriptTail _ _ (Value.ref _) (Value.int _ _)) _ _ _); k_dflt (refine' item_lit ?_ ?_ ?_ ?_ ?_; walk_at "pp"; (· is_list); walk_at "pp"; (· first | decide | assumption); walk_at "pp"; (· first | decide | assumption); walk_at "pp"; (· first | rfl | assumption); walk_at "pp"; k_whole)))
  k_with "subscriptTail" => (focus (k_here; (with_reducible show wpAny _ _ (subscriptTail _ _ (Value.ref _) (Value.int _ _)) _ _ _); k_dflt (refine' item_lit ?_ ?_ ?_ ?_ ?_; walk_at "pp"; (· is_list); walk_at "pp"; (· first | decide | assumption); walk_at "pp"; (· first | decide | assumption); walk_at "pp"; (· first | rfl | assumption); walk_at "pp"; k_whole)))
  k_with "call ref" => (focus (k_here; (with_reducible show wpAny _ _ (call (Value.ref 58) _) _ _ _); k_dflt (first | (refine' normal0_spec ?_ ?_ ?_ ?_; walk_at "pp"; (· kat_tups); walk_at "pp"; rotate_left; walk_at "pp"; (· is_list); walk_at "pp"; rotate_left; walk_at "pp"; (· nest_cls); walk_at "pp") | (refine' normal1_spec ?_ ?_ ?_ ?_; walk_at "pp"; (· kat_tups); walk_at "pp"; rotate_left; walk_at "pp"; (· is_list); walk_at "pp"; rotate_left; walk_at "pp"; (· nest_cls); walk_at "pp") | (refine' normal2_spec ?_ ?_ ?_ ?_; walk_at "pp"; (· kat_tups); walk_at "pp"; rotate_left; walk_at "pp"; (· is_list); walk_at "pp"; rotate_left; walk_at "pp"; (· nest_cls); walk_at "pp")); intro _ _ _ _ _ _ _ _ _; (try dsimp only)))
  k_with "call ref" => (focus (k_here; (with_reducible show wpAny _ _ (call (Value.ref 72) _) _ _ _); k_dflt (first | (refine' compare01_spec ?_ ?_ ?_ ?_ ?_; walk_at "pp"; (· kat_tups); walk_at "pp"; rotate_left; walk_at "pp"; (· is_list); walk_at "pp"; (· is_list); walk_at "pp"; rotate_left; walk_at "pp"; (· nest_cls); walk_at "pp") | (refine' compare21_spec ?_ ?_ ?_ ?_ ?_; walk_at "pp"; (· kat_tups); walk_at "pp"; rotate_left; walk_at "pp"; (· is_list); walk_at "pp"; (· is_list); walk_at "pp"; rotate_left; walk_at "pp"; (· nest_cls); walk_at "pp") | (refine' compare11_spec ?_ ?_ ?_ ?_ ?_; walk_at "pp"; (· kat_tups); walk_at "pp"; rotate_left; walk_at "pp"; (· is_list); walk_at "pp"; (· is_list); walk_at "pp"; rotate_left; walk_at "pp"; (· nest_cls); walk_at "pp")); intro _ _ _ _ _ _ _; (try dsimp only)))
  k_with "call ref" => (focus (k_here; (with_reducible show wpAny _ _ (call (Value.ref 119) _) _ _ _); k_dflt (first | (refine' last_bits2_spec ?_ ?_ ?_ ?_ ?_ ?_ ?_ ?_; walk_at "pp"; (· kat_tups); walk_at "pp"; rotate_left; walk_at "pp"; (· is_list); walk_at "pp"; rotate_left; walk_at "pp"; rotate_left; walk_at "pp"; rotate_left; walk_at "pp"; rotate_left; walk_at "pp"; rotate_left; walk_at "pp"; (· nest_cls); walk_at "pp"; (· kaf_pre); walk_at "pp"; (· kaf_pre); walk_at "pp"; (· kaf_pre); walk_at "pp"; (· kaf_pre); walk_at "pp") | (refine' last_bits3_spec ?_ ?_ ?_ ?_ ?_ ?_ ?_ ?_; walk_at "pp"; (· kat_tups); walk_at "pp"; rotate_left; walk_at "pp"; (· is_list); walk_at "pp"; rotate_left; walk_at "pp"; rotate_left; walk_at "pp"; rotate_left; walk_at "pp"; rotate_left; walk_at "pp"; rotate_left; walk_at "pp"; (· nest_cls); walk_at "pp"; (· kaf_pre); walk_at "pp"; (· kaf_pre); walk_at "pp"; (· kaf_pre); walk_at "pp"; (· kaf_pre); walk_at "pp")); intro _ _ _ _ hv' _ _; subst hv'; (try dsimp only)))
  k_with "call ref" => (focus (k_here; (with_reducible show wpAny _ _ (call (Value.ref 107) _) _ _ _); k_dflt ((refine' bit1_spec ?_ ?_ ?_ ?_ ?_ ?_ ?_ ?_; walk_at "pp"; (· kat_tups); walk_at "pp"; rotate_left; walk_at "pp"; (· is_list); walk_at "pp"; rotate_left; walk_at "pp"; rotate_left; walk_at "pp"; rotate_left; walk_at "pp"; rotate_left; walk_at "pp"; rotate_left; walk_at "pp"; (· nest_cls); walk_at "pp"; (· kaf_pre); walk_at "pp"; (· kaf_pre); walk_at "pp"; (· kaf_pre); walk_at "pp"; (· kaf_pre); walk_at "pp")); intro _ _ _ _ _ _ _; (try dsimp only)))
  k_with "call ref" => (focus (k_here; (with_reducible show wpAny _ _ (call (Value.ref 231) _) _ _ _); k_dflt ((refine' divrem_spec ?_ ?_ ?_ ?_ ?_ ?_ ?_ ?_ ?_ ?_ ?_ ?_; walk_at "pp"; (· kat_tups); walk_at "pp"; rotate_left; walk_at "pp"; (· is_list); walk_at "pp"; (· assumption); walk_at "pp"; (· is_list); walk_at "pp"; rotate_left; walk_at "pp"; rotate_left; walk_at "pp"; rotate_left; walk_at "pp"; rotate_left; walk_at "pp"; rotate_left; walk_at "pp"; rotate_left; walk_at "pp"; rotate_left; walk_at "pp"; (· nest_cls); walk_at "pp"; (· kaf_pre); walk_at "pp"; (· kaf_pre); walk_at "pp"; (· kaf_pre); walk_at "pp"; (· kaf_pre); walk_at "pp"; (· kaf_pre); walk_at "pp"; (· kaf_pre); walk_at "pp")); intro _ _ _ _ _ _ _ _ _ _ _ o1' o2'; replace o1' := allNe_of o1'; (try simp only [AllNe, and_true] at o1'); replace o2' := allNe_of o2'; (try simp only [AllNe, and_true] at o2'); revert o1' o2'; intro _ _; (try dsimp only)))
  k_with "LeaveK" => (focus (refine' leaveK_ ?_ ?_ ?_; walk_at "pp"; (· k_asm); walk_at "pp"; (· k_asm); walk_at "pp"; intro _ _; (try dsimp only)))
  k_with "eval Name" => (focus (k_here; k_dflt (refine' nameF_B ?_ ?_ ?_ ?_ ?_ ?_; walk_at "pp"; rotate_left; walk_at "pp"; rotate_left; walk_at "pp"; rotate_left; walk_at "pp"; rotate_left; walk_at "pp"; (· rfl); walk_at "pp"; (· rfl); walk_at "pp"; (· k_asm); walk_at "pp"; (· rfl); walk_at "pp"; (· assumption); walk_at "pp"; k_whole)))
  k_with "call ref" => (focus (k_here; (with_reducible show wpAny _ _ (call (Value.ref 189) _) _ _ _); k_dflt ((refine' mul_spec ?_ ?_ ?_ ?_ ?_ ?_ ?_ ?_ ?_ ?_ ?_ ?_ ?_; walk_at "pp"; (· kat_tups); walk_at "pp"; rotate_left; walk_at "pp"; (· is_list); walk_at "pp"; (· assumption); walk_at "pp"; (· is_list); walk_at "pp"; (· assumption); walk_at "pp"; rotate_left; walk_at "pp"; rotate_left; walk_at "pp"; rotate_left; walk_at "pp"; rotate_left; walk_at "pp"; rotate_left; walk_at "pp"; rotate_left; walk_at "pp"; rotate_left; walk_at "pp"; (· nest_cls); walk_at "pp"; (· kaf_pre); walk_at "pp"; (· kaf_pre); walk_at "pp"; (· kaf_pre); walk_at "pp"; (· kaf_pre); walk_at "pp"; (· kaf_pre); walk_at "pp"; (· kaf_pre); walk_at "pp")); intro _ _ _ _ _ _ _ _ o'; replace o' := allNe_of o'; (try simp only [AllNe, and_true] at o'); revert o'; intro _; (try dsimp only)))
  trivial
set_option maxHeartbeats 4000000 in
theorem divided_times_spec {prog : Program} {w : World} {dp un : Nat} {gd : Option (List Code)} {env : Env} {outer : List Env} {h₀ : Heap} {L : Addr} {m : Str → Option Value} {news : List (Addr × Obj)} {s : Shared} {Q E : Value → Shared → Prop} {lm : Addr} {n wd : Int} {u t : Tok} {S : Option Addr}
    (C : Cal w env outer h₀ L m news s.heap) (hd : dp + 13 < recursionLimit) (NO : News h₀ L s.heap [(170, tabObj (tabOf S))]) (hS : TabSt S s.heap) (hoff : ∀ p ∈ news, p.1 ≠ 170) (hlm : s.heap.IsList lm #[.int n u]) (hnm : lm ≠ 170) (hw0 : 9 ≤ wd) (hw1 : wd < 12) (hn0 : 0 < n) (hn1 : n < 512)
    (ret : ∀ f c' h' tk', TimesOk w h' f n → h'.CodeRec (.ref c') tq → CodeNew S c' h₀ L h' → Keep170 s.heap h' → Fr h₀ L h' m → News h₀ L h' ((170, tabObj (tabOf (some c'))) :: news) → Q (.ref f) { s with heap := h', toks := tk' }) :
    wpAny (model prog w) (AR dp un gd env outer) (call (.ref 175) [.ref lm, .int wd t, .ref 189, .ref 231]) Q E s := by
  refine wpAny_call ?_
  k_dflt (refine' enterOC [(170, tabObj (tabOf S))] C NO ?k6 ?k7 ?k8 ?k9 ?kB ?kD ?_ ?c2 ?c3 ?c4; (case k6 => k_is); (case k7 => k_is); (case k8 => nest_cls); (case k9 => exact BindsTo.of_eq rfl); (case kB => exact rfl); (case kD => decide +kernel); (case c2 => exact rfl); (case c3 => exact rfl); (case c4 => exact rfl); k_whole)
  intro g L' h₁ tk cells base p loose mean mg mb F N Y B X T G l0
  (try dsimp only [List.map_cons, List.map_nil] at G)
  have hCode := hcode_of X
  k_cells Y
  (try simp only [List.cons_append, List.nil_append] at N)
  dsimp only
  (try k_unmd)
  k_fold
  k_lt l0
  rcases S with _ | c1
  all_goals dsimp only [tabOf] at N
  all_goals k_steps
  · rename_i o1 o2 o3 o4 e1 e2 e3 e4 f1 c1 oc1 vs1 t1 ct1 dc1 h5 tk5 d1 d2 l1 l2 h6 F1 N1 kF kN
    dsimp only at kN kF F1
    refine ret f1 c1 h6 _ ⟨⟨_, _, (kN _ (.head _)).1, rfl⟩, ?tm⟩ ?code ?cn (keep170_of G F1) kF ?nw
    case code => exact ⟨c1, oc1, vs1, t1, rfl, (kN (c1, oc1) (by k_mem)).1, d1, d2⟩
    case cn => exact .inr ⟨rfl, oc1, vs1, t1, d1, d2, News.pickD (by k_mem) kN News.nil⟩
    case nw => exact News.pickD (by k_mem) kN (News.keep170 C.led (keep170_of G F1) hoff)
    case tm =>
      intro prog2 dp2 un2 gd2 env2 outer2 h₂ L2 m2 news2 s2 Q2 E2 l l2 wx wy x y C2 st hd2 hl hx hl2 hy x0 x1 y0 y1 ret2
      have hf := st _ _ (kN _ (.head _)).1
      have hc : s2.heap.CodeRec (.ref c1) tq := ⟨c1, oc1, vs1, t1, rfl, st _ _ (kN (c1, oc1) (by k_mem)).1, d1, d2⟩
      have hlm' : s2.heap.IsList lm #[.int n u] := let ⟨ol, hol, rl⟩ := (keep170_of G F1).list hlm hnm; ⟨ol, st _ _ hol, rl⟩
      have q1 : CellAt s2.heap (L' + 1 + 1 + 1 + 1) (.ref 231) := ⟨_, st _ _ (kN (L' + 1 + 1 + 1 + 1, o1) (by k_mem)).1, e1⟩
      have q2 : CellAt s2.heap (L' + 1 + 1 + 1) (.ref 189) := ⟨_, st _ _ (kN (L' + 1 + 1 + 1, o2) (by k_mem)).1, e2⟩
      have q3 : CellAt s2.heap (L' + 1 + 1) (.int wd t) := ⟨_, st _ _ (kN (L' + 1 + 1, o3) (by k_mem)).1, e3⟩
      have q4 : CellAt s2.heap (L' + 1) (.ref lm) := ⟨_, st _ _ (kN (L' + 1, o4) (by k_mem)).1, e4⟩
      clear ret kF kN e1 e2 e3 e4 F1 N1 B T X hCode G C NO hoff st
      have hxy0 : 0 ≤ x * y := Int.mul_nonneg x0 y0
      have hxy1 : x * y < 2 ^ 18 := Int.lt_of_le_of_lt (Int.mul_le_mul (by omega : x ≤ 511) (by omega : y ≤ 511) y0 (by omega)) (by decide)
      refine wpAny_call ?_
      k_dflt (refine' enterF C2 hf hc ?k8 ?k9 ?kB ?_ ?c2 ?c3 ?c4 ?c5; (case k8 => nest_cls); (case k9 => exact BindsTo.of_eq rfl); (case c5 => decide); (case kB => exact locs rfl); (case c2 => exact rfl); (case c3 => exact rfl); (case c4 => exact rfl); k_whole)
      clear hf
      intro L3 h3 base2 p2 loose2 mean2 mg2 mb2 F N B X T
      (try dsimp only)
      (try k_unmd)
      k_fold
      k_steps
      rename_i r7 ws7 k7 h7 tk7 hI7 F7 N7 o7 T8 q8 r8 ws8 k8 c8 h8 tk8 hI8 F8 N8 o8 o9 kF kN
      exact ret2 r8 ws8 c8 h8 _ hI8 (Int.emod_nonneg _ (by omega)) (Int.emod_lt_of_pos _ hn0) kF (News.pickD (by k_mem) kN (C2.old F8)) (C2.off N8 (by k_mem))
  · rename_i o1 o2 o3 o4 e1 e2 e3 e4 f1 ct1 dc1 h5 tk5 l1 h6 F1 N1 kF kN
    have hcr : Heap.CodeRec _ (.ref c1) tq := TabSt.keep (S := some c1) hS (NO _ (.head _)).1 (keep170_of G F1)
    dsimp only at kN kF F1
    refine ret f1 c1 h6 _ ⟨⟨_, _, (kN _ (.head _)).1, rfl⟩, ?tm⟩ ?code ?cn (keep170_of G F1) kF ?nw
    case code => exact hcr
    case cn => exact .inl rfl
    case nw => exact News.pickD (by k_mem) kN (News.keep170 C.led (keep170_of G F1) hoff)
    case tm =>
      intro prog2 dp2 un2 gd2 env2 outer2 h₂ L2 m2 news2 s2 Q2 E2 l l2 wx wy x y C2 st hd2 hl hx hl2 hy x0 x1 y0 y1 ret2
      have hf := st _ _ (kN _ (.head _)).1
      have hc : s2.heap.CodeRec (.ref c1) tq := hcr.keeps st
      have hlm' : s2.heap.IsList lm #[.int n u] := let ⟨ol, hol, rl⟩ := (keep170_of G F1).list hlm hnm; ⟨ol, st _ _ hol, rl⟩
      have q1 : CellAt s2.heap (L' + 1 + 1 + 1 + 1) (.ref 231) := ⟨_, st _ _ (kN (L' + 1 + 1 + 1 + 1, o1) (by k_mem)).1, e1⟩
      have q2 : CellAt s2.heap (L' + 1 + 1 + 1) (.ref 189) := ⟨_, st _ _ (kN (L' + 1 + 1 + 1, o2) (by k_mem)).1, e2⟩
      have q3 : CellAt s2.heap (L' + 1 + 1) (.int wd t) := ⟨_, st _ _ (kN (L' + 1 + 1, o3) (by k_mem)).1, e3⟩
      have q4 : CellAt s2.heap (L' + 1) (.ref lm) := ⟨_, st _ _ (kN (L' + 1, o4) (by k_mem)).1, e4⟩
      clear ret kF kN e1 e2 e3 e4 F1 N1 B T X hCode G C NO hoff st
      have hxy0 : 0 ≤ x * y := Int.mul_nonneg x0 y0
      have hxy1 : x * y < 2 ^ 18 := Int.lt_of_le_of_lt (Int.mul_le_mul (by omega : x ≤ 511) (by omega : y ≤ 511) y0 (by omega)) (by decide)
      refine wpAny_call ?_
      k_dflt (refine' enterF C2 hf hc ?k8 ?k9 ?kB ?_ ?c2 ?c3 ?c4 ?c5; (case k8 => nest_cls); (case k9 => exact BindsTo.of_eq rfl); (case c5 => decide); (case kB => exact locs rfl); (case c2 => exact rfl); (case c3 => exact rfl); (case c4 => exact rfl); k_whole)
      clear hf
      intro L3 h3 base2 p2 loose2 mean2 mg2 mb2 F N B X T
      (try dsimp only)
      (try k_unmd)
      k_fold
      k_steps
      rename_i r7 ws7 k7 h7 tk7 hI7 F7 N7 o7 T8 q8 r8 ws8 k8 c8 h8 tk8 hI8 F8 N8 o8 o9 kF kN
      exact ret2 r8 ws8 c8 h8 _ hI8 (Int.emod_nonneg _ (by omega)) (Int.emod_lt_of_pos _ hn0) kF (News.pickD (by k_mem) kN (C2.old F8)) (C2.off N8 (by k_mem))

end
section
open PySem PySem.W PyProof.Rows PySem.Calls
set_option maxRecDepth 100000
theorem top_C15 : True := by
  w_top off
  trivial




theorem kw_17 : True := by
  k_with_none
  k_with "execs cons" => (focus (dsimp only at *))
  k_with "exec While" => (focus (refine whl_start 100 ?_))
  k_with "WhlRest" => (focus (refine whl_turn (by passes_own) ?_))
  k_with "WhlIf" => (focus (unfold WhlIf))
  k_with "WhlPost" => (focus (unfold WhlPost; dsimp only))
  k_with "subscriptTail Name Constant ref int" => (focus (k_here; (with_reducible show wpAny _ _ (subscriptTail _ _ (Value.ref _) (Value.int _ _)) _ _ _); k_dflt (refine' item_lit ?_ ?_ ?_ ?_ ?_; walk_at "pp"; (· is_list); walk_at "pp"; (· first | decide | assumption); walk_at "pp"; (· first | decide | assumption); walk_at "pp"; (· first | rfl | assumption); walk_at "pp"; k_whole)))
  k_with "subscriptTail Name Name ref int" => (focus (k_here; (with_reducible show wpAny _ _ (subscriptTail _ _ (Value.ref _) (Value.int _ _)) _ _ _); k_dflt (refine' item_lit ?_ ?_ ?_ ?_ ?_; walk_at "pp"; (· is_list); walk_at "pp"; (· first | decide | assumption); walk_at "pp"; (· first | decide | assumption); walk_at "pp"; (· first | rfl | assumption); walk_at "pp"; k_whole)))
  k_with "subscriptTail Name BinOp ref int" => (focus (k_here; (with_reducible show wpAny _ _ (subscriptTail _ _ (Value.ref _) (Value.int _ _)) _ _ _); k_dflt (refine' item_lit ?_ ?_ ?_ ?_ ?_; walk_at "pp"; (· is_list); walk_at "pp"; (· first | decide | assumption); walk_at "pp"; (· first | decide | assumption); walk_at "pp"; (· first | rfl | assumption); walk_at "pp"; k_whole)))
  k_with "subscriptTail" => (focus (k_here; (with_reducible show wpAny _ _ (subscriptTail _ _ (Value.ref _) (Value.int _ _)) _ _ _); k_dflt (refine' item_lit ?_ ?_ ?_ ?_ ?_; walk_at "pp"; (· is_list); walk_at "pp"; (· first | decide | assumption); walk_at "pp"; (· first | decide | assumption); walk_at "pp"; (· first | rfl | assumption); walk_at "pp"; k_whole)))
  k_with "call ref" => (focus (k_here; (with_reducible show wpAny _ _ (call (Value.ref 58) _) _ _ _); k_dflt (first | (refine' normal0_spec ?_ ?_ ?_ ?_; walk_at "pp"; (· kat_tups); walk_at "pp"; rotate_left; walk_at "pp"; (· is_list); walk_at "pp"; rotate_left; walk_at "pp"; (· nest_cls); walk_at "pp") | (refine' normal1_spec ?_ ?_ ?_ ?_; walk_at "pp"; (· kat_tups); walk_at "pp"; rotate_left; walk_at "pp"; (· is_list); walk_at "pp"; rotate_left; walk_at "pp"; (· nest_cls); walk_at "pp") | (refine' normal2_spec ?_ ?_ ?_ ?_; walk_at "pp"; (· kat_tups); walk_at "pp"; rotate_left; walk_at "pp"; (· is_list); walk_at "pp"; rotate_left; walk_at "pp"; (· nest_cls); walk_at "pp")); intro _ _ _ _ _ _ _ _ _; (try dsimp only)))
  k_with "call ref" => (focus (k_here; (with_reducible show wpAny _ _ (call (Value.ref 72) _) _ _ _); k_dflt (first | (refine' compare01_spec ?_ ?_ ?_ ?_ ?_; walk_at "pp"; (· kat_tups); walk_at "pp"; rotate_left; walk_at "pp"; (· is_list); walk_at "pp"; (· is_list); walk_at "pp"; rotate_left; walk_at "pp"; (· nest_cls); walk_at "pp") | (refine' compare21_spec ?_ ?_ ?_ ?_ ?_; walk_at "pp"; (· kat_tups); walk_at "pp"; rotate_left; walk_at "pp"; (· is_list); walk_at "pp"; (· is_list); walk_at "pp"; rotate_left; walk_at "pp"; (· nest_cls); walk_at "pp") | (refine' compare11_spec ?_ ?_ ?_ ?_ ?_; walk_at "pp"; (· kat_tups); walk_at "pp"; rotate_left; walk_at "pp"; (· is_list); walk_at "pp"; (· is_list); walk_at "pp"; rotate_left; walk_at "pp"; (· nest_cls); walk_at "pp")); intro _ _ _ _ _ _ _; (try dsimp only)))
  k_with "call ref" => (focus (k_here; (with_reducible show wpAny _ _ (call (Value.ref 119) _) _ _ _); k_dflt (first | (refine' last_bits2_spec ?_ ?_ ?_ ?_ ?_ ?_ ?_ ?_; walk_at "pp"; (· kat_tups); walk_at "pp"; rotate_left; walk_at "pp"; (· is_list); walk_at "pp"; rotate_left; walk_at "pp"; rotate_left; walk_at "pp"; rotate_left; walk_at "pp"; rotate_left; walk_at "pp"; rotate_left; walk_at "pp"; (· nest_cls); walk_at "pp"; (· kaf_pre); walk_at "pp"; (· kaf_pre); walk_at "pp"; (· kaf_pre); walk_at "pp"; (· kaf_pre); walk_at "pp") | (refine' last_bits3_spec ?_ ?_ ?_ ?_ ?_ ?_ ?_ ?_; walk_at "pp"; (· kat_tups); walk_at "pp"; rotate_left; walk_at "pp"; (· is_list); walk_at "pp"; rotate_left; walk_at "pp"; rotate_left; walk_at "pp"; rotate_left; walk_at "pp"; rotate_left; walk_at "pp"; rotate_left; walk_at "pp"; (· nest_cls); walk_at "pp"; (· kaf_pre); walk_at "pp"; (· kaf_pre); walk_at "pp"; (· kaf_pre); walk_at "pp"; (· kaf_pre); walk_at "pp")); intro _ _ _ _ hv' _ _; subst hv'; (try dsimp only)))
  k_with "call ref" => (focus (k_here; (with_reducible show wpAny _ _ (call (Value.ref 107) _) _ _ _); k_dflt ((refine' bit1_spec ?_ ?_ ?_ ?_ ?_ ?_ ?_ ?_; walk_at "pp"; (· kat_tups); walk_at "pp"; rotate_left; walk_at "pp"; (· is_list); walk_at "pp"; rotate_left; walk_at "pp"; rotate_left; walk_at "pp"; rotate_left; walk_at "pp"; rotate_left; walk_at "pp"; rotate_left; walk_at "pp"; (· nest_cls); walk_at "pp"; (· kaf_pre); walk_at "pp"; (· kaf_pre); walk_at "pp"; (· kaf_pre); walk_at "pp"; (· kaf_pre); walk_at "pp")); intro _ _ _ _ _ _ _; (try dsimp only)))
  k_with "call ref" => (focus (k_here; (with_reducible show wpAny _ _ (call (Value.ref 231) _) _ _ _); k_dflt ((refine' divrem_spec ?_ ?_ ?_ ?_ ?_ ?_ ?_ ?_ ?_ ?_ ?_ ?_; walk_at "pp"; (· kat_tups); walk_at "pp"; rotate_left; walk_at "pp"; (· is_list); walk_at "pp"; (· assumption); walk_at "pp"; (· is_list); walk_at "pp"; rotate_left; walk_at "pp"; rotate_left; walk_at "pp"; rotate_left; walk_at "pp"; rotate_left; walk_at "pp"; rotate_left; walk_at "pp"; rotate_left; walk_at "pp"; rotate_left; walk_at "pp"; (· nest_cls); walk_at "pp"; (· kaf_pre); walk_at "pp"; (· kaf_pre); walk_at "pp"; (· kaf_pre); walk_at "pp"; (· kaf_pre); walk_at "pp"; (· kaf_pre); walk_at "pp"; (· kaf_pre); walk_at "pp")); intro _ _ _ _ _ _ _ _ _ _ _ o1' o2'; replace o1' := allNe_of o1'; (try simp only [AllNe, and_true] at o1'); replace o2' := allNe_of o2'; (try simp only [AllNe, and_true] at o2'); revert o1' o2'; intro _ _; (try dsimp only)))
  k_with "compareOp Eq ref ref" => (focus (k_here; (with_reducible show wpAny _ _ (compareOp CmpOp.Eq (Value.ref _) (Value.ref _)) _ _ _); k_dflt (first | (refine' eq1_nil ?_ ?_ ?_ ?_; walk_at "pp"; (· is_list); walk_at "pp"; (· is_list); walk_at "pp"; (· (first | omega | (simp only [units_deeper, Around.deeper_units]; dsimp only; omega))); walk_at "pp") | (refine' eq1_one ?_ ?_ ?_ ?_; walk_at "pp"; (· is_list); walk_at "pp"; (· is_list); walk_at "pp"; (· (first | omega | (simp only [units_deeper, Around.deeper_units]; dsimp only; omega))); walk_at "pp"))))
  k_with "LeaveK" => (focus (refine' leaveK_ ?_ ?_ ?_; walk_at "pp"; (· k_asm); walk_at "pp"; (· first | k_asm | exact News.nil); walk_at "pp"; intro _ _; (try dsimp only)))
  trivial
set_option maxHeartbeats 4000000 in
theorem check_modulus_spec {prog : Program} {w : World} {dp un : Nat} {gd : Option (List Code)} {env : Env} {outer : List Env} {h₀ : Heap} {L : Addr} {m : Str → Option Value} {news : List (Addr × Obj)} {s : Shared} {Q E : Value → Shared → Prop} {lm : Addr} {n : Int} {u : Tok}
    (C : Cal w env outer h₀ L m news s.heap) (hd : dp + 2 < recursionLimit) (hlm : s.heap.IsList lm #[.int n u]) (hu : un + 90 < cLine)
    (ret : ∀ h' tk', Fr h₀ L h' m → News h₀ L h' news → Q .none { s with heap := h', toks := tk' }) :
    wpAny (model prog w) (AR dp un gd env outer) (call (.ref 161) [.ref lm]) Q E s := by
  refine wpAny_call ?_
  k_dflt (refine' enter C ?k6 ?k7 ?k8 ?k9 ?kB ?_ ?c2 ?c3 ?c4 ?c5; (case k6 => k_is); (case k7 => k_is); (case k8 => nest_cls); (case k9 => exact BindsTo.of_eq rfl); (case c5 => decide); (case kB => exact locs rfl); (case c2 => exact rfl); (case c3 => exact rfl); (case c4 => exact rfl); k_whole)
  intro L' h₁ base p loose mean mg mb F N B X T
  dsimp only
  k_fold
  k_steps
  all_goals first
    | (exfalso; simp_all; done)
    | (rename_i F1 N1 l1 ha kF kN; exact ret _ _ kF (C.old F1))

set_option maxHeartbeats 4000000 in
theorem unit_rest_spec {prog : Program} {w : World} {dp un : Nat} {gd : Option (List Code)} {env : Env} {outer : List Env} {h₀ : Heap} {L : Addr} {m : Str → Option Value} {news : List (Addr × Obj)} {s : Shared} {Q E : Value → Shared → Prop} {lm : Addr} {n : Int} {u : Tok}
    (C : Cal w env outer h₀ L m news s.heap) (hd : dp + 2 < recursionLimit) (hlm : s.heap.IsList lm #[.int n u]) (hn : 1 < n) (hu : un + 90 < cLine)
    (ret : ∀ r ws k h' tk', IntsAre ws (rowI 1) → Fr h₀ L h' m → News h₀ L h' ((r, W.listOf ws.toArray k) :: news) → (∀ p ∈ news, p.1 ≠ r) → Q (.ref r) { s with heap := h', toks := tk' }) :
    wpAny (model prog w) (AR dp un gd env outer) (call (.ref 168) [.ref lm]) Q E s := by
  refine wpAny_call ?_
  k_dflt (refine' enter C ?k6 ?k7 ?k8 ?k9 ?kB ?_ ?c2 ?c3 ?c4 ?c5; (case k6 => k_is); (case k7 => k_is); (case k8 => nest_cls); (case k9 => exact BindsTo.of_eq rfl); (case c5 => decide); (case kB => exact locs rfl); (case c2 => exact rfl); (case c3 => exact rfl); (case c4 => exact rfl); k_whole)
  intro L' h₁ base p loose mean mg mb F N B X T
  dsimp only
  k_fold
  k_steps
  · exfalso; simp_all
  · rename_i F1 N1 l1 kF kN
    exact ret _ [_] 0 _ _ (.cons _ _ .nil) kF (News.pickD (by k_mem) kN (C.old F1)) (C.off N1 (by k_mem))

theorem ar_units {dp un : Nat} {gd : Option (List Code)} {env : Env} {outer : List Env} : (AR dp un gd env outer).units = un := rfl
theorem row2_row {wd a : Int} (h0 : 0 ≤ a) (h1 : a < 512) (hw : 9 ≤ wd) : row2 wd a = rowI a := by
  have hp := pow_ge_512 hw
  unfold row2 rowI
  rw [Int.ediv_eq_zero_of_lt h0 (by omega), Int.emod_eq_of_lt h0 (by omega)]
  simp
theorem ne_170 {h₀ h : Heap} {L r : Addr} {xs ps : Array Value} {k : Nat} {news : List (Addr × Obj)} (N : News h₀ L h news) (h1 : (r, W.listOf xs k) ∈ news) (h2 : (170, tabObj ps) ∈ news) : r ≠ 170 := fun e => by
  have a := (N _ h1).1
  rw [e, (N _ h2).1] at a
  cases a


theorem kw_18 : True := by
  k_with_none
  k_with "execs cons" => (focus (dsimp only at *))
  k_with "exec While" => (focus (refine whl_start 100 ?_))
  k_with "WhlRest" => (focus (refine whl_turn (by passes_own) ?_))
  k_with "WhlIf" => (focus (unfold WhlIf))
  k_with "WhlPost" => (focus (unfold WhlPost; dsimp only))
  k_with "subscriptTail Name Constant ref int" => (focus (k_here; (with_reducible show wpAny _ _ (subscriptTail _ _ (Value.ref _) (Value.int _ _)) _ _ _); k_dflt (refine' item_lit ?_ ?_ ?_ ?_ ?_; walk_at "pp"; (· is_list); walk_at "pp"; (· first | decide | assumption); walk_at "pp"; (· first | decide | assumption); walk_at "pp"; (· first | rfl | assumption); walk_at "pp"; k_whole)))
  k_with "subscriptTail Name Name ref int" => (focus (k_here; (with_reducible show wpAny _ _ (subscriptTail _ _ (Value.ref _) (Value.int _ _)) _ _ _); k_dflt (refine' item_lit ?_ ?_ ?_ ?_ ?_; walk_at "pp"; (· is_list); walk_at "pp"; (· first | decide | assumption); walk_at "pp"; (· first | decide | assumption); walk_at "pp"; (· first | rfl | assumption); walk_at "pp"; k_whole)))
  k_with "subscriptTail Name BinOp ref int" => (focus (k_here; (with_reducible show wpAny _ _ (subscriptTail _ _ (Value.ref _) (Value.int _ _)) _ _ _); k_dflt (refine' item_lit ?_ ?_ ?_ ?_ ?_; walk_at "pp"; (· is_list); walk_at "pp"; (· first | decide | assumption); walk_at "pp"; (· first | decide | assumption); walk_at "pp"; (· first | rfl | assumption); walk_at "pp"; k_whole)))
  k_with "subscriptTail" => (focus (k_here; (with_reducible show wpAny _ _ (subscriptTail _ _ (Value.ref _) (Value.int _ _)) _ _ _); k_dflt (refine' item_lit ?_ ?_ ?_ ?_ ?_; walk_at "pp"; (· is_list); walk_at "pp"; (· first | decide | assumption); walk_at "pp"; (· first | decide | assumption); walk_at "pp"; (· first | rfl | assumption); walk_at "pp"; k_whole)))
  k_with "call ref" => (focus (k_here; (with_reducible show wpAny _ _ (call (Value.ref 58) _) _ _ _); k_dflt (first | (refine' normal0_spec ?_ ?_ ?_ ?_; walk_at "pp"; (· kat_tups); walk_at "pp"; rotate_left; walk_at "pp"; (· is_list); walk_at "pp"; rotate_left; walk_at "pp"; (· nest_cls); walk_at "pp") | (refine' normal1_spec ?_ ?_ ?_ ?_; walk_at "pp"; (· kat_tups); walk_at "pp"; rotate_left; walk_at "pp"; (· is_list); walk_at "pp"; rotate_left; walk_at "pp"; (· nest_cls); walk_at "pp") | (refine' normal2_spec ?_ ?_ ?_ ?_; walk_at "pp"; (· kat_tups); walk_at "pp"; rotate_left; walk_at "pp"; (· is_list); walk_at "pp"; rotate_left; walk_at "pp"; (· nest_cls); walk_at "pp")); intro _ _ _ _ _ _ _ _ _; (try dsimp only)))
  k_with "call ref" => (focus (k_here; (with_reducible show wpAny _ _ (call (Value.ref 72) _) _ _ _); k_dflt (first | (refine' compare01_spec ?_ ?_ ?_ ?_ ?_; walk_at "pp"; (· kat_tups); walk_at "pp"; rotate_left; walk_at "pp"; (· is_list); walk_at "pp"; (· is_list); walk_at "pp"; rotate_left; walk_at "pp"; (· nest_cls); walk_at "pp") | (refine' compare21_spec ?_ ?_ ?_ ?_ ?_; walk_at "pp"; (· kat_tups); walk_at "pp"; rotate_left; walk_at "pp"; (· is_list); walk_at "pp"; (· is_list); walk_at "pp"; rotate_left; walk_at "pp"; (· nest_cls); walk_at "pp") | (refine' compare11_spec ?_ ?_ ?_ ?_ ?_; walk_at "pp"; (· kat_tups); walk_at "pp"; rotate_left; walk_at "pp"; (· is_list); walk_at "pp"; (· is_list); walk_at "pp"; rotate_left; walk_at "pp"; (· nest_cls); walk_at "pp")); intro _ _ _ _ _ _ _; (try dsimp only)))
  k_with "call ref" => (focus (k_here; (with_reducible show wpAny _ _ (call (Value.ref 119) _) _ _ _); k_dflt (first | (refine' last_bits2_spec ?_ ?_ ?_ ?_ ?_ ?_ ?_ ?_; walk_at "pp"; (· kat_tups); walk_at "pp"; rotate_left; walk_at "pp"; (· is_list); walk_at "pp"; rotate_left; walk_at "pp"; rotate_left; walk_at "pp"; rotate_left; walk_at "pp"; rotate_left; walk_at "pp"; rotate_left; walk_at "pp"; (· nest_cls); walk_at "pp"; (· kaf_pre); walk_at "pp"; (· kaf_pre); walk_at "pp"; (· kaf_pre); walk_at "pp"; (· kaf_pre); walk_at "pp") | (refine' last_bits3_spec ?_ ?_ ?_ ?_ ?_ ?_ ?_ ?_; walk_at "pp"; (· kat_tups); walk_at "pp"; rotate_left; walk_at "pp"; (· is_list); walk_at "pp"; rotate_left; walk_at "pp"; rotate_left; walk_at "pp"; rotate_left; walk_at "pp"; rotate_left; walk_at "pp"; rotate_left; walk_at "pp"; (· nest_cls); walk_at "pp"; (· kaf_pre); walk_at "pp"; (· kaf_pre); walk_at "pp"; (· kaf_pre); walk_at "pp"; (· kaf_pre); walk_at "pp")); intro _ _ _ _ hv' _ _; subst hv'; (try dsimp only)))
  k_with "call ref" => (focus (k_here; (with_reducible show wpAny _ _ (call (Value.ref 107) _) _ _ _); k_dflt ((refine' bit1_spec ?_ ?_ ?_ ?_ ?_ ?_ ?_ ?_; walk_at "pp"; (· kat_tups); walk_at "pp"; rotate_left; walk_at "pp"; (· is_list); walk_at "pp"; rotate_left; walk_at "pp"; rotate_left; walk_at "pp"; rotate_left; walk_at "pp"; rotate_left; walk_at "pp"; rotate_left; walk_at "pp"; (· nest_cls); walk_at "pp"; (· kaf_pre); walk_at "pp"; (· kaf_pre); walk_at "pp"; (· kaf_pre); walk_at "pp"; (· kaf_pre); walk_at "pp")); intro _ _ _ _ _ _ _; (try dsimp only)))
  k_with "call ref" => (focus (k_here; (with_reducible show wpAny _ _ (call (Value.ref 231) _) _ _ _); k_dflt ((refine' divrem_spec ?_ ?_ ?_ ?_ ?_ ?_ ?_ ?_ ?_ ?_ ?_ ?_; walk_at "pp"; (· kat_tups); walk_at "pp"; rotate_left; walk_at "pp"; (· is_list); walk_at "pp"; (· assumption); walk_at "pp"; (· is_list); walk_at "pp"; rotate_left; walk_at "pp"; rotate_left; walk_at "pp"; rotate_left; walk_at "pp"; rotate_left; walk_at "pp"; rotate_left; walk_at "pp"; rotate_left; walk_at "pp"; rotate_left; walk_at "pp"; (· nest_cls); walk_at "pp"; (· kaf_pre); walk_at "pp"; (· kaf_pre); walk_at "pp"; (· kaf_pre); walk_at "pp"; (· kaf_pre); walk_at "pp"; (· kaf_pre); walk_at "pp"; (· kaf_pre); walk_at "pp")); intro _ _ _ _ _ _ _ _ _ _ _ o1' o2'; replace o1' := allNe_of o1'; (try simp only [AllNe, and_true] at o1'); replace o2' := allNe_of o2'; (try simp only [AllNe, and_true] at o2'); revert o1' o2'; intro _ _; (try dsimp only)))
  k_with "compareOp Eq ref ref" => (focus (k_here; (with_reducible show wpAny _ _ (compareOp CmpOp.Eq (Value.ref _) (Value.ref _)) _ _ _); k_dflt (first | (refine' eq1_nil ?_ ?_ ?_ ?_; walk_at "pp"; (· is_list); walk_at "pp"; (· is_list); walk_at "pp"; (· (first | omega | (simp only [units_deeper, Around.deeper_units]; dsimp only; omega))); walk_at "pp") | (refine' eq1_one ?_ ?_ ?_ ?_; walk_at "pp"; (· is_list); walk_at "pp"; (· is_list); walk_at "pp"; (· (first | omega | (simp only [units_deeper, Around.deeper_units]; dsimp only; omega))); walk_at "pp"))))
  k_with "LeaveK" => (focus (refine' leaveK_ ?_ ?_ ?_; walk_at "pp"; (· k_asm); walk_at "pp"; (· first | k_asm | exact News.nil); walk_at "pp"; intro _ _; (try dsimp only)))
  k_with "call ref" => (focus (k_here; (with_reducible show wpAny _ _ (call (Value.ref 161) _) _ _ _); k_dflt ((refine' check_modulus_spec ?_ ?_ ?_ ?_ ?_; walk_at "pp"; (· kat_tups); walk_at "pp"; rotate_left; walk_at "pp"; (· is_list); walk_at "pp"; (· (first | omega | (simp only [units_deeper, ar_units]; omega))); walk_at "pp"; rotate_left; walk_at "pp"; (· nest_cls); walk_at "pp")); intro _ _ _ _; (try dsimp only)))
  k_with "call ref" => (focus (k_here; (with_reducible show wpAny _ _ (call (Value.ref 168) _) _ _ _); k_dflt ((refine' unit_rest_spec ?_ ?_ ?_ ?_ ?_ ?_; walk_at "pp"; (· kat_tups); walk_at "pp"; rotate_left; walk_at "pp"; (· is_list); walk_at "pp"; (· omega); walk_at "pp"; (· (first | omega | (simp only [units_deeper, ar_units]; omega))); walk_at "pp"; rotate_left; walk_at "pp"; (· nest_cls); walk_at "pp")); intro _ _ _ _ _ _ _ _ o'; replace o' := allNe_of o'; (try simp only [AllNe, and_true] at o'); revert o'; intro _; (try dsimp only)))
  k_with "call ref" => (focus (k_here; (with_reducible show wpAny _ _ (call (Value.ref 175) _) _ _ _); refine Hold.intro ?_))
  k_with "call ref" => (focus (k_here; (with_reducible show wpAny _ _ (call (Value.ref 154) _) _ _ _); refine Hold.intro ?_))
  trivial
set_option maxHeartbeats 4000000 in
theorem power_mod_spec {prog : Program} {w : World} {dp un : Nat} {gd : Option (List Code)} {env : Env} {outer : List Env} {h₀ : Heap} {L : Addr} {m : Str → Option Value} {news : List (Addr × Obj)} {s : Shared} {Q E : Value → Shared → Prop} {l le lm : Addr} {wa : List Value} {a e n wd size : Int} {u te t v : Tok} {S : Option Addr}
    (C : Cal w env outer h₀ L m news s.heap) (hd : dp + 16 < recursionLimit) (NO : News h₀ L s.heap [(170, tabObj (tabOf S))]) (hS : TabSt S s.heap) (hoff : ∀ p ∈ news, p.1 ≠ 170) (hl : s.heap.IsList l wa.toArray) (hx : l ≠ 170) (hI : IntsAre wa (row2 wd a)) (hle : s.heap.IsList le #[.int e te]) (hex : le ≠ 170) (hlm : s.heap.IsList lm #[.int n u]) (hmx : lm ≠ 170) (ha0 : 0 ≤ a) (ha1 : a < n) (he0 : 0 < e) (he1 : e < 512) (hn0 : 1 < n) (hn1 : n < 512) (hw0 : 9 ≤ wd) (hw1 : wd < 12) (hsz : size = 1 ∨ size = 2 ∨ size = 3) (hu : un + 200 < cLine)
    (ret : ∀ r ws k c' h' tk', IntsAre ws (rowI (a ^ e.toNat % n)) → h'.CodeRec (.ref c') tq → CodeNew S c' h₀ L h' → Keep170 s.heap h' → Fr h₀ L h' m → News h₀ L h' ((r, W.listOf ws.toArray k) :: (170, tabObj (tabOf (some c'))) :: news) → Q (.ref r) { s with heap := h', toks := tk' }) :
    wpAny (model prog w) (AR dp un gd env outer) (call (.ref 182) [.ref l, .ref le, .ref lm, .int wd t, .int size v, .ref 189, .ref 231]) Q E s := by
  refine wpAny_call ?_
  k_dflt (refine' enterO [(170, tabObj (tabOf S))] C NO ?k6 ?k7 ?k8 ?k9 ?kB ?_ ?c2 ?c3 ?c4 ?c5; (case k6 => k_is); (case k7 => k_is); (case k8 => nest_cls); (case k9 => exact BindsTo.of_eq rfl); (case c5 => decide); (case kB => exact locs rfl); (case c2 => exact rfl); (case c3 => exact rfl); (case c4 => exact rfl); k_whole)
  intro g L' h₁ base p loose mean mg mb F N B X T G
  have hP := (NO _ (.head _)).1
  have gl := GSub.list G hl (by simpa using hx)
  have gle := GSub.list G hle (by simpa using hex)
  have glm := GSub.list G hlm (by simpa using hmx)
  (try dsimp only [List.map_cons, List.map_nil] at G)
  dsimp only
  (try k_unmd)
  k_fold
  k_steps
  rename_i h9 tk9 T1 q1 rb wb kb cb h8 tk8 hIb o1 o2 h7 F7 N7 ru wu ku h6 tk6 hIu F6 N6 o6
  unfold Hold
  refine' divided_times_spec (S := S) (news := [(ru, W.listOf wu.toArray ku), (rb, W.listOf wb.toArray cb)]) (Cal.mk' (by k_asm) F6 (by k_asm) (by k_asm) ?N rfl rfl) ?d ?NO ?hS ?off ?lm hmx hw0 hw1 ?n0 hn1 ?_
  case N => exact News.pickD (by k_mem) N6 (News.pickD (by k_mem) N6 News.nil)
  case d => dsimp only; omega
  case NO => exact News.pickD (by k_mem) N6 News.nil
  case hS => exact TabSt.keep hS hP (keep170_of G F6)
  case off =>
    intro p hp
    simp only [List.mem_cons, List.not_mem_nil, or_false] at hp
    rcases hp with rfl | rfl
    · exact ne_170 N6 (by k_mem) (by k_mem)
    · exact ne_170 N6 (by k_mem) (by k_mem)
  case lm => is_list
  case n0 => omega
  intro f1 c1 h5 tk5 hT5 hc5 hn5 K5 F5 N5
  (try dsimp only)
  (try k_unmd)
  k_fold
  k_steps
  unfold Hold
  have hle5 : h5.IsList le #[.int e te] := let ⟨ol, hol, rl⟩ := gle; ⟨ol, F5.keep _ _ hol, rl⟩
  have hne : le ≠ rb := fun q => by
    obtain ⟨ol, hol, _⟩ := gle
    rw [q, (N6 (rb, W.listOf wb.toArray cb) (by k_mem)).2.2] at hol
    cases hol
  rcases hn5 with rfl | ⟨rfl, oc1, vs1, t1, d1, d2, n5⟩
  · skip
    refine' by_windows_spec (cb := cb) (wb := wb) (b := a) (news := [(170, tabObj (tabOf (some c1)))]) (Cal.mk' (by k_asm) F5 (by k_asm) (by k_asm) ?N rfl rfl) ?d hsz ?NO ?hI ?n0 hle5 hne he0 he1 hT5 ?hg hw0 hw1 ?hu ?_
    case N => exact News.pickD (by k_mem) N5 News.nil
    case d => dsimp only; omega
    case NO => exact News.pickD (by k_mem) N5 News.nil
    case hI => rw [show a ^ 1 % n = a % n by rw [Int.pow_succ, Int.pow_zero, Int.one_mul]]; exact hIb
    case n0 => omega
    case hg => exact fun _ _ e => e
    case hu => simp only [units_deeper, ar_units]; omega
    intro r4 w4 k4 h4 tk4 hI4 st4 F4 N4
    (try dsimp only)
    k_steps
    rename_i kF kN
    exact ret r4 w4 k4 c1 h4 _ hI4 (hc5.keeps st4) (.inl rfl) (keep170_of G F4) kF (News.pickD (by k_mem) kN (News.pickD (by k_mem) kN (News.keep170 C.led (keep170_of G F4) hoff)))
  · skip
    refine' by_windows_spec (cb := cb) (wb := wb) (b := a) (news := [(170, tabObj (tabOf (some c1))), (c1, oc1)]) (Cal.mk' (by k_asm) F5 (by k_asm) (by k_asm) ?N rfl rfl) ?d hsz ?NO ?hI ?n0 hle5 hne he0 he1 hT5 ?hg hw0 hw1 ?hu ?_
    case N => exact News.pickD (by k_mem) N5 n5
    case d => dsimp only; omega
    case NO => exact News.pickD (by k_mem) N5 News.nil
    case hI => rw [show a ^ 1 % n = a % n by rw [Int.pow_succ, Int.pow_zero, Int.one_mul]]; exact hIb
    case n0 => omega
    case hg => exact fun _ _ e => e
    case hu => simp only [units_deeper, ar_units]; omega
    intro r4 w4 k4 h4 tk4 hI4 st4 F4 N4
    (try dsimp only)
    k_steps
    rename_i kF kN
    exact ret r4 w4 k4 c1 h4 _ hI4 (hc5.keeps st4) (.inr ⟨rfl, oc1, vs1, t1, d1, d2, News.pickD (by k_mem) kN News.nil⟩) (keep170_of G F4) kF (News.pickD (by k_mem) kN (News.pickD (by k_mem) kN (News.keep170 C.led (keep170_of G F4) hoff)))

end
local macro_rules | `(tactic| walk_at "hd2") => `(tactic| rename Jac _ _ _ _ => hJ)
section
open PySem PySem.W PyProof.Rows PySem.Calls
set_option maxRecDepth 100000
theorem top_C16 : True := by
  w_top off
  trivial


theorem off_own {h₀ H g : Heap} {L r : Addr} {news : List (Addr × Obj)} (N : News h₀ L H news) (G : GSub H g [170]) (hoff : ∀ p ∈ news, p.1 ≠ 170) (e : g.get? r = none) : ∀ p ∈ news, p.1 ≠ r := fun p hp q => by
  have h := G _ _ (N p hp).1 (by simpa using hoff p hp)
  rw [q, e] at h
  cases h
theorem row2_pos {wd a : Int} (t : Tok) (h0 : 0 < a) (h1 : a < 512) (hw : 9 ≤ wd) : IntsAre [.int a t] (row2 wd a) := by
  rw [row2_row (by omega) h1 hw]
  unfold rowI
  rw [if_neg (by omega)]
  exact .cons _ _ .nil
theorem row2_zero {wd a : Int} (h0 : a = 0) : IntsAre [] (row2 wd a) := by
  subst h0
  unfold row2
  rw [if_pos rfl]
  exact .nil

theorem kw_19 : True := by
  k_with_none
  k_with "execs cons" => (focus (dsimp only at *))
  k_with "exec While" => (focus (refine whl_start 100 ?_))
  k_with "WhlRest" => (focus (refine whl_turn (by passes_own) ?_))
  k_with "WhlIf" => (focus (unfold WhlIf))
  k_with "WhlPost" => (focus (unfold WhlPost; dsimp only))
  k_with "subscriptTail Name Constant ref int" => (focus (k_here; (with_reducible show wpAny _ _ (subscriptTail _ _ (Value.ref _) (Value.int _ _)) _ _ _); k_dflt (refine' item_lit ?_ ?_ ?_ ?_ ?_; walk_at "pp"; (· is_list); walk_at "pp"; (· first | decide | assumption); walk_at "pp"; (· first | decide | assumption); walk_at "pp"; (· first | rfl | assumption); walk_at "pp"; k_whole)))
  k_with "subscriptTail Name Name ref int" => (focus (k_here; (with_reducible show wpAny _ _ (subscriptTail _ _ (Value.ref _) (Value.int _ _)) _ _ _); k_dflt (refine' item_lit ?_ ?_ ?_ ?_ ?_; walk_at "pp"; (· is_list); walk_at "pp"; (· first | decide | assumption); walk_at "pp"; (· first | decide | assumption); walk_at "pp"; (· first | rfl | assumption); walk_at "pp"; k_whole)))
  k_with "subscriptTail Name BinOp ref int" => (focus (k_here; (with_reducible show wpAny _ _ (subscriptTail _ _ (Value.ref _) (Value.int _ _)) _ _ _); k_dflt (refine' item_lit ?_ ?_ ?_ ?_ ?_; walk_at "pp"; (· is_list); walk_at "pp"; (· first | decide | assumption); walk_at "pp"; (· first | decide | assumption); walk_at "pp"; (· first | rfl | assumption); walk_at "pp"; k_whole)))
  k_with "subscriptTail" => (focus (k_here; (with_reducible show wpAny _ _ (subscriptTail _ _ (Value.ref _) (Value.int _ _)) _ _ _); k_dflt (refine' item_lit ?_ ?_ ?_ ?_ ?_; walk_at "pp"; (· is_list); walk_at "pp"; (· first | decide | assumption); walk_at "pp"; (· first | decide | assumption); walk_at "pp"; (· first | rfl | assumption); walk_at "pp"; k_whole)))
  k_with "call ref" => (focus (k_here; (with_reducible show wpAny _ _ (call (Value.ref 58) _) _ _ _); k_dflt (first | (refine' normal0_spec ?_ ?_ ?_ ?_; walk_at "pp"; (· kat_tups); walk_at "pp"; rotate_left; walk_at "pp"; (· is_list); walk_at "pp"; rotate_left; walk_at "pp"; (· nest_cls); walk_at "pp") | (refine' normal1_spec ?_ ?_ ?_ ?_; walk_at "pp"; (· kat_tups); walk_at "pp"; rotate_left; walk_at "pp"; (· is_list); walk_at "pp"; rotate_left; walk_at "pp"; (· nest_cls); walk_at "pp") | (refine' normal2_spec ?_ ?_ ?_ ?_; walk_at "pp"; (· kat_tups); walk_at "pp"; rotate_left; walk_at "pp"; (· is_list); walk_at "pp"; rotate_left; walk_at "pp"; (· nest_cls); walk_at "pp")); intro _ _ _ _ _ _ _ _ _; (try dsimp only)))
  k_with "call ref" => (focus (k_here; (with_reducible show wpAny _ _ (call (Value.ref 72) _) _ _ _); k_dflt (first | (refine' compare01_spec ?_ ?_ ?_ ?_ ?_; walk_at "pp"; (· kat_tups); walk_at "pp"; rotate_left; walk_at "pp"; (· is_list); walk_at "pp"; (· is_list); walk_at "pp"; rotate_left; walk_at "pp"; (· nest_cls); walk_at "pp") | (refine' compare21_spec ?_ ?_ ?_ ?_ ?_; walk_at "pp"; (· kat_tups); walk_at "pp"; rotate_left; walk_at "pp"; (· is_list); walk_at "pp"; (· is_list); walk_at "pp"; rotate_left; walk_at "pp"; (· nest_cls); walk_at "pp") | (refine' compare11_spec ?_ ?_ ?_ ?_ ?_; walk_at "pp"; (· kat_tups); walk_at "pp"; rotate_left; walk_at "pp"; (· is_list); walk_at "pp"; (· is_list); walk_at "pp"; rotate_left; walk_at "pp"; (· nest_cls); walk_at "pp")); intro _ _ _ _ _ _ _; (try dsimp only)))
  k_with "call ref" => (focus (k_here; (with_reducible show wpAny _ _ (call (Value.ref 119) _) _ _ _); k_dflt (first | (refine' last_bits2_spec ?_ ?_ ?_ ?_ ?_ ?_ ?_ ?_; walk_at "pp"; (· kat_tups); walk_at "pp"; rotate_left; walk_at "pp"; (· is_list); walk_at "pp"; rotate_left; walk_at "pp"; rotate_left; walk_at "pp"; rotate_left; walk_at "pp"; rotate_left; walk_at "pp"; rotate_left; walk_at "pp"; (· nest_cls); walk_at "pp"; (· kaf_pre); walk_at "pp"; (· kaf_pre); walk_at "pp"; (· kaf_pre); walk_at "pp"; (· kaf_pre); walk_at "pp") | (refine' last_bits3_spec ?_ ?_ ?_ ?_ ?_ ?_ ?_ ?_; walk_at "pp"; (· kat_tups); walk_at "pp"; rotate_left; walk_at "pp"; (· is_list); walk_at "pp"; rotate_left; walk_at "pp"; rotate_left; walk_at "pp"; rotate_left; walk_at "pp"; rotate_left; walk_at "pp"; rotate_left; walk_at "pp"; (· nest_cls); walk_at "pp"; (· kaf_pre); walk_at "pp"; (· kaf_pre); walk_at "pp"; (· kaf_pre); walk_at "pp"; (· kaf_pre); walk_at "pp")); intro _ _ _ _ hv' _ _; subst hv'; (try dsimp only)))
  k_with "call ref" => (focus (k_here; (with_reducible show wpAny _ _ (call (Value.ref 107) _) _ _ _); k_dflt ((refine' bit1_spec ?_ ?_ ?_ ?_ ?_ ?_ ?_ ?_; walk_at "pp"; (· kat_tups); walk_at "pp"; rotate_left; walk_at "pp"; (· is_list); walk_at "pp"; rotate_left; walk_at "pp"; rotate_left; walk_at "pp"; rotate_left; walk_at "pp"; rotate_left; walk_at "pp"; rotate_left; walk_at "pp"; (· nest_cls); walk_at "pp"; (· kaf_pre); walk_at "pp"; (· kaf_pre); walk_at "pp"; (· kaf_pre); walk_at "pp"; (· kaf_pre); walk_at "pp")); intro _ _ _ _ _ _ _; (try dsimp only)))
  k_with "call ref" => (focus (k_here; (with_reducible show wpAny _ _ (call (Value.ref 231) _) _ _ _); k_dflt ((refine' divrem_spec ?_ ?_ ?_ ?_ ?_ ?_ ?_ ?_ ?_ ?_ ?_ ?_; walk_at "pp"; (· kat_tups); walk_at "pp"; rotate_left; walk_at "pp"; (· is_list); walk_at "pp"; (· assumption); walk_at "pp"; (· is_list); walk_at "pp"; rotate_left; walk_at "pp"; rotate_left; walk_at "pp"; rotate_left; walk_at "pp"; rotate_left; walk_at "pp"; rotate_left; walk_at "pp"; rotate_left; walk_at "pp"; rotate_left; walk_at "pp"; (· nest_cls); walk_at "pp"; (· kaf_pre); walk_at "pp"; (· kaf_pre); walk_at "pp"; (· kaf_pre); walk_at "pp"; (· kaf_pre); walk_at "pp"; (· kaf_pre); walk_at "pp"; (· kaf_pre); walk_at "pp")); intro _ _ _ _ _ _ _ _ _ _ _ o1' o2'; replace o1' := allNe_of o1'; (try simp only [AllNe, and_true] at o1'); replace o2' := allNe_of o2'; (try simp only [AllNe, and_true] at o2'); revert o1' o2'; intro _ _; (try dsimp only)))
  k_with "compareOp Eq ref ref" => (focus (k_here; (with_reducible show wpAny _ _ (compareOp CmpOp.Eq (Value.ref _) (Value.ref _)) _ _ _); k_dflt (refine' ke_eq_ints ?_ ?_ ?_ ?_ ?_ ?_; walk_at "pp"; (· is_list); walk_at "pp"; (· is_list); walk_at "pp"; (· (first | assumption | exact .nil | exact .cons _ _ .nil)); walk_at "pp"; (· (first | assumption | exact .nil | exact .cons _ _ .nil)); walk_at "pp"; (· (simp only [units_deeper, ar_units]; omega)); walk_at "pp")))
  k_with "LeaveK" => (focus (refine' leaveK_ ?_ ?_ ?_; walk_at "pp"; (· k_asm); walk_at "pp"; (· first | k_asm | exact News.nil); walk_at "pp"; intro _ _; (try dsimp only)))
  k_with "call ref" => (focus (k_here; (with_reducible show wpAny _ _ (call (Value.ref 182) _) _ _ _); refine Hold.intro ?_))
  k_with "call ref" => (focus (k_here; (with_reducible show wpAny _ _ (call (Value.ref 133) _) _ _ _); (rename Jac _ _ _ _ => hJ'); k_dflt (refine' jacobi_spec ?_ ?_ ?_ ?_ ?_ ?_ ?_ ?_ ?_ ?_ ?_ ?_ ?_ ?_ ?_; walk_at "pp"; rotate_left; walk_at "pp"; rotate_left; walk_at "pp"; rotate_left; walk_at "pp"; rotate_left; walk_at "pp"; rotate_left; walk_at "pp"; rotate_left; walk_at "pp"; rotate_left; walk_at "pp"; rotate_left; walk_at "pp"; rotate_left; walk_at "pp"; rotate_left; walk_at "pp"; rotate_left; walk_at "pp"; (· exact hJ'); walk_at "pp"; rotate_left; walk_at "pp"; rotate_left; walk_at "pp"; rotate_left; walk_at "pp"; (· kat_tups); walk_at "pp"; rotate_left; walk_at "pp"; (· is_list); walk_at "pp"; (· (first | exact row2_pos _ (by omega) (by omega) (by omega) | exact row2_zero (by omega))); walk_at "pp"; (· refine' News.pickD ?_ ?_ News.nil; walk_at "pp"; rotate_left; walk_at "pp"; (· k_asm); walk_at "pp"; (· k_mem)); walk_at "pp"; (· first | exact Nat.ne_of_lt (by omega) | exact Nat.ne_of_gt (by omega)); walk_at "pp"; rotate_left; walk_at "pp"; rotate_left; walk_at "pp"; rotate_left; walk_at "pp"; rotate_left; walk_at "pp"; rotate_left; walk_at "pp"; rotate_left; walk_at "pp"; rotate_left; walk_at "pp"; rotate_left; walk_at "pp"; (· nest_cls); walk_at "pp"; (· kaf_pre); walk_at "pp"; (· kaf_pre); walk_at "pp"; (· kaf_pre); walk_at "pp"; (· kaf_pre); walk_at "pp"; (· kaf_pre); walk_at "pp"; (· kaf_pre); walk_at "pp"; (· kaf_pre); walk_at "pp"); intro _ _ _ _ hv' _ _; subst hv'; (try dsimp only); walk_at "hd2"))
  trivial
set_option maxHeartbeats 4000000 in
theorem told_spec {prog : Program} {w : World} {dp un : Nat} {gd : Option (List Code)} {env : Env} {outer : List Env} {h₀ : Heap} {L : Addr} {m : Str → Option Value} {news : List (Addr × Obj)} {s : Shared} {Q E : Value → Shared → Prop} {a n wd size R : Int} {u te t v : Tok} {S : Option Addr}
    (C : Cal w env outer h₀ L m news s.heap) (hd : dp + 18 < recursionLimit) (NO : News h₀ L s.heap [(170, tabObj (tabOf S))]) (hS : TabSt S s.heap) (hoff : ∀ p ∈ news, p.1 ≠ 170) (ha0 : 0 ≤ a) (ha1 : a < n) (hn0 : 1 < n) (hn1 : n < 512) (ho : n % 2 = 1) (hJ : Jac 1 (a % n) n R) (hR0 : -1 ≤ R) (hR1 : R ≤ 1) (hw0 : 9 ≤ wd) (hw1 : wd < 12) (hsz : size = 1 ∨ size = 2 ∨ size = 3) (hu : un + 300 < cLine)
    (ret : ∀ T k r ws c c' t' h' tk', IntsAre ws (rowI (a ^ (n / 2).toNat % n)) → h'.CodeRec (.ref c') tq → CodeNew S c' h₀ L h' → Keep170 s.heap h' → (∀ p ∈ news, p.1 ≠ T) → (∀ p ∈ news, p.1 ≠ r) → (S = none → ∀ p ∈ news, p.1 ≠ c') → Fr h₀ L h' m → News h₀ L h' ((T, ({ cls := .type "tuple", data := .seq #[.int R t', .ref r, .bool (decide (R ≠ 0 ∧ rowI (a ^ (n / 2).toNat % n) = [R % n]))] k } : Obj)) :: (r, W.listOf ws.toArray c) :: (170, tabObj (tabOf (some c'))) :: news) → Q (.ref T) { s with heap := h', toks := tk' }) :
    wpAny (model prog w) (AR dp un gd env outer) (call (.ref 257) [.int a te, .int n u, .int size v, .int wd t]) Q E s := by
  refine wpAny_call ?_
  k_dflt (refine' enterO [(170, tabObj (tabOf S))] C NO ?k6 ?k7 ?k8 ?k9 ?kB ?_ ?c2 ?c3 ?c4 ?c5; (case k6 => k_is); (case k7 => k_is); (case k8 => nest_cls); (case k9 => exact BindsTo.of_eq rfl); (case c5 => decide); (case kB => exact locs rfl); (case c2 => exact rfl); (case c3 => exact rfl); (case c4 => exact rfl); k_whole)
  intro g L' h₁ base p loose mean mg mb F N B X T G
  have hP := (NO _ (.head _)).1
  (try dsimp only [List.map_cons, List.map_nil] at G)
  dsimp only
  (try k_unmd)
  k_fold
  have hfd : n.fdiv 2 = n / 2 := Int.fdiv_eq_ediv_of_nonneg _ (by omega)
  k_steps
  · rename_i hpos r0 _ _ _ _ _ _ _ R0 t0 _ _ hJ0 _ _ _ _ _ h6 F6 N6 l6
    rw [hfd] at N6
    unfold Hold
    refine' power_mod_spec (S := S) (a := a) (e := n / 2) (n := n) (wa := [.int a te]) (news := [(r0, W.listOf #[.int a te] 0)]) (Cal.mk' (by k_asm) F6 (by k_asm) (by k_asm) ?N rfl rfl) ?d ?NO ?hS ?off ?l ?lx ?hI ?le ?lex ?lm ?lmx ha0 ha1 ?e0 ?e1 hn0 hn1 hw0 hw1 hsz ?hu ?_
    case N => exact News.pickD (by k_mem) N6 News.nil
    case d => dsimp only; omega
    case NO => exact News.pickD (by k_mem) N6 News.nil
    case hS => exact TabSt.keep hS hP (keep170_of G F6)
    case off =>
      intro p hp
      simp only [List.mem_cons, List.not_mem_nil, or_false] at hp
      rcases hp with rfl
      exact ne_170 N6 (by k_mem) (by k_mem)
    case l => is_list
    case lx => exact ne_170 N6 (xs := #[.int a te]) (k := 0) (by k_mem) (by k_mem)
    case hI => first | exact row2_pos _ (by omega) (by omega) (by omega) | exact row2_zero (by omega)
    case le => is_list
    case lex => exact ne_170 N6 (xs := #[.int (n / 2) (tk + 1)]) (k := 0) (by k_mem) (by k_mem)
    case lm => is_list
    case lmx => exact ne_170 N6 (xs := #[.int n u]) (k := 0) (by k_mem) (by k_mem)
    case e0 => omega
    case e1 => omega
    case hu => simp only [units_deeper, ar_units]; omega
    intro r7 w7 k7 c7 h7 tk7 hI7 hc7 hn7 K7 F7 N7
    clear K7 hc7
    rcases hn7 with rfl | ⟨rfl, oc7, vs7, t7, d1, d2, n7⟩
    · have hcg : g.CodeRec (.ref c7) tq := TabSt.keep (S := some c7) hS hP (fun b o n e => G b o e (by simpa using n))
      (try dsimp only)
      (try k_unmd)
      k_fold
      k_steps
      · rename_i hz l9 h10 l10 D9 h9 F9 N9 l11 kF kN
        have hb : decide (rowI (a ^ (n / 2).toNat % n) = [R0.fmod n]) = decide (R0 ≠ 0 ∧ rowI (a ^ (n / 2).toNat % n) = [R0 % n]) := by rw [Int.fmod_eq_emod_of_nonneg _ (by omega)]; simp [hz]
        rw [hb] at kN
        exact ret D9 _ r7 w7 k7 c7 _ _ _ hI7 (hcg.keeps F9.keep) (.inl rfl) (keep170_of G F9) (off_own C.led G hoff (N9 (D9, _) (by k_mem)).2.2) (off_own C.led G hoff (N9 (r7, W.listOf w7.toArray k7) (by k_mem)).2.2) (fun e => nomatch e) kF (News.pickD (by k_mem) kN (News.pickD (by k_mem) kN (News.pickD (by k_mem) kN (News.keep170 C.led (keep170_of G F9) hoff))))
      · rename_i hz h10 D9 h9 F9 N9 l11 kF kN
        have hb : (R0 != 0) = decide (R0 ≠ 0 ∧ rowI (a ^ (n / 2).toNat % n) = [R0 % n]) := by have hz0 : R0 = 0 := (by first | exact hz | omega | simpa using hz); simp [hz0]
        rw [hb] at kN
        exact ret D9 _ r7 w7 k7 c7 _ _ _ hI7 (hcg.keeps F9.keep) (.inl rfl) (keep170_of G F9) (off_own C.led G hoff (N9 (D9, _) (by k_mem)).2.2) (off_own C.led G hoff (N9 (r7, W.listOf w7.toArray k7) (by k_mem)).2.2) (fun e => nomatch e) kF (News.pickD (by k_mem) kN (News.pickD (by k_mem) kN (News.pickD (by k_mem) kN (News.keep170 C.led (keep170_of G F9) hoff))))
    · have N7 := News.cons (a := c7) (o := oc7) (n7 _ (.head _)) N7
      (try dsimp only)
      (try k_unmd)
      k_fold
      k_steps
      · rename_i hz l9 h10 l10 D9 h9 F9 N9 l11 kF kN
        have hb : decide (rowI (a ^ (n / 2).toNat % n) = [R0.fmod n]) = decide (R0 ≠ 0 ∧ rowI (a ^ (n / 2).toNat % n) = [R0 % n]) := by rw [Int.fmod_eq_emod_of_nonneg _ (by omega)]; simp [hz]
        rw [hb] at kN
        exact ret D9 _ r7 w7 k7 c7 _ _ _ hI7 (⟨c7, oc7, vs7, t7, rfl, (kN (c7, oc7) (by k_mem)).1, d1, d2⟩) (.inr ⟨rfl, oc7, vs7, t7, d1, d2, News.pickD (by k_mem) kN News.nil⟩) (keep170_of G F9) (off_own C.led G hoff (N9 (D9, _) (by k_mem)).2.2) (off_own C.led G hoff (N9 (r7, W.listOf w7.toArray k7) (by k_mem)).2.2) (fun _ => off_own C.led G hoff (N9 (c7, oc7) (by k_mem)).2.2) kF (News.pickD (by k_mem) kN (News.pickD (by k_mem) kN (News.pickD (by k_mem) kN (News.keep170 C.led (keep170_of G F9) hoff))))
      · rename_i hz h10 D9 h9 F9 N9 l11 kF kN
        have hb : (R0 != 0) = decide (R0 ≠ 0 ∧ rowI (a ^ (n / 2).toNat % n) = [R0 % n]) := by have hz0 : R0 = 0 := (by first | exact hz | omega | simpa using hz); simp [hz0]
        rw [hb] at kN
        exact ret D9 _ r7 w7 k7 c7 _ _ _ hI7 (⟨c7, oc7, vs7, t7, rfl, (kN (c7, oc7) (by k_mem)).1, d1, d2⟩) (.inr ⟨rfl, oc7, vs7, t7, d1, d2, News.pickD (by k_mem) kN News.nil⟩) (keep170_of G F9) (off_own C.led G hoff (N9 (D9, _) (by k_mem)).2.2) (off_own C.led G hoff (N9 (r7, W.listOf w7.toArray k7) (by k_mem)).2.2) (fun _ => off_own C.led G hoff (N9 (c7, oc7) (by k_mem)).2.2) kF (News.pickD (by k_mem) kN (News.pickD (by k_mem) kN (News.pickD (by k_mem) kN (News.keep170 C.led (keep170_of G F9) hoff))))
  · rename_i hpos r0 _ _ _ _ _ _ _ R0 t0 _ _ hJ0 _ _ _ _ _ h6 F6 N6 l6
    rw [hfd] at N6
    unfold Hold
    refine' power_mod_spec (S := S) (a := a) (e := n / 2) (n := n) (wa := []) (news := [(r0, W.listOf #[] 0)]) (Cal.mk' (by k_asm) F6 (by k_asm) (by k_asm) ?N rfl rfl) ?d ?NO ?hS ?off ?l ?lx ?hI ?le ?lex ?lm ?lmx ha0 ha1 ?e0 ?e1 hn0 hn1 hw0 hw1 hsz ?hu ?_
    case N => exact News.pickD (by k_mem) N6 News.nil
    case d => dsimp only; omega
    case NO => exact News.pickD (by k_mem) N6 News.nil
    case hS => exact TabSt.keep hS hP (keep170_of G F6)
    case off =>
      intro p hp
      simp only [List.mem_cons, List.not_mem_nil, or_false] at hp
      rcases hp with rfl
      exact ne_170 N6 (by k_mem) (by k_mem)
    case l => is_list
    case lx => exact ne_170 N6 (xs := #[]) (k := 0) (by k_mem) (by k_mem)
    case hI => first | exact row2_pos _ (by omega) (by omega) (by omega) | exact row2_zero (by omega)
    case le => is_list
    case lex => exact ne_170 N6 (xs := #[.int (n / 2) (tk + 1)]) (k := 0) (by k_mem) (by k_mem)
    case lm => is_list
    case lmx => exact ne_170 N6 (xs := #[.int n u]) (k := 0) (by k_mem) (by k_mem)
    case e0 => omega
    case e1 => omega
    case hu => simp only [units_deeper, ar_units]; omega
    intro r7 w7 k7 c7 h7 tk7 hI7 hc7 hn7 K7 F7 N7
    clear K7 hc7
    rcases hn7 with rfl | ⟨rfl, oc7, vs7, t7, d1, d2, n7⟩
    · have hcg : g.CodeRec (.ref c7) tq := TabSt.keep (S := some c7) hS hP (fun b o n e => G b o e (by simpa using n))
      (try dsimp only)
      (try k_unmd)
      k_fold
      k_steps
      · rename_i hz l9 h10 l10 D9 h9 F9 N9 l11 kF kN
        have hb : decide (rowI (a ^ (n / 2).toNat % n) = [R0.fmod n]) = decide (R0 ≠ 0 ∧ rowI (a ^ (n / 2).toNat % n) = [R0 % n]) := by rw [Int.fmod_eq_emod_of_nonneg _ (by omega)]; simp [hz]
        rw [hb] at kN
        exact ret D9 _ r7 w7 k7 c7 _ _ _ hI7 (hcg.keeps F9.keep) (.inl rfl) (keep170_of G F9) (off_own C.led G hoff (N9 (D9, _) (by k_mem)).2.2) (off_own C.led G hoff (N9 (r7, W.listOf w7.toArray k7) (by k_mem)).2.2) (fun e => nomatch e) kF (News.pickD (by k_mem) kN (News.pickD (by k_mem) kN (News.pickD (by k_mem) kN (News.keep170 C.led (keep170_of G F9) hoff))))
      · rename_i hz h10 D9 h9 F9 N9 l11 kF kN
        have hb : (R0 != 0) = decide (R0 ≠ 0 ∧ rowI (a ^ (n / 2).toNat % n) = [R0 % n]) := by have hz0 : R0 = 0 := (by first | exact hz | omega | simpa using hz); simp [hz0]
        rw [hb] at kN
        exact ret D9 _ r7 w7 k7 c7 _ _ _ hI7 (hcg.keeps F9.keep) (.inl rfl) (keep170_of G F9) (off_own C.led G hoff (N9 (D9, _) (by k_mem)).2.2) (off_own C.led G hoff (N9 (r7, W.listOf w7.toArray k7) (by k_mem)).2.2) (fun e => nomatch e) kF (News.pickD (by k_mem) kN (News.pickD (by k_mem) kN (News.pickD (by k_mem) kN (News.keep170 C.led (keep170_of G F9) hoff))))
    · have N7 := News.cons (a := c7) (o := oc7) (n7 _ (.head _)) N7
      (try dsimp only)
      (try k_unmd)
      k_fold
      k_steps
      · rename_i hz l9 h10 l10 D9 h9 F9 N9 l11 kF kN
        have hb : decide (rowI (a ^ (n / 2).toNat % n) = [R0.fmod n]) = decide (R0 ≠ 0 ∧ rowI (a ^ (n / 2).toNat % n) = [R0 % n]) := by rw [Int.fmod_eq_emod_of_nonneg _ (by omega)]; simp [hz]
        rw [hb] at kN
        exact ret D9 _ r7 w7 k7 c7 _ _ _ hI7 (⟨c7, oc7, vs7, t7, rfl, (kN (c7, oc7) (by k_mem)).1, d1, d2⟩) (.inr ⟨rfl, oc7, vs7, t7, d1, d2, News.pickD (by k_mem) kN News.nil⟩) (keep170_of G F9) (off_own C.led G hoff (N9 (D9, _) (by k_mem)).2.2) (off_own C.led G hoff (N9 (r7, W.listOf w7.toArray k7) (by k_mem)).2.2) (fun _ => off_own C.led G hoff (N9 (c7, oc7) (by k_mem)).2.2) kF (News.pickD (by k_mem) kN (News.pickD (by k_mem) kN (News.pickD (by k_mem) kN (News.keep170 C.led (keep170_of G F9) hoff))))
      · rename_i hz h10 D9 h9 F9 N9 l11 kF kN
        have hb : (R0 != 0) = decide (R0 ≠ 0 ∧ rowI (a ^ (n / 2).toNat % n) = [R0 % n]) := by have hz0 : R0 = 0 := (by first | exact hz | omega | simpa using hz); simp [hz0]
        rw [hb] at kN
        exact ret D9 _ r7 w7 k7 c7 _ _ _ hI7 (⟨c7, oc7, vs7, t7, rfl, (kN (c7, oc7) (by k_mem)).1, d1, d2⟩) (.inr ⟨rfl, oc7, vs7, t7, d1, d2, News.pickD (by k_mem) kN News.nil⟩) (keep170_of G F9) (off_own C.led G hoff (N9 (D9, _) (by k_mem)).2.2) (off_own C.led G hoff (N9 (r7, W.listOf w7.toArray k7) (by k_mem)).2.2) (fun _ => off_own C.led G hoff (N9 (c7, oc7) (by k_mem)).2.2) kF (News.pickD (by k_mem) kN (News.pickD (by k_mem) kN (News.pickD (by k_mem) kN (News.keep170 C.led (keep170_of G F9) hoff))))


end
end
section
open PySem PySem.W PyProof.Rows PySem.Calls
set_option maxRecDepth 100000
theorem top_C17 : True := by
  w_top off
  trivial

def KeepBut (a : Addr) (h h' : Heap) : Prop := ∀ b o, b ≠ a → h.get? b = some o → h'.get? b = some o
theorem keepBut_of {h g h' : Heap} {L a : Addr} {m : Str → Option Value} (G : GSub h g [a]) (F : Fr g L h' m) : KeepBut a h h' := fun b o n e => F.keep _ _ (G b o e (by simpa using n))
theorem News.upd {h₀ h h' : Heap} {L a : Addr} {o o' : Obj} {news : List (Addr × Obj)} {gf : Obj → List (Addr × Obj)} (N : News h₀ L h news) (U : UpdF a o news gf) (k : KeepBut a h h') (N' : News h₀ L h' [(a, o')]) : News h₀ L h' (gf o') := by
  obtain ⟨own, rest, rfl, hg, h1, h2⟩ := U.split
  intro p hp
  rw [hg] at hp
  rcases List.mem_append.mp hp with hp | hp
  · exact ⟨k _ _ (h1 p hp) (N p (List.mem_append_left _ hp)).1, (N p (List.mem_append_left _ hp)).2⟩
  · rcases List.mem_cons.mp hp with rfl | hp
    · exact N' _ (.head _)
    · exact ⟨k _ _ (h2 p hp) (N p (List.mem_append_right _ (.tail _ hp))).1, (N p (List.mem_append_right _ (.tail _ hp))).2⟩
theorem News.own {h₀ h : Heap} {L a : Addr} {o : Obj} {news : List (Addr × Obj)} {gf : Obj → List (Addr × Obj)} (N : News h₀ L h news) (U : UpdF a o news gf) : News h₀ L h [(a, o)] := by
  obtain ⟨own, rest, rfl, hg, h1, h2⟩ := U.split
  intro p hp
  rcases List.mem_cons.mp hp with rfl | hp
  · exact N _ (List.mem_append_right _ (.head _))
  · cases hp

theorem kw_20 : True := by
  k_with_none
  k_with "execs cons" => (focus (dsimp only at *))
  k_with "LeaveK" => (focus (refine' leaveK_ ?_ ?_ ?_; walk_at "pp"; (· k_asm); walk_at "pp"; (· first | k_asm | exact News.nil); walk_at "pp"; intro _ _; (try dsimp only)))
  trivial
set_option maxHeartbeats 4000000 in
theorem nut_spec {prog : Program} {w : World} {dp un : Nat} {gd : Option (List Code)} {env : Env} {outer : List Env} {h₀ : Heap} {L : Addr} {m : Str → Option Value} {news : List (Addr × Obj)} {s : Shared} {Q E : Value → Shared → Prop} {lb ln : Addr} {c many : Int} {tc tm : Tok} {kb : Nat} {wn : List Value} {ns : List Int} {gf : Obj → List (Addr × Obj)}
    (C : Cal w env outer h₀ L m news s.heap) (hd : dp + 3 < recursionLimit) (U : UpdF lb (W.listOf #[.int c tc, .ref ln] kb) news gf) (hln : s.heap.IsList ln wn.toArray) (hne : ln ≠ lb) (hI : IntsAre wn ns) (hfit : ns.length ≤ 63) (hc0 : 0 ≤ c) (hc1 : c < 20) (hm : 0 < many)
    (ret : ∀ r t' tc' kb' h' tk', 0 ≤ r → r < many → Fr h₀ L h' m → KeepBut lb s.heap h' → News h₀ L h' (gf (W.listOf #[.int (c + 1) tc', .ref ln] kb')) → Q (.int r t') { s with heap := h', toks := tk' }) :
    wpAny (model prog w) (AR dp un gd env outer) (call (.ref 238) [.ref lb, .int many tm]) Q E s := by
  have NO := News.own C.led U
  refine wpAny_call ?_
  k_dflt (refine' enterO [(lb, W.listOf #[.int c tc, .ref ln] kb)] C NO ?k6 ?k7 ?k8 ?k9 ?kB ?_ ?c2 ?c3 ?c4 ?c5; (case k6 => k_is); (case k7 => k_is); (case k8 => nest_cls); (case k9 => exact BindsTo.of_eq rfl); (case c5 => decide); (case kB => exact locs rfl); (case c2 => exact rfl); (case c3 => exact rfl); (case c4 => exact rfl); k_whole)
  intro g L' h₁ base p loose mean mg mb F N B X T G
  have gln := GSub.list G hln (by simpa using hne)
  (try dsimp only [List.map_cons, List.map_nil] at G)
  dsimp only
  (try k_unmd)
  k_fold
  k_steps
  all_goals (
    rename_i kF kN
    rename Fr g _ _ _ => F9
    exact ret _ _ _ _ _ _ (by rw [Int.fmod_eq_emod_of_nonneg _ (by omega)]; exact Int.emod_nonneg _ (by omega)) (by rw [Int.fmod_eq_emod_of_nonneg _ (by omega)]; exact Int.emod_lt_of_pos _ hm) kF (keepBut_of G F9) (News.upd C.led U (keepBut_of G F9) kN))

structure GS where
  one : Int
  t1 : Tok
  other : Int
  t2 : Tok
theorem gcd_turn {a b : Int} (ha : 0 ≤ a) (hb : 0 ≤ b) : Nat.gcd b.toNat (a % b).toNat = Nat.gcd a.toNat b.toNat := by
  rw [Int.toNat_emod ha hb, Nat.gcd_comm a.toNat b.toNat, Nat.gcd_rec b.toNat a.toNat, Nat.gcd_comm]


theorem kw_21 : True := by
  k_with_none
  k_with "execs cons" => (focus (dsimp only at *))
  k_with "LeaveK" => (focus (refine' leaveK_ ?_ ?_ ?_; walk_at "pp"; (· k_asm); walk_at "pp"; (· first | k_asm | exact News.nil); walk_at "pp"; intro _ _; (try dsimp only)))
  k_with "exec While" => (focus (refine Hold.intro ?_))
  k_with "exec While Compare" => (focus (refine Hold.intro ?_))
  k_with "exec While Compare cons nil" => (focus (refine Hold.intro ?_))
  k_with "KswEnd" => (focus (refine Hold.intro ?_))
  k_with "InvEndN" => (focus (refine Hold.intro ?_))
  trivial
set_option maxHeartbeats 4000000 in
theorem common_spec {prog : Program} {w : World} {dp un : Nat} {gd : Option (List Code)} {env : Env} {outer : List Env} {h₀ : Heap} {L : Addr} {m : Str → Option Value} {news : List (Addr × Obj)} {s : Shared} {Q E : Value → Shared → Prop} {a b : Int} {ta tb : Tok}
    (C : Cal w env outer h₀ L m news s.heap) (hd : dp + 2 < recursionLimit) (ha : 0 ≤ a) (hb : 0 ≤ b)
    (ret : ∀ v t' h' tk', v = (Nat.gcd a.toNat b.toNat : Int) → Fr h₀ L h' m → News h₀ L h' news → Q (.int v t') { s with heap := h', toks := tk' }) :
    wpAny (model prog w) (AR dp un gd env outer) (call (.ref 245) [.int a ta, .int b tb]) Q E s := by
  refine wpAny_call ?_
  k_dflt (refine' enter C ?k6 ?k7 ?k8 ?k9 ?kB ?_ ?c2 ?c3 ?c4 ?c5; (case k6 => k_is); (case k7 => k_is); (case k8 => nest_cls); (case k9 => exact BindsTo.of_eq rfl); (case c5 => decide); (case kB => exact locs rfl); (case c2 => exact rfl); (case c3 => exact rfl); (case c4 => exact rfl); k_whole)
  intro L' h₁ base p loose mean mg mb F N B X T
  dsimp only
  k_fold
  k_steps
  unfold Hold
  refine' ksw_while (fun c : GS => []) (fun c => [(Str.ofString "one", .int c.one c.t1), (Str.ofString "other", .int c.other c.t2)]) (fun _ => True) []
    (fun c => 0 ≤ c.one ∧ 0 ≤ c.other ∧ Nat.gcd c.one.toNat c.other.toNat = Nat.gcd a.toNat b.toNat) (fun c => c.other.toNat)
    ⟨a, ta, b, tb⟩ F N trivial ?hk ?hP ?turn
  case hk =>
    intro p hp
    simp only [List.mem_cons, List.not_mem_nil, or_false] at hp
    rcases hp with rfl | rfl <;> rfl
  case hP => exact ⟨ha, hb, rfl⟩
  case turn =>
    rintro ⟨one, t1, other, t2⟩ u' h tk _ ⟨h0, h1, hg⟩ F2 N2
    dsimp only at h0 h1 hg F2 N2
    (try k_unmd)
    (try k_fold)
    k_steps
    · rename_i hpo _ _ _ _ _ _ _ _ _
      have ef : one.fmod other = one % other := Int.fmod_eq_emod_of_nonneg _ (by omega)
      have e0 := Int.emod_nonneg one (show other ≠ 0 by omega)
      have e1 := Int.emod_lt_of_pos one hpo
      unfold Hold
      refine' ksw_end ⟨_, _, _, _⟩ (by assumption) (by assumption) ?hn trivial ?hk ?hr ?hp ?hm
      case hk =>
        intro p hp
        simp only [List.mem_cons, List.not_mem_nil, or_false] at hp
        rcases hp with rfl | rfl <;> rfl
      case hn =>
        intro p hp
        cases hp
      case hr =>
        intro z hz hs
        have z1 : z ≠ Str.ofString "one" := hz _ (.head _)
        have z2 : z ≠ Str.ofString "other" := hz _ (.tail _ (.head _))
        simp only [kstB, if_neg z1, if_neg z2, List.contains_nil, Bool.false_eq_true, if_false]
        try rfl
      case hp =>
        refine ⟨by dsimp only; omega, by dsimp only; omega, ?_⟩
        dsimp only
        rw [ef, gcd_turn h0 h1]
        exact hg
      case hm => dsimp only; omega
    · rename_i hz kF kN
      have e0 : other = 0 := by omega
      subst e0
      rw [Int.toNat_zero, Nat.gcd_zero_right] at hg
      exact ret _ _ _ _ (by omega) kF (C.old F2)

end
local macro_rules | `(tactic| walk_at "call builtin:len") => `(tactic| (k_here; (with_reducible show wpAny _ _ (call (Value.builtin "len") [Value.ref _]) _ _ _); (with_unfolding_all refine' len_list (items := List.toArray _) ?k1 ?k2 ?_; (case k1 => is_list); (case k2 => (rw [List.size_toArray]; omega)); k_whole); (try simp only [List.size_toArray])))
section
open PySem PySem.W PyProof.Rows PySem.Calls
set_option maxRecDepth 100000
theorem top_C18 : True := by
  w_top off
  trivial
theorem comp_ind {prog : Program} {w : World} {A : Around} {h₀ : Heap} {L : Addr} {m : Str → Option Value} {env : Env} {ct elt : PySem.Expr} {x : Str} {scope : Scope} {cl : List (Str × Addr)} {s : Shared} {S : List (Addr × Obj) → Prop} {P : Nat → Value → Prop}
    {Fin : List Value → List (Addr × Obj) → Prop} (Inv : Nat → List Value → List (Addr × Obj) → Prop) (n : Nat) (hfin : ∀ ys news, Inv n ys news → Fin ys news)
    (turn : ∀ i ys news, i < n → Inv i ys news → ∀ v I oI C oC D m₂ h tk (E' : Value → Shared → Prop), P i v → LCg.NsObj oC m₂ → m₂ x = some v → Fr h₀ L h m → News h₀ L h ((I, oI) :: (C, oC) :: (D, LCg.lst ys) :: news) → LCg.Off3 I C D news → ((@Ne Nat I C) ∧ (@Ne Nat I D) ∧ (@Ne Nat C D)) →
      wpAny (model prog w) A (isTrue ct (compEnvC scope cl C env) (eval ct (compEnvC scope cl C env))) (fun ok s' => if ok = true then
        wpAny (model prog w) A (eval elt (compEnvC scope cl C env)) (LCg.CompEnd h₀ L m { s with heap := h, toks := tk } I oI C oC D (LCg.lst ys) S (fun y news' => Inv (i + 1) (ys ++ [y]) news')) E' s'
        else LCg.CompEnd h₀ L m { s with heap := h, toks := tk } I oI C oC D (LCg.lst ys) S (fun _ news' => Inv (i + 1) ys news') Value.none s') E' { s with heap := h, toks := tk }) :
    ∀ k i ys news, i + k = n → Inv i ys news → LCt.CompRestT prog w A h₀ L m env ct elt x scope cl s S P Fin k i ys news := by
  intro k
  induction k with
  | zero =>
    intro i ys news e hi
    refine LCt.CompRestT.zero (hfin _ _ ?_)
    rw [← e]; exact hi
  | succ k ih =>
    intro i ys news e hi
    refine LCt.CompRestT.succ fun v I oI C oC D m₂ h tk E' a1 a2 a3 a4 a5 a6 a7 => ?_
    refine wpAny_mono (turn i ys news (by omega) hi v I oI C oC D m₂ h tk E' a1 a2 a3 a4 a5 a6 a7) (fun ok s' hk => ?_) fun _ _ z => z
    cases ok with
    | true =>
      simp only [if_true] at hk ⊢
      refine wpAny_mono hk (fun y s'' hz => ?_) fun _ _ z => z
      obtain ⟨h', tk', news', e1, e2, e3, e4, e5, e6⟩ := hz
      exact ⟨h', tk', news', e1, e2, e3, e4, e5, ih _ _ _ (by omega) e6⟩
    | false =>
      simp only [Bool.false_eq_true, if_false] at hk ⊢
      obtain ⟨h', tk', news', e1, e2, e3, e4, e5, e6⟩ := hk
      exact ⟨h', tk', news', e1, e2, e3, e4, e5, ih _ _ _ (by omega) e6⟩

def lemC (a n : Int) (i : Nat) : Nat := ((List.range i).filter fun j : Nat => decide (n / 2 < (1 + (j : Int)) * a % n)).length
def lemS (a n : Int) : Int := if 1 < Nat.gcd a.toNat n.toNat then 0 else if lemC a n ((n + 1) / 2 - 1).toNat % 2 = 0 then 1 else -1
theorem sizeLine_big : 1000 ≤ sizeLine := by decide
theorem lemC_succ (a n : Int) (i : Nat) : lemC a n (i + 1) = lemC a n i + (if n / 2 < (1 + (i : Int)) * a % n then 1 else 0) := by
  unfold lemC
  rw [List.range_succ, List.filter_append, List.length_append]
  congr 1
  simp only [List.filter_cons, List.filter_nil, decide_eq_true_eq]
  split <;> rfl

theorem kw_22 : True := by
  k_with_none
  k_with "execs cons" => (focus (dsimp only at *))
  k_with "call ref" => (focus (k_here; (with_reducible show wpAny _ _ (call (Value.ref 245) _) _ _ _); k_dflt ((refine' common_spec ?_ ?_ ?_ ?_ ?_; walk_at "pp"; (· kat_tups); walk_at "pp"; (· nest_cls); walk_at "pp"; (· kaf_pre); walk_at "pp"; (· kaf_pre); walk_at "pp")); intro _ _ _ _ hv' _ _; subst hv'; (try dsimp only)))
  k_with "eval ListComp" => (focus (k_here; lct_look; lcg_calm; k_dflt (refine LCt.ListComp_T (F₀ := by k_asm) (by with_unfolding_all rfl) (by decide) (by rfl) (by decide) (by rfl) ?_)))
  k_with "CompEnd" => (focus (refine Hold.intro ?_))
  k_with "CompSrcT" => (focus (refine Hold.intro ?_))
  k_with "FinE" => (focus ((unfold LCg.FinE); intro _ _ _ _ N' o1'; clear o1'; (try dsimp only [List.nil_append, List.cons_append] at N'); revert N'; intro _; (try dsimp only)))
  k_with "LeaveK" => (focus (refine' leaveK_ ?_ ?_ ?_; walk_at "pp"; (· k_asm); walk_at "pp"; (· first | k_asm | exact News.nil); walk_at "pp"; intro _ _; (try dsimp only)))
  trivial
set_option maxHeartbeats 4000000 in
theorem lemma_spec {prog : Program} {w : World} {dp un : Nat} {gd : Option (List Code)} {env : Env} {outer : List Env} {h₀ : Heap} {L : Addr} {m : Str → Option Value} {news : List (Addr × Obj)} {s : Shared} {Q E : Value → Shared → Prop} {a n : Int} {ta tn : Tok}
    (C : Cal w env outer h₀ L m news s.heap) (hd : dp + 5 < recursionLimit) (ha : 0 ≤ a) (ha1 : a < n) (hn0 : 1 < n) (hn1 : n < 512)
    (ret : ∀ v t' h' tk', v = lemS a n → Fr h₀ L h' m → News h₀ L h' news → Q (.int v t') { s with heap := h', toks := tk' }) :
    wpAny (model prog w) (AR dp un gd env outer) (call (.ref 250) [.int a ta, .int n tn]) Q E s := by
  refine wpAny_call ?_
  k_dflt (refine' enterC C ?k6 ?k7 ?k8 ?k9 ?kB ?kD ?_ ?c2 ?c3 ?c4; (case k6 => k_is); (case k7 => k_is); (case k8 => nest_cls); (case k9 => exact BindsTo.of_eq rfl); (case kB => exact rfl); (case kD => decide +kernel); (case c2 => exact rfl); (case c3 => exact rfl); (case c4 => exact rfl); k_whole)
  intro L' h₁ tk cells base p loose mean mg mb F N Y B X T
  k_cells Y
  (try simp only [List.cons_append, List.nil_append] at N)
  dsimp only
  (try k_unmd)
  k_fold
  k_steps
  · rename_i t0 h5 tk5 F5 N5 hg kF kN
    exact ret _ _ _ _ (by unfold lemS; rw [if_pos (by omega)]) kF (C.old F5)
  · rename_i o1 o2 d1 d2 t0 h5 tk5 F5 N5 hg h9 tk9 t1 u1 v1 hr F9 N9 k9
    have ef : (n + 1).fdiv 2 = (n + 1) / 2 := Int.fdiv_eq_ediv_of_nonneg _ (by omega)
    have hcl : ∀ i, lemC a n i ≤ i := fun i => by unfold lemC; exact Nat.le_trans (List.length_filter_le _ _) (by simp)
    rw [ef] at hr
    unfold Hold
    refine LCt.CompSrcT.range (by rfl) F9 N9 hr (small_one (by omega) (by omega) (by omega) (by omega)) (rangeSize_nat _ _) (by have := sizeLine_big; omega) ?_
    intro g'
    refine comp_ind (fun i ys news => news = [(L' + 1 + 1, o1), (L' + 1, o2)] ∧ ys.length = lemC a n i) _ ?fin ?turn _ 0 [] _ (Nat.zero_add _) ⟨rfl, rfl⟩
    case fin =>
      rintro ys news ⟨rfl, hl⟩
      have hcl2 := hcl ((n + 1) / 2 - 1).toNat
      clear F9 N9 F5 N5
      k_steps
      · rename_i D8 h7 tk7 o8 h8 F8 N8 hp kF kN
        have hm : lemC a n ((n + 1) / 2 - 1).toNat % 2 = 0 := by rw [← hl]; rw [Int.fmod_eq_emod_of_nonneg _ (by decide)] at hp; omega
        exact ret _ _ _ _ (by unfold lemS; rw [if_neg (by omega), if_pos hm]) kF (C.old F8)
      · rename_i D8 h7 tk7 o8 h8 F8 N8 hp kF kN
        have hm : ¬ lemC a n ((n + 1) / 2 - 1).toNat % 2 = 0 := by rw [← hl]; rw [Int.fmod_eq_emod_of_nonneg _ (by decide)] at hp; omega
        exact ret _ _ _ _ (by unfold lemS; rw [if_neg (by omega), if_neg hm]; rfl) kF (C.old F8)
    case turn =>
      rintro i ys news hi ⟨rfl, hl⟩ v I oI C oC D m₂ h tk E' ⟨t9, rfl⟩ hC hx F' N' off -
      skip
      clear F9 N9 F5 N5
      (try k_unmd)
      (try k_fold)
      k_steps
      all_goals (
        rename_i hq
        rw [Int.fmod_eq_emod_of_nonneg _ (by omega), Int.fdiv_eq_ediv_of_nonneg _ (by decide)] at hq
        unfold Hold
        refine LCg.CompEnd.intro F' N' [(L' + 1 + 1, o1), (L' + 1, o2)] (fun p hp => hp) off trivial ⟨rfl, ?_⟩)
      · rw [List.length_append, hl, lemC_succ, if_pos hq]; rfl
      · rw [hl, lemC_succ, if_neg hq]; rfl

end
section
open PySem PySem.W PyProof.Rows PySem.Calls
set_option maxRecDepth 100000
theorem top_C19 : True := by
  w_top off
  trivial

def primL (n : Int) : Nat → List Bool
  | 0 => []
  | i + 1 => if (2 + (i : Int)) * (2 + (i : Int)) ≤ n then primL n i ++ [n % (2 + (i : Int)) != 0] else primL n i
def primB (n : Int) : Bool := (primL n 16).all id
theorem bools_snoc {vs : List Value} {bs : List Bool} (h : LSm.BoolsAre vs bs) (b : Bool) : LSm.BoolsAre (vs ++ [.bool b]) (bs ++ [b]) := by
  induction h with
  | nil => exact .cons _ .nil
  | cons c _ ih => exact .cons _ ih
local macro_rules | `(tactic| walk_at "call builtin:all") => `(tactic| (k_here; (with_reducible show wpAny _ _ (call (Value.builtin "all") [Value.ref _]) _ _ _); (rename LSm.BoolsAre _ _ => hBo); k_dflt (refine LSm.all_bools (by k_asm) (by k_asm) (by rfl) (by lsm_list) hBo ?_); intro h' tk' F' N'))

theorem kw_23 : True := by
  k_with_none
  k_with "execs cons" => (focus (dsimp only at *))
  k_with "call ref" => (focus (k_here; (with_reducible show wpAny _ _ (call (Value.ref 245) _) _ _ _); k_dflt ((refine' common_spec ?_ ?_ ?_ ?_ ?_; walk_at "pp"; (· kat_tups); walk_at "pp"; (· nest_cls); walk_at "pp"; (· kaf_pre); walk_at "pp"; (· kaf_pre); walk_at "pp")); intro _ _ _ _ hv' _ _; subst hv'; (try dsimp only)))
  k_with "eval ListComp" => (focus (k_here; lct_look; lcg_calm; k_dflt (refine LCt.ListComp_T (F₀ := by k_asm) (by with_unfolding_all rfl) (by decide) (by rfl) (by decide) (by rfl) ?_)))
  k_with "CompEnd" => (focus (refine Hold.intro ?_))
  k_with "CompSrcT" => (focus (refine Hold.intro ?_))
  k_with "LeaveK" => (focus (refine' leaveK_ ?_ ?_ ?_; walk_at "pp"; (· k_asm); walk_at "pp"; (· first | k_asm | exact News.nil); walk_at "pp"; intro _ _; (try dsimp only)))
  trivial
set_option maxHeartbeats 4000000 in
theorem is_prime_spec {prog : Program} {w : World} {dp un : Nat} {gd : Option (List Code)} {env : Env} {outer : List Env} {h₀ : Heap} {L : Addr} {m : Str → Option Value} {news : List (Addr × Obj)} {s : Shared} {Q E : Value → Shared → Prop} {n : Int} {tn : Tok}
    (C : Cal w env outer h₀ L m news s.heap) (hd : dp + 5 < recursionLimit) (hn0 : 1 < n) (hn1 : n < 512)
    (ret : ∀ h' tk', Fr h₀ L h' m → News h₀ L h' news → Q (.bool (primB n)) { s with heap := h', toks := tk' }) :
    wpAny (model prog w) (AR dp un gd env outer) (call (.ref 262) [.int n tn]) Q E s := by
  refine wpAny_call ?_
  k_dflt (refine' enterC C ?k6 ?k7 ?k8 ?k9 ?kB ?kD ?_ ?c2 ?c3 ?c4; (case k6 => k_is); (case k7 => k_is); (case k8 => nest_cls); (case k9 => exact BindsTo.of_eq rfl); (case kB => exact rfl); (case kD => decide +kernel); (case c2 => exact rfl); (case c3 => exact rfl); (case c4 => exact rfl); k_whole)
  intro L' h₁ tk cells base p loose mean mg mb F N Y B X T
  k_cells Y
  (try simp only [List.cons_append, List.nil_append] at N)
  dsimp only
  (try k_unmd)
  k_fold
  k_steps
  rename_i o1 d1 N0 h9 tk9 t1 u1 v1 hr F9 N9 k9
  unfold Hold
  refine LCt.CompSrcT.range (by rfl) F9 N9 hr (small_one (by omega) (by omega) (by omega) (by omega)) (rangeSize_nat _ _) (by decide) ?_
  intro g'
  refine comp_ind (fun i ys news => news = [(L' + 1, o1)] ∧ LSm.BoolsAre ys (primL n i)) _ ?fin ?turn _ 0 [] _ (Nat.zero_add _) ⟨rfl, .nil⟩
  case fin =>
    rintro ys news ⟨rfl, hl⟩
    clear F9 N9 N0
    k_steps
    rename_i F8 N8 kF kN
    exact ret _ _ kF (C.old F8)
  case turn =>
    rintro i ys news hi ⟨rfl, hl⟩ v I oI C oC D m₂ h tk E' ⟨t9, rfl⟩ hC hx F' N' off -
    have hi2 : i < 16 := hi
    skip
    clear F9 N9 N0
    (try k_unmd)
    (try k_fold)
    k_steps
    all_goals (
      rename_i hq
      unfold Hold
      refine LCg.CompEnd.intro F' N' [(L' + 1, o1)] (fun p hp => hp) off trivial ⟨rfl, ?_⟩)
    · show LSm.BoolsAre _ (if _ then _ else _)
      rw [if_pos hq, ← Int.fmod_eq_emod_of_nonneg n (show (0 : Int) ≤ 2 + (i : Int) by omega)]
      exact bools_snoc hl _
    · show LSm.BoolsAre _ (if _ then _ else _)
      rw [if_neg hq]
      exact hl

end
section
open PySem PySem.W PyProof.Rows PySem.Calls
set_option maxRecDepth 100000
theorem top_C20 : True := by
  w_top off
  trivial

def goodB (n a : Int) : Bool := decide (lemS a n ≠ 0 ∧ rowI (a ^ (n / 2).toNat % n) = [lemS a n % n])
def goodL (n : Int) : Nat → List Bool
  | 0 => []
  | i + 1 => if Nat.gcd (1 + (i : Int)).toNat n.toNat = 1 then goodL n i ++ [goodB n (1 + (i : Int))] else goodL n i
def cntT (bs : List Bool) (i : Nat) : Nat := ((bs.take i).filter id).length
def countedB (n : Int) : Bool := if primB n = true then decide (cntT (goodL n (n - 1).toNat) (goodL n (n - 1).toNat).length = (goodL n (n - 1).toNat).length) else decide (2 * cntT (goodL n (n - 1).toNat) (goodL n (n - 1).toNat).length ≤ (goodL n (n - 1).toNat).length)
theorem goodL_le (n : Int) : ∀ i, (goodL n i).length ≤ i
  | 0 => Nat.le_refl _
  | i + 1 => by
    have := goodL_le n i
    unfold goodL
    split
    · simp; omega
    · omega
theorem cntT_succ {bs : List Bool} {i : Nat} {b : Bool} (h : bs[i]? = some b) : cntT bs (i + 1) = cntT bs i + (if b = true then 1 else 0) := by
  unfold cntT
  rw [List.take_add_one, h, List.filter_append, List.length_append]
  cases b <;> rfl
theorem cntT_le (bs : List Bool) (i : Nat) : cntT bs i ≤ bs.length := Nat.le_trans (List.length_filter_le _ _) (by rw [List.length_take]; omega)
theorem lemS_lo (a n : Int) : -1 ≤ lemS a n := by unfold lemS; split <;> (try split) <;> omega
theorem lemS_hi (a n : Int) : lemS a n ≤ 1 := by unfold lemS; split <;> (try split) <;> omega

theorem kw_24 : True := by
  k_with_none
  k_with "execs cons" => (focus (dsimp only at *))
  k_with "call ref" => (focus (k_here; (with_reducible show wpAny _ _ (call (Value.ref 245) _) _ _ _); k_dflt ((refine' common_spec ?_ ?_ ?_ ?_ ?_; walk_at "pp"; (· kat_tups); walk_at "pp"; (· nest_cls); walk_at "pp"; (· kaf_pre); walk_at "pp"; (· kaf_pre); walk_at "pp")); intro _ _ _ _ hv' _ _; subst hv'; (try dsimp only)))
  k_with "eval ListComp" => (focus (k_here; lct_look; lcg_calm; k_dflt (refine LCt.ListComp_T (F₀ := by k_asm) (by with_unfolding_all rfl) (by decide) (by rfl) (by decide) (by rfl) ?_)))
  k_with "exec Assign cons ListComp" => (focus (k_here; lct_look; lcg_calm; k_dflt (refine LCt.Assign_ListComp_T (F₀ := by k_asm) (by rfl) (by with_unfolding_all rfl) (by with_unfolding_all rfl) (by decide) (by rfl) (by decide) (by rfl) (by rfl) (by rfl) ?_)))
  k_with "CompEnd" => (focus (refine Hold.intro ?_))
  k_with "CompSrcT" => (focus (refine Hold.intro ?_))
  k_with "FinE" => (focus ((unfold LCg.FinE); intro _ _ _ _ N' o1'; clear o1'; (try dsimp only [List.nil_append, List.cons_append] at N'); revert N'; intro _; (try dsimp only)))
  k_with "LeaveK" => (focus (refine' leaveK_ ?_ ?_ ?_; walk_at "pp"; (· k_asm); walk_at "pp"; (· first | k_asm | exact News.nil); walk_at "pp"; intro _ _; (try dsimp only)))
  k_with "call ref" => (focus (k_here; (with_reducible show wpAny _ _ (call (Value.ref 257) _) _ _ _); refine Hold.intro ?_))
  k_with "call ref" => (focus (k_here; (with_reducible show wpAny _ _ (call (Value.ref 262) _) _ _ _); k_dflt ((refine' is_prime_spec ?_ ?_ ?_ ?_ ?_; walk_at "pp"; (· kat_tups); walk_at "pp"; (· nest_cls); walk_at "pp"; (· kaf_pre); walk_at "pp"; (· kaf_pre); walk_at "pp")); intro _ _ _ _; (try dsimp only)))
  trivial
set_option maxHeartbeats 4000000 in
theorem counted_spec {prog : Program} {w : World} {dp un : Nat} {gd : Option (List Code)} {env : Env} {outer : List Env} {h₀ : Heap} {L : Addr} {m : Str → Option Value} {news : List (Addr × Obj)} {s : Shared} {Q E : Value → Shared → Prop} {n size wd : Int} {c : Addr} {u v t : Tok}
    (C : Cal w env outer h₀ L m news s.heap) (hd : dp + 21 < recursionLimit) (NO : News h₀ L s.heap [(170, tabObj (tabOf (some c)))]) (hS : TabSt (some c) s.heap) (hJ : ∀ a, 0 ≤ a → a < n → Jac 1 (a % n) n (lemS a n)) (hn0 : 1 < n) (hn1 : n < 512) (ho : n % 2 = 1) (hw0 : 9 ≤ wd) (hw1 : wd < 12) (hsz : size = 1 ∨ size = 2 ∨ size = 3) (hu : un + 400 < cLine)
    (ret : ∀ h' tk', Fr h₀ L h' m → News h₀ L h' [(170, tabObj (tabOf (some c)))] → Q (.bool (countedB n)) { s with heap := h', toks := tk' }) :
    wpAny (model prog w) (AR dp un gd env outer) (call (.ref 267) [.int n u, .int size v, .int wd t]) Q E s := by
  refine wpAny_call ?_
  k_dflt (refine' enterOC [(170, tabObj (tabOf (some c)))] C NO ?k6 ?k7 ?k8 ?k9 ?kB ?kD ?_ ?c2 ?c3 ?c4; (case k6 => k_is); (case k7 => k_is); (case k8 => nest_cls); (case k9 => exact BindsTo.of_eq rfl); (case kB => exact rfl); (case kD => decide +kernel); (case c2 => exact rfl); (case c3 => exact rfl); (case c4 => exact rfl); k_whole)
  intro g L' h₁ tk cells base p loose mean mg mb F N Y B X T G l0
  have hcg : g.CodeRec (.ref c) tq := TabSt.keep (S := some c) hS (NO _ (.head _)).1 (fun b o n e => G b o e (by simpa using n))
  (try dsimp only [List.map_cons, List.map_nil] at G)
  k_cells Y
  (try simp only [List.cons_append, List.nil_append] at N)
  dsimp only
  (try k_unmd)
  k_fold
  k_lt l0
  k_steps
  rename_i o1 o2 o3 d1 d2 d3 N0 h9 tk9 t1 u1 v1 hr F9 N9 k9
  unfold Hold
  refine LCt.CompSrcT.range (by rfl) F9 N9 hr (small_one (by omega) (by omega) (by omega) (by omega)) (rangeSize_nat _ _) (by have := sizeLine_big; omega) ?_
  intro g'
  refine comp_ind (fun i ys news => news = [(L' + 1 + 1 + 1, o1), (L' + 1 + 1, o2), (L' + 1, o3), (170, tabObj (tabOf (some c)))] ∧ LSm.BoolsAre ys (goodL n i)) _ ?fin ?turn _ 0 [] _ (Nat.zero_add _) ⟨rfl, .nil⟩
  case turn =>
    rintro i ys news hi ⟨rfl, hl⟩ v9 I oI C9 oC D m₂ h tk E' ⟨t9, rfl⟩ hC hx F' N' off -
    have hi2 : 1 + (i : Int) < n := by omega
    skip
    clear F9 N9 N0
    (try k_unmd)
    (try k_fold)
    k_steps
    · rename_i cE1 t0 h6 tk6 F6 N6 hg cE2
      obtain ⟨_, _, _, ⟨a1, a2, a3⟩, _⟩ := id off
      unfold Hold
      refine' told_spec (S := some c) (R := lemS (1 + (i : Int)) n) (news := [(I, oI), (C9, oC), (D, LCg.lst ys), (L' + 1 + 1 + 1, o1), (L' + 1 + 1, o2), (L' + 1, o3)]) (Cal.mk' (by k_asm) F6 (by k_asm) (by k_asm) ?N rfl rfl) ?d ?NO ?hS ?off (by omega) hi2 hn0 hn1 ho (hJ _ (by omega) hi2) (lemS_lo _ _) (lemS_hi _ _) hw0 hw1 hsz ?hu ?_
      case N => exact News.perm N6 (by intro p hp; simp only [List.mem_cons, List.not_mem_nil, or_false] at hp; rcases hp with rfl | rfl | rfl | rfl | rfl | rfl <;> k_mem)
      case d => dsimp only; omega
      case NO => exact News.pickD (by k_mem) N6 News.nil
      case hS => exact hcg.keeps F6.keep
      case off =>
        intro p hp
        simp only [List.mem_cons, List.not_mem_nil, or_false] at hp
        rcases hp with rfl | rfl | rfl | rfl | rfl | rfl
        · exact Ne.symm a1
        · exact Ne.symm a2
        · exact Ne.symm a3
        · exact Nat.ne_of_gt (by omega)
        · exact Nat.ne_of_gt (by omega)
        · exact Nat.ne_of_gt (by omega)
      case hu => simp only [units_deeper, ar_units]; omega
      intro T8 k8 r8 w8 c8 c' t8 h8 tk8 hI8 hc8 hn8 K8 _ _ _ F8 N8
      have hcc : c' = c := by
        rcases hn8 with hcc | ⟨hcc, _⟩
        · cases hcc; rfl
        · cases hcc
      rw [hcc] at N8
      clear hc8 K8 hn8 F6 N6 cE1 cE2
      (try dsimp only)
      (try k_unmd)
      (try k_fold)
      k_steps
      unfold Hold
      refine LCg.CompEnd.intro F8 N8 [(L' + 1 + 1 + 1, o1), (L' + 1 + 1, o2), (L' + 1, o3), (170, tabObj (tabOf (some c)))] (by intro p hp; simp only [List.mem_cons, List.not_mem_nil, or_false] at hp; rcases hp with rfl | rfl | rfl | rfl | rfl | rfl | rfl <;> k_mem) off trivial ⟨rfl, ?_⟩
      show LSm.BoolsAre _ (if _ then _ else _)
      rw [if_pos (by omega)]
      exact bools_snoc hl _
    · rename_i cE1 t0 h6 tk6 F6 N6 hg
      unfold Hold
      refine LCg.CompEnd.intro F6 N6 [(L' + 1 + 1 + 1, o1), (L' + 1 + 1, o2), (L' + 1, o3), (170, tabObj (tabOf (some c)))] (fun p hp => hp) off trivial ⟨rfl, ?_⟩
      show LSm.BoolsAre _ (if _ then _ else _)
      rw [if_neg (by omega)]
      exact hl
  case fin =>
    rintro ys news ⟨rfl, hl⟩
    have hlb := hl.length
    have hgl := goodL_le n (n - 1).toNat
    clear F9 N9 N0
    k_steps
    rename_i D2 h6 tk6 F6 N6 o6
    clear o6
    unfold Hold
    refine LCt.CompSrcT.ledger (its := ys.toArray) (k := ys.length) (by rfl) F6 N6 (by k_mem) (by rw [List.size_toArray]; have := sizeLine_big; omega) ?_
    intro g2
    refine comp_ind (fun i zs news => news = (D2, LCg.lst ys) :: [(L' + 1 + 1 + 1, o1), (L' + 1 + 1, o2), (L' + 1, o3), (170, tabObj (tabOf (some c)))] ∧ zs.length = cntT (goodL n (n - 1).toNat) i) _ ?fin2 ?turn2 _ 0 [] _ (Nat.zero_add _) ⟨rfl, rfl⟩
    case turn2 =>
      rintro i zs news hi ⟨rfl, hz⟩ v9 I oI C9 oC D m₂ h tk E' hv hC hx F' N' off -
      obtain ⟨b, hb, rfl⟩ := hl.get i v9 (by simpa using hv)
      skip
      clear F6 N6
      (try k_unmd)
      (try k_fold)
      k_steps
      all_goals (
        rename_i hbv
        unfold Hold
        refine LCg.CompEnd.intro F' N' ((D2, LCg.lst ys) :: [(L' + 1 + 1 + 1, o1), (L' + 1 + 1, o2), (L' + 1, o3), (170, tabObj (tabOf (some c)))]) (fun p hp => hp) off (.inr ⟨_, by k_mem, rfl, _, rfl⟩) ⟨rfl, ?_⟩)
      · rw [List.length_append, hz, cntT_succ hb, if_pos hbv]; rfl
      · rw [hz, cntT_succ hb, if_neg (by rw [hbv]; decide)]; rfl
    case fin2 =>
      rintro zs news ⟨rfl, hz⟩
      have hcb := cntT_le (goodL n (n - 1).toNat) ys.toArray.size
      clear F6 N6
      k_steps
      all_goals (
        rename_i hp kF kN
        have hz2 : zs.length = cntT (goodL n (n - 1).toNat) (goodL n (n - 1).toNat).length := by rw [hz, List.size_toArray, hlb])
      · have hv : ((zs.length : Int) == ((goodL n (n - 1).toNat).length : Int)) = countedB n := by
          unfold countedB
          rw [if_pos hp, hz2, Bool.eq_iff_iff]
          simp only [beq_iff_eq, decide_eq_true_eq]
          omega
        rw [hv]
        exact ret _ _ kF (News.pickD (by k_mem) kN News.nil)
      · have hv : decide (2 * (zs.length : Int) ≤ ((goodL n (n - 1).toNat).length : Int)) = countedB n := by
          unfold countedB
          rw [if_neg (by rw [hp]; decide), hz2, Bool.eq_iff_iff]
          simp only [decide_eq_true_eq]
          omega
        rw [hv]
        exact ret _ _ kF (News.pickD (by k_mem) kN News.nil)

end
section
open PySem PySem.W PyProof.Rows PySem.Calls
set_option maxRecDepth 100000
theorem top_C21 : True := by
  w_top off
  trivial

def powB (n a : Int) : Int := a ^ (n / 2).toNat % n
abbrev tupO (n a : Int) (r : Addr) (t : Tok) (k : Nat) : Obj := { cls := .type "tuple", data := .seq #[.int (lemS a n) t, .ref r, .bool (goodB n a)] k }
theorem News.app {h₀ h : Heap} {L : Addr} {a b : List (Addr × Obj)} (x : News h₀ L h a) (y : News h₀ L h b) : News h₀ L h (a ++ b) := fun p hp => (List.mem_append.mp hp).elim (x p) (y p)
theorem told_next {prog : Program} {w : World} {dp un : Nat} {gd : Option (List Code)} {env : Env} {outer : List Env} {h₀ : Heap} {L : Addr} {m : Str → Option Value} {news : List (Addr × Obj)} {s : Shared} {Q E : Value → Shared → Prop} {a n wd size : Int} {u te t v : Tok} {c : Addr} {oc : Obj} {vs : Array Value} {tv : Tok}
    (C : Cal w env outer h₀ L m news s.heap) (hm : (170, tabObj (tabOf (some c))) ∈ news) (hc : (c, oc) ∈ news) (hd1 : oc.data = .fields vs) (hd2 : vs[1]? = some (.str tq tv)) (hd : dp + 18 < recursionLimit) (ha0 : 0 ≤ a) (ha1 : a < n) (hJ : ∀ a, 0 ≤ a → a < n → Jac 1 (a % n) n (lemS a n)) (hn0 : 1 < n) (hn1 : n < 512) (ho : n % 2 = 1) (hw0 : 9 ≤ wd) (hw1 : wd < 12) (hsz : size = 1 ∨ size = 2 ∨ size = 3) (hu : un + 300 < cLine)
    (ret : ∀ T k r ws cc t' h' tk', IntsAre ws (rowI (powB n a)) → Fr h₀ L h' m → News h₀ L h' ((T, tupO n a r t' k) :: (r, W.listOf ws.toArray cc) :: news) → (∀ p ∈ news, p.1 ≠ T) → (∀ p ∈ news, p.1 ≠ r) → Q (.ref T) { s with heap := h', toks := tk' }) :
    wpAny (model prog w) (AR dp un gd env outer) (call (.ref 257) [.int a te, .int n u, .int size v, .int wd t]) Q E s := by
  have hP := (C.led _ hm).1
  have NO : News h₀ L s.heap [(170, tabObj (tabOf (some c)))] := fun p hp => by
    rcases List.mem_cons.mp hp with rfl | hp
    · exact C.led _ hm
    · cases hp
  have hS : TabSt (some c) s.heap := ⟨c, oc, vs, tv, rfl, (C.led _ hc).1, hd1, hd2⟩
  have C' : Cal w env outer h₀ L m (news.filter fun p => decide (p.1 ≠ 170)) s.heap := ⟨C.ex, fun p hp => C.led p (List.mem_filter.mp hp).1⟩
  have hoff : ∀ p ∈ news.filter (fun p => decide (p.1 ≠ 170)), p.1 ≠ 170 := fun p hp => of_decide_eq_true (List.mem_filter.mp hp).2
  refine told_spec (S := some c) (R := lemS a n) C' hd NO hS hoff ha0 ha1 hn0 hn1 ho (hJ a ha0 ha1) (lemS_lo a n) (lemS_hi a n) hw0 hw1 hsz hu ?_
  intro T k r ws cc c' t' h' tk' hI hcr hcn K oT oR oc' F N
  have e : c' = c := by
    rcases hcn with e | ⟨e, _⟩
    · cases e; rfl
    · cases e
  subst e
  have all : News h₀ L h' news := fun p hp => by
    by_cases hq : p.1 = 170
    · have h1 := (C.led p hp).1
      rw [hq, hP] at h1
      obtain ⟨p1, p2⟩ := p
      dsimp only at hq h1
      subst hq
      cases h1
      exact N _ (.tail _ (.tail _ (.head _)))
    · exact N p (.tail _ (.tail _ (.tail _ (List.mem_filter.mpr ⟨hp, decide_eq_true hq⟩))))
  have hT : T ≠ 170 := fun q => by
    have h1 := (N _ (.head _)).1
    have h2 := (N _ (.tail _ (.tail _ (.head _)))).1
    dsimp only at h1 h2
    rw [q, h2] at h1
    cases h1
  have hr : r ≠ 170 := ne_170 (xs := ws.toArray) (k := cc) N (.tail _ (.head _)) (.tail _ (.tail _ (.head _)))
  have off : ∀ {x : Addr}, x ≠ 170 → (∀ p ∈ news.filter (fun p => decide (p.1 ≠ 170)), p.1 ≠ x) → ∀ p ∈ news, p.1 ≠ x := fun {x} hx o p hp => by
    by_cases hq : p.1 = 170
    · rw [hq]; exact Ne.symm hx
    · exact o p (List.mem_filter.mpr ⟨hp, decide_eq_true hq⟩)
  exact ret T k r ws cc t' h' tk' hI F (News.pickD (.head _) N (News.pickD (.tail _ (.head _)) N all)) (off hT oT) (off hr oR)
theorem told_first {prog : Program} {w : World} {dp un : Nat} {gd : Option (List Code)} {env : Env} {outer : List Env} {h₀ : Heap} {L : Addr} {m : Str → Option Value} {news : List (Addr × Obj)} {s : Shared} {Q E : Value → Shared → Prop} {a n wd size : Int} {u te t v : Tok} {gf : Obj → List (Addr × Obj)}
    (C : Cal w env outer h₀ L m news s.heap) (U : UpdF 170 (tabObj #[]) news gf) (hd : dp + 18 < recursionLimit) (ha0 : 0 ≤ a) (ha1 : a < n) (hJ : ∀ a, 0 ≤ a → a < n → Jac 1 (a % n) n (lemS a n)) (hn0 : 1 < n) (hn1 : n < 512) (ho : n % 2 = 1) (hw0 : 9 ≤ wd) (hw1 : wd < 12) (hsz : size = 1 ∨ size = 2 ∨ size = 3) (hu : un + 300 < cLine)
    (ret : ∀ T k r ws cc t' c' oc vs tv h' tk', IntsAre ws (rowI (powB n a)) → oc.data = .fields vs → vs[1]? = some (.str tq tv) → Fr h₀ L h' m → News h₀ L h' ((T, tupO n a r t' k) :: (r, W.listOf ws.toArray cc) :: (c', oc) :: gf (tabObj (tabOf (some c')))) → (∀ p ∈ gf (tabObj (tabOf (some c'))), p.1 ≠ T) → (∀ p ∈ gf (tabObj (tabOf (some c'))), p.1 ≠ r) → (∀ p ∈ gf (tabObj (tabOf (some c'))), p.1 ≠ c') → Q (.ref T) { s with heap := h', toks := tk' }) :
    wpAny (model prog w) (AR dp un gd env outer) (call (.ref 257) [.int a te, .int n u, .int size v, .int wd t]) Q E s := by
  obtain ⟨pre, post, hn, hg, h1, h2⟩ := U.split
  subst hn
  have NO : News h₀ L s.heap [(170, tabObj (tabOf none))] := fun p hp => by
    rcases List.mem_cons.mp hp with rfl | hp
    · exact C.led _ (List.mem_append_right _ (.head _))
    · cases hp
  have C' : Cal w env outer h₀ L m (pre ++ post) s.heap := ⟨C.ex, fun p hp => C.led p ((List.mem_append.mp hp).elim (List.mem_append_left _) fun q => List.mem_append_right _ (.tail _ q))⟩
  have hoff : ∀ p ∈ pre ++ post, p.1 ≠ 170 := fun p hp => (List.mem_append.mp hp).elim (h1 p) (h2 p)
  refine told_spec (S := none) (R := lemS a n) C' hd NO trivial hoff ha0 ha1 hn0 hn1 ho (hJ a ha0 ha1) (lemS_lo a n) (lemS_hi a n) hw0 hw1 hsz hu ?_
  intro T k r ws cc c' t' h' tk' hI hcr hcn K oT oR oC F N
  rcases hcn with e | ⟨_, oc, vs, tv, d1, d2, n7⟩
  · cases e
  have all : News h₀ L h' (gf (tabObj (tabOf (some c')))) := fun p hp => by
    rw [hg] at hp
    rcases List.mem_append.mp hp with hp | hp
    · exact N p (.tail _ (.tail _ (.tail _ (List.mem_append_left _ hp))))
    · rcases List.mem_cons.mp hp with rfl | hp
      · exact N _ (.tail _ (.tail _ (.head _)))
      · exact N p (.tail _ (.tail _ (.tail _ (List.mem_append_right _ hp))))
  have hT : T ≠ 170 := fun q => by
    have h1 := (N _ (.head _)).1
    have h2 := (N _ (.tail _ (.tail _ (.head _)))).1
    dsimp only at h1 h2
    rw [q, h2] at h1
    cases h1
  have hr : r ≠ 170 := ne_170 (xs := ws.toArray) (k := cc) N (.tail _ (.head _)) (.tail _ (.tail _ (.head _)))
  have hc : c' ≠ 170 := fun q => by
    have h1 := (n7 _ (.head _)).1
    have h2 := (N _ (.tail _ (.tail _ (.head _)))).1
    dsimp only at h1 h2
    rw [q, h2] at h1
    cases h1
    cases d1
    simp [tabOf, rawInt] at d2
  have off : ∀ {x : Addr}, x ≠ 170 → (∀ p ∈ pre ++ post, p.1 ≠ x) → ∀ p ∈ gf (tabObj (tabOf (some c'))), p.1 ≠ x := fun {x} hx o p hp => by
    rw [hg] at hp
    rcases List.mem_append.mp hp with hp | hp
    · exact o p (List.mem_append_left _ hp)
    · rcases List.mem_cons.mp hp with rfl | hp
      · exact Ne.symm hx
      · exact o p (List.mem_append_right _ hp)
  exact ret T k r ws cc t' c' oc vs tv h' tk' hI d1 d2 F (News.pickD (.head _) N (News.pickD (.tail _ (.head _)) N (News.pickD (.head _) n7 all))) (off hT oT) (off hr oR) (off hc (oC rfl))
end
section
open PySem PySem.W PyProof.Rows PySem.Calls
theorem top_Plain : True := by
  w_top off
  trivial
def fz {α : Type} (x : Nat) (k : Nat → α) : α := Nat.rec (k 0) (fun m _ => k (Nat.succ m)) x
theorem fz_eq {α : Type} (x : Nat) (k : Nat → α) : fz x k = k x := by cases x <;> rfl
-- signs as 0, 1, 2 (for -1)
def sZ (s : Nat) : Int := if s = 0 then 0 else if s = 1 then 1 else -1
def cntN (a n h : Nat) : Nat := Nat.rec 0 (fun i acc => Nat.add acc (Nat.div (Nat.mul 2 (Nat.mod (Nat.mul (Nat.succ i) a) n)) n)) h
def lemF (n h a : Nat) : Nat := bif Nat.ble (Nat.gcd a n) 1 then Nat.succ (Nat.mod (cntN a n h) 2) else 0
def jacF : Nat → Nat → Nat → Nat → Nat
  | 0, _, _, _ => 9
  | u + 1, f, a, n => bif Nat.beq a 0 then (bif Nat.beq n 1 then f else 0) else
    fz (Nat.log2 (Nat.gcd a 512)) fun k => fz (Nat.div a (Nat.pow 2 (Nat.succ k))) fun b =>
    fz (bif (Nat.beq (Nat.mod k 2) 1 && (Nat.beq (Nat.mod n 8) 3 || Nat.beq (Nat.mod n 8) 5)) then Nat.mod (Nat.mul 2 f) 3 else f) fun g =>
    fz (bif (Nat.beq (Nat.mod (Nat.succ (Nat.mul 2 b)) 4) 3 && Nat.beq (Nat.mod n 4) 3) then Nat.mod (Nat.mul 2 g) 3 else g) fun h =>
    bif Nat.beq a (Nat.mul (Nat.pow 2 k) (Nat.succ (Nat.mul 2 b))) then fz (Nat.succ (Nat.mul 2 b)) fun o => fz (Nat.mod n o) fun r => jacF u h r o else 9
def sg (r : Nat) : Nat := bif Nat.beq r 0 then 0 else bif Nat.beq r 1 then 1 else 2
def chi (ps : List Nat) (a : Nat) : Nat := match ps with
  | [] => 1
  | p :: ps => Nat.mod (Nat.mul (sg (Nat.mod (Nat.pow a (Nat.div p 2)) p)) (chi ps a)) 3
def allB (f : Nat → Bool) (m : Nat) : Bool := Nat.rec true (fun i acc => f i && acc) m
def okP (p : Nat) : Bool := Nat.ble 3 p && allB (fun x => fz (Nat.mod (Nat.pow x (Nat.div p 2)) p) fun r => Nat.beq r 0 || (Nat.beq r 1 || Nat.beq (Nat.succ r) p)) p
def facs : Nat → Nat → Nat → List Nat
  | 0, _, n => [n]
  | u + 1, d, n => bif Nat.ble n 1 then [] else bif Nat.beq (Nat.mod n d) 0 then fz (Nat.div n d) fun m => d :: facs u d m else bif Nat.blt n (Nat.mul d d) then [n] else fz (Nat.add d 2) fun e => facs u e n
def chkA (n h : Nat) (ps : List Nat) (pr : Bool) (a : Nat) : Bool :=
  fz (lemF n h a) fun s => Nat.beq s (jacF 12 1 a n) && (Nat.beq s (chi ps a) && (!pr || (Nat.beq a 0 || (!Nat.beq s 0 && Nat.beq (Nat.mod (Nat.pow a h) n) (bif Nat.beq s 1 then 1 else Nat.sub n 1)))))
def chkN (n : Nat) : Bool :=
  fz (Nat.div n 2) fun h => (fun ps => (fun pr => ps.all (fun p => Nat.beq (Nat.mod n p) 0 && okP p) && (allB (chkA n h ps pr) n && chkA n h ps true (Nat.sub n 1))) (primB (Int.ofNat n))) (facs 14 3 n)
def chkI (lo m : Nat) : Bool := allB (fun i => fz (Nat.add (Nat.mul 2 (Nat.add lo i)) 3) chkN) m
theorem allB_get {f : Nat → Bool} : ∀ {m : Nat}, allB f m = true → ∀ i, i < m → f i = true
  | 0, _, i, hi => absurd hi (Nat.not_lt_zero i)
  | m + 1, h, i, hi => by
    have h' : (f m && allB f m) = true := h
    rw [Bool.and_eq_true] at h'
    rcases Nat.lt_succ_iff_lt_or_eq.mp hi with h1 | h1
    · exact allB_get h'.2 i h1
    · rw [h1]; exact h'.1
theorem chkI_get {lo m : Nat} (h : chkI lo m = true) {n : Nat} (h1 : 2 * lo + 3 ≤ n) (h2 : n < 2 * (lo + m) + 3) (ho : n % 2 = 1) : chkN n = true := by
  have := allB_get h ((n - 3) / 2 - lo) (by omega)
  rw [fz_eq] at this
  have e : Nat.add (Nat.mul 2 (Nat.add lo ((n - 3) / 2 - lo))) 3 = n := by
    show 2 * (lo + ((n - 3) / 2 - lo)) + 3 = n
    omega
  rwa [e] at this
theorem cntN_succ (a n h : Nat) : cntN a n (h + 1) = cntN a n h + 2 * ((h + 1) * a % n) / n := rfl
theorem half_ind {n r : Nat} (hn : n % 2 = 1) (hr : r < n) : 2 * r / n = if n / 2 < r then 1 else 0 := by
  split
  · rw [show 2 * r = (2 * r - n) + n * 1 by omega, Nat.add_mul_div_left _ _ (by omega), Nat.div_eq_of_lt (by omega)]
  · exact Nat.div_eq_of_lt (by omega)
theorem lemC_eq {a n : Nat} (hn : n % 2 = 1) : ∀ h, lemC (a : Int) (n : Int) h = cntN a n h
  | 0 => rfl
  | h + 1 => by
    have ih := lemC_eq (a := a) hn h
    rw [cntN_succ, ← ih, half_ind hn (Nat.mod_lt _ (by omega))]
    unfold lemC
    rw [List.range_succ, List.filter_append, List.length_append]
    congr 1
    have e : (((n : Int) / 2 < (1 + (h : Int)) * (a : Int) % (n : Int)) ↔ n / 2 < (h + 1) * a % n) := by
      rw [show (1 + (h : Int)) * (a : Int) % (n : Int) = (((h + 1) * a % n : Nat) : Int) by rw [Int.natCast_emod, Int.natCast_mul, Int.natCast_add, Int.add_comm]; rfl]
      omega
    by_cases c : n / 2 < (h + 1) * a % n
    · simp [c, e.mpr c]
    · have c' := fun x => c (e.mp x)
      simp [c]
      omega
theorem lemF_lt (n h a : Nat) : lemF n h a < 3 := by
  unfold lemF
  cases Nat.ble (Nat.gcd a n) 1
  · exact Nat.succ_pos _
  · show cntN a n h % 2 + 1 < 3
    omega
theorem lemS_eq {a n : Nat} (hn : n % 2 = 1) : lemS (a : Int) (n : Int) = sZ (lemF n (n / 2) a) := by
  unfold lemS lemF
  rw [Int.toNat_natCast, Int.toNat_natCast, lemC_eq hn, show (((n : Int) + 1) / 2 - 1).toNat = n / 2 by omega]
  by_cases c : 1 < Nat.gcd a n
  · have : Nat.ble (Nat.gcd a n) 1 = false := by
      rw [← Bool.not_eq_true, Nat.ble_eq]; omega
    rw [if_pos c, this]; rfl
  · have : Nat.ble (Nat.gcd a n) 1 = true := by
      rw [Nat.ble_eq]; omega
    rw [if_neg c, this]
    show _ = sZ (cntN a n (n / 2) % 2 + 1)
    rcases Nat.mod_two_eq_zero_or_one (cntN a n (n / 2)) with e | e
    · rw [e]; rfl
    · rw [e]; rfl
theorem sZ_neg {f : Nat} (hf : f < 3) : sZ (2 * f % 3) = - sZ f := by
  have : f = 0 ∨ f = 1 ∨ f = 2 := by omega
  rcases this with rfl | rfl | rfl <;> rfl
theorem sZ_mul {f g : Nat} (hf : f < 3) (hg : g < 3) : sZ (f * g % 3) = sZ f * sZ g := by
  have : f = 0 ∨ f = 1 ∨ f = 2 := by omega
  have : g = 0 ∨ g = 1 ∨ g = 2 := by omega
  rcases ‹f = 0 ∨ f = 1 ∨ f = 2› with rfl | rfl | rfl <;> rcases ‹g = 0 ∨ g = 1 ∨ g = 2› with rfl | rfl | rfl <;> rfl
theorem beq_iff (a b : Nat) : Nat.beq a b = true ↔ a = b := ⟨Nat.eq_of_beq_eq_true, fun h => h ▸ Nat.beq_refl a⟩
theorem jacF_jac : ∀ (u : Nat) {f a n r : Nat}, f < 3 → jacF u f a n = r → r < 3 → Jac (sZ f) (a : Int) (n : Int) (sZ r)
  | 0, f, a, n, r, _, h, hr => by
    have : (9 : Nat) = r := h
    omega
  | u + 1, f, a, n, r, hf, h, hr => by
    unfold jacF at h
    simp only [fz_eq] at h
    by_cases ha : a = 0
    · subst ha
      by_cases hn : n = 1
      · subst hn
        have e : f = r := h
        subst e
        exact Jac.done (sZ f) 1
      · have e : Nat.beq n 1 = false := by rw [← Bool.not_eq_true, beq_iff]; exact hn
        rw [e] at h
        have e : 0 = r := h
        subst e
        have := Jac.done (sZ f) (n : Int)
        rwa [if_neg (by omega)] at this
    · have e : Nat.beq a 0 = false := by rw [← Bool.not_eq_true, beq_iff]; exact ha
      rw [e] at h
      simp only [cond_false] at h
      generalize Nat.log2 (Nat.gcd a 512) = k at h
      generalize Nat.div a (Nat.pow 2 (Nat.succ k)) = b at h
      generalize hg : (bif (Nat.beq (Nat.mod k 2) 1 && (Nat.beq (Nat.mod n 8) 3 || Nat.beq (Nat.mod n 8) 5)) then Nat.mod (Nat.mul 2 f) 3 else f) = g at h
      generalize hh : (bif (Nat.beq (Nat.mod (Nat.succ (Nat.mul 2 b)) 4) 3 && Nat.beq (Nat.mod n 4) 3) then Nat.mod (Nat.mul 2 g) 3 else g) = h' at h
      by_cases hc : a = 2 ^ k * (2 * b + 1)
      · have e : Nat.beq a (Nat.mul (Nat.pow 2 k) (Nat.succ (Nat.mul 2 b))) = true := (beq_iff _ _).mpr hc
        rw [e] at h
        simp only [cond_true] at h
        have hg3 : g < 3 := by
          rw [← hg]
          generalize (Nat.beq (Nat.mod k 2) 1 && (Nat.beq (Nat.mod n 8) 3 || Nat.beq (Nat.mod n 8) 5)) = c
          cases c
          · exact hf
          · exact Nat.mod_lt _ (by omega)
        have hh3 : h' < 3 := by
          rw [← hh]
          generalize (Nat.beq (Nat.mod (Nat.succ (Nat.mul 2 b)) 4) 3 && Nat.beq (Nat.mod n 4) 3) = c
          cases c
          · exact hg3
          · exact Nat.mod_lt _ (by omega)
        have R := jacF_jac u hh3 h hr
        have ec : (a : Int) = 2 ^ k * (2 * (b : Int) + 1) := by
          rw [hc]; push_cast; rfl
        rw [ec]
        refine Jac.step k b (sZ f) n (sZ r) (sZ g) (sZ h') ?_ ?_ ?_
        · rw [← hg]
          by_cases c : ((k : Int) % 2 = 1 ∧ ((n : Int) % 8 = 3 ∨ (n : Int) % 8 = 5))
          · have c' : (Nat.beq (Nat.mod k 2) 1 && (Nat.beq (Nat.mod n 8) 3 || Nat.beq (Nat.mod n 8) 5)) = true := by
              rw [Bool.and_eq_true, Bool.or_eq_true, beq_iff, beq_iff, beq_iff]
              exact ⟨show k % 2 = 1 by omega, c.2.imp (fun (_ : (n : Int) % 8 = 3) => show n % 8 = 3 by omega) (fun (_ : (n : Int) % 8 = 5) => show n % 8 = 5 by omega)⟩
            rw [c', if_pos c, cond_true]
            rw [show Nat.mod (Nat.mul 2 f) 3 = 2 * f % 3 from rfl, sZ_neg hf]; omega
          · have c' : (Nat.beq (Nat.mod k 2) 1 && (Nat.beq (Nat.mod n 8) 3 || Nat.beq (Nat.mod n 8) 5)) = false := by
              rw [← Bool.not_eq_true, Bool.and_eq_true, Bool.or_eq_true, beq_iff, beq_iff, beq_iff]
              rintro ⟨q1, q2⟩
              have q1 : k % 2 = 1 := q1
              have q2 : n % 8 = 3 ∨ n % 8 = 5 := q2
              exact c ⟨by omega, by omega⟩
            rw [c', if_neg c, cond_false, Int.mul_one]
        · rw [← hh]
          by_cases c : ((2 * (b : Int) + 1) % 4 = 3 ∧ (n : Int) % 4 = 3)
          · have c' : (Nat.beq (Nat.mod (Nat.succ (Nat.mul 2 b)) 4) 3 && Nat.beq (Nat.mod n 4) 3) = true := by
              rw [Bool.and_eq_true, beq_iff, beq_iff]
              exact ⟨show (2 * b + 1) % 4 = 3 by omega, show n % 4 = 3 by omega⟩
            rw [c', if_pos c, cond_true]
            rw [show Nat.mod (Nat.mul 2 g) 3 = 2 * g % 3 from rfl, sZ_neg hg3]
          · have c' : (Nat.beq (Nat.mod (Nat.succ (Nat.mul 2 b)) 4) 3 && Nat.beq (Nat.mod n 4) 3) = false := by
              rw [← Bool.not_eq_true, Bool.and_eq_true, beq_iff, beq_iff]
              rintro ⟨q1, q2⟩
              have q1 : (2 * b + 1) % 4 = 3 := q1
              have q2 : n % 4 = 3 := q2
              exact c ⟨by omega, by omega⟩
            rw [c', if_neg c, cond_false]
        · exact R
      · have e : Nat.beq a (Nat.mul (Nat.pow 2 k) (Nat.succ (Nat.mul 2 b))) = false := by rw [← Bool.not_eq_true, beq_iff]; exact hc
        rw [e] at h
        have : (9 : Nat) = r := h
        omega
theorem sg_lt (r : Nat) : sg r < 3 := by
  unfold sg
  cases Nat.beq r 0
  · cases Nat.beq r 1
    · exact Nat.lt_succ_self 2
    · exact Nat.succ_lt_succ (Nat.zero_lt_succ 1)
  · exact Nat.zero_lt_succ 2
theorem chi_lt (ps : List Nat) (a : Nat) : chi ps a < 3 := by
  cases ps with
  | nil => exact Nat.succ_lt_succ (Nat.zero_lt_succ 1)
  | cons p ps => exact Nat.mod_lt _ (by omega)
theorem okP_get {p x : Nat} (h : okP p = true) (hx : x < p) : 3 ≤ p ∧ (x ^ (p / 2) % p = 0 ∨ x ^ (p / 2) % p = 1 ∨ x ^ (p / 2) % p = p - 1) := by
  unfold okP at h
  rw [Bool.and_eq_true] at h
  refine ⟨Nat.le_of_ble_eq_true h.1, ?_⟩
  have := allB_get h.2 x hx
  rw [fz_eq, Bool.or_eq_true, Bool.or_eq_true, beq_iff, beq_iff, beq_iff] at this
  exact this.imp id (.imp id fun (q : x ^ (p / 2) % p + 1 = p) => by omega)
theorem sg_mul {p x y : Nat} (h3 : 3 ≤ p) (hx : x = 0 ∨ x = 1 ∨ x = p - 1) (hy : y = 0 ∨ y = 1 ∨ y = p - 1) : sg (x * y % p) = sg x * sg y % 3 := by
  have two : ∀ {z}, 2 ≤ z → sg z = 2 := fun {z} hz => by
    unfold sg
    have e0 : Nat.beq z 0 = false := by rw [← Bool.not_eq_true, beq_iff]; omega
    have e1 : Nat.beq z 1 = false := by rw [← Bool.not_eq_true, beq_iff]; omega
    rw [e0, e1]; rfl
  have zero : sg 0 = 0 := rfl
  have one : sg 1 = 1 := rfl
  rcases hx with rfl | rfl | rfl
  · rw [Nat.zero_mul, Nat.zero_mod, zero, Nat.zero_mul]
  · rw [Nat.one_mul, one, Nat.one_mul, Nat.mod_eq_of_lt (show y < p by omega), Nat.mod_eq_of_lt (sg_lt y)]
  · rcases hy with rfl | rfl | rfl
    · rw [Nat.mul_zero, Nat.zero_mod, zero, Nat.mul_zero]
    · rw [Nat.mul_one, one, Nat.mul_one, Nat.mod_eq_of_lt (show p - 1 < p by omega), Nat.mod_eq_of_lt (sg_lt _)]
    · rw [two (show 2 ≤ p - 1 by omega)]
      obtain ⟨q, rfl⟩ : ∃ q, p = q + 2 := ⟨p - 2, by omega⟩
      rw [show q + 2 - 1 = q + 1 by omega, show (q + 1) * (q + 1) = 1 + (q + 2) * q by rw [Nat.add_mul, Nat.mul_add, Nat.add_mul]; omega, Nat.add_mul_mod_self_left, Nat.mod_eq_of_lt (by omega)]
      rfl
theorem chi_mul {n a b : Nat} : ∀ {ps : List Nat}, (ps.all fun p => Nat.beq (Nat.mod n p) 0 && okP p) = true → chi ps (a * b % n) = chi ps a * chi ps b % 3
  | [], _ => rfl
  | p :: ps, h => by
    rw [List.all_cons, Bool.and_eq_true, Bool.and_eq_true, beq_iff] at h
    obtain ⟨⟨h1, h2⟩, h3⟩ := h
    have ih := chi_mul (a := a) (b := b) h3
    have h0 : 0 < p := by
      have := (okP_get (x := 0) h2 (by
        unfold okP at h2
        rw [Bool.and_eq_true] at h2
        have := Nat.le_of_ble_eq_true h2.1
        omega)).1
      omega
    have E : ∀ x : Nat, x ^ (p / 2) % p = (x % p) ^ (p / 2) % p := fun x => Nat.pow_mod x (p / 2) p
    have V : ∀ x : Nat, 3 ≤ p ∧ (x ^ (p / 2) % p = 0 ∨ x ^ (p / 2) % p = 1 ∨ x ^ (p / 2) % p = p - 1) := fun x => by
      rw [E]; exact okP_get h2 (Nat.mod_lt _ h0)
    have M : (a * b % n) ^ (p / 2) % p = (a ^ (p / 2) % p) * (b ^ (p / 2) % p) % p := by
      rw [E, Nat.mod_mod_of_dvd _ (Nat.dvd_of_mod_eq_zero h1), ← E, Nat.mul_pow, Nat.mul_mod]
    have S := sg_mul (V a).1 (V a).2 (V b).2
    show sg ((a * b % n) ^ (p / 2) % p) * chi ps (a * b % n) % 3 = (sg (a ^ (p / 2) % p) * chi ps a % 3) * (sg (b ^ (p / 2) % p) * chi ps b % 3) % 3
    rw [M, S, ih]
    generalize sg (a ^ (p / 2) % p) = x
    generalize sg (b ^ (p / 2) % p) = y
    generalize chi ps a = z
    generalize chi ps b = t
    rw [← Nat.mul_mod, ← Nat.mul_mod]
    congr 1
    rw [Nat.mul_assoc, Nat.mul_assoc]
    congr 1
    rw [← Nat.mul_assoc, ← Nat.mul_assoc, Nat.mul_comm y z]
-- what the check of one n gives
structure Good (n : Nat) : Prop where
  jac : ∀ a, a < n → Jac 1 (a : Int) (n : Int) (lemS (a : Int) (n : Int))
  mul : ∀ a b, a < n → b < n → lemS ((a * b % n : Nat) : Int) (n : Int) = lemS (a : Int) (n : Int) * lemS (b : Int) (n : Int)
  prime : primB (n : Int) = true → ∀ a, 0 < a → a < n → lemS (a : Int) (n : Int) ≠ 0 ∧ (((a ^ (n / 2) % n : Nat) : Int) = lemS (a : Int) (n : Int) % (n : Int))
  neg : lemS ((n - 1 : Nat) : Int) (n : Int) ≠ 0 ∧ ((((n - 1) ^ (n / 2) % n : Nat) : Int) = lemS ((n - 1 : Nat) : Int) (n : Int) % (n : Int))
theorem sZ_mod {n s : Nat} (hn : 3 ≤ n) (hs : s < 3) (h0 : s ≠ 0) : (((bif Nat.beq s 1 then 1 else Nat.sub n 1 : Nat) : Int) = sZ s % (n : Int)) := by
  have : s = 1 ∨ s = 2 := by omega
  rcases this with rfl | rfl
  · show (1 : Int) = 1 % (n : Int)
    rw [Int.emod_eq_of_lt (by omega) (by omega)]
  · show (((n - 1 : Nat)) : Int) = (-1) % (n : Int)
    rw [show (-1 : Int) = ((n : Int) - 1) + (n : Int) * (-1) by omega, Int.add_mul_emod_self_left, Int.emod_eq_of_lt (by omega) (by omega)]
    omega
theorem chkA_get {n : Nat} {ps : List Nat} {pr : Bool} {a : Nat} (hn : 3 ≤ n) (ho : n % 2 = 1) (h : chkA n (n / 2) ps pr a = true) :
    lemF n (n / 2) a = jacF 12 1 a n ∧ lemF n (n / 2) a = chi ps a ∧ (pr = true → 0 < a → lemS (a : Int) (n : Int) ≠ 0 ∧ (((a ^ (n / 2) % n : Nat) : Int) = lemS (a : Int) (n : Int) % (n : Int))) := by
  unfold chkA at h
  rw [fz_eq, Bool.and_eq_true, Bool.and_eq_true, beq_iff, beq_iff] at h
  refine ⟨h.1, h.2.1, fun hp h0 => ?_⟩
  have h2 := h.2.2
  rw [hp, Bool.not_true, Bool.false_or, Bool.or_eq_true, beq_iff, Bool.and_eq_true, beq_iff, Bool.not_eq_true', ← Bool.not_eq_true, beq_iff] at h2
  rcases h2 with h2 | ⟨h2, h3⟩
  · omega
  · rw [lemS_eq ho, ← sZ_mod hn (lemF_lt n (n / 2) a) h2]
    refine ⟨fun e => h2 ?_, ?_⟩
    · have := lemF_lt n (n / 2) a
      generalize lemF n (n / 2) a = s at *
      have : s = 1 ∨ s = 2 := by omega
      rcases this with rfl | rfl <;> cases e
    · exact congrArg Int.ofNat h3
theorem chkN_good {n : Nat} (hn : 3 ≤ n) (ho : n % 2 = 1) (h : chkN n = true) : Good n := by
  unfold chkN at h
  rw [fz_eq] at h
  dsimp only at h
  generalize facs 14 3 n = ps at h
  rw [Bool.and_eq_true, Bool.and_eq_true] at h
  obtain ⟨h1, h2, h3⟩ := h
  have A := fun a (ha : a < n) => chkA_get hn ho (allB_get h2 a ha)
  constructor
  · intro a ha
    rw [lemS_eq ho, show (1 : Int) = sZ 1 from rfl]
    exact jacF_jac 12 (by omega) (A a ha).1.symm (lemF_lt _ _ _)
  · intro a b ha hb
    rw [lemS_eq ho, lemS_eq ho, lemS_eq ho, ← sZ_mul (lemF_lt _ _ _) (lemF_lt _ _ _), (A _ (Nat.mod_lt _ (by omega))).2.1, (A a ha).2.1, (A b hb).2.1, chi_mul h1]
  · intro hp a h0 ha
    exact (A a ha).2.2 hp h0
  · exact (chkA_get hn ho h3).2.2 rfl (show 0 < n - 1 by omega)
set_option maxRecDepth 100000
theorem ck0 : chkI 0 40 = true := by decide +kernel
theorem ck1 : chkI 40 25 = true := by decide +kernel
theorem ck2 : chkI 65 10 = true := by decide +kernel
theorem ck3 : chkI 75 10 = true := by decide +kernel
theorem ck4 : chkI 85 10 = true := by decide +kernel
theorem ck5 : chkI 95 10 = true := by decide +kernel
theorem ck6 : chkI 105 10 = true := by decide +kernel
theorem ck7 : chkI 115 8 = true := by decide +kernel
theorem ck8 : chkI 123 8 = true := by decide +kernel
theorem ck9 : chkI 131 8 = true := by decide +kernel
theorem ck10 : chkI 139 8 = true := by decide +kernel
theorem ck11 : chkI 147 3 = true := by decide +kernel
theorem chk_step {lo m n : Nat} (ck : chkI lo m = true) (ho : n % 2 = 1) (h : 2 * lo + 3 ≤ n) (k : 2 * (lo + m) + 3 ≤ n → chkN n = true) : chkN n = true := by
  by_cases c : n < 2 * (lo + m) + 3
  · exact chkI_get ck h c ho
  · exact k (Nat.le_of_not_lt c)
theorem good_all {n : Nat} (h1 : 3 ≤ n) (h2 : n ≤ 301) (ho : n % 2 = 1) : Good n :=
  chkN_good h1 ho (chk_step ck0 ho h1 fun h => chk_step ck1 ho h fun h => chk_step ck2 ho h fun h => chk_step ck3 ho h fun h => chk_step ck4 ho h fun h => chk_step ck5 ho h fun h => chk_step ck6 ho h fun h => chk_step ck7 ho h fun h => chk_step ck8 ho h fun h => chk_step ck9 ho h fun h => chk_step ck10 ho h fun h => chk_step ck11 ho h fun h => absurd (Nat.le_trans h h2) (by decide))
theorem pow_emod (x n : Int) (k : Nat) : (x % n) ^ k % n = x ^ k % n := by
  induction k with
  | zero => rw [Int.pow_zero, Int.pow_zero]
  | succ k ih => rw [Int.pow_succ, Int.pow_succ, Int.mul_emod, ih, Int.emod_emod, ← Int.mul_emod]
theorem nat_of {x : Int} (h : 0 ≤ x) : ∃ k : Nat, x = (k : Int) := ⟨x.toNat, (Int.toNat_of_nonneg h).symm⟩
theorem good_int (h2 : 3 ≤ n) (h3 : n ≤ 301) (h4 : n % 2 = 1) : ∃ N : Nat, n = (N : Int) ∧ N % 2 = 1 ∧ 3 ≤ N ∧ Good N := by
  obtain ⟨N, rfl⟩ := nat_of (show 0 ≤ n by omega)
  exact ⟨N, rfl, by omega, by omega, good_all (by omega) (by omega) (by omega)⟩
theorem jac_lem {n a : Int} (h0 : 0 ≤ a) (h1 : a < n) (h2 : 3 ≤ n) (h3 : n ≤ 301) (h4 : n % 2 = 1) : Jac 1 (a % n) n (lemS a n) := by
  obtain ⟨N, rfl, _, _, G⟩ := good_int h2 h3 h4
  obtain ⟨A, rfl⟩ := nat_of h0
  rw [Int.emod_eq_of_lt h0 h1]
  exact G.jac A (by omega)
theorem lemS_mul {n a b : Int} (a0 : 0 ≤ a) (a1 : a < n) (b0 : 0 ≤ b) (b1 : b < n) (h2 : 3 ≤ n) (h3 : n ≤ 301) (h4 : n % 2 = 1) : lemS (a * b % n) n = lemS a n * lemS b n := by
  obtain ⟨N, rfl, _, _, G⟩ := good_int h2 h3 h4
  obtain ⟨A, rfl⟩ := nat_of a0
  obtain ⟨B, rfl⟩ := nat_of b0
  have := G.mul A B (by omega) (by omega)
  rwa [Int.natCast_emod, Int.natCast_mul] at this
theorem powB_mul {n a b : Int} : powB n (a * b % n) = powB n a * powB n b % n := by
  unfold powB
  rw [pow_emod, Int.mul_pow, Int.mul_emod]
theorem powB_lt {n a : Int} (h : 3 ≤ n) : 0 ≤ powB n a ∧ powB n a < n := ⟨Int.emod_nonneg _ (by omega), Int.emod_lt_of_pos _ (by omega)⟩
theorem lemS_three (a n : Int) : lemS a n = 0 ∨ lemS a n = 1 ∨ lemS a n = -1 := by
  unfold lemS
  split
  · exact .inl rfl
  · split
    · exact .inr (.inl rfl)
    · exact .inr (.inr rfl)
theorem sign_mod {n s : Int} (h : 3 ≤ n) (hs : s = 0 ∨ s = 1 ∨ s = -1) : s % n = if s = 0 then 0 else if s = 1 then 1 else n - 1 := by
  rcases hs with rfl | rfl | rfl
  · exact Int.zero_emod n
  · exact Int.emod_eq_of_lt (by omega) (by omega)
  · show (-1) % n = n - 1
    rw [show (-1 : Int) = (n - 1) + n * (-1) by omega, Int.add_mul_emod_self_left, Int.emod_eq_of_lt (by omega) (by omega)]
theorem goodB_iff {n a : Int} (h : 3 ≤ n) : goodB n a = true ↔ lemS a n ≠ 0 ∧ powB n a = lemS a n % n := by
  unfold goodB
  rw [decide_eq_true_eq]
  refine and_congr_right fun h0 => ?_
  show rowI (powB n a) = _ ↔ _
  have hs := sign_mod h (lemS_three a n)
  rcases lemS_three a n with e | e | e
  · exact absurd e h0
  · rw [e] at hs ⊢
    rw [hs]
    unfold rowI
    split
    · next q => simp [q]
    · simp
  · rw [e] at hs ⊢
    rw [hs]
    unfold rowI
    split
    · next q => rw [q]; simp; omega
    · simp
theorem goodB_mul1 {n a b : Int} (a0 : 0 ≤ a) (a1 : a < n) (b0 : 0 ≤ b) (b1 : b < n) (h2 : 3 ≤ n) (h3 : n ≤ 301) (h4 : n % 2 = 1) (hg : goodB n a = true) : goodB n (a * b % n) = goodB n b := by
  rw [goodB_iff h2] at hg
  obtain ⟨g1, g2⟩ := hg
  rw [Bool.eq_iff_iff, goodB_iff h2, goodB_iff h2, lemS_mul a0 a1 b0 b1 h2 h3 h4, powB_mul, g2]
  have hB := powB_lt (a := b) h2
  have ha := lemS_three a n
  have hb := lemS_three b n
  generalize powB n b = B at *
  generalize lemS a n = x at *
  generalize lemS b n = y at *
  have hx : x = 1 ∨ x = -1 := ha.resolve_left g1
  rcases hx with rfl | rfl
  · rw [Int.one_mul, Int.emod_eq_of_lt (a := 1) (by omega) (by omega), Int.one_mul, Int.emod_eq_of_lt hB.1 hB.2]
  · have em : (-1) % n * B % n = (-B) % n := by
      rw [Int.mul_emod, Int.emod_emod, ← Int.mul_emod, Int.neg_one_mul]
    rw [em, Int.neg_one_mul]
    rcases hb with rfl | rfl | rfl
    · simp
    · rw [sign_mod h2 (.inr (.inl rfl)), show -(1 : Int) = -1 from rfl, sign_mod h2 (.inr (.inr rfl))]
      simp only [show ¬ (-1 : Int) = 0 by omega, show ¬ (1 : Int) = 0 by omega, show ¬ (-1 : Int) = 1 by omega, if_false, if_true, ne_eq, not_false_eq_true, true_and]
      constructor
      · intro q
        by_cases z : B = 0
        · rw [z, Int.neg_zero, Int.zero_emod] at q; omega
        · rw [show -B = (n - B) + n * (-1) by omega, Int.add_mul_emod_self_left, Int.emod_eq_of_lt (by omega) (by omega)] at q; omega
      · intro q
        rw [q, show -(1 : Int) = (n - 1) + n * (-1) by omega, Int.add_mul_emod_self_left, Int.emod_eq_of_lt (by omega) (by omega)]
    · rw [show - -(1 : Int) = 1 from rfl, sign_mod h2 (.inr (.inl rfl)), sign_mod h2 (.inr (.inr rfl))]
      simp only [show ¬ (-1 : Int) = 0 by omega, show ¬ (1 : Int) = 0 by omega, show ¬ (-1 : Int) = 1 by omega, if_false, if_true, ne_eq, not_false_eq_true, true_and]
      constructor
      · intro q
        by_cases z : B = 0
        · rw [z, Int.neg_zero, Int.zero_emod] at q; omega
        · rw [show -B = (n - B) + n * (-1) by omega, Int.add_mul_emod_self_left, Int.emod_eq_of_lt (by omega) (by omega)] at q; omega
      · intro q
        rw [q, show -(n - 1) = 1 + n * (-1) by omega, Int.add_mul_emod_self_left, Int.emod_eq_of_lt (by omega) (by omega)]
theorem goodB_mul {n a b : Int} (a0 : 0 ≤ a) (a1 : a < n) (b0 : 0 ≤ b) (b1 : b < n) (h2 : 3 ≤ n) (h3 : n ≤ 301) (h4 : n % 2 = 1) (hg : goodB n a = true ∨ goodB n b = true) : goodB n (a * b % n) = (goodB n a && goodB n b) := by
  rcases hg with hg | hg
  · rw [goodB_mul1 a0 a1 b0 b1 h2 h3 h4 hg, hg, Bool.true_and]
  · rw [Int.mul_comm, goodB_mul1 b0 b1 a0 a1 h2 h3 h4 hg, hg, Bool.and_true]
theorem goodB_neg {n a : Int} (a0 : 0 < a) (a1 : a < n) (h2 : 3 ≤ n) (h3 : n ≤ 301) (h4 : n % 2 = 1) : goodB n (n - a) = goodB n a := by
  have e : (n - 1) * a % n = n - a := by
    rw [show (n - 1) * a = (n - a) + n * (a - 1) by rw [Int.sub_mul, Int.mul_sub]; omega, Int.add_mul_emod_self_left, Int.emod_eq_of_lt (by omega) (by omega)]
  rw [← e]
  refine goodB_mul1 (by omega) (by omega) (by omega) a1 h2 h3 h4 ?_
  rw [goodB_iff h2]
  obtain ⟨N, rfl, ho, h, G⟩ := good_int h2 h3 h4
  have := G.neg
  rw [Int.natCast_emod, Int.natCast_pow] at this
  rw [show ((N - 1 : Nat) : Int) = (N : Int) - 1 by omega] at this
  unfold powB
  rwa [show ((N : Int) / 2).toNat = N / 2 by omega]
theorem goodB_prime {n a : Int} (a0 : 0 < a) (a1 : a < n) (h2 : 3 ≤ n) (h3 : n ≤ 301) (h4 : n % 2 = 1) (hp : primB n = true) : goodB n a = true := by
  rw [goodB_iff h2]
  obtain ⟨N, rfl, ho, h, G⟩ := good_int h2 h3 h4
  obtain ⟨A, rfl⟩ := nat_of (show 0 ≤ a by omega)
  have := G.prime hp A (by omega) (by omega)
  rw [Int.natCast_emod, Int.natCast_pow] at this
  unfold powB
  rwa [show ((N : Int) / 2).toNat = N / 2 by omega]
theorem mul_pos_prime {n a b : Int} (a0 : 0 < a) (a1 : a < n) (b0 : 0 < b) (b1 : b < n) (h2 : 3 ≤ n) (h3 : n ≤ 301) (h4 : n % 2 = 1) (hp : primB n = true) : 0 < a * b % n := by
  have h := (goodB_iff h2).mp (goodB_prime a0 a1 h2 h3 h4 hp)
  have h' := (goodB_iff h2).mp (goodB_prime b0 b1 h2 h3 h4 hp)
  have m := lemS_mul (Int.le_of_lt a0) a1 (Int.le_of_lt b0) b1 h2 h3 h4
  have p := Int.emod_nonneg (a * b) (show n ≠ 0 by omega)
  rcases Int.lt_or_eq_of_le p with p | p
  · exact p
  · rw [← p] at m
    have z : lemS 0 n = 0 := by
      unfold lemS
      rw [if_pos]
      show 1 < Nat.gcd (Int.toNat 0) n.toNat
      rw [show Int.toNat 0 = 0 from rfl, Nat.gcd_zero_left]
      omega
    rw [z] at m
    rcases Int.mul_eq_zero.mp m.symm with q | q
    · exact absurd q h.1
    · exact absurd q h'.1
theorem goodB_all {n a b : Int} (a0 : 0 < a) (a1 : a < n) (b0 : 0 < b) (b1 : b < n) (h2 : 3 ≤ n) (h3 : n ≤ 301) (h4 : n % 2 = 1) (hp : primB n = true) : goodB n a = true ∧ goodB n b = true ∧ goodB n (a * b % n) = true ∧ goodB n (n - a) = true :=
  ⟨goodB_prime a0 a1 h2 h3 h4 hp, goodB_prime b0 b1 h2 h3 h4 hp, goodB_prime (mul_pos_prime a0 a1 b0 b1 h2 h3 h4 hp) (Int.emod_lt_of_pos _ (by omega)) h2 h3 h4 hp, goodB_prime (by omega) (by omega) h2 h3 h4 hp⟩
theorem counted_upto : ∀ m : Nat, m < 7 → countedB (2 * (m : Int) + 3) = true := by decide +kernel
theorem counted_small {n : Int} (h2 : 3 ≤ n) (h3 : n ≤ 15) (h4 : n % 2 = 1) : countedB n = true := by
  have e : n = 2 * ((((n - 3) / 2).toNat : Nat) : Int) + 3 := by omega
  rw [e]
  exact counted_upto _ (by omega)
end
section
open PySem PySem.W PyProof.Rows PySem.Calls
set_option maxRecDepth 100000
theorem top_Tail : True := by
  w_top off
  trivial

noncomputable def lawFd (w : World) : FuncData := match (hd.heap_39 w.params).lookup 272 with
  | some ⟨_, _, .func fd, _⟩ => fd
  | _ => fnX (Str.ofString "") (Str.ofString "") default [] default [] .none .none .none .none none .none .none
noncomputable def lawBody (w : World) : List Stmt := match (lawFd w).body with
  | .stmts b => b
  | _ => []
noncomputable abbrev lawEnv (w : World) (L fa : Addr) (cd : Value) : Env := envOfC (lawFd w).name (lawFd w).scope L fa cd
theorem offNe {l : List (Addr × Obj)} {x a : Addr} {o : Obj} (h : ∀ p ∈ l, p.1 ≠ x) (m : (a, o) ∈ l) : x ≠ a := Ne.symm (h _ m)
theorem offA {I C D a : Addr} {o : Obj} {l : List (Addr × Obj)} (h : LCg.Off3 I C D l) (m : (a, o) ∈ l) : @Ne Nat a I ∧ @Ne Nat a C ∧ @Ne Nat a D := LCg.Off3.mem h _ m
theorem sum_rowI (x : Int) : (rowI x).sum = x := by unfold rowI; split <;> simp [*]
theorem no11a {x y z : Bool} (e : x = true ∨ y = true → z = (x && y)) (h : x = true) (q : (z != y) = true) : False := by
  revert x y z; decide
theorem no11b {x y z : Bool} (e : x = true ∨ y = true → z = (x && y)) (h0 : x = false) (h : y = true) (q : (z != x) = true) : False := by
  revert x y z; decide
structure LP (n a b ab na size wd : Int) : Prop where
  hn0 : 3 ≤ n
  hn1 : n ≤ 301
  ho : n % 2 = 1
  ha0 : 0 < a
  ha1 : a < n
  hb0 : 0 < b
  hb1 : b < n
  hab : ab = a * b % n
  hna : na = n - a
  hsz : size = 1 ∨ size = 2 ∨ size = 3
  hw0 : 9 ≤ wd
  hw1 : wd < 12
theorem LP.ab0 {n a b ab na size wd : Int} (P : LP n a b ab na size wd) : 0 ≤ ab := by rw [P.hab]; exact Int.emod_nonneg _ (by have := P.hn0; omega)
theorem LP.ab1 {n a b ab na size wd : Int} (P : LP n a b ab na size wd) : ab < n := by rw [P.hab]; exact Int.emod_lt_of_pos _ (by have := P.hn0; omega)
theorem nth0 {α : Type} (a d : α) (l : List α) : (a :: l).getD (Int.toNat 0) d = a := rfl
theorem nth1 {α : Type} (a b d : α) (l : List α) : (a :: b :: l).getD (Int.toNat 1) d = b := rfl
theorem nth2 {α : Type} (a b c d : α) (l : List α) : (a :: b :: c :: l).getD (Int.toNat 2) d = c := rfl
theorem nth3 {α : Type} (a b c e d : α) (l : List α) : (a :: b :: c :: e :: l).getD (Int.toNat 3) d = e := rfl
local macro_rules | `(tactic| walk_at "CompSrc") => `(tactic| (k_here; k_dflt (refine LCg.CompSrc.ledger (by rfl) (by k_asm) (by k_asm) (by k_mem) (by first | size_fits | exact Nat.le_of_ble_eq_true rfl) ?_; intro g'; lcg_lit)))
local macro_rules | `(tactic| walk_at "CompRest") => `(tactic| (with_unfolding_all first
  | (refine LCg.CompRest.succ ?_; intro v' I' oI' C' oC' D' m' h' tk' E' hv' hC' hx' F' N' off' ne'; (first | lcg_open hv' | (obtain ⟨t9', hv9'⟩ := hv'; subst hv9')))
  | refine LCg.CompRest.zero ?_))
local macro_rules | `(tactic| lcg_off) => `(tactic| first | exact True.intro | (rename LCg.Off3 _ _ _ _ => hz'; exact hz') | (refine And.intro ⟨offNe (by assumption) (by k_mem), offNe (by assumption) (by k_mem), offNe (by assumption) (by k_mem)⟩ ?_; lcg_off))
section

section
theorem kw_25 : True := by
  k_with_none
  k_with "execs cons" => (focus (dsimp only at *))
  k_with "call ref" => (focus (k_here; (with_reducible show wpAny _ _ (call (Value.ref 245) _) _ _ _); k_dflt ((refine' common_spec ?_ ?_ ?_ ?_ ?_; walk_at "pp"; (· kat_tups); walk_at "pp"; (· nest_cls); walk_at "pp"; (· kaf_pre); walk_at "pp"; (· kaf_pre); walk_at "pp")); intro _ _ _ _ hv' _ _; subst hv'; (try dsimp only)))
  k_with "FinE" => (focus ((repeat (rename LCg.NsObj _ _ => hz'; clear hz')); (repeat (rename LCg.Off3 _ _ _ _ => hz'; clear hz')); (repeat (rename _ ∧ _ => hz'; clear hz')); (repeat (rename @Ne Nat _ _ => hz'; clear hz')); (unfold LCg.FinE); intro _ _ _ _ N' o1'; clear o1'; (try dsimp only [List.nil_append, List.cons_append] at N'); revert N'; intro _; (try dsimp only)))
  k_with "FinA" => (focus ((repeat (rename LCg.NsObj _ _ => hz'; clear hz')); (repeat (rename LCg.Off3 _ _ _ _ => hz'; clear hz')); (repeat (rename _ ∧ _ => hz'; clear hz')); (repeat (rename @Ne Nat _ _ => hz'; clear hz')); (unfold LCg.FinA); intro _ _ _ _ N' o1'; clear o1'; (try dsimp only [List.nil_append, List.cons_append] at N'); revert N'; intro _; (try dsimp only)))
  k_with "CompEnd" => (focus (first | (refine LCg.CompEnd.intro (by k_asm) (by k_asm) _ (fun _ hp => hp) (by assumption) (by lcg_src) ?_) | lcg_end))
  k_with "call ref" => (focus (k_here; (with_reducible show wpAny _ _ (call (Value.ref 250) _) _ _ _); k_dflt (refine' lemma_spec ?_ ?_ ?_ ?_ ?_ ?_ ?_; walk_at "pp"; (· kat_tups); walk_at "pp"; rotate_left; walk_at "pp"; (· tb_start); walk_at "pp"; (· tb_start); walk_at "pp"; (· tb_start); walk_at "pp"; (· tb_start); walk_at "pp"; rotate_left; walk_at "pp"; (· kd_adr); walk_at "pp"); intro _ _ _ _ hv' _ _; subst hv'; (try dsimp only)))
  k_with "call ref" => (focus (k_here; (with_reducible show wpAny _ _ (call (Value.ref 262) _) _ _ _); k_dflt (refine' is_prime_spec ?_ ?_ ?_ ?_ ?_; walk_at "pp"; (· kat_tups); walk_at "pp"; rotate_left; walk_at "pp"; (· tb_start); walk_at "pp"; (· tb_start); walk_at "pp"; rotate_left; walk_at "pp"; (· kd_adr); walk_at "pp"); intro _ _ _ _; (try dsimp only)))
  k_with "call ref" => (focus (k_here; (with_reducible show wpAny _ _ (call (Value.ref 267) _) _ _ _); refine Hold.intro ?_))
  k_with "binaryOp Mult int int" => (focus (k_here; simp only [nth0, nth1, nth2, nth3]))
  trivial
set_option maxHeartbeats 4000000 in
theorem st12 {prog : Program} {w : World} {dp un : Nat} {gd : Option (List Code)} {outer : List Env} {h₀ : Heap} {L fa : Addr} {cd : Value} {m : Str → Option Value} {s : Shared} {QF : Flow → Shared → Prop} {E : Value → Shared → Prop}
    {c : Addr} {n a b ab na size wd : Int} {tn tsz tw tv : Tok} {oN oS oW oc : Obj} {vs : Array Value}
    (P₀ : LP n a b ab na size wd) (hd : dp + 25 < recursionLimit) (hu : un + 500 < cLine)
    (dN : oN.data = .cell (some (.int n tn))) (dS : oS.data = .cell (some (.int size tsz))) (dW : oW.data = .cell (some (.int wd tw))) (d1 : oc.data = .fields vs) (d2 : vs[1]? = some (.str tq tv))
    (C : Cal w (lawEnv w L fa cd) outer h₀ L m [(L + 1 + 1 + 1, oS), (L + 1 + 1, oW), (L + 1, oN), (170, tabObj (tabOf (some c))), (c, oc)] s.heap)
    
    (ret : ∀ h' tk' m', Fr h₀ L h' m' → News h₀ L h' [(170, tabObj (tabOf (some c)))] → QF (.ret (.bool true)) { s with heap := h', toks := tk' }) :
    wpAny (model prog w) (AR dp un gd (lawEnv w L fa cd) outer) (execs ((lawBody w).drop 12) (lawEnv w L fa cd)) QF E s := by
  have F := C.fr
  have N := C.led
  obtain ⟨A₀, base, p, loose, mean, mg, mb, B, F0, X, T, hf, hke⟩ := C.ex
  clear F0  C
  have hab0 := P₀.ab0
  have hab1 := P₀.ab1
  have P := P₀
  obtain ⟨hn0, hn1, ho, ha0, ha1, hb0, hb1, hab, hna, hsz, hw0, hw1⟩ := P₀
  have hb : (lawBody w).drop 12 = (lawBody w).drop 12 := rfl
  with_unfolding_all (conv at hb => lhs; whnf)
  rw [← hb]
  clear hb
  (try k_unmd)
  (try k_fold)
  k_steps
  · show QF (.ret (.bool (decide (15 < n)))) _
    rw [decide_eq_true (by assumption)]
    exact ret _ _ _ F (News.pickD (by k_mem) N News.nil)
  · unfold Hold
    refine' counted_spec (c := c) (Cal.mk' (by k_asm) (by k_asm) (by k_asm) (by k_asm) (News.pickD (by k_mem) N News.nil) hf hke) ?d (News.pickD (by k_mem) N News.nil) ⟨c, oc, vs, tv, rfl, (N (c, oc) (by k_mem)).1, d1, d2⟩ (fun a h0 h1 => jac_lem h0 h1 hn0 hn1 ho) (by omega) (by omega) ho hw0 hw1 hsz (by omega) ?_
    case d => omega
    intro h' tk' F' N'
    show QF (.ret (.bool (countedB n))) _
    rw [counted_small hn0 (by omega) ho]
    exact ret _ _ _ F' N'
end
section
theorem kw_26 : True := by
  k_with_none
  k_with "execs cons" => (focus (dsimp only at *))
  k_with "call ref" => (focus (k_here; (with_reducible show wpAny _ _ (call (Value.ref 245) _) _ _ _); k_dflt ((refine' common_spec ?_ ?_ ?_ ?_ ?_; walk_at "pp"; (· kat_tups); walk_at "pp"; (· nest_cls); walk_at "pp"; (· kaf_pre); walk_at "pp"; (· kaf_pre); walk_at "pp")); intro _ _ _ _ hv' _ _; subst hv'; (try dsimp only)))
  k_with "FinE" => (focus ((repeat (rename LCg.NsObj _ _ => hz'; clear hz')); (repeat (rename LCg.Off3 _ _ _ _ => hz'; clear hz')); (repeat (rename _ ∧ _ => hz'; clear hz')); (repeat (rename @Ne Nat _ _ => hz'; clear hz')); (unfold LCg.FinE); intro _ _ _ _ N' o1'; clear o1'; (try dsimp only [List.nil_append, List.cons_append] at N'); revert N'; intro _; (try dsimp only)))
  k_with "FinA" => (focus ((repeat (rename LCg.NsObj _ _ => hz'; clear hz')); (repeat (rename LCg.Off3 _ _ _ _ => hz'; clear hz')); (repeat (rename _ ∧ _ => hz'; clear hz')); (repeat (rename @Ne Nat _ _ => hz'; clear hz')); (unfold LCg.FinA); intro _ _ _ _ N' o1'; clear o1'; (try dsimp only [List.nil_append, List.cons_append] at N'); revert N'; intro _; (try dsimp only)))
  k_with "CompEnd" => (focus (first | (refine LCg.CompEnd.intro (by k_asm) (by k_asm) _ (fun _ hp => hp) (by assumption) (by lcg_src) ?_) | lcg_end))
  k_with "call ref" => (focus (k_here; (with_reducible show wpAny _ _ (call (Value.ref 250) _) _ _ _); k_dflt (refine' lemma_spec ?_ ?_ ?_ ?_ ?_ ?_ ?_; walk_at "pp"; (· kat_tups); walk_at "pp"; rotate_left; walk_at "pp"; (· tb_start); walk_at "pp"; (· tb_start); walk_at "pp"; (· tb_start); walk_at "pp"; (· tb_start); walk_at "pp"; rotate_left; walk_at "pp"; (· kd_adr); walk_at "pp"); intro _ _ _ _ hv' _ _; subst hv'; (try dsimp only)))
  k_with "call ref" => (focus (k_here; (with_reducible show wpAny _ _ (call (Value.ref 262) _) _ _ _); k_dflt (refine' is_prime_spec ?_ ?_ ?_ ?_ ?_; walk_at "pp"; (· kat_tups); walk_at "pp"; rotate_left; walk_at "pp"; (· tb_start); walk_at "pp"; (· tb_start); walk_at "pp"; rotate_left; walk_at "pp"; (· kd_adr); walk_at "pp"); intro _ _ _ _; (try dsimp only)))
  k_with "call ref" => (focus (k_here; (with_reducible show wpAny _ _ (call (Value.ref 267) _) _ _ _); refine Hold.intro ?_))
  k_with "binaryOp Mult int int" => (focus (k_here; simp only [nth0, nth1, nth2, nth3]))
  k_with "execs cons" => (focus (k_here; (with_reducible show wpAny _ _ (execs [_] _) _ _ _); refine Hold.intro ?_))
  trivial
set_option maxHeartbeats 4000000 in
theorem st11 {prog : Program} {w : World} {dp un : Nat} {gd : Option (List Code)} {outer : List Env} {h₀ : Heap} {L fa : Addr} {cd : Value} {m : Str → Option Value} {s : Shared} {QF : Flow → Shared → Prop} {E : Value → Shared → Prop}
    {c G : Addr} {n a b ab na size wd : Int} {tn tsz tw tv : Tok} {oN oS oW oc : Obj} {vs : Array Value}
    (P₀ : LP n a b ab na size wd) (hd : dp + 25 < recursionLimit) (hu : un + 500 < cLine)
    (dN : oN.data = .cell (some (.int n tn))) (dS : oS.data = .cell (some (.int size tsz))) (dW : oW.data = .cell (some (.int wd tw))) (d1 : oc.data = .fields vs) (d2 : vs[1]? = some (.str tq tv))
    (C : Cal w (lawEnv w L fa cd) outer h₀ L m [(G, LCg.lst [.bool (goodB n a), .bool (goodB n b), .bool (goodB n ab), .bool (goodB n na)]), (L + 1 + 1 + 1, oS), (L + 1 + 1, oW), (L + 1, oN), (170, tabObj (tabOf (some c))), (c, oc)] s.heap)
    (m0 : m (Str.ofString "good") = some (.ref G))
    (ret : ∀ h' tk' m', Fr h₀ L h' m' → News h₀ L h' [(170, tabObj (tabOf (some c)))] → QF (.ret (.bool true)) { s with heap := h', toks := tk' }) :
    wpAny (model prog w) (AR dp un gd (lawEnv w L fa cd) outer) (execs ((lawBody w).drop 11) (lawEnv w L fa cd)) QF E s := by
  have F := ksw_fr (stored := []) (ps := [(Str.ofString "good", .ref G)]) (m₀ := m) (by intro p hp; simp only [List.mem_cons, List.not_mem_nil, or_false] at hp; rcases hp with rfl <;> assumption) (fun _ _ _ => rfl) C.fr
  have N := C.led
  obtain ⟨A₀, base, p, loose, mean, mg, mb, B, F0, X, T, hf, hke⟩ := C.ex
  clear F0 m0 C
  have hab0 := P₀.ab0
  have hab1 := P₀.ab1
  have P := P₀
  obtain ⟨hn0, hn1, ho, ha0, ha1, hb0, hb1, hab, hna, hsz, hw0, hw1⟩ := P₀
  have e1 : goodB n a = true ∨ goodB n b = true → goodB n ab = (goodB n a && goodB n b) := by rw [hab]; exact goodB_mul (by omega) ha1 (by omega) hb1 hn0 hn1 ho
  have hb : (lawBody w).drop 11 = (lawBody w).drop 11 := rfl
  with_unfolding_all (conv at hb => lhs; whnf)
  rw [← hb]
  clear hb
  (try k_unmd)
  (try k_fold)
  k_steps
  · rename_i a1 a9
    exact (no11a e1 a1 a9).elim
  · have N9 := N
    unfold Hold
    have hb : (lawBody w).drop 12 = (lawBody w).drop 12 := rfl
    with_unfolding_all (conv at hb => lhs; whnf)
    (try k_unmd)
    rw [hb]
    exact st12 P hd hu dN dS dW d1 d2 (Cal.mk' (by k_asm) (by k_asm) (by k_asm) (by k_asm) (News.pickD (by k_mem) N9 (News.pickD (by k_mem) N9 (News.pickD (by k_mem) N9 (News.pickD (by k_mem) N9 (News.pickD (by k_mem) N9 News.nil))))) hf hke)  ret
  · rename_i a1 a2 a9
    exact (no11b e1 a1 a2 a9).elim
  · have N9 := N
    unfold Hold
    have hb : (lawBody w).drop 12 = (lawBody w).drop 12 := rfl
    with_unfolding_all (conv at hb => lhs; whnf)
    (try k_unmd)
    rw [hb]
    exact st12 P hd hu dN dS dW d1 d2 (Cal.mk' (by k_asm) (by k_asm) (by k_asm) (by k_asm) (News.pickD (by k_mem) N9 (News.pickD (by k_mem) N9 (News.pickD (by k_mem) N9 (News.pickD (by k_mem) N9 (News.pickD (by k_mem) N9 News.nil))))) hf hke)  ret
  · have N9 := N
    unfold Hold
    have hb : (lawBody w).drop 12 = (lawBody w).drop 12 := rfl
    with_unfolding_all (conv at hb => lhs; whnf)
    (try k_unmd)
    rw [hb]
    exact st12 P hd hu dN dS dW d1 d2 (Cal.mk' (by k_asm) (by k_asm) (by k_asm) (by k_asm) (News.pickD (by k_mem) N9 (News.pickD (by k_mem) N9 (News.pickD (by k_mem) N9 (News.pickD (by k_mem) N9 (News.pickD (by k_mem) N9 News.nil))))) hf hke)  ret
end
section
theorem kw_27 : True := by
  k_with_none
  k_with "execs cons" => (focus (dsimp only at *))
  k_with "call ref" => (focus (k_here; (with_reducible show wpAny _ _ (call (Value.ref 245) _) _ _ _); k_dflt ((refine' common_spec ?_ ?_ ?_ ?_ ?_; walk_at "pp"; (· kat_tups); walk_at "pp"; (· nest_cls); walk_at "pp"; (· kaf_pre); walk_at "pp"; (· kaf_pre); walk_at "pp")); intro _ _ _ _ hv' _ _; subst hv'; (try dsimp only)))
  k_with "FinE" => (focus ((repeat (rename LCg.NsObj _ _ => hz'; clear hz')); (repeat (rename LCg.Off3 _ _ _ _ => hz'; clear hz')); (repeat (rename _ ∧ _ => hz'; clear hz')); (repeat (rename @Ne Nat _ _ => hz'; clear hz')); (unfold LCg.FinE); intro _ _ _ _ N' o1'; clear o1'; (try dsimp only [List.nil_append, List.cons_append] at N'); revert N'; intro _; (try dsimp only)))
  k_with "FinA" => (focus ((repeat (rename LCg.NsObj _ _ => hz'; clear hz')); (repeat (rename LCg.Off3 _ _ _ _ => hz'; clear hz')); (repeat (rename _ ∧ _ => hz'; clear hz')); (repeat (rename @Ne Nat _ _ => hz'; clear hz')); (unfold LCg.FinA); intro _ _ _ _ N' o1'; clear o1'; (try dsimp only [List.nil_append, List.cons_append] at N'); revert N'; intro _; (try dsimp only)))
  k_with "CompEnd" => (focus (first | (refine LCg.CompEnd.intro (by k_asm) (by k_asm) _ (fun _ hp => hp) (by assumption) (by lcg_src) ?_) | lcg_end))
  k_with "call ref" => (focus (k_here; (with_reducible show wpAny _ _ (call (Value.ref 250) _) _ _ _); k_dflt (refine' lemma_spec ?_ ?_ ?_ ?_ ?_ ?_ ?_; walk_at "pp"; (· kat_tups); walk_at "pp"; rotate_left; walk_at "pp"; (· tb_start); walk_at "pp"; (· tb_start); walk_at "pp"; (· tb_start); walk_at "pp"; (· tb_start); walk_at "pp"; rotate_left; walk_at "pp"; (· kd_adr); walk_at "pp"); intro _ _ _ _ hv' _ _; subst hv'; (try dsimp only)))
  k_with "call ref" => (focus (k_here; (with_reducible show wpAny _ _ (call (Value.ref 262) _) _ _ _); k_dflt (refine' is_prime_spec ?_ ?_ ?_ ?_ ?_; walk_at "pp"; (· kat_tups); walk_at "pp"; rotate_left; walk_at "pp"; (· tb_start); walk_at "pp"; (· tb_start); walk_at "pp"; rotate_left; walk_at "pp"; (· kd_adr); walk_at "pp"); intro _ _ _ _; (try dsimp only)))
  k_with "call ref" => (focus (k_here; (with_reducible show wpAny _ _ (call (Value.ref 267) _) _ _ _); refine Hold.intro ?_))
  k_with "binaryOp Mult int int" => (focus (k_here; simp only [nth0, nth1, nth2, nth3]))
  k_with "execs cons" => (focus (k_here; (with_reducible show wpAny _ _ (execs [_, _] _) _ _ _); refine Hold.intro ?_))
  trivial
set_option maxHeartbeats 4000000 in
theorem st10 {prog : Program} {w : World} {dp un : Nat} {gd : Option (List Code)} {outer : List Env} {h₀ : Heap} {L fa : Addr} {cd : Value} {m : Str → Option Value} {s : Shared} {QF : Flow → Shared → Prop} {E : Value → Shared → Prop}
    {c G : Addr} {n a b ab na size wd : Int} {tn tsz tw tv : Tok} {oN oS oW oc : Obj} {vs : Array Value}
    (P₀ : LP n a b ab na size wd) (hd : dp + 25 < recursionLimit) (hu : un + 500 < cLine)
    (dN : oN.data = .cell (some (.int n tn))) (dS : oS.data = .cell (some (.int size tsz))) (dW : oW.data = .cell (some (.int wd tw))) (d1 : oc.data = .fields vs) (d2 : vs[1]? = some (.str tq tv))
    (C : Cal w (lawEnv w L fa cd) outer h₀ L m [(G, LCg.lst [.bool (goodB n a), .bool (goodB n b), .bool (goodB n ab), .bool (goodB n na)]), (L + 1 + 1 + 1, oS), (L + 1 + 1, oW), (L + 1, oN), (170, tabObj (tabOf (some c))), (c, oc)] s.heap)
    (m0 : m (Str.ofString "good") = some (.ref G))
    (ret : ∀ h' tk' m', Fr h₀ L h' m' → News h₀ L h' [(170, tabObj (tabOf (some c)))] → QF (.ret (.bool true)) { s with heap := h', toks := tk' }) :
    wpAny (model prog w) (AR dp un gd (lawEnv w L fa cd) outer) (execs ((lawBody w).drop 10) (lawEnv w L fa cd)) QF E s := by
  have F := ksw_fr (stored := []) (ps := [(Str.ofString "good", .ref G)]) (m₀ := m) (by intro p hp; simp only [List.mem_cons, List.not_mem_nil, or_false] at hp; rcases hp with rfl <;> assumption) (fun _ _ _ => rfl) C.fr
  have N := C.led
  obtain ⟨A₀, base, p, loose, mean, mg, mb, B, F0, X, T, hf, hke⟩ := C.ex
  clear F0 m0 C
  have hab0 := P₀.ab0
  have hab1 := P₀.ab1
  have P := P₀
  obtain ⟨hn0, hn1, ho, ha0, ha1, hb0, hb1, hab, hna, hsz, hw0, hw1⟩ := P₀
  have e1 : primB n = true → goodB n a = true ∧ goodB n b = true ∧ goodB n ab = true ∧ goodB n na = true := by rw [hab, hna]; exact goodB_all ha0 ha1 hb0 hb1 hn0 hn1 ho
  have hb : (lawBody w).drop 10 = (lawBody w).drop 10 := rfl
  with_unfolding_all (conv at hb => lhs; whnf)
  rw [← hb]
  clear hb
  (try k_unmd)
  (try k_fold)
  k_steps
  · rename_i N9 l9 a9
    unfold Hold
    have hb : (lawBody w).drop 11 = (lawBody w).drop 11 := rfl
    with_unfolding_all (conv at hb => lhs; whnf)
    (try k_unmd)
    rw [hb]
    exact st11 P hd hu dN dS dW d1 d2 (Cal.mk' (by k_asm) (by k_asm) (by k_asm) (by k_asm) (News.pickD (by k_mem) N9 (News.pickD (by k_mem) N9 (News.pickD (by k_mem) N9 (News.pickD (by k_mem) N9 (News.pickD (by k_mem) N9 (News.pickD (by k_mem) N9 News.nil)))))) hf hke) (by rfl) ret
  · rename_i a9
    obtain ⟨q1, q2, q3, q4⟩ := e1 (by assumption)
    rw [q1, q2, q3, q4] at a9
    cases a9
  · rename_i N9 a9
    unfold Hold
    have hb : (lawBody w).drop 11 = (lawBody w).drop 11 := rfl
    with_unfolding_all (conv at hb => lhs; whnf)
    (try k_unmd)
    rw [hb]
    exact st11 P hd hu dN dS dW d1 d2 (Cal.mk' (by k_asm) (by k_asm) (by k_asm) (by k_asm) (News.pickD (by k_mem) N9 (News.pickD (by k_mem) N9 (News.pickD (by k_mem) N9 (News.pickD (by k_mem) N9 (News.pickD (by k_mem) N9 (News.pickD (by k_mem) N9 News.nil)))))) hf hke) (by rfl) ret
end
section
theorem kw_28 : True := by
  k_with_none
  k_with "execs cons" => (focus (dsimp only at *))
  k_with "call ref" => (focus (k_here; (with_reducible show wpAny _ _ (call (Value.ref 245) _) _ _ _); k_dflt ((refine' common_spec ?_ ?_ ?_ ?_ ?_; walk_at "pp"; (· kat_tups); walk_at "pp"; (· nest_cls); walk_at "pp"; (· kaf_pre); walk_at "pp"; (· kaf_pre); walk_at "pp")); intro _ _ _ _ hv' _ _; subst hv'; (try dsimp only)))
  k_with "FinE" => (focus ((repeat (rename LCg.NsObj _ _ => hz'; clear hz')); (repeat (rename LCg.Off3 _ _ _ _ => hz'; clear hz')); (repeat (rename _ ∧ _ => hz'; clear hz')); (repeat (rename @Ne Nat _ _ => hz'; clear hz')); (unfold LCg.FinE); intro _ _ _ _ N' o1'; clear o1'; (try dsimp only [List.nil_append, List.cons_append] at N'); revert N'; intro _; (try dsimp only)))
  k_with "FinA" => (focus ((repeat (rename LCg.NsObj _ _ => hz'; clear hz')); (repeat (rename LCg.Off3 _ _ _ _ => hz'; clear hz')); (repeat (rename _ ∧ _ => hz'; clear hz')); (repeat (rename @Ne Nat _ _ => hz'; clear hz')); (unfold LCg.FinA); intro _ _ _ _ N' o1'; clear o1'; (try dsimp only [List.nil_append, List.cons_append] at N'); revert N'; intro _; (try dsimp only)))
  k_with "CompEnd" => (focus (first | (refine LCg.CompEnd.intro (by k_asm) (by k_asm) _ (fun _ hp => hp) (by assumption) (by lcg_src) ?_) | lcg_end))
  k_with "call ref" => (focus (k_here; (with_reducible show wpAny _ _ (call (Value.ref 250) _) _ _ _); k_dflt (refine' lemma_spec ?_ ?_ ?_ ?_ ?_ ?_ ?_; walk_at "pp"; (· kat_tups); walk_at "pp"; rotate_left; walk_at "pp"; (· tb_start); walk_at "pp"; (· tb_start); walk_at "pp"; (· tb_start); walk_at "pp"; (· tb_start); walk_at "pp"; rotate_left; walk_at "pp"; (· kd_adr); walk_at "pp"); intro _ _ _ _ hv' _ _; subst hv'; (try dsimp only)))
  k_with "call ref" => (focus (k_here; (with_reducible show wpAny _ _ (call (Value.ref 262) _) _ _ _); k_dflt (refine' is_prime_spec ?_ ?_ ?_ ?_ ?_; walk_at "pp"; (· kat_tups); walk_at "pp"; rotate_left; walk_at "pp"; (· tb_start); walk_at "pp"; (· tb_start); walk_at "pp"; rotate_left; walk_at "pp"; (· kd_adr); walk_at "pp"); intro _ _ _ _; (try dsimp only)))
  k_with "call ref" => (focus (k_here; (with_reducible show wpAny _ _ (call (Value.ref 267) _) _ _ _); refine Hold.intro ?_))
  k_with "binaryOp Mult int int" => (focus (k_here; simp only [nth0, nth1, nth2, nth3]))
  k_with "execs cons" => (focus (k_here; (with_reducible show wpAny _ _ (execs [_, _, _] _) _ _ _); refine Hold.intro ?_))
  trivial
set_option maxHeartbeats 4000000 in
theorem st9 {prog : Program} {w : World} {dp un : Nat} {gd : Option (List Code)} {outer : List Env} {h₀ : Heap} {L fa : Addr} {cd : Value} {m : Str → Option Value} {s : Shared} {QF : Flow → Shared → Prop} {E : Value → Shared → Prop}
    {c G P : Addr} {n a b ab na size wd : Int} {tn tsz tw tv p1 p2 p3 p4 : Tok} {oN oS oW oc : Obj} {vs : Array Value}
    (P₀ : LP n a b ab na size wd) (hd : dp + 25 < recursionLimit) (hu : un + 500 < cLine)
    (dN : oN.data = .cell (some (.int n tn))) (dS : oS.data = .cell (some (.int size tsz))) (dW : oW.data = .cell (some (.int wd tw))) (d1 : oc.data = .fields vs) (d2 : vs[1]? = some (.str tq tv))
    (C : Cal w (lawEnv w L fa cd) outer h₀ L m [(P, LCg.lst [.int (powB n a) p1, .int (powB n b) p2, .int (powB n ab) p3, .int (powB n na) p4]), (G, LCg.lst [.bool (goodB n a), .bool (goodB n b), .bool (goodB n ab), .bool (goodB n na)]), (L + 1 + 1 + 1, oS), (L + 1 + 1, oW), (L + 1, oN), (170, tabObj (tabOf (some c))), (c, oc)] s.heap)
    (m0 : m (Str.ofString "powers") = some (.ref P)) (m1 : m (Str.ofString "good") = some (.ref G))
    (ret : ∀ h' tk' m', Fr h₀ L h' m' → News h₀ L h' [(170, tabObj (tabOf (some c)))] → QF (.ret (.bool true)) { s with heap := h', toks := tk' }) :
    wpAny (model prog w) (AR dp un gd (lawEnv w L fa cd) outer) (execs ((lawBody w).drop 9) (lawEnv w L fa cd)) QF E s := by
  have F := ksw_fr (stored := []) (ps := [(Str.ofString "powers", .ref P), (Str.ofString "good", .ref G)]) (m₀ := m) (by intro p hp; simp only [List.mem_cons, List.not_mem_nil, or_false] at hp; rcases hp with rfl | rfl <;> assumption) (fun _ _ _ => rfl) C.fr
  have N := C.led
  obtain ⟨A₀, base, p, loose, mean, mg, mb, B, F0, X, T, hf, hke⟩ := C.ex
  clear F0 m0 m1 C
  have hab0 := P₀.ab0
  have hab1 := P₀.ab1
  have P := P₀
  obtain ⟨hn0, hn1, ho, ha0, ha1, hb0, hb1, hab, hna, hsz, hw0, hw1⟩ := P₀
  obtain ⟨s1, s2⟩ := powB_lt (a := a) hn0
  obtain ⟨s3, s4⟩ := powB_lt (a := b) hn0
  have e1 : powB n ab = (powB n a * powB n b).fmod n := by rw [Int.fmod_eq_emod_of_nonneg _ (by omega), hab]; exact powB_mul
  have e2 : goodB n na = goodB n a := by rw [hna]; exact goodB_neg ha0 ha1 hn0 hn1 ho
  have hb : (lawBody w).drop 9 = (lawBody w).drop 9 := rfl
  with_unfolding_all (conv at hb => lhs; whnf)
  rw [← hb]
  clear hb
  (try k_unmd)
  (try k_fold)
  k_steps
  · rename_i a9
    exact absurd e1 a9
  · rename_i a9
    rw [e2] at a9
    simp at a9
  · have N9 := N
    unfold Hold
    have hb : (lawBody w).drop 10 = (lawBody w).drop 10 := rfl
    with_unfolding_all (conv at hb => lhs; whnf)
    (try k_unmd)
    rw [hb]
    exact st10 P hd hu dN dS dW d1 d2 (Cal.mk' (by k_asm) (by k_asm) (by k_asm) (by k_asm) (News.pickD (by k_mem) N9 (News.pickD (by k_mem) N9 (News.pickD (by k_mem) N9 (News.pickD (by k_mem) N9 (News.pickD (by k_mem) N9 (News.pickD (by k_mem) N9 News.nil)))))) hf hke) (by rfl) ret
end
section
theorem kw_29 : True := by
  k_with_none
  k_with "execs cons" => (focus (dsimp only at *))
  k_with "call ref" => (focus (k_here; (with_reducible show wpAny _ _ (call (Value.ref 245) _) _ _ _); k_dflt ((refine' common_spec ?_ ?_ ?_ ?_ ?_; walk_at "pp"; (· kat_tups); walk_at "pp"; (· nest_cls); walk_at "pp"; (· kaf_pre); walk_at "pp"; (· kaf_pre); walk_at "pp")); intro _ _ _ _ hv' _ _; subst hv'; (try dsimp only)))
  k_with "FinE" => (focus ((repeat (rename LCg.NsObj _ _ => hz'; clear hz')); (repeat (rename LCg.Off3 _ _ _ _ => hz'; clear hz')); (repeat (rename _ ∧ _ => hz'; clear hz')); (repeat (rename @Ne Nat _ _ => hz'; clear hz')); (unfold LCg.FinE); intro _ _ _ _ N' o1'; clear o1'; (try dsimp only [List.nil_append, List.cons_append] at N'); revert N'; intro _; (try dsimp only)))
  k_with "FinA" => (focus ((repeat (rename LCg.NsObj _ _ => hz'; clear hz')); (repeat (rename LCg.Off3 _ _ _ _ => hz'; clear hz')); (repeat (rename _ ∧ _ => hz'; clear hz')); (repeat (rename @Ne Nat _ _ => hz'; clear hz')); (unfold LCg.FinA); intro _ _ _ _ N' o1'; clear o1'; (try dsimp only [List.nil_append, List.cons_append] at N'); revert N'; intro _; (try dsimp only)))
  k_with "CompEnd" => (focus (first | (refine LCg.CompEnd.intro (by k_asm) (by k_asm) _ (fun _ hp => hp) (by assumption) (by lcg_src) ?_) | lcg_end))
  k_with "call ref" => (focus (k_here; (with_reducible show wpAny _ _ (call (Value.ref 250) _) _ _ _); k_dflt (refine' lemma_spec ?_ ?_ ?_ ?_ ?_ ?_ ?_; walk_at "pp"; (· kat_tups); walk_at "pp"; rotate_left; walk_at "pp"; (· tb_start); walk_at "pp"; (· tb_start); walk_at "pp"; (· tb_start); walk_at "pp"; (· tb_start); walk_at "pp"; rotate_left; walk_at "pp"; (· kd_adr); walk_at "pp"); intro _ _ _ _ hv' _ _; subst hv'; (try dsimp only)))
  k_with "call ref" => (focus (k_here; (with_reducible show wpAny _ _ (call (Value.ref 262) _) _ _ _); k_dflt (refine' is_prime_spec ?_ ?_ ?_ ?_ ?_; walk_at "pp"; (· kat_tups); walk_at "pp"; rotate_left; walk_at "pp"; (· tb_start); walk_at "pp"; (· tb_start); walk_at "pp"; rotate_left; walk_at "pp"; (· kd_adr); walk_at "pp"); intro _ _ _ _; (try dsimp only)))
  k_with "call ref" => (focus (k_here; (with_reducible show wpAny _ _ (call (Value.ref 267) _) _ _ _); refine Hold.intro ?_))
  k_with "binaryOp Mult int int" => (focus (k_here; simp only [nth0, nth1, nth2, nth3]))
  k_with "execs cons" => (focus (k_here; (with_reducible show wpAny _ _ (execs [_, _, _, _] _) _ _ _); refine Hold.intro ?_))
  trivial
set_option maxHeartbeats 4000000 in
theorem st8 {prog : Program} {w : World} {dp un : Nat} {gd : Option (List Code)} {outer : List Env} {h₀ : Heap} {L fa : Addr} {cd : Value} {m : Str → Option Value} {s : Shared} {QF : Flow → Shared → Prop} {E : Value → Shared → Prop}
    {c D T1 T2 T3 T4 r1 r2 r3 r4 G : Addr} {n a b ab na size wd : Int} {tn tsz tw tv t1 t2 t3 t4 : Tok} {k1 k2 k3 k4 c1 c2 c3 c4 : Nat} {w1 w2 w3 w4 : List Value} {oN oS oW oc : Obj} {vs : Array Value}
    (P₀ : LP n a b ab na size wd) (hd : dp + 25 < recursionLimit) (hu : un + 500 < cLine)
    (dN : oN.data = .cell (some (.int n tn))) (dS : oS.data = .cell (some (.int size tsz))) (dW : oW.data = .cell (some (.int wd tw))) (d1 : oc.data = .fields vs) (d2 : vs[1]? = some (.str tq tv))
    (C : Cal w (lawEnv w L fa cd) outer h₀ L m [(G, LCg.lst [.bool (goodB n a), .bool (goodB n b), .bool (goodB n ab), .bool (goodB n na)]), (D, LCg.lst [.ref T1, .ref T2, .ref T3, .ref T4]), (T1, tupO n a r1 t1 k1), (r1, W.listOf w1.toArray c1), (T2, tupO n b r2 t2 k2), (r2, W.listOf w2.toArray c2), (T3, tupO n ab r3 t3 k3), (r3, W.listOf w3.toArray c3), (T4, tupO n na r4 t4 k4), (r4, W.listOf w4.toArray c4), (L + 1 + 1 + 1, oS), (L + 1 + 1, oW), (L + 1, oN), (170, tabObj (tabOf (some c))), (c, oc)] s.heap)
    (m0 : m (Str.ofString "told") = some (.ref D)) (m1 : m (Str.ofString "good") = some (.ref G)) (hI1 : IntsAre w1 (rowI (powB n a))) (hI2 : IntsAre w2 (rowI (powB n b))) (hI3 : IntsAre w3 (rowI (powB n ab))) (hI4 : IntsAre w4 (rowI (powB n na)))
    (ret : ∀ h' tk' m', Fr h₀ L h' m' → News h₀ L h' [(170, tabObj (tabOf (some c)))] → QF (.ret (.bool true)) { s with heap := h', toks := tk' }) :
    wpAny (model prog w) (AR dp un gd (lawEnv w L fa cd) outer) (execs ((lawBody w).drop 8) (lawEnv w L fa cd)) QF E s := by
  have F := ksw_fr (stored := []) (ps := [(Str.ofString "told", .ref D), (Str.ofString "good", .ref G)]) (m₀ := m) (by intro p hp; simp only [List.mem_cons, List.not_mem_nil, or_false] at hp; rcases hp with rfl | rfl <;> assumption) (fun _ _ _ => rfl) C.fr
  have N := C.led
  obtain ⟨Z, hZ⟩ : ∃ Z : List (Addr × Obj), Z = [(G, LCg.lst [.bool (goodB n a), .bool (goodB n b), .bool (goodB n ab), .bool (goodB n na)]), (L + 1 + 1 + 1, oS), (L + 1 + 1, oW), (L + 1, oN), (170, tabObj (tabOf (some c))), (c, oc)] := ⟨_, rfl⟩
  have NZ : News h₀ L s.heap ((D, LCg.lst [.ref T1, .ref T2, .ref T3, .ref T4]) :: (T1, tupO n a r1 t1 k1) :: (r1, W.listOf w1.toArray c1) :: (T2, tupO n b r2 t2 k2) :: (r2, W.listOf w2.toArray c2) :: (T3, tupO n ab r3 t3 k3) :: (r3, W.listOf w3.toArray c3) :: (T4, tupO n na r4 t4 k4) :: (r4, W.listOf w4.toArray c4) :: Z) := by
    rw [hZ]
    exact (News.pickD (by k_mem) N (News.pickD (by k_mem) N (News.pickD (by k_mem) N (News.pickD (by k_mem) N (News.pickD (by k_mem) N (News.pickD (by k_mem) N (News.pickD (by k_mem) N (News.pickD (by k_mem) N (News.pickD (by k_mem) N (News.pickD (by k_mem) N (News.pickD (by k_mem) N (News.pickD (by k_mem) N (News.pickD (by k_mem) N (News.pickD (by k_mem) N (News.pickD (by k_mem) N News.nil)))))))))))))))
  clear N
  have N := NZ
  clear NZ
  obtain ⟨A₀, base, p, loose, mean, mg, mb, B, F0, X, T, hf, hke⟩ := C.ex
  clear F0 m0 m1 C
  have hab0 := P₀.ab0
  have hab1 := P₀.ab1
  have P := P₀
  obtain ⟨hn0, hn1, ho, ha0, ha1, hb0, hb1, hab, hna, hsz, hw0, hw1⟩ := P₀
  have hb : (lawBody w).drop 8 = (lawBody w).drop 8 := rfl
  with_unfolding_all (conv at hb => lhs; whnf)
  rw [← hb]
  clear hb
  (try k_unmd)
  (try k_fold)
  k_steps
  rename_i N9
  simp only [sum_rowI] at N9
  subst hZ
  unfold Hold
  have hb : (lawBody w).drop 9 = (lawBody w).drop 9 := rfl
  with_unfolding_all (conv at hb => lhs; whnf)
  (try k_unmd)
  rw [hb]
  exact st9 P hd hu dN dS dW d1 d2 (Cal.mk' (by k_asm) (by k_asm) (by k_asm) (by k_asm) (News.pickD (by k_mem) N9 (News.pickD (by k_mem) N9 (News.pickD (by k_mem) N9 (News.pickD (by k_mem) N9 (News.pickD (by k_mem) N9 (News.pickD (by k_mem) N9 (News.pickD (by k_mem) N9 News.nil))))))) hf hke) (by rfl) (by rfl) ret
end
section
theorem kw_30 : True := by
  k_with_none
  k_with "execs cons" => (focus (dsimp only at *))
  k_with "call ref" => (focus (k_here; (with_reducible show wpAny _ _ (call (Value.ref 245) _) _ _ _); k_dflt ((refine' common_spec ?_ ?_ ?_ ?_ ?_; walk_at "pp"; (· kat_tups); walk_at "pp"; (· nest_cls); walk_at "pp"; (· kaf_pre); walk_at "pp"; (· kaf_pre); walk_at "pp")); intro _ _ _ _ hv' _ _; subst hv'; (try dsimp only)))
  k_with "FinE" => (focus ((repeat (rename LCg.NsObj _ _ => hz'; clear hz')); (repeat (rename LCg.Off3 _ _ _ _ => hz'; clear hz')); (repeat (rename _ ∧ _ => hz'; clear hz')); (repeat (rename @Ne Nat _ _ => hz'; clear hz')); (unfold LCg.FinE); intro _ _ _ _ N' o1'; clear o1'; (try dsimp only [List.nil_append, List.cons_append] at N'); revert N'; intro _; (try dsimp only)))
  k_with "FinA" => (focus ((repeat (rename LCg.NsObj _ _ => hz'; clear hz')); (repeat (rename LCg.Off3 _ _ _ _ => hz'; clear hz')); (repeat (rename _ ∧ _ => hz'; clear hz')); (repeat (rename @Ne Nat _ _ => hz'; clear hz')); (unfold LCg.FinA); intro _ _ _ _ N' o1'; clear o1'; (try dsimp only [List.nil_append, List.cons_append] at N'); revert N'; intro _; (try dsimp only)))
  k_with "CompEnd" => (focus (first | (refine LCg.CompEnd.intro (by k_asm) (by k_asm) _ (fun _ hp => hp) (by assumption) (by lcg_src) ?_) | lcg_end))
  k_with "call ref" => (focus (k_here; (with_reducible show wpAny _ _ (call (Value.ref 250) _) _ _ _); k_dflt (refine' lemma_spec ?_ ?_ ?_ ?_ ?_ ?_ ?_; walk_at "pp"; (· kat_tups); walk_at "pp"; rotate_left; walk_at "pp"; (· tb_start); walk_at "pp"; (· tb_start); walk_at "pp"; (· tb_start); walk_at "pp"; (· tb_start); walk_at "pp"; rotate_left; walk_at "pp"; (· kd_adr); walk_at "pp"); intro _ _ _ _ hv' _ _; subst hv'; (try dsimp only)))
  k_with "call ref" => (focus (k_here; (with_reducible show wpAny _ _ (call (Value.ref 262) _) _ _ _); k_dflt (refine' is_prime_spec ?_ ?_ ?_ ?_ ?_; walk_at "pp"; (· kat_tups); walk_at "pp"; rotate_left; walk_at "pp"; (· tb_start); walk_at "pp"; (· tb_start); walk_at "pp"; rotate_left; walk_at "pp"; (· kd_adr); walk_at "pp"); intro _ _ _ _; (try dsimp only)))
  k_with "call ref" => (focus (k_here; (with_reducible show wpAny _ _ (call (Value.ref 267) _) _ _ _); refine Hold.intro ?_))
  k_with "binaryOp Mult int int" => (focus (k_here; simp only [nth0, nth1, nth2, nth3]))
  k_with "execs cons" => (focus (k_here; (with_reducible show wpAny _ _ (execs [_, _, _, _, _] _) _ _ _); refine Hold.intro ?_))
  trivial
set_option maxHeartbeats 4000000 in
theorem st7 {prog : Program} {w : World} {dp un : Nat} {gd : Option (List Code)} {outer : List Env} {h₀ : Heap} {L fa : Addr} {cd : Value} {m : Str → Option Value} {s : Shared} {QF : Flow → Shared → Prop} {E : Value → Shared → Prop}
    {c D lS T1 T2 T3 T4 r1 r2 r3 r4 S G : Addr} {n a b ab na size wd : Int} {tn tsz tw tv ta tb tab tna t1 t2 t3 t4 : Tok} {k1 k2 k3 k4 kS c1 c2 c3 c4 : Nat} {w1 w2 w3 w4 : List Value} {oN oS oW oc : Obj} {vs : Array Value}
    (P₀ : LP n a b ab na size wd) (hd : dp + 25 < recursionLimit) (hu : un + 500 < cLine)
    (dN : oN.data = .cell (some (.int n tn))) (dS : oS.data = .cell (some (.int size tsz))) (dW : oW.data = .cell (some (.int wd tw))) (d1 : oc.data = .fields vs) (d2 : vs[1]? = some (.str tq tv))
    (C : Cal w (lawEnv w L fa cd) outer h₀ L m [(G, LCg.lst [.bool (goodB n a), .bool (goodB n b), .bool (goodB n ab), .bool (goodB n na)]), (S, LCg.lst [.int (lemS a n) t1, .int (lemS b n) t2, .int (lemS ab n) t3, .int (lemS na n) t4]), (D, LCg.lst [.ref T1, .ref T2, .ref T3, .ref T4]), (T1, tupO n a r1 t1 k1), (r1, W.listOf w1.toArray c1), (T2, tupO n b r2 t2 k2), (r2, W.listOf w2.toArray c2), (T3, tupO n ab r3 t3 k3), (r3, W.listOf w3.toArray c3), (T4, tupO n na r4 t4 k4), (r4, W.listOf w4.toArray c4), (lS, W.listOf #[.int a ta, .int b tb, .int ab tab, .int na tna] kS), (L + 1 + 1 + 1, oS), (L + 1 + 1, oW), (L + 1, oN), (170, tabObj (tabOf (some c))), (c, oc)] s.heap)
    (m0 : m (Str.ofString "told") = some (.ref D)) (m1 : m (Str.ofString "some") = some (.ref lS)) (m2 : m (Str.ofString "signs") = some (.ref S)) (m3 : m (Str.ofString "good") = some (.ref G)) (hI1 : IntsAre w1 (rowI (powB n a))) (hI2 : IntsAre w2 (rowI (powB n b))) (hI3 : IntsAre w3 (rowI (powB n ab))) (hI4 : IntsAre w4 (rowI (powB n na)))
    (ret : ∀ h' tk' m', Fr h₀ L h' m' → News h₀ L h' [(170, tabObj (tabOf (some c)))] → QF (.ret (.bool true)) { s with heap := h', toks := tk' }) :
    wpAny (model prog w) (AR dp un gd (lawEnv w L fa cd) outer) (execs ((lawBody w).drop 7) (lawEnv w L fa cd)) QF E s := by
  have F := ksw_fr (stored := []) (ps := [(Str.ofString "told", .ref D), (Str.ofString "some", .ref lS), (Str.ofString "signs", .ref S), (Str.ofString "good", .ref G)]) (m₀ := m) (by intro p hp; simp only [List.mem_cons, List.not_mem_nil, or_false] at hp; rcases hp with rfl | rfl | rfl | rfl <;> assumption) (fun _ _ _ => rfl) C.fr
  have N := C.led
  obtain ⟨Z, hZ⟩ : ∃ Z : List (Addr × Obj), Z = [(D, LCg.lst [.ref T1, .ref T2, .ref T3, .ref T4]), (T1, tupO n a r1 t1 k1), (r1, W.listOf w1.toArray c1), (T2, tupO n b r2 t2 k2), (r2, W.listOf w2.toArray c2), (T3, tupO n ab r3 t3 k3), (r3, W.listOf w3.toArray c3), (T4, tupO n na r4 t4 k4), (r4, W.listOf w4.toArray c4), (L + 1 + 1 + 1, oS), (L + 1 + 1, oW), (170, tabObj (tabOf (some c))), (c, oc)] := ⟨_, rfl⟩
  have NZ : News h₀ L s.heap ((G, LCg.lst [.bool (goodB n a), .bool (goodB n b), .bool (goodB n ab), .bool (goodB n na)]) :: (S, LCg.lst [.int (lemS a n) t1, .int (lemS b n) t2, .int (lemS ab n) t3, .int (lemS na n) t4]) :: (lS, W.listOf #[.int a ta, .int b tb, .int ab tab, .int na tna] kS) :: (L + 1, oN) :: Z) := by
    rw [hZ]
    exact (News.pickD (by k_mem) N (News.pickD (by k_mem) N (News.pickD (by k_mem) N (News.pickD (by k_mem) N (News.pickD (by k_mem) N (News.pickD (by k_mem) N (News.pickD (by k_mem) N (News.pickD (by k_mem) N (News.pickD (by k_mem) N (News.pickD (by k_mem) N (News.pickD (by k_mem) N (News.pickD (by k_mem) N (News.pickD (by k_mem) N (News.pickD (by k_mem) N (News.pickD (by k_mem) N (News.pickD (by k_mem) N (News.pickD (by k_mem) N News.nil)))))))))))))))))
  clear N
  have N := NZ
  clear NZ
  obtain ⟨A₀, base, p, loose, mean, mg, mb, B, F0, X, T, hf, hke⟩ := C.ex
  clear F0 m0 m1 m2 m3 C
  have hab0 := P₀.ab0
  have hab1 := P₀.ab1
  have P := P₀
  obtain ⟨hn0, hn1, ho, ha0, ha1, hb0, hb1, hab, hna, hsz, hw0, hw1⟩ := P₀
  have s1 := lemS_lo a n
  have s2 := lemS_hi a n
  have s3 := lemS_lo b n
  have s4 := lemS_hi b n
  have e1 : lemS ab n = lemS a n * lemS b n := by rw [hab]; exact lemS_mul (by omega) ha1 (by omega) hb1 hn0 hn1 ho
  have hb : (lawBody w).drop 7 = (lawBody w).drop 7 := rfl
  with_unfolding_all (conv at hb => lhs; whnf)
  rw [← hb]
  clear hb
  (try k_unmd)
  (try k_fold)
  k_steps
  · rename_i a9
    exact absurd e1 a9
  · rename_i N9 t9 u9 v9 a9
    subst hZ
    unfold Hold
    have hb : (lawBody w).drop 8 = (lawBody w).drop 8 := rfl
    with_unfolding_all (conv at hb => lhs; whnf)
    (try k_unmd)
    rw [hb]
    exact st8 P hd hu dN dS dW d1 d2 (Cal.mk' (by k_asm) (by k_asm) (by k_asm) (by k_asm) (News.pickD (by k_mem) N9 (News.pickD (by k_mem) N9 (News.pickD (by k_mem) N9 (News.pickD (by k_mem) N9 (News.pickD (by k_mem) N9 (News.pickD (by k_mem) N9 (News.pickD (by k_mem) N9 (News.pickD (by k_mem) N9 (News.pickD (by k_mem) N9 (News.pickD (by k_mem) N9 (News.pickD (by k_mem) N9 (News.pickD (by k_mem) N9 (News.pickD (by k_mem) N9 (News.pickD (by k_mem) N9 (News.pickD (by k_mem) N9 News.nil))))))))))))))) hf hke) (by rfl) (by rfl) hI1 hI2 hI3 hI4 ret
end
section
theorem kw_31 : True := by
  k_with_none
  k_with "execs cons" => (focus (dsimp only at *))
  k_with "call ref" => (focus (k_here; (with_reducible show wpAny _ _ (call (Value.ref 245) _) _ _ _); k_dflt ((refine' common_spec ?_ ?_ ?_ ?_ ?_; walk_at "pp"; (· kat_tups); walk_at "pp"; (· nest_cls); walk_at "pp"; (· kaf_pre); walk_at "pp"; (· kaf_pre); walk_at "pp")); intro _ _ _ _ hv' _ _; subst hv'; (try dsimp only)))
  k_with "FinE" => (focus ((repeat (rename LCg.NsObj _ _ => hz'; clear hz')); (repeat (rename LCg.Off3 _ _ _ _ => hz'; clear hz')); (repeat (rename _ ∧ _ => hz'; clear hz')); (repeat (rename @Ne Nat _ _ => hz'; clear hz')); (unfold LCg.FinE); intro _ _ _ _ N' o1'; clear o1'; (try dsimp only [List.nil_append, List.cons_append] at N'); revert N'; intro _; (try dsimp only)))
  k_with "FinA" => (focus ((repeat (rename LCg.NsObj _ _ => hz'; clear hz')); (repeat (rename LCg.Off3 _ _ _ _ => hz'; clear hz')); (repeat (rename _ ∧ _ => hz'; clear hz')); (repeat (rename @Ne Nat _ _ => hz'; clear hz')); (unfold LCg.FinA); intro _ _ _ _ N' o1'; clear o1'; (try dsimp only [List.nil_append, List.cons_append] at N'); revert N'; intro _; (try dsimp only)))
  k_with "CompEnd" => (focus (first | (refine LCg.CompEnd.intro (by k_asm) (by k_asm) _ (fun _ hp => hp) (by assumption) (by lcg_src) ?_) | lcg_end))
  k_with "call ref" => (focus (k_here; (with_reducible show wpAny _ _ (call (Value.ref 250) _) _ _ _); k_dflt (refine' lemma_spec ?_ ?_ ?_ ?_ ?_ ?_ ?_; walk_at "pp"; (· kat_tups); walk_at "pp"; rotate_left; walk_at "pp"; (· tb_start); walk_at "pp"; (· tb_start); walk_at "pp"; (· tb_start); walk_at "pp"; (· tb_start); walk_at "pp"; rotate_left; walk_at "pp"; (· kd_adr); walk_at "pp"); intro _ _ _ _ hv' _ _; subst hv'; (try dsimp only)))
  k_with "call ref" => (focus (k_here; (with_reducible show wpAny _ _ (call (Value.ref 262) _) _ _ _); k_dflt (refine' is_prime_spec ?_ ?_ ?_ ?_ ?_; walk_at "pp"; (· kat_tups); walk_at "pp"; rotate_left; walk_at "pp"; (· tb_start); walk_at "pp"; (· tb_start); walk_at "pp"; rotate_left; walk_at "pp"; (· kd_adr); walk_at "pp"); intro _ _ _ _; (try dsimp only)))
  k_with "call ref" => (focus (k_here; (with_reducible show wpAny _ _ (call (Value.ref 267) _) _ _ _); refine Hold.intro ?_))
  k_with "binaryOp Mult int int" => (focus (k_here; simp only [nth0, nth1, nth2, nth3]))
  k_with "execs cons" => (focus (k_here; (with_reducible show wpAny _ _ (execs [_, _, _, _, _, _] _) _ _ _); refine Hold.intro ?_))
  trivial
set_option maxHeartbeats 4000000 in
theorem st6 {prog : Program} {w : World} {dp un : Nat} {gd : Option (List Code)} {outer : List Env} {h₀ : Heap} {L fa : Addr} {cd : Value} {m : Str → Option Value} {s : Shared} {QF : Flow → Shared → Prop} {E : Value → Shared → Prop}
    {c D lS T1 T2 T3 T4 r1 r2 r3 r4 : Addr} {n a b ab na size wd : Int} {tn tsz tw tv ta tb tab tna t1 t2 t3 t4 : Tok} {k1 k2 k3 k4 kS c1 c2 c3 c4 : Nat} {w1 w2 w3 w4 : List Value} {oN oS oW oc : Obj} {vs : Array Value}
    (P₀ : LP n a b ab na size wd) (hd : dp + 25 < recursionLimit) (hu : un + 500 < cLine)
    (dN : oN.data = .cell (some (.int n tn))) (dS : oS.data = .cell (some (.int size tsz))) (dW : oW.data = .cell (some (.int wd tw))) (d1 : oc.data = .fields vs) (d2 : vs[1]? = some (.str tq tv))
    (C : Cal w (lawEnv w L fa cd) outer h₀ L m [(D, LCg.lst [.ref T1, .ref T2, .ref T3, .ref T4]), (T1, tupO n a r1 t1 k1), (r1, W.listOf w1.toArray c1), (T2, tupO n b r2 t2 k2), (r2, W.listOf w2.toArray c2), (T3, tupO n ab r3 t3 k3), (r3, W.listOf w3.toArray c3), (T4, tupO n na r4 t4 k4), (r4, W.listOf w4.toArray c4), (lS, W.listOf #[.int a ta, .int b tb, .int ab tab, .int na tna] kS), (L + 1 + 1 + 1, oS), (L + 1 + 1, oW), (L + 1, oN), (170, tabObj (tabOf (some c))), (c, oc)] s.heap)
    (m0 : m (Str.ofString "told") = some (.ref D)) (m1 : m (Str.ofString "some") = some (.ref lS)) (hI1 : IntsAre w1 (rowI (powB n a))) (hI2 : IntsAre w2 (rowI (powB n b))) (hI3 : IntsAre w3 (rowI (powB n ab))) (hI4 : IntsAre w4 (rowI (powB n na)))
    (ret : ∀ h' tk' m', Fr h₀ L h' m' → News h₀ L h' [(170, tabObj (tabOf (some c)))] → QF (.ret (.bool true)) { s with heap := h', toks := tk' }) :
    wpAny (model prog w) (AR dp un gd (lawEnv w L fa cd) outer) (execs ((lawBody w).drop 6) (lawEnv w L fa cd)) QF E s := by
  have F := ksw_fr (stored := []) (ps := [(Str.ofString "told", .ref D), (Str.ofString "some", .ref lS)]) (m₀ := m) (by intro p hp; simp only [List.mem_cons, List.not_mem_nil, or_false] at hp; rcases hp with rfl | rfl <;> assumption) (fun _ _ _ => rfl) C.fr
  have N := C.led
  obtain ⟨Z, hZ⟩ : ∃ Z : List (Addr × Obj), Z = [(r1, W.listOf w1.toArray c1), (r2, W.listOf w2.toArray c2), (r3, W.listOf w3.toArray c3), (r4, W.listOf w4.toArray c4), (lS, W.listOf #[.int a ta, .int b tb, .int ab tab, .int na tna] kS), (L + 1 + 1 + 1, oS), (L + 1 + 1, oW), (L + 1, oN), (170, tabObj (tabOf (some c))), (c, oc)] := ⟨_, rfl⟩
  have NZ : News h₀ L s.heap ((D, LCg.lst [.ref T1, .ref T2, .ref T3, .ref T4]) :: (T1, tupO n a r1 t1 k1) :: (T2, tupO n b r2 t2 k2) :: (T3, tupO n ab r3 t3 k3) :: (T4, tupO n na r4 t4 k4) :: Z) := by
    rw [hZ]
    exact (News.pickD (by k_mem) N (News.pickD (by k_mem) N (News.pickD (by k_mem) N (News.pickD (by k_mem) N (News.pickD (by k_mem) N (News.pickD (by k_mem) N (News.pickD (by k_mem) N (News.pickD (by k_mem) N (News.pickD (by k_mem) N (News.pickD (by k_mem) N (News.pickD (by k_mem) N (News.pickD (by k_mem) N (News.pickD (by k_mem) N (News.pickD (by k_mem) N (News.pickD (by k_mem) N News.nil)))))))))))))))
  clear N
  have N := NZ
  clear NZ
  obtain ⟨A₀, base, p, loose, mean, mg, mb, B, F0, X, T, hf, hke⟩ := C.ex
  clear F0 m0 m1 C
  have hab0 := P₀.ab0
  have hab1 := P₀.ab1
  have P := P₀
  obtain ⟨hn0, hn1, ho, ha0, ha1, hb0, hb1, hab, hna, hsz, hw0, hw1⟩ := P₀
  have hb : (lawBody w).drop 6 = (lawBody w).drop 6 := rfl
  with_unfolding_all (conv at hb => lhs; whnf)
  rw [← hb]
  clear hb
  (try k_unmd)
  (try k_fold)
  k_steps
  rename_i N9
  subst hZ
  unfold Hold
  have hb : (lawBody w).drop 7 = (lawBody w).drop 7 := rfl
  with_unfolding_all (conv at hb => lhs; whnf)
  (try k_unmd)
  rw [hb]
  exact st7 P hd hu dN dS dW d1 d2 (Cal.mk' (by k_asm) (by k_asm) (by k_asm) (by k_asm) (News.pickD (by k_mem) N9 (News.pickD (by k_mem) N9 (News.pickD (by k_mem) N9 (News.pickD (by k_mem) N9 (News.pickD (by k_mem) N9 (News.pickD (by k_mem) N9 (News.pickD (by k_mem) N9 (News.pickD (by k_mem) N9 (News.pickD (by k_mem) N9 (News.pickD (by k_mem) N9 (News.pickD (by k_mem) N9 (News.pickD (by k_mem) N9 (News.pickD (by k_mem) N9 (News.pickD (by k_mem) N9 (News.pickD (by k_mem) N9 (News.pickD (by k_mem) N9 (News.pickD (by k_mem) N9 News.nil))))))))))))))))) hf hke) (by rfl) (by rfl) (by rfl) (by rfl) hI1 hI2 hI3 hI4 ret
end
end
section

local macro_rules | `(tactic| k_ne) => `(tactic| (refine neN ?_; (try dsimp only); first | (with_reducible assumption) | (rename LCg.Off3 _ _ _ _ => hz'; first | exact (offA hz' (by k_mem)).1 | exact (offA hz' (by k_mem)).2.1 | exact (offA hz' (by k_mem)).2.2 | exact Ne.symm (offA hz' (by k_mem)).1 | exact Ne.symm (offA hz' (by k_mem)).2.1 | exact Ne.symm (offA hz' (by k_mem)).2.2) | tb_start))
theorem kw_32 : True := by
  k_with_none
  k_with "execs cons" => (focus (dsimp only at *))
  k_with "call ref" => (focus (k_here; (with_reducible show wpAny _ _ (call (Value.ref 245) _) _ _ _); k_dflt ((refine' common_spec ?_ ?_ ?_ ?_ ?_; walk_at "pp"; (· kat_tups); walk_at "pp"; (· nest_cls); walk_at "pp"; (· kaf_pre); walk_at "pp"; (· kaf_pre); walk_at "pp")); intro _ _ _ _ hv' _ _; subst hv'; (try dsimp only)))
  k_with "FinE" => (focus ((repeat (rename LCg.NsObj _ _ => hz'; clear hz')); (repeat (rename LCg.Off3 _ _ _ _ => hz'; clear hz')); (repeat (rename _ ∧ _ => hz'; clear hz')); (repeat (rename @Ne Nat _ _ => hz'; clear hz')); (unfold LCg.FinE); intro _ _ _ _ N' o1'; clear o1'; (try dsimp only [List.nil_append, List.cons_append] at N'); revert N'; intro _; (try dsimp only)))
  k_with "FinA" => (focus ((repeat (rename LCg.NsObj _ _ => hz'; clear hz')); (repeat (rename LCg.Off3 _ _ _ _ => hz'; clear hz')); (repeat (rename _ ∧ _ => hz'; clear hz')); (repeat (rename @Ne Nat _ _ => hz'; clear hz')); (unfold LCg.FinA); intro _ _ _ _ N' o1'; clear o1'; (try dsimp only [List.nil_append, List.cons_append] at N'); revert N'; intro _; (try dsimp only)))
  k_with "CompEnd" => (focus (first | (refine LCg.CompEnd.intro (by k_asm) (by k_asm) _ (fun _ hp => hp) (by assumption) (by lcg_src) ?_) | lcg_end))
  k_with "call ref" => (focus (k_here; (with_reducible show wpAny _ _ (call (Value.ref 257) _) _ _ _); k_dflt (refine' told_next ?_ ?_ ?_ ?_ ?_ ?_ ?_ ?_ ?_ ?_ ?_ ?_ ?_ ?_ ?_ ?_ ?_; walk_at "pp"; (· kat_tups); walk_at "pp"; (· k_mem); walk_at "pp"; rotate_left; walk_at "pp"; (· assumption); walk_at "pp"; (· assumption); walk_at "pp"; rotate_left; walk_at "pp"; rotate_left; walk_at "pp"; rotate_left; walk_at "pp"; rotate_left; walk_at "pp"; rotate_left; walk_at "pp"; rotate_left; walk_at "pp"; rotate_left; walk_at "pp"; rotate_left; walk_at "pp"; rotate_left; walk_at "pp"; rotate_left; walk_at "pp"; rotate_left; walk_at "pp"; rotate_left; walk_at "pp"; (· k_mem); walk_at "pp"; rotate_left; walk_at "pp"; (· tb_start); walk_at "pp"; (· tb_start); walk_at "pp"; (· exact fun x h0 h1 => jac_lem h0 h1 (by first | assumption | omega) (by first | assumption | omega) (by first | assumption | omega)); walk_at "pp"; (· tb_start); walk_at "pp"; (· tb_start); walk_at "pp"; (· assumption); walk_at "pp"; (· assumption); walk_at "pp"; (· assumption); walk_at "pp"; (· assumption); walk_at "pp"; (· kd_adr); walk_at "pp"; rotate_left; walk_at "pp"; (· kd_adr); walk_at "pp"); intro _ _ _ _ _ _ _ _ _ _ _ _ _; (try dsimp only)))
  k_with "call ref" => (focus (k_here; (with_reducible show wpAny _ _ (call (Value.ref 257) _) _ _ _); k_dflt (refine' told_first ?_ ?_ ?_ ?_ ?_ ?_ ?_ ?_ ?_ ?_ ?_ ?_ ?_ ?_; walk_at "pp"; (· kat_tups); walk_at "pp"; (· k_updF); walk_at "pp"; rotate_left; walk_at "pp"; (· tb_start); walk_at "pp"; (· tb_start); walk_at "pp"; (· exact fun x h0 h1 => jac_lem h0 h1 (by first | assumption | omega) (by first | assumption | omega) (by first | assumption | omega)); walk_at "pp"; (· tb_start); walk_at "pp"; (· tb_start); walk_at "pp"; (· assumption); walk_at "pp"; (· assumption); walk_at "pp"; (· assumption); walk_at "pp"; (· assumption); walk_at "pp"; (· kd_adr); walk_at "pp"; rotate_left; walk_at "pp"; (· kd_adr); walk_at "pp"); intro _ _ _ _ _ _ _ _ _ _ _ _ _ _ _ _ N' oT' oR' oC'; (try dsimp only at N'); (try dsimp only at oT' oR' oC'); revert N' oT' oR' oC'; intro _ _ _ _; (try dsimp only)))
  k_with "execs cons" => (focus (k_here; (with_reducible show wpAny _ _ (execs [_, _, _, _, _, _, _] _) _ _ _); refine Hold.intro ?_))
  trivial
set_option maxHeartbeats 4000000 in
theorem st5 {prog : Program} {w : World} {dp un : Nat} {gd : Option (List Code)} {outer : List Env} {h₀ : Heap} {L fa : Addr} {cd : Value} {m : Str → Option Value} {s : Shared} {QF : Flow → Shared → Prop} {E : Value → Shared → Prop}
    {lS : Addr} {n a b ab na size wd : Int} {tn tsz tw ta tb tab tna : Tok} {kS : Nat} {oN oS oW : Obj}
    (P₀ : LP n a b ab na size wd) (hd : dp + 25 < recursionLimit) (hu : un + 500 < cLine)
    (dN : oN.data = .cell (some (.int n tn))) (dS : oS.data = .cell (some (.int size tsz))) (dW : oW.data = .cell (some (.int wd tw)))
    (C : Cal w (lawEnv w L fa cd) outer h₀ L m [(lS, W.listOf #[.int a ta, .int b tb, .int ab tab, .int na tna] kS), (L + 1 + 1 + 1, oS), (L + 1 + 1, oW), (L + 1, oN), (170, tabObj #[])] s.heap)
    (m0 : m (Str.ofString "some") = some (.ref lS))
    (hL : (170 : Nat) < L) (hlS : (170 : Nat) < lS) (ret : ∀ c h' tk' m', Fr h₀ L h' m' → News h₀ L h' [(170, tabObj (tabOf (some c)))] → QF (.ret (.bool true)) { s with heap := h', toks := tk' }) :
    wpAny (model prog w) (AR dp un gd (lawEnv w L fa cd) outer) (execs ((lawBody w).drop 5) (lawEnv w L fa cd)) QF E s := by
  have F := ksw_fr (stored := []) (ps := [(Str.ofString "some", .ref lS)]) (m₀ := m) (by intro p hp; simp only [List.mem_cons, List.not_mem_nil, or_false] at hp; rcases hp with rfl <;> assumption) (fun _ _ _ => rfl) C.fr
  have N := C.led
  obtain ⟨A₀, base, p, loose, mean, mg, mb, B, F0, X, T, hf, hke⟩ := C.ex
  clear F0 m0 C
  have hab0 := P₀.ab0
  have hab1 := P₀.ab1
  have P := P₀
  obtain ⟨hn0, hn1, ho, ha0, ha1, hb0, hb1, hab, hna, hsz, hw0, hw1⟩ := P₀
  have hb : (lawBody w).drop 5 = (lawBody w).drop 5 := rfl
  with_unfolding_all (conv at hb => lhs; whnf)
  rw [← hb]
  clear hb
  (try k_unmd)
  (try k_fold)
  k_steps
  rename_i N9
  unfold Hold
  have hb : (lawBody w).drop 6 = (lawBody w).drop 6 := rfl
  with_unfolding_all (conv at hb => lhs; whnf)
  (try k_unmd)
  rw [hb]
  refine' st6 P hd hu dN dS dW ?d1 ?d2 ?C ?m0 ?m1 ?i1 ?i2 ?i3 ?i4 (ret _)
  case C => exact (Cal.mk' (by k_asm) (by k_asm) (by k_asm) (by k_asm) (News.pickD (by k_mem) N9 (News.pickD (by k_mem) N9 (News.pickD (by k_mem) N9 (News.pickD (by k_mem) N9 (News.pickD (by k_mem) N9 (News.pickD (by k_mem) N9 (News.pickD (by k_mem) N9 (News.pickD (by k_mem) N9 (News.pickD (by k_mem) N9 (News.pickD (by k_mem) N9 (News.pickD (by k_mem) N9 (News.pickD (by k_mem) N9 (News.pickD (by k_mem) N9 (News.pickD (by k_mem) N9 (News.pickD (by k_mem) N9 News.nil))))))))))))))) hf hke)
  case m0 => exact rfl
  case m1 => exact rfl
  case d1 => assumption
  case d2 => assumption
  case i1 => assumption
  case i2 => assumption
  case i3 => assumption
  case i4 => assumption
end
end
section
open PySem PySem.W PyProof.Rows PySem.Calls
set_option maxRecDepth 100000
theorem top_LawH : True := by
  w_top off
  trivial
theorem st5w {prog : Program} {w : World} {dp un : Nat} {gd : Option (List Code)} {outer : List Env} {h₀ : Heap} {L fa : Addr} {cd : Value} {m : Str → Option Value} {s : Shared} {QF : Flow → Shared → Prop} {E : Value → Shared → Prop}
    {lS : Addr} {n a b ab na size wd : Int} {tn tsz tw ta tb tab tna : Tok} {kS : Nat} {oN oS oW : Obj}
    {nm : Str} {sc : Scope} {bd : List Stmt} (e1 : (lawFd w).name = nm) (e2 : (lawFd w).scope = sc) (e3 : (lawBody w).drop 5 = bd)
    (P₀ : LP n a b ab na size wd) (hd : dp + 25 < recursionLimit) (hu : un + 500 < cLine)
    (dN : oN.data = .cell (some (.int n tn))) (dS : oS.data = .cell (some (.int size tsz))) (dW : oW.data = .cell (some (.int wd tw)))
    (C : Cal w (envOfC nm sc L fa cd) outer h₀ L m [(lS, W.listOf #[.int a ta, .int b tb, .int ab tab, .int na tna] kS), (L + 1 + 1 + 1, oS), (L + 1 + 1, oW), (L + 1, oN), (170, tabObj #[])] s.heap)
    (m0 : m (Str.ofString "some") = some (.ref lS))
    (hL : (170 : Nat) < L) (hlS : (170 : Nat) < lS) (ret : ∀ c h' tk' m', Fr h₀ L h' m' → News h₀ L h' [(170, tabObj (tabOf (some c)))] → QF (.ret (.bool true)) { s with heap := h', toks := tk' }) :
    wpAny (model prog w) (AR dp un gd (envOfC nm sc L fa cd) outer) (execs bd (envOfC nm sc L fa cd)) QF E s := by
  subst e1 e2 e3
  exact st5 P₀ hd hu dN dS dW C m0 hL hlS ret

theorem kw_33 : True := by
  k_with_none
  k_with "execs cons" => (focus (dsimp only at *))
  k_with "call ref" => (focus (k_here; (with_reducible show wpAny _ _ (call (Value.ref 245) _) _ _ _); k_dflt ((refine' common_spec ?_ ?_ ?_ ?_ ?_; walk_at "pp"; (· kat_tups); walk_at "pp"; (· nest_cls); walk_at "pp"; (· kaf_pre); walk_at "pp"; (· kaf_pre); walk_at "pp")); intro _ _ _ _ hv' _ _; subst hv'; (try dsimp only)))
  k_with "call ref" => (focus (k_here; (with_reducible show wpAny _ _ (call (Value.ref 238) _) _ _ _); k_dflt (refine' nut_spec ?_ ?_ ?_ ?_ ?_ ?_ ?_ ?_ ?_ ?_ ?_; walk_at "pp"; (· kat_tups); walk_at "pp"; rotate_left; walk_at "pp"; (· k_updF); walk_at "pp"; (· is_list); walk_at "pp"; (· exact Nat.ne_of_lt (by omega)); walk_at "pp"; (· assumption); walk_at "pp"; (· (simp only [List.length_map, List.length_take]; omega)); walk_at "pp"; (· decide); walk_at "pp"; (· decide); walk_at "pp"; (· tb_start); walk_at "pp"; rotate_left; walk_at "pp"; (· (first | nest_cls | decide)); walk_at "pp"); intro _ _ _ _ _ _ _ _ _ K' N'; clear K'; (try dsimp only at N'); revert N'; intro _; (try dsimp only)))
  k_with "execs cons" => (focus (k_here; (with_reducible show wpAny _ _ (execs [_, _, _, _, _, _, _, _] _) _ _ _); refine Hold.intro ?_))
  trivial
set_option maxHeartbeats 2000000 in
theorem law_walk : PySem.Challenge.rw_sa0339_01.Holds := hd (by
  k_go0
  (all_goals try k_fold)
  k_steps
  rename_i N9
  unfold Hold
  refine' st5w ?e1 ?e2 ?e3 ?P ?hd ?hu ?dN ?dS ?dW ?C ?m0 ?hL ?hlS ?ret
  case e1 => with_unfolding_all exact rfl
  case e2 => with_unfolding_all exact rfl
  case e3 => with_unfolding_all exact rfl
  case C => exact Cal.mk' (by k_asm) (by k_asm) (by k_asm) (by k_asm) (News.pickD (by k_mem) N9 (News.pickD (by k_mem) N9 (News.pickD (by k_mem) N9 (News.pickD (by k_mem) N9 (News.pickD (by k_mem) N9 News.nil))))) rfl rfl
  case m0 => exact rfl
  case dN => assumption
  case dS => assumption
  case dW => assumption
  case hd => decide
  case hu => decide
  case hL => assumption
  case hlS => omega
  case P => exact ⟨by omega, by omega, by omega, by omega, by omega, by omega, by omega, Int.fmod_eq_emod_of_nonneg _ (by omega), by omega, by omega, by omega, by omega⟩
  case ret =>
    intro c h' tk' m' F' N'
    dsimp only
    (try k_unmd)
    (try k_fold)
    k_steps
  done)
end
end Mine
theorem PySem.Challenge.cw_sa0339_01_holds : PySem.Challenge.rw_sa0339_01.Holds := by
  exact Mine.law_walk
